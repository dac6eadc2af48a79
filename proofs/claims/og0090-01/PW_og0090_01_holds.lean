import PyProof.Rows.All
import Wide.All
import OpenK.AllK
import Wide.FinOn
import PySem.Challenge.RW_og0090_01
open PySem PySem.W PyProof.Rows
set_option Elab.async false
set_option compiler.extract_closed false
namespace Mine
noncomputable def viewQ : Program := view PySem.Challenge.rw_og0090_01.row.prog [1, 2, 3, 4, 6, 7, 8, 10, 11, 12, 13, 14, 16, 17, 19, 20, 21, 23, 24, 25, 26, 27, 28, 30, 31, 32, 33, 34, 35, 36, 37, 38, 39, 40, 41, 42, 43, 44, 45, 46, 47, 48, 49, 50, 52, 53, 54, 55, 56, 57, 58]
section
local macro_rules | `(tactic| o_law) => `(tactic| refine holds_law (by decide +kernel) fun said => ?_)
local macro_rules | `(tactic| o_head $H) => `(tactic| (refine holds_open (q := viewQ) (loose := [Str.ofString "LedgerError", Str.ofString "decimal", Str.ofString "quotient"]) (Xt := fun s => xlAt viewQ [] s && recOk (RowW.records (OpenRow.toRowW PySem.Challenge.rw_og0090_01.row)) s) (XP := XL viewQ []) (Yf := Hook.obs $H) (Ya := Hook.val $H) (YP := Hook.says $H) (N := 5176) ?hl (Hook.of $H) (Hook.keeps $H) (fun s e => xl_of s (Bool.and_eq_true_iff.mp e).1) XL.keeps (by rfl) (by rfl) (by rfl) (fun s e => recFacts_of (Bool.and_eq_true_iff.mp e).2) (by rfl) (by first | assumption | decide +kernel) (by decide +kernel) ⟨rfl, rfl, rfl, rfl, rfl, by decide +kernel⟩ ?hw ?hc; (case hl => (intro w; unfold openEnds fencedOpening topFrom; simp only [PySem.W.Fast.te10274390034422433532, PySem.W.Fast.te1435165496053646825, PySem.W.Fast.te14289696077712309145, PySem.W.Fast.te14082659384304107361, PySem.W.Fast.te4187177175401517315, PySem.W.Fast.te5923862056798008813, PySem.W.Fast.te14364793385576792824, PySem.W.Fast.te8920871248978507458]; kernel_rfl))))
set_option maxRecDepth 100000 in
set_option maxHeartbeats 8000000 in
open_top hd for PySem.Challenge.rw_og0090_01
end
end Mine
open PySem PySem.W PyProof.Rows PySem.Calls
set_option maxRecDepth 100000
namespace Mine
theorem fill_all : PySem.Challenge.rw_og0090_01 = PySem.Challenge.rw_og0090_01 ∧ hd.heap_1 = hd.heap_1 := by
  k_fill
  exact ⟨rfl, rfl⟩
open PySem PySem.W PyProof.Rows PySem.Calls
theorem ncl1 {a b : Nat} (h : @LT.lt Nat _ a b) : a ≠ b := Nat.ne_of_lt h
theorem ndl1 {a b : Nat} (h : @LT.lt Nat _ a b) : b ≠ a := Nat.ne_of_gt h
theorem nc1 {a b : Nat} {Q : Prop} (h : @LT.lt Nat _ a b ∧ Q) : a ≠ b := Nat.ne_of_lt h.1
theorem nd1 {a b : Nat} {Q : Prop} (h : @LT.lt Nat _ a b ∧ Q) : b ≠ a := Nat.ne_of_gt h.1
theorem ncl2 {a b : Nat} {P1 : Prop} (h : P1 ∧ @LT.lt Nat _ a b) : a ≠ b := Nat.ne_of_lt h.2
theorem ndl2 {a b : Nat} {P1 : Prop} (h : P1 ∧ @LT.lt Nat _ a b) : b ≠ a := Nat.ne_of_gt h.2
theorem nc2 {a b : Nat} {P1 Q : Prop} (h : P1 ∧ @LT.lt Nat _ a b ∧ Q) : a ≠ b := Nat.ne_of_lt h.2.1
theorem nd2 {a b : Nat} {P1 Q : Prop} (h : P1 ∧ @LT.lt Nat _ a b ∧ Q) : b ≠ a := Nat.ne_of_gt h.2.1
theorem ncl3 {a b : Nat} {P1 P2 : Prop} (h : P1 ∧ P2 ∧ @LT.lt Nat _ a b) : a ≠ b := Nat.ne_of_lt h.2.2
theorem ndl3 {a b : Nat} {P1 P2 : Prop} (h : P1 ∧ P2 ∧ @LT.lt Nat _ a b) : b ≠ a := Nat.ne_of_gt h.2.2
theorem nc3 {a b : Nat} {P1 P2 Q : Prop} (h : P1 ∧ P2 ∧ @LT.lt Nat _ a b ∧ Q) : a ≠ b := Nat.ne_of_lt h.2.2.1
theorem nd3 {a b : Nat} {P1 P2 Q : Prop} (h : P1 ∧ P2 ∧ @LT.lt Nat _ a b ∧ Q) : b ≠ a := Nat.ne_of_gt h.2.2.1
theorem ncl4 {a b : Nat} {P1 P2 P3 : Prop} (h : P1 ∧ P2 ∧ P3 ∧ @LT.lt Nat _ a b) : a ≠ b := Nat.ne_of_lt h.2.2.2
theorem ndl4 {a b : Nat} {P1 P2 P3 : Prop} (h : P1 ∧ P2 ∧ P3 ∧ @LT.lt Nat _ a b) : b ≠ a := Nat.ne_of_gt h.2.2.2
theorem nc4 {a b : Nat} {P1 P2 P3 Q : Prop} (h : P1 ∧ P2 ∧ P3 ∧ @LT.lt Nat _ a b ∧ Q) : a ≠ b := Nat.ne_of_lt h.2.2.2.1
theorem nd4 {a b : Nat} {P1 P2 P3 Q : Prop} (h : P1 ∧ P2 ∧ P3 ∧ @LT.lt Nat _ a b ∧ Q) : b ≠ a := Nat.ne_of_gt h.2.2.2.1
theorem ncl5 {a b : Nat} {P1 P2 P3 P4 : Prop} (h : P1 ∧ P2 ∧ P3 ∧ P4 ∧ @LT.lt Nat _ a b) : a ≠ b := Nat.ne_of_lt h.2.2.2.2
theorem ndl5 {a b : Nat} {P1 P2 P3 P4 : Prop} (h : P1 ∧ P2 ∧ P3 ∧ P4 ∧ @LT.lt Nat _ a b) : b ≠ a := Nat.ne_of_gt h.2.2.2.2
theorem nc5 {a b : Nat} {P1 P2 P3 P4 Q : Prop} (h : P1 ∧ P2 ∧ P3 ∧ P4 ∧ @LT.lt Nat _ a b ∧ Q) : a ≠ b := Nat.ne_of_lt h.2.2.2.2.1
theorem nd5 {a b : Nat} {P1 P2 P3 P4 Q : Prop} (h : P1 ∧ P2 ∧ P3 ∧ P4 ∧ @LT.lt Nat _ a b ∧ Q) : b ≠ a := Nat.ne_of_gt h.2.2.2.2.1
theorem ncl6 {a b : Nat} {P1 P2 P3 P4 P5 : Prop} (h : P1 ∧ P2 ∧ P3 ∧ P4 ∧ P5 ∧ @LT.lt Nat _ a b) : a ≠ b := Nat.ne_of_lt h.2.2.2.2.2
theorem ndl6 {a b : Nat} {P1 P2 P3 P4 P5 : Prop} (h : P1 ∧ P2 ∧ P3 ∧ P4 ∧ P5 ∧ @LT.lt Nat _ a b) : b ≠ a := Nat.ne_of_gt h.2.2.2.2.2
theorem nc6 {a b : Nat} {P1 P2 P3 P4 P5 Q : Prop} (h : P1 ∧ P2 ∧ P3 ∧ P4 ∧ P5 ∧ @LT.lt Nat _ a b ∧ Q) : a ≠ b := Nat.ne_of_lt h.2.2.2.2.2.1
theorem nd6 {a b : Nat} {P1 P2 P3 P4 P5 Q : Prop} (h : P1 ∧ P2 ∧ P3 ∧ P4 ∧ P5 ∧ @LT.lt Nat _ a b ∧ Q) : b ≠ a := Nat.ne_of_gt h.2.2.2.2.2.1
theorem ncl7 {a b : Nat} {P1 P2 P3 P4 P5 P6 : Prop} (h : P1 ∧ P2 ∧ P3 ∧ P4 ∧ P5 ∧ P6 ∧ @LT.lt Nat _ a b) : a ≠ b := Nat.ne_of_lt h.2.2.2.2.2.2
theorem ndl7 {a b : Nat} {P1 P2 P3 P4 P5 P6 : Prop} (h : P1 ∧ P2 ∧ P3 ∧ P4 ∧ P5 ∧ P6 ∧ @LT.lt Nat _ a b) : b ≠ a := Nat.ne_of_gt h.2.2.2.2.2.2
theorem nc7 {a b : Nat} {P1 P2 P3 P4 P5 P6 Q : Prop} (h : P1 ∧ P2 ∧ P3 ∧ P4 ∧ P5 ∧ P6 ∧ @LT.lt Nat _ a b ∧ Q) : a ≠ b := Nat.ne_of_lt h.2.2.2.2.2.2.1
theorem nd7 {a b : Nat} {P1 P2 P3 P4 P5 P6 Q : Prop} (h : P1 ∧ P2 ∧ P3 ∧ P4 ∧ P5 ∧ P6 ∧ @LT.lt Nat _ a b ∧ Q) : b ≠ a := Nat.ne_of_gt h.2.2.2.2.2.2.1
theorem ncl8 {a b : Nat} {P1 P2 P3 P4 P5 P6 P7 : Prop} (h : P1 ∧ P2 ∧ P3 ∧ P4 ∧ P5 ∧ P6 ∧ P7 ∧ @LT.lt Nat _ a b) : a ≠ b := Nat.ne_of_lt h.2.2.2.2.2.2.2
theorem ndl8 {a b : Nat} {P1 P2 P3 P4 P5 P6 P7 : Prop} (h : P1 ∧ P2 ∧ P3 ∧ P4 ∧ P5 ∧ P6 ∧ P7 ∧ @LT.lt Nat _ a b) : b ≠ a := Nat.ne_of_gt h.2.2.2.2.2.2.2
theorem nc8 {a b : Nat} {P1 P2 P3 P4 P5 P6 P7 Q : Prop} (h : P1 ∧ P2 ∧ P3 ∧ P4 ∧ P5 ∧ P6 ∧ P7 ∧ @LT.lt Nat _ a b ∧ Q) : a ≠ b := Nat.ne_of_lt h.2.2.2.2.2.2.2.1
theorem nd8 {a b : Nat} {P1 P2 P3 P4 P5 P6 P7 Q : Prop} (h : P1 ∧ P2 ∧ P3 ∧ P4 ∧ P5 ∧ P6 ∧ P7 ∧ @LT.lt Nat _ a b ∧ Q) : b ≠ a := Nat.ne_of_gt h.2.2.2.2.2.2.2.1
theorem ncl9 {a b : Nat} {P1 P2 P3 P4 P5 P6 P7 P8 : Prop} (h : P1 ∧ P2 ∧ P3 ∧ P4 ∧ P5 ∧ P6 ∧ P7 ∧ P8 ∧ @LT.lt Nat _ a b) : a ≠ b := Nat.ne_of_lt h.2.2.2.2.2.2.2.2
theorem ndl9 {a b : Nat} {P1 P2 P3 P4 P5 P6 P7 P8 : Prop} (h : P1 ∧ P2 ∧ P3 ∧ P4 ∧ P5 ∧ P6 ∧ P7 ∧ P8 ∧ @LT.lt Nat _ a b) : b ≠ a := Nat.ne_of_gt h.2.2.2.2.2.2.2.2
theorem nc9 {a b : Nat} {P1 P2 P3 P4 P5 P6 P7 P8 Q : Prop} (h : P1 ∧ P2 ∧ P3 ∧ P4 ∧ P5 ∧ P6 ∧ P7 ∧ P8 ∧ @LT.lt Nat _ a b ∧ Q) : a ≠ b := Nat.ne_of_lt h.2.2.2.2.2.2.2.2.1
theorem nd9 {a b : Nat} {P1 P2 P3 P4 P5 P6 P7 P8 Q : Prop} (h : P1 ∧ P2 ∧ P3 ∧ P4 ∧ P5 ∧ P6 ∧ P7 ∧ P8 ∧ @LT.lt Nat _ a b ∧ Q) : b ≠ a := Nat.ne_of_gt h.2.2.2.2.2.2.2.2.1
theorem ncl10 {a b : Nat} {P1 P2 P3 P4 P5 P6 P7 P8 P9 : Prop} (h : P1 ∧ P2 ∧ P3 ∧ P4 ∧ P5 ∧ P6 ∧ P7 ∧ P8 ∧ P9 ∧ @LT.lt Nat _ a b) : a ≠ b := Nat.ne_of_lt h.2.2.2.2.2.2.2.2.2
theorem ndl10 {a b : Nat} {P1 P2 P3 P4 P5 P6 P7 P8 P9 : Prop} (h : P1 ∧ P2 ∧ P3 ∧ P4 ∧ P5 ∧ P6 ∧ P7 ∧ P8 ∧ P9 ∧ @LT.lt Nat _ a b) : b ≠ a := Nat.ne_of_gt h.2.2.2.2.2.2.2.2.2
theorem nc10 {a b : Nat} {P1 P2 P3 P4 P5 P6 P7 P8 P9 Q : Prop} (h : P1 ∧ P2 ∧ P3 ∧ P4 ∧ P5 ∧ P6 ∧ P7 ∧ P8 ∧ P9 ∧ @LT.lt Nat _ a b ∧ Q) : a ≠ b := Nat.ne_of_lt h.2.2.2.2.2.2.2.2.2.1
theorem nd10 {a b : Nat} {P1 P2 P3 P4 P5 P6 P7 P8 P9 Q : Prop} (h : P1 ∧ P2 ∧ P3 ∧ P4 ∧ P5 ∧ P6 ∧ P7 ∧ P8 ∧ P9 ∧ @LT.lt Nat _ a b ∧ Q) : b ≠ a := Nat.ne_of_gt h.2.2.2.2.2.2.2.2.2.1
theorem ncl11 {a b : Nat} {P1 P2 P3 P4 P5 P6 P7 P8 P9 P10 : Prop} (h : P1 ∧ P2 ∧ P3 ∧ P4 ∧ P5 ∧ P6 ∧ P7 ∧ P8 ∧ P9 ∧ P10 ∧ @LT.lt Nat _ a b) : a ≠ b := Nat.ne_of_lt h.2.2.2.2.2.2.2.2.2.2
theorem ndl11 {a b : Nat} {P1 P2 P3 P4 P5 P6 P7 P8 P9 P10 : Prop} (h : P1 ∧ P2 ∧ P3 ∧ P4 ∧ P5 ∧ P6 ∧ P7 ∧ P8 ∧ P9 ∧ P10 ∧ @LT.lt Nat _ a b) : b ≠ a := Nat.ne_of_gt h.2.2.2.2.2.2.2.2.2.2
theorem nc11 {a b : Nat} {P1 P2 P3 P4 P5 P6 P7 P8 P9 P10 Q : Prop} (h : P1 ∧ P2 ∧ P3 ∧ P4 ∧ P5 ∧ P6 ∧ P7 ∧ P8 ∧ P9 ∧ P10 ∧ @LT.lt Nat _ a b ∧ Q) : a ≠ b := Nat.ne_of_lt h.2.2.2.2.2.2.2.2.2.2.1
theorem nd11 {a b : Nat} {P1 P2 P3 P4 P5 P6 P7 P8 P9 P10 Q : Prop} (h : P1 ∧ P2 ∧ P3 ∧ P4 ∧ P5 ∧ P6 ∧ P7 ∧ P8 ∧ P9 ∧ P10 ∧ @LT.lt Nat _ a b ∧ Q) : b ≠ a := Nat.ne_of_gt h.2.2.2.2.2.2.2.2.2.2.1
theorem ncl12 {a b : Nat} {P1 P2 P3 P4 P5 P6 P7 P8 P9 P10 P11 : Prop} (h : P1 ∧ P2 ∧ P3 ∧ P4 ∧ P5 ∧ P6 ∧ P7 ∧ P8 ∧ P9 ∧ P10 ∧ P11 ∧ @LT.lt Nat _ a b) : a ≠ b := Nat.ne_of_lt h.2.2.2.2.2.2.2.2.2.2.2
theorem ndl12 {a b : Nat} {P1 P2 P3 P4 P5 P6 P7 P8 P9 P10 P11 : Prop} (h : P1 ∧ P2 ∧ P3 ∧ P4 ∧ P5 ∧ P6 ∧ P7 ∧ P8 ∧ P9 ∧ P10 ∧ P11 ∧ @LT.lt Nat _ a b) : b ≠ a := Nat.ne_of_gt h.2.2.2.2.2.2.2.2.2.2.2
theorem nc12 {a b : Nat} {P1 P2 P3 P4 P5 P6 P7 P8 P9 P10 P11 Q : Prop} (h : P1 ∧ P2 ∧ P3 ∧ P4 ∧ P5 ∧ P6 ∧ P7 ∧ P8 ∧ P9 ∧ P10 ∧ P11 ∧ @LT.lt Nat _ a b ∧ Q) : a ≠ b := Nat.ne_of_lt h.2.2.2.2.2.2.2.2.2.2.2.1
theorem nd12 {a b : Nat} {P1 P2 P3 P4 P5 P6 P7 P8 P9 P10 P11 Q : Prop} (h : P1 ∧ P2 ∧ P3 ∧ P4 ∧ P5 ∧ P6 ∧ P7 ∧ P8 ∧ P9 ∧ P10 ∧ P11 ∧ @LT.lt Nat _ a b ∧ Q) : b ≠ a := Nat.ne_of_gt h.2.2.2.2.2.2.2.2.2.2.2.1
theorem ncl13 {a b : Nat} {P1 P2 P3 P4 P5 P6 P7 P8 P9 P10 P11 P12 : Prop} (h : P1 ∧ P2 ∧ P3 ∧ P4 ∧ P5 ∧ P6 ∧ P7 ∧ P8 ∧ P9 ∧ P10 ∧ P11 ∧ P12 ∧ @LT.lt Nat _ a b) : a ≠ b := Nat.ne_of_lt h.2.2.2.2.2.2.2.2.2.2.2.2
theorem ndl13 {a b : Nat} {P1 P2 P3 P4 P5 P6 P7 P8 P9 P10 P11 P12 : Prop} (h : P1 ∧ P2 ∧ P3 ∧ P4 ∧ P5 ∧ P6 ∧ P7 ∧ P8 ∧ P9 ∧ P10 ∧ P11 ∧ P12 ∧ @LT.lt Nat _ a b) : b ≠ a := Nat.ne_of_gt h.2.2.2.2.2.2.2.2.2.2.2.2
theorem nc13 {a b : Nat} {P1 P2 P3 P4 P5 P6 P7 P8 P9 P10 P11 P12 Q : Prop} (h : P1 ∧ P2 ∧ P3 ∧ P4 ∧ P5 ∧ P6 ∧ P7 ∧ P8 ∧ P9 ∧ P10 ∧ P11 ∧ P12 ∧ @LT.lt Nat _ a b ∧ Q) : a ≠ b := Nat.ne_of_lt h.2.2.2.2.2.2.2.2.2.2.2.2.1
theorem nd13 {a b : Nat} {P1 P2 P3 P4 P5 P6 P7 P8 P9 P10 P11 P12 Q : Prop} (h : P1 ∧ P2 ∧ P3 ∧ P4 ∧ P5 ∧ P6 ∧ P7 ∧ P8 ∧ P9 ∧ P10 ∧ P11 ∧ P12 ∧ @LT.lt Nat _ a b ∧ Q) : b ≠ a := Nat.ne_of_gt h.2.2.2.2.2.2.2.2.2.2.2.2.1
theorem ncl14 {a b : Nat} {P1 P2 P3 P4 P5 P6 P7 P8 P9 P10 P11 P12 P13 : Prop} (h : P1 ∧ P2 ∧ P3 ∧ P4 ∧ P5 ∧ P6 ∧ P7 ∧ P8 ∧ P9 ∧ P10 ∧ P11 ∧ P12 ∧ P13 ∧ @LT.lt Nat _ a b) : a ≠ b := Nat.ne_of_lt h.2.2.2.2.2.2.2.2.2.2.2.2.2
theorem ndl14 {a b : Nat} {P1 P2 P3 P4 P5 P6 P7 P8 P9 P10 P11 P12 P13 : Prop} (h : P1 ∧ P2 ∧ P3 ∧ P4 ∧ P5 ∧ P6 ∧ P7 ∧ P8 ∧ P9 ∧ P10 ∧ P11 ∧ P12 ∧ P13 ∧ @LT.lt Nat _ a b) : b ≠ a := Nat.ne_of_gt h.2.2.2.2.2.2.2.2.2.2.2.2.2
theorem nc14 {a b : Nat} {P1 P2 P3 P4 P5 P6 P7 P8 P9 P10 P11 P12 P13 Q : Prop} (h : P1 ∧ P2 ∧ P3 ∧ P4 ∧ P5 ∧ P6 ∧ P7 ∧ P8 ∧ P9 ∧ P10 ∧ P11 ∧ P12 ∧ P13 ∧ @LT.lt Nat _ a b ∧ Q) : a ≠ b := Nat.ne_of_lt h.2.2.2.2.2.2.2.2.2.2.2.2.2.1
theorem nd14 {a b : Nat} {P1 P2 P3 P4 P5 P6 P7 P8 P9 P10 P11 P12 P13 Q : Prop} (h : P1 ∧ P2 ∧ P3 ∧ P4 ∧ P5 ∧ P6 ∧ P7 ∧ P8 ∧ P9 ∧ P10 ∧ P11 ∧ P12 ∧ P13 ∧ @LT.lt Nat _ a b ∧ Q) : b ≠ a := Nat.ne_of_gt h.2.2.2.2.2.2.2.2.2.2.2.2.2.1
theorem ncl15 {a b : Nat} {P1 P2 P3 P4 P5 P6 P7 P8 P9 P10 P11 P12 P13 P14 : Prop} (h : P1 ∧ P2 ∧ P3 ∧ P4 ∧ P5 ∧ P6 ∧ P7 ∧ P8 ∧ P9 ∧ P10 ∧ P11 ∧ P12 ∧ P13 ∧ P14 ∧ @LT.lt Nat _ a b) : a ≠ b := Nat.ne_of_lt h.2.2.2.2.2.2.2.2.2.2.2.2.2.2
theorem ndl15 {a b : Nat} {P1 P2 P3 P4 P5 P6 P7 P8 P9 P10 P11 P12 P13 P14 : Prop} (h : P1 ∧ P2 ∧ P3 ∧ P4 ∧ P5 ∧ P6 ∧ P7 ∧ P8 ∧ P9 ∧ P10 ∧ P11 ∧ P12 ∧ P13 ∧ P14 ∧ @LT.lt Nat _ a b) : b ≠ a := Nat.ne_of_gt h.2.2.2.2.2.2.2.2.2.2.2.2.2.2
theorem nc15 {a b : Nat} {P1 P2 P3 P4 P5 P6 P7 P8 P9 P10 P11 P12 P13 P14 Q : Prop} (h : P1 ∧ P2 ∧ P3 ∧ P4 ∧ P5 ∧ P6 ∧ P7 ∧ P8 ∧ P9 ∧ P10 ∧ P11 ∧ P12 ∧ P13 ∧ P14 ∧ @LT.lt Nat _ a b ∧ Q) : a ≠ b := Nat.ne_of_lt h.2.2.2.2.2.2.2.2.2.2.2.2.2.2.1
theorem nd15 {a b : Nat} {P1 P2 P3 P4 P5 P6 P7 P8 P9 P10 P11 P12 P13 P14 Q : Prop} (h : P1 ∧ P2 ∧ P3 ∧ P4 ∧ P5 ∧ P6 ∧ P7 ∧ P8 ∧ P9 ∧ P10 ∧ P11 ∧ P12 ∧ P13 ∧ P14 ∧ @LT.lt Nat _ a b ∧ Q) : b ≠ a := Nat.ne_of_gt h.2.2.2.2.2.2.2.2.2.2.2.2.2.2.1
theorem ncl16 {a b : Nat} {P1 P2 P3 P4 P5 P6 P7 P8 P9 P10 P11 P12 P13 P14 P15 : Prop} (h : P1 ∧ P2 ∧ P3 ∧ P4 ∧ P5 ∧ P6 ∧ P7 ∧ P8 ∧ P9 ∧ P10 ∧ P11 ∧ P12 ∧ P13 ∧ P14 ∧ P15 ∧ @LT.lt Nat _ a b) : a ≠ b := Nat.ne_of_lt h.2.2.2.2.2.2.2.2.2.2.2.2.2.2.2
theorem ndl16 {a b : Nat} {P1 P2 P3 P4 P5 P6 P7 P8 P9 P10 P11 P12 P13 P14 P15 : Prop} (h : P1 ∧ P2 ∧ P3 ∧ P4 ∧ P5 ∧ P6 ∧ P7 ∧ P8 ∧ P9 ∧ P10 ∧ P11 ∧ P12 ∧ P13 ∧ P14 ∧ P15 ∧ @LT.lt Nat _ a b) : b ≠ a := Nat.ne_of_gt h.2.2.2.2.2.2.2.2.2.2.2.2.2.2.2
theorem nc16 {a b : Nat} {P1 P2 P3 P4 P5 P6 P7 P8 P9 P10 P11 P12 P13 P14 P15 Q : Prop} (h : P1 ∧ P2 ∧ P3 ∧ P4 ∧ P5 ∧ P6 ∧ P7 ∧ P8 ∧ P9 ∧ P10 ∧ P11 ∧ P12 ∧ P13 ∧ P14 ∧ P15 ∧ @LT.lt Nat _ a b ∧ Q) : a ≠ b := Nat.ne_of_lt h.2.2.2.2.2.2.2.2.2.2.2.2.2.2.2.1
theorem nd16 {a b : Nat} {P1 P2 P3 P4 P5 P6 P7 P8 P9 P10 P11 P12 P13 P14 P15 Q : Prop} (h : P1 ∧ P2 ∧ P3 ∧ P4 ∧ P5 ∧ P6 ∧ P7 ∧ P8 ∧ P9 ∧ P10 ∧ P11 ∧ P12 ∧ P13 ∧ P14 ∧ P15 ∧ @LT.lt Nat _ a b ∧ Q) : b ≠ a := Nat.ne_of_gt h.2.2.2.2.2.2.2.2.2.2.2.2.2.2.2.1
theorem ncl17 {a b : Nat} {P1 P2 P3 P4 P5 P6 P7 P8 P9 P10 P11 P12 P13 P14 P15 P16 : Prop} (h : P1 ∧ P2 ∧ P3 ∧ P4 ∧ P5 ∧ P6 ∧ P7 ∧ P8 ∧ P9 ∧ P10 ∧ P11 ∧ P12 ∧ P13 ∧ P14 ∧ P15 ∧ P16 ∧ @LT.lt Nat _ a b) : a ≠ b := Nat.ne_of_lt h.2.2.2.2.2.2.2.2.2.2.2.2.2.2.2.2
theorem ndl17 {a b : Nat} {P1 P2 P3 P4 P5 P6 P7 P8 P9 P10 P11 P12 P13 P14 P15 P16 : Prop} (h : P1 ∧ P2 ∧ P3 ∧ P4 ∧ P5 ∧ P6 ∧ P7 ∧ P8 ∧ P9 ∧ P10 ∧ P11 ∧ P12 ∧ P13 ∧ P14 ∧ P15 ∧ P16 ∧ @LT.lt Nat _ a b) : b ≠ a := Nat.ne_of_gt h.2.2.2.2.2.2.2.2.2.2.2.2.2.2.2.2
theorem nc17 {a b : Nat} {P1 P2 P3 P4 P5 P6 P7 P8 P9 P10 P11 P12 P13 P14 P15 P16 Q : Prop} (h : P1 ∧ P2 ∧ P3 ∧ P4 ∧ P5 ∧ P6 ∧ P7 ∧ P8 ∧ P9 ∧ P10 ∧ P11 ∧ P12 ∧ P13 ∧ P14 ∧ P15 ∧ P16 ∧ @LT.lt Nat _ a b ∧ Q) : a ≠ b := Nat.ne_of_lt h.2.2.2.2.2.2.2.2.2.2.2.2.2.2.2.2.1
theorem nd17 {a b : Nat} {P1 P2 P3 P4 P5 P6 P7 P8 P9 P10 P11 P12 P13 P14 P15 P16 Q : Prop} (h : P1 ∧ P2 ∧ P3 ∧ P4 ∧ P5 ∧ P6 ∧ P7 ∧ P8 ∧ P9 ∧ P10 ∧ P11 ∧ P12 ∧ P13 ∧ P14 ∧ P15 ∧ P16 ∧ @LT.lt Nat _ a b ∧ Q) : b ≠ a := Nat.ne_of_gt h.2.2.2.2.2.2.2.2.2.2.2.2.2.2.2.2.1
theorem ncl18 {a b : Nat} {P1 P2 P3 P4 P5 P6 P7 P8 P9 P10 P11 P12 P13 P14 P15 P16 P17 : Prop} (h : P1 ∧ P2 ∧ P3 ∧ P4 ∧ P5 ∧ P6 ∧ P7 ∧ P8 ∧ P9 ∧ P10 ∧ P11 ∧ P12 ∧ P13 ∧ P14 ∧ P15 ∧ P16 ∧ P17 ∧ @LT.lt Nat _ a b) : a ≠ b := Nat.ne_of_lt h.2.2.2.2.2.2.2.2.2.2.2.2.2.2.2.2.2
theorem ndl18 {a b : Nat} {P1 P2 P3 P4 P5 P6 P7 P8 P9 P10 P11 P12 P13 P14 P15 P16 P17 : Prop} (h : P1 ∧ P2 ∧ P3 ∧ P4 ∧ P5 ∧ P6 ∧ P7 ∧ P8 ∧ P9 ∧ P10 ∧ P11 ∧ P12 ∧ P13 ∧ P14 ∧ P15 ∧ P16 ∧ P17 ∧ @LT.lt Nat _ a b) : b ≠ a := Nat.ne_of_gt h.2.2.2.2.2.2.2.2.2.2.2.2.2.2.2.2.2
theorem nc18 {a b : Nat} {P1 P2 P3 P4 P5 P6 P7 P8 P9 P10 P11 P12 P13 P14 P15 P16 P17 Q : Prop} (h : P1 ∧ P2 ∧ P3 ∧ P4 ∧ P5 ∧ P6 ∧ P7 ∧ P8 ∧ P9 ∧ P10 ∧ P11 ∧ P12 ∧ P13 ∧ P14 ∧ P15 ∧ P16 ∧ P17 ∧ @LT.lt Nat _ a b ∧ Q) : a ≠ b := Nat.ne_of_lt h.2.2.2.2.2.2.2.2.2.2.2.2.2.2.2.2.2.1
theorem nd18 {a b : Nat} {P1 P2 P3 P4 P5 P6 P7 P8 P9 P10 P11 P12 P13 P14 P15 P16 P17 Q : Prop} (h : P1 ∧ P2 ∧ P3 ∧ P4 ∧ P5 ∧ P6 ∧ P7 ∧ P8 ∧ P9 ∧ P10 ∧ P11 ∧ P12 ∧ P13 ∧ P14 ∧ P15 ∧ P16 ∧ P17 ∧ @LT.lt Nat _ a b ∧ Q) : b ≠ a := Nat.ne_of_gt h.2.2.2.2.2.2.2.2.2.2.2.2.2.2.2.2.2.1
theorem roomD2 {dp un c a b : Nat} {gd : Option (List Code)} {cn : Str} {cs : Scope} {L aa : Addr} {ccd : Value} {cl : List (Str × Addr)} {outer : List Env} (h : dp + c < recursionLimit) (e : Nat.ble (a + b) c = true) : (ktrTop dp un gd cn cs L aa ccd cl outer).depth + a + b < recursionLimit :=
  Nat.lt_of_le_of_lt (by have e := Nat.le_of_ble_eq_true e; show dp + a + b ≤ dp + c; omega) h
theorem roomD0 {dp un c : Nat} {gd : Option (List Code)} {cn : Str} {cs : Scope} {L aa : Addr} {ccd : Value} {cl : List (Str × Addr)} {outer : List Env} (h : dp + c < recursionLimit) : (ktrTop dp un gd cn cs L aa ccd cl outer).depth < recursionLimit :=
  Nat.lt_of_le_of_lt (Nat.le_add_right dp c) h
theorem roomU2 {dp un c a b : Nat} {gd : Option (List Code)} {cn : Str} {cs : Scope} {L aa : Addr} {ccd : Value} {cl : List (Str × Addr)} {outer : List Env} (h : un + c < cLine) (e : Nat.ble (a + b) c = true) : (ktrTop dp un gd cn cs L aa ccd cl outer).units + a + b < cLine :=
  Nat.lt_of_le_of_lt (by have e := Nat.le_of_ble_eq_true e; show un + a + b ≤ un + c; omega) h
theorem fa {α : Type} {p : α → Prop} {a : α} {l : List α} (h : p a) (t : ∀ x, x ∈ l → p x) : ∀ x, x ∈ a :: l → p x := fun x hx => by
  rcases List.mem_cons.mp hx with e | hx
  · rw [e]; exact h
  · exact t x hx
theorem fa0 {α : Type} {p : α → Prop} : ∀ x, x ∈ ([] : List α) → p x := fun _ h => absurd h List.not_mem_nil
noncomputable def locB (e : Env) (x : Str) : Bool := decide (e.scope.kind = .function ∧ e.kindOf x = some .local ∧ (x == ("__debug__" : Str)) = false)
noncomputable def gloB (e : Env) (x : Str) : Bool := decide (e.scope.kind = .function ∧ e.kindOf x = some .globalImplicit ∧ (x == ("__debug__" : Str)) = false)
theorem locB1 {e : Env} {x : Str} (h : locB e x = true) : e.scope.kind = .function := (of_decide_eq_true h).1
theorem locB2 {e : Env} {x : Str} (h : locB e x = true) : e.kindOf x = some .local := (of_decide_eq_true h).2.1
theorem locB3 {e : Env} {x : Str} (h : locB e x = true) : (x == ("__debug__" : Str)) = false := (of_decide_eq_true h).2.2
theorem gloB1 {e : Env} {x : Str} (h : gloB e x = true) : e.scope.kind = .function := (of_decide_eq_true h).1
theorem gloB2 {e : Env} {x : Str} (h : gloB e x = true) : e.kindOf x = some .globalImplicit := (of_decide_eq_true h).2.1
theorem gloB3 {e : Env} {x : Str} (h : gloB e x = true) : (x == ("__debug__" : Str)) = false := (of_decide_eq_true h).2.2
section
variable {M : Model} {A : Around} {E : Value → Shared → Prop} {env : Env} {rest : List Stmt} {Q : Flow → Shared → Prop} {pos px : Pos} {hp : Heap} {gn : Array GenState} {dr : Drawn} {tk0 : Nat} {os : OsState}
theorem ex_cons {st : Stmt} (h : ∀ tk, wpAny M A (execs (st :: rest) env) Q E ⟨hp, gn, dr, tk, os⟩) : wpAny M A (execs (st :: rest) env) Q E ⟨hp, gn, dr, tk0, os⟩ := h _
theorem ex_nil (h : ∀ tk, Q .next ⟨hp, gn, dr, tk, os⟩) : wpAny M A (execs [] env) Q E ⟨hp, gn, dr, tk0, os⟩ := wpAny_execs_nil (h _)
theorem ex_assign {x : Str} {value : Expr} (hs : swapsWith value (some (.Name x px)) pos.line env = pure false)
    (h : ∀ tk, wpAny M A (eval value env) (fun v s₁ => wpAny M A (storeName env x v) (fun _ s₂ => wpAny M A (execs rest env) Q E s₂) E s₁) E ⟨hp, gn, dr, tk, os⟩) :
    wpAny M A (execs (.Assign [.Name x px] value pos :: rest) env) Q E ⟨hp, gn, dr, tk0, os⟩ := wpAny_execs_cons (wpAny_Assign_Name (h _) hs)
theorem ex_return {e : Expr} (h : ∀ tk, wpAny M A (eval e env) (fun v s' => Q (.ret v) s') E ⟨hp, gn, dr, tk, os⟩) :
    wpAny M A (execs (.Return (some e) pos :: rest) env) Q E ⟨hp, gn, dr, tk0, os⟩ := wpAny_execs_cons (wpAny_Return_some (h _))
theorem ex_if {test : Expr} {body orelse : List Stmt}
    (h : ∀ tk, wpAny M A (isTrue test env (eval test env)) (fun b s₂ => if b then wpAny M A (execs body env) (fun f s' => match f with | .next => wpAny M A (execs rest env) Q E s' | f => Q f s') E s₂
      else wpAny M A (execs orelse env) (fun f s' => match f with | .next => wpAny M A (execs rest env) Q E s' | f => Q f s') E s₂) E ⟨hp, gn, dr, tk, os⟩) :
    wpAny M A (execs (.If test body orelse pos :: rest) env) Q E ⟨hp, gn, dr, tk0, os⟩ := wpAny_execs_cons (wpAny_If (h _))
theorem ex_if_nil {test : Expr} {body : List Stmt}
    (h : ∀ tk, wpAny M A (isTrue test env (eval test env)) (fun b s₂ => if b then wpAny M A (execs body env) (fun f s' => match f with | .next => wpAny M A (execs rest env) Q E s' | f => Q f s') E s₂
      else wpAny M A (execs rest env) Q E s₂) E ⟨hp, gn, dr, tk, os⟩) :
    wpAny M A (execs (.If test body [] pos :: rest) env) Q E ⟨hp, gn, dr, tk0, os⟩ := ex_if fun tk => wpAny_mono (h tk) (fun b _ h => by
      cases b
      · exact wpAny_execs_nil h
      · exact h) fun _ _ h => h
/-- a branch that returns -/
theorem ex_if_return {test e : Expr} {p2 : Pos}
    (h : ∀ tk, wpAny M A (isTrue test env (eval test env)) (fun b s₂ => if b then wpAny M A (eval e env) (fun v s' => Q (.ret v) s') E s₂
      else wpAny M A (execs rest env) Q E s₂) E ⟨hp, gn, dr, tk, os⟩) :
    wpAny M A (execs (.If test [.Return (some e) p2] [] pos :: rest) env) Q E ⟨hp, gn, dr, tk0, os⟩ := ex_if_nil fun tk => wpAny_mono (h tk) (fun b _ h => by
      cases b
      · exact h
      · exact wpAny_execs_cons (wpAny_Return_some h)) fun _ _ h => h
end
section
variable {M : Model} {A : Around} {E : Value → Shared → Prop} {s : Shared} {h₀ : Heap} {L : Addr} {m : Str → Option Value} {cn : Str} {cs : Scope} {a : Addr} {ccd : Value} {cl : List (Str × Addr)} {x y : Str} {v u : Value} {px py pos pc : Pos}
  {mg mb : Str → Option Value} {K : Frag} {p : Program} {loose : List Str} {news : List (Addr × Obj)}
theorem n_l {Q : Value → Shared → Prop} (F : Fr h₀ L s.heap m) (hc : locB (envX cn cs L a ccd cl) x = true) (hv : m x = some v) (h : Q v s) :
    wpAny M A (eval (.Name x px) (envX cn cs L a ccd cl)) Q E s := nameX_L F hv h (locB1 hc) (locB2 hc) (locB3 hc)
theorem n_k {Q : Value → Shared → Prop} (F : Fr h₀ L s.heap m) (hc : gloB (envX cn cs L a ccd cl) x = true) (X : K.In h₀) (T : TopRead p loose mg mb h₀) (e : nsIn K mainGlobals x = some (some v)) (h : Q v s) :
    wpAny M A (eval (.Name x px) (envX cn cs L a ccd cl)) Q E s := nameX_K F X T e h (gloB1 hc) (gloB2 hc) (gloB3 hc)
theorem n_b {Q : Value → Shared → Prop} (F : Fr h₀ L s.heap m) (hc : gloB (envX cn cs L a ccd cl) x = true) (X : K.In h₀) (T : TopRead p loose mg mb h₀) (e : nsIn K mainGlobals x = some none) (hv : bootBuiltins x = some v) (hn : x ≠ "__name__") (h : Q v s) :
    wpAny M A (eval (.Name x px) (envX cn cs L a ccd cl)) Q E s := nameX_B F X T e hv hn h (gloB1 hc) (gloB2 hc) (gloB3 hc)
theorem st_l {hp : Heap} {gn : Array GenState} {dr : Drawn} {tk0 : Nat} {os : OsState} {Q : Unit → Shared → Prop} (F : Fr h₀ L hp m) (N : News h₀ L hp news) (hc : locB (envX cn cs L a ccd cl) x = true)
    (h : ∀ h' tk, Fr h₀ L h' (fun y => if y = x then some v else m y) → News h₀ L h' news → Q () ⟨h', gn, dr, tk, os⟩) :
    wpAny M A (storeName (envX cn cs L a ccd cl) x v) Q E ⟨hp, gn, dr, tk0, os⟩ := storeX_L (s := ⟨hp, gn, dr, tk0, os⟩) F N (fun h' F' N' => h h' _ F' N') (locB1 hc) (locB2 hc)
/-- an argument that is a local name -/
theorem arg_n {rest : List Expr} {Q : List Value → Shared → Prop} (F : Fr h₀ L s.heap m) (hc : locB (envX cn cs L a ccd cl) x = true) (hv : m x = some v)
    (h : wpAny M A (spliced (backTo pos (starEach rest (envX cn cs L a ccd cl)))) (fun vs s₂ => Q (v :: vs) s₂) E s) :
    wpAny M A (spliced (backTo pos (starEach (.Name x px :: rest) (envX cn cs L a ccd cl)))) Q E s :=
  args_cons (n_l F hc hv h)
theorem arg_n_last {Q : List Value → Shared → Prop} (F : Fr h₀ L s.heap m) (hc : locB (envX cn cs L a ccd cl) x = true) (hv : m x = some v) (h : Q [v] s) :
    wpAny M A (spliced (backTo pos (starEach [.Name x px] (envX cn cs L a ccd cl)))) Q E s := arg_n F hc hv (args_nil h)
/-- a local name upon a number -/
theorem bin_nc {hp : Heap} {gn : Array GenState} {dr : Drawn} {tk0 : Nat} {os : OsState} {op : Operator} {k : Int} {ck : Nat} {Q : Value → Shared → Prop} (F : Fr h₀ L hp m) (hc : locB (envX cn cs L a ccd cl) x = true) (hv : m x = some v)
    (h : ∀ tk t, wpAny M A (binaryOp op v (.int k t)) Q E ⟨hp, gn, dr, tk, os⟩) :
    wpAny M A (eval (.BinOp (.Name x px) op (.Constant (.int k) ck pc) pos) (envX cn cs L a ccd cl)) Q E ⟨hp, gn, dr, tk0, os⟩ :=
  wpAny_BinOp (n_l (s := ⟨hp, gn, dr, tk0, os⟩) F hc hv (wpAny_Constant_int (h _ _)))
theorem bin_nn {op : Operator} {Q : Value → Shared → Prop} (F : Fr h₀ L s.heap m) (hc : locB (envX cn cs L a ccd cl) x = true) (hd : locB (envX cn cs L a ccd cl) y = true) (hv : m x = some v) (hu : m y = some u)
    (h : wpAny M A (binaryOp op v u) Q E s) :
    wpAny M A (eval (.BinOp (.Name x px) op (.Name y py) pos) (envX cn cs L a ccd cl)) Q E s :=
  wpAny_BinOp (n_l F hc hv (n_l F hd hu h))
end
section
variable {prog : Program} {w : World} {A : Around} {E : Value → Shared → Prop} {s : Shared} {h₀ : Heap} {L : Addr} {m : Str → Option Value} {cn : Str} {cs : Scope} {a : Addr} {ccd : Value} {cl : List (Str × Addr)} {x : Str} {px pos pc : Pos} {k n : Int} {ck : Nat} {t : Tok} {whole : Sem Value} {Q : Bool → Shared → Prop}
theorem is_lt2 {y : Str} {py : Pos} {u : Tok} (F : Fr h₀ L s.heap m) (hc : locB (envX cn cs L a ccd cl) x = true) (hd : locB (envX cn cs L a ccd cl) y = true) (hv : m x = some (.int n t)) (hu : m y = some (.int k u)) (h : Q (decide (n < k)) s) :
    wpAny (model prog w) A (isTrue (.Compare (.Name x px) [.Lt] [.Name y py] pos) (envX cn cs L a ccd cl) whole) Q E s :=
  wpAny_isTrue_Compare1 (n_l F hc hv (n_l F hd hu (lt_int (wpAny_truthy_bool h))))
theorem is_lt {hp : Heap} {gn : Array GenState} {dr : Drawn} {tk0 : Nat} {os : OsState} (F : Fr h₀ L hp m) (hc : locB (envX cn cs L a ccd cl) x = true) (hv : m x = some (.int n t)) (h : ∀ tk, Q (decide (n < k)) ⟨hp, gn, dr, tk, os⟩) :
    wpAny (model prog w) A (isTrue (.Compare (.Name x px) [.Lt] [.Constant (.int k) ck pc] pos) (envX cn cs L a ccd cl) whole) Q E ⟨hp, gn, dr, tk0, os⟩ :=
  wpAny_isTrue_Compare1 (n_l (s := ⟨hp, gn, dr, tk0, os⟩) F hc hv (wpAny_Constant_int (lt_int (wpAny_truthy_bool (h _)))))
theorem is_gt2 {y : Str} {py : Pos} {u : Tok} (F : Fr h₀ L s.heap m) (hc : locB (envX cn cs L a ccd cl) x = true) (hd : locB (envX cn cs L a ccd cl) y = true) (hv : m x = some (.int n t)) (hu : m y = some (.int k u)) (h : Q (decide (k < n)) s) :
    wpAny (model prog w) A (isTrue (.Compare (.Name x px) [.Gt] [.Name y py] pos) (envX cn cs L a ccd cl) whole) Q E s :=
  wpAny_isTrue_Compare1 (n_l F hc hv (n_l F hd hu (gt_int (wpAny_truthy_bool h))))
theorem is_gt {hp : Heap} {gn : Array GenState} {dr : Drawn} {tk0 : Nat} {os : OsState} (F : Fr h₀ L hp m) (hc : locB (envX cn cs L a ccd cl) x = true) (hv : m x = some (.int n t)) (h : ∀ tk, Q (decide (k < n)) ⟨hp, gn, dr, tk, os⟩) :
    wpAny (model prog w) A (isTrue (.Compare (.Name x px) [.Gt] [.Constant (.int k) ck pc] pos) (envX cn cs L a ccd cl) whole) Q E ⟨hp, gn, dr, tk0, os⟩ :=
  wpAny_isTrue_Compare1 (n_l (s := ⟨hp, gn, dr, tk0, os⟩) F hc hv (wpAny_Constant_int (gt_int (wpAny_truthy_bool (h _)))))
theorem is_eq2 {y : Str} {py : Pos} {u : Tok} (F : Fr h₀ L s.heap m) (hc : locB (envX cn cs L a ccd cl) x = true) (hd : locB (envX cn cs L a ccd cl) y = true) (hv : m x = some (.int n t)) (hu : m y = some (.int k u)) (h : Q (n == k) s) :
    wpAny (model prog w) A (isTrue (.Compare (.Name x px) [.Eq] [.Name y py] pos) (envX cn cs L a ccd cl) whole) Q E s :=
  wpAny_isTrue_Compare1 (n_l F hc hv (n_l F hd hu (eq_int (wpAny_truthy_bool h))))
theorem is_eq {hp : Heap} {gn : Array GenState} {dr : Drawn} {tk0 : Nat} {os : OsState} (F : Fr h₀ L hp m) (hc : locB (envX cn cs L a ccd cl) x = true) (hv : m x = some (.int n t)) (h : ∀ tk, Q (n == k) ⟨hp, gn, dr, tk, os⟩) :
    wpAny (model prog w) A (isTrue (.Compare (.Name x px) [.Eq] [.Constant (.int k) ck pc] pos) (envX cn cs L a ccd cl) whole) Q E ⟨hp, gn, dr, tk0, os⟩ :=
  wpAny_isTrue_Compare1 (n_l (s := ⟨hp, gn, dr, tk0, os⟩) F hc hv (wpAny_Constant_int (eq_int (wpAny_truthy_bool (h _)))))
theorem is_ne2 {y : Str} {py : Pos} {u : Tok} (F : Fr h₀ L s.heap m) (hc : locB (envX cn cs L a ccd cl) x = true) (hd : locB (envX cn cs L a ccd cl) y = true) (hv : m x = some (.int n t)) (hu : m y = some (.int k u)) (h : Q (n != k) s) :
    wpAny (model prog w) A (isTrue (.Compare (.Name x px) [.NotEq] [.Name y py] pos) (envX cn cs L a ccd cl) whole) Q E s :=
  wpAny_isTrue_Compare1 (n_l F hc hv (n_l F hd hu (ne_int (wpAny_truthy_bool h))))
theorem is_ne {hp : Heap} {gn : Array GenState} {dr : Drawn} {tk0 : Nat} {os : OsState} (F : Fr h₀ L hp m) (hc : locB (envX cn cs L a ccd cl) x = true) (hv : m x = some (.int n t)) (h : ∀ tk, Q (n != k) ⟨hp, gn, dr, tk, os⟩) :
    wpAny (model prog w) A (isTrue (.Compare (.Name x px) [.NotEq] [.Constant (.int k) ck pc] pos) (envX cn cs L a ccd cl) whole) Q E ⟨hp, gn, dr, tk0, os⟩ :=
  wpAny_isTrue_Compare1 (n_l (s := ⟨hp, gn, dr, tk0, os⟩) F hc hv (wpAny_Constant_int (ne_int (wpAny_truthy_bool (h _)))))
end
section
variable {prog : Program} {w : World} {A : Around} {E : Value → Shared → Prop} {s : Shared} {h₀ : Heap} {L q : Addr} {m : Str → Option Value} {cn : Str} {cs : Scope} {a : Addr} {ccd : Value} {cl : List (Str × Addr)} {x : Str} {px pos pc : Pos} {ck : Nat} {v u r : Value} {l : List Value} {news : List (Addr × Obj)} {Q : Value → Shared → Prop}
/-- an item of a tuple in the ledger -/
theorem sub_0 {hp : Heap} {gn : Array GenState} {dr : Drawn} {tk0 : Nat} {os : OsState} (F : Fr h₀ L hp m) (N : News h₀ L hp news) (hc : locB (envX cn cs L a ccd cl) x = true) (hv : m x = some (.ref q)) (hm : (q, ({ cls := .type "tuple", data := .seq (v :: l).toArray } : Obj)) ∈ news) (h : ∀ tk, Q v ⟨hp, gn, dr, tk, os⟩) :
    wpAny (model prog w) A (eval (.Subscript (.Name x px) (.Constant (.int 0) ck pc) pos) (envX cn cs L a ccd cl)) Q E ⟨hp, gn, dr, tk0, os⟩ :=
  Subscript_ (n_l (s := ⟨hp, gn, dr, tk0, os⟩) F hc hv (wpAny_Constant_int (item_tupleT (j := 0) (News.isTup N hm) (by decide) (by decide) (by unfold seqIndex?; simp) rfl (h _))))
theorem sub_1 {hp : Heap} {gn : Array GenState} {dr : Drawn} {tk0 : Nat} {os : OsState} (F : Fr h₀ L hp m) (N : News h₀ L hp news) (hc : locB (envX cn cs L a ccd cl) x = true) (hv : m x = some (.ref q)) (hm : (q, ({ cls := .type "tuple", data := .seq (u :: v :: l).toArray } : Obj)) ∈ news) (h : ∀ tk, Q v ⟨hp, gn, dr, tk, os⟩) :
    wpAny (model prog w) A (eval (.Subscript (.Name x px) (.Constant (.int 1) ck pc) pos) (envX cn cs L a ccd cl)) Q E ⟨hp, gn, dr, tk0, os⟩ :=
  Subscript_ (n_l (s := ⟨hp, gn, dr, tk0, os⟩) F hc hv (wpAny_Constant_int (item_tupleT (j := 1) (News.isTup N hm) (by decide) (by decide) (by unfold seqIndex?; simp; omega) rfl (h _))))
theorem sub_2 {hp : Heap} {gn : Array GenState} {dr : Drawn} {tk0 : Nat} {os : OsState} (F : Fr h₀ L hp m) (N : News h₀ L hp news) (hc : locB (envX cn cs L a ccd cl) x = true) (hv : m x = some (.ref q)) (hm : (q, ({ cls := .type "tuple", data := .seq (u :: r :: v :: l).toArray } : Obj)) ∈ news) (h : ∀ tk, Q v ⟨hp, gn, dr, tk, os⟩) :
    wpAny (model prog w) A (eval (.Subscript (.Name x px) (.Constant (.int 2) ck pc) pos) (envX cn cs L a ccd cl)) Q E ⟨hp, gn, dr, tk0, os⟩ :=
  Subscript_ (n_l (s := ⟨hp, gn, dr, tk0, os⟩) F hc hv (wpAny_Constant_int (item_tupleT (j := 2) (News.isTup N hm) (by decide) (by decide) (by unfold seqIndex?; simp; omega) rfl (h _))))
end
section
variable {prog : Program} {w : World} {A : Around} {E : Value → Shared → Prop} {s : Shared} {h₀ : Heap} {L : Addr} {m : Str → Option Value} {cn : Str} {cs : Scope} {a : Addr} {ccd : Value} {cl : List (Str × Addr)} {x : Str} {px pos : Pos}
  {mg mb : Str → Option Value} {K : Frag} {p : Program} {loose : List Str} {v : Value} {id : String} {e : Expr} {rest : List Expr} {Q : Value → Shared → Prop}
/-- a call of a def by its name -/
theorem call_k (F : Fr h₀ L s.heap m) (hc : gloB (envX cn cs L a ccd cl) x = true) (X : K.In h₀) (T : TopRead p loose mg mb h₀) (hn : nsIn K mainGlobals x = some (some v)) (hk : keepIn K v = true)
    (he : starEach (e :: rest) (envX cn cs L a ccd cl) = (false, eval e (envX cn cs L a ccd cl)) :: starEach rest (envX cn cs L a ccd cl)) (hp : (backTo pos (starEach rest (envX cn cs L a ccd cl))).any (·.1) = false)
    (h : wpAny (model prog w) A (spliced (backTo pos (starEach (e :: rest) (envX cn cs L a ccd cl)))) (fun vs s₁ => K.In s₁.heap ∧ wpAny (model prog w) A (call v vs) Q E s₁) E s) :
    wpAny (model prog w) A (eval (.Call (.Name x px) (e :: rest) [] pos) (envX cn cs L a ccd cl)) Q E s := Call_ (n_k F hc X T hn (callWith_K X hk h he hp))
/-- a call of a built-in function by its name -/
theorem call_b (F : Fr h₀ L s.heap m) (hc : gloB (envX cn cs L a ccd cl) x = true) (X : K.In h₀) (T : TopRead p loose mg mb h₀) (hn : nsIn K mainGlobals x = some none) (hv : bootBuiltins x = some v) (hw : v = .builtin id) (hx : x ≠ "__name__")
    (he : starEach (e :: rest) (envX cn cs L a ccd cl) = (false, eval e (envX cn cs L a ccd cl)) :: starEach rest (envX cn cs L a ccd cl)) (hp : (backTo pos (starEach rest (envX cn cs L a ccd cl))).any (·.1) = false)
    (h : wpAny (model prog w) A (spliced (backTo pos (starEach (e :: rest) (envX cn cs L a ccd cl)))) (fun vs s₁ => wpAny (model prog w) A (call (.builtin id) vs) Q E s₁) E s) :
    wpAny (model prog w) A (eval (.Call (.Name x px) (e :: rest) [] pos) (envX cn cs L a ccd cl)) Q E s := Call_ (n_b F hc X T hn (hw ▸ hv) hx (callWith_method1 h he hp))
theorem call_t {T' : String} (F : Fr h₀ L s.heap m) (hc : gloB (envX cn cs L a ccd cl) x = true) (X : K.In h₀) (T : TopRead p loose mg mb h₀) (hn : nsIn K mainGlobals x = some none) (hv : bootBuiltins x = some v) (hw : v = .type T') (hx : x ≠ "__name__")
    (he : starEach (e :: rest) (envX cn cs L a ccd cl) = (false, eval e (envX cn cs L a ccd cl)) :: starEach rest (envX cn cs L a ccd cl)) (hp : (backTo pos (starEach rest (envX cn cs L a ccd cl))).any (·.1) = false)
    (h : wpAny (model prog w) A (spliced (backTo pos (starEach (e :: rest) (envX cn cs L a ccd cl)))) (fun vs s₁ => wpAny (model prog w) A (call (.type T') vs) Q E s₁) E s) :
    wpAny (model prog w) A (eval (.Call (.Name x px) (e :: rest) [] pos) (envX cn cs L a ccd cl)) Q E s := Call_ (n_b F hc X T hn (hw ▸ hv) hx (callWith_type1 h he hp))
theorem in_k {h : Heap} {P : Prop} (X : K.In h₀) (F : Fr h₀ L h m) (hP : P) : K.In h ∧ P := ⟨Frag.In.keeps X F.keep, hP⟩
/-- a constant argument -/
theorem arg_c {hp : Heap} {gn : Array GenState} {dr : Drawn} {tk0 : Nat} {os : OsState} {k : Int} {ck : Nat} {pc : Pos} {env : Env} {Q : List Value → Shared → Prop} (he : starEach (.Constant (.int k) ck pc :: rest) env = (false, eval (.Constant (.int k) ck pc) env) :: starEach rest env)
    (h : ∀ t tk, wpAny (model prog w) A (spliced (backTo pos (starEach rest env))) (fun vs s₂ => Q (.int k t :: vs) s₂) E ⟨hp, gn, dr, tk, os⟩) :
    wpAny (model prog w) A (spliced (backTo pos (starEach (.Constant (.int k) ck pc :: rest) env))) Q E ⟨hp, gn, dr, tk0, os⟩ := args_cons (wpAny_Constant_int (h _ _)) he
theorem arg_any {env : Env} {Q : List Value → Shared → Prop} (he : starEach (e :: rest) env = (false, eval e env) :: starEach rest env)
    (h : wpAny (model prog w) A (eval e env) (fun v s₁ => wpAny (model prog w) A (spliced (backTo pos (starEach rest env))) (fun vs s₂ => Q (v :: vs) s₂) E s₁) E s) :
    wpAny (model prog w) A (spliced (backTo pos (starEach (e :: rest) env))) Q E s := args_cons h he
end
section NcAll
local macro_rules | `(tactic| walk_at $s:str) => `(tactic| k_extra $s)
local macro_rules | `(tactic| k_ne) => `(tactic| k_extra "k_ne")
local macro_rules | `(tactic| bits_by_make) => `(tactic| k_extra "bits_by_make")
local macro_rules | `(tactic| cell_step) => `(tactic| k_extra "cell_step")
local macro_rules | `(tactic| kcj_all) => `(tactic| k_extra "kcj_all")
local macro_rules | `(tactic| k_all) => `(tactic| k_extra "k_all")
local macro_rules | `(tactic| ksw_same) => `(tactic| k_extra "ksw_same")
local macro_rules | `(tactic| k_mem) => `(tactic| k_extra "k_mem")
local macro_rules | `(tactic| ktr_rel) => `(tactic| k_extra "ktr_rel")
local macro_rules | `(tactic| mul_fits) => `(tactic| k_extra "mul_fits")
local macro_rules | `(tactic| ktr_room) => `(tactic| k_extra "ktr_room")
local macro_rules | `(tactic| ktr_units) => `(tactic| k_extra "ktr_units")
theorem wd1 : True := by
  k_with "k_ne" => (refine neN ?_; (try dsimp only); first | (with_reducible first | assumption | (refine' Ne.symm ?hnz1; (case hnz1 => assumption); done) | (refine' nc1 ?hnz1; (case hnz1 => assumption); done) | (refine' nd1 ?hnz1; (case hnz1 => assumption); done) | (refine' ncl1 ?hnz1; (case hnz1 => assumption); done) | (refine' ndl1 ?hnz1; (case hnz1 => assumption); done) | (refine' nc2 ?hnz1; (case hnz1 => assumption); done) | (refine' nd2 ?hnz1; (case hnz1 => assumption); done) | (refine' ncl2 ?hnz1; (case hnz1 => assumption); done) | (refine' ndl2 ?hnz1; (case hnz1 => assumption); done) | (refine' nc3 ?hnz1; (case hnz1 => assumption); done) | (refine' nd3 ?hnz1; (case hnz1 => assumption); done) | (refine' ncl3 ?hnz1; (case hnz1 => assumption); done) | (refine' ndl3 ?hnz1; (case hnz1 => assumption); done) | (refine' nc4 ?hnz1; (case hnz1 => assumption); done) | (refine' nd4 ?hnz1; (case hnz1 => assumption); done) | (refine' ncl4 ?hnz1; (case hnz1 => assumption); done) | (refine' ndl4 ?hnz1; (case hnz1 => assumption); done) | (refine' nc5 ?hnz1; (case hnz1 => assumption); done) | (refine' nd5 ?hnz1; (case hnz1 => assumption); done) | (refine' ncl5 ?hnz1; (case hnz1 => assumption); done) | (refine' ndl5 ?hnz1; (case hnz1 => assumption); done) | (refine' nc6 ?hnz1; (case hnz1 => assumption); done) | (refine' nd6 ?hnz1; (case hnz1 => assumption); done) | (refine' ncl6 ?hnz1; (case hnz1 => assumption); done) | (refine' ndl6 ?hnz1; (case hnz1 => assumption); done) | (refine' nc7 ?hnz1; (case hnz1 => assumption); done) | (refine' nd7 ?hnz1; (case hnz1 => assumption); done) | (refine' ncl7 ?hnz1; (case hnz1 => assumption); done) | (refine' ndl7 ?hnz1; (case hnz1 => assumption); done) | (refine' nc8 ?hnz1; (case hnz1 => assumption); done) | (refine' nd8 ?hnz1; (case hnz1 => assumption); done) | (refine' ncl8 ?hnz1; (case hnz1 => assumption); done) | (refine' ndl8 ?hnz1; (case hnz1 => assumption); done) | (refine' nc9 ?hnz1; (case hnz1 => assumption); done) | (refine' nd9 ?hnz1; (case hnz1 => assumption); done) | (refine' ncl9 ?hnz1; (case hnz1 => assumption); done) | (refine' ndl9 ?hnz1; (case hnz1 => assumption); done) | (refine' nc10 ?hnz1; (case hnz1 => assumption); done) | (refine' nd10 ?hnz1; (case hnz1 => assumption); done) | (refine' ncl10 ?hnz1; (case hnz1 => assumption); done) | (refine' ndl10 ?hnz1; (case hnz1 => assumption); done) | (refine' nc11 ?hnz1; (case hnz1 => assumption); done) | (refine' nd11 ?hnz1; (case hnz1 => assumption); done) | (refine' ncl11 ?hnz1; (case hnz1 => assumption); done) | (refine' ndl11 ?hnz1; (case hnz1 => assumption); done) | (refine' nc12 ?hnz1; (case hnz1 => assumption); done) | (refine' nd12 ?hnz1; (case hnz1 => assumption); done) | (refine' ncl12 ?hnz1; (case hnz1 => assumption); done) | (refine' ndl12 ?hnz1; (case hnz1 => assumption); done) | (refine' nc13 ?hnz1; (case hnz1 => assumption); done) | (refine' nd13 ?hnz1; (case hnz1 => assumption); done) | (refine' ncl13 ?hnz1; (case hnz1 => assumption); done) | (refine' ndl13 ?hnz1; (case hnz1 => assumption); done) | (refine' nc14 ?hnz1; (case hnz1 => assumption); done) | (refine' nd14 ?hnz1; (case hnz1 => assumption); done) | (refine' ncl14 ?hnz1; (case hnz1 => assumption); done) | (refine' ndl14 ?hnz1; (case hnz1 => assumption); done) | (refine' nc15 ?hnz1; (case hnz1 => assumption); done) | (refine' nd15 ?hnz1; (case hnz1 => assumption); done) | (refine' ncl15 ?hnz1; (case hnz1 => assumption); done) | (refine' ndl15 ?hnz1; (case hnz1 => assumption); done) | (refine' nc16 ?hnz1; (case hnz1 => assumption); done) | (refine' nd16 ?hnz1; (case hnz1 => assumption); done) | (refine' ncl16 ?hnz1; (case hnz1 => assumption); done) | (refine' ndl16 ?hnz1; (case hnz1 => assumption); done) | (refine' nc17 ?hnz1; (case hnz1 => assumption); done) | (refine' nd17 ?hnz1; (case hnz1 => assumption); done) | (refine' ncl17 ?hnz1; (case hnz1 => assumption); done) | (refine' ndl17 ?hnz1; (case hnz1 => assumption); done) | (refine' nc18 ?hnz1; (case hnz1 => assumption); done) | (refine' nd18 ?hnz1; (case hnz1 => assumption); done) | (refine' ncl18 ?hnz1; (case hnz1 => assumption); done) | (refine' ndl18 ?hnz1; (case hnz1 => assumption); done)) | omega)
  k_with "ktr_room" => first | (refine' roomD2 ?rhz2 ?rez2; (case rhz2 => with_reducible assumption); (case rez2 => rfl); done) | (refine' roomD0 ?rhz2; (case rhz2 => with_reducible assumption); done)
  k_with "ktr_units" => (refine' roomU2 ?rhz3 ?rez3; (case rhz3 => with_reducible assumption); (case rez3 => rfl); done)
  k_with "execs cons Assign" => (k_here; (fail_if_success (with_reducible show wpAny _ _ (execs (Stmt.Assign _ (PySem.Expr.ListComp _ _ _) _ :: _) _) _ _ _)); (with_reducible refine' ex_assign ?hsz4 ?_); (case hsz4 => with_unfolding_all rfl); intro _; (try dsimp only))
  k_with "execs cons Return" => (k_here; (with_reducible refine ex_return ?_); intro _; (try dsimp only))
  k_with "execs cons If" => (k_here; (first | (with_reducible refine ex_if_return ?_) | (with_reducible refine ex_if_nil ?_) | (with_reducible refine ex_if ?_)); intro _; (try dsimp only))
  k_with "execs cons" => (k_here; (with_reducible refine ex_cons (fun _ => wpAny_execs_cons ?_)); (try dsimp only))
  k_with "execs nil" => (k_here; (with_reducible refine ex_nil (fun _ => ?_)))
  k_with "spliced" => (k_here; (fail_if_success (with_reducible show wpAny _ _ (spliced (backTo _ (starEach _ (compEnvC _ _ _ _)))) _ _ _)); first | ((with_reducible show wpAny _ _ (spliced (backTo _ (starEach [PySem.Expr.Name _ _] _))) _ _ _); k_dflt (refine' arg_n_last ?eFz9 ?ecz9 ?evz9 ?_; (case ecz9 => kernel_rfl!); (case eFz9 => k_asm); (case evz9 => with_unfolding_all rfl); k_whole); (try ((with_reducible show wpAny _ _ (call _ (_ ++ _) _) _ _ _); dsimp only [List.nil_append, List.cons_append]))) | ((with_reducible show wpAny _ _ (spliced (backTo _ (starEach (PySem.Expr.Name _ _ :: _) _))) _ _ _); k_dflt (refine' arg_n ?eFz9 ?ecz9 ?evz9 ?_; (case ecz9 => kernel_rfl!); (case eFz9 => k_asm); (case evz9 => with_unfolding_all rfl); k_whole)) | ((with_reducible show wpAny _ _ (spliced (backTo _ (starEach [] _))) _ _ _); (with_reducible refine args_nil ?_); (try ((with_reducible show wpAny _ _ (call _ (_ ++ _) _) _ _ _); dsimp only [List.nil_append, List.cons_append]))) | ((with_reducible show wpAny _ _ (spliced (backTo _ (starEach (PySem.Expr.Constant (PySem.Const.int _) _ _ :: _) _))) _ _ _); k_dflt (refine' arg_c ?hez9 ?_; (case hez9 => rfl)); intro _ _) | ((fail_if_success (with_reducible show wpAny _ _ (spliced (backTo _ (starEach (PySem.Expr.Starred _ _ :: _) _))) _ _ _)); k_dflt (refine' arg_any ?hez9 ?_; (case hez9 => rfl))))
  k_with "eval BinOp Name" => (k_here; (fail_if_success (with_reducible show wpAny _ _ (eval _ (compEnvC _ _ _ _)) _ _ _)); first | ((with_reducible show wpAny _ _ (eval (PySem.Expr.BinOp (PySem.Expr.Name _ _) _ (PySem.Expr.Constant (PySem.Const.int _) _ _) _) _) _ _ _); k_dflt (refine' bin_nc ?eFz10 ?ecz10 ?evz10 ?_; (case ecz10 => kernel_rfl!); (case eFz10 => k_asm); (case evz10 => with_unfolding_all rfl); k_whole); intro _ _) | ((with_reducible show wpAny _ _ (eval (PySem.Expr.BinOp (PySem.Expr.Name _ _) _ (PySem.Expr.Name _ _) _) _) _ _ _); k_dflt (refine' bin_nn ?eFz10 ?ecz10 ?edz10 ?evz10 ?euz10 ?_; (case ecz10 => kernel_rfl!); (case edz10 => kernel_rfl!); (case eFz10 => k_asm); (case evz10 => with_unfolding_all rfl); (case euz10 => with_unfolding_all rfl); k_whole)))
  k_with "isTrue Compare Name" => (k_here; (fail_if_success (with_reducible show wpAny _ _ (isTrue _ (compEnvC _ _ _ _) _) _ _ _)); first | ((with_reducible show wpAny _ _ (isTrue (PySem.Expr.Compare (PySem.Expr.Name _ _) [PySem.CmpOp.Lt] [PySem.Expr.Constant (PySem.Const.int _) _ _] _) _ _) _ _ _); k_dflt (refine' is_lt ?eFz11 ?ecz11 ?evz11 ?_; (case ecz11 => kernel_rfl!); (case eFz11 => k_asm); (case evz11 => with_unfolding_all rfl); k_whole); intro _) | ((with_reducible show wpAny _ _ (isTrue (PySem.Expr.Compare (PySem.Expr.Name _ _) [PySem.CmpOp.Lt] [PySem.Expr.Name _ _] _) _ _) _ _ _); k_dflt (refine' is_lt2 ?eFz11 ?ecz11 ?edz11 ?evz11 ?euz11 ?_; (case ecz11 => kernel_rfl!); (case edz11 => kernel_rfl!); (case eFz11 => k_asm); (case evz11 => with_unfolding_all rfl); (case euz11 => with_unfolding_all rfl); k_whole)))
  k_with "isTrue Compare Name" => (k_here; (fail_if_success (with_reducible show wpAny _ _ (isTrue _ (compEnvC _ _ _ _) _) _ _ _)); first | ((with_reducible show wpAny _ _ (isTrue (PySem.Expr.Compare (PySem.Expr.Name _ _) [PySem.CmpOp.Gt] [PySem.Expr.Constant (PySem.Const.int _) _ _] _) _ _) _ _ _); k_dflt (refine' is_gt ?eFz12 ?ecz12 ?evz12 ?_; (case ecz12 => kernel_rfl!); (case eFz12 => k_asm); (case evz12 => with_unfolding_all rfl); k_whole); intro _) | ((with_reducible show wpAny _ _ (isTrue (PySem.Expr.Compare (PySem.Expr.Name _ _) [PySem.CmpOp.Gt] [PySem.Expr.Name _ _] _) _ _) _ _ _); k_dflt (refine' is_gt2 ?eFz12 ?ecz12 ?edz12 ?evz12 ?euz12 ?_; (case ecz12 => kernel_rfl!); (case edz12 => kernel_rfl!); (case eFz12 => k_asm); (case evz12 => with_unfolding_all rfl); (case euz12 => with_unfolding_all rfl); k_whole)))
  k_with "isTrue Compare Name" => (k_here; (fail_if_success (with_reducible show wpAny _ _ (isTrue _ (compEnvC _ _ _ _) _) _ _ _)); first | ((with_reducible show wpAny _ _ (isTrue (PySem.Expr.Compare (PySem.Expr.Name _ _) [PySem.CmpOp.Eq] [PySem.Expr.Constant (PySem.Const.int _) _ _] _) _ _) _ _ _); k_dflt (refine' is_eq ?eFz13 ?ecz13 ?evz13 ?_; (case ecz13 => kernel_rfl!); (case eFz13 => k_asm); (case evz13 => with_unfolding_all rfl); k_whole); intro _) | ((with_reducible show wpAny _ _ (isTrue (PySem.Expr.Compare (PySem.Expr.Name _ _) [PySem.CmpOp.Eq] [PySem.Expr.Name _ _] _) _ _) _ _ _); k_dflt (refine' is_eq2 ?eFz13 ?ecz13 ?edz13 ?evz13 ?euz13 ?_; (case ecz13 => kernel_rfl!); (case edz13 => kernel_rfl!); (case eFz13 => k_asm); (case evz13 => with_unfolding_all rfl); (case euz13 => with_unfolding_all rfl); k_whole)))
  k_with "isTrue Compare Name" => (k_here; (fail_if_success (with_reducible show wpAny _ _ (isTrue _ (compEnvC _ _ _ _) _) _ _ _)); first | ((with_reducible show wpAny _ _ (isTrue (PySem.Expr.Compare (PySem.Expr.Name _ _) [PySem.CmpOp.NotEq] [PySem.Expr.Constant (PySem.Const.int _) _ _] _) _ _) _ _ _); k_dflt (refine' is_ne ?eFz14 ?ecz14 ?evz14 ?_; (case ecz14 => kernel_rfl!); (case eFz14 => k_asm); (case evz14 => with_unfolding_all rfl); k_whole); intro _) | ((with_reducible show wpAny _ _ (isTrue (PySem.Expr.Compare (PySem.Expr.Name _ _) [PySem.CmpOp.NotEq] [PySem.Expr.Name _ _] _) _ _) _ _ _); k_dflt (refine' is_ne2 ?eFz14 ?ecz14 ?edz14 ?evz14 ?euz14 ?_; (case ecz14 => kernel_rfl!); (case edz14 => kernel_rfl!); (case eFz14 => k_asm); (case evz14 => with_unfolding_all rfl); (case euz14 => with_unfolding_all rfl); k_whole)))
  k_with "eval Subscript Name Constant" => (k_here; (fail_if_success (with_reducible show wpAny _ _ (eval _ (compEnvC _ _ _ _)) _ _ _)); (with_reducible show wpAny _ _ (eval (PySem.Expr.Subscript (PySem.Expr.Name _ _) (PySem.Expr.Constant (PySem.Const.int 0) _ _) _) _) _ _ _); k_dflt (refine' sub_0 ?eFz15 ?eNz15 ?ecz15 ?evz15 ?emz15 ?_; (case ecz15 => kernel_rfl!); (case eFz15 => k_asm); (case eNz15 => k_asm); (case evz15 => with_unfolding_all rfl); (case emz15 => k_mem); k_whole); intro _)
  k_with "eval Subscript Name Constant" => (k_here; (fail_if_success (with_reducible show wpAny _ _ (eval _ (compEnvC _ _ _ _)) _ _ _)); (with_reducible show wpAny _ _ (eval (PySem.Expr.Subscript (PySem.Expr.Name _ _) (PySem.Expr.Constant (PySem.Const.int 1) _ _) _) _) _ _ _); k_dflt (refine' sub_1 ?eFz16 ?eNz16 ?ecz16 ?evz16 ?emz16 ?_; (case ecz16 => kernel_rfl!); (case eFz16 => k_asm); (case eNz16 => k_asm); (case evz16 => with_unfolding_all rfl); (case emz16 => k_mem); k_whole); intro _)
  k_with "eval Subscript Name Constant" => (k_here; (fail_if_success (with_reducible show wpAny _ _ (eval _ (compEnvC _ _ _ _)) _ _ _)); (with_reducible show wpAny _ _ (eval (PySem.Expr.Subscript (PySem.Expr.Name _ _) (PySem.Expr.Constant (PySem.Const.int 2) _ _) _) _) _ _ _); k_dflt (refine' sub_2 ?eFz17 ?eNz17 ?ecz17 ?evz17 ?emz17 ?_; (case ecz17 => kernel_rfl!); (case eFz17 => k_asm); (case eNz17 => k_asm); (case evz17 => with_unfolding_all rfl); (case emz17 => k_mem); k_whole); intro _)
  k_with "eval Name" => (k_here; (fail_if_success (with_reducible show wpAny _ _ (eval _ (compEnvC _ _ _ _)) _ _ _)); k_dflt (first | (refine' n_l ?eFz18 ?ecz18 ?evz18 ?_; (case ecz18 => kernel_rfl!); (case eFz18 => k_asm); (case evz18 => with_unfolding_all rfl); k_whole) | (refine' n_k ?eFz18 ?ecz18 ?eXz18 ?eTz18 ?eez18 ?_; (case ecz18 => kernel_rfl!); (case eFz18 => k_asm); (case eXz18 => k_asm); (case eez18 => k_is); (case eTz18 => k_asm); k_whole) | (refine' n_b ?eFz18 ?ecz18 ?eXz18 ?eTz18 ?eez18 ?evz18 ?enz18 ?_; (case ecz18 => kernel_rfl!); (case eFz18 => k_asm); (case eXz18 => k_asm); (case eez18 => k_is); (case eTz18 => k_asm); (case evz18 => boot_fast); (case enz18 => decide); k_whole)))
  k_with "storeName" => (k_here; (fail_if_success (with_reducible show wpAny _ _ (storeName (compEnvC _ _ _ _) _ _) _ _ _)); k_dflt (refine' st_l ?eFz19 ?eNz19 ?ecz19 ?_; (case ecz19 => kernel_rfl!); (case eFz19 => k_asm); (case eNz19 => k_asm); k_whole); intro h'z19 t'z19 F'z19 N'z19; (try k_sweep))
  k_with "eval Call" => (k_here; (with_reducible show wpAny _ _ (eval (PySem.Expr.Call (PySem.Expr.Name _ _) (_ :: _) [] _) _) _ _ _); (fail_if_success (with_reducible show wpAny _ _ (eval _ (compEnvC _ _ _ _)) _ _ _)); k_dflt (first | (refine' call_k ?eFz20 ?ecz20 ?eXz20 ?eTz20 ?enz20 ?ekz20 ?e1z20 ?e2z20 ?_; (case ecz20 => kernel_rfl!); (case eFz20 => k_asm); (case eXz20 => k_asm); (case enz20 => k_is); (case ekz20 => k_is); (case eTz20 => k_asm); (case e1z20 => rfl); (case e2z20 => rfl); k_whole) | (refine' call_b ?eFz20 ?ecz20 ?eXz20 ?eTz20 ?enz20 ?evz20 ?ewz20 ?exz20 ?e1z20 ?e2z20 ?_; (case ecz20 => kernel_rfl!); (case eFz20 => k_asm); (case eXz20 => k_asm); (case enz20 => k_is); (case eTz20 => k_asm); (case evz20 => boot_fast); (case ewz20 => with_reducible rfl); (case exz20 => decide); (case e1z20 => rfl); (case e2z20 => rfl); k_whole) | (refine' call_t ?eFz20 ?ecz20 ?eXz20 ?eTz20 ?enz20 ?evz20 ?ewz20 ?exz20 ?e1z20 ?e2z20 ?_; (case ecz20 => kernel_rfl!); (case eFz20 => k_asm); (case eXz20 => k_asm); (case enz20 => k_is); (case eTz20 => k_asm); (case evz20 => boot_fast); (case ewz20 => with_reducible rfl); (case exz20 => decide); (case e1z20 => rfl); (case e2z20 => rfl); k_whole)))
  k_with "And" => (k_here; (with_reducible show Frag.In _ _ ∧ _); k_dflt (refine' in_k ?eXz21 ?eFz21 ?_; (case eXz21 => k_asm); (case eFz21 => k_asm)); (try ((with_reducible show wpAny _ _ (call _ (_ ++ _) _) _ _ _); dsimp only [List.nil_append, List.cons_append])))
  k_with "callWith ref" => (k_here; first | ((with_reducible show wpAny _ _ (callWith _ _ _ (backTo _ (starEach (_ :: _) _)) []) _ _ _); k_dflt (refine' callWith_K ?eXz22 ?eKz22 ?_ ?e1z22 ?e2z22; (case eXz22 => k_asm); (case eKz22 => k_is); (case e1z22 => rfl); (case e2z22 => rfl); k_whole)) | ((with_reducible show wpAny _ _ (callWith _ _ _ (backTo _ (starEach [] _)) []) _ _ _); k_dflt (refine' callWith_K0 ?eXz22 ?eKz22 ?_; (case eXz22 => k_in); (case eKz22 => k_is); k_whole)))
  k_with "assignInOrder" => (k_here; k_dflt (first | refine assignInOrder_cons ?_ | refine assignInOrder_nil ?_))
  k_with "exec Raise some none" => (k_here; (with_reducible refine Raise_new rfl ?_))
  trivial
section EarlyAll
section SOgBase
open PySem PySem.W PyProof.Rows PySem.Calls
set_option maxRecDepth 100000
noncomputable abbrev Led := List (Addr × Obj)

/-- a call of the def at f with the arguments vs, from a def's frame, over the ledger news -/
noncomputable def Ct (w : World) (f : Addr) (dd uu : Nat) (news : Led) (vs : List Value) (R : Value → Led → Prop) : Prop :=
  ∀ (prog : Program) (p : Program) (loose : List Str) (mean : ExcName → Option Value) (mg mb : Str → Option Value)
    (dp un : Nat) (gd : Option (List Code)) (cn : Str) (cs : Scope) (a : Addr) (ccd : Value) (cl : List (Str × Addr)) (outer : List Env) (A₀ : Around) (base h₀ : Heap) (L : Addr) (m : Str → Option Value) (s : Shared) (Q E : Value → Shared → Prop),
    Below A₀ base outer h₀ → Fr h₀ L s.heap m → (hd.heap_1 w.params).In h₀ → News h₀ L s.heap news → Top p loose mean mg mb h₀ → cs.kind = .function → dp + dd < recursionLimit → un + uu < cLine →
    (∀ (r : Value) (news' : Led) (h' : Heap) (tk' : Nat), R r news' → Fr h₀ L h' m → News h₀ L h' news' → Q r { s with heap := h', toks := tk' }) →
    wpAny (model prog w) (ktrTop dp un gd cn cs L a ccd cl outer) (call (.ref f) vs) Q E s

noncomputable def RI (news : Led) (x : Int) (r : Value) (n : Led) : Prop := (∃ t, r = .int x t) ∧ n = news
noncomputable def RB (news : Led) (x : Bool) (r : Value) (n : Led) : Prop := r = .bool x ∧ n = news
/-- a tuple of two ints, made new -/
noncomputable abbrev tup2 (x y : Int) (t u : Tok) : Obj := { cls := .type "tuple", data := .seq #[.int x t, .int y u] }
noncomputable def RT (news : Led) (x y : Int) (r : Value) (n : Led) : Prop := ∃ q t u, r = .ref q ∧ n = (q, tup2 x y t u) :: news ∧ ∀ p ∈ news, p.1 < q

noncomputable abbrev tup3 (x y z : Int) (t u v : Tok) : Obj := { cls := .type "tuple", data := .seq #[.int x t, .int y u, .int z v] }
noncomputable def RT3 (news : Led) (x y z : Int) (r : Value) (n : Led) : Prop := ∃ q t u v, r = .ref q ∧ n = (q, tup3 x y z t u v) :: news ∧ ∀ p ∈ news, p.1 < q
/-- a list of ints, made new -/
noncomputable def RL (news : Led) (ns : List Int) (r : Value) (n : Led) : Prop := ∃ q vs c, r = .ref q ∧ n = (q, listOf (List.toArray vs) c) :: news ∧ IntsAre vs ns ∧ ∀ p ∈ news, p.1 < q
noncomputable def RY (news : Led) (ns : List Int) (r : Value) (n : Led) : Prop := (∃ t, r = .bytes (byteArr ns) t) ∧ n = news
section
variable {w : World} {f : Addr} {dd uu : Nat} {news : Led} {vs : List Value} {prog : Program} {p : Program} {loose : List Str} {mean : ExcName → Option Value} {mg mb : Str → Option Value}
    {dp un : Nat} {gd : Option (List Code)} {cn : Str} {cs : Scope} {a : Addr} {ccd : Value} {cl : List (Str × Addr)} {outer : List Env} {A₀ : Around} {base h₀ : Heap} {L : Addr} {m : Str → Option Value} {s : Shared} {Q E : Value → Shared → Prop}
theorem useI {x : Int} (C : Ct w f dd uu news vs (RI news x)) (B : Below A₀ base outer h₀) (F : Fr h₀ L s.heap m) (X : (hd.heap_1 w.params).In h₀) (N : News h₀ L s.heap news) (T : Top p loose mean mg mb h₀) (hk : cs.kind = .function) (hd : dp + dd < recursionLimit) (hu : un + uu < cLine)
    (h : ∀ (t : Tok) (h' : Heap) (tk' : Nat), Fr h₀ L h' m → News h₀ L h' news → Q (.int x t) { s with heap := h', toks := tk' }) :
    wpAny (model prog w) (ktrTop dp un gd cn cs L a ccd cl outer) (call (.ref f) vs) Q E s :=
  C prog p loose mean mg mb dp un gd cn cs a ccd cl outer A₀ base h₀ L m s Q E B F X N T hk hd hu fun r n h' tk'  hR9 F' N' => by obtain ⟨⟨t, e⟩, e2⟩ := hR9; subst e; subst e2; exact h t h' tk' F' N'
theorem useB {x : Bool} (C : Ct w f dd uu news vs (RB news x)) (B : Below A₀ base outer h₀) (F : Fr h₀ L s.heap m) (X : (hd.heap_1 w.params).In h₀) (N : News h₀ L s.heap news) (T : Top p loose mean mg mb h₀) (hk : cs.kind = .function) (hd : dp + dd < recursionLimit) (hu : un + uu < cLine)
    (h : ∀ (h' : Heap) (tk' : Nat), Fr h₀ L h' m → News h₀ L h' news → Q (.bool x) { s with heap := h', toks := tk' }) :
    wpAny (model prog w) (ktrTop dp un gd cn cs L a ccd cl outer) (call (.ref f) vs) Q E s :=
  C prog p loose mean mg mb dp un gd cn cs a ccd cl outer A₀ base h₀ L m s Q E B F X N T hk hd hu fun r n h' tk'  hR9 F' N' => by obtain ⟨e, e2⟩ := hR9; subst e; subst e2; exact h h' tk' F' N'
theorem useT {x y : Int} (C : Ct w f dd uu news vs (RT news x y)) (B : Below A₀ base outer h₀) (F : Fr h₀ L s.heap m) (X : (hd.heap_1 w.params).In h₀) (N : News h₀ L s.heap news) (T : Top p loose mean mg mb h₀) (hk : cs.kind = .function) (hd : dp + dd < recursionLimit) (hu : un + uu < cLine)
    (h : ∀ (q : Addr) (t u : Tok) (h' : Heap) (tk' : Nat), Fr h₀ L h' m → News h₀ L h' ((q, tup2 x y t u) :: news) → (∀ p ∈ news, p.1 < q) → Q (.ref q) { s with heap := h', toks := tk' }) :
    wpAny (model prog w) (ktrTop dp un gd cn cs L a ccd cl outer) (call (.ref f) vs) Q E s :=
  C prog p loose mean mg mb dp un gd cn cs a ccd cl outer A₀ base h₀ L m s Q E B F X N T hk hd hu fun r n h' tk'  hR9 F' N' => by obtain ⟨q, t, u, e, e2, l⟩ := hR9; subst e; subst e2; exact h q t u h' tk' F' N' l
theorem useT3 {x y z : Int} (C : Ct w f dd uu news vs (RT3 news x y z)) (B : Below A₀ base outer h₀) (F : Fr h₀ L s.heap m) (X : (hd.heap_1 w.params).In h₀) (N : News h₀ L s.heap news) (T : Top p loose mean mg mb h₀) (hk : cs.kind = .function) (hd : dp + dd < recursionLimit) (hu : un + uu < cLine)
    (h : ∀ (q : Addr) (t u v : Tok) (h' : Heap) (tk' : Nat), Fr h₀ L h' m → News h₀ L h' ((q, tup3 x y z t u v) :: news) → (∀ p ∈ news, p.1 < q) → Q (.ref q) { s with heap := h', toks := tk' }) :
    wpAny (model prog w) (ktrTop dp un gd cn cs L a ccd cl outer) (call (.ref f) vs) Q E s :=
  C prog p loose mean mg mb dp un gd cn cs a ccd cl outer A₀ base h₀ L m s Q E B F X N T hk hd hu fun r n h' tk'  hR9 F' N' => by obtain ⟨q, t, u, v, e, e2, l⟩ := hR9; subst e; subst e2; exact h q t u v h' tk' F' N' l
theorem useL {ns : List Int} (C : Ct w f dd uu news vs (RL news ns)) (B : Below A₀ base outer h₀) (F : Fr h₀ L s.heap m) (X : (hd.heap_1 w.params).In h₀) (N : News h₀ L s.heap news) (T : Top p loose mean mg mb h₀) (hk : cs.kind = .function) (hd : dp + dd < recursionLimit) (hu : un + uu < cLine)
    (h : ∀ (q : Addr) (vs : List Value) (c : Nat) (h' : Heap) (tk' : Nat), IntsAre vs ns → Fr h₀ L h' m → News h₀ L h' ((q, listOf (List.toArray vs) c) :: news) → (∀ p ∈ news, p.1 < q) → Q (.ref q) { s with heap := h', toks := tk' }) :
    wpAny (model prog w) (ktrTop dp un gd cn cs L a ccd cl outer) (call (.ref f) vs) Q E s :=
  C prog p loose mean mg mb dp un gd cn cs a ccd cl outer A₀ base h₀ L m s Q E B F X N T hk hd hu fun r n h' tk'  hR9 F' N' => by obtain ⟨q, vs, c, e, e2, hi, l⟩ := hR9; subst e; subst e2; exact h q vs c h' tk' hi F' N' l
theorem useY {ns : List Int} (C : Ct w f dd uu news vs (RY news ns)) (B : Below A₀ base outer h₀) (F : Fr h₀ L s.heap m) (X : (hd.heap_1 w.params).In h₀) (N : News h₀ L s.heap news) (T : Top p loose mean mg mb h₀) (hk : cs.kind = .function) (hd : dp + dd < recursionLimit) (hu : un + uu < cLine)
    (h : ∀ (t : Tok) (h' : Heap) (tk' : Nat), Fr h₀ L h' m → News h₀ L h' news → Q (.bytes (byteArr ns) t) { s with heap := h', toks := tk' }) :
    wpAny (model prog w) (ktrTop dp un gd cn cs L a ccd cl outer) (call (.ref f) vs) Q E s :=
  C prog p loose mean mg mb dp un gd cn cs a ccd cl outer A₀ base h₀ L m s Q E B F X N T hk hd hu fun r n h' tk'  hR9 F' N' => by obtain ⟨⟨t, e⟩, e2⟩ := hR9; subst e; subst e2; exact h t h' tk' F' N'
theorem endI {x y : Int} {t : Tok} {h' : Heap} {tk' : Nat} {news' : Led}
    (hret : ∀ (r : Value) (news' : Led) (h' : Heap) (tk' : Nat), RI news x r news' → Fr h₀ L h' m → News h₀ L h' news' → Q r { s with heap := h', toks := tk' })
    (F : Fr h₀ L h' m) (N : News h₀ L h' news') (hs : ∀ p ∈ news, p ∈ news') (e : y = x) : Q (.int y t) { s with heap := h', toks := tk' } := by
  subst e; exact hret _ _ _ _ ⟨⟨t, rfl⟩, rfl⟩ F fun p hp => N p (hs p hp)
theorem endB {x y : Bool} {h' : Heap} {tk' : Nat} {news' : Led}
    (hret : ∀ (r : Value) (news' : Led) (h' : Heap) (tk' : Nat), RB news x r news' → Fr h₀ L h' m → News h₀ L h' news' → Q r { s with heap := h', toks := tk' })
    (F : Fr h₀ L h' m) (N : News h₀ L h' news') (hs : ∀ p ∈ news, p ∈ news') (e : y = x) : Q (.bool y) { s with heap := h', toks := tk' } := by
  subst e; exact hret _ _ _ _ ⟨rfl, rfl⟩ F fun p hp => N p (hs p hp)
theorem endT {x y x' y' : Int} {q : Addr} {t u : Tok} {h' : Heap} {tk' : Nat} {news' : Led}
    (hret : ∀ (r : Value) (news' : Led) (h' : Heap) (tk' : Nat), RT news x y r news' → Fr h₀ L h' m → News h₀ L h' news' → Q r { s with heap := h', toks := tk' })
    (F : Fr h₀ L h' m) (N : News h₀ L h' ((q, tup2 x' y' t u) :: news')) (hs : ∀ p ∈ news, p ∈ news') (l : ∀ p ∈ news, p.1 < q) (e1 : x' = x) (e2 : y' = y) : Q (.ref q) { s with heap := h', toks := tk' } := by
  subst e1; subst e2
  exact hret _ _ _ _ ⟨q, t, u, rfl, rfl, l⟩ F fun p hp => N p (by
    rcases List.mem_cons.mp hp with rfl | hp
    · exact .head _
    · exact .tail _ (hs p hp))
theorem endT3 {x y z x' y' z' : Int} {q : Addr} {t u v : Tok} {h' : Heap} {tk' : Nat} {news' : Led}
    (hret : ∀ (r : Value) (news' : Led) (h' : Heap) (tk' : Nat), RT3 news x y z r news' → Fr h₀ L h' m → News h₀ L h' news' → Q r { s with heap := h', toks := tk' })
    (F : Fr h₀ L h' m) (N : News h₀ L h' ((q, tup3 x' y' z' t u v) :: news')) (hs : ∀ p ∈ news, p ∈ news') (l : ∀ p ∈ news, p.1 < q) (e1 : x' = x) (e2 : y' = y) (e3 : z' = z) : Q (.ref q) { s with heap := h', toks := tk' } := by
  subst e1; subst e2; subst e3
  exact hret _ _ _ _ ⟨q, t, u, v, rfl, rfl, l⟩ F fun p hp => N p (by
    rcases List.mem_cons.mp hp with rfl | hp
    · exact .head _
    · exact .tail _ (hs p hp))
theorem endY {x y : List Int} {t : Tok} {h' : Heap} {tk' : Nat} {news' : Led}
    (hret : ∀ (r : Value) (news' : Led) (h' : Heap) (tk' : Nat), RY news x r news' → Fr h₀ L h' m → News h₀ L h' news' → Q r { s with heap := h', toks := tk' })
    (F : Fr h₀ L h' m) (N : News h₀ L h' news') (hs : ∀ p ∈ news, p ∈ news') (e : y = x) : Q (.bytes (byteArr y) t) { s with heap := h', toks := tk' } := by
  subst e; exact hret _ _ _ _ ⟨⟨t, rfl⟩, rfl⟩ F fun p hp => N p (hs p hp)
theorem endL {x x' : List Int} {q : Addr} {vs : List Value} {c : Nat} {h' : Heap} {tk' : Nat} {news' : Led}
    (hret : ∀ (r : Value) (news' : Led) (h' : Heap) (tk' : Nat), RL news x r news' → Fr h₀ L h' m → News h₀ L h' news' → Q r { s with heap := h', toks := tk' })
    (F : Fr h₀ L h' m) (N : News h₀ L h' ((q, listOf (List.toArray vs) c) :: news')) (hs : ∀ p ∈ news, p ∈ news') (hi : IntsAre vs x') (l : ∀ p ∈ news, p.1 < q) (e1 : x' = x) : Q (.ref q) { s with heap := h', toks := tk' } := by
  subst e1
  exact hret _ _ _ _ ⟨q, vs, c, rfl, rfl, hi, l⟩ F fun p hp => N p (by
    rcases List.mem_cons.mp hp with rfl | hp
    · exact .head _
    · exact .tail _ (hs p hp))
end
theorem lt_last {a q : Addr} {news : Led} (h : @LT.lt Nat _ a q ∧ AllLt q news) : ∀ p ∈ news, p.1 < q := ktn_ltOf h.2
theorem lt_last2 {a b q : Addr} {news : Led} (h : @LT.lt Nat _ a q ∧ @LT.lt Nat _ b q ∧ AllLt q news) : ∀ p ∈ news, p.1 < q := ktn_ltOf h.2.2
theorem lt_last3 {a b c q : Addr} {news : Led} (h : @LT.lt Nat _ a q ∧ @LT.lt Nat _ b q ∧ @LT.lt Nat _ c q ∧ AllLt q news) : ∀ p ∈ news, p.1 < q := ktn_ltOf h.2.2.2
end SOgBase
section SOgSF0
open PySem PySem.W PyProof.Rows PySem.Calls PySem.Spec
set_option maxRecDepth 100000
set_option maxHeartbeats 4000000
section
variable {M : Model} {prog : Program} {w : World} {A : Around} {E : Value → Shared → Prop} {R : Result → Shared → Prop} {h : Heap} {g : Array GenState} {d : Drawn} {t : Nat} {os : OsState}
variable {nm q : Str} {C N : Addr} {bs bm bmB : List Value} {hdct : Bool} {sn : List Str} {sub : List Value} {ab : Bool} {col : Option Bool} {dd : Option Addr} {k0 k1 k2 k3 k5 : Option Value} {B newId initId : String}
theorem xsf_check_new (F : ExcBaseFacts B newId initId bmB) (hcB : bm.contains (.type B) = true) {rest : List Value} {Q : Unit → Shared → Prop} (hC : h.get? C = some (excClassObj nm q C N bs bm hdct sn sub ab col dd k0 k1 k2 k3 k5 newId))
    (hq : Q () ⟨h, g, d, t, os⟩) : wpAny M A (checkBuiltinCall newId ⟨.ref C :: rest, []⟩) Q E ⟨h, g, d, t, os⟩ := by
  have hcont : (Value.ref C :: bm).contains (.type B) = true := by rw [List.contains_cons, hcB, Bool.or_true]
  have hstar := F.noStar
  simp only [checkBuiltinCall, F.newKind, F.newSplit, F.newRow]
  repeat (first | refine wpAny_loadPart_at hC ?_ | (refine wpAny_isSubtype_exc hC ?_; rw [hcont]) | refine wpAny_staticBase_exc hC ?_ | refine wpAny_madeBy_exc hC ?_ | simp only [bne_self_eq_false, Bool.false_eq_true, if_false] | wp_step)
  exact hq
theorem xsf_new (F : ExcBaseFacts B newId initId bmB) (hB : bm.contains (.type B) = true) (hA : bm.contains (.type "AttributeError") = false) (hN : bm.contains (.type "NameError") = false) {rest : List Value} (hC : h.get? C = some (excClassObj nm q C N bs bm hdct sn sub ab col dd k0 k1 k2 k3 k5 newId))
    (hq : R (.ok (.ret (.ref (h.objs.size + 1)))) ⟨(h.push { cls := .type "tuple", data := .seq rest.toArray }).push
      { cls := .ref C, data := .fields #[.ref h.objs.size, .none, .none, .none, .bool false, .none] }, g, d, t, os⟩) (hrest : rest.length ≤ sizeLine := by size_fits) :
    codeAny (model prog w) A (.builtin newId ⟨.ref C :: rest, []⟩) R ⟨h, g, d, t, os⟩ := by
  have hends := F.ends
  have hcB : (Value.ref C :: bm).contains (.type B) = true := by rw [List.contains_cons, hB, Bool.or_true]
  have hcA : (Value.ref C :: bm).contains (.type "AttributeError") = false := by rw [List.contains_cons, hA]; rfl
  have hcN : (Value.ref C :: bm).contains (.type "NameError") = false := by rw [List.contains_cons, hN]; rfl
  refine codeAny_builtinAt F.entry ?_
  unfold Builtin.«BaseException.__new__»
  refine PySem.wpAt_bind ?_
  show PySem.wpAt _ _ _ (stack >>= _) _ _ _
  refine PySem.wpAt_bind (PySem.wpAt_stack fun p below => PySem.wpAt_of_wpAny ?_)
  wp_walk
  refine PySem.wpAt_of_wpAny ?_
  rw [F.owner]
  repeat (first | with_reducible refine wpAny_madeHere_exc F.canon hC ?_ | with_reducible refine wpAny_loadPart_at hC ?_ | (with_reducible refine wpAny_isSubtype_exc hC ?_; first | rw [hcB] | rw [hcA] | rw [hcN]) | wp_step)
  show R _ _
  rw [Heap.size_push]
  exact hq

theorem xsf_call (F : ExcBaseFacts B newId initId bmB) (hB : bm.contains (.type B) = true) (hA : bm.contains (.type "AttributeError") = false) (hN : bm.contains (.type "NameError") = false) {rest : List Value} {fI : Addr}
    (hC : h.get? C = some (excClassObj nm q C N bs bm hdct sn sub ab col dd k0 k1 k2 k3 k5 newId)) (hi : Looks (model prog w) h (typeLookup (.ref C) "__init__") (some (.ref fI)))
    (hb : ∀ self, Looks (model prog w) h (bindSpecial (.ref fI) self) (.ref fI, [self])) (hrest : rest.length ≤ sizeLine)
    (hq : codeAny (model prog w) (A.under (.builtin "type.__call__" ⟨.ref C :: rest, []⟩)) (.call (.ref fI) ⟨.ref (h.objs.size + 1) :: rest, []⟩) (InitBack (h.objs.size + 1) R)
      ⟨(h.push { cls := .type "tuple", data := .seq rest.toArray }).push { cls := .ref C, data := .fields #[.ref h.objs.size, .none, .none, .none, .bool false, .none] }, g, d, t, os⟩) :
    codeAny (model prog w) A (.call (.ref C) ⟨rest, []⟩) R ⟨h, g, d, t, os⟩ := by
  have f1 := tc_lookup
  have f2 := tc_bind (.ref C)
  have hT : (⟨h, g, d, t, os⟩ : Shared).TypeIs (.ref C) "type" := ⟨_, hC, rfl⟩
  refine codeAny_of_tree ?_
  show wpAny _ _ (callAny (.ref C) _) _ _ _
  repeat (any_goals (first | assumption | with_reducible refine wpAny_loadPart_at hC ?_ | wp_step))
  refine ⟨rfl, ?_⟩
  refine codeAny_call_builtin_at (Code.quiet_builtin _ (by decide +kernel)) entry_typeCall (wpAny_check_type_call_sub hC ?_)
  repeat (first | with_reducible refine wpAny_loadPart_at hC ?_ | with_reducible refine wpAny_madeBy_exc hC ?_ | wp_step)
  refine codeAny_call_builtin_code (Code.quiet_builtin _ F.quiet) (xsf_check_new F hB hC ?_)
  refine xsf_new F hB hA hN hC ?_ hrest
  show wpAny _ _ _ _ _ _
  have kk : ∀ b o, h.get? b = some o → ((h.push { cls := .type "tuple", data := .seq rest.toArray }).push
      { cls := .ref C, data := .fields #[.ref h.objs.size, .none, .none, .none, .bool false, .none] }).get? b = some o := fun b o e => Heap.get?_push_of_some _ (Heap.get?_push_of_some _ e)
  have hC₁ := kk _ _ hC
  have hget : ((h.push { cls := .type "tuple", data := .seq rest.toArray }).push
      { cls := .ref C, data := .fields #[.ref h.objs.size, .none, .none, .none, .bool false, .none] }).get? (h.objs.size + 1) = some
      { cls := .ref C, data := .fields #[.ref h.objs.size, .none, .none, .none, .bool false, .none] } := by heap_get
  have hcC : (Value.ref C :: bm).contains (.ref C) = true := by simp
  have i1 := hi.keeps kk
  have b1 := (hb (.ref (h.objs.size + 1))).keeps kk
  unfold isInstance
  repeat (first | with_reducible refine wpAny_loadPart_at hget ?_ | (with_reducible refine wpAny_isSubtype_exc hC₁ ?_; rw [hcC]) | wp_step)
  dsimp only
  refine wpAny_isSubtype_exc hC₁ ?_
  rw [hcC]
  repeat wp_step
  show wpAny _ _ (typeLookup (.ref C) _) _ _ _
  refine i1.here ?_
  dsimp only
  refine wpAny_holding (wpAny_bind (b1.here ?_))
  dsimp only
  refine wpAny_bind (wpAny_call (codeAny_mono hq fun r s' z => ?_))
  rcases r with e | (v | _ | _ | _) <;> first | exact z | exact z.elim | skip
  obtain ⟨rfl, z⟩ := z
  exact wpAny_pure (wpAny_pure z)

noncomputable def RaisableX (C : Addr) (oC : Obj) (E : Value → Shared → Prop) (v : Value) (s₁ : Shared) : Prop :=
  ∃ e dx tu, v = .ref e ∧ s₁.heap.get? C = some oC ∧ s₁.heap.get? e = some { cls := .ref C, dict := some dx, data := .fields #[.ref tu, .none, .none, .none, .bool false, .none] } ∧ E (.ref e) s₁
theorem xsf_raise {s : Shared} {env : Env} {ex : Expr} {pos : Pos} {Q : Flow → Shared → Prop} (hbase : bm.contains (.type "BaseException") = true) (hh : A.handled = none)
    (hx : wpAny M A (eval ex env) (RaisableX C (excClassObj nm q C N bs bm hdct sn sub ab col dd k0 k1 k2 k3 k5 newId) E) E s) : wpAny M A (exec (.Raise (some ex) none pos) env) Q E s := by
  have hcB : (Value.ref C :: bm).contains (.type "BaseException") = true := by rw [List.contains_cons, hbase, Bool.or_true]
  show wpAny M A (do standAt pos; raiseStmt env (some (do let v ← eval ex env; standAt pos; pure v)) none) Q E s
  refine wpAny_bind (wpAny_standAt ?_)
  unfold raiseStmt
  dsimp only
  refine wpAny_bind (wpAny_bind (wpAny_mono hx (fun v s₁ h₁ => wpAny_bind (wpAny_standAt (wpAny_pure ?_))) fun _ _ x => x))
  obtain ⟨e, dx, tu, rfl, hC, he, hE⟩ := h₁
  obtain ⟨hp, g, d, t, os⟩ := s₁
  repeat (first | with_reducible refine wpAny_loadPart_at he ?_ | with_reducible refine wpAny_loadPart_at hC ?_ | (with_reducible refine wpAny_isSubtype_exc hC ?_; rw [hcB]) | wp_step)
  exact wpAny_raiseNew_none hh hE
end
end SOgSF0
section SOgSF1
open PySem PySem.W PyProof.Rows PySem.Calls PySem.Spec
set_option maxRecDepth 100000
set_option maxHeartbeats 1000000
theorem sf_obj (w : World) : ∃ nm q N bs hdct sn sub ab col dd k0 k1 k2 k3 k5, (hd.heap_1 w.params).lookup 77 = some (excClassObj nm q 77 N bs [.ref 40, .type "Exception", .type "BaseException", .type "object"] hdct sn sub ab col dd k0 k1 k2 k3 k5 "Exception.__new__") := by
  refine ⟨?ax0, ?ax1, ?ax2, ?ax3, ?ax4, ?ax5, ?ax6, ?ax7, ?ax8, ?ax9, ?ax10, ?ax11, ?ax12, ?ax13, ?ax14, ?hhx⟩
  case hhx => with_unfolding_all rfl
theorem sf_init (w : World) : findIn (hd.heap_1 w.params) (.ref 77) "__init__" = some (some (.ref 30)) ∧ isFn (hd.heap_1 w.params) (.ref 30) = true ∧ typeIn (hd.heap_1 w.params) (.ref 30) = some (.type "function") := by
  refine ⟨?h1x, ?h2x, ?h3x⟩
  case h1x => k_is
  case h2x => k_is
  case h3x => exact beq_iff_eq.mp (show isFn (hd.heap_1 w.params) (.ref 30) = true by k_is)
end SOgSF1
section SOgSF3
open PySem PySem.W PyProof.Rows PySem.Calls PySem.Spec Builtin Builtin.ObjectAttr
set_option maxRecDepth 100000
set_option maxHeartbeats 4000000
section
variable {M : Model} {prog : Program} {w : World} {A : Around} {E : Value → Shared → Prop} {R : Result → Shared → Prop} {h : Heap} {g : Array GenState} {d : Drawn} {t : Nat} {os : OsState}
variable {nm q : Str} {C N : Addr} {bs bm bmB : List Value} {hdct : Bool} {sn : List Str} {sub : List Value} {ab : Bool} {col : Option Bool} {dd : Option Addr} {k0 k1 k2 k3 k5 : Option Value} {B newId initId : String}
theorem xsf_check_init (F : ExcBaseFacts B newId initId bmB) (hB : bm.contains (.type B) = true) {e : Addr} {oe : Obj} {rest : List Value} {Q : Unit → Shared → Prop}
    (hC : h.get? C = some (excClassObj nm q C N bs bm hdct sn sub ab col dd k0 k1 k2 k3 k5 newId)) (he : h.get? e = some oe) (hcls : oe.cls = .ref C) (hq : Q () ⟨h, g, d, t, os⟩) :
    wpAny M A (checkBuiltinCall initId ⟨.ref e :: rest, []⟩) Q E ⟨h, g, d, t, os⟩ := by
  have hcB : (Value.ref C :: bm).contains (.type B) = true := by rw [List.contains_cons, hB, Bool.or_true]
  have hshort := F.noStar
  simp only [checkBuiltinCall, F.initKind, F.initSplit, F.initRow]
  repeat (first | (with_reducible refine wpAny_loadPart_at he ?_; rw [hcls]) | with_reducible refine wpAny_loadPart_at hC ?_ | (with_reducible refine wpAny_isSubtype_exc hC ?_; rw [hcB]) | wp_step)
  refine wpAny_onRaise ?_
  rw [show ∀ (a b : String) (n : Nat), Bind.check ⟨.positional, "*", B, .self, [⟨"args", .varPos, false⟩]⟩ a b n (List.map (fun x => x.fst) ({ pos := Value.ref e :: rest } : Args).kw) = pure () from
    fun a b n => check_star_args _ _ _ _ _ _]
  exact wpAny_pure hq
noncomputable abbrev excO (C t : Addr) (d : Option Addr) : Obj := { cls := .ref C, dict := d, data := .fields #[.ref t, .none, .none, .none, .bool false, .none] }
noncomputable abbrev tupV (vs : List Value) : Obj := { cls := .type "tuple", data := .seq vs.toArray }
theorem xsf_init (F : ExcBaseFacts B newId initId bmB) (hB : bm.contains (.type B) = true) {e t0 : Addr} {od : Option Addr} {rest : List Value} {Q : Value → Shared → Prop}
    (hC : h.get? C = some (excClassObj nm q C N bs bm hdct sn sub ab col dd k0 k1 k2 k3 k5 newId)) (he : h.get? e = some (excO C t0 od)) (hrest : rest.length ≤ sizeLine)
    (hq : Q .none ⟨(h.push (tupV rest)).update e (Obj.mapFields fun x => x.setIfInBounds 0 (Value.ref h.objs.size)), g, d, t, os⟩) : wpAny (model prog w) A (call (.builtin initId) (.ref e :: rest)) Q E ⟨h, g, d, t, os⟩ := by
  refine wpAny_call (codeAny_call_builtin F.init.plain F.initEntry (xsf_check_init F hB hC he rfl ?_))
  wp_walk
  exact hq
end
section
variable {prog : Program} {w : World} {A : Around} {E : Value → Shared → Prop} {R : Result → Shared → Prop} {s : Shared} {h₀ : Heap} {L : Addr} {m : Str → Option Value} {news : Led} {K : Frag} {C : Addr}
variable {nm q : Str} {N : Addr} {bs bm bmB : List Value} {hdct : Bool} {sn : List Str} {sub : List Value} {ab : Bool} {col : Option Bool} {dd : Option Addr} {k0 k1 k2 k3 k5 : Option Value} {B newId initId : String}
theorem xsf_initK (FB : ExcBaseFacts B newId initId bmB) (hB : bm.contains (.type B) = true) {e t0 : Addr} {od : Option Addr} {rest : List Value} {Q : Value → Shared → Prop} (F : Fr h₀ L s.heap m) (X₀ : K.In h₀)
    (hCK : K.lookup C = some (excClassObj nm q C N bs bm hdct sn sub ab col dd k0 k1 k2 k3 k5 newId)) (Nw : News h₀ L s.heap ((e, excO C t0 od) :: news)) (hne : ∀ p ∈ news, p.1 ≠ e) (hrest : rest.length ≤ sizeLine)
    (hq : ∀ t1 h', Fr h₀ L h' m → News h₀ L h' ((t1, tupV rest) :: (e, excO C t1 od) :: news) → (∀ p ∈ (e, excO C t0 od) :: news, p.1 < t1) → Q .none { s with heap := h' }) :
    wpAny (model prog w) A (call (.builtin initId) (.ref e :: rest)) Q E s := by
  obtain ⟨hh, g, d, t, os⟩ := s
  have he := (Nw _ (.head _)).1
  refine xsf_init FB hB (F.keep _ _ (X₀ _ _ hCK)) he hrest ?_
  have F1 := F.push (tupV rest)
  have N1 := Nw.push F (tupV rest)
  have lt : ∀ p ∈ (e, excO C t0 od) :: news, p.1 < hh.objs.size := fun p hp => Heap.lt_size (Nw p hp).1
  obtain ⟨F2, N2⟩ := news_upd (d := e) (o := excO C t0 od) (o' := excO C hh.objs.size od) (pre := [(hh.objs.size, tupV rest)]) (post := news) (f := Obj.mapFields fun x => x.setIfInBounds 0 (Value.ref hh.objs.size)) F1 N1 (fun p hp => by
    rw [List.mem_singleton.mp hp]; exact Nat.ne_of_gt (lt _ (.head _))) hne rfl rfl
  exact hq _ _ F2 N2 lt
theorem xsf_open {x : Addr} {ox : Obj} {od : Option Obj} {name : Str} {tk : Tok} {v : Value} {cd : ClassData} (X : K.In s.heap) (I : InstAt s.heap x ox C od) (hc : clsIn K C = some cd) (ne : cd.mro.isEmpty = false) (ho : cd.mro.contains (.type "object") = true)
    (hre : refuseLoop (.ref x) "__setattr__" cd.mro = pure ()) (ht : takerIn K C name = some none)
    (h : ∀ b, wpAny (model prog w) A.in1 (Builtin.ObjectAttr.storeInOwnDict (.ref x) (.ref C) (.str name tk) name v b)
      (fun fin s' => match fin with | .done f => R (.ok f) s' | .again c' => c'.quiet = true ∧ codeAny (model prog w) A c' R s') (fun e s' => R (.error e) s') s) :
    codeAny (model prog w) A (.call (.builtin "object.__setattr__") ⟨[.ref x, .str name tk, v], []⟩) R s := by
  have SF := PySem.F.store_object
  have sub : Looks (model prog w) s.heap (isInstance (.ref x) (.type "object")) true := I.type.andThen (looks_mroIn X (by unfold mroIn; rw [hc, Option.bind_some, if_neg (by rw [ne]; decide), ho]))
  refine codeAny_call_builtin SF.slot.plain SF.entry (@check_slot (model prog w) _ _ s "object.__setattr__" "object" "__setattr__" (.ref x) [.str name tk, v] [] _ SF.kind SF.split sub (SF.args (.ref x) (.str name tk) v) ?_)
  obtain ⟨attr, ha, hr⟩ := Option.bind_eq_some_iff.mp ht
  have hm : Looks (model prog w) s.heap (mroOf (.ref C)) cd.mro := (looks_clsIn X hc).andThen .now
  have L3 : Looks (model prog w) s.heap (storeTaker? attr) none := by
    cases attr with
    | none => exact .now
    | some a =>
      obtain ⟨b, hb, hbb⟩ := Option.map_eq_some_iff.mp hr
      refine (looks_takesIn X hb).andThen ?_
      cases b
      · exact .now
      · simp at hbb
  rw [osa_eq, refuse_eq]
  refine wpAny_bind (wpAny_bind (I.type.here (wpAny_bind (hm.here ?_))))
  rw [hre]
  refine wpAny_pure (wpAny_bind (I.type.here (wpAny_bind ((looks_findIn X ha).here (wpAny_bind (L3.here ?_))))))
  exact h _
theorem refuse_exc (self : Value) : refuseLoop self "__setattr__" [.type "Exception", .type "BaseException", .type "object"] = pure () := PySem.F.store_Exception.passes self

theorem xsf_store {od od' : Obj} {dx : Addr} {name : Str} {tk : Tok} {v : Value} {pre post : List (Addr × Obj)} {es : List DictEntry} {n : Nat} {Q : Fin → Shared → Prop} (F : Fr h₀ L s.heap m) (N : News h₀ L s.heap (pre ++ (dx, od) :: post))
    (hl : (lookIn name od).isSome = true) (h1 : ∀ p ∈ pre, p.1 ≠ dx) (h2 : ∀ p ∈ post, p.1 ≠ dx)
    (e : Obj.putName name (PyData.keyHash w.params name) (.str name s.toks) v od = od') (e' : od'.data = .dict es.toArray n) (hz : es.length ≤ 1000)
    (h : ∀ h', Fr h₀ L h' m → News h₀ L h' (pre ++ (dx, od') :: post) → Q (.done (.ret .none)) { s with heap := h', toks := s.toks + 1 }) :
    wpAny (model prog w) A (storeInDict dx (.str name tk) name v) Q E s := by
  obtain ⟨U1, U2⟩ := news_upd (f := Obj.putName name (PyData.keyHash w.params name) (.str name s.toks) v) F N h1 h2 e (by obtain ⟨_, _, dd, _⟩ := od'; cases e'; rfl)
  have D := (N (dx, od) (by simp)).1
  have D' := (U2 (dx, od') (by simp)).1
  unfold storeInDict
  refine wpAny_bind (wpAny_pure (wpAny_bind ?_))
  unfold nsSet
  refine wpAny_bind (wpAny_bind (wpAny_askSetting (wpAny_pure (wpAny_bind (wpAny_mkText (wpAny_bind (wpAny_loadPart D ?_)))))))
  unfold lookIn at hl
  split at hl
  · rename_i es₀ n₀ q
    rw [q]
    dsimp only
    have c : (!es₀.any (·.key.isStr name) && es₀.any (·.refKey)) = false := by
      rw [← Array.any_toList, ← Array.any_toList]
      split at hl
      · rename_i en he
        rw [List.any_eq_true.mpr ⟨en, List.mem_of_find?_eq_some he, List.find?_some he⟩]; rfl
      · split at hl
        · cases hl
        · rename_i z; rw [Bool.not_eq_true] at z; rw [z, Bool.and_false]
    rw [aRefKeyMayBeTheName_at, c]
    refine wpAny_updatePart D ?_
    refine wpAny_bind (wpAny_lookBehind D' (by rw [e']; exact pastItsLine_dict (by rw [List.size_toArray, sizeLine_eq]; lia)) ?_)
    exact wpAny_pure (h _ U1 U2)
  · cases hl
theorem xsf_set2 {e t dx : Addr} {name : Str} {v : Value} {pre post : Led} {es es' : List DictEntry} {n n' : Nat} {cd : ClassData} {Q : Unit → Shared → Prop} (F : Fr h₀ L s.heap m) (X₀ : K.In h₀) (N : News h₀ L s.heap (pre ++ (dx, dictOf es n) :: post)) (he : s.heap.get? e = some (excO C t (some dx)))
    (hs : findIn K (.ref C) "__setattr__" = some (some (.builtin "object.__setattr__"))) (hc : clsIn K C = some cd) (hd : cd.hasDict = true) (ne : cd.mro.isEmpty = false) (ho : cd.mro.contains (.type "object") = true)
    (hre : refuseLoop (.ref e) "__setattr__" cd.mro = pure ()) (ht : takerIn K C name = some none) (hl : (getL name es).isSome = true) (h1 : ∀ p ∈ pre, p.1 ≠ dx) (h2 : ∀ p ∈ post, p.1 ≠ dx)
    (ep' : (putL name (PyData.keyHash w.params name) (.str name (s.toks + 1)) v es, putN name es n) = (es', n')) (hz : es'.length ≤ 1000)
    (h : ∀ h', Fr h₀ L h' m → News h₀ L h' (pre ++ (dx, dictOf es' n') :: post) → Q () { s with heap := h', toks := s.toks + 2 }) :
    wpAny (model prog w) A (setAttr (.ref e) name v) Q E s := by
  obtain ⟨e1, e2⟩ := Prod.mk.inj ep'
  have ep : Obj.putName name (PyData.keyHash w.params name) (.str name (s.toks + 1)) v (dictOf es n) = dictOf es' n' := by rw [putName_dict, e1, e2]
  have X := X₀.keeps F.keep
  have I : InstAt s.heap e (excO C t (some dx)) C (some (dictOf es n)) := ⟨he, rfl, rfl, (N (dx, dictOf es n) (by simp)).1⟩
  refine set_plain X I hs (xsf_open (s := { s with toks := s.toks + 1 }) X I hc ne ho hre ht fun b => ?_)
  refine wpAny_bind (wpAny_pure (wpAny_bind (wpAny_bind (wpAny_loadPart (show Heap.get? _ _ = _ from he) (wpAny_bind (Looks.here (s := { s with toks := s.toks + 1 }) (looks_clsIn X hc) ?_))))))
  rw [hd]
  refine wpAny_pure (a := some dx) ?_
  exact xsf_store (s := { s with toks := s.toks + 1 }) F N hl h1 h2 ep rfl hz fun h' F' N' => h h' F' N'

theorem xsf_set1 {e t : Addr} {name : Str} {v : Value} {es' : List DictEntry} {n' : Nat} {cd : ClassData} {Q : Unit → Shared → Prop} (F : Fr h₀ L s.heap m) (X₀ : K.In h₀) (N : News h₀ L s.heap ((e, excO C t none) :: news)) (hne : ∀ p ∈ news, p.1 ≠ e)
    (hs : findIn K (.ref C) "__setattr__" = some (some (.builtin "object.__setattr__"))) (hc : clsIn K C = some cd) (hd : cd.hasDict = true) (ne : cd.mro.isEmpty = false) (ho : cd.mro.contains (.type "object") = true)
    (hre : refuseLoop (.ref e) "__setattr__" cd.mro = pure ()) (ht : takerIn K C name = some none)
    (ep' : (putL name (PyData.keyHash w.params name) (.str name (s.toks + 1)) v [], putN name [] 0) = (es', n')) (hz : es'.length ≤ 1000)
    (h : ∀ dx h', Fr h₀ L h' m → News h₀ L h' ((dx, dictOf es' n') :: (e, excO C t (some dx)) :: news) → (∀ p ∈ (e, excO C t none) :: news, p.1 < dx) → Q () { s with heap := h', toks := s.toks + 2 }) :
    wpAny (model prog w) A (setAttr (.ref e) name v) Q E s := by
  obtain ⟨e1, e2⟩ := Prod.mk.inj ep'
  have ep : Obj.putName name (PyData.keyHash w.params name) (.str name (s.toks + 1)) v (dictOf [] 0) = dictOf es' n' := by rw [putName_dict, e1, e2]
  obtain ⟨hh, g, d, tk, os⟩ := s
  have X := X₀.keeps F.keep
  have he := (N _ (.head _)).1
  have I : InstAt hh e (excO C t none) C none := ⟨he, rfl, rfl, trivial⟩
  refine set_plain X I hs (xsf_open (s := ⟨hh, g, d, tk + 1, os⟩) X I hc ne ho hre ht fun b => ?_)
  refine wpAny_bind (wpAny_pure (wpAny_bind (wpAny_bind (wpAny_loadPart he (wpAny_bind (Looks.here (s := ⟨hh, g, d, tk + 1, os⟩) (looks_clsIn X hc) ?_))))))
  rw [hd]
  have lt : ∀ p ∈ (e, excO C t none) :: news, p.1 < hh.objs.size := fun p hp => Heap.lt_size (N p hp).1
  have F1 := F.push (dictOf [] 0)
  have N1 := N.push F (dictOf [] 0)
  obtain ⟨F2, N2⟩ := news_upd (d := e) (o := excO C t none) (o' := excO C t (some hh.objs.size)) (pre := [(hh.objs.size, dictOf [] 0)]) (post := news) (f := fun o => { o with dict := some hh.objs.size }) F1 N1 (fun p hp => by
    rw [List.mem_singleton.mp hp]; exact Nat.ne_of_gt (lt _ (.head _))) hne rfl rfl
  refine wpAny_bind (wpAny_alloc (wpAny_bind (wpAny_update (N1 _ (.tail _ (.head _))).1 ?_)))
  refine wpAny_bind (wpAny_pure (wpAny_pure ?_))
  exact xsf_store (s := ⟨(hh.push (dictOf [] 0)).update e (fun o => { o with dict := some hh.objs.size }), g, d, tk + 1, os⟩) (pre := []) (post := (e, excO C t (some hh.objs.size)) :: news) F2 N2 rfl (fun _ h => nomatch h) (fun p hp => by
    rcases List.mem_cons.mp hp with rfl | hp
    · exact Nat.ne_of_lt (lt (e, excO C t none) (.head _))
    · exact Nat.ne_of_lt (lt _ (.tail _ hp))) ep rfl hz fun h' F' N' => h _ h' F' N' lt
end
end SOgSF3
section SOgP
theorem tnS {a k : Int} (h : 0 ≤ k) : (a - k).toNat = a.toNat - k.toNat := by
  obtain ⟨n, rfl⟩ := Int.eq_ofNat_of_zero_le h
  rw [Int.toNat_sub', Int.toNat_natCast]
theorem tnP (n : Nat) : ((n : Int) - 1).toNat = n - 1 := Int.toNat_sub n 1
theorem tnQ (y : Int) : (y - 1).toNat = y.toNat - 1 := Int.toNat_sub' y 1
theorem mx1 (a b : Nat) : (max (a : Int) (b : Int) - (a : Int)).toNat = max a b - a := by
  rcases Nat.le_total a b with h | h
  · rw [Int.max_eq_right (Int.ofNat_le.mpr h), Nat.max_eq_right h, Int.toNat_sub]
  · rw [Int.max_eq_left (Int.ofNat_le.mpr h), Nat.max_eq_left h, Int.toNat_sub]
theorem mx2 (a b : Nat) : (max (a : Int) (b : Int) - (b : Int)).toNat = max a b - b := by
  rw [Int.max_comm, Nat.max_comm]; exact mx1 b a
theorem mx3 (a b : Nat) : (max (a : Int) (b : Int)).toNat = max a b := by
  rcases Nat.le_total a b with h | h
  · rw [Int.max_eq_right (Int.ofNat_le.mpr h), Nat.max_eq_right h, Int.toNat_natCast]
  · rw [Int.max_eq_left (Int.ofNat_le.mpr h), Nat.max_eq_left h, Int.toNat_natCast]
theorem way5 : ∀ n : Nat, n < 5 → n = 0 ∨ n = 1 ∨ n = 2 ∨ n = 3 ∨ n = 4 := by decide

/-! plain functions: what the program reckons -/
noncomputable def dec (u : Int) : Nat → Int × Nat
  | 0 => (u, 0)
  | n + 1 => if u % 10 = 0 then dec (u / 10) n else (u, n + 1)
theorem dec_val : ∀ (n : Nat) (u : Int), (dec u n).1 * 10 ^ (n - (dec u n).2) = u ∧ (dec u n).2 ≤ n
  | 0, u => by simp [dec]
  | n + 1, u => by
    unfold dec
    split
    · have ⟨h1, h2⟩ := dec_val n (u / 10)
      refine ⟨?_, by lia⟩
      have e : n + 1 - (dec (u / 10) n).2 = (n - (dec (u / 10) n).2) + 1 := by lia
      rw [e, Int.pow_succ, ← Int.mul_assoc, h1]
      lia
    · simp
theorem dec_step (u : Int) (n : Nat) (hn : 0 < n) (h : u % 10 = 0) : dec (u / 10) (n - 1) = dec u n := by
  cases n with
  | zero => lia
  | succ n => simp [dec, h]
theorem dec_stop (u : Int) (n : Nat) (h : n = 0 ∨ u % 10 ≠ 0) : dec u n = (u, n) := by
  cases n with
  | zero => rfl
  | succ n =>
    rcases h with h | h
    · lia
    · simp [dec, h]
theorem dec_abs : ∀ (n : Nat) (u : Int), (dec u n).1.natAbs ≤ u.natAbs
  | 0, u => by simp [dec]
  | n + 1, u => by
    unfold dec
    split
    · have := dec_abs n (u / 10)
      have : (u / 10).natAbs ≤ u.natAbs := by lia
      lia
    · simp

/-- top over bottom, cut toward nought or rounded half away from it -/
noncomputable def rnd (r : Bool) (a b : Int) : Int :=
  let q : Nat := if r then (2 * a.natAbs + b.natAbs) / (2 * b.natAbs) else a.natAbs / b.natAbs
  if (decide (a < 0)) != (decide (b < 0)) then -(q : Int) else q
theorem rnd_scale (r : Bool) (a b k : Int) (hk : k ≠ 0) (hb : b ≠ 0) : rnd r (a * k) (b * k) = rnd r a b := by
  have hk' : 0 < k.natAbs := by lia
  have e : (2 * (a * k).natAbs + (b * k).natAbs) / (2 * (b * k).natAbs) = (2 * a.natAbs + b.natAbs) / (2 * b.natAbs) := by
    rw [Int.natAbs_mul, Int.natAbs_mul, ← Nat.mul_assoc, ← Nat.mul_assoc, ← Nat.add_mul, Nat.mul_div_mul_right _ _ hk']
  have e2 : (a * k).natAbs / (b * k).natAbs = a.natAbs / b.natAbs := by
    rw [Int.natAbs_mul, Int.natAbs_mul, Nat.mul_div_mul_right _ _ hk']
  unfold rnd
  rw [e, e2]
  by_cases ha : a = 0
  · subst ha
    simp
    have : b.natAbs / (2 * b.natAbs) = 0 := Nat.div_eq_of_lt (by lia)
    cases r <;> simp [this]
  · have s : (decide (a * k < 0) != decide (b * k < 0)) = (decide (a < 0) != decide (b < 0)) := by
      rcases Int.lt_or_gt_of_ne hk with hk | hk
      · have h1 : a * k < 0 ↔ 0 < a := by
          constructor
          · intro h; rcases Int.lt_or_gt_of_ne ha with h' | h'
            · have := Int.mul_pos_of_neg_of_neg h' hk; lia
            · exact h'
          · intro h; exact Int.mul_neg_of_pos_of_neg h hk
        have h2 : b * k < 0 ↔ 0 < b := by
          constructor
          · intro h; rcases Int.lt_or_gt_of_ne hb with h' | h'
            · have := Int.mul_pos_of_neg_of_neg h' hk; lia
            · exact h'
          · intro h; exact Int.mul_neg_of_pos_of_neg h hk
        have h3 : decide (a * k < 0) = decide (0 < a) := by simp [h1]
        have h4 : decide (b * k < 0) = decide (0 < b) := by simp [h2]
        rw [h3, h4]
        by_cases x : 0 < a <;> by_cases y : 0 < b
        · have : ¬ a < 0 := by lia
          have : ¬ b < 0 := by lia
          simp [*]
        · have : ¬ a < 0 := by lia
          have : b < 0 := by lia
          simp [*]
        · have : a < 0 := by lia
          have : ¬ b < 0 := by lia
          simp [*]
        · have : a < 0 := by lia
          have : b < 0 := by lia
          simp [*]
      · have h1 : a * k < 0 ↔ a < 0 := by
          constructor
          · intro h; rcases Int.lt_or_gt_of_ne ha with h' | h'
            · exact h'
            · have := Int.mul_pos h' hk; lia
          · intro h; exact Int.mul_neg_of_neg_of_pos h hk
        have h2 : b * k < 0 ↔ b < 0 := by
          constructor
          · intro h; rcases Int.lt_or_gt_of_ne hb with h' | h'
            · exact h'
            · have := Int.mul_pos h' hk; lia
          · intro h; exact Int.mul_neg_of_neg_of_pos h hk
        simp [h1, h2]
    rw [s]
theorem rnd_cross (r : Bool) (a b c d : Int) (hb : b ≠ 0) (hd : d ≠ 0) (h : a * d = c * b) : rnd r a b = rnd r c d := by
  rw [← rnd_scale r a b d hd hb, ← rnd_scale r c d b hb hd, h, Int.mul_comm d b]

/-- the program's units_at -/
noncomputable def unitsAt (u : Int) (sc at_ : Nat) (r : Bool) : Int := if sc ≤ at_ then u * 10 ^ (at_ - sc) else rnd r u (10 ^ (sc - at_))
theorem rnd_whole (r : Bool) (a b : Int) (hb : b ≠ 0) : rnd r (a * b) b = a := by
  have h := rnd_scale r a 1 b hb (by lia)
  rw [Int.one_mul] at h
  rw [h]
  unfold rnd
  have e1 : (2 * a.natAbs + (1 : Int).natAbs) / (2 * (1 : Int).natAbs) = a.natAbs := by
    show (2 * a.natAbs + 1) / 2 = a.natAbs
    lia
  have e2 : a.natAbs / (1 : Int).natAbs = a.natAbs := Nat.div_one _
  rw [e1, e2, ite_self]
  by_cases x : a < 0
  · simp [x]; lia
  · simp [x]; lia
theorem pow10_ne (n : Nat) : (10 : Int) ^ n ≠ 0 := Int.ne_of_gt (Int.pow_pos (by lia))
theorem pow10_pos (n : Nat) : (0 : Int) < 10 ^ n := Int.pow_pos (by lia)
theorem unitsAt_rnd (u : Int) (sc k : Nat) (r : Bool) : unitsAt u sc k r = rnd r (u * 10 ^ k) (10 ^ sc) := by
  unfold unitsAt
  split
  · rename_i h
    have e : (10 : Int) ^ k = 10 ^ (k - sc) * 10 ^ sc := by rw [← Int.pow_add]; congr 1; lia
    rw [e, ← Int.mul_assoc, rnd_whole _ _ _ (pow10_ne sc)]
  · rename_i h
    have e : (10 : Int) ^ sc = 10 ^ (sc - k) * 10 ^ k := by rw [← Int.pow_add]; congr 1; lia
    rw [e, rnd_scale _ _ _ _ (pow10_ne k) (pow10_ne _)]
/-- a rounding behind a cut at more places -/
theorem nat_cut_cut (n d m : Nat) : n / d / m = n / (d * m) := Nat.div_div_eq_div_mul n d m
theorem nat_cut_half (n d m : Nat) (hd : 0 < d) : (2 * (n / d) + 2 * m) / (2 * (2 * m)) = (2 * n + d * (2 * m)) / (2 * (d * (2 * m))) := by
  have e1 : (2 * (n / d) + 2 * m) / (2 * (2 * m)) = (n / d + m) / (2 * m) := by
    rw [← Nat.mul_add, Nat.mul_div_mul_left _ _ (by lia)]
  have e2 : n / d + m = (n + m * d) / d := (Nat.add_mul_div_right n m hd).symm
  have e3 : (2 * n + d * (2 * m)) / (2 * (d * (2 * m))) = (n + m * d) / (d * (2 * m)) := by
    rw [← Nat.mul_div_mul_left (n + m * d) (d * (2 * m)) (show 0 < 2 by lia)]
    congr 1
    rw [Nat.mul_add]
    congr 1
    rw [Nat.mul_left_comm, Nat.mul_comm d m]
  rw [e1, e2, e3, Nat.div_div_eq_div_mul]
theorem rnd_cut (r : Bool) (a b : Int) (m : Nat) (hb : b ≠ 0) (hm : 0 < m) : rnd r (rnd false a b) (2 * (m : Int)) = rnd r a (b * (2 * (m : Int))) := by
  have h0 : 0 < b.natAbs := by lia
  have hn : (rnd false a b).natAbs = a.natAbs / b.natAbs := by
    unfold rnd
    simp only [Bool.false_eq_true, if_false]
    split
    · rw [Int.natAbs_neg, Int.natAbs_natCast]
    · rw [Int.natAbs_natCast]
  have hm2 : (2 * (m : Int)).natAbs = 2 * m := by lia
  have hbm : (b * (2 * (m : Int))).natAbs = b.natAbs * (2 * m) := by rw [Int.natAbs_mul, hm2]
  have q : (if r = true then (2 * (rnd false a b).natAbs + (2 * (m : Int)).natAbs) / (2 * (2 * (m : Int)).natAbs) else (rnd false a b).natAbs / (2 * (m : Int)).natAbs)
      = (if r = true then (2 * a.natAbs + (b * (2 * (m : Int))).natAbs) / (2 * (b * (2 * (m : Int))).natAbs) else a.natAbs / (b * (2 * (m : Int))).natAbs) := by
    rw [hn, hm2, hbm]
    cases r
    · simp only [Bool.false_eq_true, if_false]; exact nat_cut_cut _ _ _
    · simp only [if_true]; exact nat_cut_half _ _ _ h0
  show (if (decide (rnd false a b < 0)) != (decide (2 * (m : Int) < 0)) then -((if r = true then (2 * (rnd false a b).natAbs + (2 * (m : Int)).natAbs) / (2 * (2 * (m : Int)).natAbs) else (rnd false a b).natAbs / (2 * (m : Int)).natAbs : Nat) : Int) else _) = _
  rw [q]
  unfold rnd
  generalize hK : (if r = true then (2 * a.natAbs + (b * (2 * (m : Int))).natAbs) / (2 * (b * (2 * (m : Int))).natAbs) else a.natAbs / (b * (2 * (m : Int))).natAbs) = K
  have s2 : decide (2 * (m : Int) < 0) = false := decide_eq_false (by lia)
  have s3 : decide (b * (2 * (m : Int)) < 0) = decide (b < 0) := by
    have : b * (2 * (m : Int)) < 0 ↔ b < 0 := by
      constructor
      · intro h
        rcases Int.lt_or_gt_of_ne hb with h' | h'
        · exact h'
        · have := Int.mul_pos h' (show (0 : Int) < 2 * (m : Int) by lia); lia
      · intro h; exact Int.mul_neg_of_neg_of_pos h (by lia)
    simp [this]
  rw [s2, s3]
  simp only [Bool.false_eq_true, if_false]
  by_cases hz : a.natAbs / b.natAbs = 0
  · have hlt : a.natAbs < b.natAbs := by
      rcases Nat.lt_or_ge a.natAbs b.natAbs with h | h
      · exact h
      · have := Nat.div_pos h h0; lia
    have hK0 : K = 0 := by
      rw [← hK, hbm]
      have hge : b.natAbs * 2 ≤ b.natAbs * (2 * m) := Nat.mul_le_mul_left _ (by lia)
      cases r
      · simp only [Bool.false_eq_true, if_false]
        exact Nat.div_eq_of_lt (by lia)
      · simp only [if_true]
        exact Nat.div_eq_of_lt (by lia)
    subst hK0
    simp
  · have hpos : 0 < a.natAbs / b.natAbs := by lia
    generalize a.natAbs / b.natAbs = k at hpos
    cases x : (decide (a < 0) != decide (b < 0)) with
    | true =>
      have h2 : decide (-(k : Int) < 0) = true := decide_eq_true (by lia)
      simp only [if_true, h2]
      rfl
    | false =>
      have h2 : decide ((k : Int) < 0) = false := decide_eq_false (by lia)
      simp only [Bool.false_eq_true, if_false, h2]
      rfl

/-! figures and octets -/
noncomputable def figs (n : Int) (c : Nat) : List Int := ((List.range c).map fun i => n / 10 ^ i % 10).reverse
theorem figs_length (n : Int) (c : Nat) : (figs n c).length = c := by simp [figs]
theorem figs_in {n : Int} {c : Nat} {d : Int} (h : d ∈ figs n c) : 0 ≤ d ∧ d ≤ 9 := by
  unfold figs at h
  rw [List.mem_reverse] at h
  obtain ⟨i, _, rfl⟩ := List.mem_map.mp h
  lia
noncomputable def rowP (d : Int) : Int := if d = 0 then 123 else 64 + d
noncomputable def rowM (d : Int) : Int := if d = 0 then 125 else 73 + d
theorem rowP_nat : ∀ n : Nat, n < 10 → [123, 65, 66, 67, 68, 69, 70, 71, 72, (73 : Int)].getD (48 + (n : Int) - 48).toNat 0 = rowP n := by decide
theorem rowP_eq {d : Int} (h0 : 0 ≤ d) (h1 : d ≤ 9) : [123, 65, 66, 67, 68, 69, 70, 71, 72, (73 : Int)].getD (48 + d - 48).toNat 0 = rowP d := by
  obtain ⟨n, rfl⟩ := Int.eq_ofNat_of_zero_le h0
  exact rowP_nat n (by lia)
theorem rowM_nat : ∀ n : Nat, n < 10 → [125, 74, 75, 76, 77, 78, 79, 80, 81, (82 : Int)].getD (48 + (n : Int) - 48).toNat 0 = rowM n := by decide
theorem rowM_eq {d : Int} (h0 : 0 ≤ d) (h1 : d ≤ 9) : [125, 74, 75, 76, 77, 78, 79, 80, 81, (82 : Int)].getD (48 + d - 48).toNat 0 = rowM d := by
  obtain ⟨n, rfl⟩ := Int.eq_ofNat_of_zero_le h0
  exact rowM_nat n (by lia)
/-- the number that figures tell -/
noncomputable def joinF (fs : List Int) : Int := fs.foldl (fun a d => 10 * a + d) 0
/-- half octets, two an octet -/
noncomputable def packO (hs : List Int) (n : Nat) : List Int := (List.range n).map fun i => 16 * hs.getD (2 * i) 0 + hs.getD (2 * i + 1) 0
noncomputable def markOf (neg signed : Bool) : Int := if signed = true then (if neg = true then 13 else 12) else 15
/-- the octets of a number in two's complement, the highest first -/
noncomputable def binO (n : Int) (c : Nat) : List Int := ((List.range c).map fun i => n / 256 ^ i % 256).reverse
/-- the octets of figures in display -/
noncomputable def dispO (ds : List Int) (neg lead sep signed : Bool) : List Int :=
  if signed = false then ds.map (48 + ·)
  else if sep = true then (if lead = true then [if neg then 45 else 43] ++ ds.map (48 + ·) else ds.map (48 + ·) ++ [if neg then 45 else 43])
  else if lead = true then (ds.map (48 + ·)).set 0 (if neg then rowM (ds.getD 0 0) else rowP (ds.getD 0 0))
  else (ds.map (48 + ·)).set (ds.length - 1) (if neg then rowM (ds.getD (ds.length - 1) 0) else rowP (ds.getD (ds.length - 1) 0))
end SOgP
theorem wd2 : True := by
  k_with "ktr_call rest" => ((case kA => exact rfl); (case kF => exact rfl); (case kK => assumption); (case k1 => k_asm); (case k2 => k_asm); (case k3 => k_asm); (case k4 => k_asm); (case k5 => k_asm); (case k6 => k_is); (case k7 => k_is); (case k8 => ktr_room); (case k9 => first | exact BindsTo.of_eq rfl | exact binds_K (by k_in) rfl (by k_is) rfl rfl rfl); (case c5 => decide); (case kB => exact locs rfl); (case c2 => exact rfl); (case c3 => exact rfl); (case c4 => exact rfl); k_whole; intro g'zz L'zz h'zz FG'zz F'zz N'zz B'zz X'zz T'zz; (try dsimp only); (try k_lift B'zz); (try k_fold))
  trivial
set_option hygiene false in
local macro_rules | `(tactic| ktr_call $b:term $f:term) => `(tactic| (refine wpAny_call ?_; k_dflt (refine' code_def (f := $f) (binds := $b) ?k1 ?k2 ?k3 ?k4 ?k5 ?kA ?kF ?kK ?k6 ?k7 ?k8 ?k9 ?kB ?_ ?c2 ?c3 ?c4 ?c5; k_extra "ktr_call rest")))
theorem wd3 : True := by
  k_with "ask five" => ((case k1 => k_asm); (case k2 => k_asm); (case k3 => k_asm); (case k4 => k_asm); (case k5 => k_asm))
  k_with "ask rest" => ((case kK => first | exact rfl | assumption); (case kd => ktr_room); (case ku => ktr_units); k_whole)
  trivial
set_option hygiene false in
local macro_rules | `(tactic| cell_ask $C:term) => `(tactic| (k_dflt (refine' $C ?k1 ?k2 ?k3 ?k4 ?k5 ?kK ?kd ?ku ?_; k_extra "ask five"; k_extra "ask rest")))
section SOgA
open PySem PySem.W PyProof.Rows PySem.Calls
set_option maxRecDepth 100000
set_option maxHeartbeats 8000000

theorem rs_OgA : True := by
  w_top off
  trivial
/-! sizes of ints -/
noncomputable abbrev bits (a : Int) : Nat := Builtin.Int.intBits a
theorem bits_ten {n : Nat} (h : n ≤ 200) : Builtin.Int.intBits ((10 : Int) ^ n) ≤ 801 :=
  Nat.le_trans (intBits_pow_le (m := 4) (intBits_le_iff.mpr (by decide)) n) (by lia)
theorem lg_of_bits {a : Int} {m : Nat} (h : Builtin.Int.intBits a ≤ m) (hm : m ≤ 8999) : a.natAbs.log2 < 9000 := by
  have h1 := intBits_le_iff.mp h
  by_cases h0 : a.natAbs = 0
  · rw [h0]; decide
  · have := (Nat.log2_lt h0).mpr h1
    lia
theorem ten_ne (n : Nat) : (10 : Int) ^ n ≠ 0 := pow10_ne n
theorem two_ten_ne (n : Nat) : (2 : Int) * 10 ^ n ≠ 0 := by have := pow10_pos n; lia
theorem ten_pos (n : Nat) : (0 : Int) < 10 ^ n := pow10_pos n
theorem abs_ite (a : Int) : (if a < 0 then -a else a) = (a.natAbs : Int) := by split <;> lia
theorem abs_ne {a : Int} (h : a ≠ 0) : (if a < 0 then -a else a) ≠ 0 := by split <;> lia
theorem fdiv_abs (a b : Int) : (if a < 0 then -a else a).fdiv (if b < 0 then -b else b) = ((a.natAbs / b.natAbs : Nat) : Int) := by
  rw [abs_ite, abs_ite, Int.fdiv_eq_ediv_of_nonneg _ (by lia)]
  rfl

namespace GSOgA
theorem secOgA : True := trivial
end GSOgA
open GSOgA
theorem wd4 : True := by
  k_with "bits_by_make" => ((guard_expr secOgA =ₛ secOgA); first | assumption | (refine bits_ten ?_; omega))
  k_with "binaryOp FloorDiv int int" => ((guard_expr secOgA =ₛ secOgA); (k_here; (with_reducible refine' floordiv_int ?og1z26 ?_ (Or.inl (PyProof.noPylong_of_log2 (lg_of_bits ?og2z26 ?og3z26)))); (case og1z26 => first | assumption | (refine' abs_ne ?hcz26; (case hcz26 => assumption); done) | exact ten_ne _ | omega); (case og2z26 => bits_by_make); (case og3z26 => decide)))
  trivial
theorem cutq_spec (w : World) (news : Led) (a b : Int) (t u : Tok) (hb : b ≠ 0) (hb2 : bits b ≤ 8999) : Ct w 86 1 8 news [.int a t, .int b u] (RI news (rnd false a b)) := by
  unfold Ct
  intro prog p loose mean mg mb dp un gd cn cs aa ccd cl outer A₀ base h₀ L m s Q E B F X N T hk hdp hun hret
  ktr_call [("top", .int a t), ("bottom", .int b u)] 86
  k_steps
  · refine endI hret (by k_asm) (by k_asm) (fun _ h => h) ?_
    rw [fdiv_abs]
    unfold rnd
    simp [*]
  · refine endI hret (by k_asm) (by k_asm) (fun _ h => h) ?_
    rw [fdiv_abs]
    unfold rnd
    simp [*]
theorem fits_spec (w : World) (news : Led) (a b : Int) (t u : Tok) (hb : 0 ≤ b) (hb2 : b ≤ 200) : Ct w 151 1 8 news [.int a t, .int b u] (RB news (decide ((a.natAbs : Int) < 10 ^ b.toNat))) := by
  unfold Ct
  intro prog p loose mean mg mb dp un gd cn cs aa ccd cl outer A₀ base h₀ L m s Q E B F X N T hk hdp hun hret
  ktr_call [("units", .int a t), ("digits", .int b u)] 151
  k_steps
  refine endB hret (by k_asm) (by k_asm) (fun _ h => h) ?_
  rw [abs_ite]
theorem dec_mid {x y a b : Int} (h1 : 0 < y) (h2 : x.fmod 10 = 0) (h3 : dec x y.toNat = dec a b.toNat) : dec (x.fdiv 10) (y - 1).toNat = dec a b.toNat := by
  rw [← h3, ← dec_step x y.toNat (by lia) (by rw [← h2, Int.fmod_eq_emod_of_nonneg _ (by lia)]), Int.fdiv_eq_ediv_of_nonneg _ (by lia), tnQ]
theorem dec_end {x y a b : Int} (h0 : 0 ≤ y) (h2 : ¬ 0 < y ∨ x.fmod 10 ≠ 0) (h3 : dec x y.toNat = dec a b.toNat) : x = (dec a b.toNat).1 ∧ y = (dec a b.toNat).2 := by
  rw [Int.fmod_eq_emod_of_nonneg _ (by lia)] at h2
  rw [← h3, dec_stop x y.toNat (by lia)]
  exact ⟨rfl, by simp only; lia⟩
theorem decimal_spec (w : World) (news : Led) (a b : Int) (t u : Tok) (hb : 0 ≤ b) (hb2 : b ≤ 200) : Ct w 94 1 8 news [.int a t, .int b u] (RT news (dec a b.toNat).1 (dec a b.toNat).2) := by
  unfold Ct
  intro prog p loose mean mg mb dp un gd cn cs aa ccd cl outer A₀ base h₀ L m s Q E B F X N T hk hdp hun hret
  ktr_call [("units", .int a t), ("scale", .int b u)] 94
  k_with "exec While BoolOp cons nil" => k_while (fun _ x y => 0 ≤ y ∧ dec x y.toNat = dec a b.toNat) (fun _ x y => y.toNat) "units" "scale"
  k_with "state" => exact ⟨by lia, dec_mid (by assumption) (by assumption) (by simp [*])⟩
  k_steps
  · have e := dec_end (by assumption) (Or.inr (by assumption)) (by assumption)
    exact endT hret (by k_asm) (by k_asm) (fun _ h => h) (by assumption) e.1 e.2
  · have e := dec_end (by assumption) (Or.inl (by assumption)) (by assumption)
    exact endT hret (by k_asm) (by k_asm) (fun _ h => h) (by assumption) e.1 e.2
theorem wd5 : True := by
  k_with_none
  k_with "k_ne" => (refine neN ?_; (try dsimp only); first | (with_reducible first | assumption | (refine' Ne.symm ?hnz1; (case hnz1 => assumption); done) | (refine' nc1 ?hnz1; (case hnz1 => assumption); done) | (refine' nd1 ?hnz1; (case hnz1 => assumption); done) | (refine' ncl1 ?hnz1; (case hnz1 => assumption); done) | (refine' ndl1 ?hnz1; (case hnz1 => assumption); done) | (refine' nc2 ?hnz1; (case hnz1 => assumption); done) | (refine' nd2 ?hnz1; (case hnz1 => assumption); done) | (refine' ncl2 ?hnz1; (case hnz1 => assumption); done) | (refine' ndl2 ?hnz1; (case hnz1 => assumption); done) | (refine' nc3 ?hnz1; (case hnz1 => assumption); done) | (refine' nd3 ?hnz1; (case hnz1 => assumption); done) | (refine' ncl3 ?hnz1; (case hnz1 => assumption); done) | (refine' ndl3 ?hnz1; (case hnz1 => assumption); done) | (refine' nc4 ?hnz1; (case hnz1 => assumption); done) | (refine' nd4 ?hnz1; (case hnz1 => assumption); done) | (refine' ncl4 ?hnz1; (case hnz1 => assumption); done) | (refine' ndl4 ?hnz1; (case hnz1 => assumption); done) | (refine' nc5 ?hnz1; (case hnz1 => assumption); done) | (refine' nd5 ?hnz1; (case hnz1 => assumption); done) | (refine' ncl5 ?hnz1; (case hnz1 => assumption); done) | (refine' ndl5 ?hnz1; (case hnz1 => assumption); done) | (refine' nc6 ?hnz1; (case hnz1 => assumption); done) | (refine' nd6 ?hnz1; (case hnz1 => assumption); done) | (refine' ncl6 ?hnz1; (case hnz1 => assumption); done) | (refine' ndl6 ?hnz1; (case hnz1 => assumption); done) | (refine' nc7 ?hnz1; (case hnz1 => assumption); done) | (refine' nd7 ?hnz1; (case hnz1 => assumption); done) | (refine' ncl7 ?hnz1; (case hnz1 => assumption); done) | (refine' ndl7 ?hnz1; (case hnz1 => assumption); done) | (refine' nc8 ?hnz1; (case hnz1 => assumption); done) | (refine' nd8 ?hnz1; (case hnz1 => assumption); done) | (refine' ncl8 ?hnz1; (case hnz1 => assumption); done) | (refine' ndl8 ?hnz1; (case hnz1 => assumption); done) | (refine' nc9 ?hnz1; (case hnz1 => assumption); done) | (refine' nd9 ?hnz1; (case hnz1 => assumption); done) | (refine' ncl9 ?hnz1; (case hnz1 => assumption); done) | (refine' ndl9 ?hnz1; (case hnz1 => assumption); done) | (refine' nc10 ?hnz1; (case hnz1 => assumption); done) | (refine' nd10 ?hnz1; (case hnz1 => assumption); done) | (refine' ncl10 ?hnz1; (case hnz1 => assumption); done) | (refine' ndl10 ?hnz1; (case hnz1 => assumption); done) | (refine' nc11 ?hnz1; (case hnz1 => assumption); done) | (refine' nd11 ?hnz1; (case hnz1 => assumption); done) | (refine' ncl11 ?hnz1; (case hnz1 => assumption); done) | (refine' ndl11 ?hnz1; (case hnz1 => assumption); done) | (refine' nc12 ?hnz1; (case hnz1 => assumption); done) | (refine' nd12 ?hnz1; (case hnz1 => assumption); done) | (refine' ncl12 ?hnz1; (case hnz1 => assumption); done) | (refine' ndl12 ?hnz1; (case hnz1 => assumption); done) | (refine' nc13 ?hnz1; (case hnz1 => assumption); done) | (refine' nd13 ?hnz1; (case hnz1 => assumption); done) | (refine' ncl13 ?hnz1; (case hnz1 => assumption); done) | (refine' ndl13 ?hnz1; (case hnz1 => assumption); done) | (refine' nc14 ?hnz1; (case hnz1 => assumption); done) | (refine' nd14 ?hnz1; (case hnz1 => assumption); done) | (refine' ncl14 ?hnz1; (case hnz1 => assumption); done) | (refine' ndl14 ?hnz1; (case hnz1 => assumption); done) | (refine' nc15 ?hnz1; (case hnz1 => assumption); done) | (refine' nd15 ?hnz1; (case hnz1 => assumption); done) | (refine' ncl15 ?hnz1; (case hnz1 => assumption); done) | (refine' ndl15 ?hnz1; (case hnz1 => assumption); done) | (refine' nc16 ?hnz1; (case hnz1 => assumption); done) | (refine' nd16 ?hnz1; (case hnz1 => assumption); done) | (refine' ncl16 ?hnz1; (case hnz1 => assumption); done) | (refine' ndl16 ?hnz1; (case hnz1 => assumption); done) | (refine' nc17 ?hnz1; (case hnz1 => assumption); done) | (refine' nd17 ?hnz1; (case hnz1 => assumption); done) | (refine' ncl17 ?hnz1; (case hnz1 => assumption); done) | (refine' ndl17 ?hnz1; (case hnz1 => assumption); done) | (refine' nc18 ?hnz1; (case hnz1 => assumption); done) | (refine' nd18 ?hnz1; (case hnz1 => assumption); done) | (refine' ncl18 ?hnz1; (case hnz1 => assumption); done) | (refine' ndl18 ?hnz1; (case hnz1 => assumption); done)) | omega)
  k_with "ktr_room" => first | (refine' roomD2 ?rhz2 ?rez2; (case rhz2 => with_reducible assumption); (case rez2 => rfl); done) | (refine' roomD0 ?rhz2; (case rhz2 => with_reducible assumption); done)
  k_with "ktr_units" => (refine' roomU2 ?rhz3 ?rez3; (case rhz3 => with_reducible assumption); (case rez3 => rfl); done)
  k_with "execs cons Assign" => (k_here; (fail_if_success (with_reducible show wpAny _ _ (execs (Stmt.Assign _ (PySem.Expr.ListComp _ _ _) _ :: _) _) _ _ _)); (with_reducible refine' ex_assign ?hsz4 ?_); (case hsz4 => with_unfolding_all rfl); intro _; (try dsimp only))
  k_with "execs cons Return" => (k_here; (with_reducible refine ex_return ?_); intro _; (try dsimp only))
  k_with "execs cons If" => (k_here; (first | (with_reducible refine ex_if_return ?_) | (with_reducible refine ex_if_nil ?_) | (with_reducible refine ex_if ?_)); intro _; (try dsimp only))
  k_with "execs cons" => (k_here; (with_reducible refine ex_cons (fun _ => wpAny_execs_cons ?_)); (try dsimp only))
  k_with "execs nil" => (k_here; (with_reducible refine ex_nil (fun _ => ?_)))
  k_with "spliced" => (k_here; (fail_if_success (with_reducible show wpAny _ _ (spliced (backTo _ (starEach _ (compEnvC _ _ _ _)))) _ _ _)); first | ((with_reducible show wpAny _ _ (spliced (backTo _ (starEach [PySem.Expr.Name _ _] _))) _ _ _); k_dflt (refine' arg_n_last ?eFz9 ?ecz9 ?evz9 ?_; (case ecz9 => kernel_rfl!); (case eFz9 => k_asm); (case evz9 => with_unfolding_all rfl); k_whole); (try ((with_reducible show wpAny _ _ (call _ (_ ++ _) _) _ _ _); dsimp only [List.nil_append, List.cons_append]))) | ((with_reducible show wpAny _ _ (spliced (backTo _ (starEach (PySem.Expr.Name _ _ :: _) _))) _ _ _); k_dflt (refine' arg_n ?eFz9 ?ecz9 ?evz9 ?_; (case ecz9 => kernel_rfl!); (case eFz9 => k_asm); (case evz9 => with_unfolding_all rfl); k_whole)) | ((with_reducible show wpAny _ _ (spliced (backTo _ (starEach [] _))) _ _ _); (with_reducible refine args_nil ?_); (try ((with_reducible show wpAny _ _ (call _ (_ ++ _) _) _ _ _); dsimp only [List.nil_append, List.cons_append]))) | ((with_reducible show wpAny _ _ (spliced (backTo _ (starEach (PySem.Expr.Constant (PySem.Const.int _) _ _ :: _) _))) _ _ _); k_dflt (refine' arg_c ?hez9 ?_; (case hez9 => rfl)); intro _ _) | ((fail_if_success (with_reducible show wpAny _ _ (spliced (backTo _ (starEach (PySem.Expr.Starred _ _ :: _) _))) _ _ _)); k_dflt (refine' arg_any ?hez9 ?_; (case hez9 => rfl))))
  k_with "eval BinOp Name" => (k_here; (fail_if_success (with_reducible show wpAny _ _ (eval _ (compEnvC _ _ _ _)) _ _ _)); first | ((with_reducible show wpAny _ _ (eval (PySem.Expr.BinOp (PySem.Expr.Name _ _) _ (PySem.Expr.Constant (PySem.Const.int _) _ _) _) _) _ _ _); k_dflt (refine' bin_nc ?eFz10 ?ecz10 ?evz10 ?_; (case ecz10 => kernel_rfl!); (case eFz10 => k_asm); (case evz10 => with_unfolding_all rfl); k_whole); intro _ _) | ((with_reducible show wpAny _ _ (eval (PySem.Expr.BinOp (PySem.Expr.Name _ _) _ (PySem.Expr.Name _ _) _) _) _ _ _); k_dflt (refine' bin_nn ?eFz10 ?ecz10 ?edz10 ?evz10 ?euz10 ?_; (case ecz10 => kernel_rfl!); (case edz10 => kernel_rfl!); (case eFz10 => k_asm); (case evz10 => with_unfolding_all rfl); (case euz10 => with_unfolding_all rfl); k_whole)))
  k_with "isTrue Compare Name" => (k_here; (fail_if_success (with_reducible show wpAny _ _ (isTrue _ (compEnvC _ _ _ _) _) _ _ _)); first | ((with_reducible show wpAny _ _ (isTrue (PySem.Expr.Compare (PySem.Expr.Name _ _) [PySem.CmpOp.Lt] [PySem.Expr.Constant (PySem.Const.int _) _ _] _) _ _) _ _ _); k_dflt (refine' is_lt ?eFz11 ?ecz11 ?evz11 ?_; (case ecz11 => kernel_rfl!); (case eFz11 => k_asm); (case evz11 => with_unfolding_all rfl); k_whole); intro _) | ((with_reducible show wpAny _ _ (isTrue (PySem.Expr.Compare (PySem.Expr.Name _ _) [PySem.CmpOp.Lt] [PySem.Expr.Name _ _] _) _ _) _ _ _); k_dflt (refine' is_lt2 ?eFz11 ?ecz11 ?edz11 ?evz11 ?euz11 ?_; (case ecz11 => kernel_rfl!); (case edz11 => kernel_rfl!); (case eFz11 => k_asm); (case evz11 => with_unfolding_all rfl); (case euz11 => with_unfolding_all rfl); k_whole)))
  k_with "isTrue Compare Name" => (k_here; (fail_if_success (with_reducible show wpAny _ _ (isTrue _ (compEnvC _ _ _ _) _) _ _ _)); first | ((with_reducible show wpAny _ _ (isTrue (PySem.Expr.Compare (PySem.Expr.Name _ _) [PySem.CmpOp.Gt] [PySem.Expr.Constant (PySem.Const.int _) _ _] _) _ _) _ _ _); k_dflt (refine' is_gt ?eFz12 ?ecz12 ?evz12 ?_; (case ecz12 => kernel_rfl!); (case eFz12 => k_asm); (case evz12 => with_unfolding_all rfl); k_whole); intro _) | ((with_reducible show wpAny _ _ (isTrue (PySem.Expr.Compare (PySem.Expr.Name _ _) [PySem.CmpOp.Gt] [PySem.Expr.Name _ _] _) _ _) _ _ _); k_dflt (refine' is_gt2 ?eFz12 ?ecz12 ?edz12 ?evz12 ?euz12 ?_; (case ecz12 => kernel_rfl!); (case edz12 => kernel_rfl!); (case eFz12 => k_asm); (case evz12 => with_unfolding_all rfl); (case euz12 => with_unfolding_all rfl); k_whole)))
  k_with "isTrue Compare Name" => (k_here; (fail_if_success (with_reducible show wpAny _ _ (isTrue _ (compEnvC _ _ _ _) _) _ _ _)); first | ((with_reducible show wpAny _ _ (isTrue (PySem.Expr.Compare (PySem.Expr.Name _ _) [PySem.CmpOp.Eq] [PySem.Expr.Constant (PySem.Const.int _) _ _] _) _ _) _ _ _); k_dflt (refine' is_eq ?eFz13 ?ecz13 ?evz13 ?_; (case ecz13 => kernel_rfl!); (case eFz13 => k_asm); (case evz13 => with_unfolding_all rfl); k_whole); intro _) | ((with_reducible show wpAny _ _ (isTrue (PySem.Expr.Compare (PySem.Expr.Name _ _) [PySem.CmpOp.Eq] [PySem.Expr.Name _ _] _) _ _) _ _ _); k_dflt (refine' is_eq2 ?eFz13 ?ecz13 ?edz13 ?evz13 ?euz13 ?_; (case ecz13 => kernel_rfl!); (case edz13 => kernel_rfl!); (case eFz13 => k_asm); (case evz13 => with_unfolding_all rfl); (case euz13 => with_unfolding_all rfl); k_whole)))
  k_with "isTrue Compare Name" => (k_here; (fail_if_success (with_reducible show wpAny _ _ (isTrue _ (compEnvC _ _ _ _) _) _ _ _)); first | ((with_reducible show wpAny _ _ (isTrue (PySem.Expr.Compare (PySem.Expr.Name _ _) [PySem.CmpOp.NotEq] [PySem.Expr.Constant (PySem.Const.int _) _ _] _) _ _) _ _ _); k_dflt (refine' is_ne ?eFz14 ?ecz14 ?evz14 ?_; (case ecz14 => kernel_rfl!); (case eFz14 => k_asm); (case evz14 => with_unfolding_all rfl); k_whole); intro _) | ((with_reducible show wpAny _ _ (isTrue (PySem.Expr.Compare (PySem.Expr.Name _ _) [PySem.CmpOp.NotEq] [PySem.Expr.Name _ _] _) _ _) _ _ _); k_dflt (refine' is_ne2 ?eFz14 ?ecz14 ?edz14 ?evz14 ?euz14 ?_; (case ecz14 => kernel_rfl!); (case edz14 => kernel_rfl!); (case eFz14 => k_asm); (case evz14 => with_unfolding_all rfl); (case euz14 => with_unfolding_all rfl); k_whole)))
  k_with "eval Subscript Name Constant" => (k_here; (fail_if_success (with_reducible show wpAny _ _ (eval _ (compEnvC _ _ _ _)) _ _ _)); (with_reducible show wpAny _ _ (eval (PySem.Expr.Subscript (PySem.Expr.Name _ _) (PySem.Expr.Constant (PySem.Const.int 0) _ _) _) _) _ _ _); k_dflt (refine' sub_0 ?eFz15 ?eNz15 ?ecz15 ?evz15 ?emz15 ?_; (case ecz15 => kernel_rfl!); (case eFz15 => k_asm); (case eNz15 => k_asm); (case evz15 => with_unfolding_all rfl); (case emz15 => k_mem); k_whole); intro _)
  k_with "eval Subscript Name Constant" => (k_here; (fail_if_success (with_reducible show wpAny _ _ (eval _ (compEnvC _ _ _ _)) _ _ _)); (with_reducible show wpAny _ _ (eval (PySem.Expr.Subscript (PySem.Expr.Name _ _) (PySem.Expr.Constant (PySem.Const.int 1) _ _) _) _) _ _ _); k_dflt (refine' sub_1 ?eFz16 ?eNz16 ?ecz16 ?evz16 ?emz16 ?_; (case ecz16 => kernel_rfl!); (case eFz16 => k_asm); (case eNz16 => k_asm); (case evz16 => with_unfolding_all rfl); (case emz16 => k_mem); k_whole); intro _)
  k_with "eval Subscript Name Constant" => (k_here; (fail_if_success (with_reducible show wpAny _ _ (eval _ (compEnvC _ _ _ _)) _ _ _)); (with_reducible show wpAny _ _ (eval (PySem.Expr.Subscript (PySem.Expr.Name _ _) (PySem.Expr.Constant (PySem.Const.int 2) _ _) _) _) _ _ _); k_dflt (refine' sub_2 ?eFz17 ?eNz17 ?ecz17 ?evz17 ?emz17 ?_; (case ecz17 => kernel_rfl!); (case eFz17 => k_asm); (case eNz17 => k_asm); (case evz17 => with_unfolding_all rfl); (case emz17 => k_mem); k_whole); intro _)
  k_with "eval Name" => (k_here; (fail_if_success (with_reducible show wpAny _ _ (eval _ (compEnvC _ _ _ _)) _ _ _)); k_dflt (first | (refine' n_l ?eFz18 ?ecz18 ?evz18 ?_; (case ecz18 => kernel_rfl!); (case eFz18 => k_asm); (case evz18 => with_unfolding_all rfl); k_whole) | (refine' n_k ?eFz18 ?ecz18 ?eXz18 ?eTz18 ?eez18 ?_; (case ecz18 => kernel_rfl!); (case eFz18 => k_asm); (case eXz18 => k_asm); (case eez18 => k_is); (case eTz18 => k_asm); k_whole) | (refine' n_b ?eFz18 ?ecz18 ?eXz18 ?eTz18 ?eez18 ?evz18 ?enz18 ?_; (case ecz18 => kernel_rfl!); (case eFz18 => k_asm); (case eXz18 => k_asm); (case eez18 => k_is); (case eTz18 => k_asm); (case evz18 => boot_fast); (case enz18 => decide); k_whole)))
  k_with "storeName" => (k_here; (fail_if_success (with_reducible show wpAny _ _ (storeName (compEnvC _ _ _ _) _ _) _ _ _)); k_dflt (refine' st_l ?eFz19 ?eNz19 ?ecz19 ?_; (case ecz19 => kernel_rfl!); (case eFz19 => k_asm); (case eNz19 => k_asm); k_whole); intro h'z19 t'z19 F'z19 N'z19; (try k_sweep))
  k_with "eval Call" => (k_here; (with_reducible show wpAny _ _ (eval (PySem.Expr.Call (PySem.Expr.Name _ _) (_ :: _) [] _) _) _ _ _); (fail_if_success (with_reducible show wpAny _ _ (eval _ (compEnvC _ _ _ _)) _ _ _)); k_dflt (first | (refine' call_k ?eFz20 ?ecz20 ?eXz20 ?eTz20 ?enz20 ?ekz20 ?e1z20 ?e2z20 ?_; (case ecz20 => kernel_rfl!); (case eFz20 => k_asm); (case eXz20 => k_asm); (case enz20 => k_is); (case ekz20 => k_is); (case eTz20 => k_asm); (case e1z20 => rfl); (case e2z20 => rfl); k_whole) | (refine' call_b ?eFz20 ?ecz20 ?eXz20 ?eTz20 ?enz20 ?evz20 ?ewz20 ?exz20 ?e1z20 ?e2z20 ?_; (case ecz20 => kernel_rfl!); (case eFz20 => k_asm); (case eXz20 => k_asm); (case enz20 => k_is); (case eTz20 => k_asm); (case evz20 => boot_fast); (case ewz20 => with_reducible rfl); (case exz20 => decide); (case e1z20 => rfl); (case e2z20 => rfl); k_whole) | (refine' call_t ?eFz20 ?ecz20 ?eXz20 ?eTz20 ?enz20 ?evz20 ?ewz20 ?exz20 ?e1z20 ?e2z20 ?_; (case ecz20 => kernel_rfl!); (case eFz20 => k_asm); (case eXz20 => k_asm); (case enz20 => k_is); (case eTz20 => k_asm); (case evz20 => boot_fast); (case ewz20 => with_reducible rfl); (case exz20 => decide); (case e1z20 => rfl); (case e2z20 => rfl); k_whole)))
  k_with "And" => (k_here; (with_reducible show Frag.In _ _ ∧ _); k_dflt (refine' in_k ?eXz21 ?eFz21 ?_; (case eXz21 => k_asm); (case eFz21 => k_asm)); (try ((with_reducible show wpAny _ _ (call _ (_ ++ _) _) _ _ _); dsimp only [List.nil_append, List.cons_append])))
  k_with "callWith ref" => (k_here; first | ((with_reducible show wpAny _ _ (callWith _ _ _ (backTo _ (starEach (_ :: _) _)) []) _ _ _); k_dflt (refine' callWith_K ?eXz22 ?eKz22 ?_ ?e1z22 ?e2z22; (case eXz22 => k_asm); (case eKz22 => k_is); (case e1z22 => rfl); (case e2z22 => rfl); k_whole)) | ((with_reducible show wpAny _ _ (callWith _ _ _ (backTo _ (starEach [] _)) []) _ _ _); k_dflt (refine' callWith_K0 ?eXz22 ?eKz22 ?_; (case eXz22 => k_in); (case eKz22 => k_is); k_whole)))
  k_with "assignInOrder" => (k_here; k_dflt (first | refine assignInOrder_cons ?_ | refine assignInOrder_nil ?_))
  k_with "exec Raise some none" => (k_here; (with_reducible refine Raise_new rfl ?_))
  k_with "ktr_call rest" => ((case kA => exact rfl); (case kF => exact rfl); (case kK => assumption); (case k1 => k_asm); (case k2 => k_asm); (case k3 => k_asm); (case k4 => k_asm); (case k5 => k_asm); (case k6 => k_is); (case k7 => k_is); (case k8 => ktr_room); (case k9 => first | exact BindsTo.of_eq rfl | exact binds_K (by k_in) rfl (by k_is) rfl rfl rfl); (case c5 => decide); (case kB => exact locs rfl); (case c2 => exact rfl); (case c3 => exact rfl); (case c4 => exact rfl); k_whole; intro g'zz L'zz h'zz FG'zz F'zz N'zz B'zz X'zz T'zz; (try dsimp only); (try k_lift B'zz); (try k_fold))
  k_with "ask five" => ((case k1 => k_asm); (case k2 => k_asm); (case k3 => k_asm); (case k4 => k_asm); (case k5 => k_asm))
  k_with "ask rest" => ((case kK => first | exact rfl | assumption); (case kd => ktr_room); (case ku => ktr_units); k_whole)
  k_with "bits_by_make" => ((guard_expr secOgA =ₛ secOgA); first | assumption | (refine bits_ten ?_; omega))
  k_with "binaryOp FloorDiv int int" => ((guard_expr secOgA =ₛ secOgA); (k_here; (with_reducible refine' floordiv_int ?og1z26 ?_ (Or.inl (PyProof.noPylong_of_log2 (lg_of_bits ?og2z26 ?og3z26)))); (case og1z26 => first | assumption | (refine' abs_ne ?hcz26; (case hcz26 => assumption); done) | exact ten_ne _ | omega); (case og2z26 => bits_by_make); (case og3z26 => decide)))
  trivial
end SOgA
theorem wd6 : True := by
  k_with "bits_by_make" => first | assumption | (refine bits_ten ?_; omega)
  k_with "binaryOp FloorDiv int int" => (k_here; (with_reducible refine' floordiv_int ?og1z26 ?_ (Or.inl (PyProof.noPylong_of_log2 (lg_of_bits ?og2z26 ?og3z26)))); (case og1z26 => first | assumption | (refine' abs_ne ?hcz26; (case hcz26 => assumption); done) | exact ten_ne _ | omega); (case og2z26 => bits_by_make); (case og3z26 => decide))
  k_with "binaryOp Pow int int" => (k_here; (with_reducible refine pow_int_small ?ogb1z27 ?ogb2z27 ?ogb3z27 ?_); (case ogb1z27 => first | decide | omega | (split <;> omega)); (case ogb2z27 => first | decide | omega | (split <;> omega)); (case ogb3z27 => decide))
  k_with "subscriptTail" => (k_here; (with_reducible show wpAny _ _ (subscriptTail _ _ (Value.ref _) (Value.int _ _)) _ _ _); k_dflt (refine' item_tupleT ?tz28 ?az28 ?bz28 ?cz28 ?dz28 ?_; (case tz28 => (refine' News.isTup ?taz28 ?tbz28; (case taz28 => k_asm); (case tbz28 => k_mem))); (case az28 => decide); (case bz28 => decide); (case cz28 => rfl); (case dz28 => rfl); k_whole))
  k_with "call ref" => (k_here; (with_reducible show wpAny _ _ (call (Value.ref 94) _) _ _ _); cell_ask (useT (decimal_spec _ _ _ _ _ _ (by first | with_reducible assumption | decide | omega) (by first | with_reducible assumption | decide | omega))); intro q9z29 t9z29 u9z29 h9z29 tk9z29 F9z29 N9z29 l9z29; (try k_lt l9z29); (try k_sweep); (try dsimp only); (try k_fold))
  k_with "call ref" => (k_here; (with_reducible show wpAny _ _ (call (Value.ref 86) _) _ _ _); cell_ask (useI (cutq_spec _ _ _ _ _ _ (by first | with_reducible assumption | exact ten_ne _) (by bits_by_make))); intro t9z30 h9z30 tk9z30 F9z30 N9z30; (try k_sweep); (try dsimp only); (try k_fold))
  k_with "call ref" => (k_here; (with_reducible show wpAny _ _ (call (Value.ref 151) _) _ _ _); cell_ask (useB (fits_spec _ _ _ _ _ _ (by first | with_reducible assumption | decide | omega) (by first | with_reducible assumption | decide | omega))); intro h9z31 tk9z31 F9z31 N9z31; (try k_sweep); (try dsimp only); (try k_fold))
  trivial
section SOgB
open PySem PySem.W PyProof.Rows PySem.Calls
set_option maxRecDepth 100000
set_option maxHeartbeats 1000000

theorem rs_OgB : True := by
  w_top off
  trivial
theorem max_ite (a b : Int) : (if b > a then b else a) = max a b := by rw [Int.max_def]; split <;> split <;> lia
theorem beside_spec (w : World) (news : Led) (qa qb : Addr) (a sa b sb : Int) (t1 t2 t3 t4 : Tok) (ha : (qa, tup2 a sa t1 t2) ∈ news) (hb : (qb, tup2 b sb t3 t4) ∈ news)
    (h1 : 0 ≤ sa) (h2 : sa ≤ 100) (h3 : 0 ≤ sb) (h4 : sb ≤ 100) (h5 : bits a ≤ 1000) (h6 : bits b ≤ 1000) :
    Ct w 108 1 8 news [.ref qa, .ref qb] (RT3 news (a * 10 ^ (max sa sb - sa).toNat) (b * 10 ^ (max sa sb - sb).toNat) (max sa sb)) := by
  unfold Ct
  intro prog p loose mean mg mb dp un gd cn cs aa ccd cl outer A₀ base h₀ L m s Q E B F X N T hk hdp hun hret
  ktr_call [("a", .ref qa), ("b", .ref qb)] 108
  k_steps
  refine endT3 hret (by k_asm) (by k_asm) (fun _ h => h) (by assumption) ?_ ?_ ?_ <;> rw [max_ite]
theorem fits_yes (w : World) (news : Led) (a b : Int) (t u : Tok) (hb : 0 ≤ b) (hb2 : b ≤ 200) (hy : decide ((a.natAbs : Int) < 10 ^ b.toNat) = true) : Ct w 151 1 8 news [.int a t, .int b u] (RB news true) := by
  rw [← hy]
  exact fits_spec w news a b t u hb hb2
theorem kept_spec (w : World) (news : Led) (a b : Int) (t u : Tok) (hb : 0 ≤ b) (hb2 : b ≤ 30) (ha : decide ((a.natAbs : Int) < 10 ^ (120 : Int).toNat) = true) : Ct w 101 2 16 news [.int a t, .int b u] (RT news (dec a b.toNat).1 (dec a b.toNat).2) := by
  unfold Ct
  intro prog p loose mean mg mb dp un gd cn cs aa ccd cl outer A₀ base h₀ L m s Q E B F X N T hk hdp hun hret
  ktr_call [("units", .int a t), ("scale", .int b u)] 101
  k_with "call ref" => ((with_reducible show wpAny _ _ (call (Value.ref 151) _) _ _ _); cell_ask (useB (fits_yes _ _ _ _ _ _ (by decide) (by decide) (by with_reducible assumption))); intro h9 tk9 F9 N9; (try k_sweep); (try dsimp only); (try k_fold))
  k_steps
  refine endT hret (by k_asm) (by k_asm) (fun _ h => h) (by assumption) rfl rfl
theorem wd7 : True := by
  k_with_none
  k_with "k_ne" => (refine neN ?_; (try dsimp only); first | (with_reducible first | assumption | (refine' Ne.symm ?hnz1; (case hnz1 => assumption); done) | (refine' nc1 ?hnz1; (case hnz1 => assumption); done) | (refine' nd1 ?hnz1; (case hnz1 => assumption); done) | (refine' ncl1 ?hnz1; (case hnz1 => assumption); done) | (refine' ndl1 ?hnz1; (case hnz1 => assumption); done) | (refine' nc2 ?hnz1; (case hnz1 => assumption); done) | (refine' nd2 ?hnz1; (case hnz1 => assumption); done) | (refine' ncl2 ?hnz1; (case hnz1 => assumption); done) | (refine' ndl2 ?hnz1; (case hnz1 => assumption); done) | (refine' nc3 ?hnz1; (case hnz1 => assumption); done) | (refine' nd3 ?hnz1; (case hnz1 => assumption); done) | (refine' ncl3 ?hnz1; (case hnz1 => assumption); done) | (refine' ndl3 ?hnz1; (case hnz1 => assumption); done) | (refine' nc4 ?hnz1; (case hnz1 => assumption); done) | (refine' nd4 ?hnz1; (case hnz1 => assumption); done) | (refine' ncl4 ?hnz1; (case hnz1 => assumption); done) | (refine' ndl4 ?hnz1; (case hnz1 => assumption); done) | (refine' nc5 ?hnz1; (case hnz1 => assumption); done) | (refine' nd5 ?hnz1; (case hnz1 => assumption); done) | (refine' ncl5 ?hnz1; (case hnz1 => assumption); done) | (refine' ndl5 ?hnz1; (case hnz1 => assumption); done) | (refine' nc6 ?hnz1; (case hnz1 => assumption); done) | (refine' nd6 ?hnz1; (case hnz1 => assumption); done) | (refine' ncl6 ?hnz1; (case hnz1 => assumption); done) | (refine' ndl6 ?hnz1; (case hnz1 => assumption); done) | (refine' nc7 ?hnz1; (case hnz1 => assumption); done) | (refine' nd7 ?hnz1; (case hnz1 => assumption); done) | (refine' ncl7 ?hnz1; (case hnz1 => assumption); done) | (refine' ndl7 ?hnz1; (case hnz1 => assumption); done) | (refine' nc8 ?hnz1; (case hnz1 => assumption); done) | (refine' nd8 ?hnz1; (case hnz1 => assumption); done) | (refine' ncl8 ?hnz1; (case hnz1 => assumption); done) | (refine' ndl8 ?hnz1; (case hnz1 => assumption); done) | (refine' nc9 ?hnz1; (case hnz1 => assumption); done) | (refine' nd9 ?hnz1; (case hnz1 => assumption); done) | (refine' ncl9 ?hnz1; (case hnz1 => assumption); done) | (refine' ndl9 ?hnz1; (case hnz1 => assumption); done) | (refine' nc10 ?hnz1; (case hnz1 => assumption); done) | (refine' nd10 ?hnz1; (case hnz1 => assumption); done) | (refine' ncl10 ?hnz1; (case hnz1 => assumption); done) | (refine' ndl10 ?hnz1; (case hnz1 => assumption); done) | (refine' nc11 ?hnz1; (case hnz1 => assumption); done) | (refine' nd11 ?hnz1; (case hnz1 => assumption); done) | (refine' ncl11 ?hnz1; (case hnz1 => assumption); done) | (refine' ndl11 ?hnz1; (case hnz1 => assumption); done) | (refine' nc12 ?hnz1; (case hnz1 => assumption); done) | (refine' nd12 ?hnz1; (case hnz1 => assumption); done) | (refine' ncl12 ?hnz1; (case hnz1 => assumption); done) | (refine' ndl12 ?hnz1; (case hnz1 => assumption); done) | (refine' nc13 ?hnz1; (case hnz1 => assumption); done) | (refine' nd13 ?hnz1; (case hnz1 => assumption); done) | (refine' ncl13 ?hnz1; (case hnz1 => assumption); done) | (refine' ndl13 ?hnz1; (case hnz1 => assumption); done) | (refine' nc14 ?hnz1; (case hnz1 => assumption); done) | (refine' nd14 ?hnz1; (case hnz1 => assumption); done) | (refine' ncl14 ?hnz1; (case hnz1 => assumption); done) | (refine' ndl14 ?hnz1; (case hnz1 => assumption); done) | (refine' nc15 ?hnz1; (case hnz1 => assumption); done) | (refine' nd15 ?hnz1; (case hnz1 => assumption); done) | (refine' ncl15 ?hnz1; (case hnz1 => assumption); done) | (refine' ndl15 ?hnz1; (case hnz1 => assumption); done) | (refine' nc16 ?hnz1; (case hnz1 => assumption); done) | (refine' nd16 ?hnz1; (case hnz1 => assumption); done) | (refine' ncl16 ?hnz1; (case hnz1 => assumption); done) | (refine' ndl16 ?hnz1; (case hnz1 => assumption); done) | (refine' nc17 ?hnz1; (case hnz1 => assumption); done) | (refine' nd17 ?hnz1; (case hnz1 => assumption); done) | (refine' ncl17 ?hnz1; (case hnz1 => assumption); done) | (refine' ndl17 ?hnz1; (case hnz1 => assumption); done) | (refine' nc18 ?hnz1; (case hnz1 => assumption); done) | (refine' nd18 ?hnz1; (case hnz1 => assumption); done) | (refine' ncl18 ?hnz1; (case hnz1 => assumption); done) | (refine' ndl18 ?hnz1; (case hnz1 => assumption); done)) | omega)
  k_with "ktr_room" => first | (refine' roomD2 ?rhz2 ?rez2; (case rhz2 => with_reducible assumption); (case rez2 => rfl); done) | (refine' roomD0 ?rhz2; (case rhz2 => with_reducible assumption); done)
  k_with "ktr_units" => (refine' roomU2 ?rhz3 ?rez3; (case rhz3 => with_reducible assumption); (case rez3 => rfl); done)
  k_with "execs cons Assign" => (k_here; (fail_if_success (with_reducible show wpAny _ _ (execs (Stmt.Assign _ (PySem.Expr.ListComp _ _ _) _ :: _) _) _ _ _)); (with_reducible refine' ex_assign ?hsz4 ?_); (case hsz4 => with_unfolding_all rfl); intro _; (try dsimp only))
  k_with "execs cons Return" => (k_here; (with_reducible refine ex_return ?_); intro _; (try dsimp only))
  k_with "execs cons If" => (k_here; (first | (with_reducible refine ex_if_return ?_) | (with_reducible refine ex_if_nil ?_) | (with_reducible refine ex_if ?_)); intro _; (try dsimp only))
  k_with "execs cons" => (k_here; (with_reducible refine ex_cons (fun _ => wpAny_execs_cons ?_)); (try dsimp only))
  k_with "execs nil" => (k_here; (with_reducible refine ex_nil (fun _ => ?_)))
  k_with "spliced" => (k_here; (fail_if_success (with_reducible show wpAny _ _ (spliced (backTo _ (starEach _ (compEnvC _ _ _ _)))) _ _ _)); first | ((with_reducible show wpAny _ _ (spliced (backTo _ (starEach [PySem.Expr.Name _ _] _))) _ _ _); k_dflt (refine' arg_n_last ?eFz9 ?ecz9 ?evz9 ?_; (case ecz9 => kernel_rfl!); (case eFz9 => k_asm); (case evz9 => with_unfolding_all rfl); k_whole); (try ((with_reducible show wpAny _ _ (call _ (_ ++ _) _) _ _ _); dsimp only [List.nil_append, List.cons_append]))) | ((with_reducible show wpAny _ _ (spliced (backTo _ (starEach (PySem.Expr.Name _ _ :: _) _))) _ _ _); k_dflt (refine' arg_n ?eFz9 ?ecz9 ?evz9 ?_; (case ecz9 => kernel_rfl!); (case eFz9 => k_asm); (case evz9 => with_unfolding_all rfl); k_whole)) | ((with_reducible show wpAny _ _ (spliced (backTo _ (starEach [] _))) _ _ _); (with_reducible refine args_nil ?_); (try ((with_reducible show wpAny _ _ (call _ (_ ++ _) _) _ _ _); dsimp only [List.nil_append, List.cons_append]))) | ((with_reducible show wpAny _ _ (spliced (backTo _ (starEach (PySem.Expr.Constant (PySem.Const.int _) _ _ :: _) _))) _ _ _); k_dflt (refine' arg_c ?hez9 ?_; (case hez9 => rfl)); intro _ _) | ((fail_if_success (with_reducible show wpAny _ _ (spliced (backTo _ (starEach (PySem.Expr.Starred _ _ :: _) _))) _ _ _)); k_dflt (refine' arg_any ?hez9 ?_; (case hez9 => rfl))))
  k_with "eval BinOp Name" => (k_here; (fail_if_success (with_reducible show wpAny _ _ (eval _ (compEnvC _ _ _ _)) _ _ _)); first | ((with_reducible show wpAny _ _ (eval (PySem.Expr.BinOp (PySem.Expr.Name _ _) _ (PySem.Expr.Constant (PySem.Const.int _) _ _) _) _) _ _ _); k_dflt (refine' bin_nc ?eFz10 ?ecz10 ?evz10 ?_; (case ecz10 => kernel_rfl!); (case eFz10 => k_asm); (case evz10 => with_unfolding_all rfl); k_whole); intro _ _) | ((with_reducible show wpAny _ _ (eval (PySem.Expr.BinOp (PySem.Expr.Name _ _) _ (PySem.Expr.Name _ _) _) _) _ _ _); k_dflt (refine' bin_nn ?eFz10 ?ecz10 ?edz10 ?evz10 ?euz10 ?_; (case ecz10 => kernel_rfl!); (case edz10 => kernel_rfl!); (case eFz10 => k_asm); (case evz10 => with_unfolding_all rfl); (case euz10 => with_unfolding_all rfl); k_whole)))
  k_with "isTrue Compare Name" => (k_here; (fail_if_success (with_reducible show wpAny _ _ (isTrue _ (compEnvC _ _ _ _) _) _ _ _)); first | ((with_reducible show wpAny _ _ (isTrue (PySem.Expr.Compare (PySem.Expr.Name _ _) [PySem.CmpOp.Lt] [PySem.Expr.Constant (PySem.Const.int _) _ _] _) _ _) _ _ _); k_dflt (refine' is_lt ?eFz11 ?ecz11 ?evz11 ?_; (case ecz11 => kernel_rfl!); (case eFz11 => k_asm); (case evz11 => with_unfolding_all rfl); k_whole); intro _) | ((with_reducible show wpAny _ _ (isTrue (PySem.Expr.Compare (PySem.Expr.Name _ _) [PySem.CmpOp.Lt] [PySem.Expr.Name _ _] _) _ _) _ _ _); k_dflt (refine' is_lt2 ?eFz11 ?ecz11 ?edz11 ?evz11 ?euz11 ?_; (case ecz11 => kernel_rfl!); (case edz11 => kernel_rfl!); (case eFz11 => k_asm); (case evz11 => with_unfolding_all rfl); (case euz11 => with_unfolding_all rfl); k_whole)))
  k_with "isTrue Compare Name" => (k_here; (fail_if_success (with_reducible show wpAny _ _ (isTrue _ (compEnvC _ _ _ _) _) _ _ _)); first | ((with_reducible show wpAny _ _ (isTrue (PySem.Expr.Compare (PySem.Expr.Name _ _) [PySem.CmpOp.Gt] [PySem.Expr.Constant (PySem.Const.int _) _ _] _) _ _) _ _ _); k_dflt (refine' is_gt ?eFz12 ?ecz12 ?evz12 ?_; (case ecz12 => kernel_rfl!); (case eFz12 => k_asm); (case evz12 => with_unfolding_all rfl); k_whole); intro _) | ((with_reducible show wpAny _ _ (isTrue (PySem.Expr.Compare (PySem.Expr.Name _ _) [PySem.CmpOp.Gt] [PySem.Expr.Name _ _] _) _ _) _ _ _); k_dflt (refine' is_gt2 ?eFz12 ?ecz12 ?edz12 ?evz12 ?euz12 ?_; (case ecz12 => kernel_rfl!); (case edz12 => kernel_rfl!); (case eFz12 => k_asm); (case evz12 => with_unfolding_all rfl); (case euz12 => with_unfolding_all rfl); k_whole)))
  k_with "isTrue Compare Name" => (k_here; (fail_if_success (with_reducible show wpAny _ _ (isTrue _ (compEnvC _ _ _ _) _) _ _ _)); first | ((with_reducible show wpAny _ _ (isTrue (PySem.Expr.Compare (PySem.Expr.Name _ _) [PySem.CmpOp.Eq] [PySem.Expr.Constant (PySem.Const.int _) _ _] _) _ _) _ _ _); k_dflt (refine' is_eq ?eFz13 ?ecz13 ?evz13 ?_; (case ecz13 => kernel_rfl!); (case eFz13 => k_asm); (case evz13 => with_unfolding_all rfl); k_whole); intro _) | ((with_reducible show wpAny _ _ (isTrue (PySem.Expr.Compare (PySem.Expr.Name _ _) [PySem.CmpOp.Eq] [PySem.Expr.Name _ _] _) _ _) _ _ _); k_dflt (refine' is_eq2 ?eFz13 ?ecz13 ?edz13 ?evz13 ?euz13 ?_; (case ecz13 => kernel_rfl!); (case edz13 => kernel_rfl!); (case eFz13 => k_asm); (case evz13 => with_unfolding_all rfl); (case euz13 => with_unfolding_all rfl); k_whole)))
  k_with "isTrue Compare Name" => (k_here; (fail_if_success (with_reducible show wpAny _ _ (isTrue _ (compEnvC _ _ _ _) _) _ _ _)); first | ((with_reducible show wpAny _ _ (isTrue (PySem.Expr.Compare (PySem.Expr.Name _ _) [PySem.CmpOp.NotEq] [PySem.Expr.Constant (PySem.Const.int _) _ _] _) _ _) _ _ _); k_dflt (refine' is_ne ?eFz14 ?ecz14 ?evz14 ?_; (case ecz14 => kernel_rfl!); (case eFz14 => k_asm); (case evz14 => with_unfolding_all rfl); k_whole); intro _) | ((with_reducible show wpAny _ _ (isTrue (PySem.Expr.Compare (PySem.Expr.Name _ _) [PySem.CmpOp.NotEq] [PySem.Expr.Name _ _] _) _ _) _ _ _); k_dflt (refine' is_ne2 ?eFz14 ?ecz14 ?edz14 ?evz14 ?euz14 ?_; (case ecz14 => kernel_rfl!); (case edz14 => kernel_rfl!); (case eFz14 => k_asm); (case evz14 => with_unfolding_all rfl); (case euz14 => with_unfolding_all rfl); k_whole)))
  k_with "eval Subscript Name Constant" => (k_here; (fail_if_success (with_reducible show wpAny _ _ (eval _ (compEnvC _ _ _ _)) _ _ _)); (with_reducible show wpAny _ _ (eval (PySem.Expr.Subscript (PySem.Expr.Name _ _) (PySem.Expr.Constant (PySem.Const.int 0) _ _) _) _) _ _ _); k_dflt (refine' sub_0 ?eFz15 ?eNz15 ?ecz15 ?evz15 ?emz15 ?_; (case ecz15 => kernel_rfl!); (case eFz15 => k_asm); (case eNz15 => k_asm); (case evz15 => with_unfolding_all rfl); (case emz15 => k_mem); k_whole); intro _)
  k_with "eval Subscript Name Constant" => (k_here; (fail_if_success (with_reducible show wpAny _ _ (eval _ (compEnvC _ _ _ _)) _ _ _)); (with_reducible show wpAny _ _ (eval (PySem.Expr.Subscript (PySem.Expr.Name _ _) (PySem.Expr.Constant (PySem.Const.int 1) _ _) _) _) _ _ _); k_dflt (refine' sub_1 ?eFz16 ?eNz16 ?ecz16 ?evz16 ?emz16 ?_; (case ecz16 => kernel_rfl!); (case eFz16 => k_asm); (case eNz16 => k_asm); (case evz16 => with_unfolding_all rfl); (case emz16 => k_mem); k_whole); intro _)
  k_with "eval Subscript Name Constant" => (k_here; (fail_if_success (with_reducible show wpAny _ _ (eval _ (compEnvC _ _ _ _)) _ _ _)); (with_reducible show wpAny _ _ (eval (PySem.Expr.Subscript (PySem.Expr.Name _ _) (PySem.Expr.Constant (PySem.Const.int 2) _ _) _) _) _ _ _); k_dflt (refine' sub_2 ?eFz17 ?eNz17 ?ecz17 ?evz17 ?emz17 ?_; (case ecz17 => kernel_rfl!); (case eFz17 => k_asm); (case eNz17 => k_asm); (case evz17 => with_unfolding_all rfl); (case emz17 => k_mem); k_whole); intro _)
  k_with "eval Name" => (k_here; (fail_if_success (with_reducible show wpAny _ _ (eval _ (compEnvC _ _ _ _)) _ _ _)); k_dflt (first | (refine' n_l ?eFz18 ?ecz18 ?evz18 ?_; (case ecz18 => kernel_rfl!); (case eFz18 => k_asm); (case evz18 => with_unfolding_all rfl); k_whole) | (refine' n_k ?eFz18 ?ecz18 ?eXz18 ?eTz18 ?eez18 ?_; (case ecz18 => kernel_rfl!); (case eFz18 => k_asm); (case eXz18 => k_asm); (case eez18 => k_is); (case eTz18 => k_asm); k_whole) | (refine' n_b ?eFz18 ?ecz18 ?eXz18 ?eTz18 ?eez18 ?evz18 ?enz18 ?_; (case ecz18 => kernel_rfl!); (case eFz18 => k_asm); (case eXz18 => k_asm); (case eez18 => k_is); (case eTz18 => k_asm); (case evz18 => boot_fast); (case enz18 => decide); k_whole)))
  k_with "storeName" => (k_here; (fail_if_success (with_reducible show wpAny _ _ (storeName (compEnvC _ _ _ _) _ _) _ _ _)); k_dflt (refine' st_l ?eFz19 ?eNz19 ?ecz19 ?_; (case ecz19 => kernel_rfl!); (case eFz19 => k_asm); (case eNz19 => k_asm); k_whole); intro h'z19 t'z19 F'z19 N'z19; (try k_sweep))
  k_with "eval Call" => (k_here; (with_reducible show wpAny _ _ (eval (PySem.Expr.Call (PySem.Expr.Name _ _) (_ :: _) [] _) _) _ _ _); (fail_if_success (with_reducible show wpAny _ _ (eval _ (compEnvC _ _ _ _)) _ _ _)); k_dflt (first | (refine' call_k ?eFz20 ?ecz20 ?eXz20 ?eTz20 ?enz20 ?ekz20 ?e1z20 ?e2z20 ?_; (case ecz20 => kernel_rfl!); (case eFz20 => k_asm); (case eXz20 => k_asm); (case enz20 => k_is); (case ekz20 => k_is); (case eTz20 => k_asm); (case e1z20 => rfl); (case e2z20 => rfl); k_whole) | (refine' call_b ?eFz20 ?ecz20 ?eXz20 ?eTz20 ?enz20 ?evz20 ?ewz20 ?exz20 ?e1z20 ?e2z20 ?_; (case ecz20 => kernel_rfl!); (case eFz20 => k_asm); (case eXz20 => k_asm); (case enz20 => k_is); (case eTz20 => k_asm); (case evz20 => boot_fast); (case ewz20 => with_reducible rfl); (case exz20 => decide); (case e1z20 => rfl); (case e2z20 => rfl); k_whole) | (refine' call_t ?eFz20 ?ecz20 ?eXz20 ?eTz20 ?enz20 ?evz20 ?ewz20 ?exz20 ?e1z20 ?e2z20 ?_; (case ecz20 => kernel_rfl!); (case eFz20 => k_asm); (case eXz20 => k_asm); (case enz20 => k_is); (case eTz20 => k_asm); (case evz20 => boot_fast); (case ewz20 => with_reducible rfl); (case exz20 => decide); (case e1z20 => rfl); (case e2z20 => rfl); k_whole)))
  k_with "And" => (k_here; (with_reducible show Frag.In _ _ ∧ _); k_dflt (refine' in_k ?eXz21 ?eFz21 ?_; (case eXz21 => k_asm); (case eFz21 => k_asm)); (try ((with_reducible show wpAny _ _ (call _ (_ ++ _) _) _ _ _); dsimp only [List.nil_append, List.cons_append])))
  k_with "callWith ref" => (k_here; first | ((with_reducible show wpAny _ _ (callWith _ _ _ (backTo _ (starEach (_ :: _) _)) []) _ _ _); k_dflt (refine' callWith_K ?eXz22 ?eKz22 ?_ ?e1z22 ?e2z22; (case eXz22 => k_asm); (case eKz22 => k_is); (case e1z22 => rfl); (case e2z22 => rfl); k_whole)) | ((with_reducible show wpAny _ _ (callWith _ _ _ (backTo _ (starEach [] _)) []) _ _ _); k_dflt (refine' callWith_K0 ?eXz22 ?eKz22 ?_; (case eXz22 => k_in); (case eKz22 => k_is); k_whole)))
  k_with "assignInOrder" => (k_here; k_dflt (first | refine assignInOrder_cons ?_ | refine assignInOrder_nil ?_))
  k_with "exec Raise some none" => (k_here; (with_reducible refine Raise_new rfl ?_))
  k_with "ktr_call rest" => ((case kA => exact rfl); (case kF => exact rfl); (case kK => assumption); (case k1 => k_asm); (case k2 => k_asm); (case k3 => k_asm); (case k4 => k_asm); (case k5 => k_asm); (case k6 => k_is); (case k7 => k_is); (case k8 => ktr_room); (case k9 => first | exact BindsTo.of_eq rfl | exact binds_K (by k_in) rfl (by k_is) rfl rfl rfl); (case c5 => decide); (case kB => exact locs rfl); (case c2 => exact rfl); (case c3 => exact rfl); (case c4 => exact rfl); k_whole; intro g'zz L'zz h'zz FG'zz F'zz N'zz B'zz X'zz T'zz; (try dsimp only); (try k_lift B'zz); (try k_fold))
  k_with "ask five" => ((case k1 => k_asm); (case k2 => k_asm); (case k3 => k_asm); (case k4 => k_asm); (case k5 => k_asm))
  k_with "ask rest" => ((case kK => first | exact rfl | assumption); (case kd => ktr_room); (case ku => ktr_units); k_whole)
  k_with "bits_by_make" => ((guard_expr secOgA =ₛ secOgA); first | assumption | (refine bits_ten ?_; omega))
  k_with "binaryOp FloorDiv int int" => ((guard_expr secOgA =ₛ secOgA); (k_here; (with_reducible refine' floordiv_int ?og1z26 ?_ (Or.inl (PyProof.noPylong_of_log2 (lg_of_bits ?og2z26 ?og3z26)))); (case og1z26 => first | assumption | (refine' abs_ne ?hcz26; (case hcz26 => assumption); done) | exact ten_ne _ | omega); (case og2z26 => bits_by_make); (case og3z26 => decide)))
  k_with "bits_by_make" => first | assumption | (refine bits_ten ?_; omega)
  k_with "binaryOp FloorDiv int int" => (k_here; (with_reducible refine' floordiv_int ?og1z26 ?_ (Or.inl (PyProof.noPylong_of_log2 (lg_of_bits ?og2z26 ?og3z26)))); (case og1z26 => first | assumption | (refine' abs_ne ?hcz26; (case hcz26 => assumption); done) | exact ten_ne _ | omega); (case og2z26 => bits_by_make); (case og3z26 => decide))
  k_with "binaryOp Pow int int" => (k_here; (with_reducible refine pow_int_small ?ogb1z27 ?ogb2z27 ?ogb3z27 ?_); (case ogb1z27 => first | decide | omega | (split <;> omega)); (case ogb2z27 => first | decide | omega | (split <;> omega)); (case ogb3z27 => decide))
  k_with "subscriptTail" => (k_here; (with_reducible show wpAny _ _ (subscriptTail _ _ (Value.ref _) (Value.int _ _)) _ _ _); k_dflt (refine' item_tupleT ?tz28 ?az28 ?bz28 ?cz28 ?dz28 ?_; (case tz28 => (refine' News.isTup ?taz28 ?tbz28; (case taz28 => k_asm); (case tbz28 => k_mem))); (case az28 => decide); (case bz28 => decide); (case cz28 => rfl); (case dz28 => rfl); k_whole))
  k_with "call ref" => (k_here; (with_reducible show wpAny _ _ (call (Value.ref 94) _) _ _ _); cell_ask (useT (decimal_spec _ _ _ _ _ _ (by first | with_reducible assumption | decide | omega) (by first | with_reducible assumption | decide | omega))); intro q9z29 t9z29 u9z29 h9z29 tk9z29 F9z29 N9z29 l9z29; (try k_lt l9z29); (try k_sweep); (try dsimp only); (try k_fold))
  k_with "call ref" => (k_here; (with_reducible show wpAny _ _ (call (Value.ref 86) _) _ _ _); cell_ask (useI (cutq_spec _ _ _ _ _ _ (by first | with_reducible assumption | exact ten_ne _) (by bits_by_make))); intro t9z30 h9z30 tk9z30 F9z30 N9z30; (try k_sweep); (try dsimp only); (try k_fold))
  k_with "call ref" => (k_here; (with_reducible show wpAny _ _ (call (Value.ref 151) _) _ _ _); cell_ask (useB (fits_spec _ _ _ _ _ _ (by first | with_reducible assumption | decide | omega) (by first | with_reducible assumption | decide | omega))); intro h9z31 tk9z31 F9z31 N9z31; (try k_sweep); (try dsimp only); (try k_fold))
  trivial
end SOgB
theorem wd8 : True := by
  k_with "binaryOp FloorDiv int int" => (k_here; (with_reducible refine' floordiv_int ?og1z32 ?_ (Or.inl (PyProof.noPylong_of_log2 (lg_of_bits ?og2z32 ?og3z32)))); (case og1z32 => first | assumption | (refine' abs_ne ?hcz32; (case hcz32 => assumption); done) | exact ten_ne _ | exact two_ten_ne _ | omega); (case og2z32 => bits_by_make); (case og3z32 => decide))
  k_with "cell_step" => first | assumption | (refine' lt_last ?hcz33; (case hcz33 => assumption); done) | (refine' lt_last2 ?hcz33; (case hcz33 => assumption); done) | (refine' lt_last3 ?hcz33; (case hcz33 => assumption); done)
  k_with "kcj_all" => first | exact fun _ h => h | exact fun _ h => .tail _ h | exact fun _ h => .tail _ (.tail _ h) | exact fun _ h => .tail _ (.tail _ (.tail _ h))
  k_with "call ref" => (k_here; (with_reducible show wpAny _ _ (call (Value.ref 86) _) _ _ _); cell_ask (useI (cutq_spec _ _ _ _ _ _ (by first | with_reducible assumption | exact ten_ne _) (Nat.le_trans (by bits_by_make) (by decide)))); intro t9z35 h9z35 tk9z35 F9z35 N9z35; (try k_sweep); (try dsimp only); (try k_fold))
  k_with "call ref" => (k_here; (with_reducible show wpAny _ _ (call (Value.ref 108) _) _ _ _); cell_ask (useT3 (beside_spec _ _ _ _ _ _ _ _ _ _ _ _ (by k_mem) (by k_mem) (by with_reducible assumption) (by with_reducible assumption) (by with_reducible assumption) (by with_reducible assumption) (by with_reducible assumption) (by with_reducible assumption))); intro q9z36 t9z36 u9z36 v9z36 h9z36 tk9z36 F9z36 N9z36 l9z36; (try k_lt l9z36); (try k_sweep); (try dsimp only); (try k_fold))
  k_with "call ref" => (k_here; (with_reducible show wpAny _ _ (call (Value.ref 101) _) _ _ _); cell_ask (useT (kept_spec _ _ _ _ _ _ (by omega) (by omega) (by with_reducible assumption))); intro q9z37 t9z37 u9z37 h9z37 tk9z37 F9z37 N9z37 l9z37; (try k_lt l9z37); (try k_sweep); (try dsimp only); (try k_fold))
  trivial
section SOgC
open PySem PySem.W PyProof.Rows PySem.Calls
set_option maxRecDepth 100000
set_option maxHeartbeats 1000000

theorem rs_OgC : True := by
  w_top off
  trivial
theorem plus_spec (w : World) (news : Led) (qa qb : Addr) (a sa b sb : Int) (t1 t2 t3 t4 : Tok) (ha : (qa, tup2 a sa t1 t2) ∈ news) (hb : (qb, tup2 b sb t3 t4) ∈ news)
    (h1 : 0 ≤ sa) (h2 : sa ≤ 100) (h3 : 0 ≤ sb) (h4 : sb ≤ 100) (h5 : bits a ≤ 1000) (h6 : bits b ≤ 1000) :
    Ct w 115 2 16 news [.ref qa, .ref qb] (RT news (dec (a * 10 ^ (max sa sb - sa).toNat + b * 10 ^ (max sa sb - sb).toNat) (max sa sb).toNat).1 (dec (a * 10 ^ (max sa sb - sa).toNat + b * 10 ^ (max sa sb - sb).toNat) (max sa sb).toNat).2) := by
  unfold Ct
  intro prog p loose mean mg mb dp un gd cn cs aa ccd cl outer A₀ base h₀ L m s Q E B F X N T hk hdp hun hret
  ktr_call [("a", .ref qa), ("b", .ref qb)] 115
  k_steps
  exact endT hret (by k_asm) (by k_asm) (by kcj_all) (by cell_step) rfl rfl
theorem minus_spec (w : World) (news : Led) (qa qb : Addr) (a sa b sb : Int) (t1 t2 t3 t4 : Tok) (ha : (qa, tup2 a sa t1 t2) ∈ news) (hb : (qb, tup2 b sb t3 t4) ∈ news)
    (h1 : 0 ≤ sa) (h2 : sa ≤ 100) (h3 : 0 ≤ sb) (h4 : sb ≤ 100) (h5 : bits a ≤ 1000) (h6 : bits b ≤ 1000) :
    Ct w 122 2 16 news [.ref qa, .ref qb] (RT news (dec (a * 10 ^ (max sa sb - sa).toNat - b * 10 ^ (max sa sb - sb).toNat) (max sa sb).toNat).1 (dec (a * 10 ^ (max sa sb - sa).toNat - b * 10 ^ (max sa sb - sb).toNat) (max sa sb).toNat).2) := by
  unfold Ct
  intro prog p loose mean mg mb dp un gd cn cs aa ccd cl outer A₀ base h₀ L m s Q E B F X N T hk hdp hun hret
  ktr_call [("a", .ref qa), ("b", .ref qb)] 122
  k_steps
  exact endT hret (by k_asm) (by k_asm) (by kcj_all) (by cell_step) rfl rfl
theorem times_spec (w : World) (news : Led) (qa qb : Addr) (a sa b sb : Int) (t1 t2 t3 t4 : Tok) (ha : (qa, tup2 a sa t1 t2) ∈ news) (hb : (qb, tup2 b sb t3 t4) ∈ news)
    (h1 : 0 ≤ sa) (h2 : sa ≤ 15) (h3 : 0 ≤ sb) (h4 : sb ≤ 15) (h5 : bits a ≤ 1000) (h6 : bits b ≤ 1000) (hs : decide (((a * b).natAbs : Int) < 10 ^ (120 : Int).toNat) = true) :
    Ct w 129 3 24 news [.ref qa, .ref qb] (RT news (dec (a * b) (sa + sb).toNat).1 (dec (a * b) (sa + sb).toNat).2) := by
  unfold Ct
  intro prog p loose mean mg mb dp un gd cn cs aa ccd cl outer A₀ base h₀ L m s Q E B F X N T hk hdp hun hret
  ktr_call [("a", .ref qa), ("b", .ref qb)] 129
  k_steps
  exact endT hret (by k_asm) (by k_asm) (by kcj_all) (by cell_step) rfl rfl
theorem quot_spec (w : World) (news : Led) (qa qb : Addr) (a sa b sb : Int) (t1 t2 t3 t4 : Tok) (ha : (qa, tup2 a sa t1 t2) ∈ news) (hb : (qb, tup2 b sb t3 t4) ∈ news)
    (h1 : 0 ≤ sa) (h2 : sa ≤ 100) (h3 : 0 ≤ sb) (h4 : sb ≤ 100) (h5 : bits a ≤ 1000) (h6 : bits b ≤ 1000) (h0 : b ≠ 0) (h7 : b * 10 ^ sa.toNat ≠ 0) :
    Ct w 137 2 16 news [.ref qa, .ref qb] (RT news (dec (rnd false (a * 10 ^ (30 + sb).toNat) (b * 10 ^ sa.toNat)) 30).1 (dec (rnd false (a * 10 ^ (30 + sb).toNat) (b * 10 ^ sa.toNat)) 30).2) := by
  unfold Ct
  intro prog p loose mean mg mb dp un gd cn cs aa ccd cl outer A₀ base h₀ L m s Q E B F X N T hk hdp hun hret
  ktr_call [(Str.ofString "a", Value.ref qa), (Str.ofString "b", Value.ref qb), (Str.ofString "many", Value.int 30 279)] 137
  k_steps
  · exact absurd ‹b = 0› h0
  · exact endT hret (by k_asm) (by k_asm) (by kcj_all) (by cell_step) rfl rfl
theorem unitsAt_le {a sa k : Int} {r : Bool} (h0 : 0 ≤ sa) (h : sa ≤ k) : a * 10 ^ (k - sa).toNat = unitsAt a sa.toNat k.toNat r := by
  unfold unitsAt
  rw [if_pos (by lia), tnS h0]
theorem unitsAt_gt {a sa k : Int} {r : Bool} (h0 : 0 ≤ k) (h : ¬ sa ≤ k) : rnd r a (10 ^ (sa - k).toNat) = unitsAt a sa.toNat k.toNat r := by
  unfold unitsAt
  rw [if_neg (by lia), tnS h0]
theorem half_eq (a : Int) (n : Nat) : (2 * (if a < 0 then -a else a) + 10 ^ n).fdiv (2 * 10 ^ n) = (((2 * a.natAbs + ((10 : Int) ^ n).natAbs) / (2 * ((10 : Int) ^ n).natAbs) : Nat) : Int) := by
  have hp := pow10_pos n
  rw [abs_ite, Int.fdiv_eq_ediv_of_nonneg _ (by lia)]
  generalize (10 : Int) ^ n = p at hp
  rw [Int.natCast_ediv]
  congr 1 <;> lia
theorem half_neg {a : Int} {n : Nat} (h : a < 0) : -((2 * (if a < 0 then -a else a) + 10 ^ n).fdiv (2 * 10 ^ n)) = rnd true a (10 ^ n) := by
  rw [half_eq]
  unfold rnd
  have : decide ((10 : Int) ^ n < 0) = false := decide_eq_false (by have := pow10_pos n; lia)
  simp [h, this]
theorem half_pos {a : Int} {n : Nat} (h : ¬ a < 0) : ((2 * (if a < 0 then -a else a) + 10 ^ n).fdiv (2 * 10 ^ n)) = rnd true a (10 ^ n) := by
  rw [half_eq]
  unfold rnd
  have : decide ((10 : Int) ^ n < 0) = false := decide_eq_false (by have := pow10_pos n; lia)
  simp [h, this]
theorem unitsAt_spec (w : World) (news : Led) (qa : Addr) (a sa k : Int) (t1 t2 t3 : Tok) (r : Bool) (ha : (qa, tup2 a sa t1 t2) ∈ news)
    (h1 : 0 ≤ sa) (h2 : sa ≤ 100) (h3 : 0 ≤ k) (h4 : k ≤ 100) (h5 : bits a ≤ 1000) :
    Ct w 144 2 16 news [.ref qa, .int k t3, .bool r] (RI news (unitsAt a sa.toNat k.toNat r)) := by
  unfold Ct
  intro prog p loose mean mg mb dp un gd cn cs aa ccd cl outer A₀ base h₀ L m s Q E B F X N T hk hdp hun hret
  ktr_call [("a", .ref qa), ("scale", .int k t3), ("is_rounded", .bool r)] 144
  k_steps
  · exact endI hret (by k_asm) (by k_asm) (by kcj_all) (unitsAt_le (by assumption) (by assumption))
  · subst r; exact endI hret (by k_asm) (by k_asm) (by kcj_all) (half_neg (by assumption) ▸ unitsAt_gt (by assumption) (by assumption))
  · subst r; exact endI hret (by k_asm) (by k_asm) (by kcj_all) (half_pos (by assumption) ▸ unitsAt_gt (by assumption) (by assumption))
  · subst r; exact endI hret (by k_asm) (by k_asm) (by kcj_all) (unitsAt_gt (by assumption) (by assumption))
end SOgC
section SOgLoop
open PySem PySem.W PyProof.Rows PySem.Calls
set_option maxRecDepth 100000

/-- a goal that no line of the walk takes: the walk stops here -/
noncomputable def OgW (P : Prop) : Prop := P
theorem og_stop {M : Model} {A : Around} {v : Value} {Q : Value → Shared → Prop} {E : Value → Shared → Prop} {s : Shared} (h : OgW (wpAny M A (pyIter v) Q E s)) : wpAny M A (pyIter v) Q E s := h

noncomputable def OgEnd (h₀ : Heap) (L : Addr) (J : (Str → Option Value) → Led → Prop) (I : Addr) (oI : Obj) (s₁ s₂ : Shared) : Prop :=
  ∃ h' tk m' nx, s₂ = { s₁ with heap := h', toks := tk } ∧ Fr h₀ L h' m' ∧ News h₀ L h' ((I, oI) :: nx) ∧ (∀ p ∈ nx, p.1 ≠ I) ∧ J m' nx
noncomputable def OgPost (h₀ : Heap) (L : Addr) (J : (Str → Option Value) → Led → Prop) (I : Addr) (oI : Obj) (s₁ : Shared) (Q : Flow → Shared → Prop) (f : Flow) (s₂ : Shared) : Prop :=
  match f with
  | .ret v => Q (.ret v) s₂
  | .brk => Q .next s₂
  | .next => OgW (OgEnd h₀ L J I oI s₁ s₂)
  | .cont => OgW (OgEnd h₀ L J I oI s₁ s₂)
noncomputable def OgS {σ : Type} (Ld : σ → Led) (ps : σ → List (Str × Value)) (x : Str) (m₀ : Str → Option Value) (P : σ → Prop) (m : Str → Option Value) (nx : Led) : Prop :=
  ∃ c : σ, nx = Ld c ∧ (∀ p ∈ ps c, m p.1 = some p.2) ∧ (∀ z, z ≠ x → (∀ p ∈ ps c, z ≠ p.1) → m z = m₀ z) ∧ P c
theorem og_end {σ : Type} {Ld : σ → Led} {ps : σ → List (Str × Value)} {x : Str} {m₀ m' : Str → Option Value} {P : σ → Prop} {h₀ : Heap} {L I : Addr} {oI : Obj} {s₁ : Shared} {h' : Heap} {tk : Nat} {news' : Led} (c : σ)
    (F : Fr h₀ L h' m') (N : News h₀ L h' news') (hI : (I, oI) ∈ news') (hs : ∀ p ∈ Ld c, p ∈ news') (hne : ∀ p ∈ Ld c, p.1 ≠ I) (hk : ∀ p ∈ ps c, m' p.1 = some p.2) (hr : ∀ z, z ≠ x → (∀ p ∈ ps c, z ≠ p.1) → m' z = m₀ z) (hp : P c) :
    OgW (OgEnd h₀ L (OgS Ld ps x m₀ P) I oI s₁ { s₁ with heap := h', toks := tk }) :=
  ⟨h', tk, m', Ld c, rfl, F, fun p hp => by
    rcases List.mem_cons.mp hp with rfl | hp
    · exact N _ hI
    · exact N p (hs p hp), hne, c, rfl, hk, hr, hp⟩

theorem og_fr {h₀ : Heap} {L : Addr} {h : Heap} {x : Str} {ps : List (Str × Value)} {m₀ m₁ : Str → Option Value} {v : Value} (h1 : ∀ p ∈ ps, m₁ p.1 = some p.2) (h2 : ∀ z, z ≠ x → (∀ p ∈ ps, z ≠ p.1) → m₁ z = m₀ z)
    (F : Fr h₀ L h (fun y => if y = x then some v else m₁ y)) : Fr h₀ L h (fun y => if y = x then some v else kstB m₀ ps y) := by
  have em : (fun y => if y = x then some v else kstB m₀ ps y) = fun y => if y = x then some v else m₁ y := by
    funext y
    by_cases hy : y = x
    · rw [if_pos hy, if_pos hy]
    · rw [if_neg hy, if_neg hy]
      exact kstB_eq h1 fun hn => (h2 y hy hn).symm
  rw [em]; exact F
theorem og_frOut {h₀ : Heap} {L : Addr} {h : Heap} {x : Str} {ps : List (Str × Value)} {m₀ m₁ : Str → Option Value} (h1 : ∀ p ∈ ps, m₁ p.1 = some p.2) (h2 : ∀ z, z ≠ x → (∀ p ∈ ps, z ≠ p.1) → m₁ z = m₀ z)
    (F : Fr h₀ L h m₁) : Fr h₀ L h (fun y => if y = x then m₁ y else kstB m₀ ps y) := by
  have em : (fun y => if y = x then m₁ y else kstB m₀ ps y) = m₁ := by
    funext y
    by_cases hy : y = x
    · rw [if_pos hy]
    · rw [if_neg hy]
      exact kstB_eq h1 fun hn => (h2 y hy hn).symm
  rw [em]; exact F

theorem size_ok {vs : List Value} {ns : List Int} (h : IntsAre vs ns) (hl : ns.length ≤ 100000) : vs.toArray.size ≤ sizeLine := by
  rw [List.size_toArray, h.length, sizeLine_eq]; lia
theorem og_name0 {h₀ h : Heap} {L D : Addr} {o : Obj} {rest : Led} {P : Prop} (_N : News h₀ L h ((D, o) :: rest)) (k : ∀ D', D' = D → P) : P := k D rfl
theorem og_name1 {h₀ h : Heap} {L D : Addr} {o : Obj} {q : Addr × Obj} {rest : Led} {P : Prop} (_N : News h₀ L h (q :: (D, o) :: rest)) (k : ∀ D', D' = D → P) : P := k D rfl
theorem og_name2 {h₀ h : Heap} {L D : Addr} {o : Obj} {q r : Addr × Obj} {rest : Led} {P : Prop} (_N : News h₀ L h (q :: r :: (D, o) :: rest)) (k : ∀ D', D' = D → P) : P := k D rfl
theorem og_tail {h₀ h : Heap} {L : Addr} {q : Addr × Obj} {rest : Led} (N : News h₀ L h (q :: rest)) : News h₀ L h rest := fun p hp => N p (.tail _ hp)
theorem og_sub {h₀ h : Heap} {L : Addr} {a b : Led} (N : News h₀ L h a) (hs : ∀ p ∈ b, p ∈ a) : News h₀ L h b := fun p hp => N p (hs p hp)
theorem og_neOf {d : Addr} {l : Led} (h : ∀ p ∈ l, p.1 < d) : ∀ p ∈ l, p.1 ≠ d := fun p hp => Nat.ne_of_lt (h p hp)
theorem og_ne_cons {d : Addr} {q : Addr × Obj} {l : Led} (h1 : q.1 ≠ d) (h : ∀ p ∈ l, p.1 ≠ d) : ∀ p ∈ q :: l, p.1 ≠ d := fun p hp => by
  rcases List.mem_cons.mp hp with rfl | hp
  · exact h1
  · exact h p hp
theorem og_ne_swap {I D : Addr} {o o' : Obj} {l : Led} (h : ∀ p ∈ (D, o) :: l, p.1 ≠ I) : ∀ p ∈ (D, o') :: l, p.1 ≠ I := og_ne_cons (h (D, o) (.head _)) fun p hp => h p (.tail _ hp)
section
variable {prog : Program} {w : World} {A : Around} {E : Value → Shared → Prop} {s : Shared} {env : Env} {h₀ : Heap} {x : Str} {body : List Stmt} {Q : Flow → Shared → Prop}
theorem og_core {σ : Type} {I : Addr} {ls : Led} {n : Nat} {Pv : Nat → Value → Prop} {St : Nat → Heap → Prop} {m₀ : Str → Option Value} (Ld : σ → Led) (ps : σ → List (Str × Value)) (P : Nat → σ → Prop) (c₀ : σ)
    (W : Walks prog w A I (I :: ls.map (·.1)) [I] n Pv St) (hLf : env.locals ∉ I :: ls.map (·.1)) (hwr : h₀.get? I = none) (hst : St 0 s.heap) (hSt : ∀ i h, St i h → ∃ o, h.get? I = some o)
    (hls : ∀ i c, P i c → ∀ b ∈ ls, b ∈ Ld c) (hnw : ∀ p ∈ Ld c₀, p.1 ≠ I)
    (F : Fr h₀ env.locals s.heap m₀) (N : News h₀ env.locals s.heap (Ld c₀)) (hk : ∀ p ∈ ps c₀, m₀ p.1 = some p.2) (hp : P 0 c₀)
    (turn : ∀ (c : σ) (i : Nat) (v : Value) (h : Heap) (tk : Nat) (oI : Obj), i < n → Pv i v → P i c → (∀ p ∈ Ld c, p.1 ≠ I) →
      Fr h₀ env.locals h (fun y => if y = x then some v else kstB m₀ (ps c) y) → News h₀ env.locals h ((I, oI) :: Ld c) →
      wpAny (model prog w) A (execs body env) (OgPost h₀ env.locals (OgS Ld ps x m₀ (P (i + 1))) I oI { s with heap := h, toks := tk } Q) E { s with heap := h, toks := tk })
    (done : ∀ (c : σ) (u : Str → Option Value) h tk, P n c → Fr h₀ env.locals h (fun y => if y = x then u y else kstB m₀ (ps c) y) → News h₀ env.locals h (Ld c) → Q .next { s with heap := h, toks := tk }) :
    LoopAtV prog w A h₀ env x body Q E (.ref I) s := by
  refine ⟨I, _, _, n, Pv, St, m₀, Ld c₀, (fun i m nx => OgS Ld ps x m₀ (P i) m nx), rfl, W, hLf, ?_, ?_, hst, F, N, ⟨c₀, rfl, hk, fun _ _ _ => rfl, hp⟩, ?_, ?_⟩
  · intro b hb; rw [List.mem_singleton.mp hb]; exact hwr
  · intro p hp hb; exact hnw p hp (List.mem_singleton.mp hb)
  · rintro i v m₁ nx s₁ own ⟨h, tk, rfl⟩ hi hv ⟨c, rfl, h1, h2, hP⟩ hoff hown hget hfp hst₁ F₁ N₁
    obtain ⟨oI, hoI⟩ := hSt _ _ hst₁
    have hIo : (I, oI) ∈ own := hfp I (.head _) hwr oI hoI
    have hne : ∀ p ∈ Ld c, p.1 ≠ I := fun p hp e => hoff p hp (by rw [e]; exact .head _)
    refine wpAny_mono (turn c i v h tk oI hi hv hP hne (og_fr h1 h2 F₁) (fun p hp => ?_)) (fun f s₂ p => ?_) fun _ _ e => e
    · rcases List.mem_cons.mp hp with rfl | hp
      · exact N₁ _ (List.mem_append_left _ hIo)
      · exact N₁ _ (List.mem_append_right _ hp)
    · have fin : OgEnd h₀ env.locals (OgS Ld ps x m₀ (P (i + 1))) I oI { s with heap := h, toks := tk } s₂ → LoopStepU h₀ env.locals [I] own (OgS Ld ps x m₀ (P (i + 1))) { s with heap := h, toks := tk } .next s₂ := by
        rintro ⟨h', tk', m', nx, e, F', N', hn', hJ⟩
        refine ⟨rfl, h', tk', m', nx, e, F', fun p hp => ?_, fun p hp hb => hn' p hp (List.mem_singleton.mp hb), hJ⟩
        rcases List.mem_append.mp hp with hp | hp
        · have hpo := hown p hp
          have hg := hget p hp
          rcases List.mem_cons.mp hpo with e1 | e1
          · have : p = (I, oI) := by
              obtain ⟨a, o⟩ := p
              simp only at e1 hg
              subst e1
              rw [hoI] at hg
              cases hg
              rfl
            rw [this]; exact N' _ (.head _)
          · obtain ⟨b, hb, e2⟩ := List.mem_map.mp e1
            have hbc := hls i c hP b hb
            have hb2 := (N₁ b (List.mem_append_right _ hbc)).1
            have : p = b := by
              obtain ⟨a, o⟩ := p
              obtain ⟨a', o'⟩ := b
              simp only at e2 hg hb2
              subst e2
              rw [hg] at hb2
              cases hb2
              rfl
            obtain ⟨c', rfl, _, _, hP'⟩ := hJ
            rw [this]; exact N' _ (.tail _ (hls _ c' hP' b hb))
        · exact N' p (.tail _ hp)
      cases f with
      | ret v => exact .ret p
      | brk => exact .brk p
      | next => exact .next (fin p)
      | cont => exact .cont (fin p)
  · rintro h' tk m' nx F' N' _ ⟨c, rfl, h1, h2, hP⟩
    exact done c m' h' tk hP (og_frOut h1 h2 F') N'

theorem og_range {σ : Type} {r : Addr} {a₀ b₀ : Int} {t₀ u₀ v₀ : Tok} {n : Nat} {m₀ : Str → Option Value} (Ld : σ → Led) (ps : σ → List (Str × Value)) (P : Nat → σ → Prop) (c₀ : σ)
    (hh : A.handled = none) (hr : IsRange s.heap r a₀ b₀ 1 t₀ u₀ v₀) (hsmall : Builtin.Range.small a₀ b₀ 1 = true) (hn : Builtin.Range.rangeSize a₀ b₀ 1 = (n : Int))
    (F : Fr h₀ env.locals s.heap m₀) (N : News h₀ env.locals s.heap (Ld c₀)) (hk : ∀ p ∈ ps c₀, m₀ p.1 = some p.2) (hp : P 0 c₀)
    (turn : ∀ (c : σ) (i : Nat) (t : Tok) (h : Heap) (tk : Nat) (I : Addr) (oI : Obj), i < n → P i c → (∀ p ∈ Ld c, p.1 ≠ I) →
      Fr h₀ env.locals h (fun y => if y = x then some (.int (a₀ + (i : Int)) t) else kstB m₀ (ps c) y) → News h₀ env.locals h ((I, oI) :: Ld c) →
      wpAny (model prog w) A (execs body env) (OgPost h₀ env.locals (OgS Ld ps x m₀ (P (i + 1))) I oI { s with heap := h, toks := tk } Q) E { s with heap := h, toks := tk })
    (done : ∀ (c : σ) (u : Str → Option Value) h tk, P n c → Fr h₀ env.locals h (fun y => if y = x then u y else kstB m₀ (ps c) y) → News h₀ env.locals h (Ld c) → Q .next { s with heap := h, toks := tk }) :
    wpAny (model prog w) A (pyIter (.ref r)) (fun it s₂ => LoopAtV prog w A h₀ env x body Q E it s₂) E s := by
  refine wpAny_pyIter_range hr hsmall ?_
  have W : Walks prog w A s.heap.objs.size [s.heap.objs.size] [s.heap.objs.size] n (fun i v => i < n ∧ ∃ t, v = .int (a₀ + i * 1) t)
      (fun i h => IsRangeIter h s.heap.objs.size (a₀ + (i : Nat) * 1) ((n : Int) - (i : Nat)) 1) := (Walks.range hh _ a₀ 1 n).bound
  refine og_core (ls := []) Ld ps P c₀ W ?_ ?_ ?_ ?_ (fun _ _ _ b hb => nomatch hb) ?_ (F.push _) (fun p hp => ⟨Heap.get?_push_of_some _ (N p hp).1, (N p hp).2⟩) hk hp ?_ ?_
  · intro hm
    exact absurd F.ns.lt ((List.mem_singleton.mp hm) ▸ Nat.lt_irrefl _)
  · exact next_is_new F
  · show IsRangeIter _ _ _ _ _; rw [hn]; simpa using Heap.get?_push_size _ rfl
  · intro i h st; exact ⟨_, st⟩
  · intro p hp e
    exact absurd (Heap.lt_size (N p hp).1) (by rw [e]; exact Nat.lt_irrefl _)
  · rintro c i v h tk oI hi ⟨_, t, rfl⟩ hP hne F₁ N₁
    have e1 : a₀ + (i : Int) * 1 = a₀ + (i : Int) := by lia
    rw [e1] at F₁
    exact turn c i t h tk _ oI hi hP hne F₁ N₁
  · intro c u h tk hP F₁ N₁
    exact done c u h tk hP F₁ N₁
theorem og_bytes {σ : Type} {b : Array UInt8} {ks : List Int} {tb : Tok} {m₀ : Str → Option Value} (Ld : σ → Led) (ps : σ → List (Str × Value)) (P : Nat → σ → Prop) (c₀ : σ)
    (hh : A.handled = none) (hb : KBw.bInts b = ks)
    (F : Fr h₀ env.locals s.heap m₀) (N : News h₀ env.locals s.heap (Ld c₀)) (hk : ∀ p ∈ ps c₀, m₀ p.1 = some p.2) (hp : P 0 c₀)
    (turn : ∀ (c : σ) (i : Nat) (k : Int) (t : Tok) (h : Heap) (tk : Nat) (I : Addr) (oI : Obj), ks[i]? = some k → P i c → (∀ p ∈ Ld c, p.1 ≠ I) →
      Fr h₀ env.locals h (fun y => if y = x then some (.int k t) else kstB m₀ (ps c) y) → News h₀ env.locals h ((I, oI) :: Ld c) →
      wpAny (model prog w) A (execs body env) (OgPost h₀ env.locals (OgS Ld ps x m₀ (P (i + 1))) I oI { s with heap := h, toks := tk } Q) E { s with heap := h, toks := tk })
    (done : ∀ (c : σ) (u : Str → Option Value) h tk, P ks.length c → Fr h₀ env.locals h (fun y => if y = x then u y else kstB m₀ (ps c) y) → News h₀ env.locals h (Ld c) → Q .next { s with heap := h, toks := tk }) :
    wpAny (model prog w) A (pyIter (.bytes b tb)) (fun it s₂ => LoopAtV prog w A h₀ env x body Q E it s₂) E s := by
  subst hb
  refine KBw.pyIter_bytes ?_
  have W := KBw.walks (prog := prog) (w := w) hh s.heap.objs.size b tb
  refine og_core (ls := []) Ld ps P c₀ W ?_ ?_ ?_ ?_ (fun _ _ _ b hb => nomatch hb) ?_ (F.push _) (fun p hp => ⟨Heap.get?_push_of_some _ (N p hp).1, (N p hp).2⟩) hk hp ?_ ?_
  · intro hm
    exact absurd F.ns.lt ((List.mem_singleton.mp hm) ▸ Nat.lt_irrefl _)
  · exact next_is_new F
  · exact ⟨_, Heap.get?_push_size _ rfl, rfl, rfl⟩
  · rintro i h ⟨o, st, _⟩; exact ⟨_, st⟩
  · intro p hp e
    exact absurd (Heap.lt_size (N p hp).1) (by rw [e]; exact Nat.lt_irrefl _)
  · rintro c i v h tk oI hi ⟨n, t, hn, rfl⟩ hP hne F₁ N₁
    exact turn c i _ t h tk _ oI (KBw.ints_get hn) hP hne F₁ N₁
  · intro c u h tk hP F₁ N₁
    rw [← KBw.ints_length] at hP
    exact done c u h tk hP F₁ N₁
end
end SOgLoop
local macro_rules | `(tactic| walk_at "pyIter ref") => `(tactic| (refine og_stop ?_))
local macro_rules | `(tactic| walk_at "pyIter bytes") => `(tactic| (refine og_stop ?_))
theorem wd9 : True := by
  k_with "k_all" => assumption
  k_with "subscriptTail Name Slice ref ref" => (k_here; (with_reducible show wpAny _ _ (subscriptTail _ (PySem.Expr.Slice none none (some _) _) (Value.ref _) (Value.ref _)) _ _ _); k_dflt (refine' krv_ints ?Fz39 ?Nz39 ?lz39 ?kz39 ?iz39 ?_ ?sz39 ?tz39 ?zz39; (case Fz39 => k_asm); (case Nz39 => k_asm); (case lz39 => (refine' News.isList ?laz39 ?lbz39; (case laz39 => k_asm); (case lbz39 => k_mem))); (case kz39 => exact IsPart.int _ _); (case iz39 => assumption); (case sz39 => with_unfolding_all rfl); (case tz39 => kmk_pure); (case zz39 => assumption)); intro D'z39 ws'z39 h'z39 F'z39 N'z39 l1z39 hI'z39 hC'z39; (try k_lt l1z39); (try k_sweep))
  k_with "call builtin:list.append" => (k_here; (with_reducible show wpAny _ _ (call (Value.builtin _) [Value.ref _, _]) _ _ _); k_dflt (refine' append_K ?k1z40 ?k2z40 ?k3z40 ?_ ?zz40; (case k1z40 => k_asm); (case k2z40 => k_asm); (case k3z40 => k_upd); (case zz40 => assumption); k_whole); intro h'z40 F'z40 N'z40; (try k_sweep))
  k_with "ksw_same" => (intro zz41 h1z41 h2z41; (simp only [List.forall_mem_cons, List.not_mem_nil, false_implies, implies_true, and_true, ne_eq] at h2z41); (simp [kstB, h1z41, h2z41]; done))
  trivial
section SOgD
open PySem PySem.W PyProof.Rows PySem.Calls
set_option maxRecDepth 100000
set_option maxHeartbeats 1000000

theorem rs_OgD : True := by
  w_top off
  trivial
/-- the dict of a numeric Shape -/
noncomputable abbrev shE (w : World) (k v : Nat → Tok) (digits scale size : Int) (usage sign : Str) (sep signed : Bool) : List DictEntry := [
  ⟨PyData.keyHash w.params (Str.ofString "category"), .str (Str.ofString "category") (k 0), .str (Str.ofString "numeric") (v 0)⟩,
  ⟨PyData.keyHash w.params (Str.ofString "size"), .str (Str.ofString "size") (k 1), .int size (v 1)⟩,
  ⟨PyData.keyHash w.params (Str.ofString "picture"), .str (Str.ofString "picture") (k 2), .none⟩,
  ⟨PyData.keyHash w.params (Str.ofString "usage"), .str (Str.ofString "usage") (k 3), .str usage (v 3)⟩,
  ⟨PyData.keyHash w.params (Str.ofString "sign"), .str (Str.ofString "sign") (k 4), .str sign (v 4)⟩,
  ⟨PyData.keyHash w.params (Str.ofString "is_separate"), .str (Str.ofString "is_separate") (k 5), .bool sep⟩,
  ⟨PyData.keyHash w.params (Str.ofString "is_justified"), .str (Str.ofString "is_justified") (k 6), .bool false⟩,
  ⟨PyData.keyHash w.params (Str.ofString "is_blank_zero"), .str (Str.ofString "is_blank_zero") (k 7), .bool false⟩,
  ⟨PyData.keyHash w.params (Str.ofString "digits"), .str (Str.ofString "digits") (k 8), .int digits (v 8)⟩,
  ⟨PyData.keyHash w.params (Str.ofString "scale"), .str (Str.ofString "scale") (k 9), .int scale (v 9)⟩,
  ⟨PyData.keyHash w.params (Str.ofString "is_signed"), .str (Str.ofString "is_signed") (k 10), .bool signed⟩]
noncomputable abbrev shD (w : World) (k v : Nat → Tok) (digits scale size : Int) (usage sign : Str) (sep signed : Bool) : Obj := dictOf (shE w k v digits scale size usage sign sep signed) 11

theorem bound_spec (w : World) (news : Led) (x dx : Addr) (k v : Nat → Tok) (digits scale size : Int) (usage sign : Str) (sep signed : Bool) (h1 : (x, instObj 204 dx) ∈ news) (h2 : (dx, shD w k v digits scale size usage sign sep signed) ∈ news)
    (hd0 : 0 ≤ digits) (hd1 : digits ≤ 18) : Ct w 215 1 8 news [.ref x] (RI news (10 ^ digits.toNat)) := by
  unfold Ct
  intro prog p loose mean mg mb dp un gd cn cs aa ccd cl outer A₀ base h₀ L m s Q E B F X N T hk hdp hun hret
  ktr_call [("shape", .ref x)] 215
  k_steps
  exact endI hret (by k_asm) (by k_asm) (by kcj_all) rfl
namespace GSOgD
theorem secOgD : True := trivial
end GSOgD
open GSOgD
theorem wd10 : True := by
  k_with "call ref" => ((guard_expr secOgD =ₛ secOgD); (k_here; (with_reducible show wpAny _ _ (call (Value.ref 215) _) _ _ _); cell_ask (useI (bound_spec _ _ _ _ _ _ _ _ _ _ _ _ _ (by k_mem) (by k_mem) (by with_reducible assumption) (by with_reducible assumption))); intro t9z42 h9z42 tk9z42 F9z42 N9z42; (try k_sweep); (try dsimp only); (try k_fold)))
  trivial
/-- what a shape keeps of units -/
noncomputable def keptU (u : Int) (digits : Nat) (signed : Bool) : Int := if u < 0 ∧ signed = true then 0 - (u.natAbs : Int) % 10 ^ digits else (u.natAbs : Int) % 10 ^ digits
theorem fmod_abs (a : Int) (n : Nat) : (if a < 0 then -a else a).fmod (10 ^ n) = (a.natAbs : Int) % 10 ^ n := by
  rw [abs_ite, Int.fmod_eq_emod_of_nonneg _ (Int.le_of_lt (ten_pos n))]
theorem keptu_spec (w : World) (news : Led) (x dx : Addr) (k v : Nat → Tok) (digits scale size : Int) (usage sign : Str) (sep signed : Bool) (h1 : (x, instObj 204 dx) ∈ news) (h2 : (dx, shD w k v digits scale size usage sign sep signed) ∈ news)
    (hd0 : 0 ≤ digits) (hd1 : digits ≤ 18) (u : Int) (t : Tok) : Ct w 243 2 16 news [.ref x, .int u t] (RI news (keptU u digits.toNat signed)) := by
  unfold Ct
  intro prog p loose mean mg mb dp un gd cn cs aa ccd cl outer A₀ base h₀ L m s Q E B F X N T hk hdp hun hret
  ktr_call [("shape", .ref x), ("units", .int u t)] 243
  have hne : (10 : Int) ^ digits.toNat ≠ 0 := ten_ne _
  k_steps
  all_goals exact endI hret (by k_asm) (by k_asm) (by kcj_all) (by rw [fmod_abs]; unfold keptU; simp [*])
theorem swide_spec (w : World) (news : Led) (d : Int) (t : Tok) (hd0 : 1 ≤ d) (hd1 : d ≤ 18) : Ct w 222 1 8 news [.int d t] (RI news (if d ≤ 4 then 2 else if d ≤ 9 then 4 else 8)) := by
  unfold Ct
  intro prog p loose mean mg mb dp un gd cn cs aa ccd cl outer A₀ base h₀ L m s Q E B F X N T hk hdp hun hret
  ktr_call [("digits", .int d t)] 222
  k_steps
  all_goals exact endI hret (by k_asm) (by k_asm) (by kcj_all) (by simp [*])
theorem pwide_spec (w : World) (news : Led) (d : Int) (t : Tok) (hd0 : 1 ≤ d) (hd1 : d ≤ 18) : Ct w 229 1 8 news [.int d t] (RI news (d / 2 + 1)) := by
  unfold Ct
  intro prog p loose mean mg mb dp un gd cn cs aa ccd cl outer A₀ base h₀ L m s Q E B F X N T hk hdp hun hret
  ktr_call [("digits", .int d t)] 229
  k_steps
  all_goals exact endI hret (by k_asm) (by k_asm) (by kcj_all) (by rw [Int.fdiv_eq_ediv_of_nonneg _ (by lia)])
end SOgD
section SOgE
open PySem PySem.W PyProof.Rows PySem.Calls
set_option maxRecDepth 100000
set_option maxHeartbeats 1000000

theorem rs_OgE : True := by
  w_top off
  trivial
theorem figs_turn {n r : Int} {i : Nat} {fs : List Int} (h0 : 0 ≤ n) (hr : r = n / 10 ^ i) (hf : fs = (List.range i).map fun j => n / 10 ^ j % 10) :
    r.fdiv 10 = n / 10 ^ (i + 1) ∧ fs ++ [r.fmod 10] = (List.range (i + 1)).map fun j => n / 10 ^ j % 10 := by
  subst hr hf
  rw [Int.fdiv_eq_ediv_of_nonneg _ (by lia), Int.fmod_eq_emod_of_nonneg _ (by lia), List.range_succ, List.map_append, Int.pow_succ, Int.ediv_ediv_of_nonneg (Int.le_of_lt (pow10_pos i))]
  exact ⟨rfl, rfl⟩
theorem figs_spec (w : World) (news : Led) (n c : Int) (t u : Tok) (h0 : 0 ≤ n) (hc : 0 ≤ c) (hc2 : c ≤ 100) : Ct w 250 1 8 news [.int n t, .int c u] (RL news (figs n c.toNat)) := by
  unfold Ct
  intro prog p loose mean mg mb dp un gd cn cs aa ccd cl outer A₀ base h₀ L m s Q E B F X N T hk hdp hun hret
  ktr_call [("number", .int n t), ("count", .int c u)] 250
  k_steps
  unfold OgW
  rename News _ _ _ _ => N1
  refine og_name1 N1 (fun D e => ?_); subst e
  have hfr : ∀ p ∈ news, p.1 < D := by assumption
  have hne : ∀ p ∈ news, p.1 ≠ D := og_neOf hfr
  refine og_range (σ := Int × Tok × List Value × Nat) (fun c => (D, listOf c.2.2.1.toArray c.2.2.2) :: news) (fun c => [("rest", .int c.1 c.2.1)])
    (fun i c => ∃ fs, IntsAre c.2.2.1 fs ∧ c.1 = n / 10 ^ i ∧ fs = (List.range i).map fun j => n / 10 ^ j % 10) (n, t, [], 0) rfl (by assumption) (small_one (by lia) (by lia) (by lia) (by lia)) (rangeSize_nat _ _) (by k_asm) (og_tail N1) (by kst_all) ?_ ?_ ?_
  · exact ⟨[], .nil, by simp, rfl⟩
  · rintro ⟨r, tr, vs, cnt⟩ i ti h tk I oI hi ⟨fs, hI, hr, hf⟩ hni F1 N1
    dsimp only at hI hr hf hni F1 N1
    have hsz := size_ok hI (by rw [hf]; simp; lia)
    have hID : @Ne Nat I D := Ne.symm (hni _ (.head _))
    k_steps
    rename News _ _ _ _ => N2
    rw [List.push_toArray] at N2
    have ⟨e1, e2⟩ := figs_turn h0 hr hf
    refine' og_end (r.fdiv 10, _, _, _) (by k_asm) N2 (.head _) (fun _ h => .tail _ h) ?oga ?ogb ?ogc ?ogd
    case ogb => kst_all
    case oga => exact og_ne_swap hni
    case ogc => ksw_same
    case ogd => exact ⟨_, hI.append (.cons _ _ .nil), e1, e2⟩
  · rintro ⟨r, tr, vs, cnt⟩ uu h tk ⟨fs, hI, hr, hf⟩ F1 N1
    dsimp only at hI hr hf F1 N1
    have hsz := size_ok hI (by rw [hf]; simp; lia)
    k_steps
    exact endL hret (by k_asm) (by k_asm) (by kcj_all) (by assumption) (by cell_step) (by rw [hf, Int.sub_zero]; rfl)
end SOgE
section SOgList
open PySem PySem.W PyProof.Rows PySem.Calls
set_option maxRecDepth 100000
section
variable {prog : Program} {w : World} {A : Around} {E : Value → Shared → Prop} {s : Shared} {h₀ : Heap} {L l D : Addr} {m : Str → Option Value} {news news' : Led} {value slice : PySem.Expr} {vs : List Value} {ns : List Int} {c : Nat} {k z : Int} {u : Tok}
theorem og_item {Q : Value → Shared → Prop} (N : News h₀ L s.heap news) (hm : (l, listOf vs.toArray c) ∈ news) (hI : IntsAre vs ns) (h0 : 0 ≤ k) (h1 : k < 2 ^ 63) (hz : ns[k.toNat]? = some z) (h : ∀ t, Q (.int z t) s)
    (hs : subscripted slice false (.ref l) (.int k u) = operate [.ref l, .int k u] (getItem (.ref l) (.int k u)) := by with_unfolding_all rfl) :
    wpAny (model prog w) A (subscriptTail value slice (.ref l) (.int k u)) Q E s := by
  obtain ⟨t, ht⟩ := hI.get _ _ hz
  have hL : s.heap.IsList l vs.toArray := News.isList N hm
  exact tail_any hL.typeIs slot_list_getitem.lookup (wpAny_getItem_list hL h0 h1 (by simpa using ht) (h t)) hs
theorem ints_set {vs : List Value} {ns : List Int} (h : IntsAre vs ns) (i : Nat) (z : Int) (t : Tok) : IntsAre (vs.set i (.int z t)) (ns.set i z) := by
  induction h generalizing i with
  | nil => exact .nil
  | cons n t' _ ih => cases i with
    | zero => exact .cons _ _ (by assumption)
    | succ i => exact .cons _ _ (ih i)
theorem og_setItem {t : Tok} {Q : Unit → Shared → Prop} (F : Fr h₀ L s.heap m) (N : News h₀ L s.heap news) (hI : IntsAre vs ns) (h0 : 0 ≤ k) (h1 : k < 2 ^ 63) (hk : k < (ns.length : Int))
    (U : Upd D (listOf vs.toArray c) (listOf (vs.set k.toNat (.int z t)).toArray c) news news')
    (h : ∀ h', Fr h₀ L h' m → News h₀ L h' news' → IntsAre (vs.set k.toNat (.int z t)) (ns.set k.toNat z) → Q () { s with heap := h' }) :
    wpAny (model prog w) A (setItem (.ref D) (.int k u) (.int z t)) Q E s := by
  obtain ⟨pre, post, rfl, rfl, a, b⟩ := U.split
  have y := N (D, listOf vs.toArray c) (List.mem_append.mpr (.inr (.head _)))
  refine ki_setAt y.1 h0 h1 (by rw [List.size_toArray, hI.length]; exact hk) (h _ (F.change (Heap.SameBut.update ..) y.2.1 y.2.2) (ki_turn _ N a b ?_ ?_) (ints_set hI _ _ _))
  · show vs.toArray.setIfInBounds k.toNat _ = _
    simp
  · simp
theorem og_len {Q : Value → Shared → Prop} (N : News h₀ L s.heap news) (hm : (l, listOf vs.toArray c) ∈ news) (hI : IntsAre vs ns) (hz : vs.toArray.size ≤ sizeLine) (h : Q (.int (ns.length : Int) (s.toks + 1)) { s with toks := s.toks + 1 + 1 }) :
    wpAny (model prog w) A (call (.builtin "len") [.ref l]) Q E s :=
  kst_len N hm hI.length (by rw [List.size_toArray, hI.length, sizeLine_eq] at hz; lia) h
theorem og_bytes_of {Q : Value → Shared → Prop} (F : Fr h₀ L s.heap m) (N : News h₀ L s.heap news) (hm : (l, listOf vs.toArray c) ∈ news) (hI : IntsAre vs ns) (hr : KBa.In ns) (hz : vs.toArray.size ≤ sizeLine) (hh : A.handled = none)
    (h : ∀ h' t' k, Fr h₀ L h' m → News h₀ L h' news → Q (.bytes (byteArr ns) t') { s with heap := h', toks := k }) : wpAny (model prog w) A (call (.type "bytes") [.ref l]) Q E s :=
  KBa.make_K F N hh (News.isList N hm) hI hr (by rw [List.size_toArray, hI.length, sizeLine_eq] at hz; lia) fun h' t' k F' N' _ => h h' t' k F' N'
theorem og_add {ws : List Value} {ms : List Int} {a b : Addr} {c' : Nat} {Q : Value → Shared → Prop} (F : Fr h₀ L s.heap m) (N : News h₀ L s.heap news) (ha : (a, listOf vs.toArray c) ∈ news) (hb : (b, listOf ws.toArray c') ∈ news) (hi : IntsAre vs ns) (hj : IntsAre ws ms)
    (hz : ns.length + ms.length ≤ 100000)
    (h : ∀ D us h', Fr h₀ L h' m → News h₀ L h' ((D, listOf (List.toArray us) 0) :: news) → (∀ p ∈ news, p.1 < D) → IntsAre us (ns ++ ms) → us.toArray.size ≤ sizeLine → Q (.ref D) { s with heap := h' }) : wpAny (model prog w) A (binaryOp .Add (.ref a) (.ref b)) Q E s :=
  kmk_add_ints F N (News.isList N ha) (News.isList N hb) hi hj (fun D us h' F' N' l1 hI => h D us h' F' N' l1 hI (size_ok hI (by rw [List.length_append]; exact hz))) (by rw [sizeLine_eq]; lia)
end
theorem off1_all {D : Addr} : ∀ {l : Led}, LCg.Off1 D l → ∀ p ∈ l, p.1 ≠ D
  | [], _, _, h => nomatch h
  | _ :: _, x, p, h => by
    rcases List.mem_cons.mp h with rfl | h
    · exact x.1
    · exact off1_all x.2 p h
theorem in_map48 {ds : List Int} (h : ∀ d ∈ ds, 0 ≤ d ∧ d ≤ 9) : KBa.In (ds.map (48 + ·)) := by
  intro n hn
  obtain ⟨d, hd, rfl⟩ := List.mem_map.mp hn
  have := h d hd
  lia
theorem in_app {a b : List Int} (ha : KBa.In a) (hb : KBa.In b) : KBa.In (a ++ b) := fun n hn => (List.mem_append.mp hn).elim (ha n) (hb n)
theorem in_one {a : Int} (h0 : 0 ≤ a) (h1 : a < 256) : KBa.In [a] := fun n hn => by rw [List.mem_singleton.mp hn]; exact ⟨h0, h1⟩
theorem in_set {a : List Int} (ha : KBa.In a) (i : Nat) {z : Int} (h0 : 0 ≤ z) (h1 : z < 256) : KBa.In (a.set i z) := fun n hn => by
  rcases List.mem_or_eq_of_mem_set hn with h | h
  · exact ha n h
  · rw [h]; exact ⟨h0, h1⟩
theorem cell_ne {L : Addr} {l : Led} (h : ∀ p ∈ l, p.1 < L) : ∀ p ∈ l, p.1 ≠ L + 1 := fun p hp e => by
  have h1 : @LT.lt Nat _ p.1 L := h p hp
  have h2 : @Eq Nat p.1 (L + 1) := e
  lia
theorem og_wrap {P : Prop} (h : OgW P) : P := h
end SOgList
theorem wd11 : True := by
  k_with "subscriptTail Name Constant ref int" => (k_here; (with_reducible show wpAny _ _ (subscriptTail _ _ (Value.ref _) (Value.int _ _)) _ _ _); k_dflt (refine' item_tupleT ?tz28 ?az28 ?bz28 ?cz28 ?dz28 ?_; (case tz28 => (refine' News.isTup ?taz28 ?tbz28; (case taz28 => k_asm); (case tbz28 => k_mem))); (case az28 => decide); (case bz28 => decide); (case cz28 => rfl); (case dz28 => rfl); k_whole))
  k_with "kcj_all" => first | exact fun _ h => h | exact fun _ h => .tail _ h | exact fun _ h => .tail _ (.tail _ h) | exact fun _ h => .tail _ (.tail _ (.tail _ h)) | exact fun _ h => .tail _ (.tail _ (.tail _ (.tail _ h))) | exact fun _ h => .tail _ (.tail _ (.tail _ (.tail _ (.tail _ h))))
  k_with "exec Assign cons ListComp" => (k_here; k_dflt (refine LCg.Assign_ListComp_U (F₀ := by k_asm) (by rfl) (by with_unfolding_all rfl) (by with_unfolding_all rfl) (by decide) (by rfl) (by decide) (by rfl) (by rfl) (by rfl) ?_))
  k_with "eval ListComp" => (k_here; k_dflt (refine LCg.ListComp_U (F₀ := by k_asm) (by with_unfolding_all rfl) (by decide) (by rfl) (by decide) (by rfl) ?_))
  k_with "CompSrc" => (refine og_wrap ?_)
  k_with "CompEnd" => (refine og_wrap ?_)
  k_with "call type:bytes" => (k_here; (with_reducible show wpAny _ _ (call (Value.type "bytes") [Value.ref _]) _ _ _); k_dflt (refine' og_bytes_of ?Fz47 ?Nz47 ?lz47 ?iz47 ?rz47 ?zz47 ?hz47 ?_; (case Fz47 => k_asm); (case Nz47 => k_asm); (case lz47 => k_mem); (case iz47 => assumption); (case rz47 => ktr_rel); (case zz47 => first | assumption | ((simp only [List.size_toArray, List.length_set] at *); assumption)); (case hz47 => rfl); k_whole); intro h'z47 t'z47 k'z47 F'z47 N'z47; (try k_sweep))
  k_with "call builtin:len" => (k_here; (with_reducible show wpAny _ _ (call (Value.builtin "len") [Value.ref _]) _ _ _); k_dflt (refine' og_len ?Nz48 ?lz48 ?iz48 ?zz48 ?_; (case Nz48 => k_asm); (case lz48 => k_mem); (case iz48 => assumption); (case zz48 => assumption); k_whole))
  k_with "binaryOp Add ref ref" => (k_here; (with_reducible show wpAny _ _ (binaryOp _ (Value.ref _) (Value.ref _)) _ _ _); k_dflt (refine' og_add ?Fz49 ?Nz49 ?az49 ?bz49 ?iz49 ?jz49 ?zz49 ?_; (case Fz49 => k_asm); (case Nz49 => k_asm); (case az49 => k_mem); (case bz49 => k_mem); (case iz49 => first | assumption | exact .cons _ _ .nil | exact .cons _ _ (.cons _ _ .nil)); (case jz49 => first | assumption | exact .cons _ _ .nil | exact .cons _ _ (.cons _ _ .nil)); (case zz49 => first | assumption | omega | ((simp only [List.length_cons, List.length_nil]); omega)); k_whole); intro D'z49 ws'z49 h'z49 F'z49 N'z49 l1z49 hI'z49 hz'z49; (try k_lt l1z49); (try k_sweep))
  k_with "k_mem" => first | exact List.Mem.head _ | with_reducible assumption | (refine List.mem_cons_of_mem _ ?_; k_mem)
  k_with "subscriptTail" => (k_here; (with_reducible show wpAny _ _ (subscriptTail _ _ (Value.ref _) (Value.int _ _)) _ _ _); k_dflt (refine' og_item ?Nz51 ?lz51 ?iz51 ?az51 ?bz51 ?zz51 ?_; (case Nz51 => k_asm); (case lz51 => k_mem); (case iz51 => assumption); (case zz51 => with_reducible assumption); (case az51 => first | decide | omega); (case bz51 => first | decide | omega); k_whole); intro _)
  k_with "subscriptTail Name Name ref int" => (k_here; (with_reducible show wpAny _ _ (subscriptTail _ _ (Value.ref _) (Value.int _ _)) _ _ _); k_dflt (refine' og_item ?Nz51 ?lz51 ?iz51 ?az51 ?bz51 ?zz51 ?_; (case Nz51 => k_asm); (case lz51 => k_mem); (case iz51 => assumption); (case zz51 => with_reducible assumption); (case az51 => first | decide | omega); (case bz51 => first | decide | omega); k_whole); intro _)
  k_with "subscriptTail Name Constant ref int" => (k_here; (with_reducible show wpAny _ _ (subscriptTail _ _ (Value.ref _) (Value.int _ _)) _ _ _); k_dflt (refine' og_item ?Nz51 ?lz51 ?iz51 ?az51 ?bz51 ?zz51 ?_; (case Nz51 => k_asm); (case lz51 => k_mem); (case iz51 => assumption); (case zz51 => with_reducible assumption); (case az51 => first | decide | omega); (case bz51 => first | decide | omega); k_whole); intro _)
  k_with "subscriptTail Name BinOp ref int" => (k_here; (with_reducible show wpAny _ _ (subscriptTail _ _ (Value.ref _) (Value.int _ _)) _ _ _); k_dflt (refine' og_item ?Nz51 ?lz51 ?iz51 ?az51 ?bz51 ?zz51 ?_; (case Nz51 => k_asm); (case lz51 => k_mem); (case iz51 => assumption); (case zz51 => with_reducible assumption); (case az51 => first | decide | omega); (case bz51 => first | decide | omega); k_whole); intro _)
  k_with "subscriptTail" => (k_here; (with_reducible show wpAny _ _ (subscriptTail _ _ (Value.bytes _ _) (Value.int _ _)) _ _ _); k_dflt (refine' KBw.item_K ?hkz52 ?hfz52 ?h0z52 ?h1z52 ?_; (case hkz52 => assumption); (case hfz52 => first | assumption | exact Nat.le_of_ble_eq_true rfl); (case h0z52 => omega); (case h1z52 => first | assumption | omega | ((simp only [List.length_cons, List.length_nil]); omega)); k_whole); intro _ _ _ _)
  k_with "subscriptTail Name BinOp bytes int" => (k_here; (with_reducible show wpAny _ _ (subscriptTail _ _ (Value.bytes _ _) (Value.int _ _)) _ _ _); k_dflt (refine' KBw.item_K ?hkz52 ?hfz52 ?h0z52 ?h1z52 ?_; (case hkz52 => assumption); (case hfz52 => first | assumption | exact Nat.le_of_ble_eq_true rfl); (case h0z52 => omega); (case h1z52 => first | assumption | omega | ((simp only [List.length_cons, List.length_nil]); omega)); k_whole); intro _ _ _ _)
  k_with "subscriptTail Name Name bytes int" => (k_here; (with_reducible show wpAny _ _ (subscriptTail _ _ (Value.bytes _ _) (Value.int _ _)) _ _ _); k_dflt (refine' KBw.item_K ?hkz52 ?hfz52 ?h0z52 ?h1z52 ?_; (case hkz52 => assumption); (case hfz52 => first | assumption | exact Nat.le_of_ble_eq_true rfl); (case h0z52 => omega); (case h1z52 => first | assumption | omega | ((simp only [List.length_cons, List.length_nil]); omega)); k_whole); intro _ _ _ _)
  k_with "setItem ref int" => (k_here; (with_reducible show wpAny _ _ (setItem (Value.ref _) (Value.int _ _) (Value.int _ _)) _ _ _); k_dflt (refine' og_setItem ?Fz53 ?Nz53 ?iz53 ?az53 ?bz53 ?kz53 ?Uz53 ?_; (case Fz53 => k_asm); (case Nz53 => k_asm); (case iz53 => assumption); (case Uz53 => k_upd); (case az53 => first | decide | omega); (case bz53 => first | decide | omega); (case kz53 => first | assumption | omega); k_whole); intro h'z53 F'z53 N'z53 hI'z53; (try k_sweep))
  k_with "ktr_rel" => first | assumption | (refine' in_app (in_one ?raz54 ?rbz54) ?rcz54; (case rcz54 => assumption); (case raz54 => decide); (case rbz54 => decide); done) | (refine' in_app ?rcz54 (in_one ?raz54 ?rbz54); (case rcz54 => assumption); (case raz54 => decide); (case rbz54 => decide); done) | (refine' in_set ?rcz54 _ ?raz54 ?rbz54; (case rcz54 => assumption); (case raz54 => omega); (case rbz54 => omega); done)
  k_with "call ref" => (k_here; (with_reducible show wpAny _ _ (call (Value.ref 215) _) _ _ _); cell_ask (useI (bound_spec _ _ _ _ _ _ _ _ _ _ _ _ _ (by k_mem) (by k_mem) (by with_reducible assumption) (by with_reducible assumption))); intro t9z42 h9z42 tk9z42 F9z42 N9z42; (try k_sweep); (try dsimp only); (try k_fold))
  k_with "call ref" => (k_here; (with_reducible show wpAny _ _ (call (Value.ref 250) _) _ _ _); cell_ask (useL (figs_spec _ _ _ _ _ _ (by first | with_reducible assumption | omega) (by first | with_reducible assumption | omega) (by first | with_reducible assumption | omega))); intro q9z55 vs9z55 c9z55 h9z55 tk9z55 hI9z55 F9z55 N9z55 l9z55; (try k_lt l9z55); (try k_sweep); (try dsimp only); (try k_fold))
  trivial
section SOgF
open PySem PySem.W PyProof.Rows PySem.Calls
set_option maxRecDepth 100000
set_option maxHeartbeats 1000000

theorem rs_OgF : True := by
  w_top off
  trivial
theorem dispo_spec (w : World) (news : Led) (x dx : Addr) (k v : Nat → Tok) (digits scale size : Int) (usage sign : Str) (sep signed : Bool) (h1 : (x, instObj 204 dx) ∈ news) (h2 : (dx, shD w k v digits scale size usage sign sep signed) ∈ news)
    (hd0 : 1 ≤ digits) (hd1 : digits ≤ 18) (u : Int) (t : Tok) : Ct w 255 2 16 news [.ref x, .int u t] (RY news (dispO (figs (if u < 0 then -u else u) digits.toNat) (decide (u < 0)) (sign == Str.ofString "leading") sep signed)) := by
  unfold Ct
  intro prog p loose mean mg mb dp un gd cn cs aa ccd cl outer A₀ base h₀ L m s Q E B F X N T hk hdp hun hret
  ktr_call [("shape", .ref x), ("units", .int u t)] 255
  k_steps
  rename IntsAre _ _ => hI
  rename News _ _ _ _ => N1
  unfold OgW
  have hds : ∀ d ∈ figs (if u < 0 then -u else u) digits.toNat, 0 ≤ d ∧ d ≤ 9 := fun d hd => figs_in hd
  have hdl := figs_length (if u < 0 then -u else u) digits.toNat
  generalize figs (if u < 0 then -u else u) digits.toNat = ds at hI hds hdl hret
  refine LCg.CompSrc.ledger rfl (by k_asm) N1 (.head _) (size_ok hI (by lia)) (fun g9 => kcf_list (fun z => 48 + z) hI (fun k t I oI C oC D m₂ ys h tk E' hk hC hx F N off ne mk => ?_) ?_)
  · k_steps
    exact LCg.CompEnd.intro (by k_asm) (by k_asm) _ (fun _ h => h) off (.inr ⟨_, .head _, rfl, _, rfl⟩) ⟨rfl, _, rfl⟩
  · unfold KPfDone LCg.FinA
    intro ys hys D h9 tk9 F9 N9 o9
    have hin := in_map48 hds
    have hne : ∀ p ∈ news, p.1 ≠ D := off1_all o9.2
    have hqD := o9.1
    have hds0 : 0 < ds.length := by lia
    have hsz := size_ok hys (by rw [List.length_map]; lia)
    obtain ⟨d0, hd0'⟩ : ∃ d, d = ds.getD 0 0 := ⟨_, rfl⟩
    obtain ⟨d1, hd1'⟩ : ∃ d, d = ds.getD (ds.length - 1) 0 := ⟨_, rfl⟩
    have hg0 : (ds.map (48 + ·))[(0 : Int).toNat]? = some (48 + d0) := by
      have := hds0
      rw [hd0']; simp [this]
    have hlc : (ds.map (48 + ·)).length = ds.length := List.length_map _
    have hg1 : (ds.map (48 + ·))[(((ds.map (48 + ·)).length : Int) - 1).toNat]? = some (48 + d1) := by
      have : (((ds.map (48 + ·)).length : Int) - 1).toNat = ds.length - 1 := by rw [hlc]; exact tnP _
      rw [this, hd1']
      have := Nat.sub_lt hds0 Nat.one_pos
      simp [this]
    have hb0 : 0 ≤ d0 ∧ d0 ≤ 9 := by
      apply hds; rw [hd0']
      have := hds0
      simp [this]
    have hb1 : 0 ≤ d1 ∧ d1 ≤ 9 := by
      apply hds; rw [hd1']
      have := Nat.sub_lt hds0 Nat.one_pos
      simp [this]
    clear hI
    have hkP : KBw.bInts #[123, 65, 66, 67, 68, 69, 70, 71, 72, 73] = [123, 65, 66, 67, 68, 69, 70, 71, 72, (73 : Int)] := rfl
    have hkM : KBw.bInts #[125, 74, 75, 76, 77, 78, 79, 80, 81, 82] = [125, 74, 75, 76, 77, 78, 79, 80, 81, (82 : Int)] := rfl
    k_steps
    all_goals
      have e1 := rowP_eq hb0.1 hb0.2
      have e2 := rowM_eq hb0.1 hb0.2
      have e3 := rowP_eq hb1.1 hb1.2
      have e4 := rowM_eq hb1.1 hb1.2
      have e5 : (((ds.map (48 + ·)).length : Int) - 1).toNat = ds.length - 1 := by rw [hlc]; exact tnP _
      rw [hd0'] at e1 e2
      rw [hd1'] at e3 e4
      refine endY hret (by k_asm) (by k_asm) (by kcj_all) ?_
      try simp only [hd0', hd1']
      try simp only [e1, e2, e3, e4, e5, hd0', hd1']
      unfold dispO
      simp only [*, decide_true, decide_false, if_true, if_false, Bool.false_eq_true, Bool.true_eq_false, reduceCtorEq, Int.toNat_zero]
      try rfl
end SOgF
section SOgComp
open PySem PySem.W PyProof.Rows PySem.Calls PyProof.Rows.LCg
set_option maxRecDepth 100000
section
variable {prog : Program} {w : World} {A : Around} {E : Value → Shared → Prop} {s : Shared} {h₀ : Heap} {L : Addr} {m : Str → Option Value} {env : Env}
noncomputable def SrcStep (prog : Program) (w : World) (A : Around) (h₀ : Heap) (L : Addr) (m : Str → Option Value) (env : Env) (elt : Expr) (x : Str) (scope : Scope) (cl : List (Str × Addr)) (Fin : Shared → List Value → List (Addr × Obj) → Prop) (xv : Value) (s₁ : Shared) : Prop :=
  ∃ r a b c t u v n news, xv = .ref r ∧ A.handled = none ∧ Fr h₀ L s₁.heap m ∧ News h₀ L s₁.heap news ∧ IsRange s₁.heap r a b c t u v ∧ Builtin.Range.small a b c = true ∧ Builtin.Range.rangeSize a b c = ((n : Nat) : Int) ∧ n ≤ sizeLine ∧
    ∀ g : Heap, CompRest prog w A h₀ L m env elt x scope cl { s₁ with heap := g } (fun _ => True) (fun i v => ∃ t, v = .int (a + (i : Int) * c) t) (Fin { s₁ with heap := g }) n 0 [] news
theorem step_walks {I : Addr} (hh : A.handled = none) (a c : Int) (n : Nat) : Walks prog w A I [I] [I] n (fun i v => ∃ t, v = .int (a + (i : Int) * c) t) (fun i h => IsRangeIter h I (a + (i : Nat) * c) ((n : Int) - (i : Nat)) c) :=
  Walks.range hh I a c n
theorem step_st {I : Addr} {a c : Int} {n : Nat} : ∀ i (h h' : Heap) (o : Obj) (nw : List (Addr × Obj)), IsRangeIter h I (a + (i : Nat) * c) ((n : Int) - (i : Nat)) c → h.get? I = some o → h'.get? I = some o → (∀ b o, h₀.get? b = some o → h'.get? b = some o) → News h₀ L h' nw → True → IsRangeIter h' I (a + (i : Nat) * c) ((n : Int) - (i : Nat)) c :=
  fun i h h' o nw st e e' _ _ _ => by
    have st' : h.get? I = some _ := st
    show h'.get? I = some _
    rw [e', ← e]; exact st'
theorem ListComp_step {elt iter : Expr} {x : Str} {px : Pos} {scope : Scope} {cl : List (Str × Addr)} {pos : Pos} {Q : Value → Shared → Prop} (F₀ : Fr h₀ L s.heap m)
    (hclos : closureFor scope env = pure cl) (hcell : ∀ y ∈ scope.names, y.2 ≠ .cell) (hkind : scope.kind = .function)
    (hnames : ∀ y ∈ scope.names, y.2 = .local → scope.names.lookup y.1 = some .local) (hx : scope.names.lookup x = some .local)
    (h : wpAny (model prog w) A (eval iter env) (SrcStep prog w A h₀ L m env elt x scope cl (fun s₂ => FinE h₀ L m s₂ Q)) E s)
    (hs : ∀ x, foldedSetIterable iter env x = pure x := by intro _; rfl) :
    wpAny (model prog w) A (eval (.ListComp elt [⟨.Name x px, iter, [], 0⟩] scope pos) env) Q E s := by
  rw [eval_ListComp]
  refine wpAny_comprehension_free (use := none) rfl hs hclos hkind hnames (wpAny_mono h (fun xv s₁ h₁ => ?_) fun _ _ e => e)
  obtain ⟨r, a, b, c, t, u, v, n, news, rfl, hh, F, N, hr, hsm, hn, hsz, R⟩ := h₁
  refine wpAny_pyIter_range hr hsm ?_
  refine block_U (step_walks hh a c n) hsz (fun i h st => ⟨_, st⟩) step_st hcell hkind hx (by show IsRangeIter _ _ _ _ _; rw [hn]; simpa using Heap.get?_push_size _ rfl) (fun b hb => ?_)
    (F.keeps fun _ _ e => Heap.get?_push_of_some _ e) (N.grown fun _ _ e => Heap.get?_push_of_some _ e) (Nat.ne_of_lt F.ns.lt) (next_is_new F) (fun p hp => Nat.ne_of_lt (Heap.lt_size (N p hp).1)) trivial (R _) ?_
  · rw [List.mem_singleton.mp hb]
    show s₁.heap.objs.size < (s₁.heap.push _).objs.size
    rw [Heap.size_push]; exact Nat.lt_succ_self _
  · intro D C h tk m' ys news' F' N' o1 hn hC₀ hD₀ hCL hDL hCD offC fin
    refine ⟨m', hn, fun h'' hs'' => fin D h'' tk (F'.change hs'' hCL hC₀) (fun p hp => ?_) o1⟩
    refine ⟨hs''.extBut _ _ ?_ (N' p hp).1, (N' p hp).2⟩
    rcases List.mem_cons.mp hp with rfl | hp
    · exact Ne.symm hCD
    · exact offC p hp
end
theorem range_two {n : Nat} (h : 1 ≤ n) : Builtin.Range.rangeSize 0 (2 * (n : Int)) 2 = ((n : Nat) : Int) := by
  unfold Builtin.Range.rangeSize
  simp only [show (2 : Int) > 0 by decide, if_true]
  rw [if_pos (by lia)]
  lia
theorem small_two {n : Nat} (h : 1 ≤ n) (h2 : n ≤ 19) : Builtin.Range.small 0 (2 * (n : Int)) 2 = true :=
  (show ∀ m : Fin 20, 1 ≤ m.val → Builtin.Range.small 0 (2 * (m.val : Int)) 2 = true by decide +kernel) ⟨n, Nat.lt_succ_of_le h2⟩ h
theorem getD_some {ns : List Int} {i : Nat} (h : i < ns.length) : ns[i]? = some (ns.getD i 0) := by simp [h]
end SOgComp
theorem wd12 : True := by
  k_with "k_all" => first | assumption | (refine' cell_ne ?hcz56; (case hcz56 => assumption); done)
  k_with "binaryOp Add ref ref" => (k_here; (with_reducible show wpAny _ _ (binaryOp _ (Value.ref _) (Value.ref _)) _ _ _); k_dflt (refine' og_add ?Fz57 ?Nz57 ?az57 ?bz57 ?iz57 ?jz57 ?zz57 ?_; (case Fz57 => k_asm); (case Nz57 => k_asm); (case az57 => k_mem); (case bz57 => k_mem); (case iz57 => first | assumption | exact .cons _ _ .nil | exact .cons _ _ (.cons _ _ .nil)); (case jz57 => first | assumption | exact .cons _ _ .nil | exact .cons _ _ (.cons _ _ .nil)); (case zz57 => first | assumption | omega | ((simp only [figs_length, List.length_cons, List.length_nil]); omega)); k_whole); intro D'z57 ws'z57 h'z57 F'z57 N'z57 l1z57 hI'z57 hz'z57; (try k_lt l1z57); (try k_sweep))
  k_with "cell_end rest" => ((case kA => exact rfl); (case kF => exact rfl); (case kK => assumption); (case k1 => k_asm); (case k2 => k_asm); (case k3 => k_asm); (case k4 => k_asm); (case k5 => k_asm); (case k6 => k_is); (case k7 => k_is); (case k8 => ktr_room); (case k9 => first | exact BindsTo.of_eq rfl | exact binds_K (by k_in) rfl (by k_is) rfl rfl rfl); (case kB => exact rfl); (case kD => decide +kernel); (case c2 => exact rfl); (case c3 => exact rfl); (case c4 => exact rfl); k_whole; intro g'zz L'zz h'zz tk'zz cells'zz FG'zz F'zz N'zz Y'zz B'zz X'zz T'zz l1zz; (try k_lt l1zz); k_cells Y'zz; (try simp only [List.cons_append, List.nil_append] at N'zz); (try dsimp only); (try k_lift B'zz); (try k_fold))
  trivial
set_option hygiene false in
local macro_rules | `(tactic| cell_end $b:term $f:term $_s:term) => `(tactic| (refine wpAny_call ?_; k_dflt (refine' code_defC (f := $f) (binds := $b) ?k1 ?k2 ?k3 ?k4 ?k5 ?kA ?kF ?kK ?k6 ?k7 ?k8 ?k9 ?kB ?kD ?_ ?c2 ?c3 ?c4; k_extra "cell_end rest")))
theorem wd13 : True := by
  k_with "eval ListComp" => (k_here; k_dflt (refine ListComp_step (F₀ := by k_asm) (by with_unfolding_all rfl) (by decide) (by rfl) (by decide) (by rfl) ?_))
  k_with "SrcStep" => (refine og_wrap ?_)
  trivial
section SOgG
open PySem PySem.W PyProof.Rows PySem.Calls
set_option maxRecDepth 100000
set_option maxHeartbeats 1000000

theorem rs_OgG : True := by
  w_top off
  trivial
theorem packo_spec (w : World) (news : Led) (x dx : Addr) (k v : Nat → Tok) (digits scale size : Int) (usage sign : Str) (sep signed : Bool) (h1 : (x, instObj 204 dx) ∈ news) (h2 : (dx, shD w k v digits scale size usage sign sep signed) ∈ news)
    (hd0 : 1 ≤ size) (hd1 : size ≤ 19) (u : Int) (t : Tok) : Ct w 260 2 16 news [.ref x, .int u t] (RY news (packO (figs (if u < 0 then -u else u) (2 * size - 1).toNat ++ [markOf (decide (u < 0)) signed]) size.toNat)) := by
  unfold Ct
  intro prog p loose mean mg mb dp un gd cn cs aa ccd cl outer A₀ base h₀ L m s Q E B F X N T hk hdp hun hret
  cell_end [("shape", .ref x), ("units", .int u t)] 260 0
  k_steps
  all_goals
    rename IntsAre _ (_ ++ _) => hI
    rename News _ _ _ _ => N1
    rename IsRange _ _ _ _ _ _ _ _ => R1
    rename (Obj.data _ = _) => hcell
    have hin : ∀ z ∈ figs (if u < 0 then -u else u) (2 * size - 1).toNat ++ [markOf (decide (u < 0)) signed], 0 ≤ z ∧ z ≤ 15 := by
      intro z hz
      rcases List.mem_append.mp hz with hz | hz
      · have := figs_in hz; lia
      · rw [List.mem_singleton.mp hz]; unfold markOf; split <;> (try split) <;> lia
    have hmk : markOf (decide (u < 0)) signed = markOf (decide (u < 0)) signed := rfl
    first
      | (have em : markOf (decide (u < 0)) signed = 13 := by simp [markOf, *])
      | (have em : markOf (decide (u < 0)) signed = 12 := by simp [markOf, *])
      | (have em : markOf (decide (u < 0)) signed = 15 := by simp [markOf, *])
    have hlen : (figs (if u < 0 then -u else u) (2 * size - 1).toNat ++ [markOf (decide (u < 0)) signed]).length = 2 * size.toNat := by
      rw [List.length_append, figs_length, List.length_singleton]; lia
    rw [← em] at hI R1
    clear em hmk
    generalize figs (if u < 0 then -u else u) (2 * size - 1).toNat ++ [markOf (decide (u < 0)) signed] = hs at hI R1 hin hlen hret
    have hlz : (hs.length : Int) = 2 * ((size.toNat : Nat) : Int) := by lia
    rw [hlz] at R1
    unfold OgW
    refine ⟨_, 0, _, 2, _, _, _, size.toNat, _, rfl, rfl, by k_asm, N1, R1, small_two (by lia) (by lia), range_two (by lia), by rw [sizeLine_eq]; lia, fun g9 => kcf_rest (ks := (List.range size.toNat).map fun (i : Nat) => (0 : Int) + (i : Int) * 2) (fun z => 16 * hs.getD z.toNat 0 + hs.getD (z + 1).toNat 0) (by simp) (fun i v9 hi hv => ?_) (fun z tz I oI C oC D m₂ ys h tk E' hz hC hx F2 N2 off ne mk => ?_) ?_⟩
    · obtain ⟨t9, e9⟩ := hv
      exact ⟨_, t9, by simp [hi], e9⟩
    · obtain ⟨i9, hi9, e9⟩ := List.mem_map.mp hz
      have hi9 := List.mem_range.mp hi9
      have hz0 : 0 ≤ z := by lia
      have hg0 : hs[z.toNat]? = some (hs.getD z.toNat 0) := getD_some (by lia)
      have hg1 : hs[(z + 1).toNat]? = some (hs.getD (z + 1).toNat 0) := getD_some (by lia)
      have hzb : z < 2 ^ 62 := by lia
      k_steps
      exact LCg.CompEnd.intro (by k_asm) (by k_asm) _ (fun _ h => h) off trivial ⟨rfl, _, rfl⟩
    · unfold KPfDone LCg.FinE
      intro ys hys D h9 tk9 F9 N9 o9
      have hy2 : IntsAre ys (packO hs size.toNat) := by
        have e : packO hs size.toNat = ((List.range size.toNat).map fun (i : Nat) => (0 : Int) + (i : Int) * 2).map (fun z => 16 * hs.getD z.toNat 0 + hs.getD (z + 1).toNat 0) := by
          unfold packO
          rw [List.map_map]
          apply List.map_congr_left
          intro i _
          have a1 : ((0 : Int) + (i : Int) * 2).toNat = 2 * i := by lia
          have a2 : ((0 : Int) + (i : Int) * 2 + 1).toNat = 2 * i + 1 := by lia
          show _ = 16 * hs.getD ((0 : Int) + (i : Int) * 2).toNat 0 + hs.getD ((0 : Int) + (i : Int) * 2 + 1).toNat 0
          rw [a1, a2]
        rw [e]; exact hys
      have hin2 : KBa.In (packO hs size.toNat) := by
        intro z hz
        obtain ⟨i, hi, rfl⟩ := List.mem_map.mp hz
        have hi := List.mem_range.mp hi
        have b1 := hin (hs.getD (2 * i) 0) (by have : 2 * i < hs.length := by lia
                                               simp [this])
        have b2 := hin (hs.getD (2 * i + 1) 0) (by have : 2 * i + 1 < hs.length := by lia
                                                   simp [this])
        lia
      have hsz2 := size_ok hy2 (by unfold packO; rw [List.length_map, List.length_range]; lia)
      clear hI
      k_steps
      exact endY hret (by k_asm) (by k_asm) (by kcj_all) rfl
end SOgG
section LinesAll
theorem wd14 : True := by
  k_with_none
  k_with "k_ne" => (refine neN ?_; (try dsimp only); first | (with_reducible first | assumption | (refine' Ne.symm ?hnz1; (case hnz1 => assumption); done) | (refine' nc1 ?hnz1; (case hnz1 => assumption); done) | (refine' nd1 ?hnz1; (case hnz1 => assumption); done) | (refine' ncl1 ?hnz1; (case hnz1 => assumption); done) | (refine' ndl1 ?hnz1; (case hnz1 => assumption); done) | (refine' nc2 ?hnz1; (case hnz1 => assumption); done) | (refine' nd2 ?hnz1; (case hnz1 => assumption); done) | (refine' ncl2 ?hnz1; (case hnz1 => assumption); done) | (refine' ndl2 ?hnz1; (case hnz1 => assumption); done) | (refine' nc3 ?hnz1; (case hnz1 => assumption); done) | (refine' nd3 ?hnz1; (case hnz1 => assumption); done) | (refine' ncl3 ?hnz1; (case hnz1 => assumption); done) | (refine' ndl3 ?hnz1; (case hnz1 => assumption); done) | (refine' nc4 ?hnz1; (case hnz1 => assumption); done) | (refine' nd4 ?hnz1; (case hnz1 => assumption); done) | (refine' ncl4 ?hnz1; (case hnz1 => assumption); done) | (refine' ndl4 ?hnz1; (case hnz1 => assumption); done) | (refine' nc5 ?hnz1; (case hnz1 => assumption); done) | (refine' nd5 ?hnz1; (case hnz1 => assumption); done) | (refine' ncl5 ?hnz1; (case hnz1 => assumption); done) | (refine' ndl5 ?hnz1; (case hnz1 => assumption); done) | (refine' nc6 ?hnz1; (case hnz1 => assumption); done) | (refine' nd6 ?hnz1; (case hnz1 => assumption); done) | (refine' ncl6 ?hnz1; (case hnz1 => assumption); done) | (refine' ndl6 ?hnz1; (case hnz1 => assumption); done) | (refine' nc7 ?hnz1; (case hnz1 => assumption); done) | (refine' nd7 ?hnz1; (case hnz1 => assumption); done) | (refine' ncl7 ?hnz1; (case hnz1 => assumption); done) | (refine' ndl7 ?hnz1; (case hnz1 => assumption); done) | (refine' nc8 ?hnz1; (case hnz1 => assumption); done) | (refine' nd8 ?hnz1; (case hnz1 => assumption); done) | (refine' ncl8 ?hnz1; (case hnz1 => assumption); done) | (refine' ndl8 ?hnz1; (case hnz1 => assumption); done) | (refine' nc9 ?hnz1; (case hnz1 => assumption); done) | (refine' nd9 ?hnz1; (case hnz1 => assumption); done) | (refine' ncl9 ?hnz1; (case hnz1 => assumption); done) | (refine' ndl9 ?hnz1; (case hnz1 => assumption); done) | (refine' nc10 ?hnz1; (case hnz1 => assumption); done) | (refine' nd10 ?hnz1; (case hnz1 => assumption); done) | (refine' ncl10 ?hnz1; (case hnz1 => assumption); done) | (refine' ndl10 ?hnz1; (case hnz1 => assumption); done) | (refine' nc11 ?hnz1; (case hnz1 => assumption); done) | (refine' nd11 ?hnz1; (case hnz1 => assumption); done) | (refine' ncl11 ?hnz1; (case hnz1 => assumption); done) | (refine' ndl11 ?hnz1; (case hnz1 => assumption); done) | (refine' nc12 ?hnz1; (case hnz1 => assumption); done) | (refine' nd12 ?hnz1; (case hnz1 => assumption); done) | (refine' ncl12 ?hnz1; (case hnz1 => assumption); done) | (refine' ndl12 ?hnz1; (case hnz1 => assumption); done) | (refine' nc13 ?hnz1; (case hnz1 => assumption); done) | (refine' nd13 ?hnz1; (case hnz1 => assumption); done) | (refine' ncl13 ?hnz1; (case hnz1 => assumption); done) | (refine' ndl13 ?hnz1; (case hnz1 => assumption); done) | (refine' nc14 ?hnz1; (case hnz1 => assumption); done) | (refine' nd14 ?hnz1; (case hnz1 => assumption); done) | (refine' ncl14 ?hnz1; (case hnz1 => assumption); done) | (refine' ndl14 ?hnz1; (case hnz1 => assumption); done) | (refine' nc15 ?hnz1; (case hnz1 => assumption); done) | (refine' nd15 ?hnz1; (case hnz1 => assumption); done) | (refine' ncl15 ?hnz1; (case hnz1 => assumption); done) | (refine' ndl15 ?hnz1; (case hnz1 => assumption); done) | (refine' nc16 ?hnz1; (case hnz1 => assumption); done) | (refine' nd16 ?hnz1; (case hnz1 => assumption); done) | (refine' ncl16 ?hnz1; (case hnz1 => assumption); done) | (refine' ndl16 ?hnz1; (case hnz1 => assumption); done) | (refine' nc17 ?hnz1; (case hnz1 => assumption); done) | (refine' nd17 ?hnz1; (case hnz1 => assumption); done) | (refine' ncl17 ?hnz1; (case hnz1 => assumption); done) | (refine' ndl17 ?hnz1; (case hnz1 => assumption); done) | (refine' nc18 ?hnz1; (case hnz1 => assumption); done) | (refine' nd18 ?hnz1; (case hnz1 => assumption); done) | (refine' ncl18 ?hnz1; (case hnz1 => assumption); done) | (refine' ndl18 ?hnz1; (case hnz1 => assumption); done)) | omega)
  k_with "ktr_room" => first | (refine' roomD2 ?rhz2 ?rez2; (case rhz2 => with_reducible assumption); (case rez2 => rfl); done) | (refine' roomD0 ?rhz2; (case rhz2 => with_reducible assumption); done)
  k_with "ktr_units" => (refine' roomU2 ?rhz3 ?rez3; (case rhz3 => with_reducible assumption); (case rez3 => rfl); done)
  k_with "execs cons Assign" => (k_here; (fail_if_success (with_reducible show wpAny _ _ (execs (Stmt.Assign _ (PySem.Expr.ListComp _ _ _) _ :: _) _) _ _ _)); (with_reducible refine' ex_assign ?hsz4 ?_); (case hsz4 => with_unfolding_all rfl); intro _; (try dsimp only))
  k_with "execs cons Return" => (k_here; (with_reducible refine ex_return ?_); intro _; (try dsimp only))
  k_with "execs cons If" => (k_here; (first | (with_reducible refine ex_if_return ?_) | (with_reducible refine ex_if_nil ?_) | (with_reducible refine ex_if ?_)); intro _; (try dsimp only))
  k_with "execs cons" => (k_here; (with_reducible refine ex_cons (fun _ => wpAny_execs_cons ?_)); (try dsimp only))
  k_with "execs nil" => (k_here; (with_reducible refine ex_nil (fun _ => ?_)))
  k_with "spliced" => (k_here; (fail_if_success (with_reducible show wpAny _ _ (spliced (backTo _ (starEach _ (compEnvC _ _ _ _)))) _ _ _)); first | ((with_reducible show wpAny _ _ (spliced (backTo _ (starEach [PySem.Expr.Name _ _] _))) _ _ _); k_dflt (refine' arg_n_last ?eFz9 ?ecz9 ?evz9 ?_; (case ecz9 => kernel_rfl!); (case eFz9 => k_asm); (case evz9 => with_unfolding_all rfl); k_whole); (try ((with_reducible show wpAny _ _ (call _ (_ ++ _) _) _ _ _); dsimp only [List.nil_append, List.cons_append]))) | ((with_reducible show wpAny _ _ (spliced (backTo _ (starEach (PySem.Expr.Name _ _ :: _) _))) _ _ _); k_dflt (refine' arg_n ?eFz9 ?ecz9 ?evz9 ?_; (case ecz9 => kernel_rfl!); (case eFz9 => k_asm); (case evz9 => with_unfolding_all rfl); k_whole)) | ((with_reducible show wpAny _ _ (spliced (backTo _ (starEach [] _))) _ _ _); (with_reducible refine args_nil ?_); (try ((with_reducible show wpAny _ _ (call _ (_ ++ _) _) _ _ _); dsimp only [List.nil_append, List.cons_append]))) | ((with_reducible show wpAny _ _ (spliced (backTo _ (starEach (PySem.Expr.Constant (PySem.Const.int _) _ _ :: _) _))) _ _ _); k_dflt (refine' arg_c ?hez9 ?_; (case hez9 => rfl)); intro _ _) | ((fail_if_success (with_reducible show wpAny _ _ (spliced (backTo _ (starEach (PySem.Expr.Starred _ _ :: _) _))) _ _ _)); k_dflt (refine' arg_any ?hez9 ?_; (case hez9 => rfl))))
  k_with "eval BinOp Name" => (k_here; (fail_if_success (with_reducible show wpAny _ _ (eval _ (compEnvC _ _ _ _)) _ _ _)); first | ((with_reducible show wpAny _ _ (eval (PySem.Expr.BinOp (PySem.Expr.Name _ _) _ (PySem.Expr.Constant (PySem.Const.int _) _ _) _) _) _ _ _); k_dflt (refine' bin_nc ?eFz10 ?ecz10 ?evz10 ?_; (case ecz10 => kernel_rfl!); (case eFz10 => k_asm); (case evz10 => with_unfolding_all rfl); k_whole); intro _ _) | ((with_reducible show wpAny _ _ (eval (PySem.Expr.BinOp (PySem.Expr.Name _ _) _ (PySem.Expr.Name _ _) _) _) _ _ _); k_dflt (refine' bin_nn ?eFz10 ?ecz10 ?edz10 ?evz10 ?euz10 ?_; (case ecz10 => kernel_rfl!); (case edz10 => kernel_rfl!); (case eFz10 => k_asm); (case evz10 => with_unfolding_all rfl); (case euz10 => with_unfolding_all rfl); k_whole)))
  k_with "isTrue Compare Name" => (k_here; (fail_if_success (with_reducible show wpAny _ _ (isTrue _ (compEnvC _ _ _ _) _) _ _ _)); first | ((with_reducible show wpAny _ _ (isTrue (PySem.Expr.Compare (PySem.Expr.Name _ _) [PySem.CmpOp.Lt] [PySem.Expr.Constant (PySem.Const.int _) _ _] _) _ _) _ _ _); k_dflt (refine' is_lt ?eFz11 ?ecz11 ?evz11 ?_; (case ecz11 => kernel_rfl!); (case eFz11 => k_asm); (case evz11 => with_unfolding_all rfl); k_whole); intro _) | ((with_reducible show wpAny _ _ (isTrue (PySem.Expr.Compare (PySem.Expr.Name _ _) [PySem.CmpOp.Lt] [PySem.Expr.Name _ _] _) _ _) _ _ _); k_dflt (refine' is_lt2 ?eFz11 ?ecz11 ?edz11 ?evz11 ?euz11 ?_; (case ecz11 => kernel_rfl!); (case edz11 => kernel_rfl!); (case eFz11 => k_asm); (case evz11 => with_unfolding_all rfl); (case euz11 => with_unfolding_all rfl); k_whole)))
  k_with "isTrue Compare Name" => (k_here; (fail_if_success (with_reducible show wpAny _ _ (isTrue _ (compEnvC _ _ _ _) _) _ _ _)); first | ((with_reducible show wpAny _ _ (isTrue (PySem.Expr.Compare (PySem.Expr.Name _ _) [PySem.CmpOp.Gt] [PySem.Expr.Constant (PySem.Const.int _) _ _] _) _ _) _ _ _); k_dflt (refine' is_gt ?eFz12 ?ecz12 ?evz12 ?_; (case ecz12 => kernel_rfl!); (case eFz12 => k_asm); (case evz12 => with_unfolding_all rfl); k_whole); intro _) | ((with_reducible show wpAny _ _ (isTrue (PySem.Expr.Compare (PySem.Expr.Name _ _) [PySem.CmpOp.Gt] [PySem.Expr.Name _ _] _) _ _) _ _ _); k_dflt (refine' is_gt2 ?eFz12 ?ecz12 ?edz12 ?evz12 ?euz12 ?_; (case ecz12 => kernel_rfl!); (case edz12 => kernel_rfl!); (case eFz12 => k_asm); (case evz12 => with_unfolding_all rfl); (case euz12 => with_unfolding_all rfl); k_whole)))
  k_with "isTrue Compare Name" => (k_here; (fail_if_success (with_reducible show wpAny _ _ (isTrue _ (compEnvC _ _ _ _) _) _ _ _)); first | ((with_reducible show wpAny _ _ (isTrue (PySem.Expr.Compare (PySem.Expr.Name _ _) [PySem.CmpOp.Eq] [PySem.Expr.Constant (PySem.Const.int _) _ _] _) _ _) _ _ _); k_dflt (refine' is_eq ?eFz13 ?ecz13 ?evz13 ?_; (case ecz13 => kernel_rfl!); (case eFz13 => k_asm); (case evz13 => with_unfolding_all rfl); k_whole); intro _) | ((with_reducible show wpAny _ _ (isTrue (PySem.Expr.Compare (PySem.Expr.Name _ _) [PySem.CmpOp.Eq] [PySem.Expr.Name _ _] _) _ _) _ _ _); k_dflt (refine' is_eq2 ?eFz13 ?ecz13 ?edz13 ?evz13 ?euz13 ?_; (case ecz13 => kernel_rfl!); (case edz13 => kernel_rfl!); (case eFz13 => k_asm); (case evz13 => with_unfolding_all rfl); (case euz13 => with_unfolding_all rfl); k_whole)))
  k_with "isTrue Compare Name" => (k_here; (fail_if_success (with_reducible show wpAny _ _ (isTrue _ (compEnvC _ _ _ _) _) _ _ _)); first | ((with_reducible show wpAny _ _ (isTrue (PySem.Expr.Compare (PySem.Expr.Name _ _) [PySem.CmpOp.NotEq] [PySem.Expr.Constant (PySem.Const.int _) _ _] _) _ _) _ _ _); k_dflt (refine' is_ne ?eFz14 ?ecz14 ?evz14 ?_; (case ecz14 => kernel_rfl!); (case eFz14 => k_asm); (case evz14 => with_unfolding_all rfl); k_whole); intro _) | ((with_reducible show wpAny _ _ (isTrue (PySem.Expr.Compare (PySem.Expr.Name _ _) [PySem.CmpOp.NotEq] [PySem.Expr.Name _ _] _) _ _) _ _ _); k_dflt (refine' is_ne2 ?eFz14 ?ecz14 ?edz14 ?evz14 ?euz14 ?_; (case ecz14 => kernel_rfl!); (case edz14 => kernel_rfl!); (case eFz14 => k_asm); (case evz14 => with_unfolding_all rfl); (case euz14 => with_unfolding_all rfl); k_whole)))
  k_with "eval Subscript Name Constant" => (k_here; (fail_if_success (with_reducible show wpAny _ _ (eval _ (compEnvC _ _ _ _)) _ _ _)); (with_reducible show wpAny _ _ (eval (PySem.Expr.Subscript (PySem.Expr.Name _ _) (PySem.Expr.Constant (PySem.Const.int 0) _ _) _) _) _ _ _); k_dflt (refine' sub_0 ?eFz15 ?eNz15 ?ecz15 ?evz15 ?emz15 ?_; (case ecz15 => kernel_rfl!); (case eFz15 => k_asm); (case eNz15 => k_asm); (case evz15 => with_unfolding_all rfl); (case emz15 => k_mem); k_whole); intro _)
  k_with "eval Subscript Name Constant" => (k_here; (fail_if_success (with_reducible show wpAny _ _ (eval _ (compEnvC _ _ _ _)) _ _ _)); (with_reducible show wpAny _ _ (eval (PySem.Expr.Subscript (PySem.Expr.Name _ _) (PySem.Expr.Constant (PySem.Const.int 1) _ _) _) _) _ _ _); k_dflt (refine' sub_1 ?eFz16 ?eNz16 ?ecz16 ?evz16 ?emz16 ?_; (case ecz16 => kernel_rfl!); (case eFz16 => k_asm); (case eNz16 => k_asm); (case evz16 => with_unfolding_all rfl); (case emz16 => k_mem); k_whole); intro _)
  k_with "eval Subscript Name Constant" => (k_here; (fail_if_success (with_reducible show wpAny _ _ (eval _ (compEnvC _ _ _ _)) _ _ _)); (with_reducible show wpAny _ _ (eval (PySem.Expr.Subscript (PySem.Expr.Name _ _) (PySem.Expr.Constant (PySem.Const.int 2) _ _) _) _) _ _ _); k_dflt (refine' sub_2 ?eFz17 ?eNz17 ?ecz17 ?evz17 ?emz17 ?_; (case ecz17 => kernel_rfl!); (case eFz17 => k_asm); (case eNz17 => k_asm); (case evz17 => with_unfolding_all rfl); (case emz17 => k_mem); k_whole); intro _)
  k_with "eval Name" => (k_here; (fail_if_success (with_reducible show wpAny _ _ (eval _ (compEnvC _ _ _ _)) _ _ _)); k_dflt (first | (refine' n_l ?eFz18 ?ecz18 ?evz18 ?_; (case ecz18 => kernel_rfl!); (case eFz18 => k_asm); (case evz18 => with_unfolding_all rfl); k_whole) | (refine' n_k ?eFz18 ?ecz18 ?eXz18 ?eTz18 ?eez18 ?_; (case ecz18 => kernel_rfl!); (case eFz18 => k_asm); (case eXz18 => k_asm); (case eez18 => k_is); (case eTz18 => k_asm); k_whole) | (refine' n_b ?eFz18 ?ecz18 ?eXz18 ?eTz18 ?eez18 ?evz18 ?enz18 ?_; (case ecz18 => kernel_rfl!); (case eFz18 => k_asm); (case eXz18 => k_asm); (case eez18 => k_is); (case eTz18 => k_asm); (case evz18 => boot_fast); (case enz18 => decide); k_whole)))
  k_with "storeName" => (k_here; (fail_if_success (with_reducible show wpAny _ _ (storeName (compEnvC _ _ _ _) _ _) _ _ _)); k_dflt (refine' st_l ?eFz19 ?eNz19 ?ecz19 ?_; (case ecz19 => kernel_rfl!); (case eFz19 => k_asm); (case eNz19 => k_asm); k_whole); intro h'z19 t'z19 F'z19 N'z19; (try k_sweep))
  k_with "eval Call" => (k_here; (with_reducible show wpAny _ _ (eval (PySem.Expr.Call (PySem.Expr.Name _ _) (_ :: _) [] _) _) _ _ _); (fail_if_success (with_reducible show wpAny _ _ (eval _ (compEnvC _ _ _ _)) _ _ _)); k_dflt (first | (refine' call_k ?eFz20 ?ecz20 ?eXz20 ?eTz20 ?enz20 ?ekz20 ?e1z20 ?e2z20 ?_; (case ecz20 => kernel_rfl!); (case eFz20 => k_asm); (case eXz20 => k_asm); (case enz20 => k_is); (case ekz20 => k_is); (case eTz20 => k_asm); (case e1z20 => rfl); (case e2z20 => rfl); k_whole) | (refine' call_b ?eFz20 ?ecz20 ?eXz20 ?eTz20 ?enz20 ?evz20 ?ewz20 ?exz20 ?e1z20 ?e2z20 ?_; (case ecz20 => kernel_rfl!); (case eFz20 => k_asm); (case eXz20 => k_asm); (case enz20 => k_is); (case eTz20 => k_asm); (case evz20 => boot_fast); (case ewz20 => with_reducible rfl); (case exz20 => decide); (case e1z20 => rfl); (case e2z20 => rfl); k_whole) | (refine' call_t ?eFz20 ?ecz20 ?eXz20 ?eTz20 ?enz20 ?evz20 ?ewz20 ?exz20 ?e1z20 ?e2z20 ?_; (case ecz20 => kernel_rfl!); (case eFz20 => k_asm); (case eXz20 => k_asm); (case enz20 => k_is); (case eTz20 => k_asm); (case evz20 => boot_fast); (case ewz20 => with_reducible rfl); (case exz20 => decide); (case e1z20 => rfl); (case e2z20 => rfl); k_whole)))
  k_with "And" => (k_here; (with_reducible show Frag.In _ _ ∧ _); k_dflt (refine' in_k ?eXz21 ?eFz21 ?_; (case eXz21 => k_asm); (case eFz21 => k_asm)); (try ((with_reducible show wpAny _ _ (call _ (_ ++ _) _) _ _ _); dsimp only [List.nil_append, List.cons_append])))
  k_with "callWith ref" => (k_here; first | ((with_reducible show wpAny _ _ (callWith _ _ _ (backTo _ (starEach (_ :: _) _)) []) _ _ _); k_dflt (refine' callWith_K ?eXz22 ?eKz22 ?_ ?e1z22 ?e2z22; (case eXz22 => k_asm); (case eKz22 => k_is); (case e1z22 => rfl); (case e2z22 => rfl); k_whole)) | ((with_reducible show wpAny _ _ (callWith _ _ _ (backTo _ (starEach [] _)) []) _ _ _); k_dflt (refine' callWith_K0 ?eXz22 ?eKz22 ?_; (case eXz22 => k_in); (case eKz22 => k_is); k_whole)))
  k_with "assignInOrder" => (k_here; k_dflt (first | refine assignInOrder_cons ?_ | refine assignInOrder_nil ?_))
  k_with "exec Raise some none" => (k_here; (with_reducible refine Raise_new rfl ?_))
  k_with "ktr_call rest" => ((case kA => exact rfl); (case kF => exact rfl); (case kK => assumption); (case k1 => k_asm); (case k2 => k_asm); (case k3 => k_asm); (case k4 => k_asm); (case k5 => k_asm); (case k6 => k_is); (case k7 => k_is); (case k8 => ktr_room); (case k9 => first | exact BindsTo.of_eq rfl | exact binds_K (by k_in) rfl (by k_is) rfl rfl rfl); (case c5 => decide); (case kB => exact locs rfl); (case c2 => exact rfl); (case c3 => exact rfl); (case c4 => exact rfl); k_whole; intro g'zz L'zz h'zz FG'zz F'zz N'zz B'zz X'zz T'zz; (try dsimp only); (try k_lift B'zz); (try k_fold))
  k_with "ask five" => ((case k1 => k_asm); (case k2 => k_asm); (case k3 => k_asm); (case k4 => k_asm); (case k5 => k_asm))
  k_with "ask rest" => ((case kK => first | exact rfl | assumption); (case kd => ktr_room); (case ku => ktr_units); k_whole)
  k_with "bits_by_make" => ((guard_expr secOgA =ₛ secOgA); first | assumption | (refine bits_ten ?_; omega))
  k_with "bits_by_make" => first | assumption | (refine bits_ten ?_; omega)
  k_with "cell_step" => first | assumption | (refine' lt_last ?hcz33; (case hcz33 => assumption); done) | (refine' lt_last2 ?hcz33; (case hcz33 => assumption); done) | (refine' lt_last3 ?hcz33; (case hcz33 => assumption); done)
  k_with "kcj_all" => first | exact fun _ h => h | exact fun _ h => .tail _ h | exact fun _ h => .tail _ (.tail _ h) | exact fun _ h => .tail _ (.tail _ (.tail _ h))
  k_with "k_all" => assumption
  k_with "ksw_same" => (intro zz41 h1z41 h2z41; (simp only [List.forall_mem_cons, List.not_mem_nil, false_implies, implies_true, and_true, ne_eq] at h2z41); (simp [kstB, h1z41, h2z41]; done))
  k_with "kcj_all" => first | exact fun _ h => h | exact fun _ h => .tail _ h | exact fun _ h => .tail _ (.tail _ h) | exact fun _ h => .tail _ (.tail _ (.tail _ h)) | exact fun _ h => .tail _ (.tail _ (.tail _ (.tail _ h))) | exact fun _ h => .tail _ (.tail _ (.tail _ (.tail _ (.tail _ h))))
  k_with "k_mem" => first | exact List.Mem.head _ | with_reducible assumption | (refine List.mem_cons_of_mem _ ?_; k_mem)
  k_with "ktr_rel" => first | assumption | (refine' in_app (in_one ?raz54 ?rbz54) ?rcz54; (case rcz54 => assumption); (case raz54 => decide); (case rbz54 => decide); done) | (refine' in_app ?rcz54 (in_one ?raz54 ?rbz54); (case rcz54 => assumption); (case raz54 => decide); (case rbz54 => decide); done) | (refine' in_set ?rcz54 _ ?raz54 ?rbz54; (case rcz54 => assumption); (case raz54 => omega); (case rbz54 => omega); done)
  k_with "k_all" => first | assumption | (refine' cell_ne ?hcz56; (case hcz56 => assumption); done)
  k_with "cell_end rest" => ((case kA => exact rfl); (case kF => exact rfl); (case kK => assumption); (case k1 => k_asm); (case k2 => k_asm); (case k3 => k_asm); (case k4 => k_asm); (case k5 => k_asm); (case k6 => k_is); (case k7 => k_is); (case k8 => ktr_room); (case k9 => first | exact BindsTo.of_eq rfl | exact binds_K (by k_in) rfl (by k_is) rfl rfl rfl); (case kB => exact rfl); (case kD => decide +kernel); (case c2 => exact rfl); (case c3 => exact rfl); (case c4 => exact rfl); k_whole; intro g'zz L'zz h'zz tk'zz cells'zz FG'zz F'zz N'zz Y'zz B'zz X'zz T'zz l1zz; (try k_lt l1zz); k_cells Y'zz; (try simp only [List.cons_append, List.nil_append] at N'zz); (try dsimp only); (try k_lift B'zz); (try k_fold))
  trivial
theorem wd15 : True := by
  k_with "binaryOp FloorDiv int int" => (k_here; (with_reducible refine' floordiv_int ?og1z32 ?_ (Or.inl (PyProof.noPylong_of_log2 (lg_of_bits ?og2z32 ?og3z32)))); (case og1z32 => first | assumption | (refine' abs_ne ?hcz32; (case hcz32 => assumption); done) | exact ten_ne _ | exact two_ten_ne _ | omega); (case og2z32 => bits_by_make); (case og3z32 => decide))
  k_with "binaryOp Pow int int" => (k_here; (with_reducible refine pow_int_small ?ogb1z27 ?ogb2z27 ?ogb3z27 ?_); (case ogb1z27 => first | decide | omega | (split <;> omega)); (case ogb2z27 => first | decide | omega | (split <;> omega)); (case ogb3z27 => decide))
  k_with "subscriptTail" => (k_here; (with_reducible show wpAny _ _ (subscriptTail _ _ (Value.ref _) (Value.int _ _)) _ _ _); k_dflt (refine' item_tupleT ?tz28 ?az28 ?bz28 ?cz28 ?dz28 ?_; (case tz28 => (refine' News.isTup ?taz28 ?tbz28; (case taz28 => k_asm); (case tbz28 => k_mem))); (case az28 => decide); (case bz28 => decide); (case cz28 => rfl); (case dz28 => rfl); k_whole))
  k_with "subscriptTail Name Constant ref int" => (k_here; (with_reducible show wpAny _ _ (subscriptTail _ _ (Value.ref _) (Value.int _ _)) _ _ _); k_dflt (refine' item_tupleT ?tz28 ?az28 ?bz28 ?cz28 ?dz28 ?_; (case tz28 => (refine' News.isTup ?taz28 ?tbz28; (case taz28 => k_asm); (case tbz28 => k_mem))); (case az28 => decide); (case bz28 => decide); (case cz28 => rfl); (case dz28 => rfl); k_whole))
  trivial
theorem wd16 : True := by
  k_with "subscriptTail Name Slice ref ref" => (k_here; (with_reducible show wpAny _ _ (subscriptTail _ (PySem.Expr.Slice none none (some _) _) (Value.ref _) (Value.ref _)) _ _ _); k_dflt (refine' krv_ints ?Fz39 ?Nz39 ?lz39 ?kz39 ?iz39 ?_ ?sz39 ?tz39 ?zz39; (case Fz39 => k_asm); (case Nz39 => k_asm); (case lz39 => (refine' News.isList ?laz39 ?lbz39; (case laz39 => k_asm); (case lbz39 => k_mem))); (case kz39 => exact IsPart.int _ _); (case iz39 => assumption); (case sz39 => with_unfolding_all rfl); (case tz39 => kmk_pure); (case zz39 => assumption)); intro D'z39 ws'z39 h'z39 F'z39 N'z39 l1z39 hI'z39 hC'z39; (try k_lt l1z39); (try k_sweep))
  k_with "call builtin:list.append" => (k_here; (with_reducible show wpAny _ _ (call (Value.builtin _) [Value.ref _, _]) _ _ _); k_dflt (refine' append_K ?k1z40 ?k2z40 ?k3z40 ?_ ?zz40; (case k1z40 => k_asm); (case k2z40 => k_asm); (case k3z40 => k_upd); (case zz40 => assumption); k_whole); intro h'z40 F'z40 N'z40; (try k_sweep))
  k_with "exec Assign cons ListComp" => (k_here; k_dflt (refine LCg.Assign_ListComp_U (F₀ := by k_asm) (by rfl) (by with_unfolding_all rfl) (by with_unfolding_all rfl) (by decide) (by rfl) (by decide) (by rfl) (by rfl) (by rfl) ?_))
  k_with "eval ListComp" => (k_here; k_dflt (refine LCg.ListComp_U (F₀ := by k_asm) (by with_unfolding_all rfl) (by decide) (by rfl) (by decide) (by rfl) ?_))
  k_with "CompSrc" => (refine og_wrap ?_)
  k_with "CompEnd" => (refine og_wrap ?_)
  k_with "call type:bytes" => (k_here; (with_reducible show wpAny _ _ (call (Value.type "bytes") [Value.ref _]) _ _ _); k_dflt (refine' og_bytes_of ?Fz59 ?Nz59 ?lz59 ?iz59 ?rz59 ?zz59 ?hz59 ?_; (case Fz59 => k_asm); (case Nz59 => k_asm); (case lz59 => k_mem); (case iz59 => assumption); (case rz59 => ktr_rel); (case zz59 => first | assumption | exact size_ok (by assumption) (by first | assumption | omega) | ((simp only [List.size_toArray, List.length_set] at *); assumption)); (case hz59 => rfl); k_whole); intro h'z59 t'z59 k'z59 F'z59 N'z59; (try k_sweep))
  k_with "call builtin:len" => (k_here; (with_reducible show wpAny _ _ (call (Value.builtin "len") [Value.ref _]) _ _ _); k_dflt (refine' og_len ?Nz48 ?lz48 ?iz48 ?zz48 ?_; (case Nz48 => k_asm); (case lz48 => k_mem); (case iz48 => assumption); (case zz48 => assumption); k_whole))
  k_with "binaryOp Add ref ref" => (k_here; (with_reducible show wpAny _ _ (binaryOp _ (Value.ref _) (Value.ref _)) _ _ _); k_dflt (refine' og_add ?Fz57 ?Nz57 ?az57 ?bz57 ?iz57 ?jz57 ?zz57 ?_; (case Fz57 => k_asm); (case Nz57 => k_asm); (case az57 => k_mem); (case bz57 => k_mem); (case iz57 => first | assumption | exact .cons _ _ .nil | exact .cons _ _ (.cons _ _ .nil)); (case jz57 => first | assumption | exact .cons _ _ .nil | exact .cons _ _ (.cons _ _ .nil)); (case zz57 => first | assumption | omega | ((simp only [figs_length, List.length_cons, List.length_nil]); omega)); k_whole); intro D'z57 ws'z57 h'z57 F'z57 N'z57 l1z57 hI'z57 hz'z57; (try k_lt l1z57); (try k_sweep))
  k_with "subscriptTail" => (k_here; (with_reducible show wpAny _ _ (subscriptTail _ _ (Value.ref _) (Value.int _ _)) _ _ _); k_dflt (refine' og_item ?Nz51 ?lz51 ?iz51 ?az51 ?bz51 ?zz51 ?_; (case Nz51 => k_asm); (case lz51 => k_mem); (case iz51 => assumption); (case zz51 => with_reducible assumption); (case az51 => first | decide | omega); (case bz51 => first | decide | omega); k_whole); intro _)
  k_with "subscriptTail Name Name ref int" => (k_here; (with_reducible show wpAny _ _ (subscriptTail _ _ (Value.ref _) (Value.int _ _)) _ _ _); k_dflt (refine' og_item ?Nz51 ?lz51 ?iz51 ?az51 ?bz51 ?zz51 ?_; (case Nz51 => k_asm); (case lz51 => k_mem); (case iz51 => assumption); (case zz51 => with_reducible assumption); (case az51 => first | decide | omega); (case bz51 => first | decide | omega); k_whole); intro _)
  k_with "subscriptTail Name Constant ref int" => (k_here; (with_reducible show wpAny _ _ (subscriptTail _ _ (Value.ref _) (Value.int _ _)) _ _ _); k_dflt (refine' og_item ?Nz51 ?lz51 ?iz51 ?az51 ?bz51 ?zz51 ?_; (case Nz51 => k_asm); (case lz51 => k_mem); (case iz51 => assumption); (case zz51 => with_reducible assumption); (case az51 => first | decide | omega); (case bz51 => first | decide | omega); k_whole); intro _)
  k_with "subscriptTail Name BinOp ref int" => (k_here; (with_reducible show wpAny _ _ (subscriptTail _ _ (Value.ref _) (Value.int _ _)) _ _ _); k_dflt (refine' og_item ?Nz51 ?lz51 ?iz51 ?az51 ?bz51 ?zz51 ?_; (case Nz51 => k_asm); (case lz51 => k_mem); (case iz51 => assumption); (case zz51 => with_reducible assumption); (case az51 => first | decide | omega); (case bz51 => first | decide | omega); k_whole); intro _)
  k_with "subscriptTail" => (k_here; (with_reducible show wpAny _ _ (subscriptTail _ _ (Value.bytes _ _) (Value.int _ _)) _ _ _); k_dflt (refine' KBw.item_K ?hkz52 ?hfz52 ?h0z52 ?h1z52 ?_; (case hkz52 => assumption); (case hfz52 => first | assumption | exact Nat.le_of_ble_eq_true rfl); (case h0z52 => omega); (case h1z52 => first | assumption | omega | ((simp only [List.length_cons, List.length_nil]); omega)); k_whole); intro _ _ _ _)
  k_with "subscriptTail Name BinOp bytes int" => (k_here; (with_reducible show wpAny _ _ (subscriptTail _ _ (Value.bytes _ _) (Value.int _ _)) _ _ _); k_dflt (refine' KBw.item_K ?hkz52 ?hfz52 ?h0z52 ?h1z52 ?_; (case hkz52 => assumption); (case hfz52 => first | assumption | exact Nat.le_of_ble_eq_true rfl); (case h0z52 => omega); (case h1z52 => first | assumption | omega | ((simp only [List.length_cons, List.length_nil]); omega)); k_whole); intro _ _ _ _)
  k_with "subscriptTail Name Name bytes int" => (k_here; (with_reducible show wpAny _ _ (subscriptTail _ _ (Value.bytes _ _) (Value.int _ _)) _ _ _); k_dflt (refine' KBw.item_K ?hkz52 ?hfz52 ?h0z52 ?h1z52 ?_; (case hkz52 => assumption); (case hfz52 => first | assumption | exact Nat.le_of_ble_eq_true rfl); (case h0z52 => omega); (case h1z52 => first | assumption | omega | ((simp only [List.length_cons, List.length_nil]); omega)); k_whole); intro _ _ _ _)
  k_with "setItem ref int" => (k_here; (with_reducible show wpAny _ _ (setItem (Value.ref _) (Value.int _ _) (Value.int _ _)) _ _ _); k_dflt (refine' og_setItem ?Fz53 ?Nz53 ?iz53 ?az53 ?bz53 ?kz53 ?Uz53 ?_; (case Fz53 => k_asm); (case Nz53 => k_asm); (case iz53 => assumption); (case Uz53 => k_upd); (case az53 => first | decide | omega); (case bz53 => first | decide | omega); (case kz53 => first | assumption | omega); k_whole); intro h'z53 F'z53 N'z53 hI'z53; (try k_sweep))
  k_with "call ref" => (k_here; (with_reducible show wpAny _ _ (call (Value.ref 94) _) _ _ _); cell_ask (useT (decimal_spec _ _ _ _ _ _ (by first | with_reducible assumption | decide | omega) (by first | with_reducible assumption | decide | omega))); intro q9z29 t9z29 u9z29 h9z29 tk9z29 F9z29 N9z29 l9z29; (try k_lt l9z29); (try k_sweep); (try dsimp only); (try k_fold))
  k_with "call ref" => (k_here; (with_reducible show wpAny _ _ (call (Value.ref 86) _) _ _ _); cell_ask (useI (cutq_spec _ _ _ _ _ _ (by first | with_reducible assumption | exact ten_ne _) (Nat.le_trans (by bits_by_make) (by decide)))); intro t9z35 h9z35 tk9z35 F9z35 N9z35; (try k_sweep); (try dsimp only); (try k_fold))
  k_with "call ref" => (k_here; (with_reducible show wpAny _ _ (call (Value.ref 151) _) _ _ _); cell_ask (useB (fits_spec _ _ _ _ _ _ (by first | with_reducible assumption | decide | omega) (by first | with_reducible assumption | decide | omega))); intro h9z31 tk9z31 F9z31 N9z31; (try k_sweep); (try dsimp only); (try k_fold))
  k_with "call ref" => (k_here; (with_reducible show wpAny _ _ (call (Value.ref 108) _) _ _ _); cell_ask (useT3 (beside_spec _ _ _ _ _ _ _ _ _ _ _ _ (by k_mem) (by k_mem) (by with_reducible assumption) (by with_reducible assumption) (by with_reducible assumption) (by with_reducible assumption) (by with_reducible assumption) (by with_reducible assumption))); intro q9z36 t9z36 u9z36 v9z36 h9z36 tk9z36 F9z36 N9z36 l9z36; (try k_lt l9z36); (try k_sweep); (try dsimp only); (try k_fold))
  k_with "call ref" => (k_here; (with_reducible show wpAny _ _ (call (Value.ref 101) _) _ _ _); cell_ask (useT (kept_spec _ _ _ _ _ _ (by omega) (by omega) (by with_reducible assumption))); intro q9z37 t9z37 u9z37 h9z37 tk9z37 F9z37 N9z37 l9z37; (try k_lt l9z37); (try k_sweep); (try dsimp only); (try k_fold))
  k_with "call ref" => (k_here; (with_reducible show wpAny _ _ (call (Value.ref 215) _) _ _ _); cell_ask (useI (bound_spec _ _ _ _ _ _ _ _ _ _ _ _ _ (by k_mem) (by k_mem) (by with_reducible assumption) (by with_reducible assumption))); intro t9z42 h9z42 tk9z42 F9z42 N9z42; (try k_sweep); (try dsimp only); (try k_fold))
  k_with "call ref" => (k_here; (with_reducible show wpAny _ _ (call (Value.ref 250) _) _ _ _); cell_ask (useL (figs_spec _ _ _ _ _ _ (by first | with_reducible assumption | omega) (by first | with_reducible assumption | omega) (by first | with_reducible assumption | omega))); intro q9z55 vs9z55 c9z55 h9z55 tk9z55 hI9z55 F9z55 N9z55 l9z55; (try k_lt l9z55); (try k_sweep); (try dsimp only); (try k_fold))
  trivial
section SOgH
open PySem PySem.W PyProof.Rows PySem.Calls
set_option maxRecDepth 100000
set_option maxHeartbeats 1000000

theorem rs_OgH : True := by
  w_top off
  trivial
theorem bin_turn {n r : Int} {i : Nat} {fs : List Int} (hr : r = n / 256 ^ i) (hf : fs = (List.range i).map fun j => n / 256 ^ j % 256) :
    r.fdiv 256 = n / 256 ^ (i + 1) ∧ fs ++ [r.fmod 256] = (List.range (i + 1)).map fun j => n / 256 ^ j % 256 := by
  subst hr hf
  rw [Int.fdiv_eq_ediv_of_nonneg _ (by lia), Int.fmod_eq_emod_of_nonneg _ (by lia), List.range_succ, List.map_append, Int.pow_succ, Int.ediv_ediv_of_nonneg (Int.le_of_lt (Int.pow_pos (by lia)))]
  exact ⟨rfl, rfl⟩
theorem binO_in {n : Int} {c : Nat} : KBa.In (binO n c) := fun z hz => by
  unfold binO at hz
  rw [List.mem_reverse] at hz
  obtain ⟨i, _, rfl⟩ := List.mem_map.mp hz
  lia
theorem binO_length (n : Int) (c : Nat) : (binO n c).length = c := by simp [binO]
theorem bino_spec (w : World) (news : Led) (x dx : Addr) (k v : Nat → Tok) (digits scale size : Int) (usage sign : Str) (sep signed : Bool) (h1 : (x, instObj 204 dx) ∈ news) (h2 : (dx, shD w k v digits scale size usage sign sep signed) ∈ news)
    (hd0 : 1 ≤ size) (hd1 : size ≤ 19) (u : Int) (t : Tok) : Ct w 267 1 8 news [.ref x, .int u t] (RY news (binO (u % 256 ^ size.toNat) size.toNat)) := by
  unfold Ct
  intro prog p loose mean mg mb dp un gd cn cs aa ccd cl outer A₀ base h₀ L m s Q E B F X N T hk hdp hun hret
  ktr_call [("shape", .ref x), ("units", .int u t)] 267
  have h256 : (256 : Int) ^ size.toNat ≠ 0 := Int.ne_of_gt (Int.pow_pos (by lia))
  have h256p : (0 : Int) ≤ 256 ^ size.toNat := Int.le_of_lt (Int.pow_pos (by lia))
  k_steps
  unfold OgW
  rename News _ _ _ _ => N1
  refine og_name1 N1 (fun D e => ?_); subst e
  have hfr : ∀ p ∈ news, p.1 < D := by assumption
  have hne : ∀ p ∈ news, p.1 ≠ D := og_neOf hfr
  refine og_range (σ := Int × Tok × List Value × Nat) (fun c => (D, listOf c.2.2.1.toArray c.2.2.2) :: news) (fun c => [("rest", .int c.1 c.2.1)])
    (fun i c => ∃ fs, IntsAre c.2.2.1 fs ∧ c.1 = (u % 256 ^ size.toNat) / 256 ^ i ∧ fs = (List.range i).map fun j => (u % 256 ^ size.toNat) / 256 ^ j % 256) (u.fmod (256 ^ size.toNat), _, [], 0) rfl (by assumption) (small_one (by lia) (by lia) (by lia) (by lia)) (rangeSize_nat _ _) (by k_asm) (og_tail N1) (by kst_all) ?_ ?_ ?_
  · exact ⟨[], .nil, by rw [Int.fmod_eq_emod_of_nonneg u h256p, Int.pow_zero, Int.ediv_one], rfl⟩
  · rintro ⟨r, tr, vs, cnt⟩ i ti h tk I oI hi ⟨fs, hI, hr, hf⟩ hni F1 N1
    dsimp only at hI hr hf hni F1 N1
    have hsz := size_ok hI (by rw [hf]; simp; lia)
    have hID : @Ne Nat I D := Ne.symm (hni _ (.head _))
    k_steps
    rename News _ _ _ _ => N2
    rw [List.push_toArray] at N2
    have ⟨e1, e2⟩ := bin_turn hr hf
    refine' og_end (r.fdiv 256, _, _, _) (by k_asm) N2 (.head _) (fun _ h => .tail _ h) ?oga ?ogb ?ogc ?ogd
    case ogb => kst_all
    case oga => exact og_ne_swap hni
    case ogc => ksw_same
    case ogd => exact ⟨_, hI.append (.cons _ _ .nil), e1, e2⟩
  · rintro ⟨r, tr, vs, cnt⟩ uu h tk ⟨fs, hI, hr, hf⟩ F1 N1
    dsimp only at hI hr hf F1 N1
    have hsz := size_ok hI (by rw [hf]; simp; lia)
    have ef : fs.reverse = binO (u % 256 ^ size.toNat) size.toNat := by rw [hf, Int.sub_zero]; rfl
    have hin : KBa.In fs.reverse := by rw [ef]; exact binO_in
    have hl2 : fs.reverse.length ≤ 100000 := by rw [ef, binO_length]; lia
    k_steps
    exact endY hret (by k_asm) (by k_asm) (by kcj_all) ef
end SOgH
section SOgI
open PySem PySem.W PyProof.Rows PySem.Calls
set_option maxRecDepth 100000
set_option maxHeartbeats 1000000
theorem rs_OgI : True := by
  w_top off
  trivial
namespace GSOgI
theorem secOgI : True := trivial
end GSOgI
open GSOgI
theorem wd17 : True := by
  k_with "call ref" => ((guard_expr secOgI =ₛ secOgI); (k_here; (with_reducible show wpAny _ _ (call (Value.ref 243) _) _ _ _); cell_ask (useI (keptu_spec _ _ _ _ _ _ _ _ _ _ _ _ _ (by k_mem) (by k_mem) (by first | with_reducible assumption | omega) (by first | with_reducible assumption | omega) _ _)); intro t9z60 h9z60 tk9z60 F9z60 N9z60; (try k_sweep); (try dsimp only); (try k_fold)))
  k_with "call ref" => ((guard_expr secOgI =ₛ secOgI); (k_here; (with_reducible show wpAny _ _ (call (Value.ref 255) _) _ _ _); cell_ask (useY (dispo_spec _ _ _ _ _ _ _ _ _ _ _ _ _ (by k_mem) (by k_mem) (by first | with_reducible assumption | omega) (by first | with_reducible assumption | omega) _ _)); intro t9z61 h9z61 tk9z61 F9z61 N9z61; (try k_sweep); (try dsimp only); (try k_fold)))
  k_with "call ref" => ((guard_expr secOgI =ₛ secOgI); (k_here; (with_reducible show wpAny _ _ (call (Value.ref 260) _) _ _ _); cell_ask (useY (packo_spec _ _ _ _ _ _ _ _ _ _ _ _ _ (by k_mem) (by k_mem) (by first | with_reducible assumption | omega) (by first | with_reducible assumption | omega) _ _)); intro t9z62 h9z62 tk9z62 F9z62 N9z62; (try k_sweep); (try dsimp only); (try k_fold)))
  k_with "call ref" => ((guard_expr secOgI =ₛ secOgI); (k_here; (with_reducible show wpAny _ _ (call (Value.ref 267) _) _ _ _); cell_ask (useY (bino_spec _ _ _ _ _ _ _ _ _ _ _ _ _ (by k_mem) (by k_mem) (by first | with_reducible assumption | omega) (by first | with_reducible assumption | omega) _ _)); intro t9z63 h9z63 tk9z63 F9z63 N9z63; (try k_sweep); (try dsimp only); (try k_fold)))
  trivial
noncomputable def octO (isD isP lead sep signed : Bool) (digits size : Nat) (units : Int) : List Int :=
  if isD = true then dispO (figs (if keptU units digits signed < 0 then -keptU units digits signed else keptU units digits signed) digits) (decide (keptU units digits signed < 0)) lead sep signed
  else if isP = true then packO (figs (if keptU units digits signed < 0 then -keptU units digits signed else keptU units digits signed) (2 * (size : Int) - 1).toNat ++ [markOf (decide (keptU units digits signed < 0)) signed]) size
  else binO (keptU units digits signed % 256 ^ size) size
theorem octo_spec (w : World) (news : Led) (x dx : Addr) (k v : Nat → Tok) (digits scale size : Int) (usage sign : Str) (sep signed : Bool) (h1 : (x, instObj 204 dx) ∈ news) (h2 : (dx, shD w k v digits scale size usage sign sep signed) ∈ news)
    (hd0 : 1 ≤ digits) (hd1 : digits ≤ 18) (hs0 : 1 ≤ size) (hs1 : size ≤ 19) (u : Int) (t : Tok) : Ct w 274 4 32 news [.ref x, .int u t] (RY news (octO (usage == Str.ofString "display") (usage == Str.ofString "packed") (sign == Str.ofString "leading") sep signed digits.toNat size.toNat u)) := by
  unfold Ct
  intro prog p loose mean mg mb dp un gd cn cs aa ccd cl outer A₀ base h₀ L m s Q E B F X N T hk hdp hun hret
  ktr_call [("shape", .ref x), ("units", .int u t)] 274
  have ez : ((size.toNat : Nat) : Int) = size := by lia
  k_steps
  all_goals
    refine endY hret (by k_asm) (by k_asm) (by kcj_all) ?_
    unfold octO
    rw [ez]
    simp only [*, if_true, if_false, Bool.false_eq_true]
end SOgI
section SOgEnum
open PySem PySem.W PyProof.Rows PySem.Calls
set_option maxRecDepth 100000
noncomputable def OgEndR (h₀ : Heap) (L : Addr) (J : (Str → Option Value) → Prop) (own : Led) (s₁ s₂ : Shared) : Prop :=
  ∃ h' tk m', s₂ = { s₁ with heap := h', toks := tk } ∧ Fr h₀ L h' m' ∧ News h₀ L h' own ∧ J m'
noncomputable def OgPostR (h₀ : Heap) (L : Addr) (J : (Str → Option Value) → Prop) (own : Led) (s₁ : Shared) (Q : Flow → Shared → Prop) (f : Flow) (s₂ : Shared) : Prop :=
  match f with
  | .ret v => Q (.ret v) s₂
  | .brk => Q .next s₂
  | .next => OgW (OgEndR h₀ L J own s₁ s₂)
  | .cont => OgW (OgEndR h₀ L J own s₁ s₂)
noncomputable def OgSR {σ : Type} (ps : σ → List (Str × Value)) (xi xc : Str) (m₀ : Str → Option Value) (P : σ → Prop) (m : Str → Option Value) : Prop :=
  ∃ c : σ, (∀ p ∈ ps c, m p.1 = some p.2) ∧ (∀ z, z ≠ xi → z ≠ xc → (∀ p ∈ ps c, z ≠ p.1) → m z = m₀ z) ∧ P c
theorem og_endR {σ : Type} {ps : σ → List (Str × Value)} {xi xc : Str} {m₀ m' : Str → Option Value} {P : σ → Prop} {h₀ : Heap} {L : Addr} {own : Led} {s₁ : Shared} {h' : Heap} {tk : Nat} {news' : Led} (c : σ)
    (F : Fr h₀ L h' m') (N : News h₀ L h' news') (hs : ∀ p ∈ own, p ∈ news') (hk : ∀ p ∈ ps c, m' p.1 = some p.2) (hr : ∀ z, z ≠ xi → z ≠ xc → (∀ p ∈ ps c, z ≠ p.1) → m' z = m₀ z) (hp : P c) :
    OgW (OgEndR h₀ L (OgSR ps xi xc m₀ P) own s₁ { s₁ with heap := h', toks := tk }) := ⟨h', tk, m', rfl, F, fun p hp => N p (hs p hp), c, hk, hr, hp⟩
section
variable {prog : Program} {w : World} {A : Around} {E : Value → Shared → Prop} {s : Shared} {env : Env} {h₀ : Heap} {xi xc : Str} {body : List Stmt} {Q : Flow → Shared → Prop}
theorem og_enum {σ : Type} {ns : List Int} {xv : Value} {m₀ : Str → Option Value} (ps : σ → List (Str × Value)) (P : Nat → σ → Prop) (c₀ : σ)
    (S : PairSrcL prog w A E h₀ env.locals .int ns xv s m₀ []) (hk : ∀ p ∈ ps c₀, m₀ p.1 = some p.2) (hp : P 0 c₀)
    (turn : ∀ (c : σ) (i : Nat) (a : Int) (t tv : Tok) (h : Heap) (tk : Nat) (own : Led), ns[i]? = some a → P i c →
      Fr h₀ env.locals h (fun y => if y = xc then some (.int a tv) else if y = xi then some (.int (i : Int) t) else kstB m₀ (ps c) y) → News h₀ env.locals h own →
      wpAny (model prog w) A (execs body env) (OgPostR h₀ env.locals (OgSR ps xi xc m₀ (P (i + 1))) own { s with heap := h, toks := tk } Q) E { s with heap := h, toks := tk })
    (done : ∀ (c : σ) (u : Str → Option Value) h tk, P ns.length c → Fr h₀ env.locals h (fun y => if y = xc then u y else if y = xi then u y else kstB m₀ (ps c) y) → Q .next { s with heap := h, toks := tk }) :
    wpAny (model prog w) A (pyIter xv) (fun it s₂ => PairAt3 prog w A h₀ env xi xc body Q E it s₂) E s := by
  refine S env rfl xi xc body Q (fun i m nx => OgSR ps xi xc m₀ (P i) m) ⟨c₀, hk, fun _ _ _ _ => rfl, hp⟩ ?_ ?_
  · rintro i a t v m₁ news₁ s₁ own ⟨h, tk, rfl⟩ ha hv ⟨c, h1, h2, hP⟩ hadr _ F₁ N₁
    obtain ⟨tv, rfl⟩ := ItemKind.int_is hv
    have em : (fun y => if y = xc then some (Value.int a tv) else if y = xi then some (.int (i : Int) t) else kstB m₀ (ps c) y) = fun y => if y = xc then some (.int a tv) else if y = xi then some (.int (i : Int) t) else m₁ y := by
      funext y
      by_cases hy : y = xc
      · rw [if_pos hy, if_pos hy]
      · rw [if_neg hy, if_neg hy]
        by_cases hz : y = xi
        · rw [if_pos hz, if_pos hz]
        · rw [if_neg hz, if_neg hz]
          exact kstB_eq h1 fun hn => (h2 y hz hy hn).symm
    rw [← em] at F₁
    refine wpAny_mono (turn c i a t tv h tk own ha hP F₁ fun p hp => N₁ p (List.mem_append_left _ hp)) (fun f s₂ p => ?_) fun _ _ e => e
    have hn1 : news₁ = [] := List.map_eq_nil_iff.mp hadr
    have fin : OgEndR h₀ env.locals (OgSR ps xi xc m₀ (P (i + 1))) own { s with heap := h, toks := tk } s₂ → LoopStep3 h₀ env.locals own news₁ (fun m nx => OgSR ps xi xc m₀ (P (i + 1)) m) { s with heap := h, toks := tk } (fun v s' => Q (.ret v) s') (fun s' => Q .next s') .next s₂ := by
      rintro ⟨h', tk', m', e, F', N', hJ⟩
      exact ⟨rfl, h', tk', m', [], e, F', by simpa using N', by rw [hn1], hJ⟩
    cases f with
    | ret v => exact p
    | brk => exact p
    | next => exact fin p
    | cont => exact fin p
  · rintro h' tk m' news' F' N' _ ⟨c, h1, h2, hP⟩
    refine done c m' h' tk hP ?_
    have em : (fun y => if y = xc then m' y else if y = xi then m' y else kstB m₀ (ps c) y) = m' := by
      funext y
      by_cases hy : y = xc
      · rw [if_pos hy]
      · rw [if_neg hy]
        by_cases hz : y = xi
        · rw [if_pos hz]
        · rw [if_neg hz]
          exact kstB_eq h1 fun hn => (h2 y hz hy hn).symm
    rw [em]; exact F'
end
/-- behind a call that changes nothing -/
theorem ro_news {h₀ H g h' : Heap} {L L' : Addr} {m' : Str → Option Value} {news : Led} (N : News h₀ L H news) (G : GSub H g []) (F' : Fr g L' h' m') : News h₀ L h' news :=
  fun p hp => ⟨F'.keep _ _ (G _ _ (N p hp).1 (fun h => nomatch h)), (N p hp).2⟩
theorem ro_list {h₀ H g : Heap} {L l : Addr} {vs : List Value} {c : Nat} {news : Led} (N : News h₀ L H news) (G : GSub H g []) (hm : (l, listOf vs.toArray c) ∈ news) : g.IsList l vs.toArray :=
  ⟨_, G _ _ (N _ hm).1 (fun h => nomatch h), rfl, c, rfl⟩
end SOgEnum
section SOgJ
open PySem PySem.W PyProof.Rows PySem.Calls
set_option maxRecDepth 100000
set_option maxHeartbeats 1000000
theorem rs_OgJ : True := by
  w_top off
  trivial
namespace GSOgJ
theorem secOgJ : True := trivial
end GSOgJ
open GSOgJ
theorem wd18 : True := by
  k_with "exec For Tuple Call cons nil" => ((guard_expr secOgJ =ₛ secOgJ); ((with_reducible show wpAny _ _ (exec (Stmt.For (Expr.Tuple _ _ _) (Expr.Call (Expr.Name (Str.ofString "enumerate") _) _ _ _) _ _ _) _) _ _ _); (rename Fr _ _ _ _ => F'z64); (with_reducible apply For_pair3F); (case _F => with_unfolding_all exact F'z64); (case hh => with_unfolding_all rfl); (case hxi => with_unfolding_all rfl); (case hxc => with_unfolding_all rfl); (case hp => with_unfolding_all rfl); (case hs => (intro _; with_unfolding_all rfl))))
  k_with "call type:enumerate" => ((guard_expr secOgJ =ₛ secOgJ); ((with_reducible show wpAny _ _ (call (Value.type _) [Value.ref _]) _ _ _); (with_unfolding_all refine call_enum_list rfl (by assumption) (IntsAre.areOf (by assumption)) (by assumption) (by assumption) ?_); intro _ _ _ _ _))
  trivial
theorem joinF_take {fs : List Int} {i : Nat} {a : Int} (h : fs[i]? = some a) : joinF (fs.take (i + 1)) = 10 * joinF (fs.take i) + a := by
  rw [List.take_add_one, h]
  simp [joinF]
theorem joinf_spec (w : World) (news : Led) (l : Addr) (vs : List Value) (c : Nat) (fs : List Int) (hm : (l, listOf vs.toArray c) ∈ news) (hI : IntsAre vs fs) (hr : ∀ d ∈ fs, 0 ≤ d ∧ d ≤ 9) : Ct w 281 1 8 news [.ref l] (RI news (joinF fs)) := by
  unfold Ct
  intro prog p loose mean mg mb dp un gd cn cs aa ccd cl outer A₀ base h₀ L m s Q E B F X N T hk hdp hun hret
  refine wpAny_call ?_
  k_dflt (refine' code_defG (f := 281) (binds := [("figures", .ref l)]) (news := []) ?k1 ?k2 ?k3 ?k4 ?k5 ?kA ?kF ?kK ?k6 ?k7 ?k8 ?k9 ?kB ?_ ?c2 ?c3 ?c4 ?c5; (case kA => exact rfl); (case kF => exact rfl); (case kK => assumption); (case k1 => k_asm); (case k2 => k_asm); (case k3 => k_asm); (case k4 => exact fun _ h => nomatch h); (case k5 => k_asm); (case k6 => k_is); (case k7 => k_is); (case k8 => ktr_room); (case k9 => first | exact BindsTo.of_eq rfl | exact binds_K (by k_in) rfl (by k_is) rfl rfl rfl); (case c5 => decide); (case kB => exact locs rfl); (case c2 => exact rfl); (case c3 => exact rfl); (case c4 => exact rfl); k_whole; intro gR LR hR FG' F' N' B' X' T' G'; (try dsimp only); (try k_lift B'); (try k_fold))
  have hL : gR.IsList l vs.toArray := ro_list N G' hm
  k_steps
  unfold OgW
  refine og_enum (σ := Int × Tok) (fun c => [("found", .int c.1 c.2)]) (fun i c => c.1 = joinF (fs.take i)) (0, _) (by assumption) (by kst_all) rfl ?_ ?_
  · rintro ⟨r, tr⟩ i a ti ta h tk own ha hP F1 N1
    dsimp only at hP F1
    have hab := hr a (List.mem_of_getElem? ha)
    k_steps
    refine' og_endR (10 * r + a, _) (by k_asm) (by k_asm) (fun _ h => h) ?ogb ?ogc ?ogd
    case ogb => kst_all
    case ogc => (intro z h1 h2 h3; (simp only [List.forall_mem_cons, List.not_mem_nil, false_implies, implies_true, and_true, ne_eq] at h3); (simp [kstB, h1, h2, h3]; done))
    case ogd => (show 10 * r + a = _; rw [joinF_take ha, hP])
  · rintro ⟨r, tr⟩ uu h tk hP F1
    dsimp only at hP F1
    have N9 : News gR LR h [] := fun _ h => nomatch h
    k_steps
    exact endI hret (by k_asm) (ro_news N G' F1) (by kcj_all) (by rw [hP, List.take_length])
end SOgJ
section SOgK0
open PySem PySem.W PyProof.Rows PySem.Calls
set_option maxRecDepth 100000
set_option maxHeartbeats 1000000
open Builtin
theorem look_int_buffer : typeLookup (.type "int") "__buffer__" = pure none := by rw [typeLookup_type, builtinLookup_eq_fast]; kernel_rfl
theorem gives_bcontains (b : Array UInt8) (t u : Tok) (i : Int) (h0 : 0 ≤ i) (h1 : i < 256) : Gives («bytes.__contains__» ⟨[.bytes b t, .int i u], []⟩) (.val (.bool (b.contains i.toNat.toUInt8))) := by
  refine .of_wp fun M A E s Q hq => ?_
  show wpAny M A (Bytes.containsIn "bytes.__contains__" (.bytes b t) (.int i u) >>= fun r => _) _ E s
  refine wpAny_bind ?_
  unfold Bytes.containsIn
  refine wpAny_bind (wpAny_of_eq (a := Except.ok i) rfl ?_)
  refine wpAny_bind (wpAny_of_eq KBy.buffer_eq ?_)
  show wpAny M A (if (i < 0 || i ≥ 256) = true then _ else _) _ E s
  rw [if_neg (by simp; lia)]
  exact wpAny_pure (wpAny_pure ⟨_, rfl, hq⟩)
theorem in_bytes {prog : Program} {w : World} {A : Around} {E : Value → Shared → Prop} {s : Shared} {Q : Value → Shared → Prop} (b : Array UInt8) (t u : Tok) (i : Int) (h0 : 0 ≤ i) (h1 : i < 256)
    (h : Q (.bool (b.contains i.toNat.toUInt8)) s) : wpAny (model prog w) A (compareOp .In (.int i u) (.bytes b t)) Q E s :=
  in_gives (typeIs_bytes s b t) FB.slot_bytes_contains FB.entry_bytes_contains (FB.args_bytes_contains_2 _ _) (gives_bcontains b t u i h0 h1) h

theorem slot_bindex : Slot "bytes" "index" "bytes.index" :=
  .of (owner := "bytes") (n := "index") (by rw [typeLookup_type, builtinLookup_eq_fast]; kernel_rfl) (by decide +kernel) (by decide +kernel) (by decide +kernel)
    (by first | exact .inl (by decide +kernel) | exact .inr (by decide +kernel)) (by rw [isSubtype_type]; kernel_rfl)
theorem type_bindex : typeOf (.builtin "bytes.index") = pure (.type "method_descriptor") := by show builtinType _ = _; rw [builtinType_eq_fast]; kernel_rfl
theorem entry_bindex : entryFor table "bytes.index" = some Builtin.«bytes.index» := entryFor_of_tree (by kernel_rfl)
theorem args_bindex (a b : Value) : argsOk "bytes.index" ⟨[a, b], []⟩ := by
  unfold argsOk; rw [signature?_of (id := "bytes.index") (n := ['x', 'e', 'd', 'n', 'i']) (o := ['s', 'e', 't', 'y', 'b']) (by kernel_rfl) FB.owner_bytes]; kernel_rfl
theorem buffer_int (id : String) (i : Int) (u : Tok) : Bytes.buffer? id (.int i u) = pure none := by
  unfold Bytes.buffer?
  have e : specialOf (.int i u) "__buffer__" = pure none := by
    have e : specialOf (.int i u) "__buffer__" = typeLookup (.type "int") "__buffer__" := rfl
    rw [e, look_int_buffer]
  rw [e]
  rfl
theorem gives_bindex (b : Array UInt8) (t u : Tok) (i : Int) (k : Nat) (h0 : 0 ≤ i) (h1 : i < 256) (hk : Bytes.find? b #[i.toNat.toUInt8] 0 b.size = some k) (hb : 1 ≤ b.size) : Gives («bytes.index» ⟨[.bytes b t, .int i u], []⟩) (.int k) := by
  refine .of_wp fun M A E s Q hq => ?_
  show wpAny M A (Bytes.searchArgs .bytes "index" _ >>= fun r => _) _ E s
  refine wpAny_bind ?_
  unfold Bytes.searchArgs
  refine wpAny_bind (wpAny_of_eq (a := (Value.bytes b t, [Value.int i u])) rfl ?_)
  dsimp only
  refine wpAny_bind (wpAny_of_eq (a := none) rfl ?_)
  refine wpAny_bind (wpAny_of_eq (a := none) rfl ?_)
  refine wpAny_bind (wpAny_of_eq (buffer_int _ i u) ?_)
  dsimp only
  refine wpAny_bind (wpAny_specialOf (T := "int") (typeIs_int _ _ _) F.slot_int_index.lookup ?_)
  refine wpAny_ite (KBy.ite_no (show ¬ (Option.isNone (some _) = true) from Bool.false_ne_true) ?_)
  refine wpAny_bind (wpAny_of_eq (a := i) rfl ?_)
  show wpAny M A (if (i < 0 || i ≥ 256) = true then _ else _) _ E s
  rw [if_neg (by simp; lia)]
  refine wpAny_bind (wpAny_pure ?_)
  refine wpAny_bind (wpAny_of_eq (a := b) rfl ?_)
  refine wpAny_pure ?_
  dsimp only [Bytes.window, Option.getD_none, Bytes.Kind.name]
  have hn : ¬ ((b.size : Int) < 0) := by lia
  have h1 : (#[i.toNat.toUInt8].size : Nat) = 1 := rfl
  have hn2 : ¬ ((b.size : Int) - 0 < ((1 : Nat) : Int)) := by lia
  simp only [hn, if_false, Int.lt_irrefl, Int.min_self, h1, hn2, Option.bind_some, Int.toNat_zero, Int.toNat_natCast, hk]
  exact wpAny_bind (wpAny_mkInt (wpAny_pure ⟨_, rfl, hq⟩))
theorem bindex_K {prog : Program} {w : World} {A : Around} {E : Value → Shared → Prop} {s : Shared} {Q : Value → Shared → Prop} (b : Array UInt8) (t u : Tok) (i : Int) (k : Nat) (h0 : 0 ≤ i) (h1 : i < 256) (hk : Bytes.find? b #[i.toNat.toUInt8] 0 b.size = some k) (hb : 1 ≤ b.size)
    (h : Q (.int k s.toks) { s with toks := s.toks + 1 }) : wpAny (model prog w) A (call (.builtin "bytes.index") [.bytes b t, .int i u]) Q E s :=
  call_gives slot_bindex (typeIs_bytes s b t) entry_bindex (args_bindex _ _) (gives_bindex b t u i k h0 h1 hk hb) h
theorem bgetM {M : Model} {A : Around} {E : Value → Shared → Prop} {s : Shared} {pl : Sem Bool} {Q : Value × List Value → Shared → Prop} {b : Array UInt8} {t : Tok} (h : Q (.builtin "bytes.index", [.bytes b t]) s) : wpAny M A (getMethod (.bytes b t) "index" pl) Q E s :=
  getMethod_builtin (typeIs_bytes _ _ _) FB.plainAttrs_bytes slot_bindex type_bindex (fun _ e => nomatch e) h

noncomputable abbrev tupB (x : Int) (t : Tok) (b : Bool) : Obj := { cls := .type "tuple", data := .seq #[.int x t, .bool b] }
noncomputable def RTB (news : Led) (x : Int) (b : Bool) (r : Value) (n : Led) : Prop := ∃ q t, r = .ref q ∧ n = (q, tupB x t b) :: news ∧ ∀ p ∈ news, p.1 < q
section
variable {w : World} {f : Addr} {dd uu : Nat} {news : Led} {vs : List Value} {prog : Program} {p : Program} {loose : List Str} {mean : ExcName → Option Value} {mg mb : Str → Option Value}
    {dp un : Nat} {gd : Option (List Code)} {cn : Str} {cs : Scope} {a : Addr} {ccd : Value} {cl : List (Str × Addr)} {outer : List Env} {A₀ : Around} {base h₀ : Heap} {L : Addr} {m : Str → Option Value} {s : Shared} {Q E : Value → Shared → Prop}
theorem useTB {x : Int} {y : Bool} (C : Ct w f dd uu news vs (RTB news x y)) (B : Below A₀ base outer h₀) (F : Fr h₀ L s.heap m) (X : (hd.heap_1 w.params).In h₀) (N : News h₀ L s.heap news) (T : Top p loose mean mg mb h₀) (hk : cs.kind = .function) (hd : dp + dd < recursionLimit) (hu : un + uu < cLine)
    (h : ∀ (q : Addr) (t : Tok) (h' : Heap) (tk' : Nat), Fr h₀ L h' m → News h₀ L h' ((q, tupB x t y) :: news) → (∀ p ∈ news, p.1 < q) → Q (.ref q) { s with heap := h', toks := tk' }) :
    wpAny (model prog w) (ktrTop dp un gd cn cs L a ccd cl outer) (call (.ref f) vs) Q E s :=
  C prog p loose mean mg mb dp un gd cn cs a ccd cl outer A₀ base h₀ L m s Q E B F X N T hk hd hu fun r n h' tk' ⟨q, t, e, e2, l⟩ F' N' => by subst e; subst e2; exact h q t h' tk' F' N' l
theorem endTB {x x' : Int} {y y' : Bool} {q : Addr} {t : Tok} {h' : Heap} {tk' : Nat} {news' : Led}
    (hret : ∀ (r : Value) (news' : Led) (h' : Heap) (tk' : Nat), RTB news x y r news' → Fr h₀ L h' m → News h₀ L h' news' → Q r { s with heap := h', toks := tk' })
    (F : Fr h₀ L h' m) (N : News h₀ L h' ((q, tupB x' t y') :: news')) (hs : ∀ p ∈ news, p ∈ news') (l : ∀ p ∈ news, p.1 < q) (e1 : x' = x) (e2 : y' = y) : Q (.ref q) { s with heap := h', toks := tk' } := by
  subst e1; subst e2
  exact hret _ _ _ _ ⟨q, t, rfl, rfl, l⟩ F fun p hp => N p (by
    rcases List.mem_cons.mp hp with rfl | hp
    · exact .head _
    · exact .tail _ (hs p hp))
end
noncomputable def zone (n : Bool) (d : Int) : Int := if n then rowM d else rowP d
theorem zone_facts (n : Bool) {d : Int} (h0 : 0 ≤ d) (h1 : d ≤ 9) : 0 ≤ zone n d ∧ zone n d ≤ 255 ∧ (#[123, 65, 66, 67, 68, 69, 70, 71, 72, 73] : Array UInt8).contains (zone n d).toNat.toUInt8 = !n
   ∧ (n = false → Builtin.Bytes.find? #[123, 65, 66, 67, 68, 69, 70, 71, 72, 73] #[(zone n d).toNat.toUInt8] 0 (#[123, 65, 66, 67, 68, 69, 70, 71, 72, 73] : Array UInt8).size = some d.toNat)
   ∧ (n = true → (#[125, 74, 75, 76, 77, 78, 79, 80, 81, 82] : Array UInt8).contains (zone n d).toNat.toUInt8 = true ∧ Builtin.Bytes.find? #[125, 74, 75, 76, 77, 78, 79, 80, 81, 82] #[(zone n d).toNat.toUInt8] 0 (#[125, 74, 75, 76, 77, 78, 79, 80, 81, 82] : Array UInt8).size = some d.toNat) := by
  obtain ⟨k, rfl⟩ := Int.eq_ofNat_of_zero_le h0
  have hk : k < 10 := by lia
  clear h0 h1
  revert hk
  revert k
  cases n <;> decide +kernel
end SOgK0
section SOgK
open PySem PySem.W PyProof.Rows PySem.Calls
set_option maxRecDepth 100000
set_option maxHeartbeats 1000000

theorem rs_OgK : True := by
  w_top off
  trivial
namespace GSOgK
theorem secOgK : True := trivial
end GSOgK
open GSOgK
theorem wd19 : True := by
  k_with "compareOp In int bytes" => ((guard_expr secOgK =ₛ secOgK); (k_here; (with_reducible show wpAny _ _ (compareOp CmpOp.In (Value.int _ _) (Value.bytes _ _)) _ _ _); (refine in_bytes _ _ _ _ (by omega) (by omega) ?_); (try rw [show Array.contains _ _ = _ from by assumption])))
  k_with "getMethod bytes" => ((guard_expr secOgK =ₛ secOgK); (k_here; (with_reducible show wpAny _ _ (getMethod (Value.bytes _ _) _ _) _ _ _); (refine bgetM ?_)))
  k_with "call builtin:bytes.index" => ((guard_expr secOgK =ₛ secOgK); (k_here; (with_reducible show wpAny _ _ (call (Value.builtin _) [Value.bytes _ _, Value.int _ _]) _ _ _); (refine bindex_K _ _ _ _ _ (by omega) (by omega) (by assumption) (by decide) ?_)))
  trivial
theorem sfigP_spec (w : World) (news : Led) (c : Int) (d : Nat) (t : Tok) (h0 : 0 ≤ c) (h9 : c ≤ 255) (hc : (#[123, 65, 66, 67, 68, 69, 70, 71, 72, 73] : Array UInt8).contains c.toNat.toUInt8 = true) 
   (hd : Builtin.Bytes.find? #[123, 65, 66, 67, 68, 69, 70, 71, 72, 73] #[c.toNat.toUInt8] 0 (#[123, 65, 66, 67, 68, 69, 70, 71, 72, 73] : Array UInt8).size = some d) : Ct w 288 1 8 news [.int c t] (RTB news d false) := by
  unfold Ct
  intro prog p loose mean mg mb dp un gd cn cs aa ccd cl outer A₀ base h₀ L m s Q E B F X N T hk hdp hun hret

  ktr_call [("code", .int c t)] 288
  k_steps
  exact endTB hret (by k_asm) (by k_asm) (by kcj_all) (by cell_step) rfl rfl
theorem sfigM_spec (w : World) (news : Led) (c : Int) (d : Nat) (t : Tok) (h0 : 0 ≤ c) (h9 : c ≤ 255) (hc : (#[123, 65, 66, 67, 68, 69, 70, 71, 72, 73] : Array UInt8).contains c.toNat.toUInt8 = false) (hc2 : (#[125, 74, 75, 76, 77, 78, 79, 80, 81, 82] : Array UInt8).contains c.toNat.toUInt8 = true)
   (hd : Builtin.Bytes.find? #[125, 74, 75, 76, 77, 78, 79, 80, 81, 82] #[c.toNat.toUInt8] 0 (#[125, 74, 75, 76, 77, 78, 79, 80, 81, 82] : Array UInt8).size = some d) : Ct w 288 1 8 news [.int c t] (RTB news d true) := by
  unfold Ct
  intro prog p loose mean mg mb dp un gd cn cs aa ccd cl outer A₀ base h₀ L m s Q E B F X N T hk hdp hun hret

  ktr_call [("code", .int c t)] 288
  k_steps
  exact endTB hret (by k_asm) (by k_asm) (by kcj_all) (by cell_step) rfl rfl
theorem sfig_spec (w : World) (news : Led) (n : Bool) (c d : Int) (t : Tok) (h0 : 0 ≤ d) (h1 : d ≤ 9) (hz : c = zone n d) : Ct w 288 1 8 news [.int c t] (RTB news d n) := by
  subst hz
  obtain ⟨a, b, e, f, g⟩ := zone_facts n h0 h1
  have hdd : ((d.toNat : Nat) : Int) = d := by lia
  cases n
  · have := sfigP_spec w news _ _ t a b e (f rfl)
    rw [hdd] at this
    exact this
  · have := sfigM_spec w news _ _ t a b e (g rfl).1 (g rfl).2
    rw [hdd] at this
    exact this
end SOgK
section SOgCompB
open PySem PySem.W PyProof.Rows PySem.Calls PyProof.Rows.LCg
set_option maxRecDepth 100000
section
variable {prog : Program} {w : World} {A : Around} {E : Value → Shared → Prop} {s : Shared} {h₀ : Heap} {L : Addr} {m : Str → Option Value} {env : Env}
noncomputable def SrcBy (prog : Program) (w : World) (A : Around) (h₀ : Heap) (L : Addr) (m : Str → Option Value) (env : Env) (elt : Expr) (x : Str) (scope : Scope) (cl : List (Str × Addr)) (Fin : Shared → List Value → List (Addr × Obj) → Prop) (xv : Value) (s₁ : Shared) : Prop :=
  ∃ (ks : List Int) (tb : Tok) (news : Led), (∃ b, xv = .bytes b tb ∧ KBw.bInts b = ks) ∧ A.handled = none ∧ Fr h₀ L s₁.heap m ∧ News h₀ L s₁.heap news ∧ ks.length ≤ sizeLine ∧
    ∀ g : Heap, CompRest prog w A h₀ L m env elt x scope cl { s₁ with heap := g } (fun _ => True) (fun i v => ∃ k t, ks[i]? = some k ∧ v = .int k t) (Fin { s₁ with heap := g }) ks.length 0 [] news
theorem ListComp_bytes {elt iter : Expr} {x : Str} {px : Pos} {scope : Scope} {cl : List (Str × Addr)} {pos : Pos} {Q : Value → Shared → Prop} (F₀ : Fr h₀ L s.heap m)
    (hclos : closureFor scope env = pure cl) (hcell : ∀ y ∈ scope.names, y.2 ≠ .cell) (hkind : scope.kind = .function)
    (hnames : ∀ y ∈ scope.names, y.2 = .local → scope.names.lookup y.1 = some .local) (hx : scope.names.lookup x = some .local)
    (h : wpAny (model prog w) A (eval iter env) (SrcBy prog w A h₀ L m env elt x scope cl (fun s₂ => FinE h₀ L m s₂ Q)) E s)
    (hs : ∀ x, foldedSetIterable iter env x = pure x := by intro _; rfl) :
    wpAny (model prog w) A (eval (.ListComp elt [⟨.Name x px, iter, [], 0⟩] scope pos) env) Q E s := by
  rw [eval_ListComp]
  refine wpAny_comprehension_free (use := none) rfl hs hclos hkind hnames (wpAny_mono h (fun xv s₁ h₁ => ?_) fun _ _ e => e)
  obtain ⟨ks, tb, news, ⟨b, rfl, rfl⟩, hh, F, N, hsz, R⟩ := h₁
  refine KBw.pyIter_bytes ?_
  have W := KBw.walks (prog := prog) (w := w) hh s₁.heap.objs.size b tb
  let W' : Walks prog w A s₁.heap.objs.size [s₁.heap.objs.size] [s₁.heap.objs.size] (KBw.bInts b).length (fun i v => ∃ k t, (KBw.bInts b)[i]? = some k ∧ v = .int k t) (fun i h => KBw.IsBytesIter h s₁.heap.objs.size b tb i) :=
    { sub := W.sub, frame := W.frame, done := by rw [KBw.ints_length]; exact W.done, self := W.self,
      item := fun i s Q E hi st hQ => W.item i s Q E (by rw [← KBw.ints_length]; exact hi) st fun v h' tk hP => hQ v h' tk (by obtain ⟨c, u, hc, e⟩ := hP; exact ⟨_, u, KBw.ints_get hc, e⟩) }
  refine block_U W' hsz (fun i h ⟨o, st, _⟩ => ⟨_, st⟩) (fun i h h' o nw st e e' _ _ _ => ?_) hcell hkind hx ?_ (fun b hb => ?_)
    (F.keeps fun _ _ e => Heap.get?_push_of_some _ e) (N.grown fun _ _ e => Heap.get?_push_of_some _ e) (Nat.ne_of_lt F.ns.lt) (next_is_new F) (fun p hp => Nat.ne_of_lt (Heap.lt_size (N p hp).1)) trivial (R _) ?_
  · obtain ⟨o', st, r⟩ := st
    rw [e] at st; cases st
    exact ⟨o, e', r⟩
  · exact ⟨_, Heap.get?_push_size _ rfl, rfl, rfl⟩
  · rw [List.mem_singleton.mp hb]
    show s₁.heap.objs.size < (s₁.heap.push _).objs.size
    rw [Heap.size_push]; exact Nat.lt_succ_self _
  · intro D C h tk m' ys news' F' N' o1 hn hC₀ hD₀ hCL hDL hCD offC fin
    refine ⟨m', hn, fun h'' hs'' => fin D h'' tk (F'.change hs'' hCL hC₀) (fun p hp => ?_) o1⟩
    refine ⟨hs''.extBut _ _ ?_ (N' p hp).1, (N' p hp).2⟩
    rcases List.mem_cons.mp hp with rfl | hp
    · exact Ne.symm hCD
    · exact offC p hp
end
end SOgCompB
set_option hygiene false in
local macro_rules | `(tactic| cell_ask ($u:ident, $C:term)) => `(tactic| (k_dflt (refine' $u ?kC ?k1 ?k2 ?k3 ?k4 ?k5 ?kK ?kd ?ku ?_; k_extra "ask five"; (case kC => exact $C); k_extra "ask rest")))
theorem wd20 : True := by
  k_with "eval ListComp" => (k_here; k_dflt (refine ListComp_bytes (F₀ := by k_asm) (by with_unfolding_all rfl) (by decide) (by rfl) (by decide) (by rfl) ?_))
  k_with "SrcBy" => (refine og_wrap ?_)
  k_with "subscriptTail Name Slice ref ref" => (k_here; (with_reducible show wpAny _ _ (subscriptTail _ (PySem.Expr.Slice _ _ none _) (Value.ref _) (Value.ref _)) _ _ _); k_dflt (refine' kmk_slice_ints ?Fz70 ?Nz70 ?lz70 ?pz70 ?qz70 ?iz70 ?mz70 ?cz70 ?_ ?sz70 ?tz70 ?zz70; (case Fz70 => k_asm); (case Nz70 => k_asm); (case lz70 => (refine' News.isList ?laz70 ?lbz70; (case laz70 => k_asm); (case lbz70 => k_mem))); (case pz70 => kmk_part); (case qz70 => kmk_part); (case iz70 => assumption); (case mz70 => first | exact kmk_from (by assumption) (by omega) | exact kmk_upto (by assumption) (by omega) | exact kmk_upto_neg (by assumption) (by omega)); (case cz70 => kmk_len); (case sz70 => with_unfolding_all rfl); (case tz70 => kmk_pure); (case zz70 => first | assumption | exact size_ok (by assumption) (by first | assumption | omega))); intro D'z70 ws'z70 h'z70 F'z70 N'z70 l1z70 hI'z70 hC'z70 hL'z70; (try k_lt l1z70); (try k_sweep))
  k_with "call ref" => (k_here; (with_reducible show wpAny _ _ (call (Value.ref 281) _) _ _ _); cell_ask (useI, (joinf_spec _ _ _ _ _ _ (by k_mem) (by assumption) (by assumption))); intro t9z71 h9z71 tk9z71 F9z71 N9z71; (try k_sweep); (try dsimp only); (try k_fold))
  trivial
section SOgL
open PySem PySem.W PyProof.Rows PySem.Calls
set_option maxRecDepth 100000
set_option maxHeartbeats 1000000

theorem rs_OgL : True := by
  w_top off
  trivial
theorem place_spec (w : World) (news : Led) (x dx : Addr) (k v : Nat → Tok) (digits scale size : Int) (usage sign : Str) (sep signed : Bool) (h1 : (x, instObj 204 dx) ∈ news) (h2 : (dx, shD w k v digits scale size usage sign sep signed) ∈ news)
    (hu : (usage == Str.ofString "display") = true) : Ct w 201 1 8 news [.ref x] (RI news (if signed then (if (sign == Str.ofString "leading") then 0 else size - 1) else -1)) := by
  unfold Ct
  intro prog p loose mean mg mb dp un gd cn cs aa ccd cl outer A₀ base h₀ L m s Q E B F X N T hk hdp hun hret

  ktr_call [("self", .ref x)] 201
  k_steps
  all_goals exact endI hret (by k_asm) (by k_asm) (by kcj_all) (by simp_all)
theorem placeP_spec (w : World) (news : Led) (x dx : Addr) (k v : Nat → Tok) (digits scale size : Int) (usage sign : Str) (sep signed : Bool) (h1 : (x, instObj 204 dx) ∈ news) (h2 : (dx, shD w k v digits scale size usage sign sep signed) ∈ news)
    (hu : (usage == Str.ofString "display") = true) (pl : Int) (hp : (if signed then (if (sign == Str.ofString "leading") then 0 else size - 1) else -1) = pl) : Ct w 201 1 8 news [.ref x] (RI news pl) := by
  rw [← hp]; exact place_spec w news x dx k v digits scale size usage sign sep signed h1 h2 hu
theorem dispuU_spec (w : World) (news : Led) (x dx : Addr) (k v : Nat → Tok) (digits scale size : Int) (usage sign : Str) (sep signed : Bool) (h1 : (x, instObj 204 dx) ∈ news) (h2 : (dx, shD w k v digits scale size usage sign sep signed) ∈ news)
    (hu : (usage == Str.ofString "display") = true)  (hp : (if signed then (if (sign == Str.ofString "leading") then 0 else size - 1) else -1) = (-1 : Int))
    (ks : List Int) (hks : KBw.bInts (byteArr ks) = ks) (hkl : ks.length ≤ 100) (t : Tok) (hr : ∀ d ∈ ks.map (fun z => z - 48), 0 ≤ d ∧ d ≤ 9) : Ct w 293 2 16 news [.ref x, .bytes (byteArr ks) t] (RI news (joinF (ks.map (fun z => z - 48)))) := by
  unfold Ct
  intro prog p loose mean mg mb dp un gd cn cs aa ccd cl outer A₀ base h₀ L m s Q E B F X N T hk hdp hun hret

  ktr_call [("shape", .ref x), ("octets", .bytes (byteArr ks) t)] 293
  k_steps
  unfold OgW
  refine ⟨ks, _, news, ⟨_, rfl, hks⟩, rfl, by k_asm, by k_asm, by rw [PySem.sizeLine_eq]; lia, fun g9 => kcf_rest (ks := ks) (fun z => z - 48) rfl (fun _ _ _ h => h) (fun k t I oI C oC D m₂ ys h tk E' hk hC hx F N off ne mk => ?_) ?_⟩
  · k_steps
    exact LCg.CompEnd.intro (by k_asm) (by k_asm) _ (fun _ h => h) off trivial ⟨rfl, _, rfl⟩
  · unfold KPfDone LCg.FinE
    intro ys hys D h9 tk9 F9 N9 o9
    have hne : ∀ p ∈ news, p.1 ≠ D := off1_all o9
    have hsz := size_ok hys (by rw [List.length_map]; lia)

    k_steps
    (show wpAny _ _ (call (Value.ref 201) [Value.ref x]) _ _ _)
    cell_ask (useI, (placeP_spec _ _ _ _ _ _ _ _ _ _ _ _ _ (by k_mem) (by k_mem) (by assumption) _ (by with_reducible assumption)))
    intro t9 h9 tk9 F9 N9
    k_steps
    exact endI hret (by k_asm) (by k_asm) (by kcj_all) rfl
theorem dispuS_spec (w : World) (news : Led) (x dx : Addr) (k v : Nat → Tok) (digits scale size : Int) (usage sign : Str) (sep signed : Bool) (h1 : (x, instObj 204 dx) ∈ news) (h2 : (dx, shD w k v digits scale size usage sign sep signed) ∈ news)
    (hu : (usage == Str.ofString "display") = true)  (pl : Int) (hp : (if signed then (if (sign == Str.ofString "leading") then 0 else size - 1) else -1) = pl) (hsep : sep = true) (hp0 : 0 ≤ pl)
    (ks : List Int) (hks : KBw.bInts (byteArr ks) = ks) (hkl : ks.length ≤ 100) (hp1 : pl < (ks.length : Int)) (neg : Bool) (hs : ks.getD pl.toNat 0 = if neg then 45 else 43) (t : Tok)
    (hr : ∀ d ∈ (ks.map (fun z => z - 48)).take pl.toNat ++ (ks.map (fun z => z - 48)).drop (pl + 1).toNat, 0 ≤ d ∧ d ≤ 9) : Ct w 293 2 16 news [.ref x, .bytes (byteArr ks) t] (RI news (if neg then 0 - joinF ((ks.map (fun z => z - 48)).take pl.toNat ++ (ks.map (fun z => z - 48)).drop (pl + 1).toNat) else joinF ((ks.map (fun z => z - 48)).take pl.toNat ++ (ks.map (fun z => z - 48)).drop (pl + 1).toNat))) := by
  subst hsep
  unfold Ct
  intro prog p loose mean mg mb dp un gd cn cs aa ccd cl outer A₀ base h₀ L m s Q E B F X N T hk hdp hun hret

  ktr_call [("shape", .ref x), ("octets", .bytes (byteArr ks) t)] 293
  k_steps
  unfold OgW
  refine ⟨ks, _, news, ⟨_, rfl, hks⟩, rfl, by k_asm, by k_asm, by rw [PySem.sizeLine_eq]; lia, fun g9 => kcf_rest (ks := ks) (fun z => z - 48) rfl (fun _ _ _ h => h) (fun k t I oI C oC D m₂ ys h tk E' hk hC hx F N off ne mk => ?_) ?_⟩
  · k_steps
    exact LCg.CompEnd.intro (by k_asm) (by k_asm) _ (fun _ h => h) off trivial ⟨rfl, _, rfl⟩
  · unfold KPfDone LCg.FinE
    intro ys hys D h9 tk9 F9 N9 o9
    have hne : ∀ p ∈ news, p.1 ≠ D := off1_all o9
    have hsz := size_ok hys (by rw [List.length_map]; lia)

    have hs2 : ks.getD pl.toNat 0 = if neg then 45 else 43 := hs
    k_steps
    (show wpAny _ _ (call (Value.ref 201) [Value.ref x]) _ _ _)
    cell_ask (useI, (placeP_spec _ _ _ _ _ _ _ _ _ _ _ _ _ (by k_mem) (by k_mem) (by assumption) _ (by with_reducible assumption)))
    intro t9 h9 tk9 F9 N9
    k_steps
    all_goals cases neg
    all_goals simp only [if_true, Bool.false_eq_true, if_false] at hs2
    all_goals first
      | (exfalso; lia)
      | exact endI hret (by k_asm) (by k_asm) (by kcj_all) rfl
end SOgL
section SOgL2
open PySem PySem.W PyProof.Rows PySem.Calls
set_option maxRecDepth 100000
set_option maxHeartbeats 1000000

theorem rs_OgL2 : True := by
  w_top off
  trivial
theorem sfigQ_spec (w : World) (news : Led) (n : Bool) (c d : Int) (t : Tok) (hz : c = zone n d) (h0 : 0 ≤ d) (h1 : d ≤ 9) : Ct w 288 1 8 news [.int c t] (RTB news d n) := sfig_spec w news n c d t h0 h1 hz
namespace GSOgL2
theorem secOgL2 : True := trivial
end GSOgL2
open GSOgL2
theorem wd21 : True := by
  k_with "call ref" => ((guard_expr secOgL2 =ₛ secOgL2); (k_here; (with_reducible show wpAny _ _ (call (Value.ref 288) _) _ _ _); cell_ask (useTB, (sfigQ_spec _ _ _ _ _ _ (by with_reducible assumption) (by with_reducible assumption) (by with_reducible assumption))); intro q9z72 t9z72 h9z72 tk9z72 F9z72 N9z72 l9z72; (try k_lt l9z72); (try k_sweep); (try dsimp only); (try k_fold)))
  trivial
theorem dispuZ_spec (w : World) (news : Led) (x dx : Addr) (k v : Nat → Tok) (digits scale size : Int) (usage sign : Str) (sep signed : Bool) (h1 : (x, instObj 204 dx) ∈ news) (h2 : (dx, shD w k v digits scale size usage sign sep signed) ∈ news)
    (hu : (usage == Str.ofString "display") = true)  (pl : Int) (hp : (if signed then (if (sign == Str.ofString "leading") then 0 else size - 1) else -1) = pl) (hsep : sep = false) (hp0 : 0 ≤ pl)
    (ks : List Int) (hks : KBw.bInts (byteArr ks) = ks) (hkl : ks.length ≤ 100) (hp1 : pl < (ks.length : Int)) (neg : Bool) (d : Int) (hd0 : 0 ≤ d) (hd1 : d ≤ 9) (hs : ks.getD pl.toNat 0 = zone neg d) (t : Tok)
    (hr : ∀ d' ∈ (ks.map (fun z => z - 48)).set pl.toNat d, 0 ≤ d' ∧ d' ≤ 9) : Ct w 293 2 16 news [.ref x, .bytes (byteArr ks) t] (RI news (if neg then 0 - joinF ((ks.map (fun z => z - 48)).set pl.toNat d) else joinF ((ks.map (fun z => z - 48)).set pl.toNat d))) := by
  subst hsep
  unfold Ct
  intro prog p loose mean mg mb dp un gd cn cs aa ccd cl outer A₀ base h₀ L m s Q E B F X N T hk hdp hun hret

  ktr_call [("shape", .ref x), ("octets", .bytes (byteArr ks) t)] 293
  k_steps
  unfold OgW
  refine ⟨ks, _, news, ⟨_, rfl, hks⟩, rfl, by k_asm, by k_asm, by rw [PySem.sizeLine_eq]; lia, fun g9 => kcf_rest (ks := ks) (fun z => z - 48) rfl (fun _ _ _ h => h) (fun k t I oI C oC D m₂ ys h tk E' hk hC hx F N off ne mk => ?_) ?_⟩
  · k_steps
    exact LCg.CompEnd.intro (by k_asm) (by k_asm) _ (fun _ h => h) off trivial ⟨rfl, _, rfl⟩
  · unfold KPfDone LCg.FinE
    intro ys hys D h9 tk9 F9 N9 o9
    have hne : ∀ p ∈ news, p.1 ≠ D := off1_all o9
    have hsz := size_ok hys (by rw [List.length_map]; lia)

    k_steps
    (show wpAny _ _ (call (Value.ref 201) [Value.ref x]) _ _ _)
    cell_ask (useI, (placeP_spec _ _ _ _ _ _ _ _ _ _ _ _ _ (by k_mem) (by k_mem) (by assumption) _ (by with_reducible assumption)))
    intro t9 h9 tk9 F9 N9
    k_steps

    all_goals exact endI hret (by k_asm) (by k_asm) (by kcj_all) (by simp_all)
end SOgL2
section SOgL3
open PySem PySem.W PyProof.Rows PySem.Calls
set_option maxRecDepth 100000
theorem map48 (ds : List Int) : (ds.map (48 + ·)).map (fun z => z - 48) = ds := by
  rw [List.map_map]
  conv => rhs; rw [← List.map_id ds]
  apply List.map_congr_left
  intro a _
  show 48 + a - 48 = a
  lia
theorem disp_in {ds : List Int} {neg lead sep signed : Bool} (hds : ∀ d ∈ ds, 0 ≤ d ∧ d ≤ 9) : KBa.In (dispO ds neg lead sep signed) := by
  have h48 := in_map48 hds
  have hg : ∀ i, 0 ≤ ds.getD i 0 ∧ ds.getD i 0 ≤ 9 := fun i => by
    by_cases h : i < ds.length
    · apply hds; simp [h]
    · simp [List.getD, List.getElem?_eq_none (Nat.le_of_not_lt h)]
  have hz : ∀ i, 0 ≤ (if neg then rowM (ds.getD i 0) else rowP (ds.getD i 0)) ∧ (if neg then rowM (ds.getD i 0) else rowP (ds.getD i 0)) < 256 := fun i => by
    have := hg i
    unfold rowM rowP
    split <;> split <;> lia
  unfold dispO
  split
  · exact h48
  split
  · split
    · exact in_app (in_one (by split <;> decide) (by split <;> decide)) h48
    · exact in_app h48 (in_one (by split <;> decide) (by split <;> decide))
  split
  · exact in_set h48 _ (hz _).1 (hz _).2
  · exact in_set h48 _ (hz _).1 (hz _).2
theorem set_back (ds : List Int) (i : Nat) (z : Int) (hi : i < ds.length) : (((ds.map (48 + ·)).set i z).map (fun z => z - 48)).set i (ds.getD i 0) = ds := by
  rw [List.map_set, map48, List.set_set]
  have : ds.getD i 0 = ds[i] := by simp [hi]
  rw [this, List.set_getElem_self]
theorem set_at (ds : List Int) (i : Nat) (z : Int) (hi : i < ds.length) : ((ds.map (48 + ·)).set i z).getD i 0 = z := by
  simp [hi]
theorem dispu_spec (w : World) (news : Led) (x dx : Addr) (k v : Nat → Tok) (digits scale size : Int) (usage sign : Str) (sep signed : Bool) (h1 : (x, instObj 204 dx) ∈ news) (h2 : (dx, shD w k v digits scale size usage sign sep signed) ∈ news)
    (hu : (usage == Str.ofString "display") = true) (ds : List Int) (neg : Bool) (hds : ∀ d ∈ ds, 0 ≤ d ∧ d ≤ 9) (hl0 : 1 ≤ ds.length) (hl : ds.length ≤ 18) (hneg : signed = false → neg = false)
    (hsz : size = (ds.length : Int) + (if signed = true ∧ sep = true then 1 else 0)) (t : Tok) :
    Ct w 293 2 16 news [.ref x, .bytes (byteArr (dispO ds neg (sign == Str.ofString "leading") sep signed)) t] (RI news (if neg then 0 - joinF ds else joinF ds)) := by
  have hin := disp_in (neg := neg) (lead := (sign == Str.ofString "leading")) (sep := sep) (signed := signed) hds
  have hks := KBa.ints_make hin
  have hzn : ∀ d, (if neg then rowM d else rowP d) = zone neg d := fun d => rfl
  have hm0 : ∀ i, i < ds.length → 0 ≤ ds.getD i 0 ∧ ds.getD i 0 ≤ 9 := fun i h => by apply hds; simp [h]
  generalize hlead : (sign == Str.ofString "leading") = lead at hin hks ⊢
  cases signed
  · have hd : dispO ds neg lead sep false = ds.map (48 + ·) := rfl
    rw [hd] at hin hks ⊢
    rw [hneg rfl]
    have C := dispuU_spec w news x dx k v digits scale size usage sign sep false h1 h2 hu rfl (ds.map (48 + ·)) hks (by simp; lia) t (by rw [map48]; exact hds)
    rw [map48] at C
    exact C
  · cases sep
    · cases lead
      · have hd : dispO ds neg false false true = (ds.map (48 + ·)).set (ds.length - 1) (if neg then rowM (ds.getD (ds.length - 1) 0) else rowP (ds.getD (ds.length - 1) 0)) := rfl
        have hi : ds.length - 1 < ds.length := by lia
        have hp : (size - 1).toNat = ds.length - 1 := by simp at hsz; lia
        rw [hd] at hin hks ⊢
        have C := dispuZ_spec w news x dx k v digits scale size usage sign false true h1 h2 hu (size - 1) (by rw [hlead]; rfl) rfl (by simp at hsz; lia) _ hks (by simp; lia) (by simp at hsz ⊢; lia) neg (ds.getD (ds.length - 1) 0) (hm0 _ hi).1 (hm0 _ hi).2 (by rw [hp, set_at _ _ _ hi]; rfl) t
          (by rw [hp, set_back _ _ _ hi]; exact hds)
        rw [hp, set_back _ _ _ hi] at C
        exact C
      · have hd : dispO ds neg true false true = (ds.map (48 + ·)).set 0 (if neg then rowM (ds.getD 0 0) else rowP (ds.getD 0 0)) := rfl
        have hi : 0 < ds.length := by lia
        rw [hd] at hin hks ⊢
        have C := dispuZ_spec w news x dx k v digits scale size usage sign false true h1 h2 hu 0 (by rw [hlead]; rfl) rfl (by lia) _ hks (by simp; lia) (by simp; lia) neg (ds.getD 0 0) (hm0 _ hi).1 (hm0 _ hi).2 (by rw [show (0 : Int).toNat = 0 from rfl, set_at _ _ _ hi]; rfl) t
          (by rw [show (0 : Int).toNat = 0 from rfl, set_back _ _ _ hi]; exact hds)
        rw [show (0 : Int).toNat = 0 from rfl, set_back _ _ _ hi] at C
        exact C
    · cases lead
      · have hd : dispO ds neg false true true = ds.map (48 + ·) ++ [if neg then 45 else 43] := rfl
        have hp : (size - 1).toNat = ds.length := by simp at hsz; lia
        have hp2 : (size - 1 + 1).toNat = ds.length + 1 := by simp at hsz; lia
        have hback : ((ds.map (48 + ·) ++ [if neg then (45 : Int) else 43]).map (fun z => z - 48)).take (size - 1).toNat ++ ((ds.map (48 + ·) ++ [if neg then (45 : Int) else 43]).map (fun z => z - 48)).drop (size - 1 + 1).toNat = ds := by
          rw [List.map_append, map48, hp, hp2, List.take_left, List.drop_of_length_le (by simp), List.append_nil]
        rw [hd] at hin hks ⊢
        have C := dispuS_spec w news x dx k v digits scale size usage sign true true h1 h2 hu (size - 1) (by rw [hlead]; rfl) rfl (by simp at hsz; lia) _ hks (by simp; lia) (by simp at hsz ⊢; lia) neg (by rw [hp]; simp) t
          (by rw [hback]; exact hds)
        rw [hback] at C
        exact C
      · have hd : dispO ds neg true true true = [if neg then 45 else 43] ++ ds.map (48 + ·) := rfl
        have hback : (([if neg then (45 : Int) else 43] ++ ds.map (48 + ·)).map (fun z => z - 48)).take (0 : Int).toNat ++ (([if neg then (45 : Int) else 43] ++ ds.map (48 + ·)).map (fun z => z - 48)).drop ((0 : Int) + 1).toNat = ds := by
          rw [List.map_append, map48]; simp
        rw [hd] at hin hks ⊢
        have C := dispuS_spec w news x dx k v digits scale size usage sign true true h1 h2 hu 0 (by rw [hlead]; rfl) rfl (by lia) _ hks (by simp; lia) (by simp; try lia) neg (by simp) t
          (by rw [hback]; exact hds)
        rw [hback] at C
        exact C
end SOgL3
section SOgM
open PySem PySem.W PyProof.Rows PySem.Calls
set_option maxRecDepth 100000
set_option maxHeartbeats 1000000

theorem rs_OgM : True := by
  w_top off
  trivial
theorem bin_join {fs : List Int} {i : Nat} {a : Int} (h : fs[i]? = some a) : (fs.take (i + 1)).foldl (fun a d => 256 * a + d) 0 = 256 * (fs.take i).foldl (fun a d => 256 * a + d) 0 + a := by
  rw [List.take_add_one, h]
  simp
noncomputable def binU (ks : List Int) (signed : Bool) : Int := if signed = true ∧ 127 < ks.getD 0 0 then ks.foldl (fun a d => 256 * a + d) 0 - 256 ^ ks.length else ks.foldl (fun a d => 256 * a + d) 0
theorem binu_spec (w : World) (news : Led) (x dx : Addr) (k v : Nat → Tok) (digits scale size : Int) (usage sign : Str) (sep signed : Bool) (h1 : (x, instObj 204 dx) ∈ news) (h2 : (dx, shD w k v digits scale size usage sign sep signed) ∈ news)
    (ks : List Int) (hks : KBw.bInts (byteArr ks) = ks) (hkl : ks.length ≤ 100) (hk0 : 1 ≤ ks.length) (t : Tok) : Ct w 307 2 16 news [.ref x, .bytes (byteArr ks) t] (RI news (binU ks signed)) := by
  unfold Ct
  intro prog p loose mean mg mb dp un gd cn cs aa ccd cl outer A₀ base h₀ L m s Q E B F X N T hk hdp hun hret

  ktr_call [("shape", .ref x), ("octets", .bytes (byteArr ks) t)] 307
  k_steps
  unfold OgW
  rename News _ _ _ _ => N1
  refine og_bytes (σ := Int × Tok) (fun _ => news) (fun c => [("found", .int c.1 c.2)]) (fun i c => c.1 = (ks.take i).foldl (fun a d => 256 * a + d) 0) (0, _) rfl hks (by k_asm) N1 (by kst_all) rfl ?_ ?_
  · rintro ⟨r, tr⟩ i a ta h tk I oI ha hP hni F1 N2
    dsimp only at hP F1
    k_steps
    refine' og_end (256 * r + a, _) (by k_asm) (by k_asm) (.head _) (fun _ h => .tail _ h) ?oga ?ogb ?ogc ?ogd
    case oga => exact hni
    case ogb => kst_all
    case ogc => ksw_same
    case ogd => (show 256 * r + a = _; rw [bin_join ha, hP])
  · rintro ⟨r, tr⟩ uu h tk hP F1 N2
    dsimp only at hP F1
    rw [List.take_length] at hP
    have hpow : (256 : Int) ^ (ks.length : Int).toNat = 256 ^ ks.length := rfl
    k_steps
    all_goals refine endI hret (by k_asm) (by k_asm) (by kcj_all) ?_
    all_goals
      unfold binU
      rw [← hP]
      try rw [hpow]
      simp_all
      try lia
end SOgM
section SOgN
open PySem PySem.W PyProof.Rows PySem.Calls
set_option maxRecDepth 100000
set_option maxHeartbeats 1000000

theorem rs_OgN : True := by
  w_top off
  trivial
noncomputable def halvesOf (ks : List Int) : List Int := ks.flatMap fun c => [c.fdiv 16, c.fmod 16]
theorem halves_take {ks : List Int} {i : Nat} {a : Int} (h : ks[i]? = some a) : halvesOf (ks.take (i + 1)) = halvesOf (ks.take i) ++ [a.fdiv 16, a.fmod 16] := by
  rw [List.take_add_one, h]
  simp [halvesOf]
theorem halves_len : ∀ (ks : List Int), (halvesOf ks).length = 2 * ks.length
  | [] => rfl
  | k :: ks => by
    have := halves_len ks
    simp only [halvesOf, List.flatMap_cons, List.length_append, List.length_cons, List.length_nil] at this ⊢
    lia
theorem lt_snd3 {a b c q : Addr} {news : Led} (h : @LT.lt Nat _ a q ∧ @LT.lt Nat _ b q ∧ @LT.lt Nat _ c q ∧ AllLt q news) : @LT.lt Nat _ b q := h.2.1
theorem sub4 {a b c d : Addr × Obj} {l : Led} : ∀ p ∈ a :: l, p ∈ a :: b :: c :: d :: l := fun p hp => by
  rcases List.mem_cons.mp hp with rfl | hp
  · exact .head _
  · exact .tail _ (.tail _ (.tail _ (.tail _ hp)))
theorem packu_spec (w : World) (news : Led) (x dx : Addr) (k v : Nat → Tok) (digits scale size : Int) (usage sign : Str) (sep signed : Bool) (h1 : (x, instObj 204 dx) ∈ news) (h2 : (dx, shD w k v digits scale size usage sign sep signed) ∈ news)
    (ks : List Int) (hks : KBw.bInts (byteArr ks) = ks) (hkl : ks.length ≤ 100) (fs : List Int) (mk : Int) (hv : halvesOf ks = fs ++ [mk]) (hr : ∀ d ∈ fs, 0 ≤ d ∧ d ≤ 9) (hm : if signed then mk = 12 ∨ mk = 13 else mk = 15) (t : Tok) : Ct w 300 2 16 news [.ref x, .bytes (byteArr ks) t] (RI news (if mk = 13 then 0 - joinF fs else joinF fs)) := by
  unfold Ct
  intro prog p loose mean mg mb dp un gd cn cs aa ccd cl outer A₀ base h₀ L m s Q E B F X N T hk hdp hun hret

  ktr_call [("shape", .ref x), ("octets", .bytes (byteArr ks) t)] 300
  k_steps
  unfold OgW
  rename News _ _ _ _ => N1
  refine' og_name0 N1 (fun D e => ?_); subst e
  have hne0 : ∀ p ∈ news, p.1 < D := by cell_step
  refine og_bytes (σ := Addr × List Value × Nat) (fun c => (c.1, listOf c.2.1.toArray c.2.2) :: news) (fun c => [("halves", .ref c.1)]) (fun i c => IntsAre c.2.1 (halvesOf (ks.take i)) ∧ ∀ p ∈ news, p.1 < c.1) (D, [], 0) rfl hks (by k_asm) N1 (by kst_all) ⟨.nil, hne0⟩ ?_ ?_
  · rintro ⟨q, vs, nn⟩ i a ta h tk I oI ha hP hni F1 N2
    obtain ⟨hi, hq⟩ := hP
    dsimp only at hi hq hni F1 N2
    have hln : (halvesOf (ks.take i)).length ≤ 200 := by
      rw [halves_len, List.length_take]; lia
    k_steps
    rename News _ _ _ _ => N3
    rename IntsAre _ _ => hI3
    refine' og_name0 N3 (fun D2 e => ?_); subst e
    have hD2 : ∀ p ∈ news, p.1 < D2 := by cell_step
    have hID : I < D2 := lt_snd3 (by assumption)
    refine' og_end (D2, _, _) (by k_asm) N3 (by k_mem) sub4 ?oga ?ogb ?ogc ?ogd
    case oga => exact og_ne_cons (Nat.ne_of_gt hID) fun p hp => hni p (.tail _ hp)
    case ogb => kst_all
    case ogc => ksw_same
    case ogd => exact ⟨by rw [halves_take ha]; exact hI3, hD2⟩
  · rintro ⟨q, vs, nn⟩ uu h tk ⟨hi, hq⟩ F1 N2
    dsimp only at hi hq F1 N2
    rw [List.take_length, hv] at hi
    have hfl : fs.length + 1 = 2 * ks.length := by rw [← halves_len, hv]; simp
    have hsz := size_ok hi (by simp; lia)
    have htk : (fs ++ [mk]).take ((fs ++ [mk]).length - (- (-1 : Int)).toNat) = fs := by
      rw [show (fs ++ [mk]).length - (- (-1 : Int)).toNat = fs.length from by simp]; simp
    have hr2 : ∀ d ∈ List.take ((fs ++ [mk]).length - (- (-1 : Int)).toNat) (fs ++ [mk]), 0 ≤ d ∧ d ≤ 9 := by rw [htk]; exact hr
    have hmk : (signed = true ∧ mk = 12) ∨ (signed = true ∧ mk = 13) ∨ (signed = false ∧ mk = 15) := by cases signed <;> simp at hm ⊢ <;> exact hm
    rcases hmk with ⟨rfl, rfl⟩ | ⟨rfl, rfl⟩ | ⟨rfl, rfl⟩
    all_goals k_steps
    all_goals exact endI hret (by k_asm) (by k_asm) (by kcj_all) (by rw [htk]; rfl)
end SOgN
section SOgQ
open PySem PySem.W PyProof.Rows PySem.Calls
set_option maxRecDepth 100000
theorem fold_start (B : Int) : ∀ (l : List Int) (a : Int), l.foldl (fun a d => B * a + d) a = a * B ^ l.length + l.foldl (fun a d => B * a + d) 0
  | [], a => by simp
  | d :: l, a => by
    simp only [List.foldl_cons, List.length_cons, Int.pow_succ]
    rw [fold_start B l (B * a + d), fold_start B l (B * 0 + d)]
    grind
theorem fold_base (B n : Int) (hB : 1 < B) : ∀ c : Nat, (((List.range c).map fun i => n / B ^ i % B).reverse).foldl (fun a d => B * a + d) 0 = n % B ^ c
  | 0 => by simp [Int.emod_one]
  | c + 1 => by
    rw [List.range_succ, List.map_append, List.reverse_append, List.map_singleton, List.reverse_singleton, List.singleton_append, List.foldl_cons, fold_start, fold_base B n hB c]
    simp only [List.length_reverse, List.length_map, List.length_range]
    have hp : (0 : Int) < B ^ c := Int.pow_pos (by lia)
    have e1 : n = B ^ c * (n / B ^ c) + n % B ^ c := (Int.mul_ediv_add_emod n (B ^ c)).symm
    have e2 : n / B ^ c = B * (n / B ^ c / B) + n / B ^ c % B := (Int.mul_ediv_add_emod _ B).symm
    have a1 := Int.emod_nonneg n (Int.ne_of_gt hp)
    have a2 := Int.emod_lt_of_pos n hp
    have b1 := Int.emod_nonneg (n / B ^ c) (show B ≠ 0 by lia)
    have b2 := Int.emod_lt_of_pos (n / B ^ c) (show 0 < B by lia)
    generalize n / B ^ c % B = r2 at *
    generalize n % B ^ c = r at *
    generalize n / B ^ c / B = q2 at *
    generalize n / B ^ c = q at *
    have h3 : B ^ c * r2 ≤ B ^ c * (B - 1) := Int.mul_le_mul_of_nonneg_left (by lia) (Int.le_of_lt hp)
    have h4 : 0 ≤ B ^ c * r2 := Int.mul_nonneg (Int.le_of_lt hp) b1
    have e3 : n = (r2 * B ^ c + r) + B ^ (c + 1) * q2 := by
      rw [e1, e2, Int.pow_succ]; grind
    have h5 : r2 * B ^ c + r < B ^ (c + 1) := by
      rw [Int.pow_succ]
      have : B ^ c * (B - 1) = B ^ c * B - B ^ c := by grind
      have : r2 * B ^ c = B ^ c * r2 := Int.mul_comm _ _
      lia
    have h6 : 0 ≤ r2 * B ^ c + r := by
      have : r2 * B ^ c = B ^ c * r2 := Int.mul_comm _ _
      lia
    rw [e3, Int.add_mul_emod_self_left, Int.emod_eq_of_lt h6 h5]
    grind
theorem joinF_figs (a : Int) (c : Nat) (h0 : 0 ≤ a) (h1 : a < 10 ^ c) : joinF (figs a c) = a := by
  unfold joinF figs
  rw [fold_base 10 a (by decide), Int.emod_eq_of_lt h0 h1]
theorem halves_pack : ∀ (n : Nat) (hs : List Int), hs.length = 2 * n → (∀ d ∈ hs, 0 ≤ d ∧ d ≤ 15) → halvesOf (packO hs n) = hs
  | 0, hs, h, _ => by
    have : hs = [] := List.length_eq_zero_iff.mp (by lia)
    subst this; rfl
  | n + 1, [], h, _ => by simp at h
  | n + 1, [a], h, _ => by simp at h; lia
  | n + 1, a :: b :: t, h, hr => by
    have ih := halves_pack n t (by simp at h; lia) fun d hd => hr d (by simp [hd])
    have e : packO (a :: b :: t) (n + 1) = (16 * a + b) :: packO t n := by
      unfold packO
      rw [List.range_succ_eq_map, List.map_cons, List.map_map]
      simp only [Nat.mul_zero, List.getD_cons_zero, Nat.zero_add, List.getD_cons_succ, List.cons.injEq, true_and]
      apply List.map_congr_left
      intro i _
      show 16 * (a :: b :: t).getD (2 * (i + 1)) 0 + (a :: b :: t).getD (2 * (i + 1) + 1) 0 = _
      rw [show 2 * (i + 1) = 2 * i + 1 + 1 by lia, List.getD_cons_succ, List.getD_cons_succ, List.getD_cons_succ, List.getD_cons_succ]
    have ha := hr a (by simp)
    have hb := hr b (by simp)
    have e1 : (16 * a + b).fdiv 16 = a := by rw [Int.fdiv_eq_ediv_of_nonneg _ (by decide)]; lia
    have e2 : (16 * a + b).fmod 16 = b := by rw [Int.fmod_eq_emod_of_nonneg _ (by decide)]; lia
    rw [e]
    show [(16 * a + b).fdiv 16, (16 * a + b).fmod 16] ++ halvesOf (packO t n) = _
    rw [ih, e1, e2]; rfl
theorem keptU_in {u : Int} {n : Nat} {sg : Bool} (h : u.natAbs < 10 ^ n) (hs : sg = false → 0 ≤ u) : keptU u n sg = u := by
  have h' : (u.natAbs : Int) < 10 ^ n := by
    have := Int.ofNat_lt.mpr h
    rw [Int.natCast_pow] at this
    exact this
  have e : (u.natAbs : Int) % 10 ^ n = u.natAbs := Int.emod_eq_of_lt (by lia) h'
  unfold keptU
  rw [e]
  cases sg
  · have := hs rfl
    simp; lia
  · by_cases hu : u < 0
    · rw [if_pos ⟨hu, rfl⟩]; lia
    · rw [if_neg (by simp [hu])]; lia
theorem binU_back (u : Int) (c : Nat) (sg : Bool) (hc : 1 ≤ c) (h : 2 * u.natAbs < 256 ^ c) (hs : sg = false → 0 ≤ u) : binU (binO (u % 256 ^ c) c) sg = u := by
  have hp : (0 : Int) < 256 ^ (c - 1) := Int.pow_pos (by decide)
  have hc1 : (256 : Int) ^ c = 256 ^ (c - 1) * 256 := by rw [← Int.pow_succ]; congr 1; lia
  have h' : 2 * (u.natAbs : Int) < 256 ^ c := by
    have := Int.ofNat_lt.mpr h
    rw [Int.natCast_pow] at this
    simpa using this
  have ht : (binO (u % 256 ^ c) c).getD 0 0 = u % 256 ^ c / 256 ^ (c - 1) % 256 := by
    unfold binO
    obtain ⟨d, rfl⟩ : ∃ d, c = d + 1 := ⟨c - 1, by lia⟩
    rw [List.range_succ, List.map_append, List.reverse_append]
    simp
  have hl : (binO (u % 256 ^ c) c).length = c := binO_length _ _
  have hf : (binO (u % 256 ^ c) c).foldl (fun a d => 256 * a + d) 0 = u % 256 ^ c := by
    unfold binO
    rw [fold_base 256 _ (by decide), Int.emod_emod_of_dvd _ (Int.dvd_refl _)]
  unfold binU
  rw [hf, hl, ht]
  generalize hM : (256 : Int) ^ (c - 1) = M at *
  rw [hc1] at h' ⊢
  have hx0 := Int.emod_nonneg u (show M * 256 ≠ 0 by lia)
  have hx1 := Int.emod_lt_of_pos u (show 0 < M * 256 by lia)
  have hX : u % (M * 256) = if u < 0 then u + M * 256 else u := by
    split
    · rw [← Int.add_emod_right, Int.emod_eq_of_lt] <;> lia
    · rw [Int.emod_eq_of_lt] <;> lia
  have hq : u % (M * 256) / M % 256 = u % (M * 256) / M := by
    apply Int.emod_eq_of_lt
    · exact Int.ediv_nonneg hx0 (by lia)
    · rw [Int.ediv_lt_iff_lt_mul hp]; lia
  rw [hq]
  have hlt : 127 < u % (M * 256) / M ↔ 128 * M ≤ u % (M * 256) := by
    rw [show (127 < u % (M * 256) / M) ↔ (128 ≤ u % (M * 256) / M) by lia, Int.le_ediv_iff_mul_le hp]
  cases sg
  · have := hs rfl
    rw [if_neg (by simp), hX, if_neg (by lia)]
  · by_cases hu : u < 0
    · rw [if_pos ⟨rfl, hlt.mpr (by rw [hX, if_pos hu]; lia)⟩, hX, if_pos hu]; lia
    · rw [if_neg (by rintro ⟨_, h⟩; have h := hlt.mp h; rw [hX, if_neg hu] at h; lia), hX, if_neg hu]
end SOgQ
section SOgR
open PySem PySem.W PyProof.Rows PySem.Calls
set_option maxRecDepth 100000
set_option maxHeartbeats 1000000

theorem rs_OgR : True := by
  w_top off
  trivial
namespace GSOgR
theorem secOgR : True := trivial
end GSOgR
open GSOgR
theorem wd22 : True := by
  k_with "call ref" => ((guard_expr secOgR =ₛ secOgR); (k_here; (with_reducible show wpAny _ _ (call (Value.ref 293) _) _ _ _); cell_ask (useI, (by assumption)); intro t9z73 h9z73 tk9z73 F9z73 N9z73; (try k_sweep); (try dsimp only); (try k_fold)))
  k_with "call ref" => ((guard_expr secOgR =ₛ secOgR); (k_here; (with_reducible show wpAny _ _ (call (Value.ref 300) _) _ _ _); cell_ask (useI, (by assumption)); intro t9z74 h9z74 tk9z74 F9z74 N9z74; (try k_sweep); (try dsimp only); (try k_fold)))
  k_with "call ref" => ((guard_expr secOgR =ₛ secOgR); (k_here; (with_reducible show wpAny _ _ (call (Value.ref 307) _) _ _ _); cell_ask (useI, (by assumption)); intro t9z75 h9z75 tk9z75 F9z75 N9z75; (try k_sweep); (try dsimp only); (try k_fold)))
  trivial
theorem abs_lt_of {u : Int} {n : Nat} (hb : decide ((u.natAbs : Int) < 10 ^ n) = true) : (if u < 0 then -u else u) < 10 ^ n := by
  have := of_decide_eq_true hb
  split <;> lia
theorem uinD_spec (w : World) (news : Led) (x dx : Addr) (k v : Nat → Tok) (digits scale size : Int) (usage sign : Str) (sep signed : Bool) (h1 : (x, instObj 204 dx) ∈ news) (h2 : (dx, shD w k v digits scale size usage sign sep signed) ∈ news)
    (hd0 : 0 ≤ digits) (hd1 : digits ≤ 18) (ks : List Int) (hks : KBw.bInts (byteArr ks) = ks) (hkl : ks.length ≤ 100) (hz : (ks.length : Int) = size) (u : Int) (hb : decide ((u.natAbs : Int) < 10 ^ digits.toNat) = true) (t : Tok) (hu : (usage == Str.ofString "display") = true) (C : Ct w 293 2 16 news [.ref x, .bytes (byteArr ks) t] (RI news u)) : Ct w 314 3 24 news [.ref x, .bytes (byteArr ks) t] (RI news u) := by
  unfold Ct
  intro prog p loose mean mg mb dp un gd cn cs aa ccd cl outer A₀ base h₀ L m s Q E B F X N T hk hdp hun hret

  ktr_call [("shape", .ref x), ("octets", .bytes (byteArr ks) t)] 314
  k_steps
  all_goals first
    | (exfalso; lia)
    | exact endI hret (by k_asm) (by k_asm) (by kcj_all) rfl
theorem uinP_spec (w : World) (news : Led) (x dx : Addr) (k v : Nat → Tok) (digits scale size : Int) (usage sign : Str) (sep signed : Bool) (h1 : (x, instObj 204 dx) ∈ news) (h2 : (dx, shD w k v digits scale size usage sign sep signed) ∈ news)
    (hd0 : 0 ≤ digits) (hd1 : digits ≤ 18) (ks : List Int) (hks : KBw.bInts (byteArr ks) = ks) (hkl : ks.length ≤ 100) (hz : (ks.length : Int) = size) (u : Int) (hb : decide ((u.natAbs : Int) < 10 ^ digits.toNat) = true) (t : Tok) (hu : (usage == Str.ofString "display") = false) (hu2 : (usage == Str.ofString "packed") = true) (C : Ct w 300 2 16 news [.ref x, .bytes (byteArr ks) t] (RI news u)) : Ct w 314 3 24 news [.ref x, .bytes (byteArr ks) t] (RI news u) := by
  unfold Ct
  intro prog p loose mean mg mb dp un gd cn cs aa ccd cl outer A₀ base h₀ L m s Q E B F X N T hk hdp hun hret

  ktr_call [("shape", .ref x), ("octets", .bytes (byteArr ks) t)] 314
  have hab := abs_lt_of hb
  k_steps
  all_goals first
    | (exfalso; lia)
    | exact endI hret (by k_asm) (by k_asm) (by kcj_all) rfl
theorem uinB_spec (w : World) (news : Led) (x dx : Addr) (k v : Nat → Tok) (digits scale size : Int) (usage sign : Str) (sep signed : Bool) (h1 : (x, instObj 204 dx) ∈ news) (h2 : (dx, shD w k v digits scale size usage sign sep signed) ∈ news)
    (hd0 : 0 ≤ digits) (hd1 : digits ≤ 18) (ks : List Int) (hks : KBw.bInts (byteArr ks) = ks) (hkl : ks.length ≤ 100) (hz : (ks.length : Int) = size) (u : Int) (hb : decide ((u.natAbs : Int) < 10 ^ digits.toNat) = true) (t : Tok) (hu : (usage == Str.ofString "display") = false) (hu2 : (usage == Str.ofString "packed") = false) (C : Ct w 307 2 16 news [.ref x, .bytes (byteArr ks) t] (RI news u)) : Ct w 314 3 24 news [.ref x, .bytes (byteArr ks) t] (RI news u) := by
  unfold Ct
  intro prog p loose mean mg mb dp un gd cn cs aa ccd cl outer A₀ base h₀ L m s Q E B F X N T hk hdp hun hret

  ktr_call [("shape", .ref x), ("octets", .bytes (byteArr ks) t)] 314
  have hab := abs_lt_of hb
  k_steps
  all_goals first
    | (exfalso; lia)
    | exact endI hret (by k_asm) (by k_asm) (by kcj_all) rfl
end SOgR
section SOgS
open PySem PySem.W PyProof.Rows PySem.Calls
set_option maxRecDepth 100000
set_option maxHeartbeats 1000000

/-- a shape as the law builds it -/
noncomputable def WfS (digits scale size : Int) (usage : Str) (sep signed : Bool) : Prop :=
  1 ≤ digits ∧ digits ≤ 18 ∧ 0 ≤ scale ∧ scale ≤ 10 ∧ ((usage = Str.ofString "display" ∧ size = digits + (if signed = true ∧ sep = true then 1 else 0)) ∨ (usage = Str.ofString "packed" ∧ size = digits / 2 + 1) ∨ (usage = Str.ofString "binary" ∧ size = if digits ≤ 4 then 2 else if digits ≤ 9 then 4 else 8))
/-- the units that a shape can hold -/
noncomputable def Fit (digits : Int) (signed : Bool) (u : Int) : Prop := decide ((u.natAbs : Int) < 10 ^ digits.toNat) = true ∧ (signed = false → 0 ≤ u)
noncomputable def octS (digits size : Int) (usage sign : Str) (sep signed : Bool) (u : Int) : List Int :=
  octO (usage == Str.ofString "display") (usage == Str.ofString "packed") (sign == Str.ofString "leading") sep signed digits.toNat size.toNat u
theorem beq_t (a b : Str) (h : a = b) : (a == b) = true := by subst h; simp
theorem wf_size {digits scale size : Int} {usage : Str} {sep signed : Bool} (h : WfS digits scale size usage sep signed) : 1 ≤ size ∧ size ≤ 19 := by
  obtain ⟨a, b, c, d, e⟩ := h
  rcases e with ⟨_, e⟩ | ⟨_, e⟩ | ⟨_, e⟩
  · split at e <;> lia
  · lia
  · split at e <;> (try split at e) <;> lia
theorem pow_le_pow10 {a b : Nat} (h : a ≤ b) : (10 : Int) ^ a ≤ 10 ^ b := by
  have := Nat.pow_le_pow_right (show 10 > 0 by decide) h
  have := Int.ofNat_le.mpr this
  rw [Int.natCast_pow, Int.natCast_pow] at this
  exact this
theorem abs_ite2 (u : Int) : (if u < 0 then -u else u) = (u.natAbs : Int) := by split <;> lia
theorem octS_facts {digits scale size : Int} {usage sign : Str} {sep signed : Bool} {u : Int} (h : WfS digits scale size usage sep signed) (hu : Fit digits signed u) :
    KBa.In (octS digits size usage sign sep signed u) ∧ ((octS digits size usage sign sep signed u).length : Int) = size := by
  obtain ⟨a, b, c, d, e⟩ := h
  obtain ⟨hb, hs⟩ := hu
  have hb := of_decide_eq_true hb
  have hk : keptU u digits.toNat signed = u := keptU_in (by
    have : ((u.natAbs : Nat) : Int) < ((10 ^ digits.toNat : Nat) : Int) := by rw [Int.natCast_pow]; exact hb
    exact Int.ofNat_lt.mp this) hs
  unfold octS octO
  rw [hk]
  rcases e with ⟨rfl, e⟩ | ⟨rfl, e⟩ | ⟨rfl, e⟩
  · rw [if_pos (by decide)]
    refine ⟨disp_in fun d hd => figs_in hd, ?_⟩
    unfold dispO
    have hl := figs_length (if u < 0 then -u else u) digits.toNat
    cases signed
    · simp at e
      simp [hl]; lia
    · cases sep
      · simp at e
        simp only [Bool.true_eq_false, if_false, Bool.false_eq_true]
        split <;> simp [hl] <;> lia
      · simp at e
        simp only [Bool.true_eq_false, if_false, if_true]
        split <;> simp [hl] <;> lia
  · rw [if_neg (by decide), if_pos (by decide)]
    have hin : ∀ d ∈ figs (if u < 0 then -u else u) (2 * ((size.toNat : Nat) : Int) - 1).toNat ++ [markOf (decide (u < 0)) signed], 0 ≤ d ∧ d ≤ 15 := by
      intro d hd
      rcases List.mem_append.mp hd with hd | hd
      · have := figs_in hd; lia
      · rw [List.mem_singleton.mp hd]
        unfold markOf
        split
        · split <;> decide
        · decide
    refine ⟨fun z hz => ?_, by simp [packO]; lia⟩
    unfold packO at hz
    obtain ⟨i, hi, rfl⟩ := List.mem_map.mp hz
    have g : ∀ j, 0 ≤ (figs (if u < 0 then -u else u) (2 * ((size.toNat : Nat) : Int) - 1).toNat ++ [markOf (decide (u < 0)) signed]).getD j 0 ∧ (figs (if u < 0 then -u else u) (2 * ((size.toNat : Nat) : Int) - 1).toNat ++ [markOf (decide (u < 0)) signed]).getD j 0 ≤ 15 := by
      generalize figs (if u < 0 then -u else u) (2 * ((size.toNat : Nat) : Int) - 1).toNat ++ [markOf (decide (u < 0)) signed] = l at hin
      intro j
      by_cases hj : j < l.length
      · apply hin; simp [hj]
      · simp [List.getD, List.getElem?_eq_none (Nat.le_of_not_lt hj)]
    have g1 := g (2 * i)
    have g2 := g (2 * i + 1)
    lia
  · rw [if_neg (by decide), if_neg (by decide)]
    refine ⟨binO_in, ?_⟩
    rw [binO_length]
    split at e <;> (try split at e) <;> lia
end SOgS
section SOgT1
open PySem PySem.W PyProof.Rows PySem.Calls
set_option maxRecDepth 100000
set_option maxHeartbeats 1000000

theorem rs_OgT1 : True := by
  w_top off
  trivial
theorem uin_spec (w : World) (news : Led) (x dx : Addr) (k v : Nat → Tok) (digits scale size : Int) (usage sign : Str) (sep signed : Bool) (h1 : (x, instObj 204 dx) ∈ news) (h2 : (dx, shD w k v digits scale size usage sign sep signed) ∈ news)
    (wf : WfS digits scale size usage sep signed) (u : Int) (hu : Fit digits signed u) (t : Tok) : Ct w 314 3 24 news [.ref x, .bytes (byteArr (octS digits size usage sign sep signed u)) t] (RI news u) := by
  have hz := wf_size wf
  obtain ⟨hin, hlen⟩ := octS_facts (sign := sign) wf hu
  have hks := KBa.ints_make hin
  obtain ⟨hb, hs⟩ := hu
  have hb' := of_decide_eq_true hb
  have hk : keptU u digits.toNat signed = u := keptU_in (by
    have : ((u.natAbs : Nat) : Int) < ((10 ^ digits.toNat : Nat) : Int) := by rw [Int.natCast_pow]; exact hb'
    exact Int.ofNat_lt.mp this) hs
  have wf' := wf
  obtain ⟨a, b, c, d, e⟩ := wf
  have hn0 : (0 : Int) ≤ if u < 0 then -u else u := by split <;> lia
  have hn1 : (if u < 0 then -u else u) < 10 ^ digits.toNat := abs_lt_of hb
  rcases e with ⟨rfl, e⟩ | ⟨rfl, e⟩ | ⟨rfl, e⟩
  · refine uinD_spec w news x dx k v digits scale size _ sign sep signed h1 h2 (by lia) b _ hks (by lia) hlen u hb t (by decide) ?_
    have hd : octS digits size (Str.ofString "display") sign sep signed u = dispO (figs (if u < 0 then -u else u) digits.toNat) (decide (u < 0)) (sign == Str.ofString "leading") sep signed := by
      unfold octS octO
      rw [hk, if_pos (by decide)]
    rw [hd]
    have C := dispu_spec w news x dx k v digits scale size _ sign sep signed h1 h2 (by decide) (figs (if u < 0 then -u else u) digits.toNat) (decide (u < 0)) (fun d hd => figs_in hd) (by rw [figs_length]; lia) (by rw [figs_length]; lia) (fun h => by have := hs h; exact decide_eq_false (by lia)) (by rw [figs_length]; lia) t
    rw [joinF_figs _ _ hn0 hn1] at C
    have e2 : (if (decide (u < 0)) = true then 0 - (if u < 0 then -u else u) else (if u < 0 then -u else u)) = u := by
      by_cases h : u < 0 <;> simp [h]
    rw [e2] at C
    exact C
  · refine uinP_spec w news x dx k v digits scale size _ sign sep signed h1 h2 (by lia) b _ hks (by lia) hlen u hb t (by decide) (by decide) ?_
    have hd : octS digits size (Str.ofString "packed") sign sep signed u = packO (figs (if u < 0 then -u else u) (2 * ((size.toNat : Nat) : Int) - 1).toNat ++ [markOf (decide (u < 0)) signed]) size.toNat := by
      unfold octS octO
      rw [hk, if_neg (by decide), if_pos (by decide)]
    rw [hd] at hks hlen ⊢
    have hmk : 0 ≤ markOf (decide (u < 0)) signed ∧ markOf (decide (u < 0)) signed ≤ 15 := by
      unfold markOf
      split
      · split <;> decide
      · decide
    have hv : halvesOf (packO (figs (if u < 0 then -u else u) (2 * ((size.toNat : Nat) : Int) - 1).toNat ++ [markOf (decide (u < 0)) signed]) size.toNat) = figs (if u < 0 then -u else u) (2 * ((size.toNat : Nat) : Int) - 1).toNat ++ [markOf (decide (u < 0)) signed] := by
      refine halves_pack _ _ ?_ ?_
      · simp [figs_length]; lia
      · intro d hd
        rcases List.mem_append.mp hd with hd | hd
        · have := figs_in hd; lia
        · rw [List.mem_singleton.mp hd]; exact hmk
    have hn2 : (if u < 0 then -u else u) < 10 ^ (2 * ((size.toNat : Nat) : Int) - 1).toNat := Int.lt_of_lt_of_le hn1 (pow_le_pow10 (by lia))
    have C := packu_spec w news x dx k v digits scale size _ sign sep signed h1 h2 _ hks (by lia) _ _ hv (fun d hd => figs_in hd) (by
      unfold markOf
      cases signed
      · simp
      · simp only [if_true]
        split <;> simp) t
    rw [joinF_figs _ _ hn0 hn2] at C
    have e2 : (if markOf (decide (u < 0)) signed = 13 then 0 - (if u < 0 then -u else u) else (if u < 0 then -u else u)) = u := by
      unfold markOf
      cases signed
      · have := hs rfl
        simp; lia
      · by_cases h : u < 0 <;> simp [h]
    rw [e2] at C
    exact C
  · refine uinB_spec w news x dx k v digits scale size _ sign sep signed h1 h2 (by lia) b _ hks (by lia) hlen u hb t (by decide) (by decide) ?_
    have hd : octS digits size (Str.ofString "binary") sign sep signed u = binO (u % 256 ^ size.toNat) size.toNat := by
      unfold octS octO
      rw [hk, if_neg (by decide), if_neg (by decide)]
    rw [hd] at hks hlen ⊢
    have C := binu_spec w news x dx k v digits scale size _ sign sep signed h1 h2 _ hks (by lia) (by lia) t
    rw [binU_back u size.toNat signed (by lia) ?_ hs] at C
    · exact C
    · have hN : u.natAbs < 10 ^ digits.toNat := by
        have : ((u.natAbs : Nat) : Int) < ((10 ^ digits.toNat : Nat) : Int) := by rw [Int.natCast_pow]; exact hb'
        exact Int.ofNat_lt.mp this
      by_cases h4 : digits ≤ 4
      · rw [if_pos h4] at e
        have : 10 ^ digits.toNat ≤ 10 ^ 4 := Nat.pow_le_pow_right (by decide) (by lia)
        rw [show size.toNat = 2 by lia]
        lia
      · rw [if_neg h4] at e
        by_cases h9 : digits ≤ 9
        · rw [if_pos h9] at e
          have : 10 ^ digits.toNat ≤ 10 ^ 9 := Nat.pow_le_pow_right (by decide) (by lia)
          rw [show size.toNat = 4 by lia]
          lia
        · rw [if_neg h9] at e
          have : 10 ^ digits.toNat ≤ 10 ^ 18 := Nat.pow_le_pow_right (by decide) (by lia)
          rw [show size.toNat = 8 by lia]
          lia
namespace GSOgT1
theorem secOgT1 : True := trivial
end GSOgT1
open GSOgT1
theorem wd23 : True := by
  k_with "call ref" => ((guard_expr secOgT1 =ₛ secOgT1); (k_here; (with_reducible show wpAny _ _ (call (Value.ref 314) _) _ _ _); cell_ask (useI, (by assumption)); intro t9z76 h9z76 tk9z76 F9z76 N9z76; (try k_sweep); (try dsimp only); (try k_fold)))
  trivial
theorem numin_spec (w : World) (news : Led) (x dx : Addr) (k v : Nat → Tok) (digits scale size : Int) (usage sign : Str) (sep signed : Bool) (h1 : (x, instObj 204 dx) ∈ news) (h2 : (dx, shD w k v digits scale size usage sign sep signed) ∈ news)
    (wf : WfS digits scale size usage sep signed) (u : Int) (hu : Fit digits signed u) (t : Tok) : Ct w 321 4 32 news [.ref x, .bytes (byteArr (octS digits size usage sign sep signed u)) t] (RT news (dec u scale.toNat).1 (dec u scale.toNat).2) := by
  unfold Ct
  intro prog p loose mean mg mb dp un gd cn cs aa ccd cl outer A₀ base h₀ L m s Q E B F X N T hk hdp hun hret

  have C := uin_spec w news x dx k v digits scale size usage sign sep signed h1 h2 wf u hu t
  have hs0 : 0 ≤ scale := wf.2.2.1
  have hs1 : scale ≤ 10 := wf.2.2.2.1
  have hs2 : scale ≤ 200 := by lia
  ktr_call [("shape", .ref x), ("octets", .bytes (byteArr (octS digits size usage sign sep signed u)) t)] 321
  k_steps
  exact endT hret (by k_asm) (by k_asm) (by kcj_all) (by cell_step) rfl rfl
end SOgT1
section SOgU
open PySem PySem.W PyProof.Rows PySem.Calls
set_option maxRecDepth 100000
set_option maxHeartbeats 1000000

theorem rs_OgU : True := by
  w_top off
  trivial
theorem og_pop0 {prog : Program} {w : World} {A : Around} {E : Value → Shared → Prop} {s : Shared} {h₀ : Heap} {L D : Addr} {m : Str → Option Value} {news : Led} {n : Nat} {v : Value} {vs : List Value} {u : Tok} {Q : Value → Shared → Prop} (F : Fr h₀ L s.heap m) (N : News h₀ L s.heap ((D, listOf (List.toArray (v :: vs)) n) :: news)) (a : ∀ p ∈ news, p.1 ≠ D)
    (hz : vs.length ≤ 100) (h : ∀ h', Fr h₀ L h' m → News h₀ L h' ((D, listOf vs.toArray (n + 1)) :: news) → Q v { s with heap := h' }) : wpAny (model prog w) A (call (.builtin "list.pop") [.ref D, .int 0 u]) Q E s :=
  kl_popAt F N (k := 0) (p := []) (q := vs) (y := v) rfl (by simp [seqIndex?]) rfl (Upd.head a) (by rw [PySem.sizeLine_eq]; simp; lia) h
noncomputable def RTk (pl : Addr) (many : Int) (rest : Led) (r : Value) (n : Led) : Prop := ∃ d t vs ns c, r = .int d t ∧ 0 ≤ d ∧ d < many ∧ n = (pl, listOf (List.toArray vs) c) :: rest ∧ IntsAre vs ns ∧ ns.length ≤ 100
namespace GSOgU
theorem secOgU : True := trivial
end GSOgU
open GSOgU
theorem wd24 : True := by
  k_with "call builtin:list.pop" => ((guard_expr secOgU =ₛ secOgU); (k_here; (with_reducible show wpAny _ _ (call (Value.builtin _) [Value.ref _, Value.int _ _]) _ _ _); (with_unfolding_all refine og_pop0 (by assumption) (by assumption) (by assumption) (by assumption) ?_); intro h'z77 F'z77 N'z77; (try k_sweep)))
  trivial
theorem take_nil (w : World) (rest : Led) (pl : Addr) (c : Nat) (many : Int) (t : Tok) (hne : ∀ p ∈ rest, p.1 ≠ pl) (hm : 1 ≤ many) :
    Ct w 328 1 8 ((pl, listOf (List.toArray []) c) :: rest) [.ref pl, .int many t] (RTk pl many rest) := by
  unfold Ct
  intro prog p loose mean mg mb dp un gd cn cs aa ccd cl outer A₀ base h₀ L m s Q E B F X N T hk hdp hun hret

  have hI : IntsAre [] [] := .nil
  have hsz := size_ok hI (by simp)
  ktr_call [("pool", .ref pl), ("many", .int many t)] 328
  k_steps
  refine hret _ ((pl, listOf (List.toArray []) c) :: rest) _ _ ?_ (by k_asm) (by k_asm)
  exact ⟨0, _, [], [], _, rfl, by lia, by lia, rfl, .nil, by simp⟩
theorem take_cons (w : World) (rest : Led) (pl : Addr) (z : Int) (tz : Tok) (vs' : List Value) (ns' : List Int) (c : Nat) (many : Int) (t : Tok) (hne : ∀ p ∈ rest, p.1 ≠ pl) (hI' : IntsAre vs' ns') (hl : ns'.length ≤ 99) (hm : 1 ≤ many) (hb : bits many ≤ 8999) :
    Ct w 328 1 8 ((pl, listOf (List.toArray (.int z tz :: vs')) c) :: rest) [.ref pl, .int many t] (RTk pl many rest) := by
  unfold Ct
  intro prog p loose mean mg mb dp un gd cn cs aa ccd cl outer A₀ base h₀ L m s Q E B F X N T hk hdp hun hret

  have hm0 : many ≠ 0 := by lia
  have hI : IntsAre (.int z tz :: vs') (z :: ns') := .cons z tz hI'
  have hsz := size_ok hI (by simp; lia)
  have hvl : vs'.length ≤ 100 := by have := hI'.length; lia
  have hg0 : (z :: ns')[(0 : Int).toNat]? = some z := rfl
  have hg1 : ((z :: ns').set (0 : Int).toNat (z.fdiv many))[(0 : Int).toNat]? = some (z.fdiv many) := rfl
  have hl2 : (0 : Int) < ((z :: ns').length : Int) := by simp
  have hd0 : 0 ≤ z.fmod many := Int.fmod_nonneg_of_pos _ (by lia)
  have hd1 : z.fmod many < many := Int.fmod_lt_of_pos _ (by lia)
  ktr_call [("pool", .ref pl), ("many", .int many t)] 328
  k_steps
  · exfalso; rename _ = (0 : Int) => hx; simp at hx; lia
  · refine hret _ _ _ _ ?_ (by k_asm) (by k_asm)
    exact ⟨z.fmod many, _, vs', ns', _, rfl, hd0, hd1, rfl, hI', by lia⟩
  · refine hret _ _ _ _ ?_ (by k_asm) (by k_asm)
    exact ⟨z.fmod many, _, _, _, _, rfl, hd0, hd1, rfl, by assumption, by simp; lia⟩
end SOgU
section SOgU2
open PySem PySem.W PyProof.Rows PySem.Calls
set_option maxRecDepth 100000
theorem take_head (w : World) (rest : Led) (pl : Addr) (vs : List Value) (ns : List Int) (c : Nat) (many : Int) (t : Tok) (hne : ∀ p ∈ rest, p.1 ≠ pl) (hI : IntsAre vs ns) (hl : ns.length ≤ 100) (hm : 1 ≤ many) (hb : bits many ≤ 8999) :
    Ct w 328 1 8 ((pl, listOf (List.toArray vs) c) :: rest) [.ref pl, .int many t] (RTk pl many rest) := by
  cases hI with
  | nil => exact take_nil w rest pl c many t hne hm
  | cons z tz hI' => exact take_cons w rest pl z tz _ _ c many t hne hI' (by simp at hl; lia) hm hb
theorem mem_mid {a : Addr × Obj} {pre post : Led} : ∀ p ∈ a :: (pre ++ post), p ∈ pre ++ a :: post := fun p hp => by
  simp only [List.mem_cons, List.mem_append] at hp ⊢
  rcases hp with h | h | h
  · exact .inr (.inl h)
  · exact .inl h
  · exact .inr (.inr h)
theorem mem_mid' {a : Addr × Obj} {pre post : Led} : ∀ p ∈ pre ++ a :: post, p ∈ a :: (pre ++ post) := fun p hp => by
  simp only [List.mem_cons, List.mem_append] at hp ⊢
  rcases hp with h | h | h
  · exact .inr (.inl h)
  · exact .inl h
  · exact .inr (.inr h)
section
variable {w : World} {news : Led} {prog : Program} {p : Program} {loose : List Str} {mean : ExcName → Option Value} {mg mb : Str → Option Value}
    {dp un : Nat} {gd : Option (List Code)} {cn : Str} {cs : Scope} {a : Addr} {ccd : Value} {cl : List (Str × Addr)} {outer : List Env} {A₀ : Around} {base h₀ : Heap} {L : Addr} {m : Str → Option Value} {s : Shared} {Q E : Value → Shared → Prop}
theorem useK {pl : Addr} {vs : List Value} {ns : List Int} {c : Nat} {many : Int} {t : Tok} {g : Obj → Led} (U : UpdF pl (listOf (List.toArray vs) c) news g) (hI : IntsAre vs ns) (hl : ns.length ≤ 100) (hm : 1 ≤ many) (hb : bits many ≤ 8999)
    (B : Below A₀ base outer h₀) (F : Fr h₀ L s.heap m) (X : (hd.heap_1 w.params).In h₀) (N : News h₀ L s.heap news) (T : Top p loose mean mg mb h₀) (hk : cs.kind = .function) (hd : dp + 1 < recursionLimit) (hu : un + 8 < cLine)
    (h : ∀ (d : Int) (t' : Tok) (vs' : List Value) (ns' : List Int) (c' : Nat) (h' : Heap) (tk' : Nat), 0 ≤ d → d < many → IntsAre vs' ns' → ns'.length ≤ 100 → Fr h₀ L h' m → News h₀ L h' (g (listOf (List.toArray vs') c')) → Q (.int d t') { s with heap := h', toks := tk' }) :
    wpAny (model prog w) (ktrTop dp un gd cn cs L a ccd cl outer) (call (.ref 328) [.ref pl, .int many t]) Q E s := by
  obtain ⟨pre, post, rfl, hg, ha, hb'⟩ := U.split
  refine take_head w (pre ++ post) pl vs ns c many t (fun p hp => ?_) hI hl hm hb prog p loose mean mg mb dp un gd cn cs a ccd cl outer A₀ base h₀ L m s Q E B F X (og_sub N mem_mid) T hk hd hu ?_
  · rcases List.mem_append.mp hp with h | h
    · exact ha p h
    · exact hb' p h
  · rintro r n h' tk' ⟨d, t', vs', ns', c', rfl, hd0, hd1, rfl, hI', hl'⟩ F' N'
    exact h d t' vs' ns' c' h' tk' hd0 hd1 hI' hl' F' (by rw [hg]; exact og_sub N' mem_mid')
end
end SOgU2
section SOgV
open PySem PySem.W PyProof.Rows PySem.Calls
set_option maxRecDepth 100000
set_option maxHeartbeats 1000000

theorem rs_OgV : True := by
  w_top off
  trivial
theorem half_up (A B : Nat) (hB : 0 < B) (h : B ≤ 2 * (A - A / B * B)) : (2 * A + B) / (2 * B) = A / B + 1 := by
  have e := Nat.div_add_mod A B
  have l := Nat.mod_lt A hB
  rw [Nat.mul_comm] at e
  generalize A / B = q at *
  generalize A % B = r at *
  rw [Nat.div_eq_iff (by lia)]
  have e2 : (q + 1) * (2 * B) = 2 * (q * B) + 2 * B := by rw [Nat.add_mul]; grind
  lia
theorem half_down (A B : Nat) (hB : 0 < B) (h : ¬ B ≤ 2 * (A - A / B * B)) : (2 * A + B) / (2 * B) = A / B := by
  have e := Nat.div_add_mod A B
  have l := Nat.mod_lt A hB
  rw [Nat.mul_comm] at e
  generalize A / B = q at *
  generalize A % B = r at *
  rw [Nat.div_eq_iff (by lia)]
  have e2 : q * (2 * B) = 2 * (q * B) := by grind
  lia
theorem fdiv_nat (A B : Nat) : ((A : Nat) : Int).fdiv ((B : Nat) : Int) = ((A / B : Nat) : Int) := by
  rw [Int.fdiv_eq_ediv_of_nonneg _ (by lia)]; rfl
theorem lcut_up (a b : Int) (hb : b ≠ 0) (h : (2 : Int) * ((a.natAbs : Int) - ((a.natAbs / b.natAbs : Nat) : Int) * (b.natAbs : Int)) ≥ (b.natAbs : Int)) : rnd true a b = if (decide (a < 0)) != (decide (b < 0)) then -(((a.natAbs / b.natAbs : Nat) : Int) + 1) else ((a.natAbs / b.natAbs : Nat) : Int) + 1 := by
  have hB : 0 < b.natAbs := by lia
  have hle : a.natAbs / b.natAbs * b.natAbs ≤ a.natAbs := Nat.div_mul_le_self _ _
  have hc : ((a.natAbs / b.natAbs : Nat) : Int) * (b.natAbs : Int) = ((a.natAbs / b.natAbs * b.natAbs : Nat) : Int) := by rw [Int.natCast_mul]
  rw [hc] at h
  unfold rnd
  simp only [if_true]
  rw [half_up _ _ hB (by generalize a.natAbs / b.natAbs * b.natAbs = P at *; lia)]
  split <;> lia
theorem lcut_down (a b : Int) (hb : b ≠ 0) (h : ¬ (2 : Int) * ((a.natAbs : Int) - ((a.natAbs / b.natAbs : Nat) : Int) * (b.natAbs : Int)) ≥ (b.natAbs : Int)) : rnd true a b = if (decide (a < 0)) != (decide (b < 0)) then -((a.natAbs / b.natAbs : Nat) : Int) else ((a.natAbs / b.natAbs : Nat) : Int) := by
  have hB : 0 < b.natAbs := by lia
  have hle : a.natAbs / b.natAbs * b.natAbs ≤ a.natAbs := Nat.div_mul_le_self _ _
  have hc : ((a.natAbs / b.natAbs : Nat) : Int) * (b.natAbs : Int) = ((a.natAbs / b.natAbs * b.natAbs : Nat) : Int) := by rw [Int.natCast_mul]
  rw [hc] at h
  unfold rnd
  simp only [if_true]
  rw [half_down _ _ hB (by generalize a.natAbs / b.natAbs * b.natAbs = P at *; lia)]
namespace GSOgV
theorem secOgV : True := trivial
end GSOgV
open GSOgV
theorem wd25 : True := by
  k_with "mul_fits" => ((guard_expr secOgV =ₛ secOgV); exact PySem.IntMulOk.of_le (by assumption) (by assumption) (by decide))
  trivial
theorem lcut_spec (w : World) (news : Led) (a b : Int) (t u : Tok) (r : Bool) (hb : b ≠ 0) (ha2 : bits a ≤ 8999) (hb2 : bits b ≤ 8999) : Ct w 335 1 8 news [.int a t, .int b u, .bool r] (RI news (rnd r a b)) := by
  unfold Ct
  intro prog p loose mean mg mb dp un gd cn cs aa ccd cl outer A₀ base h₀ L m s Q E B F X N T hk hdp hun hret

  have hba : bits (if b < 0 then -b else b) ≤ 8999 := by rw [abs_ite]; exact intBits_natAbs_le hb2
  have haa : bits (if a < 0 then -a else a) ≤ 8999 := by rw [abs_ite]; exact intBits_natAbs_le ha2
  have hq : bits ((if a < 0 then -a else a).fdiv (if b < 0 then -b else b)) ≤ 8999 := intBits_fdiv_le haa
  cases r
  · ktr_call [("top", .int a t), ("bottom", .int b u), ("is_rounded", .bool false)] 335
    k_steps
    · refine endI hret (by k_asm) (by k_asm) (fun _ h => h) ?_
      rw [fdiv_abs]
      unfold rnd
      simp [*]
    · refine endI hret (by k_asm) (by k_asm) (fun _ h => h) ?_
      rw [fdiv_abs]
      unfold rnd
      simp [*]
  · ktr_call [("top", .int a t), ("bottom", .int b u), ("is_rounded", .bool true)] 335
    k_steps
    all_goals
      refine endI hret (by k_asm) (by k_asm) (fun _ h => h) ?_
      clear hret
      simp only [abs_ite, fdiv_nat] at *
      first
        | rw [lcut_up a b hb (by assumption)]
        | rw [lcut_down a b hb (by assumption)]
      simp [*]
end SOgV
section SOgXd
open PySem PySem.W PyProof.Rows PySem.Calls
set_option maxRecDepth 100000

noncomputable def ROp (news : Led) (o : Option Int) (r : Value) (n : Led) : Prop := (match o with | none => r = .none | some x => ∃ t, r = .int x t) ∧ n = news
section
variable {w : World} {f : Addr} {dd uu : Nat} {news : Led} {vs : List Value} {prog : Program} {p : Program} {loose : List Str} {mean : ExcName → Option Value} {mg mb : Str → Option Value}
    {dp un : Nat} {gd : Option (List Code)} {cn : Str} {cs : Scope} {a : Addr} {ccd : Value} {cl : List (Str × Addr)} {outer : List Env} {A₀ : Around} {base h₀ : Heap} {L : Addr} {m : Str → Option Value} {s : Shared} {Q E : Value → Shared → Prop}
theorem endO {o : Option Int} {h' : Heap} {tk' : Nat} {news' : Led}
    (hret : ∀ (r : Value) (news' : Led) (h' : Heap) (tk' : Nat), ROp news o r news' → Fr h₀ L h' m → News h₀ L h' news' → Q r { s with heap := h', toks := tk' })
    (F : Fr h₀ L h' m) (N : News h₀ L h' news') (hs : ∀ p ∈ news, p ∈ news') (e : o = none) : Q .none { s with heap := h', toks := tk' } := by
  subst e; exact hret _ _ _ _ ⟨rfl, rfl⟩ F fun p hp => N p (hs p hp)
theorem endOI {o : Option Int} {x : Int} {t : Tok} {h' : Heap} {tk' : Nat} {news' : Led}
    (hret : ∀ (r : Value) (news' : Led) (h' : Heap) (tk' : Nat), ROp news o r news' → Fr h₀ L h' m → News h₀ L h' news' → Q r { s with heap := h', toks := tk' })
    (F : Fr h₀ L h' m) (N : News h₀ L h' news') (hs : ∀ p ∈ news, p ∈ news') (e : o = some x) : Q (.int x t) { s with heap := h', toks := tk' } := by
  subst e; exact hret _ _ _ _ ⟨⟨t, rfl⟩, rfl⟩ F fun p hp => N p (hs p hp)
end
noncomputable def rowOf (top bot : Int) (sc digits : Nat) (signed r : Bool) : Option Int :=
  if bot = 0 then none
  else if (10 : Int) ^ digits ≤ ((rnd r (top * 10 ^ sc) bot).natAbs : Int) then none
  else some (if signed then rnd r (top * 10 ^ sc) bot else ((rnd r (top * 10 ^ sc) bot).natAbs : Int))
end SOgXd
section SOgY
open PySem PySem.W PyProof.Rows PySem.Calls
set_option maxRecDepth 100000
set_option maxHeartbeats 1000000

theorem rs_OgY : True := by
  w_top off
  trivial
noncomputable def tk11 (a0 a1 a2 a3 a4 a5 a6 a7 a8 a9 a10 : Tok) : Nat → Tok
  | 0 => a0 | 1 => a1 | 2 => a2 | 3 => a3 | 4 => a4 | 5 => a5 | 6 => a6 | 7 => a7 | 8 => a8 | 9 => a9 | _ => a10
noncomputable def RSh (w : World) (news : Led) (digits scale size : Int) (usage sign : Str) (sep signed : Bool) (r : Value) (n : Led) : Prop := ∃ (x dx : Addr) (k v : Nat → Tok), r = .ref x ∧ n = (x, instObj 204 dx) :: (dx, shD w k v digits scale size usage sign sep signed) :: news ∧ (∀ p ∈ news, p.1 < dx) ∧ @LT.lt Nat _ dx x
section
variable {w : World} {f : Addr} {dd uu : Nat} {news : Led} {vs : List Value} {prog : Program} {p : Program} {loose : List Str} {mean : ExcName → Option Value} {mg mb : Str → Option Value}
    {dp un : Nat} {gd : Option (List Code)} {cn : Str} {cs : Scope} {a : Addr} {ccd : Value} {cl : List (Str × Addr)} {outer : List Env} {A₀ : Around} {base h₀ : Heap} {L : Addr} {m : Str → Option Value} {s : Shared} {Q E : Value → Shared → Prop}
theorem endSh {digits scale size : Int} {usage sign : Str} {sep signed : Bool} {x dx : Addr} {a0 a1 a2 a3 a4 a5 a6 a7 a8 a9 a10 b0 b1 b3 b4 b8 b9 : Tok} {h' : Heap} {tk' : Nat}
    (hret : ∀ (r : Value) (news' : Led) (h' : Heap) (tk' : Nat), RSh w news digits scale size usage sign sep signed r news' → Fr h₀ L h' m → News h₀ L h' news' → Q r { s with heap := h', toks := tk' })
    (F : Fr h₀ L h' m) (N : News h₀ L h' ((x, instObj 204 dx) :: (dx, shD w (tk11 a0 a1 a2 a3 a4 a5 a6 a7 a8 a9 a10) (tk11 b0 b1 0 b3 b4 0 0 0 b8 b9 0) digits scale size usage sign sep signed) :: news)) (l1 : ∀ p ∈ news, p.1 < dx) (l2 : @LT.lt Nat _ dx x) : Q (.ref x) { s with heap := h', toks := tk' } :=
  hret _ _ _ _ ⟨x, dx, _, _, rfl, rfl, l1, l2⟩ F N
theorem useSh {digits scale size : Int} {usage sign : Str} {sep signed : Bool} (C : Ct w f dd uu news vs (RSh w news digits scale size usage sign sep signed)) (B : Below A₀ base outer h₀) (F : Fr h₀ L s.heap m) (X : (hd.heap_1 w.params).In h₀) (N : News h₀ L s.heap news) (T : Top p loose mean mg mb h₀) (hk : cs.kind = .function) (hd : dp + dd < recursionLimit) (hu : un + uu < cLine)
    (h : ∀ (x dx : Addr) (k v : Nat → Tok) (h' : Heap) (tk' : Nat), Fr h₀ L h' m → News h₀ L h' ((x, instObj 204 dx) :: (dx, shD w k v digits scale size usage sign sep signed) :: news) → (∀ p ∈ news, p.1 < dx) → @LT.lt Nat _ dx x → Q (.ref x) { s with heap := h', toks := tk' }) :
    wpAny (model prog w) (ktrTop dp un gd cn cs L a ccd cl outer) (call (.ref f) vs) Q E s :=
  C prog p loose mean mg mb dp un gd cn cs a ccd cl outer A₀ base h₀ L m s Q E B F X N T hk hd hu fun r n h' tk' ⟨x, dx, k, v, e, e2, l1, l2⟩ F' N' => by subst e; subst e2; exact h x dx k v h' tk' F' N' l1 l2
end
namespace GSOgY
theorem secOgY : True := trivial
end GSOgY
open GSOgY
theorem wd26 : True := by
  k_with "call ref" => ((guard_expr secOgY =ₛ secOgY); (k_here; (with_reducible show wpAny _ _ (call (Value.ref 204) _) _ _ _); k_dflt (refine' call_cls ?k1z79 ?k2z79 ?k3z79 ?k4z79 ?k5z79 ?k6z79 ?_; (case k1z79 => k_asm); (case k2z79 => k_asm); (case k3z79 => k_asm); (case k4z79 => k_is); (case k5z79 => k_is); (case k6z79 => k_is); k_whole; intro x'z79 d'z79 h'z79 F'z79 N'z79 l1z79 l2z79; (try k_lt l1z79); (try k_lt2 l2z79); (try k_sweep); refine' code_def ?k1z79 ?k2z79 ?k3z79 ?k4z79 ?k5z79 ?kAz79 ?kFz79 ?kKz79 ?k6z79 ?k7z79 ?k8z79 ?k9z79 ?kBz79 ?_ ?c2z79 ?c3z79 ?c4z79 ?c5z79; (case kAz79 => exact rfl); (case kFz79 => exact rfl); (case kKz79 => first | exact rfl | assumption); (case k1z79 => k_asm); (case k2z79 => k_asm); (case k3z79 => k_asm); (case k4z79 => k_asm); (case k5z79 => k_asm); (case k6z79 => k_is); (case k7z79 => k_is); (case k8z79 => ktr_room); (case k9z79 => first | exact BindsTo.of_eq rfl | exact binds_K (by k_in) rfl (by k_is) rfl rfl rfl); (case c5z79 => decide); (case kBz79 => exact locs rfl); (case c2z79 => exact rfl); (case c3z79 => exact rfl); (case c4z79 => exact rfl); k_whole; intro g'z79 L'z79 h'z79 FG'z79 F'z79 N'z79 B'z79 X'z79 T'z79; (try dsimp only); (try k_lift B'z79); (try k_fold))))
  trivial
theorem numsh_spec (w : World) (news : Led) (digits scale size : Int) (usage : Str) (signed : Bool) (t1 t2 t3 t4 t5 : Tok) : Ct w 236 3 24 news [.str (Str.ofString "numeric") t1, .int size t2, .str usage t3, .int digits t4, .int scale t5, .bool signed] (RSh w news digits scale size usage (Str.ofString "trailing") false signed) := by
  unfold Ct
  intro prog p loose mean mg mb dp un gd cn cs aa ccd cl outer A₀ base h₀ L m s Q E B F X N T hk hdp hun hret

  ktr_call [("category", .str (Str.ofString "numeric") t1), ("size", .int size t2), ("usage", .str usage t3), ("digits", .int digits t4), ("scale", .int scale t5), ("is_signed", .bool signed)] 236
  k_steps
  exact endSh hret (by k_asm) (by assumption) (by cell_step) (by assumption)
end SOgY
section SOgZ0
open PySem PySem.W PyProof.Rows PySem.Calls
set_option maxRecDepth 100000
theorem bits_sm {x : Int} (h0 : 0 ≤ x) (h1 : x ≤ 1000000000) : bits x ≤ 8999 := intBits_le_iff.mpr (Nat.lt_of_le_of_lt (show x.natAbs ≤ 1000000000 by lia) (Nat.lt_of_lt_of_le (by decide : 1000000000 < 2 ^ 30) (Nat.pow_le_pow_right (by decide) (by decide))))

section
variable {prog : Program} {w : World} {A : Around} {E : Value → Shared → Prop} {s : Shared} {value slice : PySem.Expr} {t : Addr} {k : Int} {u : Tok} {Q : Value → Shared → Prop}
theorem item2 {a b : Value} (ht : IsTup s.heap t [a, b].toArray) (h0 : 0 ≤ k) (h1 : k < 2) (ha : k = 0 → Q a s) (hb : k = 1 → Q b s)
    (hs : subscripted slice false (.ref t) (.int k u) = operate [.ref t, .int k u] (getItem (.ref t) (.int k u)) := by with_unfolding_all rfl) : wpAny (model prog w) A (subscriptTail value slice (.ref t) (.int k u)) Q E s := by
  have h : k = 0 ∨ k = 1 := by lia
  rcases h with rfl | rfl
  · exact item_tupleT ht (by decide) (by decide) rfl rfl (ha rfl) hs
  · exact item_tupleT ht (by decide) (by decide) rfl rfl (hb rfl) hs
theorem item3 {a b c : Value} (ht : IsTup s.heap t [a, b, c].toArray) (h0 : 0 ≤ k) (h1 : k < 3) (ha : k = 0 → Q a s) (hb : k = 1 → Q b s) (hc : k = 2 → Q c s)
    (hs : subscripted slice false (.ref t) (.int k u) = operate [.ref t, .int k u] (getItem (.ref t) (.int k u)) := by with_unfolding_all rfl) : wpAny (model prog w) A (subscriptTail value slice (.ref t) (.int k u)) Q E s := by
  have h : k = 0 ∨ k = 1 ∨ k = 2 := by lia
  rcases h with rfl | rfl | rfl
  · exact item_tupleT ht (by decide) (by decide) rfl rfl (ha rfl) hs
  · exact item_tupleT ht (by decide) (by decide) rfl rfl (hb rfl) hs
  · exact item_tupleT ht (by decide) (by decide) rfl rfl (hc rfl) hs
end

noncomputable def RSp (w : World) (pl : Addr) (rest : Led) (r : Value) (n : Led) : Prop := ∃ (x dx : Addr) (k v : Nat → Tok) (digits scale size : Int) (usage sign : Str) (sep signed : Bool) (vs : List Value) (ns : List Int) (c : Nat), r = .ref x ∧ n = (x, instObj 204 dx) :: (dx, shD w k v digits scale size usage sign sep signed) :: (pl, listOf (List.toArray vs) c) :: rest ∧ WfS digits scale size usage sep signed ∧ IntsAre vs ns ∧ ns.length ≤ 100 ∧ (∀ p ∈ rest, p.1 < dx) ∧ @LT.lt Nat _ pl dx ∧ @LT.lt Nat _ dx x
theorem endSp {w : World} {rest : Led} {pl : Addr} {h₀ : Heap} {L : Addr} {m : Str → Option Value} {s : Shared} {Q : Value → Shared → Prop} {digits scale size : Int} {usage sign : Str} {sep signed : Bool} {x dx : Addr} {a0 a1 a2 a3 a4 a5 a6 a7 a8 a9 a10 b0 b1 b3 b4 b8 b9 : Tok} {vs : List Value} {ns : List Int} {c : Nat} {h' : Heap} {tk' : Nat} {news' : Led}
    (hret : ∀ (r : Value) (news' : Led) (h' : Heap) (tk' : Nat), RSp w pl rest r news' → Fr h₀ L h' m → News h₀ L h' news' → Q r { s with heap := h', toks := tk' })
    (F : Fr h₀ L h' m) (N : News h₀ L h' news') (m1 : (x, instObj 204 dx) ∈ news') (m2 : (dx, shD w (tk11 a0 a1 a2 a3 a4 a5 a6 a7 a8 a9 a10) (tk11 b0 b1 0 b3 b4 0 0 0 b8 b9 0) digits scale size usage sign sep signed) ∈ news') (m3 : (pl, listOf (List.toArray vs) c) ∈ news') (hs : ∀ p ∈ rest, p ∈ news')
    (wf : WfS digits scale size usage sep signed) (hI : IntsAre vs ns) (hl : ns.length ≤ 100) (l1 : ∀ p ∈ rest, p.1 < dx) (l2 : @LT.lt Nat _ pl dx) (l3 : @LT.lt Nat _ dx x) : Q (.ref x) { s with heap := h', toks := tk' } :=
  hret _ _ _ _ ⟨x, dx, _, _, digits, scale, size, usage, sign, sep, signed, vs, ns, c, rfl, rfl, wf, hI, hl, l1, l2, l3⟩ F fun p hp => by
    rcases List.mem_cons.mp hp with rfl | hp
    · exact N _ m1
    rcases List.mem_cons.mp hp with rfl | hp
    · exact N _ m2
    rcases List.mem_cons.mp hp with rfl | hp
    · exact N _ m3
    exact N p (hs p hp)
theorem lt5 {a b c d e q : Addr} {l : Led} (h : @LT.lt Nat _ a q ∧ @LT.lt Nat _ b q ∧ @LT.lt Nat _ c q ∧ @LT.lt Nat _ d q ∧ @LT.lt Nat _ e q ∧ AllLt q l) : @LT.lt Nat _ e q ∧ ∀ p ∈ l, p.1 < q := ⟨h.2.2.2.2.1, ktn_ltOf h.2.2.2.2.2⟩
end SOgZ0
section SOgZ
open PySem PySem.W PyProof.Rows PySem.Calls
set_option maxRecDepth 100000
set_option maxHeartbeats 4000000

theorem rs_OgZ : True := by
  w_top off
  trivial
namespace GSOgZ
theorem secOgZ : True := trivial
end GSOgZ
open GSOgZ
theorem wd27 : True := by
  k_with "call ref" => ((guard_expr secOgZ =ₛ secOgZ); (k_here; (with_reducible show wpAny _ _ (call (Value.ref 328) _) _ _ _); k_dflt (refine' useK ?kUz80 ?kIz80 ?klz80 ?kmz80 ?kbz80 ?k1z80 ?k2z80 ?k3z80 ?k4z80 ?k5z80 ?kKz80 ?kdz80 ?kuz80 ?_; (case k1z80 => k_asm); (case k2z80 => k_asm); (case k3z80 => k_asm); (case k4z80 => k_asm); (case k5z80 => k_asm); (case kUz80 => k_updF); (case kIz80 => assumption); (case klz80 => assumption); (case kmz80 => first | decide | omega | assumption); (case kbz80 => first | assumption | exact bits_sm (by omega) (by omega) | exact Nat.le_trans (bits_ten (by omega)) (by decide)); (case kKz80 => first | exact rfl | assumption); (case kdz80 => ktr_room); (case kuz80 => ktr_units); k_whole); intro d9z80 t9z80 vs9z80 ns9z80 c9z80 h9z80 tk9z80 hd0z80 hd1z80 hI9z80 hl9z80 F9z80 N9z80; (try dsimp only at N9z80); (try k_sweep); (try dsimp only); (try k_fold)))
  k_with "call ref" => ((guard_expr secOgZ =ₛ secOgZ); (k_here; (with_reducible show wpAny _ _ (call (Value.ref 229) _) _ _ _); cell_ask (useI, (pwide_spec _ _ _ _ (by first | assumption | omega) (by first | assumption | omega))); intro t9z81 h9z81 tk9z81 F9z81 N9z81; (try k_sweep); (try dsimp only); (try k_fold)))
  k_with "call ref" => ((guard_expr secOgZ =ₛ secOgZ); (k_here; (with_reducible show wpAny _ _ (call (Value.ref 222) _) _ _ _); cell_ask (useI, (swide_spec _ _ _ _ (by first | assumption | omega) (by first | assumption | omega))); intro t9z82 h9z82 tk9z82 F9z82 N9z82; (try k_sweep); (try dsimp only); (try k_fold)))
  k_with "call ref" => ((guard_expr secOgZ =ₛ secOgZ); (k_here; (with_reducible show wpAny _ _ (call (Value.ref 236) _) _ _ _); cell_ask (useSh, (numsh_spec _ _ _ _ _ _ _ _ _ _ _ _)); intro x9z83 dx9z83 k9z83 v9z83 h9z83 tk9z83 F9z83 N9z83 l9z83 l8z83; (try k_lt l9z83); (try k_lt2 l8z83); (try k_sweep); (try dsimp only); (try k_fold)))
  k_with "subscriptTail Dict" => ((guard_expr secOgZ =ₛ secOgZ); (k_here; (with_reducible show wpAny _ _ (subscriptTail _ _ (Value.ref _) (Value.str _ _)) _ _ _); k_dflt (refine' kdt_tail (knd := PySem.strKind _ _) ?eNz84 ?emz84 ?edz84 ?_ ?esz84; (case eNz84 => k_asm); (case emz84 => k_mem); (case edz84 => k_asm); (case esz84 => with_unfolding_all rfl))))
  k_with "subscriptTail Tuple Call ref int" => ((guard_expr secOgZ =ₛ secOgZ); (k_here; (with_reducible show wpAny _ _ (subscriptTail _ _ (Value.ref _) (Value.int _ _)) _ _ _); (first | (refine' item2 ?ogi1z85 ?ogi2z85 ?ogi3z85 (fun _ => ?_) (fun _ => ?_); (case ogi1z85 => exact News.isTup (by k_asm) (by k_mem)); (case ogi2z85 => omega); (case ogi3z85 => omega)) | (refine' item3 ?ogi1z85 ?ogi2z85 ?ogi3z85 (fun _ => ?_) (fun _ => ?_) (fun _ => ?_); (case ogi1z85 => exact News.isTup (by k_asm) (by k_mem)); (case ogi2z85 => omega); (case ogi3z85 => omega)))))
  k_with "subscriptTail Name Call ref int" => ((guard_expr secOgZ =ₛ secOgZ); (k_here; (with_reducible show wpAny _ _ (subscriptTail _ _ (Value.ref _) (Value.int _ _)) _ _ _); (first | (refine' item2 ?ogi1z85 ?ogi2z85 ?ogi3z85 (fun _ => ?_) (fun _ => ?_); (case ogi1z85 => exact News.isTup (by k_asm) (by k_mem)); (case ogi2z85 => omega); (case ogi3z85 => omega)) | (refine' item3 ?ogi1z85 ?ogi2z85 ?ogi3z85 (fun _ => ?_) (fun _ => ?_) (fun _ => ?_); (case ogi1z85 => exact News.isTup (by k_asm) (by k_mem)); (case ogi2z85 => omega); (case ogi3z85 => omega)))))
  k_with "subscriptTail" => ((guard_expr secOgZ =ₛ secOgZ); (k_here; (with_reducible show wpAny _ _ (subscriptTail _ _ (Value.ref _) (Value.int _ _)) _ _ _); (first | (refine' item2 ?ogi1z85 ?ogi2z85 ?ogi3z85 (fun _ => ?_) (fun _ => ?_); (case ogi1z85 => exact News.isTup (by k_asm) (by k_mem)); (case ogi2z85 => omega); (case ogi3z85 => omega)) | (refine' item3 ?ogi1z85 ?ogi2z85 ?ogi3z85 (fun _ => ?_) (fun _ => ?_) (fun _ => ?_); (case ogi1z85 => exact News.isTup (by k_asm) (by k_mem)); (case ogi2z85 => omega); (case ogi3z85 => omega)))))
  trivial
theorem lsh_spec (w : World) (rest : Led) (pl : Addr) (vs : List Value) (ns : List Int) (c : Nat) (hne : ∀ p ∈ rest, p.1 ≠ pl) (hI : IntsAre vs ns) (hl : ns.length ≤ 100) :
    Ct w 342 4 32 ((pl, listOf (List.toArray vs) c) :: rest) [.ref pl] (RSp w pl rest) := by
  unfold Ct
  intro prog p loose mean mg mb dp un gd cn cs aa ccd cl outer A₀ base h₀ L m s Q E B F X N T hk hdp hun hret

  ktr_call [("pool", .ref pl)] 342
  k_steps
  all_goals
    refine endSp hret (by k_asm) (by k_asm) (by k_mem) (by first | exact .head _ | exact .tail _ (.head _) | exact .tail _ (.tail _ (.head _)) | exact .tail _ (.tail _ (.tail _ (.head _)))) (by k_mem) (fun p hp => by simp only [List.mem_cons, hp, or_true]) ?_ (by assumption) (by assumption) (lt5 (by assumption)).2 (lt5 (by assumption)).1 (by assumption)
  all_goals clear hret
  all_goals refine ⟨by lia, by lia, by lia, by lia, ?_⟩
  all_goals first
    | exact .inl ⟨rfl, by simp [*]⟩
    | exact .inr (.inl ⟨rfl, rfl⟩)
    | exact .inr (.inr ⟨rfl, rfl⟩)
end SOgZ
section SOgSF2
open PySem PySem.W PyProof.Rows PySem.Calls
set_option maxRecDepth 100000
set_option maxHeartbeats 1000000

theorem rs_OgSF2 : True := by
  w_top off
  trivial
noncomputable def RSF (news : Led) (vs : List Value) (r : Value) (n : Led) : Prop := ∃ e t dx od, r = .ref e ∧ n = (dx, od) :: (e, excO 77 t (some dx)) :: (t, tupV vs) :: news ∧ (∀ p ∈ news, p.1 < e) ∧ @LT.lt Nat _ e t
theorem sfc_spec (w : World) (news : Led) (msg : Str) (t : Tok) : Ct w 77 3 32 news [.str msg t] (RSF news [.str msg t]) := by
  unfold Ct
  intro prog p loose mean mg mb dp un gd cn cs aa ccd cl outer A₀ base h₀ L m s Q E B F X N T hk hdp hun hret

  obtain ⟨hh, gg, dd, tt, oo⟩ := s
  obtain ⟨nm, q, NN, bs, hdct, sn, sub, ab, col, dd', k0, k1, k2, k3, k5, hCK⟩ := sf_obj w
  refine wpAny_call ?_
  have FA : Frag.In (hd.heap_1 w.params) hh := X.keeps F.keep
  refine xsf_call PySem.F.excBase_Exception (by decide) (by decide) (by decide) (F.keep _ _ (X _ _ hCK)) (looks_findIn FA (sf_init w).1) (fun self => bind_fn FA self (sf_init w).2.2) (Nat.le_of_ble_eq_true rfl) ?_
  have F2 := (F.push (tupV [.str msg t])).push (excO 77 hh.objs.size none)
  have N2 := (N.push F (tupV [.str msg t])).push (F.push _) (excO 77 hh.objs.size none)
  rw [Heap.size_push] at N2
  have l1 : ∀ p ∈ (hh.objs.size, tupV [.str msg t]) :: news, p.1 < hh.objs.size + 1 := fun p hp => by
    rcases List.mem_cons.mp hp with rfl | hp
    · exact Nat.lt_succ_self _
    · exact Nat.lt_succ_of_lt (Heap.lt_size (N p hp).1)
  clear FA
  generalize hh.objs.size + 1 = e1 at *
  generalize hh.objs.size = e0 at *
  have l1' := l1
  k_lt l1
  refine' code_def ?k1 ?k2 ?k3 ?k4 ?k5 ?kA ?kF ?kK ?k6 ?k7 ?k8 ?k9 ?kB ?_ ?c2 ?c3 ?c4 ?c5; (case kA => exact rfl); (case kF => exact rfl); (case kK => first | exact rfl | assumption); (case k1 => k_asm); (case k2 => k_asm); (case k3 => k_asm); (case k4 => k_asm); (case k5 => k_asm); (case k6 => k_is); (case k7 => k_is); (case k8 => ktr_room); (case k9 => first | exact BindsTo.of_eq rfl | exact binds_K (by k_in) rfl (by k_is) rfl rfl rfl); (case c5 => decide); (case kB => exact locs rfl); (case c2 => exact rfl); (case c3 => exact rfl); (case c4 => exact rfl); k_whole; intro g' L' h' FG' F' N' B' X' T'; (try dsimp only); (try k_lift B'); (try k_fold)
  k_steps
  refine' method_type ?m1 ?m2 ?m3 ?m4 ?m5 ?m6 ?_
  case m1 => k_asm
  case m2 => assumption
  case m3 => first | rfl | kernel_rfl
  case m4 => decide +kernel
  case m5 => k_is
  case m6 => rfl
  k_steps
  refine' xsf_initK PySem.F.excBase_Exception (by decide) ?n1 ?n2 hCK ?n3 ?n4 (Nat.le_of_ble_eq_true rfl) ?_
  case n1 => k_asm
  case n2 => assumption
  case n3 => exact N'
  case n4 => k_all
  intro t1 h1 F1 N1 l2
  have l2' := l2
  k_lt l2
  k_steps
  have hcl : clsIn (hd.heap_1 w.params) 77 = some { name := nm, bases := bs, mro := [.ref 77, .ref 40, .type "Exception", .type "BaseException", .type "object"], ns := NN, qualname := q, hasDict := hdct, slotNames := sn, subclasses := sub, abstract := ab, collection := col, hasDel := false } := by unfold clsIn; rw [hCK]
  have hdd : hdct = true := by
    have h := (show hasDictIn (hd.heap_1 w.params) 77 = true by k_is)
    unfold hasDictIn at h
    rw [hcl] at h
    exact h
  have hre : refuseLoop (.ref e1) "__setattr__" [.ref 77, .ref 40, .type "Exception", .type "BaseException", .type "object"] = pure () := by rw [refuseLoop_ref, refuseLoop_ref]; exact refuse_exc _
  have N5 := og_sub N1 (b := (e1, excO 77 t1 none) :: (t1, tupV [.str msg t]) :: news) (fun p hp => by simp only [List.mem_cons] at hp ⊢; rcases hp with h | h | h <;> simp [h])
  refine' xsf_set1 ?o1 ?o2 N5 ?o3 ?o4 hcl hdd rfl rfl hre ?o5 ?o6 ?o7 ?_
  case o1 => k_asm
  case o2 => assumption
  case o3 =>
    intro p hp
    rcases List.mem_cons.mp hp with rfl | hp
    · exact Nat.ne_of_gt (l2' (e1, excO 77 e0 none) (.head _))
    · exact Nat.ne_of_lt (l1' p (.tail _ hp))
  case o4 => k_is
  case o5 => k_is
  case o6 => k_put
  case o7 => exact Nat.le_of_ble_eq_true rfl
  intro dx h5 F5 N6 l3
  have l3' := l3
  k_lt l3
  k_steps
  refine' xsf_set2 (pre := []) (post := (e1, excO 77 t1 (some dx)) :: (t1, tupV [.str msg t]) :: news) ?q1 ?q2 N6 (N6 _ (.tail _ (.head _))).1 ?q4 hcl hdd rfl rfl hre ?q5 ?q6 (fun _ h => nomatch h) ?q8 ?q9 ?q10 ?_
  case q1 => k_asm
  case q2 => assumption
  case q4 => k_is
  case q5 => k_is
  case q6 => k_get
  case q8 =>
    intro p hp
    rcases List.mem_cons.mp hp with rfl | hp
    · exact Nat.ne_of_lt (l3' (e1, excO 77 t1 none) (.head _))
    · exact Nat.ne_of_lt (l3' p (.tail _ hp))
  case q9 => k_put
  case q10 => exact Nat.le_of_ble_eq_true rfl
  intro h7 F7 N7
  k_steps
  exact hret _ _ _ _ ⟨e1, t1, dx, _, rfl, rfl, fun p hp => l1' p (.tail _ hp), l2' (e1, excO 77 e0 none) (.head _)⟩ (by k_asm) (by k_asm)
end SOgSF2
section SOgSF4
open PySem PySem.W PyProof.Rows PySem.Calls PySem.Spec
set_option maxRecDepth 100000
set_option maxHeartbeats 4000000
section
variable {M : Model} {A : Around} {E : Value → Shared → Prop} {s' : Shared} {base g : Heap} {outer : List Env} {L a e t dx C : Addr} {m : Str → Option Value} {name : Str} {scope : Scope} {cd : Value} {Q : Unit → Shared → Prop} {news : Led}
/-- the frame in which the exception was made is left -/
theorem xsf_leaveS {vs : List Value} (K : Below A base outer g) (F : Fr g L s'.heap m) (N : News g L s'.heap ((e, excO C t (some dx)) :: (t, tupV vs) :: news)) (hne : ∀ p ∈ news, p.1 ≠ e ∧ p.1 ≠ t)
    (hQ : ∀ h', RaisedS base g outer e (.ref C) t vs news h' → RaisedK base outer e (.ref C) t vs news h' → g.UpToSlots h' → Q () { s' with heap := h' }) (hk : scope.kind = .function := by rfl) :
    wpAny M (A.deeper (envOf name scope L a cd)) (leaving (envOf name scope L a cd) (.ref e)) Q E s' := by
  have K' := K.push (name := name) (a := a) (cd := cd) F hk
  generalize hfs : (envOf name scope L a cd :: outer).filterMap (·.frame) = fs
  have hin : ∀ env ∈ (envOf name scope L a cd :: outer), ∀ b, env.frame = some b → b ∈ fs ++ [e, t] := fun env he b hb => List.mem_append_left _ (hfs ▸ List.mem_filterMap.mpr ⟨env, he, hb⟩)
  have Ne := N (e, excO C t (some dx)) (.head _)
  have Nt := N (t, tupV vs) (.tail _ (.head _))
  have hge : ∀ b o, g.get? b = some o → b ≠ e ∧ b ≠ t := fun b o q => ⟨(fun z => by rw [z, Ne.2.2] at q; cases q), (fun z => by rw [z, Nt.2.2] at q; cases q)⟩
  have hmem : ∀ b, b ∈ fs ++ [e, t] → b ∈ fs ∨ b = e ∨ b = t := fun b hb => by
    rcases List.mem_append.mp hb with h | h
    · exact .inl h
    · simp at h; exact .inr h
  have st : base.StaysIn (hideAll s'.heap (fs ++ [e, t])) := fun b o q => hideAll_get _ (K'.stays b o q) fun hm => by
    rcases hmem b hm with hm | hm | hm
    · subst hfs; rw [(K'.frames.mem hm).1] at q; cases q
    · exact (hge b o (K.stays b o q)).1 hm
    · exact (hge b o (K.stays b o q)).2 hm
  have sg : ∀ b o, g.get? b = some o → b ∉ outer.filterMap (·.frame) → (hideAll s'.heap (fs ++ [e, t])).get? b = some o := fun b o q nm => hideAll_get _ (F.keep b o q) fun hm => by
    rcases hmem b hm with hm | hm | hm
    · subst hfs
      rcases kts_mem hm with z | z
      · rw [z, kts_self F] at q; cases q
      · exact nm z
    · exact (hge b o q).1 hm
    · exact (hge b o q).2 hm
  have hl : ∀ q ∈ news, (hideAll s'.heap (fs ++ [e, t])).get? q.1 = some q.2 ∧ g.get? q.1 = none ∧ base.get? q.1 = none := fun q hq => by
    have Nq := N q (.tail _ (.tail _ hq))
    refine ⟨hideAll_get _ Nq.1 fun hm => ?_, Nq.2.2, fresh_of_stays K.stays Nq.2.2⟩
    rcases hmem _ hm with hm | hm | hm
    · subst hfs
      rcases kts_mem hm with z | z
      · exact Nq.2.1 z
      · obtain ⟨o, ho, _⟩ := (K.frames.mem z).2
        rw [Nq.2.2] at ho; cases ho
    · exact (hne q hq).1 hm
    · exact (hne q hq).2 hm
  have fe : (hideAll s'.heap (fs ++ [e, t])).get? e = none := hideAll_none _ (by simp)
  have ft : (hideAll s'.heap (fs ++ [e, t])).get? t = none := hideAll_none _ (by simp)
  refine wpAny_leaving_firstW (a0 := .ref t) K'.stack (funFrames_hide K'.frames hin) rfl Ne.1 (fun b o q => of_hideAll _ q) fe rfl rfl rfl fun h' hL => ?_
  obtain ⟨k1, ⟨_, _, k2⟩, k3, k4⟩ := hL
  have R : RaisedS base g outer e (.ref C) t vs news h' := ⟨⟨_, st, sg, hl, ⟨k1, fe, k2, k3⟩, ft⟩, Heap.TupAt.of_slots ⟨_, _, Nt.1, rfl, rfl⟩ k4⟩
  exact hQ h' R R.toK ((Heap.UpToSlots.of_keeps F.keep).trans k4)
end
end SOgSF4
section SOgW0
open PySem PySem.W PyProof.Rows PySem.Calls
set_option maxRecDepth 100000
set_option maxHeartbeats 1000000

theorem rs_OgW0 : True := by
  w_top off
  trivial
section
variable {w : World} {f : Addr} {dd uu : Nat} {news : Led} {vs : List Value} {prog : Program} {p : Program} {loose : List Str} {mean : ExcName → Option Value} {mg mb : Str → Option Value}
    {dp un : Nat} {gd : Option (List Code)} {cn : Str} {cs : Scope} {a : Addr} {ccd : Value} {cl : List (Str × Addr)} {outer : List Env} {A₀ : Around} {base h₀ : Heap} {L : Addr} {m : Str → Option Value} {s : Shared} {Q E : Value → Shared → Prop}
theorem useSF (C : Ct w f dd uu news vs (RSF news vs)) (B : Below A₀ base outer h₀) (F : Fr h₀ L s.heap m) (X : (hd.heap_1 w.params).In h₀) (N : News h₀ L s.heap news) (T : Top p loose mean mg mb h₀) (hk : cs.kind = .function) (hd : dp + dd < recursionLimit) (hu : un + uu < cLine)
    (h : ∀ (e t dx : Addr) (od : Obj) (h' : Heap) (tk' : Nat), Fr h₀ L h' m → News h₀ L h' ((dx, od) :: (e, excO 77 t (some dx)) :: (t, tupV vs) :: news) → (∀ p ∈ news, p.1 < e) → @LT.lt Nat _ e t → Q (.ref e) { s with heap := h', toks := tk' }) :
    wpAny (model prog w) (ktrTop dp un gd cn cs L a ccd cl outer) (call (.ref f) vs) Q E s :=
  C prog p loose mean mg mb dp un gd cn cs a ccd cl outer A₀ base h₀ L m s Q E B F X N T hk hd hu fun r n h' tk' ⟨e, t, dx, od, e1, e2, l1, l2⟩ F' N' => by subst e1; subst e2; exact h e t dx od h' tk' F' N' l1 l2
end
/-- a call that raises SizeFault, from a frame without cells -/
noncomputable def CtX (w : World) (f : Addr) (dd uu : Nat) (news : Led) (vs : List Value) : Prop :=
  ∀ (prog : Program) (p : Program) (loose : List Str) (mean : ExcName → Option Value) (mg mb : Str → Option Value)
    (dp un : Nat) (gd : Option (List Code)) (cn : Str) (cs : Scope) (a : Addr) (ccd : Value) (outer : List Env) (A₀ : Around) (base h₀ : Heap) (L : Addr) (m : Str → Option Value) (s : Shared) (Q E : Value → Shared → Prop),
    Below A₀ base outer h₀ → Fr h₀ L s.heap m → (hd.heap_1 w.params).In h₀ → News h₀ L s.heap news → Top p loose mean mg mb h₀ → cs.kind = .function → dp + dd < recursionLimit → un + uu < cLine →
    (∀ (e t : Addr) (ws : List Value) (news' : Led) (G h' : Heap) (tk' : Nat), (∀ p ∈ news, p ∈ news') → Fr h₀ L G m → RaisedS base G (envOf cn cs L a ccd :: outer) e (.ref 77) t ws news' h' → RaisedK base (envOf cn cs L a ccd :: outer) e (.ref 77) t ws news' h' → G.UpToSlots h' → E (.ref e) { s with heap := h', toks := tk' }) →
    wpAny (model prog w) (ktrTop dp un gd cn cs L a ccd [] outer) (call (.ref f) vs) Q E s
namespace GSOgW0
theorem secOgW0 : True := trivial
end GSOgW0
open GSOgW0
theorem wd28 : True := by
  k_with "exec Raise some none" => ((guard_expr secOgW0 =ₛ secOgW0); (refine og_wrap ?_))
  trivial
theorem quot0_spec (w : World) (news : Led) (qa qb : Addr) (a sa sb : Int) (t1 t2 t3 t4 : Tok) (ha : (qa, tup2 a sa t1 t2) ∈ news) (hb : (qb, tup2 0 sb t3 t4) ∈ news) :
    CtX w 137 5 64 news [.ref qa, .ref qb] := by
  unfold CtX
  intro prog p loose mean mg mb dp un gd cn cs aa ccd outer A₀ base h₀ L m s Q E B F X N T hk hdp hun hret
  ktr_call [(Str.ofString "a", Value.ref qa), (Str.ofString "b", Value.ref qb), (Str.ofString "many", Value.int 30 279)] 137
  k_steps
  unfold OgW
  obtain ⟨nm, q, NN, bs, hdct, sn, sub, ab, col, dd', k0, k1, k2, k3, k5, hCK⟩ := sf_obj w
  refine xsf_raise (nm := nm) (q := q) (C := 77) (N := NN) (bs := bs) (bm := [.ref 40, .type "Exception", .type "BaseException", .type "object"]) (hdct := hdct) (sn := sn) (sub := sub) (ab := ab) (col := col) (dd := dd') (k0 := k0) (k1 := k1) (k2 := k2) (k3 := k3) (k5 := k5) (newId := "Exception.__new__") (by decide) rfl ?_
  k_steps
  cell_ask (useSF, (sfc_spec _ _ _ _))
  intro e t dx od h9 tk9 F9 N9 l1 l2
  refine ⟨e, dx, t, rfl, F9.keep _ _ ((by assumption : Frag.In (hd.heap_1 w.params) _) _ _ hCK), (N9 _ (.tail _ (.head _))).1, ?_⟩
  dsimp only
  refine xsf_leaveS (by assumption) F9 (og_sub N9 fun p hp => .tail _ hp) (fun p hp => ⟨Nat.ne_of_lt (l1 p hp), Nat.ne_of_lt (Nat.lt_trans (l1 p hp) l2)⟩) fun h' RS RK U => ?_
  exact hret e t _ _ _ h' _ (fun _ h => h) (by assumption) RS RK U
end SOgW0
section SOgW1
open PySem PySem.W PyProof.Rows PySem.Calls
set_option maxRecDepth 100000
set_option maxHeartbeats 1000000

theorem rs_OgW1 : True := by
  w_top off
  trivial
theorem useX {w : World} {f : Addr} {dd uu : Nat} {news : Led} {vs : List Value} {prog : Program} {p : Program} {loose : List Str} {mean : ExcName → Option Value} {mg mb : Str → Option Value}
    {dp un : Nat} {gd : Option (List Code)} {cn : Str} {cs : Scope} {a : Addr} {ccd : Value} {outer : List Env} {A₀ : Around} {base h₀ : Heap} {L : Addr} {m : Str → Option Value} {s : Shared} {Q E : Value → Shared → Prop}
    (C : CtX w f dd uu news vs) (B : Below A₀ base outer h₀) (F : Fr h₀ L s.heap m) (X : (hd.heap_1 w.params).In h₀) (N : News h₀ L s.heap news) (T : Top p loose mean mg mb h₀) (hk : cs.kind = .function) (hd : dp + dd < recursionLimit) (hu : un + uu < cLine)
    (h : ∀ (e t : Addr) (ws : List Value) (news' : Led) (G h' : Heap) (tk' : Nat), (∀ p ∈ news, p ∈ news') → Fr h₀ L G m → RaisedS base G (envOf cn cs L a ccd :: outer) e (.ref 77) t ws news' h' → RaisedK base (envOf cn cs L a ccd :: outer) e (.ref 77) t ws news' h' → G.UpToSlots h' → E (.ref e) { s with heap := h', toks := tk' }) :
    wpAny (model prog w) (ktrTop dp un gd cn cs L a ccd [] outer) (call (.ref f) vs) Q E s :=
  C prog p loose mean mg mb dp un gd cn cs a ccd outer A₀ base h₀ L m s Q E B F X N T hk hd hu h
theorem reck0_spec (w : World) (news : Led) (qa qb : Addr) (a sa sb : Int) (t1 t2 t3 t4 tw : Tok) (ha : (qa, tup2 a sa t1 t2) ∈ news) (hb : (qb, tup2 0 sb t3 t4) ∈ news) :
    CtX w 158 6 72 news [.str (Str.ofString "/") tw, .ref qa, .ref qb] := by
  unfold CtX
  intro prog p loose mean mg mb dp un gd cn cs aa ccd outer A₀ base h₀ L m s Q E B F X N T hk hdp hun hret
  ktr_call [("way", .str (Str.ofString "/") tw), ("own", .ref qa), ("worth", .ref qb)] 158
  k_steps
  cell_ask (useX, (quot0_spec _ _ _ _ _ _ _ _ _ _ _ ha hb))
  intro e t ws news' G h9 tk9 hsub FG RS RK U
  dsimp only
  refine leave_onS (by assumption) FG RS U fun h' RS' RK' U' => ?_
  exact hret e t _ _ _ h' _ hsub (by assumption) RS' RK' U'
end SOgW1
section SOgW2
open PySem PySem.W PyProof.Rows PySem.Calls
set_option maxRecDepth 100000
set_option maxHeartbeats 1000000

theorem rs_OgW2 : True := by
  w_top off
  trivial
theorem reckP_spec (w : World) (news : Led) (qa qb : Addr) (a sa b sb : Int) (t1 t2 t3 t4 tw : Tok) (ha : (qa, tup2 a sa t1 t2) ∈ news) (hb : (qb, tup2 b sb t3 t4) ∈ news)
    (h1 : 0 ≤ sa) (h2 : sa ≤ 15) (h3 : 0 ≤ sb) (h4 : sb ≤ 15) (h5 : bits a ≤ 1000) (h6 : bits b ≤ 1000)  :
    Ct w 158 6 64 news [.str (Str.ofString "+") tw, .ref qa, .ref qb] (RT news (dec (a * 10 ^ (max sa sb - sa).toNat + b * 10 ^ (max sa sb - sb).toNat) (max sa sb).toNat).1 (dec (a * 10 ^ (max sa sb - sa).toNat + b * 10 ^ (max sa sb - sb).toNat) (max sa sb).toNat).2) := by
  unfold Ct
  intro prog p loose mean mg mb dp un gd cn cs aa ccd cl outer A₀ base h₀ L m s Q E B F X N T hk hdp hun hret

  ktr_call [("way", .str (Str.ofString "+") tw), ("own", .ref qa), ("worth", .ref qb)] 158
  k_steps
  cell_ask (useT, (plus_spec _ _ _ _ _ _ _ _ _ _ _ _ ha hb h1 (by lia) h3 (by lia) h5 h6))
  intro q9 t9 u9 h9 tk9 F9 N9 l9
  k_steps
  exact endT hret (by k_asm) (by k_asm) (by kcj_all) (by assumption) rfl rfl

theorem reckM_spec (w : World) (news : Led) (qa qb : Addr) (a sa b sb : Int) (t1 t2 t3 t4 tw : Tok) (ha : (qa, tup2 a sa t1 t2) ∈ news) (hb : (qb, tup2 b sb t3 t4) ∈ news)
    (h1 : 0 ≤ sa) (h2 : sa ≤ 15) (h3 : 0 ≤ sb) (h4 : sb ≤ 15) (h5 : bits a ≤ 1000) (h6 : bits b ≤ 1000)  :
    Ct w 158 6 64 news [.str (Str.ofString "-") tw, .ref qa, .ref qb] (RT news (dec (a * 10 ^ (max sa sb - sa).toNat - b * 10 ^ (max sa sb - sb).toNat) (max sa sb).toNat).1 (dec (a * 10 ^ (max sa sb - sa).toNat - b * 10 ^ (max sa sb - sb).toNat) (max sa sb).toNat).2) := by
  unfold Ct
  intro prog p loose mean mg mb dp un gd cn cs aa ccd cl outer A₀ base h₀ L m s Q E B F X N T hk hdp hun hret

  ktr_call [("way", .str (Str.ofString "-") tw), ("own", .ref qa), ("worth", .ref qb)] 158
  k_steps
  cell_ask (useT, (minus_spec _ _ _ _ _ _ _ _ _ _ _ _ ha hb h1 (by lia) h3 (by lia) h5 h6))
  intro q9 t9 u9 h9 tk9 F9 N9 l9
  k_steps
  exact endT hret (by k_asm) (by k_asm) (by kcj_all) (by assumption) rfl rfl

theorem reckT_spec (w : World) (news : Led) (qa qb : Addr) (a sa b sb : Int) (t1 t2 t3 t4 tw : Tok) (ha : (qa, tup2 a sa t1 t2) ∈ news) (hb : (qb, tup2 b sb t3 t4) ∈ news)
    (h1 : 0 ≤ sa) (h2 : sa ≤ 15) (h3 : 0 ≤ sb) (h4 : sb ≤ 15) (h5 : bits a ≤ 1000) (h6 : bits b ≤ 1000) (hs : decide (((a * b).natAbs : Int) < 10 ^ (120 : Int).toNat) = true) :
    Ct w 158 6 64 news [.str (Str.ofString "*") tw, .ref qa, .ref qb] (RT news (dec (a * b) (sa + sb).toNat).1 (dec (a * b) (sa + sb).toNat).2) := by
  unfold Ct
  intro prog p loose mean mg mb dp un gd cn cs aa ccd cl outer A₀ base h₀ L m s Q E B F X N T hk hdp hun hret

  ktr_call [("way", .str (Str.ofString "*") tw), ("own", .ref qa), ("worth", .ref qb)] 158
  k_steps
  cell_ask (useT, (times_spec _ _ _ _ _ _ _ _ _ _ _ _ ha hb h1 h2 h3 h4 h5 h6 hs))
  intro q9 t9 u9 h9 tk9 F9 N9 l9
  k_steps
  exact endT hret (by k_asm) (by k_asm) (by kcj_all) (by assumption) rfl rfl

theorem reckQ_spec (w : World) (news : Led) (qa qb : Addr) (a sa b sb : Int) (t1 t2 t3 t4 tw : Tok) (ha : (qa, tup2 a sa t1 t2) ∈ news) (hb : (qb, tup2 b sb t3 t4) ∈ news)
    (h1 : 0 ≤ sa) (h2 : sa ≤ 15) (h3 : 0 ≤ sb) (h4 : sb ≤ 15) (h5 : bits a ≤ 1000) (h6 : bits b ≤ 1000) (h0 : b ≠ 0) (h7 : b * 10 ^ sa.toNat ≠ 0) :
    Ct w 158 6 64 news [.str (Str.ofString "/") tw, .ref qa, .ref qb] (RT news (dec (rnd false (a * 10 ^ (30 + sb).toNat) (b * 10 ^ sa.toNat)) 30).1 (dec (rnd false (a * 10 ^ (30 + sb).toNat) (b * 10 ^ sa.toNat)) 30).2) := by
  unfold Ct
  intro prog p loose mean mg mb dp un gd cn cs aa ccd cl outer A₀ base h₀ L m s Q E B F X N T hk hdp hun hret

  ktr_call [("way", .str (Str.ofString "/") tw), ("own", .ref qa), ("worth", .ref qb)] 158
  k_steps
  cell_ask (useT, (quot_spec _ _ _ _ _ _ _ _ _ _ _ _ ha hb h1 (by lia) h3 (by lia) h5 h6 h0 h7))
  intro q9 t9 u9 h9 tk9 F9 N9 l9
  k_steps
  exact endT hret (by k_asm) (by k_asm) (by kcj_all) (by assumption) rfl rfl
end SOgW2
section SOgW3
open PySem PySem.W PyProof.Rows PySem.Calls
set_option maxRecDepth 100000
set_option maxHeartbeats 1000000

theorem codeHd355 {w : World} {h : Heap} (X : (hd.heap_1 w.params).In h) : CodeHd h 355 351 := by
  refine ⟨?o, ?vs, ?file, ?tf, ?flags, ?tg, ?inF, ?text, ?tt, X 355 ?o ?h1, ?h2, ?h3, ?h4, ?h5, ?h6, ?h7, ?h8, ?h9, by decide⟩
  case h1 => with_unfolding_all rfl
  case h2 => with_unfolding_all rfl
  case h3 => with_unfolding_all rfl
  case h4 => with_unfolding_all rfl
  case h5 => with_unfolding_all rfl
  case h6 => with_unfolding_all rfl
  case h7 => with_unfolding_all rfl
  case h8 => with_unfolding_all rfl
  case h9 => with_unfolding_all rfl
end SOgW3
section SOgW5
open PySem PySem.W PyProof.Rows PySem.Calls
set_option maxRecDepth 100000
set_option maxHeartbeats 1000000

theorem rs_OgW5 : True := by
  w_top off
  trivial
/-- the body of a def of the written heap -/
noncomputable def bodyOf (w : World) (f : Addr) : List Stmt := match (hd.heap_1 w.params).lookup f with
  | some ⟨_, _, .func fd, _⟩ => (match fd.body with | .stmts b => b | _ => [])
  | _ => []
/-- the function object that the first statement of _law_reckoned makes -/
noncomputable def keepO (w : World) (qual : Str) (cells : List (Str × Addr)) (doc pm : Value) (c : Addr) (ct : Value) : Obj := match bodyOf w 356 with
  | .FunctionDef name args body _ _ _ scope _ _ _ :: _ => fnMade name qual args body scope cells doc pm c ct
  | _ => { cls := .none, data := .plain }
noncomputable abbrev tupS (a b : Str) (t u : Tok) : Obj := { cls := .type "tuple", data := .seq #[.str a t, .str b u] }
namespace GSOgW5
theorem secOgW5 : True := trivial
end GSOgW5
open GSOgW5
theorem wd29 : True := by
  k_with "eval Name" => ((guard_expr secOgW5 =ₛ secOgW5); (k_here; k_dflt (refine' nameX_F ?ogn1z86 ?ogn2z86 ?ogn3z86 ?ogn4z86 ?_ ?ogn5z86 ?ogn6z86; (case ogn5z86 => rfl); (case ogn6z86 => rfl); (case ogn1z86 => k_asm); (case ogn2z86 => rfl); (case ogn3z86 => k_mem); (case ogn4z86 => k_asm); k_whole)))
  k_with "subscriptTail" => ((guard_expr secOgW5 =ₛ secOgW5); (k_here; (with_reducible show wpAny _ _ (subscriptTail _ _ (Value.ref _) (Value.str _ _)) _ _ _); k_dflt (refine' kda_item (knd := PySem.strKind _ _) ?ogd1z87 ?ogd2z87 ?ogd3z87 (strKind_is _ _ _ _) ?ogd4z87 ?_; (case ogd1z87 => k_asm); (case ogd2z87 => k_mem); (case ogd3z87 => first | assumption | exact (by assumption : ∀ _, _) _); (case ogd4z87 => assumption); k_whole)))
  k_with "call ref" => ((guard_expr secOgW5 =ₛ secOgW5); (k_here; (with_reducible show wpAny _ _ (call (Value.ref 144) _) _ _ _); cell_ask (useI, (unitsAt_spec _ _ _ _ _ _ _ _ _ _ (by k_mem) (by omega) (by omega) (by omega) (by omega) (by assumption))); intro t9z88 h9z88 tk9z88 F9z88 N9z88; (try k_sweep); (try dsimp only); (try k_fold)))
  k_with "call ref" => ((guard_expr secOgW5 =ₛ secOgW5); (k_here; (with_reducible show wpAny _ _ (call (Value.ref 151) _) _ _ _); cell_ask (useB, (fits_spec _ _ _ _ _ _ (by omega) (by omega))); intro h9z89 tk9z89 F9z89 N9z89; (try k_sweep); (try dsimp only); (try k_fold)))
  k_with "call ref" => ((guard_expr secOgW5 =ₛ secOgW5); (k_here; (with_reducible show wpAny _ _ (call (Value.ref 274) _) _ _ _); cell_ask (useY, (octo_spec _ _ _ _ _ _ _ _ _ _ _ _ _ (by k_mem) (by k_mem) (by omega) (by omega) (by omega) (by omega) _ _)); intro t9z90 h9z90 tk9z90 F9z90 N9z90; (try k_sweep); (try dsimp only); (try k_fold)))
  k_with "setItem ref str" => ((guard_expr secOgW5 =ₛ secOgW5); (k_here; (with_reducible show wpAny _ _ (setItem (Value.ref _) (Value.str _ _) _) _ _ _); k_dflt (refine' kda_set (knd := PySem.strKind _ _) ?ogs1z91 ?ogs2z91 ?ogs3z91 ?ogs4z91 (strKind_is _ _ _ _) ?ogs5z91 ?_; (case ogs1z91 => k_asm); (case ogs2z91 => k_asm); (case ogs3z91 => k_updF); (case ogs4z91 => assumption); (case ogs5z91 => assumption); k_whole); intro h'z91 o'z91 F'z91 N'z91 hd'z91))
  trivial
theorem pairs_prog {prog prog' : Program} {w : World} : ∀ {es : List DictEntry} {kvs : List (Str × Value)}, PySem.Pairs (PySem.strKind prog w) es kvs → PySem.Pairs (PySem.strKind prog' w) es kvs
  | _, _, .nil => .nil
  | _, _, .cons a b c => .cons a b (pairs_prog c)
theorem isDict_prog {prog prog' : Program} {w : World} {o : Obj} {kvs : List (Str × Value)} (h : o.IsDictOf (PySem.strKind prog w) kvs) : o.IsDictOf (PySem.strKind prog' w) kvs := by
  obtain ⟨es, ep, a, b, c, d, e⟩ := h
  exact ⟨es, ep, a, b, c, pairs_prog d, e⟩
/-- keep's answer: whether the units do not fit; the memory with the octets put in where they fit -/
noncomputable def RKp (w : World) (md : Addr) (rest : Led) (nm : Str) (mps : List (Str × Value)) (un : Int) (digits size : Int) (usage sign : Str) (sep signed : Bool) (r : Value) (n : Led) : Prop :=
  r = .bool (!decide ((un.natAbs : Int) < 10 ^ digits.toNat)) ∧ ∃ mo' tk, n = (md, mo') :: rest ∧ ∀ prog, mo'.IsDictOf (PySem.strKind prog w) (if decide ((un.natAbs : Int) < 10 ^ digits.toNat) = true then PySem.stored mps nm (.bytes (byteArr (octS digits size usage sign sep signed un)) tk) else mps)
theorem keep_spec (w : World) (rest : Led) (kf c1 cm cs md sd rf q x dx : Addr) (doc pm ct : Value) (oc o1 o2 : Obj) (cvs : Array Value) (ctk : Tok) (nm : Str) (ta tb t1 t2 : Tok) (u s : Int) (r : Bool)
    (k v : Nat → Tok) (digits scale size : Int) (usage sign : Str) (sep signed : Bool)
    (h1 : (kf, keepO w (Str.ofString "_law_reckoned.<locals>.keep") [("shapes", cs), ("memory", cm)] doc pm c1 ct) ∈ rest) (h2 : (c1, oc) ∈ rest) (h3 : oc.data = .fields cvs) (h4 : cvs[1]? = some (.str (Str.ofString "_law_reckoned.<locals>.keep") ctk))
    (h5 : (cm, o1) ∈ rest) (h6 : o1.data = .cell (some (.ref md))) (h7 : (cs, o2) ∈ rest) (h8 : o2.data = .cell (some (.ref sd)))
    (mo so : Obj) (h10 : (sd, so) ∈ rest) (mps sps : List (Str × Value)) (hmd : ∀ prog, mo.IsDictOf (PySem.strKind prog w) mps) (hsd : ∀ prog, so.IsDictOf (PySem.strKind prog w) sps) (hx : valueAt sps nm = some (.ref x)) (hml : mps.length ≤ sizeLine) (hne : ∀ p ∈ rest, p.1 ≠ md)
    (wf : WfS digits scale size usage sep signed) (hb0 : 0 ≤ s) (hb1 : s ≤ 100) (hb2 : bits u ≤ 1000) (h11 : (rf, tupS (Str.ofString "ref") nm ta tb) ∈ rest) (h12 : (q, tup2 u s t1 t2) ∈ rest) (h13 : (x, instObj 204 dx) ∈ rest) (h14 : (dx, shD w k v digits scale size usage sign sep signed) ∈ rest)
    : Ct w kf 6 64 ((md, mo) :: rest) [.ref rf, .ref q, .bool r] (RKp w md rest nm mps (unitsAt u s.toNat scale.toNat r) digits size usage sign sep signed) := by
  unfold Ct
  intro prog p loose mean mg mb dp un gd cn cs aa ccd cl outer A₀ base h₀ L m s Q E B F X N T hk hdp hun hret

  have hmd' := hmd prog
  obtain ⟨hz0, hz1⟩ := wf_size wf
  have wf' := wf
  obtain ⟨wa, wb, wc, wd, we⟩ := wf'
  have hsd' := hsd prog
  refine wpAny_call ?_
  refine' code_nest ?k1 ?k2 ?k3 ?k4 ?k5 ?kA ?kF ?kK ?k6 ?k7 ?k8 ?k9 ?kB ?_ ?c2 ?c3 ?c4 ?c5
  case kA => exact rfl
  case kF => exact rfl
  case kK => assumption
  case k1 => k_asm
  case k2 => k_asm
  case k3 => k_asm
  case k4 => k_asm
  case k5 => k_asm
  case k6 => with_unfolding_all exact List.Mem.tail _ h1
  case k7 => exact codeRec_news N (.tail _ h2) h3 h4
  case k8 => ktr_room
  case k9 => exact BindsTo.of_eq rfl
  case c5 => decide
  case kB => exact locs rfl
  case c2 => exact rfl
  case c3 => exact rfl
  case c4 => exact rfl
  k_whole
  intro g' L' h' FG' F' N' B' X' T'
  (try dsimp only)
  (try k_lift B')
  (try k_fold)
  k_steps
  · refine' hret _ _ _ _ ⟨rfl, ?om, ?otk, rfl, ?ofd⟩ (by k_asm) (by k_asm)
    case ofd =>
      intro pr
      rw [if_pos (by first | assumption | exact decide_eq_true (by assumption) | (simp_all; done) | (simp; lia))]
      exact isDict_prog (by assumption)
  · refine hret _ ((md, mo) :: rest) _ _ ⟨rfl, mo, 0, rfl, fun pr => ?_⟩ (by k_asm) (by k_asm)
    rw [if_neg (by first | assumption | (intro hc; exact absurd (of_decide_eq_true hc) (by assumption)) | (intro hc; have hc := of_decide_eq_true hc; lia))]
    exact hmd pr
end SOgW5
section SOgW6
open PySem PySem.W PyProof.Rows PySem.Calls
set_option maxRecDepth 100000
set_option maxHeartbeats 1000000

theorem rs_OgW6 : True := by
  w_top off
  trivial
namespace GSOgW6
theorem secOgW6 : True := trivial
end GSOgW6
open GSOgW6
theorem wd30 : True := by
  k_with "eval Name" => ((guard_expr secOgW6 =ₛ secOgW6); (k_here; k_dflt (refine' nameX_F ?ogn1z86 ?ogn2z86 ?ogn3z86 ?ogn4z86 ?_ ?ogn5z86 ?ogn6z86; (case ogn5z86 => rfl); (case ogn6z86 => rfl); (case ogn1z86 => k_asm); (case ogn2z86 => rfl); (case ogn3z86 => k_mem); (case ogn4z86 => k_asm); k_whole)))
  k_with "subscriptTail" => ((guard_expr secOgW6 =ₛ secOgW6); (k_here; (with_reducible show wpAny _ _ (subscriptTail _ _ (Value.ref _) (Value.str _ _)) _ _ _); k_dflt (refine' kda_item (knd := PySem.strKind _ _) ?ogd1z87 ?ogd2z87 ?ogd3z87 (strKind_is _ _ _ _) ?ogd4z87 ?_; (case ogd1z87 => k_asm); (case ogd2z87 => k_mem); (case ogd3z87 => first | assumption | exact (by assumption : ∀ _, _) _); (case ogd4z87 => assumption); k_whole)))
  k_with "call ref" => ((guard_expr secOgW6 =ₛ secOgW6); (k_here; (with_reducible show wpAny _ _ (call (Value.ref 144) _) _ _ _); cell_ask (useI, (unitsAt_spec _ _ _ _ _ _ _ _ _ _ (by k_mem) (by omega) (by omega) (by omega) (by omega) (by assumption))); intro t9z88 h9z88 tk9z88 F9z88 N9z88; (try k_sweep); (try dsimp only); (try k_fold)))
  k_with "call ref" => ((guard_expr secOgW6 =ₛ secOgW6); (k_here; (with_reducible show wpAny _ _ (call (Value.ref 151) _) _ _ _); cell_ask (useB, (fits_spec _ _ _ _ _ _ (by omega) (by omega))); intro h9z89 tk9z89 F9z89 N9z89; (try k_sweep); (try dsimp only); (try k_fold)))
  k_with "call ref" => ((guard_expr secOgW6 =ₛ secOgW6); (k_here; (with_reducible show wpAny _ _ (call (Value.ref 274) _) _ _ _); cell_ask (useY, (octo_spec _ _ _ _ _ _ _ _ _ _ _ _ _ (by k_mem) (by k_mem) (by omega) (by omega) (by omega) (by omega) _ _)); intro t9z90 h9z90 tk9z90 F9z90 N9z90; (try k_sweep); (try dsimp only); (try k_fold)))
  k_with "setItem ref str" => ((guard_expr secOgW6 =ₛ secOgW6); (k_here; (with_reducible show wpAny _ _ (setItem (Value.ref _) (Value.str _ _) _) _ _ _); k_dflt (refine' kda_set (knd := PySem.strKind _ _) ?ogs1z91 ?ogs2z91 ?ogs3z91 ?ogs4z91 (strKind_is _ _ _ _) ?ogs5z91 ?_; (case ogs1z91 => k_asm); (case ogs2z91 => k_asm); (case ogs3z91 => k_updF); (case ogs4z91 => assumption); (case ogs5z91 => assumption); k_whole); intro h'z91 o'z91 F'z91 N'z91 hd'z91))
  k_with "call ref" => ((guard_expr secOgW6 =ₛ secOgW6); (k_here; (with_reducible show wpAny _ _ (call (Value.ref 321) _) _ _ _); cell_ask (useT, (numin_spec _ _ _ _ _ _ _ _ _ _ _ _ _ (by k_mem) (by k_mem) (by assumption) _ (by assumption) _)); intro q9z92 t9z92 u9z92 h9z92 tk9z92 F9z92 N9z92 l9z92; (try k_lt l9z92); (try k_sweep); (try dsimp only); (try k_fold)))
  trivial
/-- the function object that the lambda of _law_reckoned makes -/
noncomputable def lamO (w : World) (qual : Str) (cells : List (Str × Addr)) (pm : Value) (c : Addr) (ct : Value) : Obj := match bodyOf w 356 with
  | [_, .Return (some (.Call _ [_, _, .Lambda args body scope _, _] _ _)) _] => kla_obj (Str.ofString "<lambda>") qual args body scope cells pm c ct
  | _ => { cls := .none, data := .plain }
theorem lam_spec (w : World) (news : Led) (lf c2 cm cs md sd rf x dx : Addr) (pm ct : Value) (qual : Str) (oc o1 o2 mo so : Obj) (cvs : Array Value) (ctk : Tok) (nm : Str) (ta tb : Tok) 
    (k v : Nat → Tok) (digits scale size : Int) (usage sign : Str) (sep signed : Bool) (u : Int) (tk : Tok) (mps sps : List (Str × Value))
    (h1 : (lf, lamO w qual [("shapes", cs), ("memory", cm)] pm c2 ct) ∈ news) (h2 : (c2, oc) ∈ news) (h3 : oc.data = .fields cvs) (h4 : cvs[1]? = some (.str qual ctk))
    (h5 : (cm, o1) ∈ news) (h6 : o1.data = .cell (some (.ref md))) (h7 : (cs, o2) ∈ news) (h8 : o2.data = .cell (some (.ref sd)))
    (h9 : (md, mo) ∈ news) (h10 : (sd, so) ∈ news) (h11 : (rf, tupS (Str.ofString "ref") nm ta tb) ∈ news) (h13 : (x, instObj 204 dx) ∈ news) (h14 : (dx, shD w k v digits scale size usage sign sep signed) ∈ news)
    (hmd : ∀ prog, mo.IsDictOf (PySem.strKind prog w) mps) (hsd : ∀ prog, so.IsDictOf (PySem.strKind prog w) sps) (hx : valueAt sps nm = some (.ref x)) (hm : valueAt mps nm = some (.bytes (byteArr (octS digits size usage sign sep signed u)) tk))
    (wf : WfS digits scale size usage sep signed) (hu : Fit digits signed u) : Ct w lf 6 64 news [.ref rf] (RT news (dec u scale.toNat).1 (dec u scale.toNat).2) := by
  unfold Ct
  intro prog p loose mean mg mb dp un gd cn cs aa ccd cl outer A₀ base h₀ L m s Q E B F X N T hk hdp hun hret

  have hmd' := hmd prog
  have hsd' := hsd prog
  refine wpAny_call ?_
  refine' kla_code ?k1 ?k2 ?k3 ?k4 ?k5 ?kA ?kF ?kK ?k6 ?k7 ?k8 ?k9 ?kB ?_ ?c2 ?c3 ?c4 ?c5
  case kA => exact rfl
  case kF => exact rfl
  case kK => assumption
  case k1 => k_asm
  case k2 => k_asm
  case k3 => k_asm
  case k4 => k_asm
  case k5 => k_asm
  case k6 => with_unfolding_all exact h1
  case k7 => exact codeRec_news N h2 h3 h4
  case k8 => ktr_room
  case k9 => exact rfl
  case c5 => decide
  case kB => exact locs rfl
  case c2 => exact rfl
  case c3 => exact rfl
  case c4 => exact rfl
  k_whole
  intro g' L' h' FG' F' N' B' X' T'
  (try dsimp only)
  (try k_lift B')
  (try k_fold)
  k_steps
  exact endT hret (by k_asm) (by k_asm) (by kcj_all) (by assumption) rfl rfl
end SOgW6
section SOgPJ
theorem ten_add (a b : Nat) : (10 : Int) ^ (a + b) = 10 ^ a * 10 ^ b := Int.pow_add 10 a b
theorem ten_sub {a b : Nat} (h : b ≤ a) : (10 : Int) ^ (a - b) * 10 ^ b = 10 ^ a := by rw [← ten_add]; congr 1; lia
/-- the units of a decimal at a scale -/
theorem unitsAt_dec (X : Int) (M k : Nat) (r : Bool) : unitsAt (dec X M).1 (dec X M).2 k r = rnd r (X * 10 ^ k) (10 ^ M) := by
  obtain ⟨h1, h2⟩ := dec_val M X
  rw [unitsAt_rnd]
  refine rnd_cross r _ _ _ _ (pow10_ne _) (pow10_ne _) ?_
  have e := ten_sub h2
  generalize (10 : Int) ^ (M - (dec X M).2) = D at *
  rw [← e]
  conv => rhs; rw [← h1]
  grind
theorem join_add (u wu : Int) (k ws : Nat) (r : Bool) :
    unitsAt (dec ((dec u k).1 * 10 ^ (max (dec u k).2 ws - (dec u k).2) + wu * 10 ^ (max (dec u k).2 ws - ws)) (max (dec u k).2 ws)).1 (dec ((dec u k).1 * 10 ^ (max (dec u k).2 ws - (dec u k).2) + wu * 10 ^ (max (dec u k).2 ws - ws)) (max (dec u k).2 ws)).2 k r
      = rnd r ((u * 10 ^ ws + wu * 10 ^ k) * 10 ^ k) (10 ^ k * 10 ^ ws) := by
  obtain ⟨h1, h2⟩ := dec_val k u
  rw [unitsAt_dec]
  refine rnd_cross r _ _ _ _ (pow10_ne _) (Int.mul_ne_zero (pow10_ne _) (pow10_ne _)) ?_
  generalize (dec u k).1 = o at *
  generalize (dec u k).2 = os at *
  have e1 := ten_sub (show os ≤ max os ws by lia)
  have e2 := ten_sub (show ws ≤ max os ws by lia)
  have e3 := ten_sub h2
  generalize (10 : Int) ^ (max os ws - os) = A at *
  generalize (10 : Int) ^ (max os ws - ws) = B at *
  generalize (10 : Int) ^ (k - os) = D at *
  generalize (10 : Int) ^ (max os ws) = M at *
  generalize (10 : Int) ^ os = O at *
  generalize (10 : Int) ^ ws = W at *
  generalize (10 : Int) ^ k = K at *
  subst h1
  grind
theorem join_sub (u wu : Int) (k ws : Nat) (r : Bool) :
    unitsAt (dec ((dec u k).1 * 10 ^ (max (dec u k).2 ws - (dec u k).2) - wu * 10 ^ (max (dec u k).2 ws - ws)) (max (dec u k).2 ws)).1 (dec ((dec u k).1 * 10 ^ (max (dec u k).2 ws - (dec u k).2) - wu * 10 ^ (max (dec u k).2 ws - ws)) (max (dec u k).2 ws)).2 k r
      = rnd r ((u * 10 ^ ws - wu * 10 ^ k) * 10 ^ k) (10 ^ k * 10 ^ ws) := by
  obtain ⟨h1, h2⟩ := dec_val k u
  rw [unitsAt_dec]
  refine rnd_cross r _ _ _ _ (pow10_ne _) (Int.mul_ne_zero (pow10_ne _) (pow10_ne _)) ?_
  generalize (dec u k).1 = o at *
  generalize (dec u k).2 = os at *
  have e1 := ten_sub (show os ≤ max os ws by lia)
  have e2 := ten_sub (show ws ≤ max os ws by lia)
  have e3 := ten_sub h2
  generalize (10 : Int) ^ (max os ws - os) = A at *
  generalize (10 : Int) ^ (max os ws - ws) = B at *
  generalize (10 : Int) ^ (k - os) = D at *
  generalize (10 : Int) ^ (max os ws) = M at *
  generalize (10 : Int) ^ os = O at *
  generalize (10 : Int) ^ ws = W at *
  generalize (10 : Int) ^ k = K at *
  subst h1
  grind
theorem join_mul (u wu : Int) (k ws : Nat) (r : Bool) :
    unitsAt (dec ((dec u k).1 * wu) ((dec u k).2 + ws)).1 (dec ((dec u k).1 * wu) ((dec u k).2 + ws)).2 k r = rnd r ((u * wu) * 10 ^ k) (10 ^ k * 10 ^ ws) := by
  obtain ⟨h1, h2⟩ := dec_val k u
  rw [unitsAt_dec]
  refine rnd_cross r _ _ _ _ (pow10_ne _) (Int.mul_ne_zero (pow10_ne _) (pow10_ne _)) ?_
  rw [ten_add]
  generalize (dec u k).1 = o at *
  generalize (dec u k).2 = os at *
  have e3 := ten_sub h2
  generalize (10 : Int) ^ (k - os) = D at *
  generalize (10 : Int) ^ os = O at *
  generalize (10 : Int) ^ ws = W at *
  generalize (10 : Int) ^ k = K at *
  subst h1
  grind
theorem join_div (u wu : Int) (k ws : Nat) (r : Bool) (hk : k ≤ 10) (hw : wu ≠ 0) :
    unitsAt (dec (rnd false ((dec u k).1 * 10 ^ (30 + ws)) (wu * 10 ^ (dec u k).2)) 30).1 (dec (rnd false ((dec u k).1 * 10 ^ (30 + ws)) (wu * 10 ^ (dec u k).2)) 30).2 k r = rnd r ((u * 10 ^ ws) * 10 ^ k) (10 ^ k * wu) := by
  obtain ⟨h1, h2⟩ := dec_val k u
  rw [unitsAt_dec]
  generalize (dec u k).1 = o at *
  generalize (dec u k).2 = os at *
  have hb : wu * 10 ^ os ≠ 0 := Int.mul_ne_zero hw (pow10_ne _)
  have e30 : (10 : Int) ^ 30 = 10 ^ (30 - k) * 10 ^ k := (ten_sub (show k ≤ 30 by lia)).symm
  rw [e30, rnd_scale r _ _ _ (pow10_ne k) (pow10_ne _)]
  obtain ⟨j, hj⟩ : ∃ j, 30 - k = j + 1 := ⟨29 - k, by lia⟩
  have hm : (10 : Int) ^ (30 - k) = 2 * ((5 * 10 ^ j : Nat) : Int) := by
    rw [hj, Int.pow_succ]; simp; lia
  have hmp : 0 < 5 * 10 ^ j := by have := Nat.pow_pos (n := j) (show 0 < 10 by decide); lia
  have C := rnd_cut r (o * 10 ^ (30 + ws)) (wu * 10 ^ os) (5 * 10 ^ j) hb hmp
  rw [← hm] at C
  rw [C]
  refine rnd_cross r _ _ _ _ (Int.mul_ne_zero hb (pow10_ne _)) (Int.mul_ne_zero (pow10_ne _) hw) ?_
  rw [ten_add, e30]
  have e3 := ten_sub h2
  generalize (10 : Int) ^ (30 - k) = T at *
  generalize (10 : Int) ^ (k - os) = D at *
  generalize (10 : Int) ^ os = O at *
  generalize (10 : Int) ^ ws = W at *
  generalize (10 : Int) ^ k = K at *
  subst h1
  grind
end SOgPJ
section SOgW7
open PySem PySem.W PyProof.Rows PySem.Calls
set_option maxRecDepth 100000
set_option maxHeartbeats 1000000
/-- what the two functions that _law_reckoned makes stand on: the objects beside memory in the ledger -/
noncomputable def KC (w : World) (rest : Led) (kf lf md : Addr) (so : Obj) : Prop :=
  ∃ (c1 c2 cm cs sd : Addr) (doc pm1 ct1 pm2 ct2 : Value) (q2 : Str) (oc1 oc2 o1 o2 : Obj) (v1 v2 : Array Value) (t1 t2 : Tok),
    (kf, keepO w (Str.ofString "_law_reckoned.<locals>.keep") [("shapes", cs), ("memory", cm)] doc pm1 c1 ct1) ∈ rest ∧ (c1, oc1) ∈ rest ∧ oc1.data = .fields v1 ∧ v1[1]? = some (.str (Str.ofString "_law_reckoned.<locals>.keep") t1) ∧
    (lf, lamO w q2 [("shapes", cs), ("memory", cm)] pm2 c2 ct2) ∈ rest ∧ (c2, oc2) ∈ rest ∧ oc2.data = .fields v2 ∧ v2[1]? = some (.str q2 t2) ∧
    (cm, o1) ∈ rest ∧ o1.data = .cell (some (.ref md)) ∧ (cs, o2) ∈ rest ∧ o2.data = .cell (some (.ref sd)) ∧ (sd, so) ∈ rest
theorem KC.mono {w : World} {rest rest' : Led} {kf lf md : Addr} {so : Obj} (h : KC w rest kf lf md so) (hs : ∀ p ∈ rest, p ∈ rest') : KC w rest' kf lf md so := by
  obtain ⟨c1, c2, cm, cs, sd, doc, pm1, ct1, pm2, ct2, q2, oc1, oc2, o1, o2, v1, v2, t1, t2, a1, a2, a3, a4, a5, a6, a7, a8, a9, a10, a11, a12, a13⟩ := h
  exact ⟨c1, c2, cm, cs, sd, doc, pm1, ct1, pm2, ct2, q2, oc1, oc2, o1, o2, v1, v2, t1, t2, hs _ a1, hs _ a2, a3, a4, hs _ a5, hs _ a6, a7, a8, hs _ a9, a10, hs _ a11, a12, hs _ a13⟩
theorem keep_KC {w : World} {rest : Led} {kf lf md : Addr} {mo so : Obj} (h : KC w rest kf lf md so) (rf q x dx : Addr) (nm : Str) (ta tb t1 t2 : Tok) (u s : Int) (r : Bool) (k v : Nat → Tok) (digits scale size : Int) (usage sign : Str) (sep signed : Bool)
    (mps sps : List (Str × Value)) (h11 : (rf, tupS (Str.ofString "ref") nm ta tb) ∈ rest) (h12 : (q, tup2 u s t1 t2) ∈ rest) (h13 : (x, instObj 204 dx) ∈ rest) (h14 : (dx, shD w k v digits scale size usage sign sep signed) ∈ rest)
    (hmd : ∀ prog, mo.IsDictOf (PySem.strKind prog w) mps) (hsd : ∀ prog, so.IsDictOf (PySem.strKind prog w) sps) (hx : valueAt sps nm = some (.ref x)) (hml : mps.length ≤ sizeLine) (hne : ∀ p ∈ rest, p.1 ≠ md)
    (wf : WfS digits scale size usage sep signed) (hb0 : 0 ≤ s) (hb1 : s ≤ 100) (hb2 : bits u ≤ 1000) :
    Ct w kf 6 64 ((md, mo) :: rest) [.ref rf, .ref q, .bool r] (RKp w md rest nm mps (unitsAt u s.toNat scale.toNat r) digits size usage sign sep signed) := by
  obtain ⟨c1, c2, cm, cs, sd, doc, pm1, ct1, pm2, ct2, q2, oc1, oc2, o1, o2, v1, v2, tt1, tt2, a1, a2, a3, a4, a5, a6, a7, a8, a9, a10, a11, a12, a13⟩ := h
  apply keep_spec (c1 := c1) (cm := cm) (cs := cs) (sd := sd) (x := x) (dx := dx) (doc := doc) (pm := pm1) (ct := ct1) (oc := oc1) (o1 := o1) (o2 := o2) (cvs := v1) (ctk := tt1) (ta := ta) (tb := tb) (t1 := t1) (t2 := t2) (k := k) (v := v) (mps := mps) (sps := sps) (so := so) <;> assumption
theorem lam_KC {w : World} {rest : Led} {kf lf md : Addr} {mo so : Obj} (h : KC w rest kf lf md so) (rf x dx : Addr) (nm : Str) (ta tb : Tok) (k v : Nat → Tok) (digits scale size : Int) (usage sign : Str) (sep signed : Bool) (u : Int) (tk : Tok)
    (mps sps : List (Str × Value)) (h11 : (rf, tupS (Str.ofString "ref") nm ta tb) ∈ rest) (h13 : (x, instObj 204 dx) ∈ rest) (h14 : (dx, shD w k v digits scale size usage sign sep signed) ∈ rest)
    (hmd : ∀ prog, mo.IsDictOf (PySem.strKind prog w) mps) (hsd : ∀ prog, so.IsDictOf (PySem.strKind prog w) sps) (hx : valueAt sps nm = some (.ref x)) (hm : valueAt mps nm = some (.bytes (byteArr (octS digits size usage sign sep signed u)) tk))
    (wf : WfS digits scale size usage sep signed) (hu : Fit digits signed u) :
    Ct w lf 6 64 ((md, mo) :: rest) [.ref rf] (RT ((md, mo) :: rest) (dec u scale.toNat).1 (dec u scale.toNat).2) := by
  obtain ⟨c1, c2, cm, cs, sd, doc, pm1, ct1, pm2, ct2, q2, oc1, oc2, o1, o2, v1, v2, tt1, tt2, a1, a2, a3, a4, a5, a6, a7, a8, a9, a10, a11, a12, a13⟩ := h
  exact lam_spec w _ lf c2 cm cs md sd rf x dx pm2 ct2 q2 oc2 o1 o2 mo so v2 tt2 nm ta tb k v digits scale size usage sign sep signed u tk mps sps (.tail _ a5) (.tail _ a6) a7 a8 (.tail _ a9) a10 (.tail _ a11) a12 (.head _) (.tail _ a13) (.tail _ h11) (.tail _ h13) (.tail _ h14) hmd hsd hx hm wf hu
end SOgW7
section SOgW8
open PySem PySem.W PyProof.Rows PySem.Calls
set_option maxRecDepth 100000
set_option maxHeartbeats 1000000

theorem rs_OgW8 : True := by
  w_top off
  trivial
theorem useR {w : World} {f : Addr} {dd uu : Nat} {news : Led} {vs : List Value} {R : Value → Led → Prop} {prog : Program} {p : Program} {loose : List Str} {mean : ExcName → Option Value} {mg mb : Str → Option Value}
    {dp un : Nat} {gd : Option (List Code)} {cn : Str} {cs : Scope} {a : Addr} {ccd : Value} {cl : List (Str × Addr)} {outer : List Env} {A₀ : Around} {base h₀ : Heap} {L : Addr} {m : Str → Option Value} {s : Shared} {Q E : Value → Shared → Prop}
    (C : Ct w f dd uu news vs R) (B : Below A₀ base outer h₀) (F : Fr h₀ L s.heap m) (X : (hd.heap_1 w.params).In h₀) (N : News h₀ L s.heap news) (T : Top p loose mean mg mb h₀) (hk : cs.kind = .function) (hd : dp + dd < recursionLimit) (hu : un + uu < cLine)
    (h : ∀ (r : Value) (n : Led) (h' : Heap) (tk' : Nat), R r n → Fr h₀ L h' m → News h₀ L h' n → Q r { s with heap := h', toks := tk' }) :
    wpAny (model prog w) (ktrTop dp un gd cn cs L a ccd cl outer) (call (.ref f) vs) Q E s :=
  C prog p loose mean mg mb dp un gd cn cs a ccd cl outer A₀ base h₀ L m s Q E B F X N T hk hd hu h
noncomputable abbrev tupR (rf : Addr) (r : Bool) (way : Str) (tw : Tok) : Obj := { cls := .type "tuple", data := .seq #[.ref rf, .bool r, .str way tw] }
theorem KC.fnK {w : World} {rest : Led} {kf lf md : Addr} {so : Obj} (h : KC w rest kf lf md so) : ∃ oc od fd sl, (kf, (⟨oc, od, .func fd, sl⟩ : Obj)) ∈ rest := by
  obtain ⟨c1, c2, cm, cs, sd, doc, pm1, ct1, pm2, ct2, q2, oc1, oc2, o1, o2, v1, v2, t1, t2, a1, _⟩ := h
  exact ⟨_, _, _, _, by with_unfolding_all exact a1⟩
theorem KC.fnL {w : World} {rest : Led} {kf lf md : Addr} {so : Obj} (h : KC w rest kf lf md so) : ∃ oc od fd sl, (lf, (⟨oc, od, .func fd, sl⟩ : Obj)) ∈ rest := by
  obtain ⟨c1, c2, cm, cs, sd, doc, pm1, ct1, pm2, ct2, q2, oc1, oc2, o1, o2, v1, v2, t1, t2, a1, a2, a3, a4, a5, _⟩ := h
  exact ⟨_, _, _, _, by with_unfolding_all exact a5⟩
namespace GSOgW8
theorem secOgW8 : True := trivial
end GSOgW8
open GSOgW8
theorem wd31 : True := by
  k_with "callWith ref" => ((guard_expr secOgW8 =ₛ secOgW8); (k_here; k_dflt (refine' callWith_F ?ogc1z93 ?_; (case ogc1z93 => exact FnAt.of (by k_asm) (by k_mem)); k_whole)))
  k_with "And" => ((guard_expr secOgW8 =ₛ secOgW8); ((with_reducible show FnAt _ _ ∧ _); refine ⟨FnAt.of (by k_asm) (by k_mem), ?_⟩; try dsimp only [List.nil_append, List.cons_append]))
  trivial
theorem putE_spec (w : World) (rest : Led) (kf lf md rq qw rf x dx : Addr) (mo so : Obj) (hK : KC w rest kf lf md so) (nm : Str) (ta tb tw t1 t2 : Tok) (wu ws : Int) (r : Bool) (k v : Nat → Tok) (digits scale size : Int) (usage sign : Str) (sep signed : Bool)
    (mps sps : List (Str × Value)) (h10 : (rq, tupR rf r (Str.ofString "=") tw) ∈ rest) (h11 : (rf, tupS (Str.ofString "ref") nm ta tb) ∈ rest) (h12 : (qw, tup2 wu ws t1 t2) ∈ rest) (h13 : (x, instObj 204 dx) ∈ rest) (h14 : (dx, shD w k v digits scale size usage sign sep signed) ∈ rest)
    (hmd : ∀ prog, mo.IsDictOf (PySem.strKind prog w) mps) (hsd : ∀ prog, so.IsDictOf (PySem.strKind prog w) sps) (hx : valueAt sps nm = some (.ref x)) (hml : mps.length ≤ sizeLine) (hne : ∀ p ∈ rest, p.1 ≠ md)
    (wf : WfS digits scale size usage sep signed) (hb0 : 0 ≤ ws) (hb1 : ws ≤ 10) (hb2 : bits wu ≤ 1000) :
    Ct w 165 8 96 ((md, mo) :: rest) [.ref rq, .ref qw, .ref lf, .ref kf] (RKp w md rest nm mps (unitsAt wu ws.toNat scale.toNat r) digits size usage sign sep signed) := by
  unfold Ct
  intro prog p loose mean mg mb dp un gd cn cs aa ccd cl outer A₀ base h₀ L m s Q E B F X N T hk hdp hun hret

  have C1 := keep_KC (mo := mo) hK rf qw x dx nm ta tb t1 t2 wu ws r k v digits scale size usage sign sep signed mps sps h11 h12 h13 h14 hmd hsd hx hml hne wf hb0 (by lia) hb2
  obtain ⟨ock, odk, fdk, slk, hfk⟩ := hK.fnK
  ktr_call [("row", .ref rq), ("worth", .ref qw), ("number", .ref lf), ("keep", .ref kf)] 165
  k_steps
  (show wpAny _ _ (call (Value.ref kf) [Value.ref rf, Value.ref qw, Value.bool r]) _ _ _)
  cell_ask (useR, C1)
  intro rr nn hh tt RR FF NN
  obtain ⟨e1, mo', tk', e2, e3⟩ := RR
  subst e1 e2
  k_steps
  exact hret _ _ _ _ ⟨rfl, mo', tk', rfl, e3⟩ (by k_asm) (by k_asm)
end SOgW8
section SOgRW
open PySem PySem.W PyProof.Rows PySem.Calls
set_option maxRecDepth 100000
/-- a name of the law with its shape -/
structure Rec where
  nm : Str
  x : Addr
  dx : Addr
  k : Nat → Tok
  v : Nat → Tok
  digits : Int
  scale : Int
  size : Int
  usage : Str
  sign : Str
  sep : Bool
  signed : Bool
noncomputable abbrev Rec.Wf (r : Rec) : Prop := WfS r.digits r.scale r.size r.usage r.sep r.signed
noncomputable abbrev Rec.oct (r : Rec) (u : Int) : List Int := octS r.digits r.size r.usage r.sign r.sep r.signed u
noncomputable abbrev Rec.In (w : World) (r : Rec) (l : Led) : Prop := (r.x, instObj 204 r.dx) ∈ l ∧ (r.dx, shD w r.k r.v r.digits r.scale r.size r.usage r.sign r.sep r.signed) ∈ l
noncomputable def spsOf (S : List Rec) : List (Str × Value) := S.map fun r => (r.nm, .ref r.x)
noncomputable def mpsOf (S : List Rec) (us : Str → Int) (tk : Str → Tok) : List (Str × Value) := S.map fun r => (r.nm, .bytes (byteArr (r.oct (us r.nm))) (tk r.nm))
noncomputable def dpsOf (S : List Rec) (us : Str → Int) (tk : Str → Tok) : List (Str × Value) := S.map fun r => (r.nm, .int (us r.nm) (tk r.nm))
noncomputable def setAt {α : Type} (f : Str → α) (nm : Str) (v : α) : Str → α := fun z => if z = nm then v else f z
theorem setAt_eq {α : Type} (f : Str → α) (nm : Str) (v : α) : setAt f nm v nm = v := if_pos rfl
theorem setAt_ne {α : Type} (f : Str → α) {nm z : Str} (v : α) (h : z ≠ nm) : setAt f nm v z = f z := if_neg h
theorem rec_inj {S : List Rec} {r r' : Rec} (hn : (S.map (·.nm)).Nodup) (h1 : r ∈ S) (h2 : r' ∈ S) (e : r'.nm = r.nm) : r' = r := by
  induction S with
  | nil => exact absurd h1 List.not_mem_nil
  | cons a S ih =>
    rw [List.map_cons, List.nodup_cons] at hn
    rcases List.mem_cons.mp h1 with e1 | h1
    · rcases List.mem_cons.mp h2 with e2 | h2
      · rw [e1, e2]
      · exact absurd (List.mem_map.mpr ⟨r', h2, by rw [e, e1]⟩) hn.1
    · rcases List.mem_cons.mp h2 with e2 | h2
      · exact absurd (List.mem_map.mpr ⟨r, h1, by rw [← e, e2]⟩) hn.1
      · exact ih hn.2 h1 h2
theorem value_map {f : Rec → Value} {S : List Rec} {r : Rec} (hn : (S.map (·.nm)).Nodup) (h : r ∈ S) : valueAt (S.map fun r => (r.nm, f r)) r.nm = some (f r) := by
  induction S with
  | nil => exact absurd h List.not_mem_nil
  | cons a S ih =>
    rw [List.map_cons, List.nodup_cons] at hn
    unfold valueAt
    rw [List.map_cons, List.find?_cons]
    by_cases e : a.nm = r.nm
    · have : a = r := by
        rcases List.mem_cons.mp h with h | h
        · exact h.symm
        · exact absurd (List.mem_map.mpr ⟨r, h, e.symm⟩) hn.1
      rw [this]
      simp
    · have h' : r ∈ S := by
        rcases List.mem_cons.mp h with h | h
        · exact absurd (by rw [h]) e
        · exact h
      have ih := ih hn.2 h'
      unfold valueAt at ih
      rw [decide_eq_false e]
      exact ih
theorem stored_map {f f' : Rec → Value} {S : List Rec} {r : Rec} {v : Value} (hn : (S.map (·.nm)).Nodup) (h : r ∈ S) (hv : f' r = v) (ho : ∀ r', r'.nm ≠ r.nm → f' r' = f r') :
    stored (S.map fun r => (r.nm, f r)) r.nm v = S.map fun r => (r.nm, f' r) := by
  unfold stored
  rw [if_pos (List.any_eq_true.mpr ⟨(r.nm, f r), List.mem_map.mpr ⟨r, h, rfl⟩, by simp⟩), List.map_map]
  refine List.map_congr_left fun r' hr' => ?_
  dsimp only [Function.comp]
  by_cases e : r'.nm = r.nm
  · rw [if_pos e]
    have := rec_inj hn h hr' e
    subst this
    rw [hv]
  · rw [if_neg e, ho r' e]
theorem stored_mps {S : List Rec} {us : Str → Int} {tk : Str → Tok} {r : Rec} {v : Int} {t : Tok} (hn : (S.map (·.nm)).Nodup) (h : r ∈ S) :
    stored (mpsOf S us tk) r.nm (.bytes (byteArr (r.oct v)) t) = mpsOf S (setAt us r.nm v) (setAt tk r.nm t) :=
  stored_map hn h (by rw [setAt_eq, setAt_eq]) fun r' e => by rw [setAt_ne _ _ e, setAt_ne _ _ e]
theorem stored_dps {S : List Rec} {us : Str → Int} {tk : Str → Tok} {r : Rec} {v : Int} {t : Tok} (hn : (S.map (·.nm)).Nodup) (h : r ∈ S) :
    stored (dpsOf S us tk) r.nm (.int v t) = dpsOf S (setAt us r.nm v) (setAt tk r.nm t) :=
  stored_map hn h (by rw [setAt_eq, setAt_eq]) fun r' e => by rw [setAt_ne _ _ e, setAt_ne _ _ e]
theorem stored_new {f : Rec → Value} {S : List Rec} {nm : Str} {v : Value} (h : nm ∉ S.map (·.nm)) : stored (S.map fun r => (r.nm, f r)) nm v = (S.map fun r => (r.nm, f r)) ++ [(nm, v)] := by
  unfold stored
  rw [if_neg]
  intro hc
  obtain ⟨p, hp, e⟩ := List.any_eq_true.mp hc
  obtain ⟨r, hr, rfl⟩ := List.mem_map.mp hp
  exact h (List.mem_map.mpr ⟨r, hr, by simpa using e⟩)
theorem map_app {f f' : Rec → Value} {S : List Rec} {r : Rec} (hr : r.nm ∉ S.map (·.nm)) (ho : ∀ r', r'.nm ≠ r.nm → f' r' = f r') : (S.map fun r => (r.nm, f r)) ++ [(r.nm, f' r)] = (S ++ [r]).map fun r => (r.nm, f' r) := by
  rw [List.map_append, List.map_singleton]
  congr 1
  refine List.map_congr_left fun r' hr' => ?_
  rw [ho r' (fun e => hr (List.mem_map.mpr ⟨r', hr', e⟩))]

/-- a row that the law draws -/
structure Row where
  rq : Addr
  rf : Addr
  rc : Rec
  rd : Bool
  way : Nat
  ta : Tok
  tb : Tok
  tw : Tok
noncomputable def wayS : Nat → Str
  | 0 => Str.ofString "="
  | 1 => Str.ofString "+"
  | 2 => Str.ofString "-"
  | 3 => Str.ofString "*"
  | _ => Str.ofString "/"
noncomputable def topOf (way : Nat) (u wu : Int) (k ws : Nat) : Int := match way with
  | 0 => wu
  | 1 => u * 10 ^ ws + wu * 10 ^ k
  | 2 => u * 10 ^ ws - wu * 10 ^ k
  | 3 => u * wu
  | _ => u * 10 ^ ws
noncomputable def botOf (way : Nat) (wu : Int) (k ws : Nat) : Int := match way with
  | 0 => 10 ^ ws
  | 1 => 10 ^ k * 10 ^ ws
  | 2 => 10 ^ k * 10 ^ ws
  | 3 => 10 ^ k * 10 ^ ws
  | _ => 10 ^ k * wu
noncomputable def rowRes (rc : Rec) (wu ws : Int) (rd : Bool) (way : Nat) (u : Int) : Option Int :=
  rowOf (topOf way u wu rc.scale.toNat ws.toNat) (botOf way wu rc.scale.toNat ws.toNat) rc.scale.toNat rc.digits.toNat rc.signed rd
noncomputable def stepR (wu ws : Int) (st : (Str → Int) × Bool) (row : Row) : (Str → Int) × Bool :=
  match rowRes row.rc wu ws row.rd row.way (st.1 row.rc.nm) with
  | none => (st.1, true)
  | some v => (setAt st.1 row.rc.nm v, st.2)
noncomputable def runR (wu ws : Int) (rows : List Row) (us : Str → Int) : (Str → Int) × Bool := rows.foldl (stepR wu ws) (us, false)
theorem runR_snoc (wu ws : Int) (rows : List Row) (row : Row) (us : Str → Int) : runR wu ws (rows ++ [row]) us = stepR wu ws (runR wu ws rows us) row := by
  unfold runR; rw [List.foldl_append]; rfl
noncomputable abbrev FitAll (S : List Rec) (us : Str → Int) : Prop := ∀ r ∈ S, Fit r.digits r.signed (us r.nm)
theorem rowOf_fit {top bot : Int} {sc : Nat} {digits : Int} {signed r : Bool} {v : Int} (h : rowOf top bot sc digits.toNat signed r = some v) : Fit digits signed v := by
  unfold rowOf at h
  split at h
  · cases h
  · split at h
    · cases h
    · next hb hd =>
      injection h with h
      subst h
      cases signed
      · simp only [Bool.false_eq_true, if_false]
        exact ⟨decide_eq_true (by simp only [Int.natAbs_natCast]; lia), fun _ => by lia⟩
      · simp only [if_true]
        exact ⟨decide_eq_true (by lia), fun h => by cases h⟩
theorem stepR_fit {S : List Rec} {wu ws : Int} {st : (Str → Int) × Bool} {row : Row} (hn : (S.map (·.nm)).Nodup) (h : FitAll S st.1) (hr : row.rc ∈ S) : FitAll S (stepR wu ws st row).1 := by
  unfold stepR
  split
  · exact h
  · next v hv =>
    intro r' hr'
    by_cases e : r'.nm = row.rc.nm
    · have := rec_inj hn hr hr' e
      rw [this]
      dsimp only
      rw [setAt_eq]
      exact rowOf_fit hv
    · dsimp only
      rw [setAt_ne _ _ e]
      exact h r' hr'
theorem octS_keep {digits size : Int} {usage sign : Str} {sep signed : Bool} {u : Int} : octS digits size usage sign sep signed u = octS digits size usage sign sep signed (if signed then u else (u.natAbs : Int)) := by
  cases signed
  · simp only [Bool.false_eq_true, if_false]
    have e : keptU u digits.toNat false = keptU (u.natAbs : Int) digits.toNat false := by unfold keptU; simp
    unfold octS octO
    rw [e]
  · rfl
/-- put_row's answer -/
noncomputable def RPut (w : World) (md : Addr) (rest : Led) (rc : Rec) (mps : List (Str × Value)) (o : Option Int) (r : Value) (n : Led) : Prop :=
  r = .bool o.isNone ∧ ∃ mo' tk, n = (md, mo') :: rest ∧ ∀ prog, mo'.IsDictOf (PySem.strKind prog w) (match o with | none => mps | some v => stored mps rc.nm (.bytes (byteArr (rc.oct v)) tk))
theorem pow10_nat (n : Nat) : ((10 ^ n : Nat) : Int) = 10 ^ n := Int.natCast_pow 10 n
end SOgRW
section SOgW9
open PySem PySem.W PyProof.Rows PySem.Calls
set_option maxRecDepth 100000
set_option maxHeartbeats 1000000

theorem rs_OgW9 : True := by
  w_top off
  trivial
namespace GSOgW9
theorem secOgW9 : True := trivial
end GSOgW9
open GSOgW9
theorem wd32 : True := by
  k_with "callWith ref" => ((guard_expr secOgW9 =ₛ secOgW9); (k_here; k_dflt (refine' callWith_F ?ogc1z93 ?_; (case ogc1z93 => exact FnAt.of (by k_asm) (by k_mem)); k_whole)))
  k_with "And" => ((guard_expr secOgW9 =ₛ secOgW9); ((with_reducible show FnAt _ _ ∧ _); refine ⟨FnAt.of (by k_asm) (by k_mem), ?_⟩; try dsimp only [List.nil_append, List.cons_append]))
  trivial
theorem sub3 {a b c : Addr × Obj} {l : Led} : ∀ p ∈ c :: a :: b :: l, p ∈ a :: b :: c :: l := fun p hp => by
  simp only [List.mem_cons] at hp ⊢
  rcases hp with h | h | h | h <;> simp [h]
theorem bits_rnd {a b : Int} {m : Nat} (_hb : b ≠ 0) (h : bits a ≤ m) : bits (rnd false a b) ≤ m := by
  refine intBits_le_of_natAbs ?_ h
  unfold rnd
  simp only [Bool.false_eq_true, if_false]
  have := Nat.div_le_self a.natAbs b.natAbs
  generalize a.natAbs / b.natAbs = q at *
  split <;> lia
theorem rput_of {w : World} {md : Addr} {rest : Led} {rc : Rec} {mps : List (Str × Value)} {top bot : Int} {rd : Bool} {r : Value} {n : Led} (hb : bot ≠ 0)
    (h : RKp w md rest rc.nm mps (rnd rd (top * 10 ^ rc.scale.toNat) bot) rc.digits rc.size rc.usage rc.sign rc.sep rc.signed r n) : RPut w md rest rc mps (rowOf top bot rc.scale.toNat rc.digits.toNat rc.signed rd) r n := by
  obtain ⟨e1, mo', tk, e2, e3⟩ := h
  unfold RPut rowOf
  rw [if_neg hb]
  by_cases hd : (10 : Int) ^ rc.digits.toNat ≤ ((rnd rd (top * 10 ^ rc.scale.toNat) bot).natAbs : Int)
  · rw [if_pos hd]
    have hd' : decide (((rnd rd (top * 10 ^ rc.scale.toNat) bot).natAbs : Int) < 10 ^ rc.digits.toNat) = false := decide_eq_false (by lia)
    rw [hd'] at e1 e3
    exact ⟨e1, mo', tk, e2, fun prog => by simpa using e3 prog⟩
  · rw [if_neg hd]
    have hd' : decide (((rnd rd (top * 10 ^ rc.scale.toNat) bot).natAbs : Int) < 10 ^ rc.digits.toNat) = true := decide_eq_true (by lia)
    rw [hd'] at e1 e3
    refine ⟨e1, mo', tk, e2, fun prog => ?_⟩
    have := e3 prog
    rw [if_pos rfl, octS_keep] at this
    exact this
theorem rkp_eq {w : World} {md : Addr} {rest : Led} {nm : Str} {mps : List (Str × Value)} {u u' digits size : Int} {usage sign : Str} {sep signed : Bool} {mo' : Obj} {tk : Tok} (e : u = u')
    (h : ∀ prog, mo'.IsDictOf (PySem.strKind prog w) (if decide ((u.natAbs : Int) < 10 ^ digits.toNat) = true then PySem.stored mps nm (.bytes (byteArr (octS digits size usage sign sep signed u)) tk) else mps)) :
    RKp w md rest nm mps u' digits size usage sign sep signed (.bool (!decide ((u.natAbs : Int) < 10 ^ digits.toNat))) ((md, mo') :: rest) := by
  subst e; exact ⟨rfl, mo', tk, rfl, h⟩
theorem t_add {X : Int} {M k : Nat} {r : Bool} : unitsAt (dec X M).1 ((dec X M).2 : Int).toNat k r = unitsAt (dec X M).1 (dec X M).2 k r := by rw [Int.toNat_natCast]

theorem dec_sc {u sc : Int} (h : sc ≤ 10) : ((dec u sc.toNat).2 : Int) ≤ 15 := by have := (dec_val sc.toNat u).2; lia
theorem putP_spec (w : World) (rest : Led) (kf lf md rq qw rf : Addr) (mo so : Obj) (hK : KC w rest kf lf md so) (rc : Rec) (ta tb tw t1 t2 : Tok) (wu ws : Int) (r : Bool) (u : Int) (tk : Tok)
    (mps sps : List (Str × Value)) (h10 : (rq, tupR rf r (Str.ofString "+") tw) ∈ rest) (h11 : (rf, tupS (Str.ofString "ref") rc.nm ta tb) ∈ rest) (h12 : (qw, tup2 wu ws t1 t2) ∈ rest) (hin : rc.In w rest)
    (hmd : ∀ prog, mo.IsDictOf (PySem.strKind prog w) mps) (hsd : ∀ prog, so.IsDictOf (PySem.strKind prog w) sps) (hx : valueAt sps rc.nm = some (.ref rc.x)) (hm : valueAt mps rc.nm = some (.bytes (byteArr (rc.oct u)) tk)) (hml : mps.length ≤ sizeLine) (hne : ∀ p ∈ rest, p.1 ≠ md)
    (wf : rc.Wf) (hu : Fit rc.digits rc.signed u) (hb0 : 0 ≤ ws) (hb1 : ws ≤ 10) (hb2 : bits wu ≤ 64) (hbu : bits (dec u rc.scale.toNat).1 ≤ 64) :
    Ct w 165 9 128 ((md, mo) :: rest) [.ref rq, .ref qw, .ref lf, .ref kf] (RPut w md rest rc mps (rowRes rc wu ws r 1 u)) := by
  unfold Ct
  intro prog p loose mean mg mb dp un gd cn cs aa ccd cl outer A₀ base h₀ L m s Q E B F X N T hk hdp hun hret

  obtain ⟨h13, h14⟩ := hin
  obtain ⟨wsn, rfl⟩ := Int.eq_ofNat_of_zero_le hb0
  have C1 := lam_KC (mo := mo) hK rf rc.x rc.dx rc.nm ta tb rc.k rc.v rc.digits rc.scale rc.size rc.usage rc.sign rc.sep rc.signed u tk mps sps h11 h13 h14 hmd hsd hx hm wf hu
  obtain ⟨ock, odk, fdk, slk, hfk⟩ := hK.fnK
  obtain ⟨ocl, odl, fdl, sll, hfl⟩ := hK.fnL
  ktr_call [("row", .ref rq), ("worth", .ref qw), ("number", .ref lf), ("keep", .ref kf)] 165
  k_steps
  (show wpAny _ _ (call (Value.ref lf) [Value.ref rf]) _ _ _)
  cell_ask (useT, C1)
  intro q9 t9 u9 h9 tk9 F9 N9 l9
  have l9' := l9
  k_lt l9
  have hd2 := (dec_val rc.scale.toNat u).2
  have hs1 := wf.2.2.2.1
  have hs0 := wf.2.2.1
  k_steps
  cell_ask (useT, (reckP_spec w _ q9 qw (dec u rc.scale.toNat).1 (dec u rc.scale.toNat).2 wu wsn _ _ t1 t2 tw (.head _) (.tail _ (.tail _ h12)) (Int.natCast_nonneg _) (dec_sc hs1) hb0 (Int.le_trans hb1 (by decide)) (Nat.le_trans hbu (by decide)) (Nat.le_trans hb2 (by decide))))
  intro q8 t8 u8 h8 tk8 F8 N8 l8
  have l8' := l8
  k_lt l8
  have hM := (dec_val ((max ((dec u rc.scale.toNat).2 : Int) (wsn : Int)).toNat) ((dec u rc.scale.toNat).1 * 10 ^ ((max ((dec u rc.scale.toNat).2 : Int) (wsn : Int)) - ((dec u rc.scale.toNat).2 : Int)).toNat + wu * 10 ^ ((max ((dec u rc.scale.toNat).2 : Int) (wsn : Int)) - (wsn : Int)).toNat)).2
  have hbX : bits (dec ((dec u rc.scale.toNat).1 * 10 ^ ((max ((dec u rc.scale.toNat).2 : Int) (wsn : Int)) - ((dec u rc.scale.toNat).2 : Int)).toNat + wu * 10 ^ ((max ((dec u rc.scale.toNat).2 : Int) (wsn : Int)) - (wsn : Int)).toNat) ((max ((dec u rc.scale.toNat).2 : Int) (wsn : Int)).toNat)).1 ≤ 1000 :=
    intBits_le_of_natAbs (dec_abs _ _) (Nat.le_trans (intBits_add_le (intBits_mul_le hbu (bits_ten (by lia))) (intBits_mul_le hb2 (bits_ten (by lia)))) (by decide))
  k_steps
  rename News _ _ _ _ => NN
  have N5 := og_sub NN sub3
  have C3 := keep_KC (mo := mo) (hK.mono (rest' := (q8, tup2 (dec ((dec u rc.scale.toNat).1 * 10 ^ ((max ((dec u rc.scale.toNat).2 : Int) (wsn : Int)) - ((dec u rc.scale.toNat).2 : Int)).toNat + wu * 10 ^ ((max ((dec u rc.scale.toNat).2 : Int) (wsn : Int)) - (wsn : Int)).toNat) ((max ((dec u rc.scale.toNat).2 : Int) (wsn : Int)).toNat)).1 (dec ((dec u rc.scale.toNat).1 * 10 ^ ((max ((dec u rc.scale.toNat).2 : Int) (wsn : Int)) - ((dec u rc.scale.toNat).2 : Int)).toNat + wu * 10 ^ ((max ((dec u rc.scale.toNat).2 : Int) (wsn : Int)) - (wsn : Int)).toNat) ((max ((dec u rc.scale.toNat).2 : Int) (wsn : Int)).toNat)).2 t8 u8) :: (q9, tup2 (dec u rc.scale.toNat).1 (dec u rc.scale.toNat).2 t9 u9) :: rest) fun p hp => .tail _ (.tail _ hp)) rf q8 rc.x rc.dx rc.nm ta tb t8 u8 (dec ((dec u rc.scale.toNat).1 * 10 ^ ((max ((dec u rc.scale.toNat).2 : Int) (wsn : Int)) - ((dec u rc.scale.toNat).2 : Int)).toNat + wu * 10 ^ ((max ((dec u rc.scale.toNat).2 : Int) (wsn : Int)) - (wsn : Int)).toNat) ((max ((dec u rc.scale.toNat).2 : Int) (wsn : Int)).toNat)).1 (dec ((dec u rc.scale.toNat).1 * 10 ^ ((max ((dec u rc.scale.toNat).2 : Int) (wsn : Int)) - ((dec u rc.scale.toNat).2 : Int)).toNat + wu * 10 ^ ((max ((dec u rc.scale.toNat).2 : Int) (wsn : Int)) - (wsn : Int)).toNat) ((max ((dec u rc.scale.toNat).2 : Int) (wsn : Int)).toNat)).2 r rc.k rc.v rc.digits rc.scale rc.size rc.usage rc.sign rc.sep rc.signed mps sps (.tail _ (.tail _ h11)) (.head _) (.tail _ (.tail _ h13)) (.tail _ (.tail _ h14)) hmd hsd hx hml
    (fun p hp => by
      rcases List.mem_cons.mp hp with rfl | hp
      · exact Nat.ne_of_gt (l8' (md, mo) (.tail _ (.head _)))
      rcases List.mem_cons.mp hp with rfl | hp
      · exact Nat.ne_of_gt (l9' (md, mo) (.head _))
      · exact hne p hp) wf (by lia) (by lia) hbX
  cell_ask (useR, C3)
  intro rr nn hh tt RR FF NN2
  obtain ⟨e1, mo', tk', e2, e3⟩ := RR
  subst e1 e2
  k_steps
  rename News h₀ _ _ _ => NN3
  refine hret _ ((md, mo') :: rest) _ _ (rput_of ?_ (rkp_eq ?_ e3)) (by k_asm) (og_sub NN3 fun p hp => by simp only [List.mem_cons] at hp ⊢; rcases hp with h | h <;> simp [h])
  · clear hret
    unfold botOf
    first | exact pow10_ne _ | exact Int.mul_ne_zero (pow10_ne _) (pow10_ne _) | exact Int.mul_ne_zero (pow10_ne _) (by assumption)
  · clear hret
    rw [t_add]
    unfold topOf botOf
    try dsimp only
    rw [Int.toNat_natCast]
    have a1 : (max ((dec u rc.scale.toNat).2 : Int) (wsn : Int) - ((dec u rc.scale.toNat).2 : Int)).toNat = max (dec u rc.scale.toNat).2 wsn - (dec u rc.scale.toNat).2 := mx1 _ _
    have a2 : (max ((dec u rc.scale.toNat).2 : Int) (wsn : Int) - (wsn : Int)).toNat = max (dec u rc.scale.toNat).2 wsn - wsn := mx2 _ _
    have a3 : (max ((dec u rc.scale.toNat).2 : Int) (wsn : Int)).toNat = max (dec u rc.scale.toNat).2 wsn := mx3 _ _
    rw [a1, a2, a3]
    exact join_add u wu rc.scale.toNat wsn r

theorem putM_spec (w : World) (rest : Led) (kf lf md rq qw rf : Addr) (mo so : Obj) (hK : KC w rest kf lf md so) (rc : Rec) (ta tb tw t1 t2 : Tok) (wu ws : Int) (r : Bool) (u : Int) (tk : Tok)
    (mps sps : List (Str × Value)) (h10 : (rq, tupR rf r (Str.ofString "-") tw) ∈ rest) (h11 : (rf, tupS (Str.ofString "ref") rc.nm ta tb) ∈ rest) (h12 : (qw, tup2 wu ws t1 t2) ∈ rest) (hin : rc.In w rest)
    (hmd : ∀ prog, mo.IsDictOf (PySem.strKind prog w) mps) (hsd : ∀ prog, so.IsDictOf (PySem.strKind prog w) sps) (hx : valueAt sps rc.nm = some (.ref rc.x)) (hm : valueAt mps rc.nm = some (.bytes (byteArr (rc.oct u)) tk)) (hml : mps.length ≤ sizeLine) (hne : ∀ p ∈ rest, p.1 ≠ md)
    (wf : rc.Wf) (hu : Fit rc.digits rc.signed u) (hb0 : 0 ≤ ws) (hb1 : ws ≤ 10) (hb2 : bits wu ≤ 64) (hbu : bits (dec u rc.scale.toNat).1 ≤ 64) :
    Ct w 165 9 128 ((md, mo) :: rest) [.ref rq, .ref qw, .ref lf, .ref kf] (RPut w md rest rc mps (rowRes rc wu ws r 2 u)) := by
  unfold Ct
  intro prog p loose mean mg mb dp un gd cn cs aa ccd cl outer A₀ base h₀ L m s Q E B F X N T hk hdp hun hret

  obtain ⟨h13, h14⟩ := hin
  obtain ⟨wsn, rfl⟩ := Int.eq_ofNat_of_zero_le hb0
  have C1 := lam_KC (mo := mo) hK rf rc.x rc.dx rc.nm ta tb rc.k rc.v rc.digits rc.scale rc.size rc.usage rc.sign rc.sep rc.signed u tk mps sps h11 h13 h14 hmd hsd hx hm wf hu
  obtain ⟨ock, odk, fdk, slk, hfk⟩ := hK.fnK
  obtain ⟨ocl, odl, fdl, sll, hfl⟩ := hK.fnL
  ktr_call [("row", .ref rq), ("worth", .ref qw), ("number", .ref lf), ("keep", .ref kf)] 165
  k_steps
  (show wpAny _ _ (call (Value.ref lf) [Value.ref rf]) _ _ _)
  cell_ask (useT, C1)
  intro q9 t9 u9 h9 tk9 F9 N9 l9
  have l9' := l9
  k_lt l9
  have hd2 := (dec_val rc.scale.toNat u).2
  have hs1 := wf.2.2.2.1
  have hs0 := wf.2.2.1
  k_steps
  cell_ask (useT, (reckM_spec w _ q9 qw (dec u rc.scale.toNat).1 (dec u rc.scale.toNat).2 wu wsn _ _ t1 t2 tw (.head _) (.tail _ (.tail _ h12)) (Int.natCast_nonneg _) (dec_sc hs1) hb0 (Int.le_trans hb1 (by decide)) (Nat.le_trans hbu (by decide)) (Nat.le_trans hb2 (by decide))))
  intro q8 t8 u8 h8 tk8 F8 N8 l8
  have l8' := l8
  k_lt l8
  have hM := (dec_val ((max ((dec u rc.scale.toNat).2 : Int) (wsn : Int)).toNat) ((dec u rc.scale.toNat).1 * 10 ^ ((max ((dec u rc.scale.toNat).2 : Int) (wsn : Int)) - ((dec u rc.scale.toNat).2 : Int)).toNat - wu * 10 ^ ((max ((dec u rc.scale.toNat).2 : Int) (wsn : Int)) - (wsn : Int)).toNat)).2
  have hbX : bits (dec ((dec u rc.scale.toNat).1 * 10 ^ ((max ((dec u rc.scale.toNat).2 : Int) (wsn : Int)) - ((dec u rc.scale.toNat).2 : Int)).toNat - wu * 10 ^ ((max ((dec u rc.scale.toNat).2 : Int) (wsn : Int)) - (wsn : Int)).toNat) ((max ((dec u rc.scale.toNat).2 : Int) (wsn : Int)).toNat)).1 ≤ 1000 :=
    intBits_le_of_natAbs (dec_abs _ _) (Nat.le_trans (intBits_sub_le (intBits_mul_le hbu (bits_ten (by lia))) (intBits_mul_le hb2 (bits_ten (by lia)))) (by decide))
  k_steps
  rename News _ _ _ _ => NN
  have N5 := og_sub NN sub3
  have C3 := keep_KC (mo := mo) (hK.mono (rest' := (q8, tup2 (dec ((dec u rc.scale.toNat).1 * 10 ^ ((max ((dec u rc.scale.toNat).2 : Int) (wsn : Int)) - ((dec u rc.scale.toNat).2 : Int)).toNat - wu * 10 ^ ((max ((dec u rc.scale.toNat).2 : Int) (wsn : Int)) - (wsn : Int)).toNat) ((max ((dec u rc.scale.toNat).2 : Int) (wsn : Int)).toNat)).1 (dec ((dec u rc.scale.toNat).1 * 10 ^ ((max ((dec u rc.scale.toNat).2 : Int) (wsn : Int)) - ((dec u rc.scale.toNat).2 : Int)).toNat - wu * 10 ^ ((max ((dec u rc.scale.toNat).2 : Int) (wsn : Int)) - (wsn : Int)).toNat) ((max ((dec u rc.scale.toNat).2 : Int) (wsn : Int)).toNat)).2 t8 u8) :: (q9, tup2 (dec u rc.scale.toNat).1 (dec u rc.scale.toNat).2 t9 u9) :: rest) fun p hp => .tail _ (.tail _ hp)) rf q8 rc.x rc.dx rc.nm ta tb t8 u8 (dec ((dec u rc.scale.toNat).1 * 10 ^ ((max ((dec u rc.scale.toNat).2 : Int) (wsn : Int)) - ((dec u rc.scale.toNat).2 : Int)).toNat - wu * 10 ^ ((max ((dec u rc.scale.toNat).2 : Int) (wsn : Int)) - (wsn : Int)).toNat) ((max ((dec u rc.scale.toNat).2 : Int) (wsn : Int)).toNat)).1 (dec ((dec u rc.scale.toNat).1 * 10 ^ ((max ((dec u rc.scale.toNat).2 : Int) (wsn : Int)) - ((dec u rc.scale.toNat).2 : Int)).toNat - wu * 10 ^ ((max ((dec u rc.scale.toNat).2 : Int) (wsn : Int)) - (wsn : Int)).toNat) ((max ((dec u rc.scale.toNat).2 : Int) (wsn : Int)).toNat)).2 r rc.k rc.v rc.digits rc.scale rc.size rc.usage rc.sign rc.sep rc.signed mps sps (.tail _ (.tail _ h11)) (.head _) (.tail _ (.tail _ h13)) (.tail _ (.tail _ h14)) hmd hsd hx hml
    (fun p hp => by
      rcases List.mem_cons.mp hp with rfl | hp
      · exact Nat.ne_of_gt (l8' (md, mo) (.tail _ (.head _)))
      rcases List.mem_cons.mp hp with rfl | hp
      · exact Nat.ne_of_gt (l9' (md, mo) (.head _))
      · exact hne p hp) wf (by lia) (by lia) hbX
  cell_ask (useR, C3)
  intro rr nn hh tt RR FF NN2
  obtain ⟨e1, mo', tk', e2, e3⟩ := RR
  subst e1 e2
  k_steps
  rename News h₀ _ _ _ => NN3
  refine hret _ ((md, mo') :: rest) _ _ (rput_of ?_ (rkp_eq ?_ e3)) (by k_asm) (og_sub NN3 fun p hp => by simp only [List.mem_cons] at hp ⊢; rcases hp with h | h <;> simp [h])
  · clear hret
    unfold botOf
    first | exact pow10_ne _ | exact Int.mul_ne_zero (pow10_ne _) (pow10_ne _) | exact Int.mul_ne_zero (pow10_ne _) (by assumption)
  · clear hret
    rw [t_add]
    unfold topOf botOf
    try dsimp only
    rw [Int.toNat_natCast]
    have a1 : (max ((dec u rc.scale.toNat).2 : Int) (wsn : Int) - ((dec u rc.scale.toNat).2 : Int)).toNat = max (dec u rc.scale.toNat).2 wsn - (dec u rc.scale.toNat).2 := mx1 _ _
    have a2 : (max ((dec u rc.scale.toNat).2 : Int) (wsn : Int) - (wsn : Int)).toNat = max (dec u rc.scale.toNat).2 wsn - wsn := mx2 _ _
    have a3 : (max ((dec u rc.scale.toNat).2 : Int) (wsn : Int)).toNat = max (dec u rc.scale.toNat).2 wsn := mx3 _ _
    rw [a1, a2, a3]
    exact join_sub u wu rc.scale.toNat wsn r

theorem putT_spec (w : World) (rest : Led) (kf lf md rq qw rf : Addr) (mo so : Obj) (hK : KC w rest kf lf md so) (rc : Rec) (ta tb tw t1 t2 : Tok) (wu ws : Int) (r : Bool) (u : Int) (tk : Tok)
    (mps sps : List (Str × Value)) (h10 : (rq, tupR rf r (Str.ofString "*") tw) ∈ rest) (h11 : (rf, tupS (Str.ofString "ref") rc.nm ta tb) ∈ rest) (h12 : (qw, tup2 wu ws t1 t2) ∈ rest) (hin : rc.In w rest)
    (hmd : ∀ prog, mo.IsDictOf (PySem.strKind prog w) mps) (hsd : ∀ prog, so.IsDictOf (PySem.strKind prog w) sps) (hx : valueAt sps rc.nm = some (.ref rc.x)) (hm : valueAt mps rc.nm = some (.bytes (byteArr (rc.oct u)) tk)) (hml : mps.length ≤ sizeLine) (hne : ∀ p ∈ rest, p.1 ≠ md)
    (wf : rc.Wf) (hu : Fit rc.digits rc.signed u) (hb0 : 0 ≤ ws) (hb1 : ws ≤ 10) (hb2 : bits wu ≤ 64) (hbu : bits (dec u rc.scale.toNat).1 ≤ 64) :
    Ct w 165 9 128 ((md, mo) :: rest) [.ref rq, .ref qw, .ref lf, .ref kf] (RPut w md rest rc mps (rowRes rc wu ws r 3 u)) := by
  unfold Ct
  intro prog p loose mean mg mb dp un gd cn cs aa ccd cl outer A₀ base h₀ L m s Q E B F X N T hk hdp hun hret

  obtain ⟨h13, h14⟩ := hin
  obtain ⟨wsn, rfl⟩ := Int.eq_ofNat_of_zero_le hb0
  have C1 := lam_KC (mo := mo) hK rf rc.x rc.dx rc.nm ta tb rc.k rc.v rc.digits rc.scale rc.size rc.usage rc.sign rc.sep rc.signed u tk mps sps h11 h13 h14 hmd hsd hx hm wf hu
  obtain ⟨ock, odk, fdk, slk, hfk⟩ := hK.fnK
  obtain ⟨ocl, odl, fdl, sll, hfl⟩ := hK.fnL
  ktr_call [("row", .ref rq), ("worth", .ref qw), ("number", .ref lf), ("keep", .ref kf)] 165
  k_steps
  (show wpAny _ _ (call (Value.ref lf) [Value.ref rf]) _ _ _)
  cell_ask (useT, C1)
  intro q9 t9 u9 h9 tk9 F9 N9 l9
  have l9' := l9
  k_lt l9
  have hd2 := (dec_val rc.scale.toNat u).2
  have hs1 := wf.2.2.2.1
  have hs0 := wf.2.2.1
  have hfT : decide ((((dec u rc.scale.toNat).1 * wu).natAbs : Int) < 10 ^ (120 : Int).toNat) = true := decide_eq_true (by
    have h := intBits_le_iff.mp (intBits_mul_le hbu hb2)
    have h2 : (2 : Nat) ^ (64 + 64) ≤ 10 ^ (120 : Int).toNat := by decide
    have h3 : (((dec u rc.scale.toNat).1 * wu).natAbs : Int) < ((10 ^ (120 : Int).toNat : Nat) : Int) := Int.ofNat_lt.mpr (Nat.lt_of_lt_of_le h h2)
    rw [pow10_nat] at h3
    exact h3)
  k_steps
  cell_ask (useT, (reckT_spec w _ q9 qw (dec u rc.scale.toNat).1 (dec u rc.scale.toNat).2 wu wsn _ _ t1 t2 tw (.head _) (.tail _ (.tail _ h12)) (Int.natCast_nonneg _) (dec_sc hs1) hb0 (Int.le_trans hb1 (by decide)) (Nat.le_trans hbu (by decide)) (Nat.le_trans hb2 (by decide)) hfT))
  intro q8 t8 u8 h8 tk8 F8 N8 l8
  have l8' := l8
  k_lt l8
  have hM := (dec_val ((((dec u rc.scale.toNat).2 : Int) + (wsn : Int)).toNat) ((dec u rc.scale.toNat).1 * wu)).2
  have hbX : bits (dec ((dec u rc.scale.toNat).1 * wu) ((((dec u rc.scale.toNat).2 : Int) + (wsn : Int)).toNat)).1 ≤ 1000 :=
    intBits_le_of_natAbs (dec_abs _ _) (Nat.le_trans (intBits_mul_le hbu hb2) (by decide))
  k_steps
  rename News _ _ _ _ => NN
  have N5 := og_sub NN sub3
  have C3 := keep_KC (mo := mo) (hK.mono (rest' := (q8, tup2 (dec ((dec u rc.scale.toNat).1 * wu) ((((dec u rc.scale.toNat).2 : Int) + (wsn : Int)).toNat)).1 (dec ((dec u rc.scale.toNat).1 * wu) ((((dec u rc.scale.toNat).2 : Int) + (wsn : Int)).toNat)).2 t8 u8) :: (q9, tup2 (dec u rc.scale.toNat).1 (dec u rc.scale.toNat).2 t9 u9) :: rest) fun p hp => .tail _ (.tail _ hp)) rf q8 rc.x rc.dx rc.nm ta tb t8 u8 (dec ((dec u rc.scale.toNat).1 * wu) ((((dec u rc.scale.toNat).2 : Int) + (wsn : Int)).toNat)).1 (dec ((dec u rc.scale.toNat).1 * wu) ((((dec u rc.scale.toNat).2 : Int) + (wsn : Int)).toNat)).2 r rc.k rc.v rc.digits rc.scale rc.size rc.usage rc.sign rc.sep rc.signed mps sps (.tail _ (.tail _ h11)) (.head _) (.tail _ (.tail _ h13)) (.tail _ (.tail _ h14)) hmd hsd hx hml
    (fun p hp => by
      rcases List.mem_cons.mp hp with rfl | hp
      · exact Nat.ne_of_gt (l8' (md, mo) (.tail _ (.head _)))
      rcases List.mem_cons.mp hp with rfl | hp
      · exact Nat.ne_of_gt (l9' (md, mo) (.head _))
      · exact hne p hp) wf (by lia) (by lia) hbX
  cell_ask (useR, C3)
  intro rr nn hh tt RR FF NN2
  obtain ⟨e1, mo', tk', e2, e3⟩ := RR
  subst e1 e2
  k_steps
  rename News h₀ _ _ _ => NN3
  refine hret _ ((md, mo') :: rest) _ _ (rput_of ?_ (rkp_eq ?_ e3)) (by k_asm) (og_sub NN3 fun p hp => by simp only [List.mem_cons] at hp ⊢; rcases hp with h | h <;> simp [h])
  · clear hret
    unfold botOf
    first | exact pow10_ne _ | exact Int.mul_ne_zero (pow10_ne _) (pow10_ne _) | exact Int.mul_ne_zero (pow10_ne _) (by assumption)
  · clear hret
    rw [t_add]
    unfold topOf botOf
    try dsimp only
    rw [Int.toNat_natCast]
    have a3 : (((dec u rc.scale.toNat).2 : Int) + (wsn : Int)).toNat = (dec u rc.scale.toNat).2 + wsn := by lia
    rw [a3]
    exact join_mul u wu rc.scale.toNat wsn r

theorem putQ_spec (w : World) (rest : Led) (kf lf md rq qw rf : Addr) (mo so : Obj) (hK : KC w rest kf lf md so) (rc : Rec) (ta tb tw t1 t2 : Tok) (wu ws : Int) (r : Bool) (u : Int) (tk : Tok)
    (mps sps : List (Str × Value)) (h10 : (rq, tupR rf r (Str.ofString "/") tw) ∈ rest) (h11 : (rf, tupS (Str.ofString "ref") rc.nm ta tb) ∈ rest) (h12 : (qw, tup2 wu ws t1 t2) ∈ rest) (hin : rc.In w rest)
    (hmd : ∀ prog, mo.IsDictOf (PySem.strKind prog w) mps) (hsd : ∀ prog, so.IsDictOf (PySem.strKind prog w) sps) (hx : valueAt sps rc.nm = some (.ref rc.x)) (hm : valueAt mps rc.nm = some (.bytes (byteArr (rc.oct u)) tk)) (hml : mps.length ≤ sizeLine) (hne : ∀ p ∈ rest, p.1 ≠ md)
    (wf : rc.Wf) (hu : Fit rc.digits rc.signed u) (hb0 : 0 ≤ ws) (hb1 : ws ≤ 10) (hb2 : bits wu ≤ 64) (hbu : bits (dec u rc.scale.toNat).1 ≤ 64) (hw : wu ≠ 0) :
    Ct w 165 9 128 ((md, mo) :: rest) [.ref rq, .ref qw, .ref lf, .ref kf] (RPut w md rest rc mps (rowRes rc wu ws r 4 u)) := by
  unfold Ct
  intro prog p loose mean mg mb dp un gd cn cs aa ccd cl outer A₀ base h₀ L m s Q E B F X N T hk hdp hun hret

  obtain ⟨h13, h14⟩ := hin
  obtain ⟨wsn, rfl⟩ := Int.eq_ofNat_of_zero_le hb0
  have C1 := lam_KC (mo := mo) hK rf rc.x rc.dx rc.nm ta tb rc.k rc.v rc.digits rc.scale rc.size rc.usage rc.sign rc.sep rc.signed u tk mps sps h11 h13 h14 hmd hsd hx hm wf hu
  obtain ⟨ock, odk, fdk, slk, hfk⟩ := hK.fnK
  obtain ⟨ocl, odl, fdl, sll, hfl⟩ := hK.fnL
  ktr_call [("row", .ref rq), ("worth", .ref qw), ("number", .ref lf), ("keep", .ref kf)] 165
  k_steps
  (show wpAny _ _ (call (Value.ref lf) [Value.ref rf]) _ _ _)
  cell_ask (useT, C1)
  intro q9 t9 u9 h9 tk9 F9 N9 l9
  have l9' := l9
  k_lt l9
  have hd2 := (dec_val rc.scale.toNat u).2
  have hs1 := wf.2.2.2.1
  have hs0 := wf.2.2.1
  have hq0 : wu * 10 ^ ((dec u rc.scale.toNat).2 : Int).toNat ≠ 0 := Int.mul_ne_zero hw (pow10_ne _)
  k_steps
  cell_ask (useT, (reckQ_spec w _ q9 qw (dec u rc.scale.toNat).1 (dec u rc.scale.toNat).2 wu wsn _ _ t1 t2 tw (.head _) (.tail _ (.tail _ h12)) (Int.natCast_nonneg _) (dec_sc hs1) hb0 (Int.le_trans hb1 (by decide)) (Nat.le_trans hbu (by decide)) (Nat.le_trans hb2 (by decide)) hw hq0))
  intro q8 t8 u8 h8 tk8 F8 N8 l8
  have l8' := l8
  k_lt l8
  have hM := (dec_val (30) (rnd false ((dec u rc.scale.toNat).1 * 10 ^ (30 + (wsn : Int)).toNat) (wu * 10 ^ ((dec u rc.scale.toNat).2 : Int).toNat))).2
  have hbX : bits (dec (rnd false ((dec u rc.scale.toNat).1 * 10 ^ (30 + (wsn : Int)).toNat) (wu * 10 ^ ((dec u rc.scale.toNat).2 : Int).toNat)) (30)).1 ≤ 1000 :=
    intBits_le_of_natAbs (dec_abs _ _) (Nat.le_trans (bits_rnd hq0 (intBits_mul_le hbu (bits_ten (by lia)))) (by decide))
  k_steps
  rename News _ _ _ _ => NN
  have N5 := og_sub NN sub3
  have C3 := keep_KC (mo := mo) (hK.mono (rest' := (q8, tup2 (dec (rnd false ((dec u rc.scale.toNat).1 * 10 ^ (30 + (wsn : Int)).toNat) (wu * 10 ^ ((dec u rc.scale.toNat).2 : Int).toNat)) (30)).1 (dec (rnd false ((dec u rc.scale.toNat).1 * 10 ^ (30 + (wsn : Int)).toNat) (wu * 10 ^ ((dec u rc.scale.toNat).2 : Int).toNat)) (30)).2 t8 u8) :: (q9, tup2 (dec u rc.scale.toNat).1 (dec u rc.scale.toNat).2 t9 u9) :: rest) fun p hp => .tail _ (.tail _ hp)) rf q8 rc.x rc.dx rc.nm ta tb t8 u8 (dec (rnd false ((dec u rc.scale.toNat).1 * 10 ^ (30 + (wsn : Int)).toNat) (wu * 10 ^ ((dec u rc.scale.toNat).2 : Int).toNat)) (30)).1 (dec (rnd false ((dec u rc.scale.toNat).1 * 10 ^ (30 + (wsn : Int)).toNat) (wu * 10 ^ ((dec u rc.scale.toNat).2 : Int).toNat)) (30)).2 r rc.k rc.v rc.digits rc.scale rc.size rc.usage rc.sign rc.sep rc.signed mps sps (.tail _ (.tail _ h11)) (.head _) (.tail _ (.tail _ h13)) (.tail _ (.tail _ h14)) hmd hsd hx hml
    (fun p hp => by
      rcases List.mem_cons.mp hp with rfl | hp
      · exact Nat.ne_of_gt (l8' (md, mo) (.tail _ (.head _)))
      rcases List.mem_cons.mp hp with rfl | hp
      · exact Nat.ne_of_gt (l9' (md, mo) (.head _))
      · exact hne p hp) wf (by lia) (by lia) hbX
  cell_ask (useR, C3)
  intro rr nn hh tt RR FF NN2
  obtain ⟨e1, mo', tk', e2, e3⟩ := RR
  subst e1 e2
  k_steps
  rename News h₀ _ _ _ => NN3
  refine hret _ ((md, mo') :: rest) _ _ (rput_of ?_ (rkp_eq ?_ e3)) (by k_asm) (og_sub NN3 fun p hp => by simp only [List.mem_cons] at hp ⊢; rcases hp with h | h <;> simp [h])
  · clear hret
    unfold botOf
    first | exact pow10_ne _ | exact Int.mul_ne_zero (pow10_ne _) (pow10_ne _) | exact Int.mul_ne_zero (pow10_ne _) (by assumption)
  · clear hret
    rw [t_add]
    unfold topOf botOf
    try dsimp only
    rw [Int.toNat_natCast]
    have a3 : (30 + (wsn : Int)).toNat = 30 + wsn := by lia
    rw [a3, Int.toNat_natCast]
    exact join_div u wu rc.scale.toNat wsn r (by lia) hw
end SOgW9
section SOgCS
open PySem PySem.W PyProof.Rows PySem.Calls PySem.Spec
set_option maxRecDepth 100000
set_option maxHeartbeats 4000000
set_option linter.unusedVariables false
noncomputable abbrev frs (outer : List Env) : List Addr := outer.filterMap (·.frame)
/-- as Ct, where the ground may turn: only the slots of the outer frames' objects change -/
noncomputable def CtS (w : World) (f : Addr) (dd uu : Nat) (news : Led) (vs : List Value) (R : Value → Led → Prop) : Prop :=
  ∀ (prog : Program) (p : Program) (loose : List Str) (mean : ExcName → Option Value) (mg mb : Str → Option Value)
    (dp un : Nat) (gd : Option (List Code)) (cn : Str) (cs : Scope) (a : Addr) (ccd : Value) (cl : List (Str × Addr)) (outer : List Env) (A₀ : Around) (base h₀ : Heap) (L : Addr) (m : Str → Option Value) (s : Shared) (Q E : Value → Shared → Prop),
    Below A₀ base outer h₀ → Fr h₀ L s.heap m → (hd.heap_1 w.params).In h₀ → News h₀ L s.heap news → Top p loose mean mg mb h₀ → cs.kind = .function → dp + dd < recursionLimit → un + uu < cLine →
    (hd.heap_1 w.params).In base → Top p loose mean mg mb base → KtsDicts (frs outer) h₀ →
    (∀ (r : Value) (news' : Led) (g' h' : Heap) (tk' : Nat), R r news' → KtsTurn (frs outer) h₀ g' → Fr g' L h' m → News g' L h' news' → Below A₀ base outer g' → (hd.heap_1 w.params).In g' → Top p loose mean mg mb g' → KtsDicts (frs outer) g' → Q r { s with heap := h', toks := tk' }) →
    wpAny (model prog w) (ktrTop dp un gd cn cs L a ccd cl outer) (call (.ref f) vs) Q E s
theorem CtS.of {w : World} {f : Addr} {dd uu : Nat} {news : Led} {vs : List Value} {R : Value → Led → Prop} (C : Ct w f dd uu news vs R) : CtS w f dd uu news vs R :=
  fun prog p loose mean mg mb dp un gd cn cs a ccd cl outer A₀ base h₀ L m s Q E B F X N T hk hdp hun XB TB D hret =>
    C prog p loose mean mg mb dp un gd cn cs a ccd cl outer A₀ base h₀ L m s Q E B F X N T hk hdp hun fun r n h' tk' hr F' N' => hret r n h₀ h' tk' hr KtsTurn.refl F' N' B X T D
theorem frs_mem {env : Env} {outer : List Env} {L b : Addr} (hf : env.frame = some L) (hm : b ∈ frs (env :: outer)) : b = L ∨ b ∈ frs outer := by
  obtain ⟨e, he, hb⟩ := List.mem_filterMap.mp hm
  rcases List.mem_cons.mp he with rfl | he
  · exact .inl (Option.some.inj (hb.symm.trans hf))
  · exact .inr (List.mem_filterMap.mpr ⟨e, he, hb⟩)
noncomputable def LeaveG (A₀ : Around) (base : Heap) (env : Env) (outer : List Env) (K : Frag) (p : Program) (loose : List Str) (mean : ExcName → Option Value) (mg mb : Str → Option Value) (h₀ : Heap) (L : Addr) (m : Str → Option Value) (g : Heap) (R : Result → Shared → Prop) (v : Value) (s' : Shared) : Prop :=
  ∃ g' L' m' news', KtsTurn (frs (env :: outer)) g g' ∧ Fr g' L' s'.heap m' ∧ News g' L' s'.heap news' ∧ ∀ h₀', KtsTurn (frs outer) h₀ h₀' → Fr h₀' L s'.heap m → News h₀' L s'.heap news' → Below A₀ base outer h₀' → K.In h₀' → Top p loose mean mg mb h₀' →
    KtsDicts (frs outer) h₀' → R (.ok (.ret v)) s'
section
variable {prog : Program} {w : World} {A₀ A : Around} {s : Shared} {base h₀ : Heap} {outer : List Env} {L : Addr} {m : Str → Option Value} {env : Env} {news : Led} {K : Frag} {p : Program} {loose : List Str} {mean : ExcName → Option Value} {mg mb : Str → Option Value}
  {R : Result → Shared → Prop} {name qual : Str} {params : Arguments} {body : List Stmt} {scope : Scope} {dV kV doc pm cdv ct oc : Value} {an od : Option Addr} {osl : Array (Option Value)} {f : Addr} {args : Args} {binds : List (Str × Value)}
theorem groundS (B : Below A₀ base outer h₀) (F : Fr h₀ L s.heap m) (X₀ : K.In h₀) (N : News h₀ L s.heap news) (T : Top p loose mean mg mb h₀) (XB : K.In base) (TB : Top p loose mean mg mb base) (D : KtsDicts (frs outer) h₀)
    (hA : A.frames = some (env :: outer)) (hf : env.frame = some L) (hke : env.scope.kind = .function) :
    Fr h₀ L (hideAll s.heap (news.map (·.1))) m ∧ Below A base (env :: outer) (hideAll s.heap (news.map (·.1))) ∧ h₀.StaysIn (hideAll s.heap (news.map (·.1))) ∧ KtsDicts (frs (env :: outer)) (hideAll s.heap (news.map (·.1))) ∧
      ∀ v s', LeaveG A₀ base env outer K p loose mean mg mb h₀ L m (hideAll s.heap (news.map (·.1))) R v s' → R (.ok (.ret v)) s' := by
  obtain ⟨FG, BG, st, _⟩ := groundX (R := R) B F N hA hf hke
  obtain ⟨oL, es, ep, hLg, hLd, hLk, hLf⟩ := FG.ns
  have nL₀ : h₀.get? L = none := kts_self F
  refine ⟨⟨⟨oL, es, ep, hLg, hLd, hLk, hLf⟩, FG.keep, FG.above⟩, BG, st, fun b hb => ?_, fun v s' hl => ?_⟩
  · rcases frs_mem hf hb with rfl | hb
    · exact ⟨oL, es, ep, hLg, hLd⟩
    · obtain ⟨o, es', n', ho', hd'⟩ := D b hb
      exact ⟨o, es', n', st b o ho', hd'⟩
  · obtain ⟨g', L', m', news', T', F', N', k⟩ := hl
    obtain ⟨sl, hs⟩ := T'.up hLg
    obtain ⟨T₁, S₁⟩ := kts_turn_at (h := s'.heap) (fs := frs outer) (g := h₀)
      (fun b hb => by
        obtain ⟨_, o, ho', _⟩ := B.frames.mem hb
        exact ⟨o, ho'⟩)
      (fun b o e nmem => F'.keep b o (T'.other b o (st b o e) (fun q => by
        rcases frs_mem hf q with z | z
        · rw [z, nL₀] at e
          cases e
        · exact nmem z)))
      (fun b o e hm => by
        obtain ⟨sl', hs'⟩ := T'.up (st b o e)
        exact ⟨sl', F'.keep _ _ hs'⟩)
    have B₃ : Below A₀ base outer (ktsHeap s'.heap (frs outer) h₀) := ⟨B.stack, fun b o e => T₁.other b o (B.stays b o e) (fun hm => by
      rw [(B.frames.mem hm).1] at e
      cases e), B.frames.of_keeps fun b o e _ => by
      obtain ⟨sl', hs'⟩ := T₁.up e
      exact ⟨_, hs', rfl⟩⟩
    refine k _ T₁ ⟨⟨_, es, ep, F'.keep _ _ hs, hLd, hLk, hLf⟩, S₁, by rw [T₁.size]; exact F.above⟩ (fun p hp => ⟨(N' p hp).1, fun q => ?_, ?_⟩) B₃ (XB.keeps B₃.stays) (TB.keeps B₃.stays) (D.turn T₁)
    · have := (N' p hp).2.2; rw [q, hs] at this; cases this
    · refine T₁.none_ _ ?_
      cases q : h₀.get? p.1 with
      | none => rfl
      | some o =>
        obtain ⟨sl', hs'⟩ := T'.up (st _ _ q)
        have := (N' p hp).2.2
        rw [hs'] at this
        cases this
theorem enterS (B : Below A₀ base outer h₀) (F : Fr h₀ L s.heap m) (X₀ : K.In h₀) (N : News h₀ L s.heap news) (T : Top p loose mean mg mb h₀) (XB : K.In base) (TB : Top p loose mean mg mb base) (D : KtsDicts (frs outer) h₀)
    (hA : A.frames = some (env :: outer)) (hf : env.frame = some L) (hke : env.scope.kind = .function)
    (ho : K.lookup f = some ⟨oc, od, .func (fnOf name qual params body scope dV kV doc pm an cdv ct), osl⟩) (hcd : codeIn K cdv qual = true) (hroom : A.depth < recursionLimit)
    (hbind : BindsTo s (fnOf name qual params body scope dV kV doc pm an cdv ct) args binds) (hloc : ∀ y ∈ binds, scope.names.lookup y.1 = some .local)
    (h : ∀ g L' h₁, Fr h₀ L g m → Fr g L' h₁ (fun y => binds.reverse.lookup y) → News g L' h₁ news → Below A base (env :: outer) g → K.In g → Top p loose mean mg mb g → KtsDicts (frs (env :: outer)) g →
      wpAny (model prog w) (A.deeper (envOf qual scope L' f cdv)) (execs body (envOf qual scope L' f cdv))
        (fun fl s' => OgW (LeaveG A₀ base env outer K p loose mean mg mb h₀ L m g R (match fl with | .ret v => v | _ => .none) s'))
        (fun e s' => wpAny (model prog w) (A.deeper (envOf qual scope L' f cdv)) (leaving (envOf qual scope L' f cdv) e) (fun _ s'' => R (.error e) s'') (fun e' s'' => R (.error e') s'') s')
        { s with heap := h₁, toks := s.toks + binds.length })
    (hco : scope.isCoroutine = false) (hgen : scope.isGenerator = false) (hk : scope.kind = .function)
    (hcell : ∀ x ∈ scope.names, x.2 ≠ .cell) : codeAny (model prog w) A (.call (.ref f) args) R s := by
  have X := X₀.keeps F.keep
  obtain ⟨FG, BG, st, DG, lv⟩ := groundS (R := R) B F X₀ N T XB TB D hA hf hke
  refine codeAny_call_def (fd := fnOf name qual params body scope dV kV doc pm an cdv ct) (body := body) (binds := binds) hroom (X _ _ ho) rfl (T.nolimit.keeps F.keep) (codeRec_of X hcd) rfl hbind hcell hloc (fun h₁ hns hk₁ => ?_) hco hgen hk
  exact wpAny_mono (h _ s.heap.objs.size h₁ FG ⟨hns, fun b o e => hk₁ b o (of_hideAll _ e), Nat.le_of_eq (hideAll_size _ _)⟩
    (fun p hp => ⟨hk₁ _ _ (N p hp).1, Nat.ne_of_lt (Heap.lt_size (N p hp).1), hideAll_none _ (List.mem_map_of_mem hp)⟩) BG (X₀.keeps st) (T.keeps st) DG) (fun fl s' hl => lv _ _ hl) fun _ _ y => y
theorem enterCS (B : Below A₀ base outer h₀) (F : Fr h₀ L s.heap m) (X₀ : K.In h₀) (N : News h₀ L s.heap news) (T : Top p loose mean mg mb h₀) (XB : K.In base) (TB : Top p loose mean mg mb base) (D : KtsDicts (frs outer) h₀)
    (hA : A.frames = some (env :: outer)) (hf : env.frame = some L) (hke : env.scope.kind = .function)
    (ho : K.lookup f = some ⟨oc, od, .func (fnOf name qual params body scope dV kV doc pm an cdv ct), osl⟩) (hcd : codeIn K cdv qual = true) (hroom : A.depth < recursionLimit)
    (hbind : BindsTo s (fnOf name qual params body scope dV kV doc pm an cdv ct) args binds) (hkind : (binds.all fun y => scope.names.lookup y.1 == some .local || scope.names.lookup y.1 == some .cell) = true)
    (hnd : ((cellsFrom 0 scope.names []).map (·.1)).Nodup)
    (h : ∀ g L' h₁ tk cells, Fr h₀ L g m → Fr g L' h₁ (bindL (envOfC qual scope L' f cdv).kindOf binds fun _ => none) → News g L' h₁ (cells ++ news) →
      CellsAre (bindC (envOfC qual scope L' f cdv).kindOf binds fun _ => none) (cellsFrom (L' + 1) scope.names []) cells → Below A base (env :: outer) g → K.In g → Top p loose mean mg mb g → KtsDicts (frs (env :: outer)) g → (∀ p ∈ news, p.1 < L') →
      wpAny (model prog w) (A.deeper (envOfC qual scope L' f cdv)) (execs body (envOfC qual scope L' f cdv))
        (fun fl s' => OgW (LeaveG A₀ base env outer K p loose mean mg mb h₀ L m g R (match fl with | .ret v => v | _ => .none) s'))
        (fun e s' => wpAny (model prog w) (A.deeper (envOfC qual scope L' f cdv)) (leaving (envOfC qual scope L' f cdv) e) (fun _ s'' => R (.error e) s'') (fun e' s'' => R (.error e') s'') s')
        { s with heap := h₁, toks := tk })
    (hco : scope.isCoroutine = false) (hgen : scope.isGenerator = false) (hk : scope.kind = .function) : codeAny (model prog w) A (.call (.ref f) args) R s := by
  have X := X₀.keeps F.keep
  obtain ⟨FG, BG, st, DG, lv⟩ := groundS (R := R) B F X₀ N T XB TB D hA hf hke
  refine codeAny_call_function hroom (X _ _ ho) rfl hco hgen rfl (codeRec_of X hcd) (hbind _ _ _ _ ?_)
  refine wpAny_newFunctionEnv_cells hk (kindsX hkind _) fun env' he s' x => ?_
  subst he
  refine ⟨(T.nolimit.keeps F.keep).keeps x.toInCall.keep, codeAny_func ?_⟩
  obtain ⟨h₁, tk, rfl, _⟩ := x.done
  have hk₁ := x.toInCall.keep
  obtain ⟨cells, NC, Y⟩ := Cl.news (h₀ := s.heap) (Nat.le_refl _) fun n c hm => ⟨x.cell n c (lookup_of_mem_nodup (cellsFrom_names scope.names 0 (s.heap.objs.size + 1) [] [] rfl ▸ hnd) hm), x.above n c hm⟩
  refine wpAny_mono (h _ s.heap.objs.size h₁ tk cells FG ⟨x.toInCall.ns, fun b o e => hk₁ b o (of_hideAll _ e), Nat.le_of_eq (hideAll_size _ _)⟩ (fun p hp => ?_) Y BG (X₀.keeps st) (T.keeps st) DG (fun p hp => Heap.lt_size (N p hp).1)) (fun fl s' hl => lv _ _ hl) fun _ _ y => y
  rcases List.mem_append.mp hp with hp | hp
  · refine ⟨(NC p hp).1, (NC p hp).2.1, ?_⟩
    cases q : (hideAll s.heap (news.map (·.1))).get? p.1 with
    | none => rfl
    | some o => have := of_hideAll _ q; rw [(NC p hp).2.2] at this; cases this
  · exact ⟨hk₁ _ _ (N p hp).1, Nat.ne_of_lt (Heap.lt_size (N p hp).1), hideAll_none _ (List.mem_map_of_mem hp)⟩
end
section
variable {w : World} {f : Addr} {dd uu : Nat} {news : Led} {vs : List Value} {R : Value → Led → Prop} {prog : Program} {p : Program} {loose : List Str} {mean : ExcName → Option Value} {mg mb : Str → Option Value}
    {dp un : Nat} {gd : Option (List Code)} {cn : Str} {cs : Scope} {a : Addr} {ccd : Value} {cl : List (Str × Addr)} {outer : List Env} {A₀ : Around} {base h₀ : Heap} {L : Addr} {m : Str → Option Value} {s : Shared} {Q E : Value → Shared → Prop}
theorem useS (C : CtS w f dd uu news vs R) (B : Below A₀ base outer h₀) (F : Fr h₀ L s.heap m) (X : (hd.heap_1 w.params).In h₀) (N : News h₀ L s.heap news) (T : Top p loose mean mg mb h₀) (hk : cs.kind = .function) (hdd : dp + dd < recursionLimit) (hu : un + uu < cLine)
    (XB : (hd.heap_1 w.params).In base) (TB : Top p loose mean mg mb base) (D : KtsDicts (frs outer) h₀)
    (h : ∀ (r : Value) (n : Led) (g' h' : Heap) (tk' : Nat), R r n → KtsTurn (frs outer) h₀ g' → Fr g' L h' m → News g' L h' n → Below A₀ base outer g' → (hd.heap_1 w.params).In g' → Top p loose mean mg mb g' → KtsDicts (frs outer) g' → Q r { s with heap := h', toks := tk' }) :
    wpAny (model prog w) (ktrTop dp un gd cn cs L a ccd cl outer) (call (.ref f) vs) Q E s :=
  C prog p loose mean mg mb dp un gd cn cs a ccd cl outer A₀ base h₀ L m s Q E B F X N T hk hdd hu XB TB D h
theorem turn0 {g g' : Heap} (T : KtsTurn [] g g') {b : Addr} : g'.get? b = g.get? b := by
  cases e : g.get? b with
  | none => exact T.none_ b e
  | some o => exact T.other b o e (fun h => nomatch h)
/-- from a frame without outer frames the ground does not turn -/
theorem useS0 (C : CtS w f dd uu news vs R) (B : Below A₀ base [] h₀) (F : Fr h₀ L s.heap m) (X : (hd.heap_1 w.params).In h₀) (N : News h₀ L s.heap news) (T : Top p loose mean mg mb h₀) (hk : cs.kind = .function) (hdd : dp + dd < recursionLimit) (hu : un + uu < cLine)
    (XB : (hd.heap_1 w.params).In base) (TB : Top p loose mean mg mb base)
    (h : ∀ (r : Value) (n : Led) (h' : Heap) (tk' : Nat), R r n → Fr h₀ L h' m → News h₀ L h' n → Q r { s with heap := h', toks := tk' }) :
    wpAny (model prog w) (ktrTop dp un gd cn cs L a ccd cl []) (call (.ref f) vs) Q E s :=
  C prog p loose mean mg mb dp un gd cn cs a ccd cl [] A₀ base h₀ L m s Q E B F X N T hk hdd hu XB TB ktsDicts_nil fun r n g' h' tk' hr T' F' N' _ _ _ _ =>
    h r n h' tk' hr ⟨F'.ns, fun b o e => F'.keep b o ((turn0 T').trans e), F.above⟩ fun p hp => ⟨(N' p hp).1, (N' p hp).2.1, (turn0 T').symm.trans (N' p hp).2.2⟩
end
end SOgCS
section SOgCL
open PySem PySem.W PyProof.Rows PySem.Calls PySem.Spec
set_option maxRecDepth 100000
set_option maxHeartbeats 4000000
set_option linter.unusedVariables false
section
variable {prog : Program} {w : World} {A : Around} {E : Value → Shared → Prop} {s : Shared} {env : Env} {h₀ : Heap} {x : Str} {px pos : Pos} {body : List Stmt} {Q : Flow → Shared → Prop}
noncomputable def OgFor (prog : Program) (w : World) (A : Around) (env : Env) (x : Str) (px : Pos) (body : List Stmt) (Q : Flow → Shared → Prop) (E : Value → Shared → Prop) (it : Value) (s₂ : Shared) : Prop :=
  codeAny (model prog w) A (.forLoop (.Name x px) it body [] env) (fun r s' => match r with | .ok f => Q f s' | .error e => cameBackBy (model prog w) A env E e s') s₂
theorem For_S {iter : Expr} (h : wpAny (model prog w) A (eval iter env) (fun xv s₁ => OgW (wpAny (model prog w) A (pyIter xv) (fun it s₂ => OgFor prog w A env x px body Q E it s₂) E s₁)) E s)
    (hs : ∀ z, foldedSetIterable iter env z = pure z := by intro _; rfl) : wpAny (model prog w) A (exec (.For (.Name x px) iter body [] pos) env) Q E s :=
  wpAny_For (wpAny_mono h (fun xv s₁ h₁ => wpAny_mono h₁ (fun it s₂ h₂ => h₂) fun _ _ e => e) fun _ _ e => e) hs
noncomputable def OgPostG (G : Heap → Prop) (L : Addr) (J : (Str → Option Value) → Led → Prop) (I : Addr) (oI : Obj) (s₁ : Shared) (Q : Flow → Shared → Prop) (f : Flow) (s₂ : Shared) : Prop :=
  match f with
  | .ret v => Q (.ret v) s₂
  | .brk => Q .next s₂
  | .next => OgW (∃ g, G g ∧ OgEnd g L J I oI s₁ s₂)
  | .cont => OgW (∃ g, G g ∧ OgEnd g L J I oI s₁ s₂)
theorem og_seqS {σ : Type} {l : Addr} {vs : List Value} {oS : Obj} {cl : String} {m₀ : Str → Option Value}
    (hW : ∀ I, l ≠ I → Walks prog w A I [I, l] [I] vs.toArray.size (fun i v => vs.toArray[i]? = some v) (fun i h => (∃ o, h.get? I = some o ∧ o.cls = .type cl ∧ o.data = .fields #[.ref l, .int i 0]) ∧ (∃ o, h.get? l = some o ∧ o.cls = oS.cls ∧ ∃ n, o.data = .seq vs.toArray n)))
    (hSd : ∃ n, oS.data = .seq vs.toArray n) (hit : s.heap.get? l = some oS → ∀ Q' : Value → Shared → Prop, Q' (.ref s.heap.objs.size) { s with heap := s.heap.push { cls := .type cl, data := .fields #[.ref l, .int 0 0] } } → wpAny (model prog w) A (pyIter (.ref l)) Q' E s) (G : Heap → Prop) (Ld : σ → Led) (ps : σ → List (Str × Value)) (P : Nat → σ → Prop) (c₀ : σ)
    (hx : env.kindOf x = some .local) (hpp : (env.scope.kind == .class || (env.scope.kind == .module && env.locals != env.globals)) = false) (hE : PassesOwn (model prog w) A env E)
    (hl : ∀ i c, P i c → (l, oS) ∈ Ld c) (hg : G h₀)
    (F : Fr h₀ env.locals s.heap m₀) (N : News h₀ env.locals s.heap (Ld c₀)) (hk : ∀ p ∈ ps c₀, m₀ p.1 = some p.2) (hp : P 0 c₀)
    (turn : ∀ (c : σ) (i : Nat) (v : Value) (g h : Heap) (tk : Nat) (I : Addr) (oI : Obj), vs[i]? = some v → P i c → (∀ p ∈ Ld c, p.1 ≠ I) → G g →
      Fr g env.locals h (fun y => if y = x then some v else kstB m₀ (ps c) y) → News g env.locals h ((I, oI) :: Ld c) →
      wpAny (model prog w) A (execs body env) (OgPostG G env.locals (OgS Ld ps x m₀ (P (i + 1))) I oI { s with heap := h, toks := tk } Q) E { s with heap := h, toks := tk })
    (done : ∀ (c : σ) (u : Str → Option Value) (g h : Heap) (tk : Nat), P vs.length c → G g → Fr g env.locals h (fun y => if y = x then u y else kstB m₀ (ps c) y) → News g env.locals h (Ld c) → Q .next { s with heap := h, toks := tk }) :
    OgW (wpAny (model prog w) A (pyIter (.ref l)) (fun it s₂ => OgFor prog w A env x px body Q E it s₂) E s) := by
  have hm := hl 0 c₀ hp
  have hol : s.heap.get? l = some oS := (N _ hm).1
  refine hit hol _ ?_
  generalize hI : s.heap.objs.size = I
  have hfr : ∀ b o, s.heap.get? b = some o → b ≠ I := fun b o e => by rw [← hI]; exact Nat.ne_of_lt (Heap.lt_size e)
  have hLI : env.locals ≠ I := by
    obtain ⟨oL, _, _, hL, _⟩ := F.ns
    exact hfr _ _ hL
  have hne : l ≠ I := hfr _ _ hol
  have hgI : h₀.get? I = none := by
    cases q : h₀.get? I with
    | none => rfl
    | some o => exact absurd rfl (hfr _ _ (F.keep _ _ q))
  have W := hW I hne
  refine codeAny_forLoop
    (fun k s' => ∃ h' tk m' g' c, ∃ i : Nat, ∃ oI, s' = { s with heap := h', toks := tk } ∧ (∃ o, h'.get? I = some o ∧ o.cls = .type cl ∧ o.data = .fields #[.ref l, .int i 0]) ∧ G g' ∧ Fr g' env.locals h' m' ∧ News g' env.locals h' ((I, oI) :: Ld c) ∧ (∀ p ∈ Ld c, p.1 ≠ I) ∧ (∀ p ∈ ps c, m' p.1 = some p.2) ∧ (∀ z, z ≠ x → (∀ p ∈ ps c, z ≠ p.1) → m' z = m₀ z) ∧ P i c ∧ i ≤ vs.length ∧ k = vs.length + 1 - i) ?_ (vs.length + 1) ?_
  · rintro k s' ⟨h', tk, m', g', c, i, oI, rfl, hit', hG, F', N', hnI, h1, h2, hP, hi, rfl⟩
    have hlc := hl i c hP
    have hlst : ∃ o, h'.get? l = some o ∧ o.cls = oS.cls ∧ ∃ n, o.data = .seq vs.toArray n := ⟨_, (N' _ (.tail _ hlc)).1, rfl, hSd⟩
    have gI : g'.get? I = none := (N' _ (.head _)).2.2
    have next : ∀ h₁ : Heap, (∀ b o, b ∉ [I] → h'.get? b = some o → h₁.get? b = some o) → Fr g' env.locals h₁ m' ∧ News g' env.locals h₁ (Ld c) := fun h₁ hk₁ =>
      ⟨⟨F'.ns.at' fun o e => hk₁ _ o (by simpa using hLI) e, fun b o e => hk₁ b o (by
        intro hb
        rw [List.mem_singleton.mp hb, gI] at e
        cases e) (F'.keep b o e), F'.above⟩, fun p hp => ⟨hk₁ _ _ (by simpa using hnI p hp) (N' p (.tail _ hp)).1, (N' p (.tail _ hp)).2⟩⟩
    by_cases hlt : i < vs.length
    · refine W.item i _ _ _ (by simpa using hlt) ⟨hit', hlst⟩ fun v h₁ tk₁ hPv hst₁ hk₁ => ?_
      obtain ⟨F₁, N₁⟩ := next h₁ hk₁
      refine wpAny_assign_Name (wpAny_storeName_local hx F₁.ns (fun h₂ hn₂ hs₂ => ?_) hpp)
      have F₂ := F₁.set hn₂ hs₂
      obtain ⟨oI₂, hoI', hoI2⟩ := hst₁.1
      have hoI := (hs₂.2 I hLI.symm).trans hoI'
      have N₂ : News g' env.locals h₂ ((I, oI₂) :: Ld c) := fun p hp => by
        rcases List.mem_cons.mp hp with rfl | hp
        · exact ⟨hoI, hLI.symm, gI⟩
        · exact (N₁.set hs₂) p hp
      have em : (fun y => if y = x then some v else kstB m₀ (ps c) y) = fun y => if y = x then some v else m' y := by
        funext y
        by_cases hy : y = x
        · rw [if_pos hy, if_pos hy]
        · rw [if_neg hy, if_neg hy]
          exact kstB_eq h1 fun hn => (h2 y hy hn).symm
      have fin : ∀ s₃, (∃ g, G g ∧ OgEnd g env.locals (OgS Ld ps x m₀ (P (i + 1))) I oI₂ { s with heap := h₂, toks := tk₁ + 1 } s₃) → ∃ m, m < vs.length + 1 - i ∧ ∃ h' tk m' g' c, ∃ i : Nat, ∃ oI, s₃ = { s with heap := h', toks := tk } ∧ (∃ o, h'.get? I = some o ∧ o.cls = .type cl ∧ o.data = .fields #[.ref l, .int i 0]) ∧ G g' ∧ Fr g' env.locals h' m' ∧ News g' env.locals h' ((I, oI) :: Ld c) ∧ (∀ p ∈ Ld c, p.1 ≠ I) ∧ (∀ p ∈ ps c, m' p.1 = some p.2) ∧ (∀ z, z ≠ x → (∀ p ∈ ps c, z ≠ p.1) → m' z = m₀ z) ∧ P i c ∧ i ≤ vs.length ∧ m = vs.length + 1 - i := by
        rintro s₃ ⟨g₃, hG₃, h₃, tk₃, m₃, nx, rfl, F₃, N₃, hn₃, c₃, rfl, a1, a2, a3⟩
        refine ⟨vs.length + 1 - (i + 1), by lia, h₃, tk₃, m₃, g₃, c₃, i + 1, oI₂, rfl, ⟨oI₂, (N₃ _ (.head _)).1, hoI2⟩, hG₃, F₃, N₃, hn₃, a1, a2, a3, hlt, rfl⟩
      refine wpAny_passesOwn hE (wpAny_mono (turn c i v g' h₂ (tk₁ + 1) I oI₂ (by simpa using hPv) hP hnI hG (em ▸ F₂) N₂) (fun f s₃ h₃ => ?_) fun _ _ e => e)
      cases f with
      | ret v => exact h₃
      | brk => exact h₃
      | cont => exact fin s₃ h₃
      | next => exact fin s₃ h₃
    · have hin : i = vs.length := by lia
      subst hin
      refine W.done _ _ _ (by simpa using ⟨hit', hlst⟩) fun h₁ tk₁ hk₁ => wpAny_execs_nil ?_
      obtain ⟨F₁, N₁⟩ := next h₁ hk₁
      exact done c m' g' h₁ tk₁ hP hG (og_frOut h1 h2 F₁) N₁
  · refine ⟨_, s.toks, m₀, h₀, c₀, 0, { cls := .type cl, data := .fields #[.ref l, .int 0 0] }, rfl, ⟨_, by rw [← hI]; exact Heap.get?_push_size _ rfl, rfl, rfl⟩, hg, F.push _, fun p hp' => ?_, fun p hp' => hfr _ _ (N p hp').1, hk, fun _ _ _ => rfl, hp, Nat.zero_le _, rfl⟩
    rcases List.mem_cons.mp hp' with rfl | hp'
    · exact ⟨by rw [← hI]; exact Heap.get?_push_size _ rfl, hLI.symm, hgI⟩
    · exact ⟨Heap.get?_push_of_some _ (N p hp').1, (N p hp').2⟩
noncomputable def SeqO (oS : Obj) (vs : List Value) : Prop := (∃ nn, oS = listOf vs.toArray nn) ∨ oS = { cls := .type "tuple", data := .seq vs.toArray }
theorem og_srcS {σ : Type} {l : Addr} {vs : List Value} {oS : Obj} {m₀ : Str → Option Value} (hO : SeqO oS vs) (hh : A.handled = none) (G : Heap → Prop) (Ld : σ → Led) (ps : σ → List (Str × Value)) (P : Nat → σ → Prop) (c₀ : σ)
    (hx : env.kindOf x = some .local) (hpp : (env.scope.kind == .class || (env.scope.kind == .module && env.locals != env.globals)) = false) (hE : PassesOwn (model prog w) A env E)
    (hl : ∀ i c, P i c → (l, oS) ∈ Ld c) (hg : G h₀) (F : Fr h₀ env.locals s.heap m₀) (N : News h₀ env.locals s.heap (Ld c₀)) (hk : ∀ p ∈ ps c₀, m₀ p.1 = some p.2) (hp : P 0 c₀)
    (turn : ∀ (c : σ) (i : Nat) (v : Value) (g h : Heap) (tk : Nat) (I : Addr) (oI : Obj), vs[i]? = some v → P i c → (∀ p ∈ Ld c, p.1 ≠ I) → G g →
      Fr g env.locals h (fun y => if y = x then some v else kstB m₀ (ps c) y) → News g env.locals h ((I, oI) :: Ld c) →
      wpAny (model prog w) A (execs body env) (OgPostG G env.locals (OgS Ld ps x m₀ (P (i + 1))) I oI { s with heap := h, toks := tk } Q) E { s with heap := h, toks := tk })
    (done : ∀ (c : σ) (u : Str → Option Value) (g h : Heap) (tk : Nat), P vs.length c → G g → Fr g env.locals h (fun y => if y = x then u y else kstB m₀ (ps c) y) → News g env.locals h (Ld c) → Q .next { s with heap := h, toks := tk }) :
    OgW (wpAny (model prog w) A (pyIter (.ref l)) (fun it s₂ => OgFor prog w A env x px body Q E it s₂) E s) := by
  rcases hO with ⟨nn, rfl⟩ | rfl
  · exact og_seqS (cl := "list_iterator") (fun I hne => Walks.list hh I l hne vs.toArray) ⟨nn, rfl⟩ (fun e Q' hq => wpAny_pyIter_list ⟨_, e, rfl, nn, rfl⟩ hq) G Ld ps P c₀ hx hpp hE hl hg F N hk hp turn done
  · exact og_seqS (cl := "tuple_iterator") (fun I hne => Walks.tuple hh I l hne vs.toArray) ⟨_, rfl⟩ (fun e Q' hq => wpAny_pyIter_tuple ⟨_, e, rfl, _, rfl⟩ hq) G Ld ps P c₀ hx hpp hE hl hg F N hk hp turn done
end
end SOgCL
section SOgWA
open PySem PySem.W PyProof.Rows PySem.Calls
set_option maxRecDepth 100000
set_option maxHeartbeats 1000000

theorem rs_OgWA : True := by
  w_top off
  trivial
theorem Ct.mono {w : World} {f : Addr} {dd uu : Nat} {news : Led} {vs : List Value} {R R' : Value → Led → Prop} (C : Ct w f dd uu news vs R) (h : ∀ r n, R r n → R' r n) : Ct w f dd uu news vs R' :=
  fun prog p loose mean mg mb dp un gd cn cs a ccd cl outer A₀ base h₀ L m s Q E B F X N T hk hdp hun hret =>
    C prog p loose mean mg mb dp un gd cn cs a ccd cl outer A₀ base h₀ L m s Q E B F X N T hk hdp hun fun r n h' tk' hr F' N' => hret r n h' tk' (h r n hr) F' N'
namespace GSOgWA
theorem secOgWA : True := trivial
end GSOgWA
open GSOgWA
theorem wd33 : True := by
  k_with "callWith ref" => ((guard_expr secOgWA =ₛ secOgWA); (k_here; k_dflt (refine' callWith_F ?ogc1z93 ?_; (case ogc1z93 => exact FnAt.of (by k_asm) (by k_mem)); k_whole)))
  k_with "And" => ((guard_expr secOgWA =ₛ secOgWA); ((with_reducible show FnAt _ _ ∧ _); refine ⟨FnAt.of (by k_asm) (by k_mem), ?_⟩; try dsimp only [List.nil_append, List.cons_append]))
  trivial
theorem put0_spec (w : World) (rest : Led) (kf lf md rq qw rf : Addr) (mo so : Obj) (hK : KC w rest kf lf md so) (rc : Rec) (ta tb tw t1 t2 : Tok) (ws : Int) (r : Bool) (u : Int) (tk : Tok)
    (mps sps : List (Str × Value)) (h10 : (rq, tupR rf r (Str.ofString "/") tw) ∈ rest) (h11 : (rf, tupS (Str.ofString "ref") rc.nm ta tb) ∈ rest) (h12 : (qw, tup2 0 ws t1 t2) ∈ rest) (hin : rc.In w rest)
    (hmd : ∀ prog, mo.IsDictOf (PySem.strKind prog w) mps) (hsd : ∀ prog, so.IsDictOf (PySem.strKind prog w) sps) (hx : valueAt sps rc.nm = some (.ref rc.x)) (hm : valueAt mps rc.nm = some (.bytes (byteArr (rc.oct u)) tk))
    (wf : rc.Wf) (hu : Fit rc.digits rc.signed u) :
    CtS w 165 9 128 ((md, mo) :: rest) [.ref rq, .ref qw, .ref lf, .ref kf] (RPut w md rest rc mps none) := by
  unfold CtS
  intro prog p loose mean mg mb dp un gd cn cs aa ccd cl outer A₀ base h₀ L m s Q E B F X N T hk hdp hun XB TB DB hret
  obtain ⟨h13, h14⟩ := hin
  have C1 := lam_KC (mo := mo) hK rf rc.x rc.dx rc.nm ta tb rc.k rc.v rc.digits rc.scale rc.size rc.usage rc.sign rc.sep rc.signed u tk mps sps h11 h13 h14 hmd hsd hx hm wf hu
  obtain ⟨ock, odk, fdk, slk, hfk⟩ := hK.fnK
  obtain ⟨ocl, odl, fdl, sll, hfl⟩ := hK.fnL
  refine wpAny_call ?_
  refine' enterS (f := 165) (binds := [("row", .ref rq), ("worth", .ref qw), ("number", .ref lf), ("keep", .ref kf)]) B F X N T XB TB DB rfl rfl hk ?k6 ?k7 ?k8 ?k9 ?kB ?_ ?c2 ?c3 ?c4 ?c5
  case k6 => k_is
  case k7 => k_is
  case k8 => ktr_room
  case k9 => exact BindsTo.of_eq rfl
  case c5 => decide
  case kB => exact locs rfl
  case c2 => exact rfl
  case c3 => exact rfl
  case c4 => exact rfl
  k_whole
  intro g' L' h' FG' F' N' B' X' T' D'
  (try dsimp only)
  (try k_lift B')
  (try k_fold)
  k_steps
  (show wpAny _ _ (call (Value.ref lf) [Value.ref rf]) _ _ _)
  cell_ask (useT, C1)
  intro q9 t9 u9 h9 tk9 F9 N9 l9
  have l9' := l9
  k_lt l9
  k_steps
  cell_ask (useX, (reck0_spec w _ q9 qw (dec u rc.scale.toNat).1 (dec u rc.scale.toNat).2 ws _ _ t1 t2 tw (.head _) (.tail _ (.tail _ h12))))
  intro e t wss news' G h9 tk9 hsub FG RS RK U
  try dsimp only
  k_steps
  (try dsimp only)
  k_steps
  unfold OgW LeaveG
  rename News _ _ _ news' => NL
  rename KtsTurn _ _ _ => TL
  rename Fr _ _ _ _ => FL
  refine ⟨_, _, _, _, TL, FL, og_sub NL (fun p hp => hsub p (.tail _ hp)), ?_⟩
  intro g₂ T₂ F₂ N₂ B₂ X₂ P₂ D₂
  exact hret _ _ g₂ _ _ ⟨rfl, mo, 0, rfl, hmd⟩ T₂ F₂ N₂ B₂ X₂ P₂ D₂
theorem CtS.mono {w : World} {f : Addr} {dd uu : Nat} {news : Led} {vs : List Value} {R R' : Value → Led → Prop} (C : CtS w f dd uu news vs R) (h : ∀ r n, R r n → R' r n) : CtS w f dd uu news vs R' :=
  fun prog p loose mean mg mb dp un gd cn cs a ccd cl outer A₀ base h₀ L m s Q E B F X N T hk hdp hun XB TB D hret =>
    C prog p loose mean mg mb dp un gd cn cs a ccd cl outer A₀ base h₀ L m s Q E B F X N T hk hdp hun XB TB D fun r n g' h' tk' hr T' F' N' => hret r n g' h' tk' (h r n hr) T' F' N'
theorem Ct.deep {w : World} {f : Addr} {dd uu dd' uu' : Nat} {news : Led} {vs : List Value} {R : Value → Led → Prop} (C : Ct w f dd uu news vs R) (h1 : dd ≤ dd') (h2 : uu ≤ uu') : Ct w f dd' uu' news vs R :=
  fun prog p loose mean mg mb dp un gd cn cs a ccd cl outer A₀ base h₀ L m s Q E B F X N T hk hdp hun hret =>
    C prog p loose mean mg mb dp un gd cn cs a ccd cl outer A₀ base h₀ L m s Q E B F X N T hk (by lia) (by lia) hret
/-- put_row, whatever its way -/
theorem put_spec (w : World) (rest : Led) (kf lf md qw : Addr) (mo so : Obj) (hK : KC w rest kf lf md so) (row : Row) (t1 t2 : Tok) (wu ws : Int) (u : Int) (tk : Tok)
    (mps sps : List (Str × Value)) (hway : row.way < 5) (h10 : (row.rq, tupR row.rf row.rd (wayS row.way) row.tw) ∈ rest) (h11 : (row.rf, tupS (Str.ofString "ref") row.rc.nm row.ta row.tb) ∈ rest) (h12 : (qw, tup2 wu ws t1 t2) ∈ rest) (hin : row.rc.In w rest)
    (hmd : ∀ prog, mo.IsDictOf (PySem.strKind prog w) mps) (hsd : ∀ prog, so.IsDictOf (PySem.strKind prog w) sps) (hx : valueAt sps row.rc.nm = some (.ref row.rc.x)) (hm : valueAt mps row.rc.nm = some (.bytes (byteArr (row.rc.oct u)) tk)) (hml : mps.length ≤ sizeLine) (hne : ∀ p ∈ rest, p.1 ≠ md)
    (wf : row.rc.Wf) (hu : Fit row.rc.digits row.rc.signed u) (hb0 : 0 ≤ ws) (hb1 : ws ≤ 10) (hb2 : bits wu ≤ 64) :
    CtS w 165 9 128 ((md, mo) :: rest) [.ref row.rq, .ref qw, .ref lf, .ref kf] (RPut w md rest row.rc mps (rowRes row.rc wu ws row.rd row.way u)) := by
  obtain ⟨rq, rf, rc, rd, way, ta, tb, tw⟩ := row
  dsimp only at *
  have hbu : bits (dec u rc.scale.toNat).1 ≤ 64 := by
    refine intBits_le_of_natAbs (dec_abs _ _) (intBits_le_iff.mpr ?_)
    have h1 := of_decide_eq_true hu.1
    have h2 : (10 : Int) ^ rc.digits.toNat ≤ 10 ^ 18 := pow_le_pow10 (by have := wf.2.1; lia)
    have h3 : ((u.natAbs : Nat) : Int) < ((10 ^ 18 : Nat) : Int) := by rw [pow10_nat]; lia
    exact Nat.lt_trans (Int.ofNat_lt.mp h3) (by decide)
  match way, hway with
  | 0, _ =>
    obtain ⟨h13, h14⟩ := hin
    refine CtS.of (Ct.deep (dd := 8) (uu := 96) (Ct.mono (putE_spec w rest kf lf md rq qw rf rc.x rc.dx mo so hK rc.nm ta tb tw t1 t2 wu ws rd rc.k rc.v rc.digits rc.scale rc.size rc.usage rc.sign rc.sep rc.signed mps sps h10 h11 h12 h13 h14 hmd hsd hx hml hne wf hb0 hb1 (Nat.le_trans hb2 (by decide))) fun r n h => ?_) (by decide) (by decide))
    rw [unitsAt_rnd] at h
    exact rput_of (pow10_ne _) h
  | 1, _ => exact CtS.of (putP_spec w rest kf lf md rq qw rf mo so hK rc ta tb tw t1 t2 wu ws rd u tk mps sps h10 h11 h12 hin hmd hsd hx hm hml hne wf hu hb0 hb1 hb2 hbu)
  | 2, _ => exact CtS.of (putM_spec w rest kf lf md rq qw rf mo so hK rc ta tb tw t1 t2 wu ws rd u tk mps sps h10 h11 h12 hin hmd hsd hx hm hml hne wf hu hb0 hb1 hb2 hbu)
  | 3, _ => exact CtS.of (putT_spec w rest kf lf md rq qw rf mo so hK rc ta tb tw t1 t2 wu ws rd u tk mps sps h10 h11 h12 hin hmd hsd hx hm hml hne wf hu hb0 hb1 hb2 hbu)
  | 4, _ =>
    by_cases hw : wu = 0
    · subst hw
      refine CtS.mono (put0_spec w rest kf lf md rq qw rf mo so hK rc ta tb tw t1 t2 ws rd u tk mps sps h10 h11 h12 hin hmd hsd hx hm wf hu) fun r n h => ?_
      have e : rowRes rc 0 ws rd 4 u = none := by unfold rowRes rowOf; rw [if_pos]; exact Int.mul_zero _
      rw [e]
      exact h
    · exact CtS.of (putQ_spec w rest kf lf md rq qw rf mo so hK rc ta tb tw t1 t2 wu ws rd u tk mps sps h10 h11 h12 hin hmd hsd hx hm hml hne wf hu hb0 hb1 hb2 hbu hw)
end SOgWA
section SOgWB
open PySem PySem.W PyProof.Rows PySem.Calls
set_option maxRecDepth 100000
set_option maxHeartbeats 1000000

theorem rs_OgWB : True := by
  w_top off
  trivial
namespace GSOgWB
theorem secOgWB : True := trivial
end GSOgWB
open GSOgWB
theorem wd34 : True := by
  k_with "call ref" => ((guard_expr secOgWB =ₛ secOgWB); (k_here; (with_reducible show wpAny _ _ (call (Value.ref 165) _) _ _ _); refine og_wrap ?_))
  k_with "exec For Name Name cons nil" => ((guard_expr secOgWB =ₛ secOgWB); (k_here; refine For_S ?_))
  trivial
/-- what the rows' loop answers -/
noncomputable def RRows (w : World) (md : Addr) (rest : Led) (S : List Rec) (st : (Str → Int) × Bool) (r : Value) (n : Led) : Prop :=
  r = .bool st.2 ∧ ∃ mo' tk, n = (md, mo') :: rest ∧ ∀ prog, mo'.IsDictOf (PySem.strKind prog w) (mpsOf S st.1 tk)
noncomputable def Row.In (row : Row) (S : List Rec) (l : Led) : Prop := row.rc ∈ S ∧ row.way < 5 ∧ (row.rq, tupR row.rf row.rd (wayS row.way) row.tw) ∈ l ∧ (row.rf, tupS (Str.ofString "ref") row.rc.nm row.ta row.tb) ∈ l
structure RS where
  mo : Obj
  us : Str → Int
  tk : Str → Tok
  odd : Bool
theorem puts_spec (w : World) (rest : Led) (kf lf md qw rl : Addr) (mo so oS : Obj) (hK : KC w rest kf lf md so) (S : List Rec) (rows : List Row) (t1 t2 : Tok) (wu ws : Int) (us : Str → Int) (tkk : Str → Tok)
    (hS : (S.map (·.nm)).Nodup) (hl3 : S.length ≤ 3) (hwf : ∀ r ∈ S, r.Wf ∧ r.In w rest) (hrow : ∀ row ∈ rows, Row.In row S rest) (hO : SeqO oS (rows.map fun r => Value.ref r.rq)) (hrl : (rl, oS) ∈ rest) (h12 : (qw, tup2 wu ws t1 t2) ∈ rest)
    (hmd : ∀ prog, mo.IsDictOf (PySem.strKind prog w) (mpsOf S us tkk)) (hsd : ∀ prog, so.IsDictOf (PySem.strKind prog w) (spsOf S)) (hne : ∀ p ∈ rest, p.1 ≠ md) (hu : FitAll S us)
    (hb0 : 0 ≤ ws) (hb1 : ws ≤ 10) (hb2 : bits wu ≤ 64) :
    CtS w 172 11 144 ((md, mo) :: rest) [.ref rl, .ref qw, .ref lf, .ref kf] (RRows w md rest S (runR wu ws rows us)) := by
  unfold CtS
  intro prog p loose mean mg mb dp un gd cn cs aa ccd cl outer A₀ base h₀ L m s Q E B F X N T hk hdp hun XB TB DB hret
  refine wpAny_call ?_
  refine' enterS (f := 172) (binds := [("rows", .ref rl), ("worth", .ref qw), ("number", .ref lf), ("keep", .ref kf)]) B F X N T XB TB DB rfl rfl hk ?k6 ?k7 ?k8 ?k9 ?kB ?_ ?c2 ?c3 ?c4 ?c5
  case k6 => k_is
  case k7 => k_is
  case k8 => ktr_room
  case k9 => exact BindsTo.of_eq rfl
  case c5 => decide
  case kB => exact locs rfl
  case c2 => exact rfl
  case c3 => exact rfl
  case c4 => exact rfl
  k_whole
  intro g' L' h' FG' F' N' B' X' T' D'
  (try dsimp only)
  (try k_lift B')
  (try k_fold)
  k_steps
  rename Fr g' L' _ _ => F5
  rename News g' L' _ _ => N5
  refine og_srcS (σ := RS) hO rfl (fun g => KtsTurn (frs (envX cn cs L aa ccd cl :: outer)) g' g ∧ Below _ base (envX cn cs L aa ccd cl :: outer) g ∧ (hd.heap_1 w.params).In g ∧ Top p loose mean mg mb g ∧ KtsDicts (frs (envX cn cs L aa ccd cl :: outer)) g)
    (fun c => (md, c.mo) :: rest) (fun c => [("is_odd", .bool c.odd)]) (fun i c => (c.us, c.odd) = runR wu ws (rows.take i) us ∧ FitAll S c.us ∧ ∀ prog, c.mo.IsDictOf (PySem.strKind prog w) (mpsOf S c.us c.tk)) ⟨mo, us, tkk, false⟩
    rfl rfl ?hE (fun _ _ _ => .tail _ hrl) ⟨KtsTurn.refl, B', X', T', D'⟩ F5 N5 ?hk ⟨rfl, hu, hmd⟩ ?turn ?done
  case hE => passes_own
  case hk => 
    intro p hp
    rw [List.mem_singleton.mp hp]
    rfl
  case turn =>
    intro c i v g h5 tk5 I oI hv hP hnI hG F6 N6
    obtain ⟨e1, hfit, hcmo⟩ := hP
    obtain ⟨T6, B6, X6, P6, D6⟩ := hG
    have N6' := og_sub N6 (b := (md, c.mo) :: (I, oI) :: rest) fun p hp => by
      simp only [List.mem_cons] at hp ⊢
      rcases hp with h | h | h <;> simp [h]
    obtain ⟨row, hrw, rfl⟩ : ∃ row, rows[i]? = some row ∧ v = .ref row.rq := by
      rw [List.getElem?_map] at hv
      cases hq : rows[i]? with
      | none => rw [hq] at hv; cases hv
      | some row => rw [hq] at hv; exact ⟨row, rfl, (Option.some.inj hv).symm⟩
    obtain ⟨hrc, hway, h10, h11⟩ := hrow row (List.mem_of_getElem? hrw)
    have hin := (hwf _ hrc).2
    have hne2 : ∀ p ∈ (I, oI) :: rest, p.1 ≠ md := fun p hp => by
      rcases List.mem_cons.mp hp with rfl | hp
      · exact fun e => hnI _ (.head _) e.symm
      · exact hne p hp
    have hC := put_spec w ((I, oI) :: rest) kf lf md qw c.mo so (hK.mono fun p hp => .tail _ hp) row t1 t2 wu ws (c.us row.rc.nm) (c.tk row.rc.nm) (mpsOf S c.us c.tk) (spsOf S) hway (.tail _ h10) (.tail _ h11) (.tail _ h12) ⟨.tail _ hin.1, .tail _ hin.2⟩ hcmo hsd (value_map hS hrc) (value_map hS hrc) (by rw [mpsOf, List.length_map, sizeLine_eq]; lia) hne2 (hwf _ hrc).1 (hfit _ hrc) hb0 hb1 hb2
    obtain ⟨ock, odk, fdk, slk, hfk⟩ := hK.fnK
    obtain ⟨ocl, odl, fdl, sll, hfl⟩ := hK.fnL
    k_steps
    unfold OgW
    refine' useS hC B6 ?k2 X6 ?k4 P6 rfl ?kd ?ku XB TB D6 ?_
    case k2 => k_asm
    case k4 => k_asm
    case kd => ktr_room
    case ku => ktr_units
    intro r n g7 h7 tk7 hR T7 F7 N7 B7 X7 P7 D7
    obtain ⟨e2, mo', tk', e3, hmo'⟩ := hR
    subst e2 e3
    have e9 : runR wu ws (rows.take (i + 1)) us = stepR wu ws (c.us, c.odd) row := by
      rw [e1, ← runR_snoc]
      congr 1
      rw [List.take_add_one, hrw]
      rfl
    have hf9 : FitAll S (stepR wu ws (c.us, c.odd) row).1 := stepR_fit hS hfit hrc
    unfold stepR at e9 hf9
    dsimp only at e9 hf9
    cases ho : rowRes row.rc wu ws row.rd row.way (c.us row.rc.nm) with
    | none =>
      rw [ho] at hmo' e9 hf9
      simp only [Option.isNone_none]
      k_steps
      unfold OgPostG OgW
      rename News g7 _ _ _ => N8
      have N9 := og_sub N8 (b := (I, oI) :: (md, mo') :: rest) fun p hp => by
        simp only [List.mem_cons] at hp ⊢
        rcases hp with h | h | h <;> simp [h]
      refine ⟨g7, ⟨T6.trans T7, B7, X7, P7, D7⟩, ?_⟩
      refine' og_end ⟨mo', c.us, c.tk, true⟩ (by k_asm) N9 (.head _) (fun _ h => .tail _ h) ?oga ?ogb ?ogc ?ogd
      case oga => exact og_ne_swap hnI
      case ogb => kst_all
      case ogc => ksw_same
      case ogd => exact ⟨e9.symm, hf9, hmo'⟩
    | some v =>
      rw [ho] at hmo' e9 hf9
      simp only [Option.isNone_some]
      k_steps
      unfold OgPostG OgW
      rename News g7 _ _ _ => N8
      have N9 := og_sub N8 (b := (I, oI) :: (md, mo') :: rest) fun p hp => by
        simp only [List.mem_cons] at hp ⊢
        rcases hp with h | h | h <;> simp [h]
      refine ⟨g7, ⟨T6.trans T7, B7, X7, P7, D7⟩, ?_⟩
      refine' og_end ⟨mo', setAt c.us row.rc.nm v, setAt c.tk row.rc.nm tk', c.odd⟩ (by k_asm) N9 (.head _) (fun _ h => .tail _ h) ?oga ?ogb ?ogc ?ogd
      case oga => exact og_ne_swap hnI
      case ogb => kst_all
      case ogc => ksw_same
      case ogd => exact ⟨e9.symm, hf9, fun prog => by have := hmo' prog; dsimp only at this; rw [stored_mps hS hrc] at this; exact this⟩
  case done =>
    intro c u g h5 tk5 hP hG F6 N6
    obtain ⟨T6, B6, X6, P6, D6⟩ := hG
    rw [List.length_map, List.take_length] at hP
    obtain ⟨e1, hfit, hcmo⟩ := hP
    k_steps
    (try dsimp only)
    k_steps
    unfold OgW LeaveG
    rename News g _ _ _ => N8
    rename Fr g _ _ _ => F8
    refine ⟨g, _, _, _, T6, F8, N8, ?_⟩
    intro g₂ T₂ F₂ N₂ B₂ X₂ P₂ D₂
    refine hret _ _ g₂ _ _ ⟨?_, c.mo, c.tk, rfl, ?_⟩ T₂ F₂ N₂ B₂ X₂ P₂ D₂
    · rw [← e1]
    · rw [← e1]; exact hcmo
end SOgWB
section SOgWC
open PySem PySem.W PyProof.Rows PySem.Calls
set_option maxRecDepth 100000
set_option maxHeartbeats 1000000

theorem rs_OgWC : True := by
  w_top off
  trivial
namespace GSOgWC
theorem secOgWC : True := trivial
end GSOgWC
open GSOgWC
theorem wd35 : True := by
  k_with "call ref" => ((guard_expr secOgWC =ₛ secOgWC); (k_here; (with_reducible show wpAny _ _ (call (Value.ref 172) _) _ _ _); refine og_wrap ?_))
  k_with "exec FunctionDef" => ((guard_expr secOgWC =ₛ secOgWC); (k_here; k_dflt (refine' nestDef_K ?d0z98 ?k0z98 ?a0z98 ?_; (case d0z98 => exact rfl); (case k0z98 => exact rfl); (case a0z98 => exact rfl)); (first | (k_dflt (refine' nest_K ?Fz98 ?Nz98 ?Tz98 ?Cz98 ?cdz98 ?Uz98 ?tz98 ?nz98 ?clz98 ?_; (case Fz98 => k_asm); (case Nz98 => k_asm); (case Tz98 => k_asm); (case cdz98 => exact rfl); (case Cz98 => kn_code); (case Uz98 => k_updF); (case tz98 => kn_triples); (case nz98 => kn_among); (case clz98 => exact rfl); k_whole); intro f'z98 c'z98 oc'z98 vs'z98 t'z98 ct'z98 dc'z98 h'z98 tk'z98 F'z98 N'z98 d1'z98 d2'z98 l1z98 l2z98; (try dsimp only at N'z98); (try k_lt l1z98); (try k_lt2 l2z98)) | (k_dflt (refine' nestHit_K ?Fz98 ?Nz98 ?Tz98 ?Cz98 ?cdz98 ?memz98 ?tz98 ?nz98 ?clz98 ?_; (case Fz98 => k_asm); (case Nz98 => k_asm); (case Tz98 => k_asm); (case cdz98 => exact rfl); (case Cz98 => kn_code); (case memz98 => k_mem); (case tz98 => kn_triples); (case nz98 => kn_hit); (case clz98 => exact rfl); k_whole); intro f'z98 ct'z98 dc'z98 h'z98 tk'z98 F'z98 N'z98 l1z98; (try dsimp only at N'z98); (try k_lt l1z98)))))
  trivial
noncomputable abbrev tabF (c1 c2 : Addr) : Obj := tabObj #[rawInt 276, rawInt 4, .ref c1, rawInt 282, rawInt 38, .ref c2]
/-- the code objects of the two nested functions, kept in _law_reckoned's table -/
noncomputable def TabIn (l : Led) : Prop := ∃ (c1 c2 : Addr) (oc1 oc2 : Obj) (v1 v2 : Array Value) (t1 t2 : Tok), (351, tabF c1 c2) ∈ l ∧ (c1, oc1) ∈ l ∧ (c2, oc2) ∈ l ∧ oc1.data = .fields v1 ∧ v1[1]? = some (.str (Str.ofString "_law_reckoned.<locals>.keep") t1) ∧ oc2.data = .fields v2 ∧ v2[1]? = some (.str (Str.ofString "_law_reckoned.<locals>.<lambda>") t2)
theorem TabIn.mono {l l' : Led} (h : TabIn l) (hs : ∀ p ∈ l, p ∈ l') : TabIn l' := by
  obtain ⟨c1, c2, oc1, oc2, v1, v2, t1, t2, a, b, c, d⟩ := h
  exact ⟨c1, c2, oc1, oc2, v1, v2, t1, t2, hs _ a, hs _ b, hs _ c, d⟩
theorem mem8 {a b c d e f g m : Addr × Obj} {r : Led} : ∀ p ∈ m :: a :: b :: c :: d :: e :: f :: g :: r, p ∈ a :: b :: c :: d :: e :: f :: g :: m :: r := 
  fa (.tail _ (.tail _ (.tail _ (.tail _ (.tail _ (.tail _ (.tail _ (.head _)))))))) (fa (.head _) (fa (.tail _ (.head _)) (fa (.tail _ (.tail _ (.head _))) (fa (.tail _ (.tail _ (.tail _ (.head _)))) (fa (.tail _ (.tail _ (.tail _ (.tail _ (.head _))))) (fa (.tail _ (.tail _ (.tail _ (.tail _ (.tail _ (.head _)))))) (fa (.tail _ (.tail _ (.tail _ (.tail _ (.tail _ (.tail _ (.head _))))))) (fun _ h => .tail _ (.tail _ (.tail _ (.tail _ (.tail _ (.tail _ (.tail _ (.tail _ h)))))))))))))))
theorem kc_mk {w : World} {g h : Heap} {L : Addr} {rest : Led} {md sd lf c2 kf c1 cs cm : Addr} {mo so olf oc2 okf oc1 o2 o1 otb : Obj} {doc pm1 ct1 pm2 ct2 : Value} {v1 v2 : Array Value} {t1 t2 : Tok}
    (N : News g L h ((lf, olf) :: (c2, oc2) :: (kf, okf) :: (c1, oc1) :: (cs, o2) :: (cm, o1) :: (351, otb) :: (md, mo) :: rest))
    (ek : okf = keepO w (Str.ofString "_law_reckoned.<locals>.keep") [("shapes", cs), ("memory", cm)] doc pm1 c1 ct1) (el : olf = lamO w (Str.ofString "_law_reckoned.<locals>.<lambda>") [("shapes", cs), ("memory", cm)] pm2 c2 ct2) (et : otb = tabF c1 c2)
    (h1 : oc1.data = .fields v1) (h2 : v1[1]? = some (.str (Str.ofString "_law_reckoned.<locals>.keep") t1)) (h3 : oc2.data = .fields v2) (h4 : v2[1]? = some (.str (Str.ofString "_law_reckoned.<locals>.<lambda>") t2))
    (h5 : o1.data = .cell (some (.ref md))) (h6 : o2.data = .cell (some (.ref sd))) (hsd : (sd, so) ∈ rest) (hne : ∀ p ∈ rest, p.1 ≠ md) (n1 : md ≠ lf ∧ md ≠ c2 ∧ md ≠ kf ∧ md ≠ c1 ∧ md ≠ cs ∧ md ≠ cm ∧ md ≠ 351) :
    ∃ rest', KC w (rest' ++ rest) kf lf md so ∧ News g L h ((md, mo) :: (rest' ++ rest)) ∧ (∀ p ∈ rest' ++ rest, p.1 ≠ md) ∧ (∃ tl, TabIn tl ∧ (∀ p ∈ tl, p ∈ rest')) := by
  refine ⟨[(lf, olf), (c2, oc2), (kf, okf), (c1, oc1), (cs, o2), (cm, o1), (351, otb)], ?_, og_sub N mem8, ?_, [(351, otb), (c1, oc1), (c2, oc2)], ?_, ?_⟩
  · refine ⟨c1, c2, cm, cs, sd, doc, pm1, ct1, pm2, ct2, _, oc1, oc2, o1, o2, v1, v2, t1, t2, ?_, ?_, h1, h2, ?_, ?_, h3, h4, ?_, h5, ?_, h6, ?_⟩
    · rw [← ek]; simp
    · simp
    · rw [← el]; simp
    · simp
    · simp
    · simp
    · exact List.mem_append_right _ hsd
  · obtain ⟨a, b, c, d, e, f, i⟩ := n1
    exact fa (Ne.symm a) (fa (Ne.symm b) (fa (Ne.symm c) (fa (Ne.symm d) (fa (Ne.symm e) (fa (Ne.symm f) (fa (Ne.symm i) hne))))))
  · exact ⟨c1, c2, oc1, oc2, v1, v2, t1, t2, by rw [et]; simp, by simp, by simp, h1, h2, h3, h4⟩
  · intro p hp
    simp only [List.mem_cons, List.not_mem_nil, or_false] at hp ⊢
    rcases hp with h | h | h <;> simp [h]

theorem lreck1_spec (w : World) (rest : Led) (md sd qw rl : Addr) (mo so oS : Obj) (S : List Rec) (rows : List Row) (t1 t2 : Tok) (wu ws : Int) (us : Str → Int) (tkk : Str → Tok)
    (hS : (S.map (·.nm)).Nodup) (hl3 : S.length ≤ 3) (hwf : ∀ r ∈ S, r.Wf ∧ r.In w rest) (hrow : ∀ row ∈ rows, Row.In row S rest) (hO : SeqO oS (rows.map fun r => Value.ref r.rq)) (hrl : (rl, oS) ∈ rest) (h12 : (qw, tup2 wu ws t1 t2) ∈ rest) (hsd0 : (sd, so) ∈ rest)
    (hmd : ∀ prog, mo.IsDictOf (PySem.strKind prog w) (mpsOf S us tkk)) (hsd : ∀ prog, so.IsDictOf (PySem.strKind prog w) (spsOf S)) (hne : ∀ p ∈ rest, p.1 ≠ md) (hu : FitAll S us)
    (hb0 : 0 ≤ ws) (hb1 : ws ≤ 10) (hb2 : bits wu ≤ 64) (htm : md ≠ 351) (htb : ∀ p ∈ rest, p.1 ≠ 351) :
    CtS w 356 13 160 ((351, tabObj #[]) :: (md, mo) :: rest) [.ref md, .ref sd, .ref rl, .ref qw] (fun r n => ∃ tl, TabIn tl ∧ RRows w md (tl ++ rest) S (runR wu ws rows us) r n) := by
  unfold CtS
  intro prog p loose mean mg mb dp un gd cn cs aa ccd cl outer A₀ base h₀ L m s Q E B F X N T hk hdp hun XB TB DB hret
  have CH := codeHd355 X
  refine wpAny_call ?_
  refine' enterCS (f := 356) (binds := [("memory", .ref md), ("shapes", .ref sd), ("rows", .ref rl), ("worth", .ref qw)]) B F X N T XB TB DB rfl rfl hk ?k6 ?k7 ?k8 ?k9 ?kB ?kD ?_ ?c2 ?c3 ?c4
  case k6 => k_is
  case k7 => k_is
  case k8 => ktr_room
  case k9 => exact BindsTo.of_eq rfl
  case kB => exact rfl
  case kD => decide +kernel
  case c2 => exact rfl
  case c3 => exact rfl
  case c4 => exact rfl
  k_whole
  intro g' L' h' tk' cells' FG' F' N' Y' B' X' T' D' l1
  have CH2 := codeHd355 X'
  k_lt l1
  k_cells Y'
  (try simp only [List.cons_append, List.nil_append] at N')
  (try dsimp only)
  (try k_lift B')
  (try k_fold)
  k_steps
  unfold OgW
  rename News g' L' _ _ => NN
  obtain ⟨rest', hK, N9, hne9, tl, hT, htl⟩ := kc_mk (w := w) (so := so) (sd := sd) NN (by with_unfolding_all rfl) (by with_unfolding_all rfl) (by with_unfolding_all rfl) (by assumption) (by assumption) (by assumption) (by assumption) (by assumption) (by assumption) hsd0 hne (by refine ⟨?_, ?_, ?_, ?_, ?_, ?_, htm⟩ <;> (first | k_ne | (refine neN ?_; lia)))
  have ap : ∀ p ∈ rest, p ∈ rest' ++ rest := fun p hp => List.mem_append_right _ hp
  have hC := puts_spec w (rest' ++ rest) _ _ md qw rl mo so oS hK S rows t1 t2 wu ws us tkk hS hl3 (fun r hr => ⟨(hwf r hr).1, ap _ (hwf r hr).2.1, ap _ (hwf r hr).2.2⟩) (fun row hr => ⟨(hrow row hr).1, (hrow row hr).2.1, ap _ (hrow row hr).2.2.1, ap _ (hrow row hr).2.2.2⟩) hO (ap _ hrl) (ap _ h12) hmd hsd hne9 hu hb0 hb1 hb2
  refine' useS hC B' ?k2 X' N9 T' rfl ?kd ?ku XB TB D' ?_
  case k2 => k_asm
  case kd => ktr_room
  case ku => ktr_units
  intro r n g7 h7 tk7 hR T7 F7 N7 B7 X7 P7 D7
  obtain ⟨e2, mo', tk', e3, hmo'⟩ := hR
  subst e2 e3
  k_steps
  try unfold OgW
  unfold LeaveG
  rename News g7 _ _ _ => N8
  rename Fr g7 _ _ _ => F8
  refine ⟨g7, _, _, _, T7, F8, N8, ?_⟩
  intro g₂ T₂ F₂ N₂ B₂ X₂ P₂ D₂
  exact hret _ _ g₂ _ _ ⟨tl, hT, rfl, mo', tk', rfl, hmo'⟩ T₂ F₂ (og_sub N₂ fun p hp => by
    rcases List.mem_cons.mp hp with rfl | hp
    · exact .head _
    · rcases List.mem_append.mp hp with hp | hp
      · exact .tail _ (List.mem_append_left _ (htl p hp))
      · exact .tail _ (List.mem_append_right _ hp)) B₂ X₂ P₂ D₂
theorem mem5 {a b c d m : Addr × Obj} {r : Led} : ∀ p ∈ m :: a :: b :: c :: d :: r, p ∈ a :: b :: c :: d :: m :: r := 
  fa (.tail _ (.tail _ (.tail _ (.tail _ (.head _))))) (fa (.head _) (fa (.tail _ (.head _)) (fa (.tail _ (.tail _ (.head _))) (fa (.tail _ (.tail _ (.tail _ (.head _)))) (fun _ h => .tail _ (.tail _ (.tail _ (.tail _ (.tail _ h)))))))))
theorem kc_mk2 {w : World} {g h : Heap} {L : Addr} {rest : Led} {md sd lf c2 kf c1 cs cm : Addr} {mo so olf oc2 okf oc1 o2 o1 : Obj} {doc pm1 ct1 pm2 ct2 : Value} {v1 v2 : Array Value} {t1 t2 : Tok}
    (N : News g L h ((lf, olf) :: (kf, okf) :: (cs, o2) :: (cm, o1) :: (md, mo) :: rest))
    (ek : okf = keepO w (Str.ofString "_law_reckoned.<locals>.keep") [("shapes", cs), ("memory", cm)] doc pm1 c1 ct1) (el : olf = lamO w (Str.ofString "_law_reckoned.<locals>.<lambda>") [("shapes", cs), ("memory", cm)] pm2 c2 ct2)
    (m1 : (c1, oc1) ∈ rest) (m2 : (c2, oc2) ∈ rest) (h1 : oc1.data = .fields v1) (h2 : v1[1]? = some (.str (Str.ofString "_law_reckoned.<locals>.keep") t1)) (h3 : oc2.data = .fields v2) (h4 : v2[1]? = some (.str (Str.ofString "_law_reckoned.<locals>.<lambda>") t2))
    (h5 : o1.data = .cell (some (.ref md))) (h6 : o2.data = .cell (some (.ref sd))) (hsd : (sd, so) ∈ rest) (hne : ∀ p ∈ rest, p.1 ≠ md) (n1 : md ≠ lf ∧ md ≠ kf ∧ md ≠ cs ∧ md ≠ cm) :
    ∃ rest', KC w (rest' ++ rest) kf lf md so ∧ News g L h ((md, mo) :: (rest' ++ rest)) ∧ (∀ p ∈ rest' ++ rest, p.1 ≠ md) := by
  refine ⟨[(lf, olf), (kf, okf), (cs, o2), (cm, o1)], ?_, og_sub N mem5, ?_⟩
  · refine ⟨c1, c2, cm, cs, sd, doc, pm1, ct1, pm2, ct2, _, oc1, oc2, o1, o2, v1, v2, t1, t2, ?_, List.mem_append_right _ m1, h1, h2, ?_, List.mem_append_right _ m2, h3, h4, ?_, h5, ?_, h6, List.mem_append_right _ hsd⟩
    · rw [← ek]; simp
    · rw [← el]; simp
    · simp
    · simp
  · obtain ⟨a, c, e, f⟩ := n1
    exact fa (Ne.symm a) (fa (Ne.symm c) (fa (Ne.symm e) (fa (Ne.symm f) hne)))
theorem lreck2_spec (w : World) (rest : Led) (md sd qw rl : Addr) (mo so oS : Obj) (S : List Rec) (rows : List Row) (t1 t2 : Tok) (wu ws : Int) (us : Str → Int) (tkk : Str → Tok)
    (hS : (S.map (·.nm)).Nodup) (hl3 : S.length ≤ 3) (hwf : ∀ r ∈ S, r.Wf ∧ r.In w rest) (hrow : ∀ row ∈ rows, Row.In row S rest) (hO : SeqO oS (rows.map fun r => Value.ref r.rq)) (hrl : (rl, oS) ∈ rest) (h12 : (qw, tup2 wu ws t1 t2) ∈ rest) (hsd0 : (sd, so) ∈ rest)
    (hmd : ∀ prog, mo.IsDictOf (PySem.strKind prog w) (mpsOf S us tkk)) (hsd : ∀ prog, so.IsDictOf (PySem.strKind prog w) (spsOf S)) (hne : ∀ p ∈ rest, p.1 ≠ md) (hu : FitAll S us)
    (hb0 : 0 ≤ ws) (hb1 : ws ≤ 10) (hb2 : bits wu ≤ 64) (hT : TabIn rest) :
    CtS w 356 13 160 ((md, mo) :: rest) [.ref md, .ref sd, .ref rl, .ref qw] (RRows w md rest S (runR wu ws rows us)) := by
  obtain ⟨c1, c2, oc1, oc2, v1, v2, tt1, tt2, m0, m1, m2, d1, e1, d2, e2⟩ := hT
  unfold CtS
  intro prog p loose mean mg mb dp un gd cn cs aa ccd cl outer A₀ base h₀ L m s Q E B F X N T hk hdp hun XB TB DB hret
  have CH := codeHd355 X
  refine wpAny_call ?_
  refine' enterCS (f := 356) (binds := [("memory", .ref md), ("shapes", .ref sd), ("rows", .ref rl), ("worth", .ref qw)]) B F X N T XB TB DB rfl rfl hk ?k6 ?k7 ?k8 ?k9 ?kB ?kD ?_ ?c2 ?c3 ?c4
  case k6 => k_is
  case k7 => k_is
  case k8 => ktr_room
  case k9 => exact BindsTo.of_eq rfl
  case kB => exact rfl
  case kD => decide +kernel
  case c2 => exact rfl
  case c3 => exact rfl
  case c4 => exact rfl
  k_whole
  intro g' L' h' tk' cells' FG' F' N' Y' B' X' T' D' l1
  have CH2 := codeHd355 X'
  k_lt l1
  k_cells Y'
  (try simp only [List.cons_append, List.nil_append] at N')
  (try dsimp only)
  (try k_lift B')
  (try k_fold)
  k_steps
  unfold OgW
  rename News g' L' _ _ => NN
  obtain ⟨rest', hK, N9, hne9⟩ := kc_mk2 (w := w) (so := so) (sd := sd) NN (by with_unfolding_all rfl) (by with_unfolding_all rfl) m1 m2 d1 e1 d2 e2 (by assumption) (by assumption) hsd0 hne (by refine ⟨?_, ?_, ?_, ?_⟩ <;> (first | k_ne | (refine neN ?_; lia)))
  have ap : ∀ p ∈ rest, p ∈ rest' ++ rest := fun p hp => List.mem_append_right _ hp
  have hC := puts_spec w (rest' ++ rest) _ _ md qw rl mo so oS hK S rows t1 t2 wu ws us tkk hS hl3 (fun r hr => ⟨(hwf r hr).1, ap _ (hwf r hr).2.1, ap _ (hwf r hr).2.2⟩) (fun row hr => ⟨(hrow row hr).1, (hrow row hr).2.1, ap _ (hrow row hr).2.2.1, ap _ (hrow row hr).2.2.2⟩) hO (ap _ hrl) (ap _ h12) hmd hsd hne9 hu hb0 hb1 hb2
  refine' useS hC B' ?k2 X' N9 T' rfl ?kd ?ku XB TB D' ?_
  case k2 => k_asm
  case kd => ktr_room
  case ku => ktr_units
  intro r n g7 h7 tk7 hR T7 F7 N7 B7 X7 P7 D7
  obtain ⟨e2, mo', tk', e3, hmo'⟩ := hR
  subst e2 e3
  k_steps
  try unfold OgW
  unfold LeaveG
  rename News g7 _ _ _ => N8
  rename Fr g7 _ _ _ => F8
  refine ⟨g7, _, _, _, T7, F8, N8, ?_⟩
  intro g₂ T₂ F₂ N₂ B₂ X₂ P₂ D₂
  exact hret _ _ g₂ _ _ ⟨rfl, mo', tk', rfl, hmo'⟩ T₂ F₂ (og_sub N₂ fun p hp => by
    rcases List.mem_cons.mp hp with rfl | hp
    · exact .head _
    · exact .tail _ (List.mem_append_right _ hp)) B₂ X₂ P₂ D₂
end SOgWC
section SOgCT
open PySem PySem.W PyProof.Rows PySem.Calls PySem.Spec
set_option maxRecDepth 100000
set_option maxHeartbeats 4000000
set_option linter.unusedVariables false
section
variable {prog : Program} {w : World} {A : Around} {E : Value → Shared → Prop} {s : Shared} {env : Env} {h₀ : Heap} {target : Expr} {pos : Pos} {body : List Stmt} {Q : Flow → Shared → Prop}
noncomputable def OgForT (prog : Program) (w : World) (A : Around) (env : Env) (target : Expr) (body : List Stmt) (Q : Flow → Shared → Prop) (E : Value → Shared → Prop) (it : Value) (s₂ : Shared) : Prop :=
  codeAny (model prog w) A (.forLoop target it body [] env) (fun r s' => match r with | .ok f => Q f s' | .error e => cameBackBy (model prog w) A env E e s') s₂
theorem For_T {iter : Expr} (h : wpAny (model prog w) A (eval iter env) (fun xv s₁ => OgW (wpAny (model prog w) A (pyIter xv) (fun it s₂ => OgForT prog w A env target body Q E it s₂) E s₁)) E s)
    (hs : ∀ z, foldedSetIterable iter env z = pure z := by intro _; rfl) : wpAny (model prog w) A (exec (.For target iter body [] pos) env) Q E s :=
  wpAny_For (wpAny_mono h (fun xv s₁ h₁ => wpAny_mono h₁ (fun it s₂ h₂ => h₂) fun _ _ e => e) fun _ _ e => e) hs
noncomputable def OgEndT {σ : Type} (G : Heap → Prop) (L : Addr) (Ld : σ → Led) (ps : σ → List (Str × Value)) (P : σ → Prop) (I : Addr) (oI : Obj) (s₁ s₂ : Shared) : Prop :=
  ∃ g h' tk m' c, s₂ = { s₁ with heap := h', toks := tk } ∧ G g ∧ Fr g L h' m' ∧ News g L h' ((I, oI) :: Ld c) ∧ (∀ p ∈ Ld c, p.1 ≠ I) ∧ (∀ p ∈ ps c, m' p.1 = some p.2) ∧ P c
noncomputable def OgPostT {σ : Type} (G : Heap → Prop) (L : Addr) (Ld : σ → Led) (ps : σ → List (Str × Value)) (P : σ → Prop) (I : Addr) (oI : Obj) (s₁ : Shared) (Q : Flow → Shared → Prop) (f : Flow) (s₂ : Shared) : Prop :=
  match f with
  | .ret v => Q (.ret v) s₂
  | .brk => Q .next s₂
  | .next => OgW (OgEndT G L Ld ps P I oI s₁ s₂)
  | .cont => OgW (OgEndT G L Ld ps P I oI s₁ s₂)
theorem og_endT {σ : Type} {G : Heap → Prop} {L : Addr} {Ld : σ → Led} {ps : σ → List (Str × Value)} {P : σ → Prop} {I : Addr} {oI : Obj} {s₁ : Shared} {g h' : Heap} {tk : Nat} {m' : Str → Option Value} {news' : Led} (c : σ)
    (hG : G g) (F : Fr g L h' m') (N : News g L h' news') (hI : (I, oI) ∈ news') (hs : ∀ p ∈ Ld c, p ∈ news') (hne : ∀ p ∈ Ld c, p.1 ≠ I) (hk : ∀ p ∈ ps c, m' p.1 = some p.2) (hp : P c) :
    OgW (OgEndT G L Ld ps P I oI s₁ { s₁ with heap := h', toks := tk }) :=
  ⟨g, h', tk, m', c, rfl, hG, F, fun p hp => by
    rcases List.mem_cons.mp hp with rfl | hp
    · exact N _ hI
    · exact N p (hs p hp), hne, hk, hp⟩
theorem fr_kst {g h : Heap} {L : Addr} {m : Str → Option Value} {ps : List (Str × Value)} (hk : ∀ p ∈ ps, m p.1 = some p.2) (F : Fr g L h m) : Fr g L h (kstB m ps) := by
  have em : kstB m ps = m := by
    funext y
    exact kstB_eq hk fun _ => rfl
  rw [em]; exact F
theorem og_turns {σ : Type} {itv : Value} {n : Nat} {Pv : Nat → Value → Prop} {St : Addr → Nat → Heap → Prop} {oI0 : Obj} {src : Led} {m₀ : Str → Option Value}
    (hit : ∀ Q' : Value → Shared → Prop, Q' (.ref s.heap.objs.size) { s with heap := s.heap.push oI0 } → wpAny (model prog w) A (pyIter itv) Q' E s) (hof : oI0.isFreed = false)
    (hW : ∀ I, (∀ p ∈ src, p.1 ≠ I) → Walks prog w A I (I :: src.map (·.1)) [I] n Pv (St I))
    (hgo : ∀ I i v (s : Shared) (Q : Unit → Shared → Prop) (E : Value → Shared → Prop), St I i s.heap → Q () s → wpAny (model prog w) A (letOwnedTupleGo target (.ref I) v) Q E s)
    (hSt0 : ∀ I (h : Heap), h.get? I = some oI0 → (∀ p ∈ src, h.get? p.1 = some p.2) → St I 0 h) (hSt : ∀ I i h, St I i h → ∃ o, h.get? I = some o)
    (G : Heap → Prop) (Ld : σ → Led) (ps : σ → List (Str × Value)) (P : Nat → σ → Prop) (c₀ : σ) (hE : PassesOwn (model prog w) A env E)
    (hl : ∀ i c, P i c → ∀ p ∈ src, p ∈ Ld c) (hg : G h₀)
    (F : Fr h₀ env.locals s.heap m₀) (N : News h₀ env.locals s.heap (Ld c₀)) (hk : ∀ p ∈ ps c₀, m₀ p.1 = some p.2) (hp : P 0 c₀)
    (turn : ∀ (c : σ) (i : Nat) (v : Value) (g h : Heap) (tk : Nat) (I : Addr) (oI : Obj) (m : Str → Option Value), i < n → Pv i v → P i c → (∀ p ∈ Ld c, p.1 ≠ I) → G g →
      Fr g env.locals h (kstB m (ps c)) → News g env.locals h ((I, oI) :: Ld c) →
      wpAny (model prog w) A (assign target env v) (fun _ s₃ => wpAny (model prog w) A (execs body env) (OgPostT G env.locals Ld ps (P (i + 1)) I oI { s with heap := h, toks := tk } Q) E s₃) E { s with heap := h, toks := tk })
    (done : ∀ (c : σ) (g h : Heap) (tk : Nat) (m : Str → Option Value), P n c → G g → Fr g env.locals h (kstB m (ps c)) → News g env.locals h (Ld c) → Q .next { s with heap := h, toks := tk }) :
    OgW (wpAny (model prog w) A (pyIter itv) (fun it s₂ => OgForT prog w A env target body Q E it s₂) E s) := by
  have hm := hl 0 c₀ hp
  refine hit _ ?_
  generalize hI : s.heap.objs.size = I
  have hfr : ∀ b o, s.heap.get? b = some o → b ≠ I := fun b o e => by rw [← hI]; exact Nat.ne_of_lt (Heap.lt_size e)
  have hLI : env.locals ≠ I := by
    obtain ⟨oL, _, _, hL, _⟩ := F.ns
    exact hfr _ _ hL
  have hsrc : ∀ p ∈ src, p.1 ≠ I := fun p hp => hfr _ _ (N p (hm p hp)).1
  have hgI : h₀.get? I = none := by
    cases q : h₀.get? I with
    | none => rfl
    | some o => exact absurd rfl (hfr _ _ (F.keep _ _ q))
  have hpush : (s.heap.push oI0).get? I = some oI0 := by rw [← hI]; exact Heap.get?_push_size _ hof
  have W := hW I hsrc
  refine codeAny_forLoop_any
    (fun k s' => ∃ h' tk m' g' c, ∃ i : Nat, ∃ oI, s' = { s with heap := h', toks := tk } ∧ St I i h' ∧ G g' ∧ Fr g' env.locals h' m' ∧ News g' env.locals h' ((I, oI) :: Ld c) ∧ (∀ p ∈ Ld c, p.1 ≠ I) ∧ (∀ p ∈ ps c, m' p.1 = some p.2) ∧ P i c ∧ i ≤ n ∧ k = n + 1 - i) ?_ (n + 1) ?_
  · rintro k s' ⟨h', tk, m', g', c, i, oI, rfl, hst, hG, F', N', hnI, h1, hP, hi, rfl⟩
    have gI : g'.get? I = none := (N' _ (.head _)).2.2
    have next : ∀ h₁ : Heap, (∀ b o, b ∉ [I] → h'.get? b = some o → h₁.get? b = some o) → Fr g' env.locals h₁ m' ∧ News g' env.locals h₁ (Ld c) := fun h₁ hk₁ =>
      ⟨⟨F'.ns.at' fun o e => hk₁ _ o (by simpa using hLI) e, fun b o e => hk₁ b o (by
        intro hb
        rw [List.mem_singleton.mp hb, gI] at e
        cases e) (F'.keep b o e), F'.above⟩, fun p hp => ⟨hk₁ _ _ (by simpa using hnI p hp) (N' p (.tail _ hp)).1, (N' p (.tail _ hp)).2⟩⟩
    by_cases hlt : i < n
    · refine W.item i _ _ _ hlt hst fun v h₁ tk₁ hPv hst₁ hk₁ => ?_
      obtain ⟨F₁, N₁⟩ := next h₁ hk₁
      obtain ⟨oI₂, hoI⟩ := hSt _ _ _ hst₁
      have N₂ : News g' env.locals h₁ ((I, oI₂) :: Ld c) := fun p hp => by
        rcases List.mem_cons.mp hp with rfl | hp
        · exact ⟨hoI, hLI.symm, gI⟩
        · exact N₁ p hp
      refine hgo I (i + 1) v _ _ _ hst₁ ?_
      have fin : ∀ s₃, OgEndT G env.locals Ld ps (P (i + 1)) I oI₂ { s with heap := h₁, toks := tk₁ } s₃ → ∃ m, m < n + 1 - i ∧ ∃ h' tk m' g' c, ∃ i : Nat, ∃ oI, s₃ = { s with heap := h', toks := tk } ∧ St I i h' ∧ G g' ∧ Fr g' env.locals h' m' ∧ News g' env.locals h' ((I, oI) :: Ld c) ∧ (∀ p ∈ Ld c, p.1 ≠ I) ∧ (∀ p ∈ ps c, m' p.1 = some p.2) ∧ P i c ∧ i ≤ n ∧ m = n + 1 - i := by
        rintro s₃ ⟨g₃, h₃, tk₃, m₃, c₃, rfl, hG₃, F₃, N₃, hn₃, a1, a3⟩
        refine ⟨n + 1 - (i + 1), by lia, h₃, tk₃, m₃, g₃, c₃, i + 1, oI₂, rfl, W.frame _ _ _ hst₁ fun b hb o e => ?_, hG₃, F₃, N₃, hn₃, a1, a3, hlt, rfl⟩
        rcases List.mem_cons.mp hb with rfl | hb
        · rw [hoI] at e
          cases e
          exact (N₃ _ (.head _)).1
        · obtain ⟨q, hq, rfl⟩ := List.mem_map.mp hb
          have e1 := (N₁ q (hl _ _ hP q hq)).1
          rw [e1] at e
          cases e
          exact (N₃ q (.tail _ (hl _ _ a3 q hq))).1
      refine wpAny_mono (turn c i v g' h₁ tk₁ I oI₂ m' hlt hPv hP hnI hG (fr_kst h1 F₁) N₂) (fun _ s₂ x => wpAny_passesOwn hE (wpAny_mono x (fun f s₃ h₃ => ?_) fun _ _ e => e)) hE
      cases f with
      | ret v => exact h₃
      | brk => exact h₃
      | cont => exact fin s₃ h₃
      | next => exact fin s₃ h₃
    · have hin : i = n := by lia
      subst hin
      refine W.done _ _ _ hst fun h₁ tk₁ hk₁ => wpAny_execs_nil ?_
      obtain ⟨F₁, N₁⟩ := next h₁ hk₁
      exact done c g' h₁ tk₁ m' hP hG (fr_kst h1 F₁) N₁
  · refine ⟨_, s.toks, m₀, h₀, c₀, 0, oI0, rfl, hSt0 I _ hpush fun p hp' => Heap.get?_push_of_some _ (N p (hm p hp')).1, hg, F.push _, fun p hp' => ?_, fun p hp' => hfr _ _ (N p hp').1, hk, hp, Nat.zero_le _, rfl⟩
    rcases List.mem_cons.mp hp' with rfl | hp'
    · exact ⟨hpush, hLI.symm, hgI⟩
    · exact ⟨Heap.get?_push_of_some _ (N p hp').1, (N p hp').2⟩
theorem turns_tup {σ : Type} {l : Addr} {vs : List Value} {m₀ : Str → Option Value} (hh : A.handled = none) (G : Heap → Prop) (Ld : σ → Led) (ps : σ → List (Str × Value)) (P : Nat → σ → Prop) (c₀ : σ) (hE : PassesOwn (model prog w) A env E)
    (hl : ∀ i c, P i c → (l, ({ cls := .type "tuple", data := .seq vs.toArray } : Obj)) ∈ Ld c) (hg : G h₀)
    (F : Fr h₀ env.locals s.heap m₀) (N : News h₀ env.locals s.heap (Ld c₀)) (hk : ∀ p ∈ ps c₀, m₀ p.1 = some p.2) (hp : P 0 c₀)
    (turn : ∀ (c : σ) (i : Nat) (v : Value) (g h : Heap) (tk : Nat) (I : Addr) (oI : Obj) (m : Str → Option Value), i < vs.length → vs[i]? = some v → P i c → (∀ p ∈ Ld c, p.1 ≠ I) → G g →
      Fr g env.locals h (kstB m (ps c)) → News g env.locals h ((I, oI) :: Ld c) →
      wpAny (model prog w) A (assign target env v) (fun _ s₃ => wpAny (model prog w) A (execs body env) (OgPostT G env.locals Ld ps (P (i + 1)) I oI { s with heap := h, toks := tk } Q) E s₃) E { s with heap := h, toks := tk })
    (done : ∀ (c : σ) (g h : Heap) (tk : Nat) (m : Str → Option Value), P vs.length c → G g → Fr g env.locals h (kstB m (ps c)) → News g env.locals h (Ld c) → Q .next { s with heap := h, toks := tk }) :
    OgW (wpAny (model prog w) A (pyIter (.ref l)) (fun it s₂ => OgForT prog w A env target body Q E it s₂) E s) := by
  have hol := (N _ (hl 0 c₀ hp)).1
  exact og_turns (n := vs.length) (Pv := fun i v => vs[i]? = some v) (St := fun I i h => h.IsTupleIter I l i ∧ h.IsTuple l vs.toArray) (src := [(l, { cls := .type "tuple", data := .seq vs.toArray })])
    (fun Q' hq => wpAny_pyIter_tuple ⟨_, hol, rfl, _, rfl⟩ hq) rfl (fun I hne => by simpa using Walks.tuple (prog := prog) (w := w) hh I l (hne _ (.head _)) vs.toArray) (fun I i v s Q E st hq => letGo_tupleiter st.1 hq)
    (fun I h e1 e2 => ⟨⟨_, e1, rfl, rfl⟩, ⟨_, e2 _ (.head _), rfl, _, rfl⟩⟩) (fun I i h st => by obtain ⟨⟨o, ho, _⟩, _⟩ := st; exact ⟨o, ho⟩)
    G Ld ps P c₀ hE (fun i c h p hp => by rw [List.mem_singleton.mp hp]; exact hl i c h) hg F N hk hp turn done
theorem turns_list {σ : Type} {l : Addr} {vs : List Value} {nn : Nat} {m₀ : Str → Option Value} (hh : A.handled = none) (G : Heap → Prop) (Ld : σ → Led) (ps : σ → List (Str × Value)) (P : Nat → σ → Prop) (c₀ : σ) (hE : PassesOwn (model prog w) A env E)
    (hl : ∀ i c, P i c → (l, listOf vs.toArray nn) ∈ Ld c) (hg : G h₀)
    (F : Fr h₀ env.locals s.heap m₀) (N : News h₀ env.locals s.heap (Ld c₀)) (hk : ∀ p ∈ ps c₀, m₀ p.1 = some p.2) (hp : P 0 c₀)
    (turn : ∀ (c : σ) (i : Nat) (v : Value) (g h : Heap) (tk : Nat) (I : Addr) (oI : Obj) (m : Str → Option Value), i < vs.length → vs[i]? = some v → P i c → (∀ p ∈ Ld c, p.1 ≠ I) → G g →
      Fr g env.locals h (kstB m (ps c)) → News g env.locals h ((I, oI) :: Ld c) →
      wpAny (model prog w) A (assign target env v) (fun _ s₃ => wpAny (model prog w) A (execs body env) (OgPostT G env.locals Ld ps (P (i + 1)) I oI { s with heap := h, toks := tk } Q) E s₃) E { s with heap := h, toks := tk })
    (done : ∀ (c : σ) (g h : Heap) (tk : Nat) (m : Str → Option Value), P vs.length c → G g → Fr g env.locals h (kstB m (ps c)) → News g env.locals h (Ld c) → Q .next { s with heap := h, toks := tk }) :
    OgW (wpAny (model prog w) A (pyIter (.ref l)) (fun it s₂ => OgForT prog w A env target body Q E it s₂) E s) := by
  have hol := (N _ (hl 0 c₀ hp)).1
  exact og_turns (n := vs.length) (Pv := fun i v => vs[i]? = some v) (St := fun I i h => h.IsListIter I l i ∧ h.IsList l vs.toArray) (src := [(l, listOf vs.toArray nn)])
    (fun Q' hq => wpAny_pyIter_list ⟨_, hol, rfl, _, rfl⟩ hq) rfl (fun I hne => by simpa using Walks.list (prog := prog) (w := w) hh I l (hne _ (.head _)) vs.toArray) (fun I i v s Q E st hq => letGo_listiter st.1 hq)
    (fun I h e1 e2 => ⟨⟨_, e1, rfl, rfl⟩, ⟨_, e2 _ (.head _), rfl, _, rfl⟩⟩) (fun I i h st => by obtain ⟨⟨o, ho, _⟩, _⟩ := st; exact ⟨o, ho⟩)
    G Ld ps P c₀ hE (fun i c h p hp => by rw [List.mem_singleton.mp hp]; exact hl i c h) hg F N hk hp turn done
theorem turns_range {σ : Type} {r : Addr} {a₀ b₀ : Int} {t₀ u₀ v₀ : Tok} {n : Nat} {x : Str} {px : Pos} {m₀ : Str → Option Value} (hh : A.handled = none) (hr : IsRange s.heap r a₀ b₀ 1 t₀ u₀ v₀) (hsmall : Builtin.Range.small a₀ b₀ 1 = true) (hn : Builtin.Range.rangeSize a₀ b₀ 1 = (n : Int))
    (G : Heap → Prop) (Ld : σ → Led) (ps : σ → List (Str × Value)) (P : Nat → σ → Prop) (c₀ : σ) (hE : PassesOwn (model prog w) A env E) (hg : G h₀)
    (F : Fr h₀ env.locals s.heap m₀) (N : News h₀ env.locals s.heap (Ld c₀)) (hk : ∀ p ∈ ps c₀, m₀ p.1 = some p.2) (hp : P 0 c₀)
    (turn : ∀ (c : σ) (i : Nat) (v : Value) (g h : Heap) (tk : Nat) (I : Addr) (oI : Obj) (m : Str → Option Value), i < n → (∃ t, v = .int (a₀ + i * 1) t) → P i c → (∀ p ∈ Ld c, p.1 ≠ I) → G g →
      Fr g env.locals h (kstB m (ps c)) → News g env.locals h ((I, oI) :: Ld c) →
      wpAny (model prog w) A (assign (.Name x px) env v) (fun _ s₃ => wpAny (model prog w) A (execs body env) (OgPostT G env.locals Ld ps (P (i + 1)) I oI { s with heap := h, toks := tk } Q) E s₃) E { s with heap := h, toks := tk })
    (done : ∀ (c : σ) (g h : Heap) (tk : Nat) (m : Str → Option Value), P n c → G g → Fr g env.locals h (kstB m (ps c)) → News g env.locals h (Ld c) → Q .next { s with heap := h, toks := tk }) :
    OgW (wpAny (model prog w) A (pyIter (.ref r)) (fun it s₂ => OgForT prog w A env (.Name x px) body Q E it s₂) E s) :=
  og_turns (n := n) (Pv := fun i v => ∃ t, v = .int (a₀ + i * 1) t) (St := fun I i h => IsRangeIter h I (a₀ + (i : Nat) * 1) ((n : Int) - (i : Nat)) 1) (src := [])
    (fun Q' hq => wpAny_pyIter_range hr hsmall hq) rfl (fun I hne => by simpa using Walks.range (prog := prog) (w := w) hh I a₀ 1 n) (fun I i v s Q E st hq => wpAny_pure hq)
    (fun I h e1 e2 => by rw [hn] at e1; show IsRangeIter _ _ _ _ _; simpa using e1) (fun I i h st => ⟨_, st⟩)
    G Ld ps P c₀ hE (fun i c h p hp => nomatch hp) hg F N hk hp turn done
end
theorem gen_turn {prog : Program} {w : World} {A : Around} {E : Value → Shared → Prop} {s : Shared} {t : Sem Unit} {b : Sem Flow} {P : Flow → Shared → Prop} (h : ∀ P' : Flow → Shared → Prop, (∀ f s', P f s' → P' f s') → wpAny (model prog w) A t (fun _ s₃ => wpAny (model prog w) A b P' E s₃) E s) :
    wpAny (model prog w) A t (fun _ s₃ => wpAny (model prog w) A b P E s₃) E s := h P fun _ _ h => h
end SOgCT
section SOgWD
open PySem PySem.W PyProof.Rows PySem.Calls
set_option maxRecDepth 100000
set_option maxHeartbeats 8000000

theorem rs_OgWD : True := by
  w_top off
  trivial
namespace GSOgWD
theorem secOgWD : True := trivial
end GSOgWD
open GSOgWD
theorem wd36 : True := by
  k_with "call ref" => ((guard_expr secOgWD =ₛ secOgWD); (k_here; (with_reducible show wpAny _ _ (call (Value.ref 229) _) _ _ _); cell_ask (useI, (pwide_spec _ _ _ _ (by first | assumption | omega) (by first | assumption | omega))); intro t9z81 h9z81 tk9z81 F9z81 N9z81; (try k_sweep); (try dsimp only); (try k_fold)))
  k_with "call ref" => ((guard_expr secOgWD =ₛ secOgWD); (k_here; (with_reducible show wpAny _ _ (call (Value.ref 222) _) _ _ _); cell_ask (useI, (swide_spec _ _ _ _ (by first | assumption | omega) (by first | assumption | omega))); intro t9z82 h9z82 tk9z82 F9z82 N9z82; (try k_sweep); (try dsimp only); (try k_fold)))
  k_with "call ref" => ((guard_expr secOgWD =ₛ secOgWD); (k_here; (with_reducible show wpAny _ _ (call (Value.ref 236) _) _ _ _); cell_ask (useSh, (numsh_spec _ _ _ _ _ _ _ _ _ _ _ _)); intro x9z83 dx9z83 k9z83 v9z83 h9z83 tk9z83 F9z83 N9z83 l9z83 l8z83; (try k_lt l9z83); (try k_lt2 l8z83); (try k_sweep); (try dsimp only); (try k_fold)))
  k_with "subscriptTail" => ((guard_expr secOgWD =ₛ secOgWD); (k_here; (with_reducible show wpAny _ _ (subscriptTail _ _ (Value.ref _) (Value.str _ _)) _ _ _); k_dflt (refine' kda_item (knd := PySem.strKind _ _) ?ogd1z99 ?ogd2z99 ?ogd3z99 (strKind_is _ _ _ _) ?ogd4z99 ?_; (case ogd1z99 => k_asm); (case ogd2z99 => k_mem); (case ogd3z99 => first | assumption | exact (by assumption : ∀ _, _) _); (case ogd4z99 => first | assumption | rfl); k_whole)))
  k_with "call ref" => ((guard_expr secOgWD =ₛ secOgWD); (k_here; (with_reducible show wpAny _ _ (call (Value.ref 274) _) _ _ _); cell_ask (useY, (octo_spec _ _ _ _ _ _ _ _ _ _ _ _ _ (by k_mem) (by k_mem) (by omega) (by omega) (by omega) (by omega) _ _)); intro t9z90 h9z90 tk9z90 F9z90 N9z90; (try k_sweep); (try dsimp only); (try k_fold)))
  k_with "call ref" => ((guard_expr secOgWD =ₛ secOgWD); (k_here; (with_reducible show wpAny _ _ (call (Value.ref 321) _) _ _ _); cell_ask (useT, (numin_spec _ _ _ _ _ _ _ _ _ _ _ _ _ (by k_mem) (by k_mem) (by assumption) _ (by assumption) _)); intro q9z92 t9z92 u9z92 h9z92 tk9z92 F9z92 N9z92 l9z92; (try k_lt l9z92); (try k_sweep); (try dsimp only); (try k_fold)))
  k_with "call ref" => ((guard_expr secOgWD =ₛ secOgWD); (k_here; (with_reducible show wpAny _ _ (call (Value.ref 356) _) _ _ _); refine og_wrap ?_))
  k_with "exec For Tuple Tuple cons nil" => ((guard_expr secOgWD =ₛ secOgWD); (k_here; (with_unfolding_all refine For_T ?_ (by intro _; with_unfolding_all rfl))))
  trivial
theorem lt_last4 {a b c d q : Addr} {news : Led} (h : @LT.lt Nat _ a q ∧ @LT.lt Nat _ b q ∧ @LT.lt Nat _ c q ∧ @LT.lt Nat _ d q ∧ AllLt q news) : ∀ p ∈ news, p.1 < q := ktn_ltOf h.2.2.2.2
noncomputable abbrev tupSI (a : Str) (b : Int) (t u : Tok) : Obj := { cls := .type "tuple", data := .seq #[.str a t, .int b u] }
theorem tab_base {g h : Heap} {L T c b a : Addr} {t1 t2 t3 t4 t5 t6 : Tok} {rest : Led}
    (N : News g L h ((T, ({ cls := .type "tuple", data := .seq #[.ref a, .ref b, .ref c] } : Obj)) :: (c, tupSI (Str.ofString "binary") 2 t5 t6) :: (b, tupSI (Str.ofString "packed") 3 t3 t4) :: (a, tupSI (Str.ofString "display") 4 t1 t2) :: rest)) :
    ∃ base vs, News g L h base ∧ (T, ({ cls := .type "tuple", data := .seq (List.toArray vs) } : Obj)) ∈ base ∧ (∀ p ∈ rest, p ∈ base) ∧ ∀ v ∈ vs, ∃ q usg sz tu ts, v = .ref q ∧ (q, tupSI usg sz tu ts) ∈ base ∧ WfS 4 2 sz usg false true := by
  refine ⟨_, [.ref a, .ref b, .ref c], N, .head _, fun p hp => .tail _ (.tail _ (.tail _ (.tail _ hp))), fun v hv => ?_⟩
  simp only [List.mem_cons, List.not_mem_nil, or_false] at hv
  rcases hv with rfl | rfl | rfl
  · exact ⟨a, _, _, _, _, rfl, .tail _ (.tail _ (.tail _ (.head _))), by decide, by decide, by decide, by decide, .inl ⟨rfl, rfl⟩⟩
  · exact ⟨b, _, _, _, _, rfl, .tail _ (.tail _ (.head _)), by decide, by decide, by decide, by decide, .inr (.inl ⟨rfl, rfl⟩)⟩
  · exact ⟨c, _, _, _, _, rfl, .tail _ (.head _), by decide, by decide, by decide, by decide, .inr (.inr ⟨rfl, rfl⟩)⟩
noncomputable abbrev recA (x dx : Addr) (k v : Nat → Tok) (sz : Int) (usg : Str) : Rec := ⟨Str.ofString "A", x, dx, k, v, 4, 2, sz, usg, Str.ofString "trailing", false, true⟩
theorem lone_spec (w : World) (rest : Led) (md sd qw rl rq rf x dx : Addr) (mo so : Obj) (k v : Nat → Tok) (sz : Int) (usg : Str) (u wu ws : Int) (tk0 ta tb tw t1 t2 : Tok) (rd : Bool) (way : Nat) (prog0 prog1 : Program)
    (hway : way < 5) (hrl : (rl, ({ cls := .type "tuple", data := .seq #[.ref rq] } : Obj)) ∈ rest) (hrq : (rq, tupR rf rd (wayS way) tw) ∈ rest) (hrf : (rf, tupS (Str.ofString "ref") (Str.ofString "A") ta tb) ∈ rest) (h12 : (qw, tup2 wu ws t1 t2) ∈ rest) (hsd0 : (sd, so) ∈ rest)
    (hx : (x, instObj 204 dx) ∈ rest) (hdx : (dx, shD w k v 4 2 sz usg (Str.ofString "trailing") false true) ∈ rest) (hmd : mo.IsDictOf (PySem.strKind prog0 w) [(Str.ofString "A", .bytes (byteArr (octS 4 sz usg (Str.ofString "trailing") false true u)) tk0)])
    (hsd : so.IsDictOf (PySem.strKind prog1 w) [(Str.ofString "A", .ref x)]) (hne : ∀ p ∈ rest, p.1 ≠ md) (hT : TabIn rest) (wf : WfS 4 2 sz usg false true) (hu : Fit 4 true u) (hb0 : 0 ≤ ws) (hb1 : ws ≤ 10) (hb2 : bits wu ≤ 64)
    (o : Option Int) (ho : rowOf (topOf way u wu 2 ws.toNat) (botOf way wu 2 ws.toNat) 2 4 true rd = o) :
    CtS w 356 13 160 ((md, mo) :: rest) [.ref md, .ref sd, .ref rl, .ref qw]
      (fun r n => r = .bool o.isNone ∧ ∃ mo' tk, n = (md, mo') :: rest ∧ ∀ prog, mo'.IsDictOf (PySem.strKind prog w) [(Str.ofString "A", .bytes (byteArr (octS 4 sz usg (Str.ofString "trailing") false true (o.getD u))) tk)]) := by
  have hr : runR wu ws [⟨rq, rf, recA x dx k v sz usg, rd, way, ta, tb, tw⟩] (fun _ => u) = (match o with | none => (fun _ => u, true) | some v => (setAt (fun _ => u) (Str.ofString "A") v, false)) := by
    show stepR wu ws (fun _ => u, false) _ = _
    have : rowRes (recA x dx k v sz usg) wu ws rd way u = o := ho
    unfold stepR
    (try dsimp only)
    rw [this]
    cases o <;> rfl
  refine CtS.mono (lreck2_spec w rest md sd qw rl mo so _ [recA x dx k v sz usg] [⟨rq, rf, recA x dx k v sz usg, rd, way, ta, tb, tw⟩] t1 t2 wu ws (fun _ => u) (fun _ => tk0) (by simp) (by simp) ?_ ?_ (.inr rfl) hrl h12 hsd0 (fun prog => isDict_prog hmd) (fun prog => isDict_prog hsd) hne ?_ hb0 hb1 hb2 hT) fun r n h => ?_
  · intro r hr
    rw [List.mem_singleton.mp hr]
    exact ⟨wf, hx, hdx⟩
  · intro row hrow
    rw [List.mem_singleton.mp hrow]
    exact ⟨List.mem_singleton.mpr rfl, hway, hrq, hrf⟩
  · intro r hr
    rw [List.mem_singleton.mp hr]
    exact hu
  · obtain ⟨e1, mo', tk, e2, e3⟩ := h
    rw [hr] at e1 e3
    cases o with
    | none => exact ⟨e1, mo', _, e2, e3⟩
    | some v =>
      refine ⟨e1, mo', tk (Str.ofString "A"), e2, fun prog => ?_⟩
      have := e3 prog
      unfold mpsOf at this
      simp only [List.map_cons, List.map_nil, setAt_eq] at this
      exact this
theorem tab_call {w : World} {prog : Program} {p : Program} {loose : List Str} {mean : ExcName → Option Value} {mg mb : Str → Option Value}
    {dp un : Nat} {gd : Option (List Code)} {cn : Str} {cs : Scope} {a : Addr} {ccd : Value} {cl : List (Str × Addr)} {outer : List Env} {A₀ : Around} {base h₀ : Heap} {L : Addr} {m : Str → Option Value} {s : Shared} {Q E : Value → Shared → Prop}
    {led : Led} {md sd qw rl rq rf x dx : Addr} {mo so : Obj} {k v : Nat → Tok} {sz : Int} {usg : Str} {u wu ws : Int} {tk0 ta tb tw t1 t2 : Tok} {rd : Bool} (way : Nat) {prog0 prog1 : Program} (o : Option Int) (nd : Nat)
    (B : Below A₀ base outer h₀) (F : Fr h₀ L s.heap m) (X : (hd.heap_1 w.params).In h₀) (N : News h₀ L s.heap led) (T : Top p loose mean mg mb h₀) (hk : cs.kind = .function) (hdd : dp + 13 < recursionLimit) (hu' : un + 160 < cLine)
    (XB : (hd.heap_1 w.params).In base) (TB : Top p loose mean mg mb base) (D : KtsDicts (frs outer) h₀) (hway : way < 5)
    (hrl : (rl, ({ cls := .type "tuple", data := .seq #[.ref rq] } : Obj)) ∈ led) (hrq : (rq, tupR rf rd (wayS way) tw) ∈ led) (hrf : (rf, tupS (Str.ofString "ref") (Str.ofString "A") ta tb) ∈ led) (h12 : (qw, tup2 wu ws t1 t2) ∈ led) (hsd0 : (sd, so) ∈ led) (hmd0 : (md, mo) ∈ led)
    (hx : (x, instObj 204 dx) ∈ led.drop nd) (hdx : (dx, shD w k v 4 2 sz usg (Str.ofString "trailing") false true) ∈ led.drop nd) (hmd : mo.IsDictOf (PySem.strKind prog0 w) [(Str.ofString "A", .bytes (byteArr (octS 4 sz usg (Str.ofString "trailing") false true u)) tk0)])
    (hsd : so.IsDictOf (PySem.strKind prog1 w) [(Str.ofString "A", .ref x)]) (hne : ∀ p ∈ led.drop nd, p.1 ≠ md) (n1 : md ≠ qw) (n2 : md ≠ rl) (n3 : md ≠ rq) (n4 : md ≠ rf) (n5 : md ≠ sd) (hT : TabIn (led.drop nd)) (wf : WfS 4 2 sz usg false true) (hu : Fit 4 true u) (hb0 : 0 ≤ ws) (hb1 : ws ≤ 10) (hb2 : bits wu ≤ 64)
    (ho : rowOf (topOf way u wu 2 ws.toNat) (botOf way wu 2 ws.toNat) 2 4 true rd = o)
    (h : ∀ (mo' : Obj) (tk : Tok) (g' h' : Heap) (tk' : Nat), (∀ prog, mo'.IsDictOf (PySem.strKind prog w) [(Str.ofString "A", .bytes (byteArr (octS 4 sz usg (Str.ofString "trailing") false true (o.getD u))) tk)]) → KtsTurn (frs outer) h₀ g' → Fr g' L h' m → News g' L h' ((md, mo') :: led.drop nd) → Below A₀ base outer g' → (hd.heap_1 w.params).In g' → Top p loose mean mg mb g' → KtsDicts (frs outer) g' → Q (.bool o.isNone) { s with heap := h', toks := tk' }) :
    wpAny (model prog w) (ktrTop dp un gd cn cs L a ccd cl outer) (call (.ref 356) [.ref md, .ref sd, .ref rl, .ref qw]) Q E s := by
  have C := lone_spec w ((qw, tup2 wu ws t1 t2) :: (rl, { cls := .type "tuple", data := .seq #[.ref rq] }) :: (rq, tupR rf rd (wayS way) tw) :: (rf, tupS (Str.ofString "ref") (Str.ofString "A") ta tb) :: (sd, so) :: led.drop nd) md sd qw rl rq rf x dx mo so k v sz usg u wu ws tk0 ta tb tw t1 t2 rd way prog0 prog1 hway
    (by simp) (by simp) (by simp) (by simp) (by simp) (by simp only [List.mem_cons, hx, or_true]) (by simp only [List.mem_cons, hdx, or_true]) hmd hsd
    (fa (Ne.symm n1) (fa (Ne.symm n2) (fa (Ne.symm n3) (fa (Ne.symm n4) (fa (Ne.symm n5) hne))))) (hT.mono fun p hp => by simp only [List.mem_cons, hp, or_true]) wf hu hb0 hb1 hb2 o ho
  refine useS C B F X (og_sub N (fa hmd0 (fa h12 (fa hrl (fa hrq (fa hrf (fa hsd0 fun p hp => List.mem_of_mem_drop hp))))))) T hk hdd hu' XB TB D ?_
  · rintro r n g' h' tk' ⟨rfl, mo', tk, rfl, hd'⟩ T' F' N' B' X' P' D'
    exact h mo' tk g' h' tk' hd' T' F' (og_sub N' fun p hp => by
      rcases List.mem_cons.mp hp with rfl | hp
      · exact .head _
      · simp only [List.mem_cons, hp, or_true]) B' X' P' D'
theorem table_spec (w : World) (rest : Led) (hT : TabIn rest) : CtS w 363 16 200 rest [] (RB rest true) := by
  unfold CtS
  intro prog p loose mean mg mb dp un gd cn cs aa ccd cl outer A₀ base h₀ L m s Q E B F X N T hk hdp hun XB TB DB hret
  refine wpAny_call ?_
  refine' enterS (f := 363) (binds := []) B F X N T XB TB DB rfl rfl hk ?k6 ?k7 ?k8 ?k9 ?kB ?_ ?c2 ?c3 ?c4 ?c5
  case k6 => k_is
  case k7 => k_is
  case k8 => ktr_room
  case k9 => exact BindsTo.of_eq rfl
  case c5 => decide
  case kB => exact locs rfl
  case c2 => exact rfl
  case c3 => exact rfl
  case c4 => exact rfl
  k_whole
  intro g' L' h' FG' F' N' B' X' T' D'
  (try dsimp only)
  (try k_lift B')
  (try k_fold)
  k_steps
  rename News g' L' _ _ => NN
  rename Fr g' L' _ _ => FF
  obtain ⟨bs, vs, NB, hTb, hrb, hvs⟩ := tab_base NN
  clear NN
  refine' turns_tup (σ := Unit) (vs := vs) ?hh (fun g => KtsTurn (frs (envX cn cs L aa ccd cl :: outer)) g' g ∧ Below (ktrTop dp un gd cn cs L aa ccd cl outer) base (envX cn cs L aa ccd cl :: outer) g ∧ (hd.heap_1 w.params).In g ∧ Top p loose mean mg mb g ∧ KtsDicts (frs (envX cn cs L aa ccd cl :: outer)) g)
    (fun _ => bs) (fun _ => []) (fun _ _ => True) () ?hE (fun _ _ _ => hTb) ?hg ?hF ?hN (fun _ hp => nomatch hp) trivial ?turn ?done
  case hh => rfl
  case hg => exact ⟨KtsTurn.refl, B', X', T', D'⟩
  case hF => exact FF
  case hN => exact NB
  case hE => passes_own
  case turn =>
    rintro c i v g h5 tk5 I oI m5 hi hv - hnI ⟨T6, B6, X6, P6, D6⟩ F6 N6
    refine gen_turn fun Q9 hQ9 => ?_
    try dsimp only at F6 N6
    obtain ⟨q, usg, sz, tu, ts, rfl, hq, wf⟩ := hvs v (List.mem_of_getElem? hv)
    have hTI := hT.mono hrb
    clear hvs hv hTb hrb FF NB
    have wf' := wf
    obtain ⟨hz0, hz1⟩ := wf_size wf
    k_steps
    unfold OgW
    rename News g _ _ _ => N1
    refine' tab_call 2 (some (-960)) 6 B6 ?kF X6 N1 P6 rfl ?kd ?ku XB TB D6 (by decide) ?m2 ?m3 ?m4 ?m1 ?m5 ?m6 ?m7 ?m8 ?d1 ?d2 ?nh ?n1 ?n2 ?n3 ?n4 ?n5 ?tt wf ?ff ?b0 ?b1 ?b2 ?ho ?_
    case kF => k_asm
    case kd => ktr_room
    case ku => ktr_units
    case m1 => k_mem
    case m2 => k_mem
    case m3 => k_mem
    case m4 => k_mem
    case m5 => k_mem
    case m6 => k_mem
    case m7 => (simp only [List.drop_succ_cons, List.drop_zero]; k_mem)
    case m8 => (simp only [List.drop_succ_cons, List.drop_zero]; k_mem)
    case d1 => first | assumption | exact (by assumption : ∀ _, _) prog
    case d2 => assumption
    case nh =>
      refine fa ?_ (fa ?_ (fa ?_ (fun p hp => ?_)))
      · (first | k_ne | (refine neN ?_; (try dsimp only); lia))
      · (first | k_ne | (refine neN ?_; (try dsimp only); lia))
      · (first | k_ne | (refine neN ?_; (try dsimp only); lia))
      · exact Nat.ne_of_lt ((by first | exact lt_last3 (by assumption) | exact lt_last4 (by assumption) : ∀ p ∈ bs, p.1 < _) p hp)
    case n1 => (first | k_ne | (refine neN ?_; lia))
    case n2 => (first | k_ne | (refine neN ?_; lia))
    case n3 => (first | k_ne | (refine neN ?_; lia))
    case n4 => (first | k_ne | (refine neN ?_; lia))
    case n5 => (first | k_ne | (refine neN ?_; lia))
    case tt => exact hTI.mono fun p hp => by simp only [List.drop_succ_cons, List.drop_zero, List.mem_cons, hp, or_true]
    case ff => exact ⟨by decide, by decide⟩
    case b0 => decide
    case b1 => decide
    case b2 => decide
    case ho => decide
    intro mo7 tk7 g7 h7 tt7 hd7 T7 F7 N7 B7 X7 P7 D7
    simp only [List.drop_succ_cons, List.drop_zero] at N7
    try simp only [Option.isNone_none, Option.isNone_some]
    clear N1
    simp only [Option.getD_some] at hd7
    have hdp7 := hd7 prog
    have ff7 : Fit 4 true (-960) := ⟨by decide, by decide⟩
    k_steps
    unfold OgW
    rename News g7 _ _ _ => N1
    refine' tab_call 3 (none) 8 B7 ?kF X7 N1 P7 rfl ?kd ?ku XB TB D7 (by decide) ?m2 ?m3 ?m4 ?m1 ?m5 ?m6 ?m7 ?m8 ?d1 ?d2 ?nh ?n1 ?n2 ?n3 ?n4 ?n5 ?tt wf ?ff ?b0 ?b1 ?b2 ?ho ?_
    case kF => k_asm
    case kd => ktr_room
    case ku => ktr_units
    case m1 => k_mem
    case m2 => k_mem
    case m3 => k_mem
    case m4 => k_mem
    case m5 => k_mem
    case m6 => k_mem
    case m7 => (simp only [List.drop_succ_cons, List.drop_zero]; k_mem)
    case m8 => (simp only [List.drop_succ_cons, List.drop_zero]; k_mem)
    case d1 => first | assumption | exact (by assumption : ∀ _, _) prog
    case d2 => assumption
    case nh =>
      refine fa ?_ (fa ?_ (fa ?_ (fun p hp => ?_)))
      · (first | k_ne | (refine neN ?_; (try dsimp only); lia))
      · (first | k_ne | (refine neN ?_; (try dsimp only); lia))
      · (first | k_ne | (refine neN ?_; (try dsimp only); lia))
      · exact Nat.ne_of_lt ((by first | exact lt_last3 (by assumption) | exact lt_last4 (by assumption) : ∀ p ∈ bs, p.1 < _) p hp)
    case n1 => (first | k_ne | (refine neN ?_; lia))
    case n2 => (first | k_ne | (refine neN ?_; lia))
    case n3 => (first | k_ne | (refine neN ?_; lia))
    case n4 => (first | k_ne | (refine neN ?_; lia))
    case n5 => (first | k_ne | (refine neN ?_; lia))
    case tt => exact hTI.mono fun p hp => by simp only [List.drop_succ_cons, List.drop_zero, List.mem_cons, hp, or_true]
    case ff => exact ⟨by decide, by decide⟩
    case b0 => decide
    case b1 => decide
    case b2 => decide
    case ho => decide
    intro mo8 tk8 g8 h8 tt8 hd8 T8 F8 N8 B8 X8 P8 D8
    simp only [List.drop_succ_cons, List.drop_zero] at N8
    try simp only [Option.isNone_none, Option.isNone_some]
    clear N1
    simp only [Option.getD_none] at hd8
    have hdp8 := hd8 prog
    k_steps
    · rename_i hbad; exact absurd hbad (by unfold octS; simp)
    unfold OgW
    rename News g8 _ _ _ => N1
    refine' tab_call 4 (some (-176)) 7 B8 ?kF X8 N1 P8 rfl ?kd ?ku XB TB D8 (by decide) ?m2 ?m3 ?m4 ?m1 ?m5 ?m6 ?m7 ?m8 ?d1 ?d2 ?nh ?n1 ?n2 ?n3 ?n4 ?n5 ?tt wf ?ff ?b0 ?b1 ?b2 ?ho ?_
    case kF => k_asm
    case kd => ktr_room
    case ku => ktr_units
    case m1 => k_mem
    case m2 => k_mem
    case m3 => k_mem
    case m4 => k_mem
    case m5 => k_mem
    case m6 => k_mem
    case m7 => (simp only [List.drop_succ_cons, List.drop_zero]; k_mem)
    case m8 => (simp only [List.drop_succ_cons, List.drop_zero]; k_mem)
    case d1 => first | assumption | exact (by assumption : ∀ _, _) prog
    case d2 => assumption
    case nh =>
      refine fa ?_ (fa ?_ (fa ?_ (fun p hp => ?_)))
      · (first | k_ne | (refine neN ?_; (try dsimp only); lia))
      · (first | k_ne | (refine neN ?_; (try dsimp only); lia))
      · (first | k_ne | (refine neN ?_; (try dsimp only); lia))
      · exact Nat.ne_of_lt ((by first | exact lt_last3 (by assumption) | exact lt_last4 (by assumption) : ∀ p ∈ bs, p.1 < _) p hp)
    case n1 => (first | k_ne | (refine neN ?_; lia))
    case n2 => (first | k_ne | (refine neN ?_; lia))
    case n3 => (first | k_ne | (refine neN ?_; lia))
    case n4 => (first | k_ne | (refine neN ?_; lia))
    case n5 => (first | k_ne | (refine neN ?_; lia))
    case tt => exact hTI.mono fun p hp => by simp only [List.drop_succ_cons, List.drop_zero, List.mem_cons, hp, or_true]
    case ff => exact ⟨by decide, by decide⟩
    case b0 => decide
    case b1 => decide
    case b2 => decide
    case ho => decide
    intro mo2 tk2 g2 h2 tt2 hd2 T2 F2 N2 B2 X2 P2 D2
    simp only [List.drop_succ_cons, List.drop_zero] at N2
    try simp only [Option.isNone_none, Option.isNone_some]
    clear N1
    simp only [Option.getD_some] at hd2
    have hdp2 := hd2 prog
    have ff2 : Fit 4 true (-176) := ⟨by decide, by decide⟩
    k_steps
    refine hQ9 _ _ ?_
    unfold OgPostT
    rename News g2 _ _ _ => N9
    refine og_endT () ⟨T6.trans (T7.trans (T8.trans T2)), B2, X2, P2, D2⟩ (by k_asm) N9 (by k_mem) (fun p hp => by simp only [List.mem_cons, hp, or_true]) hnI (fun _ hp => nomatch hp) trivial
  case done =>
    rintro c g h5 tk5 m5 - ⟨T6, B6, X6, P6, D6⟩ F6 N6
    try dsimp only at F6 N6
    k_steps
    (try dsimp only)
    k_steps
    unfold OgW LeaveG
    rename News g _ _ _ => N8
    rename Fr g _ _ _ => F8
    refine ⟨g, _, _, _, T6, F8, N8, ?_⟩
    intro g₂ T₂ F₂ N₂ B₂ X₂ P₂ D₂
    exact hret _ _ g₂ _ _ ⟨rfl, rfl⟩ T₂ F₂ (og_sub N₂ hrb) B₂ X₂ P₂ D₂
end SOgWD
section SOgLP
open PySem PySem.W PyProof.Rows PySem.Calls PySem.Spec
set_option maxRecDepth 100000
set_option maxHeartbeats 4000000
set_option linter.unusedVariables false
/-- values that are the texts nms -/
noncomputable def NmsAre : List Value → List Str → Prop
  | [], [] => True
  | v :: vs, n :: ns => (∃ t, v = .str n t) ∧ NmsAre vs ns
  | _, _ => False
theorem NmsAre.length : ∀ {vs : List Value} {nms : List Str}, NmsAre vs nms → vs.length = nms.length
  | [], [], _ => rfl
  | _ :: _, _ :: _, h => by rw [List.length_cons, List.length_cons, h.2.length]
  | [], _ :: _, h => h.elim
  | _ :: _, [], h => h.elim
theorem NmsAre.get : ∀ {vs : List Value} {nms : List Str} (i : Nat) {v : Value}, NmsAre vs nms → vs[i]? = some v → ∃ nm t, nms[i]? = some nm ∧ v = .str nm t
  | v :: _, n :: _, 0, _, h, e => by
    obtain ⟨⟨t, rfl⟩, _⟩ := h
    exact ⟨n, t, rfl, (Option.some.inj e).symm⟩
  | _ :: _, _ :: _, i + 1, _, h, e => NmsAre.get i h.2 e
  | [], [], i, _, _, e => by cases e
  | [], _ :: _, _, _, h, _ => h.elim
  | _ :: _, [], _, _, h, _ => h.elim
section
variable {prog : Program} {w : World} {A : Around} {E : Value → Shared → Prop} {s : Shared} {h₀ : Heap} {L : Addr} {m : Str → Option Value} {news : Led} {value slice : PySem.Expr} {l D : Addr}
theorem og_names {n0 : Nat} {y : Int} {ty t1 t2 t3 : Tok} {Q : Value → Shared → Prop} (F : Fr h₀ L s.heap m) (N : News h₀ L s.heap news) (hl : (l, listOf (List.toArray [.str (Str.ofString "A") t1, .str (Str.ofString "B") t2, .str (Str.ofString "C") t3]) n0) ∈ news) (h0 : 1 ≤ y) (h1 : y ≤ 3)
    (h : ∀ D vs nms h', NmsAre vs nms → nms.Nodup → 1 ≤ nms.length → nms.length ≤ 3 → Fr h₀ L h' m → News h₀ L h' ((D, listOf (List.toArray vs) 0) :: news) → (∀ p ∈ news, p.1 < D) → Q (.ref D) { s with heap := h' })
    (hs : subscripted slice false (.ref l) (.ref s.heap.objs.size) = operate [.ref s.heap.objs.size, .ref l] (getItem (.ref l) (.ref s.heap.objs.size))) (ht : ∀ r, letTemporaryGo value (.ref l) r = pure ()) :
    wpAny (model prog w) A (subscriptTail value slice (.ref l) (.ref s.heap.objs.size)) Q E { s with heap := s.heap.push { cls := .type "slice", data := .fields #[.none, .int y ty, .none] } } := by
  have hy : y = 1 ∨ y = 2 ∨ y = 3 := by lia
  refine kmk_slice F N (News.isList N hl) .none (.int _ _) (fun D h' F' N' l1 => ?_) hs ht (by rw [sizeLine_eq]; exact Nat.le_of_ble_eq_true rfl)
  rcases hy with rfl | rfl | rfl
  · exact h D [.str (Str.ofString "A") t1] [Str.ofString "A"] h' ⟨⟨_, rfl⟩, trivial⟩ (by decide) (by decide) (by decide) F' N' l1
  · exact h D [.str (Str.ofString "A") t1, .str (Str.ofString "B") t2] [Str.ofString "A", Str.ofString "B"] h' ⟨⟨_, rfl⟩, ⟨_, rfl⟩, trivial⟩ (by decide) (by decide) (by decide) F' N' l1
  · exact h D [.str (Str.ofString "A") t1, .str (Str.ofString "B") t2, .str (Str.ofString "C") t3] [Str.ofString "A", Str.ofString "B", Str.ofString "C"] h' ⟨⟨_, rfl⟩, ⟨_, rfl⟩, ⟨_, rfl⟩, trivial⟩ (by decide) (by decide) (by decide) F' N' l1
/-- an item of the names -/
theorem og_nameAt {vs : List Value} {nms : List Str} {c : Nat} {k : Int} {u : Tok} {Q : Value → Shared → Prop} (N : News h₀ L s.heap news) (hm : (l, listOf vs.toArray c) ∈ news) (hI : NmsAre vs nms) (h0 : 0 ≤ k) (h1 : k < nms.length) (h2 : nms.length ≤ 3)
    (h : ∀ nm t, nms[k.toNat]? = some nm → Q (.str nm t) s)
    (hs : subscripted slice false (.ref l) (.int k u) = operate [.ref l, .int k u] (getItem (.ref l) (.int k u)) := by with_unfolding_all rfl) :
    wpAny (model prog w) A (subscriptTail value slice (.ref l) (.int k u)) Q E s := by
  have hlen := hI.length
  obtain ⟨v, hv⟩ : ∃ v, vs[k.toNat]? = some v := ⟨_, List.getElem?_eq_getElem (show k.toNat < vs.length by lia)⟩
  obtain ⟨nm, t, hn, rfl⟩ := hI.get _ hv
  have hL : s.heap.IsList l vs.toArray := News.isList N hm
  exact tail_any hL.typeIs slot_list_getitem.lookup (wpAny_getItem_list hL h0 (by lia) (by simpa using hv) (h nm t hn)) hs
theorem item5 {a b c d e : Tok} {t : Addr} {k : Int} {u : Tok} {Q : Value → Shared → Prop} (ht : IsTup s.heap t [.str (Str.ofString "=") a, .str (Str.ofString "+") b, .str (Str.ofString "-") c, .str (Str.ofString "*") d, .str (Str.ofString "/") e].toArray) (h0 : 0 ≤ k) (h1 : k < 5) (h : ∀ t, Q (.str (wayS k.toNat) t) s)
    (hs : subscripted slice false (.ref t) (.int k u) = operate [.ref t, .int k u] (getItem (.ref t) (.int k u)) := by with_unfolding_all rfl) : wpAny (model prog w) A (subscriptTail value slice (.ref t) (.int k u)) Q E s := by
  have hk : k = 0 ∨ k = 1 ∨ k = 2 ∨ k = 3 ∨ k = 4 := by lia
  rcases hk with rfl | rfl | rfl | rfl | rfl
  · exact item_tupleT ht (by decide) (by decide) rfl rfl (h _) hs
  · exact item_tupleT ht (by decide) (by decide) rfl rfl (h _) hs
  · exact item_tupleT ht (by decide) (by decide) rfl rfl (h _) hs
  · exact item_tupleT ht (by decide) (by decide) rfl rfl (h _) hs
  · exact item_tupleT ht (by decide) (by decide) rfl rfl (h _) hs
end
theorem value_stored {kvs : List (Str × Value)} {k : Str} {v : Value} : valueAt (stored kvs k v) k = some v := by
  unfold stored valueAt
  split
  · next h =>
    obtain ⟨p, hp, e⟩ := List.any_eq_true.mp h
    induction kvs with
    | nil => cases hp
    | cons q r ih =>
      rw [List.map_cons, List.find?_cons]
      by_cases hq : q.1 = k
      · simp [hq]
      · rw [if_neg hq, decide_eq_false hq]
        have hp' : p ∈ r := by
          rcases List.mem_cons.mp hp with rfl | hp
          · exact absurd (of_decide_eq_true e) hq
          · exact hp
        exact ih (List.any_eq_true.mpr ⟨p, hp', e⟩) hp'
  · next h =>
    have hn : (kvs.find? fun kv => kv.1 = k) = none := List.find?_eq_none.mpr fun p hp e => h (List.any_eq_true.mpr ⟨p, hp, e⟩)
    rw [List.find?_append, hn]
    simp
end SOgLP
section SOgX
open PySem PySem.W PyProof.Rows PySem.Calls
set_option maxRecDepth 100000
set_option maxHeartbeats 1000000

theorem rs_OgX : True := by
  w_top off
  trivial
namespace GSOgX
theorem secOgX : True := trivial
end GSOgX
open GSOgX
theorem wd37 : True := by
  k_with "mul_fits" => ((guard_expr secOgX =ₛ secOgX); exact PySem.IntMulOk.of_le (by with_reducible assumption) (by with_reducible assumption) (by decide))
  k_with "call ref" => ((guard_expr secOgX =ₛ secOgX); (k_here; (with_reducible show wpAny _ _ (call (Value.ref 335) _) _ _ _); cell_ask (useI, (lcut_spec _ _ _ _ _ _ _ (by assumption) (by with_reducible assumption) (by with_reducible assumption))); intro t9z103 h9z103 tk9z103 F9z103 N9z103; (try k_sweep); (try dsimp only); (try k_fold)))
  trivial
noncomputable def RowMark : Prop := True
theorem wd38 : True := by
  k_with "exec If" => ((guard_expr secOgX =ₛ secOgX); (k_here; (fail_if_success (rename RowMark => zzmz104)); (with_reducible show wpAny _ _ (exec (Stmt.If (PySem.Expr.Compare (PySem.Expr.Name _ _) _ _ _) _ _ _) _) _ _ _); refine og_wrap ?_))
  k_with "execs cons If" => ((guard_expr secOgX =ₛ secOgX); (k_here; (fail_if_success (rename RowMark => zzmz105)); (with_reducible show wpAny _ _ (execs (Stmt.If (PySem.Expr.Compare (PySem.Expr.Name _ _) _ _ _) _ _ _ :: _) _) _ _ _); refine wpAny_execs_cons ?_))
  trivial
noncomputable def RowMid (g : Heap) (L : Addr) (base : Led) (ps : List (Str × Value)) (top bot : Int) (s : Shared) (f : Flow) (s' : Shared) : Prop :=
  f = .next ∧ ∃ h' tk m' qo t u, s' = { s with heap := h', toks := tk } ∧ News g L h' ((qo, tup2 top bot t u) :: base) ∧ Fr g L h' m' ∧ (∀ p ∈ ps, m' p.1 = some p.2) ∧ m' (Str.ofString "other") = some (.ref qo)
theorem sub_consX {α : Type} {a : α} {l l' : List α} (h : a ∈ l') (h2 : ∀ p ∈ l, p ∈ l') : ∀ p ∈ a :: l, p ∈ l' := fun p hp => by
  rcases List.mem_cons.mp hp with rfl | hp
  · exact h
  · exact h2 p hp
theorem row_mid {prog : Program} {w : World} {A : Around} {t : Sem Flow} {Q : Flow → Shared → Prop} {E : Value → Shared → Prop} {s : Shared} {g h : Heap} {L : Addr} {m : Str → Option Value} (F : Fr g L h m) (base : Led) (ps : List (Str × Value)) (top bot : Int)
    (h1 : wpAny (model prog w) A t (fun f s' => OgW (RowMid g L base ps top bot s f s')) E s)
    (h2 : ∀ (h' : Heap) (tk : Nat) (m' : Str → Option Value) (qo : Addr) (t u : Tok), News g L h' ((qo, tup2 top bot t u) :: base) → Fr g L h' (kstB m' ((Str.ofString "other", .ref qo) :: ps)) → Q .next { s with heap := h', toks := tk }) : wpAny (model prog w) A t Q E s :=
  wpAny_mono h1 (fun f s' ⟨e, h', tk, m', qo, t, u, e2, N, F, hp, ho⟩ => by
    subst e; subst e2
    refine h2 h' tk m' qo t u N (fr_kst (fun p hp' => ?_) F)
    rcases List.mem_cons.mp hp' with rfl | hp'
    · exact ho
    · exact hp p hp') fun _ _ e => e
theorem bits_top {held wu scale ws : Int} {way : Nat} (pA : bits ((10 : Int) ^ scale.toNat) ≤ 801) (pB : bits ((10 : Int) ^ ws.toNat) ≤ 801) (hbh : bits held ≤ 64) (hbw : bits wu ≤ 64) : bits (topOf way held wu scale.toNat ws.toNat) ≤ 2001 := by
  have p1 : bits (held * 10 ^ ws.toNat) ≤ 2000 := Nat.le_trans (intBits_mul_le hbh pB) (by decide)
  have p2 : bits (wu * 10 ^ scale.toNat) ≤ 2000 := Nat.le_trans (intBits_mul_le hbw pA) (by decide)
  unfold topOf
  split
  · exact Nat.le_trans hbw (by decide)
  · exact Nat.le_trans (intBits_add_le p1 p2) (by decide)
  · exact Nat.le_trans (intBits_sub_le p1 p2) (by decide)
  · exact Nat.le_trans (intBits_mul_le hbh hbw) (by decide)
  · exact Nat.le_trans p1 (by decide)
theorem bits_bot {wu scale ws : Int} {way : Nat} (pA : bits ((10 : Int) ^ scale.toNat) ≤ 801) (pB : bits ((10 : Int) ^ ws.toNat) ≤ 801) (hbw : bits wu ≤ 64) : bits (botOf way wu scale.toNat ws.toNat) ≤ 8999 := by
  have p9 : bits ((10 : Int) ^ scale.toNat * 10 ^ ws.toNat) ≤ 8999 := Nat.le_trans (intBits_mul_le pA pB) (by decide)
  unfold botOf
  split
  · exact Nat.le_trans pB (by decide)
  · exact p9
  · exact p9
  · exact p9
  · exact Nat.le_trans (intBits_mul_le pA hbw) (by decide)
theorem rowW_spec (w : World) (news : Led) (x dx : Addr) (k v : Nat → Tok) (digits scale size : Int) (usage sign : Str) (sep signed : Bool) (h1 : (x, instObj 204 dx) ∈ news) (h2 : (dx, shD w k v digits scale size usage sign sep signed) ∈ news)
    (qw : Addr) (wu ws : Int) (t1 t2 : Tok) (hw : (qw, tup2 wu ws t1 t2) ∈ news) (held : Int) (th tw : Tok) (r : Bool) (way : Nat) (hway : way < 5)
    (hd0 : 0 ≤ digits) (hd1 : digits ≤ 18) (hs0 : 0 ≤ scale) (hs1 : scale ≤ 10) (hw0 : 0 ≤ ws) (hw1 : ws ≤ 10) (hbh : bits held ≤ 64) (hbw : bits wu ≤ 64) :
    Ct w 349 2 16 news [.int held th, .ref x, .ref qw, .bool r, .str (wayS way) tw] (ROp news (rowOf (topOf way held wu scale.toNat ws.toNat) (botOf way wu scale.toNat ws.toNat) scale.toNat digits.toNat signed r)) := by
  unfold Ct
  intro prog p loose mean mg mb dp un gd cn cs aa ccd cl outer A₀ base h₀ L m s Q E B F X N T hk hdp hun hret
  have pA : bits ((10 : Int) ^ scale.toNat) ≤ 801 := bits_ten (by lia)
  have pB : bits ((10 : Int) ^ ws.toNat) ≤ 801 := bits_ten (by lia)
  ktr_call [("held", .int held th), ("shape", .ref x), ("worth", .ref qw), ("is_rounded", .bool r), ("way", .str (wayS way) tw)] 349
  k_steps
  unfold OgW
  rename News _ _ _ _ => NN
  rename Fr _ _ _ _ => FF
  have q0 := bits_top (way := way) pA pB hbh hbw
  have q9 := bits_bot (way := way) pA pB hbw
  refine row_mid FF news [(Str.ofString "held", .int held th), (Str.ofString "shape", .ref x), (Str.ofString "is_rounded", .bool r)] (topOf way held wu scale.toNat ws.toNat) (botOf way wu scale.toNat ws.toNat) ?br fun h9 tk9 m9 qo t9 u9 N9 F9 => ?_
  case br =>
    clear q0 q9
    have p1 : bits (held * 10 ^ ws.toNat) ≤ 2000 := Nat.le_trans (intBits_mul_le hbh pB) (by decide)
    have p2 : bits (wu * 10 ^ scale.toNat) ≤ 2000 := Nat.le_trans (intBits_mul_le hbw pA) (by decide)
    have hc : way = 0 ∨ way = 1 ∨ way = 2 ∨ way = 3 ∨ way = 4 := way5 _ (by assumption)
    rcases hc with rfl | rfl | rfl | rfl | rfl
    all_goals
      simp only [wayS] at FF ⊢
      have mk9 : RowMark := trivial
      unfold OgW
      k_steps
      unfold RowMid
      rename News _ _ _ _ => N9
      rename Fr _ _ _ _ => F9
      refine ⟨rfl, _, _, _, _, _, _, rfl, og_sub N9 (sub_consX (by k_mem) fun p hp => by simp only [List.mem_cons, hp, or_true]), F9, ?_, rfl⟩
      exact fa rfl (fa rfl (fa rfl fa0))
  clear NN FF
  generalize topOf way held wu scale.toNat ws.toNat = top at *
  generalize botOf way wu scale.toNat ws.toNat = bot at *
  have p8 : bits (top * 10 ^ scale.toNat) ≤ 8999 := Nat.le_trans (intBits_mul_le q0 pA) (by decide)
  k_steps
  all_goals first
    | refine endO hret (by k_asm) (by k_asm) (fun _ h => by simp only [List.mem_cons, h, or_true]) ?_
    | refine endOI hret (by k_asm) (by k_asm) (fun _ h => by simp only [List.mem_cons, h, or_true]) ?_
  all_goals
    clear hret
    unfold rowOf
    simp only [abs_ite] at *
    simp [*]
end SOgX
section SOgL0
open PySem PySem.W PyProof.Rows PySem.Calls PySem.Spec
set_option maxRecDepth 100000
set_option maxHeartbeats 4000000
set_option linter.unusedVariables false
section
variable {w : World} {news : Led} {prog : Program} {p : Program} {loose : List Str} {mean : ExcName → Option Value} {mg mb : Str → Option Value}
    {dp un : Nat} {gd : Option (List Code)} {cn : Str} {cs : Scope} {a : Addr} {ccd : Value} {cl : List (Str × Addr)} {outer : List Env} {A₀ : Around} {base h₀ : Heap} {L : Addr} {m : Str → Option Value} {s : Shared} {Q E : Value → Shared → Prop}
theorem useSp {pl : Addr} {vs : List Value} {ns : List Int} {c : Nat} {g : Obj → Led} (U : UpdF pl (listOf (List.toArray vs) c) news g) (hI : IntsAre vs ns) (hl : ns.length ≤ 100)
    (B : Below A₀ base outer h₀) (F : Fr h₀ L s.heap m) (X : (hd.heap_1 w.params).In h₀) (N : News h₀ L s.heap news) (T : Top p loose mean mg mb h₀) (hk : cs.kind = .function) (hd : dp + 4 < recursionLimit) (hu : un + 32 < cLine)
    (h : ∀ (x dx : Addr) (k v : Nat → Tok) (digits scale size : Int) (usage sign : Str) (sep signed : Bool) (vs' : List Value) (ns' : List Int) (c' : Nat) (h' : Heap) (tk' : Nat), WfS digits scale size usage sep signed → IntsAre vs' ns' → ns'.length ≤ 100 → (∀ p ∈ news, p.1 < dx) → @LT.lt Nat _ dx x → Fr h₀ L h' m → News h₀ L h' ((x, instObj 204 dx) :: (dx, shD w k v digits scale size usage sign sep signed) :: g (listOf (List.toArray vs') c')) → Q (.ref x) { s with heap := h', toks := tk' }) :
    wpAny (model prog w) (ktrTop dp un gd cn cs L a ccd cl outer) (call (.ref 342) [.ref pl]) Q E s := by
  obtain ⟨pre, post, rfl, hg, ha, hb'⟩ := U.split
  refine lsh_spec w (pre ++ post) pl vs ns c (fun p hp => ?_) hI hl prog p loose mean mg mb dp un gd cn cs a ccd cl outer A₀ base h₀ L m s Q E B F X (og_sub N mem_mid) T hk hd hu ?_
  · rcases List.mem_append.mp hp with h | h
    · exact ha p h
    · exact hb' p h
  · rintro r n h' tk' ⟨x, dx, k, v, digits, scale, size, usage, sign, sep, signed, vs', ns', c', rfl, rfl, wf, hI', hl', l1, l2, l3⟩ F' N'
    refine h x dx k v digits scale size usage sign sep signed vs' ns' c' h' tk' wf hI' hl' (fun p hp => ?_) l3 F' (og_sub N' fun p hp => ?_)
    · rcases List.mem_cons.mp (mem_mid' p hp) with rfl | hp
      · exact l2
      · exact l1 p hp
    · rcases List.mem_cons.mp hp with rfl | hp
      · exact .head _
      rcases List.mem_cons.mp hp with rfl | hp
      · exact .tail _ (.head _)
      rw [hg] at hp
      exact .tail _ (.tail _ (mem_mid' p hp))
end
theorem rowAny (w : World) (news : Led) (r : Rec) (hr : r.In w news) (wf : r.Wf) (qw : Addr) (wu ws : Int) (t1 t2 : Tok) (hw : (qw, tup2 wu ws t1 t2) ∈ news) (held : Int) (th tw : Tok) (rd : Bool) (way : Nat) (hway : way < 5)
    (hw0 : 0 ≤ ws) (hw1 : ws ≤ 10) (hbh : bits held ≤ 64) (hbw : bits wu ≤ 64) :
    Ct w 349 2 16 news [.int held th, .ref r.x, .ref qw, .bool rd, .str (wayS way) tw] (ROp news (rowRes r wu ws rd way held)) := by
  obtain ⟨h1, h2⟩ := hr
  obtain ⟨d0, d1, s0, s1, _⟩ := wf
  exact rowW_spec w news r.x r.dx r.k r.v r.digits r.scale r.size r.usage r.sign r.sep r.signed h1 h2 qw wu ws t1 t2 hw held th tw rd way hway (by lia) d1 s0 s1 hw0 hw1 hbh hbw
/-- the state of the law's first loop -/
structure S1 where
  pv : List Value
  pc : Nat
  mo : Obj
  so : Obj
  eo : Obj
  S : List Rec
  us : Str → Int
  mt : Str → Tok
  dt : Str → Tok
  tl : Led
noncomputable def P1 (w : World) (pl md sd ed nl : Addr) (nms : List Str) (i : Nat) (c : S1) : Prop :=
  (∃ pn, IntsAre c.pv pn ∧ pn.length ≤ 100) ∧ (∀ prog, c.mo.IsDictOf (PySem.strKind prog w) (mpsOf c.S c.us c.mt)) ∧ (∀ prog, c.so.IsDictOf (PySem.strKind prog w) (spsOf c.S)) ∧ (∀ prog, c.eo.IsDictOf (PySem.strKind prog w) (dpsOf c.S c.us c.dt)) ∧
  c.S.map (·.nm) = nms.take i ∧ (∀ r ∈ c.S, r.Wf ∧ r.In w c.tl) ∧ FitAll c.S c.us ∧ (∀ p ∈ c.tl, p.1 ≠ pl) ∧ (∀ p ∈ c.tl, p.1 ≠ md) ∧ (∀ p ∈ c.tl, p.1 ≠ sd) ∧ (∀ p ∈ c.tl, p.1 ≠ ed) ∧ (∀ p ∈ c.tl, p.1 ≠ nl) ∧ (∀ p ∈ c.tl, p.1 ≠ 351)
theorem off2 {x dx a : Addr} {o1 o2 : Obj} {l : Led} (h1 : @LT.lt Nat _ a dx) (h2 : @LT.lt Nat _ dx x) (h : ∀ p ∈ l, p.1 ≠ a) : ∀ p ∈ (x, o1) :: (dx, o2) :: l, p.1 ≠ a := fun p hp => by
  rcases List.mem_cons.mp hp with rfl | hp
  · exact fun e => by dsimp only at e; subst e; exact Nat.lt_irrefl _ (Nat.lt_trans h1 h2)
  rcases List.mem_cons.mp hp with rfl | hp
  · exact fun e => by dsimp only at e; subst e; exact Nat.lt_irrefl _ h1
  exact h p hp
theorem P1.step {w : World} {pl md sd ed nl : Addr} {nms : List Str} {i : Nat} {c : S1} (h : P1 w pl md sd ed nl nms i c) (hn : nms.Nodup) (r : Rec) (hr : nms[i]? = some r.nm) {pv : List Value} {pn : List Int} {pc : Nat} {mo so eo : Obj} {u : Int} {tm td : Tok} {prog : Program}
    (hI : IntsAre pv pn) (hl : pn.length ≤ 100) (hm : mo.IsDictOf (PySem.strKind prog w) (stored (mpsOf c.S c.us c.mt) r.nm (.bytes (byteArr (r.oct u)) tm))) (hs : so.IsDictOf (PySem.strKind prog w) (stored (spsOf c.S) r.nm (.ref r.x)))
    (he : eo.IsDictOf (PySem.strKind prog w) (stored (dpsOf c.S c.us c.dt) r.nm (.int u td))) (wf : r.Wf) (hu : Fit r.digits r.signed u)
    (l0 : @LT.lt Nat _ r.dx r.x) (l1 : @LT.lt Nat _ pl r.dx) (l2 : @LT.lt Nat _ md r.dx) (l3 : @LT.lt Nat _ sd r.dx) (l4 : @LT.lt Nat _ ed r.dx) (l5 : @LT.lt Nat _ nl r.dx) (l6 : @LT.lt Nat _ 351 r.dx) :
    P1 w pl md sd ed nl nms (i + 1) ⟨pv, pc, mo, so, eo, c.S ++ [r], setAt c.us r.nm u, setAt c.mt r.nm tm, setAt c.dt r.nm td, (r.x, instObj 204 r.dx) :: (r.dx, shD w r.k r.v r.digits r.scale r.size r.usage r.sign r.sep r.signed) :: c.tl⟩ := by
  obtain ⟨_, h2, h3, h4, h5, h6, h7, o1, o2, o3, o4, o5, o6⟩ := h
  have hni : r.nm ∉ c.S.map (·.nm) := by
    rw [h5]
    intro hc
    obtain ⟨j, hj, e⟩ := List.getElem_of_mem hc
    have hi : i < nms.length := by
      rcases Nat.lt_or_ge i nms.length with h | h
      · exact h
      · rw [List.getElem?_eq_none h] at hr; cases hr
    have hji : j < i := by
      rw [List.length_take] at hj
      lia
    rw [List.getElem_take] at e
    rw [List.getElem?_eq_getElem hi] at hr
    have := (List.getElem_inj hn).mp (e.trans (Option.some.inj hr).symm)
    lia
  refine ⟨⟨pn, hI, hl⟩, fun pr => ?_, fun pr => ?_, fun pr => ?_, ?_, ?_, ?_, off2 l1 l0 o1, off2 l2 l0 o2, off2 l3 l0 o3, off2 l4 l0 o4, off2 l5 l0 o5, off2 l6 l0 o6⟩
  · have := isDict_prog (prog' := pr) hm
    unfold mpsOf at this
    rw [stored_new hni] at this
    have e := map_app (f := fun r => Value.bytes (byteArr (r.oct (c.us r.nm))) (c.mt r.nm)) (f' := fun z => Value.bytes (byteArr (z.oct (setAt c.us r.nm u z.nm))) (setAt c.mt r.nm tm z.nm)) hni fun r' e => by (try dsimp only); rw [setAt_ne _ _ e, setAt_ne _ _ e]
    try dsimp only at e
    rw [setAt_eq, setAt_eq] at e
    rw [e] at this
    exact this
  · have := isDict_prog (prog' := pr) hs
    unfold spsOf at this
    rw [stored_new hni] at this
    have e := map_app (f := fun r => Value.ref r.x) (f' := fun z => Value.ref z.x) hni fun r' e => rfl
    try dsimp only at e
    rw [e] at this
    exact this
  · have := isDict_prog (prog' := pr) he
    unfold dpsOf at this
    rw [stored_new hni] at this
    have e := map_app (f := fun r => Value.int (c.us r.nm) (c.dt r.nm)) (f' := fun z => Value.int (setAt c.us r.nm u z.nm) (setAt c.dt r.nm td z.nm)) hni fun r' e => by (try dsimp only); rw [setAt_ne _ _ e, setAt_ne _ _ e]
    try dsimp only at e
    rw [setAt_eq, setAt_eq] at e
    rw [e] at this
    exact this
  · dsimp only
    rw [List.map_append, h5, List.take_add_one, hr]
    rfl
  · intro r' hr'
    rcases List.mem_append.mp hr' with hr' | hr'
    · obtain ⟨a, b, d⟩ := h6 r' hr'
      exact ⟨a, .tail _ (.tail _ b), .tail _ (.tail _ d)⟩
    · rw [List.mem_singleton.mp hr']
      exact ⟨wf, .head _, .tail _ (.head _)⟩
  · intro r' hr'
    (try dsimp only)
    rcases List.mem_append.mp hr' with hr' | hr'
    · have : r'.nm ≠ r.nm := fun e => hni (List.mem_map.mpr ⟨r', hr', e⟩)
      rw [setAt_ne _ _ this]
      exact h7 r' hr'
    · rw [List.mem_singleton.mp hr', setAt_eq]
      exact hu
theorem sub_cons {α : Type} {a : α} {l l' : List α} (h : a ∈ l') (h2 : ∀ p ∈ l, p ∈ l') : ∀ p ∈ a :: l, p ∈ l' := fun p hp => by
  rcases List.mem_cons.mp hp with rfl | hp
  · exact h
  · exact h2 p hp
theorem at_prog {prog : Program} {w : World} {A : Around} {E : Value → Shared → Prop} {s : Shared} {α : Type} {t : Sem α} {Q : α → Shared → Prop} {P : Program → Prop} (h : ∀ prog, P prog) (k : P prog → wpAny (model prog w) A t Q E s) : wpAny (model prog w) A t Q E s := k (h prog)
theorem fit_pos {d k : Int} {sg : Bool} (h0 : 0 ≤ d) (h1 : d < 10 ^ k.toNat) : Fit k sg d := ⟨decide_eq_true (by lia), fun _ => h0⟩
theorem fit_neg {d k : Int} {sg : Bool} (h0 : 0 ≤ d) (h1 : d < 10 ^ k.toNat) (h : sg = true) : Fit k sg (-d) := ⟨decide_eq_true (by lia), fun e => by rw [h] at e; cases e⟩
theorem ite_join {c : Prop} [Decidable c] {prog : Program} {w : World} {A : Around} {E : Value → Shared → Prop} {s : Shared} {t1 t2 : Sem Value} {Q : Value → Shared → Prop} (lo hi : Int)
    (h1 : wpAny (model prog w) A t1 (fun v s' => ∃ x t tk, v = .int x t ∧ lo ≤ x ∧ x ≤ hi ∧ s' = { s with toks := tk }) E s)
    (h2 : wpAny (model prog w) A t2 (fun v s' => ∃ x t tk, v = .int x t ∧ lo ≤ x ∧ x ≤ hi ∧ s' = { s with toks := tk }) E s)
    (h : ∀ x t tk, lo ≤ x → x ≤ hi → Q (.int x t) { s with toks := tk }) : if c then wpAny (model prog w) A t1 Q E s else wpAny (model prog w) A t2 Q E s := by
  split
  · exact wpAny_mono h1 (fun v s' ⟨x, t, tk, e1, a, b, e2⟩ => by subst e1; subst e2; exact h x t tk a b) fun _ _ e => e
  · exact wpAny_mono h2 (fun v s' ⟨x, t, tk, e1, a, b, e2⟩ => by subst e1; subst e2; exact h x t tk a b) fun _ _ e => e
theorem dec_le {u : Int} {n : Nat} : ((dec u n).2 : Int) ≤ n := by have := (dec_val n u).2; lia
theorem dec_bits {u : Int} {n : Nat} (h0 : -1000000 ≤ u) (h1 : u ≤ 1000000) : bits (dec u n).1 ≤ 64 := intBits_le_iff.mpr (Nat.lt_of_le_of_lt (dec_abs n u) (Nat.lt_of_lt_of_le (show u.natAbs < 2 ^ 30 by lia) (Nat.pow_le_pow_right (by decide) (by decide))))
theorem ne_tl7 {a b c d e f g q : Addr} {news : Led} (h : @LT.lt Nat _ a q ∧ @LT.lt Nat _ b q ∧ @LT.lt Nat _ c q ∧ @LT.lt Nat _ d q ∧ @LT.lt Nat _ e q ∧ @LT.lt Nat _ f q ∧ @LT.lt Nat _ g q ∧ AllLt q news) : ∀ p ∈ news, p.1 ≠ q := fun p hp => Nat.ne_of_lt (ktn_ltOf h.2.2.2.2.2.2.2 p hp)
theorem ne_same {prog : Program} {w : World} {A : Around} {E : Value → Shared → Prop} {s : Shared} {b : Bool} {Q : Value → Shared → Prop} (h : Q (.bool false) s) : wpAny (model prog w) A (compareOp .NotEq (.bool b) (.bool b)) Q E s := by
  cases b <;> exact ne_bool h
theorem ne_same_int {prog : Program} {w : World} {A : Around} {E : Value → Shared → Prop} {s : Shared} {a : Int} {t u : Tok} {Q : Value → Shared → Prop} (h : Q (.bool false) s) : wpAny (model prog w) A (compareOp .NotEq (.int a t) (.int a u)) Q E s :=
  PyProof.Rows.ne_int (by
    have e : (a != a) = false := by simp
    rw [e]
    exact h)
theorem len_octs {prog : Program} {w : World} {A : Around} {E : Value → Shared → Prop} {s : Shared} {ks : List Int} {sz : Int} {t : Tok} {Q : Value → Shared → Prop} (hI : KBa.In ks) (hs : (ks.length : Int) = sz) (hz : sz ≤ 19)
    (h : Q (.int sz (s.toks + 1)) { s with toks := s.toks + 1 + 1 }) : wpAny (model prog w) A (call (.builtin "len") [.bytes (byteArr ks) t]) Q E s :=
  KBw.len_K (KBa.ints_make hI) (by lia) (by rw [hs]; exact h)
theorem gen_Q {prog : Program} {w : World} {A : Around} {env : Env} {t : Sem Flow} {Q : Flow → Shared → Prop} {E : Value → Shared → Prop} {s : Shared} (P : Heap → Prop) (hE : PassesOwn (model prog w) A env E)
    (hP : ∀ h' tk, P h' → Q (.ret (.bool true)) { s with heap := h', toks := tk })
    (h : ∀ (Q' : Flow → Shared → Prop) (E' : Value → Shared → Prop), PassesOwn (model prog w) A env E' → (∀ h' tk, P h' → Q' (.ret (.bool true)) { s with heap := h', toks := tk }) → wpAny (model prog w) A t Q' E' s) : wpAny (model prog w) A t Q E s := h Q E hE hP
theorem p10_pos {k : Nat} : (1 : Int) ≤ 10 ^ k := by
  have := Int.pow_pos (n := 10) (m := k) (by decide)
  lia
/-- the state of the law's second loop -/
structure S2 where
  pv : List Value
  pc : Nat
  eo : Obj
  rows : List Row
  rc : Nat
  dt : Str → Tok
  tl : Led
noncomputable def P2 (w : World) (pl rl ed md tb : Addr) (S : List Rec) (wu ws : Int) (us : Str → Int) (i : Nat) (c : S2) : Prop :=
  (∃ pn, IntsAre c.pv pn ∧ pn.length ≤ 100) ∧ (∀ prog, c.eo.IsDictOf (PySem.strKind prog w) (dpsOf S (runR wu ws c.rows us).1 c.dt)) ∧ c.rows.length = i ∧ (∀ row ∈ c.rows, Row.In row S c.tl) ∧ (∀ r ∈ S, r.Wf ∧ r.In w c.tl) ∧ FitAll S (runR wu ws c.rows us).1 ∧
  (∀ p ∈ c.tl, p.1 ≠ pl) ∧ (∀ p ∈ c.tl, p.1 ≠ rl) ∧ (∀ p ∈ c.tl, p.1 ≠ ed) ∧ (∀ p ∈ c.tl, p.1 ≠ md) ∧ (∀ p ∈ c.tl, p.1 ≠ tb)
theorem stored_same : ∀ {kvs : List (Str × Value)} {k : Str} {v : Value}, valueAt kvs k = some v → (kvs.map (·.1)).Nodup → stored kvs k v = kvs := by
  intro kvs k v h hn
  unfold stored
  have hp : ∃ p ∈ kvs, p.1 = k ∧ p.2 = v := by
    unfold valueAt at h
    cases e : kvs.find? (fun kv => kv.1 = k) with
    | none => rw [e] at h; cases h
    | some p =>
      rw [e] at h
      have := List.find?_some e
      exact ⟨p, List.mem_of_find?_eq_some e, of_decide_eq_true this, Option.some.inj h⟩
  obtain ⟨p, hp, e1, e2⟩ := hp
  rw [if_pos (List.any_eq_true.mpr ⟨p, hp, decide_eq_true e1⟩)]
  refine (List.map_congr_left fun q hq => ?_).trans (List.map_id _)
  by_cases e : q.1 = k
  · rw [if_pos e]
    have : q = p := by
      have hq1 : q.1 = p.1 := e.trans e1.symm
      obtain ⟨i, hi, rfl⟩ := List.getElem_of_mem hq
      obtain ⟨j, hj, rfl⟩ := List.getElem_of_mem hp
      have : i = j := (List.getElem_inj (h₀ := by simpa using hi) (h₁ := by simpa using hj) hn).mp (by simpa using hq1)
      subst this
      rfl
    rw [this]
    exact Prod.ext rfl e2.symm
  · rw [if_neg e]
    rfl
noncomputable def putO (o : Option Int) (y : Value) (td : Tok) : Value := match o with | none => y | some v => .int v td
noncomputable def putT (o : Option Int) (f : Str → Tok) (nm : Str) (td : Tok) : Str → Tok := match o with | none => f | some _ => setAt f nm td
theorem P2.step {w : World} {pl rl ed md tb : Addr} {S : List Rec} {wu ws : Int} {us : Str → Int} {i : Nat} {c : S2} (h : P2 w pl rl ed md tb S wu ws us i c) (hn : (S.map (·.nm)).Nodup) (row : Row) (hr : row.rc ∈ S) (hw : row.way < 5) {pv : List Value} {pn : List Int} {pc rc : Nat} {eo : Obj} {o : Option Int} {td : Tok} {prog : Program}
    (ho : rowRes row.rc wu ws row.rd row.way ((runR wu ws c.rows us).1 row.rc.nm) = o) (hI : IntsAre pv pn) (hl : pn.length ≤ 100)
    (he : eo.IsDictOf (PySem.strKind prog w) (stored (dpsOf S (runR wu ws c.rows us).1 c.dt) row.rc.nm (putO o (.int ((runR wu ws c.rows us).1 row.rc.nm) (c.dt row.rc.nm)) td)))
    (l0 : @LT.lt Nat _ row.rf row.rq) (l1 : @LT.lt Nat _ pl row.rf) (l2 : @LT.lt Nat _ rl row.rf) (l3 : @LT.lt Nat _ ed row.rf) (l4 : @LT.lt Nat _ md row.rf) (l5 : @LT.lt Nat _ tb row.rf) :
    P2 w pl rl ed md tb S wu ws us (i + 1) ⟨pv, pc, eo, c.rows ++ [row], rc, putT o c.dt row.rc.nm td, (row.rq, tupR row.rf row.rd (wayS row.way) row.tw) :: (row.rf, tupS (Str.ofString "ref") row.rc.nm row.ta row.tb) :: c.tl⟩ := by
  obtain ⟨_, h2, h3, h4, h5, h6, o1, o2, o3, o4, o5⟩ := h
  refine ⟨⟨pn, hI, hl⟩, fun pr => ?_, ?_, ?_, ?_, ?_, off2 l1 l0 o1, off2 l2 l0 o2, off2 l3 l0 o3, off2 l4 l0 o4, off2 l5 l0 o5⟩
  · have := isDict_prog (prog' := pr) he
    (try dsimp only)
    rw [runR_snoc]
    unfold stepR
    rw [ho]
    cases o with
    | none =>
      dsimp only at this ⊢
      rw [stored_same (by unfold dpsOf; exact value_map (f := fun r => Value.int ((runR wu ws c.rows us).1 r.nm) (c.dt r.nm)) hn hr) (by unfold dpsOf; rw [List.map_map]; exact hn)] at this
      exact this
    | some v =>
      have this : Obj.IsDictOf (PySem.strKind pr w) eo (stored (dpsOf S (runR wu ws c.rows us).1 c.dt) row.rc.nm (.int v td)) := this
      rw [stored_dps hn hr] at this
      exact this
  · dsimp only
    rw [List.length_append, h3]
    rfl
  · intro r' hr'
    rcases List.mem_append.mp hr' with hr' | hr'
    · obtain ⟨a, b, d, e⟩ := h4 r' hr'
      exact ⟨a, b, .tail _ (.tail _ d), .tail _ (.tail _ e)⟩
    · rw [List.mem_singleton.mp hr']
      exact ⟨hr, hw, .head _, .tail _ (.head _)⟩
  · intro r' hr'
    obtain ⟨a, b, d⟩ := h5 r' hr'
    exact ⟨a, .tail _ (.tail _ b), .tail _ (.tail _ d)⟩
  · dsimp only
    rw [runR_snoc]
    exact stepR_fit hn h6 hr
theorem rows_push {rows : List Row} {row : Row} {n : Nat} : listOf (((rows.map fun r => Value.ref r.rq).toArray).push (.ref row.rq)) n = listOf (((rows ++ [row]).map fun r => Value.ref r.rq).toArray) n := by simp
theorem odd_none {wu ws : Int} {rows : List Row} {us : Str → Int} {row : Row} (ho : rowRes row.rc wu ws row.rd row.way ((runR wu ws rows us).1 row.rc.nm) = none) : (runR wu ws (rows ++ [row]) us).2 = true := by
  rw [runR_snoc]
  unfold stepR
  rw [ho]
theorem odd_some {wu ws : Int} {rows : List Row} {us : Str → Int} {row : Row} {v : Int} (ho : rowRes row.rc wu ws row.rd row.way ((runR wu ws rows us).1 row.rc.nm) = some v) : (runR wu ws (rows ++ [row]) us).2 = (runR wu ws rows us).2 := by
  rw [runR_snoc]
  unfold stepR
  rw [ho]
theorem fit_bits {d k : Int} {sg : Bool} (h : Fit k sg d) (hk : k ≤ 18) : bits d ≤ 64 := by
  have h1 := of_decide_eq_true h.1
  have h2 : (10 : Int) ^ k.toNat ≤ 10 ^ 18 := pow_le_pow10 (by lia)
  refine intBits_le_iff.mpr (Nat.lt_of_lt_of_le (show d.natAbs < 2 ^ 60 from ?_) (Nat.pow_le_pow_right (by decide) (by decide)))
  have : (10 : Int) ^ 18 ≤ 2 ^ 60 := by decide
  have h3 : (d.natAbs : Int) < 2 ^ 60 := by lia
  have e : ((2 ^ 60 : Nat) : Int) = 2 ^ 60 := by norm_cast
  rw [← e] at h3
  exact Int.ofNat_lt.mp h3
end SOgL0
section SOgM1
open PySem PySem.W PyProof.Rows PySem.Calls
set_option maxRecDepth 100000
set_option maxHeartbeats 4000000

theorem rs_OgM1 : True := by
  w_top off
  trivial
namespace GSOgM1
theorem secOgM1 : True := trivial
end GSOgM1
open GSOgM1
theorem wd39 : True := by
  k_with "call ref" => ((guard_expr secOgM1 =ₛ secOgM1); (k_here; (with_reducible show wpAny _ _ (call (Value.ref 328) _) _ _ _); k_dflt (refine' useK ?kUz80 ?kIz80 ?klz80 ?kmz80 ?kbz80 ?k1z80 ?k2z80 ?k3z80 ?k4z80 ?k5z80 ?kKz80 ?kdz80 ?kuz80 ?_; (case k1z80 => k_asm); (case k2z80 => k_asm); (case k3z80 => k_asm); (case k4z80 => k_asm); (case k5z80 => k_asm); (case kUz80 => k_updF); (case kIz80 => assumption); (case klz80 => assumption); (case kmz80 => first | decide | omega | assumption); (case kbz80 => first | assumption | exact bits_sm (by omega) (by omega) | exact Nat.le_trans (bits_ten (by omega)) (by decide)); (case kKz80 => first | exact rfl | assumption); (case kdz80 => ktr_room); (case kuz80 => ktr_units); k_whole); intro d9 t9 vs9 ns9 c9 h9 tk9 hd0 hd1 hI9 hl9 F9 N9; (try dsimp only at N9); (try k_sweep); (try dsimp only); (try k_fold)))
  k_with "call ref" => ((guard_expr secOgM1 =ₛ secOgM1); (k_here; (with_reducible show wpAny _ _ (call (Value.ref 229) _) _ _ _); cell_ask (useI, (pwide_spec _ _ _ _ (by first | assumption | omega) (by first | assumption | omega))); intro t9z81 h9z81 tk9z81 F9z81 N9z81; (try k_sweep); (try dsimp only); (try k_fold)))
  k_with "call ref" => ((guard_expr secOgM1 =ₛ secOgM1); (k_here; (with_reducible show wpAny _ _ (call (Value.ref 222) _) _ _ _); cell_ask (useI, (swide_spec _ _ _ _ (by first | assumption | omega) (by first | assumption | omega))); intro t9z82 h9z82 tk9z82 F9z82 N9z82; (try k_sweep); (try dsimp only); (try k_fold)))
  k_with "call ref" => ((guard_expr secOgM1 =ₛ secOgM1); (k_here; (with_reducible show wpAny _ _ (call (Value.ref 236) _) _ _ _); cell_ask (useSh, (numsh_spec _ _ _ _ _ _ _ _ _ _ _ _)); intro x9z83 dx9z83 k9z83 v9z83 h9z83 tk9z83 F9z83 N9z83 l9z83 l8z83; (try k_lt l9z83); (try k_lt2 l8z83); (try k_sweep); (try dsimp only); (try k_fold)))
  k_with "subscriptTail" => ((guard_expr secOgM1 =ₛ secOgM1); (k_here; (with_reducible show wpAny _ _ (subscriptTail _ _ (Value.ref _) (Value.str _ _)) _ _ _); k_dflt (refine' kda_item (knd := PySem.strKind _ _) ?ogd1z106 ?ogd2z106 ?ogd3z106 (strKind_is _ _ _ _) ?ogd4z106 ?_; (case ogd1z106 => k_asm); (case ogd2z106 => k_mem); (case ogd3z106 => first | assumption | exact (by assumption : ∀ _, _) _); (case ogd4z106 => first | assumption | exact value_stored); k_whole)))
  k_with "call ref" => ((guard_expr secOgM1 =ₛ secOgM1); (k_here; (with_reducible show wpAny _ _ (call (Value.ref 274) _) _ _ _); cell_ask (useY, (octo_spec _ _ _ _ _ _ _ _ _ _ _ _ _ (by k_mem) (by k_mem) (by omega) (by omega) (by omega) (by omega) _ _)); intro t9z90 h9z90 tk9z90 F9z90 N9z90; (try k_sweep); (try dsimp only); (try k_fold)))
  k_with "setItem ref str" => ((guard_expr secOgM1 =ₛ secOgM1); (k_here; (with_reducible show wpAny _ _ (setItem (Value.ref _) (Value.str _ _) _) _ _ _); k_dflt (refine' kda_set (knd := PySem.strKind _ _) ?ogs1z107 ?ogs2z107 ?ogs3z107 ?ogs4z107 (strKind_is _ _ _ _) ?ogs5z107 ?_; (case ogs1z107 => k_asm); (case ogs2z107 => k_asm); (case ogs3z107 => k_updF); (case ogs4z107 => first | assumption | exact (by assumption : ∀ _, _) _); (case ogs5z107 => assumption); k_whole); intro h'z107 o'z107 F'z107 N'z107 hd'z107))
  k_with "subscriptTail Name Name ref str" => ((guard_expr secOgM1 =ₛ secOgM1); (k_here; (with_reducible show wpAny _ _ (subscriptTail _ _ (Value.ref _) (Value.str _ _)) _ _ _); k_dflt (refine' kda_item (knd := PySem.strKind _ _) ?ogd1z106 ?ogd2z106 ?ogd3z106 (strKind_is _ _ _ _) ?ogd4z106 ?_; (case ogd1z106 => k_asm); (case ogd2z106 => k_mem); (case ogd3z106 => first | assumption | exact (by assumption : ∀ _, _) _); (case ogd4z106 => first | assumption | exact value_stored); k_whole)))
  k_with "callWith ref nil nil" => ((guard_expr secOgM1 =ₛ secOgM1); (k_here; k_dflt (refine' callWith_K ?k1z108 ?k2z108 ?_; (case k1z108 => k_asm); (case k2z108 => k_is); k_whole)))
  k_with "subscriptTail List cons Slice ref ref" => ((guard_expr secOgM1 =ₛ secOgM1); (k_here; (refine kba_turn (value' := PySem.Expr.Name (PySem.Str.ofString "_") ⟨0, 0, 0, 0⟩) (fun _ => by k_dflt rfl) ?_); k_dflt (refine' og_names ?ogFz109 ?ogNz109 ?oglz109 ?og0z109 ?og1z109 ?_ ?ogsz109 ?ogtz109; (case ogFz109 => k_asm); (case ogNz109 => k_asm); (case oglz109 => k_mem); (case og0z109 => omega); (case og1z109 => omega); (case ogsz109 => with_unfolding_all rfl); (case ogtz109 => kmk_pure)); intro nl nv nms h' hnm hnd hn1 hn3 F' N' l1; (try k_lt l1); (try k_sweep)))
  k_with "exec For Name Name cons nil" => ((guard_expr secOgM1 =ₛ secOgM1); (k_here; (with_unfolding_all refine For_T ?_ (by intro _; with_unfolding_all rfl))))
  k_with "exec For Name Call cons nil" => ((guard_expr secOgM1 =ₛ secOgM1); (k_here; (with_unfolding_all refine For_T ?_ (by intro _; with_unfolding_all rfl))))
  k_with "ite" => ((guard_expr secOgM1 =ₛ secOgM1); ((with_reducible show ite _ (wpAny _ _ (eval (PySem.Expr.Name _ _) _) _ _ _) _); refine og_wrap ?_))
  k_with "call ref" => ((guard_expr secOgM1 =ₛ secOgM1); (k_here; (with_reducible show wpAny _ _ (call (Value.ref 94) _) _ _ _); cell_ask (useT, (decimal_spec _ _ _ _ _ _ (by first | with_reducible assumption | decide | omega) (by first | with_reducible assumption | decide | omega))); intro qw tqa tqb h9 tk9 F9 N9 l9; (try k_lt l9); (try k_sweep); (try dsimp only); (try k_fold)))
  k_with "call builtin:len" => ((guard_expr secOgM1 =ₛ secOgM1); (k_here; (with_reducible show wpAny _ _ (call (Value.builtin "len") [Value.ref _]) _ _ _); k_dflt (refine' kst_len ?Nz112 ?lz112 (NmsAre.length ?iz112) ?zz112 ?_; (case Nz112 => k_asm); (case lz112 => k_mem); (case iz112 => assumption); (case zz112 => omega); k_whole)))
  k_with "binaryOp Mod int int" => ((guard_expr secOgM1 =ₛ secOgM1); (k_here; (with_reducible refine mod_int (by omega) ?_)))
  k_with "subscriptTail Name BinOp ref int" => ((guard_expr secOgM1 =ₛ secOgM1); (k_here; refine og_wrap ?_))
  k_with "subscriptTail Tuple cons Call ref int" => ((guard_expr secOgM1 =ₛ secOgM1); (k_here; refine og_wrap ?_))
  k_with "newTuple cons" => ((guard_expr secOgM1 =ₛ secOgM1); (k_here; k_dflt (refine' kup_newTuple ?Fz115 ?Nz115 ?_ ?zz115; (case Fz115 => k_asm); (case Nz115 => k_asm); (case zz115 => kmk_size)); intro D'z115 h'z115 F'z115 N'z115 l1z115; (try k_lt l1z115); (try k_sweep)))
  k_with "newTuple cons" => ((guard_expr secOgM1 =ₛ secOgM1); (k_here; (with_reducible show wpAny _ _ (newTuple [Value.str _ _, Value.str _ _]) _ _ _); k_dflt (refine' kup_newTuple ?Fz116 ?Nz116 ?_ ?zz116; (case Fz116 => k_asm); (case Nz116 => k_asm); (case zz116 => kmk_size)); intro rf h' F' N' l1; (try k_lt l1); (try k_sweep)))
  k_with "newTuple cons" => ((guard_expr secOgM1 =ₛ secOgM1); (k_here; (with_reducible show wpAny _ _ (newTuple [Value.ref _, Value.bool _, Value.str _ _]) _ _ _); k_dflt (refine' kup_newTuple ?Fz117 ?Nz117 ?_ ?zz117; (case Fz117 => k_asm); (case Nz117 => k_asm); (case zz117 => kmk_size)); intro rq h' F' N' l1; (try k_lt l1); (try k_sweep)))
  k_with "compareOp NotEq bool bool" => ((guard_expr secOgM1 =ₛ secOgM1); (k_here; refine og_wrap ?_))
  k_with "call ref" => ((guard_expr secOgM1 =ₛ secOgM1); (k_here; (with_reducible show wpAny _ _ (call (Value.ref 321) _) _ _ _); cell_ask (useT, (numin_spec _ _ _ _ _ _ _ _ _ _ _ _ _ (by k_mem) (by k_mem) (by assumption) _ (by assumption) _)); intro q9z92 t9z92 u9z92 h9z92 tk9z92 F9z92 N9z92 l9z92; (try k_lt l9z92); (try k_sweep); (try dsimp only); (try k_fold)))
  k_with "compareOp NotEq int int" => ((guard_expr secOgM1 =ₛ secOgM1); (k_here; (with_reducible refine ne_same_int ?_)))
  k_with "call builtin:len" => ((guard_expr secOgM1 =ₛ secOgM1); (k_here; (with_reducible show wpAny _ _ (call (Value.builtin "len") [Value.bytes _ _]) _ _ _); k_dflt (refine' len_octs ?ol1z119 ?ol2z119 ?ol3z119 ?_; (case ol1z119 => assumption); (case ol2z119 => assumption); (case ol3z119 => assumption); k_whole)))
  k_with "newList nil" => ((guard_expr secOgM1 =ₛ secOgM1); (k_here; refine og_wrap ?_))
  k_with "eval Dict nil nil" => ((guard_expr secOgM1 =ₛ secOgM1); (k_here; refine og_wrap ?_))
  k_with "call ref" => ((guard_expr secOgM1 =ₛ secOgM1); (k_here; (with_reducible show wpAny _ _ (call (Value.ref 342) _) _ _ _); refine og_wrap ?_))
  k_with "call ref" => ((guard_expr secOgM1 =ₛ secOgM1); (k_here; (with_reducible show wpAny _ _ (call (Value.ref 349) _) _ _ _); refine og_wrap ?_))
  k_with "call ref" => ((guard_expr secOgM1 =ₛ secOgM1); (k_here; (with_reducible show wpAny _ _ (call (Value.ref 356) _) _ _ _); refine og_wrap ?_))
  k_with "call ref" => ((guard_expr secOgM1 =ₛ secOgM1); (k_here; (with_reducible show wpAny _ _ (call (Value.ref 363) _) _ _ _); refine og_wrap ?_))
  trivial
theorem lawX : PySem.Challenge.rw_og0090_01.Holds := by
  refine hd ?_
  w_strict (k_go0; (all_goals try k_fold); skip)
  rename World => w
  rename Shared => s1
  rename Frag.In _ (ghostOf _ _) => XG
  rename Top _ _ _ _ _ (ghostOf _ _) => TG
  rename Fr _ _ _ _ => FG
  rename News _ _ _ _ => NG
  rename Below _ _ _ _ => BG
  refine gen_Q (fun h' => ∃ n, TabIn n ∧ News (ghostOf s1.heap [(355, 351)]) s1.heap.objs.size h' n ∧ ∃ m', Fr (ghostOf s1.heap [(355, 351)]) s1.heap.objs.size h' m') (by passes_own) ?hP (fun Q' E' hE' hQ' => ?_)
  case hP =>
    rintro h9 tk9 ⟨n, hT9, N9, m9, F9⟩
    (try dsimp only)
    refine ⟨?_, ?_⟩
    · k_steps
    · obtain ⟨c1t, c2t, oc1, oc2, v1t, v2t, t1t, t2t, hm351, _⟩ := hT9
      exact ⟨⟨_, (N9 _ hm351).1⟩, trivial⟩
  rename Heap.IsList (ghostOf _ _) _ _ => IG
  rename CodeHd (ghostOf _ _) _ _ => CG
  rename @LT.lt Nat _ 351 _ => l351
  generalize ghostOf s1.heap [(355, 351)] = g0 at XG TG FG NG BG IG CG hQ'
  generalize s1.heap.objs.size = L0 at FG NG l351 hE' hQ' ⊢
  k_steps
  rename IntsAre _ (List.take 24 _) => hI
  rename List.length (List.take 24 _) = _ => hlen24
  rename News _ _ _ _ => N1
  unfold OgW
  refine LCg.CompSrc.ledger rfl (by k_asm) N1 (.head _) (size_ok hI (by omega)) (fun g9 => kcf_list (fun z => (if z < 0 then -z else z).fmod (10 ^ (80 : Int).toNat)) hI (fun k t I oI C oC D m₂ ys h tk E' hk hC hx F N off ne mk => ?_) ?_)
  · k_steps
    exact LCg.CompEnd.intro (by k_asm) (by k_asm) _ (fun _ h => h) off (.inr ⟨_, .head _, rfl, _, rfl⟩) ⟨rfl, _, rfl⟩
  · unfold KPfDone LCg.FinA
    intro ys hys D h9 tk9 F9 N9 o9
    generalize hpn : List.map _ (List.take 24 _) = pn at hys
    have hl9 : pn.length ≤ 100 := by rw [← hpn, List.length_map]; omega
    clear hI hpn hlen24
    have N10 := og_sub N9 (b := [(D, listOf (List.toArray ys) ys.length), (351, tabObj #[])]) (fa (.head _) (fa (.tail _ (.tail _ (.head _))) fa0))
    have o1 : @Ne Nat 351 D := o9.2.1
    clear N9 o9 N1
    k_steps
    unfold OgW
    (k_dflt (refine' newDict_K ?k1 ?k2 (TopRead.nolimit (by k_asm)) ?_; (case k1 => k_asm); (case k2 => k_asm); k_whole))
    intro sd h' so F' N' l1 lo' hso _ _ _
    (try k_lt l1)
    (try k_sweep)
    k_steps
    unfold OgW
    (k_dflt (refine' newDict_K ?k1 ?k2 (TopRead.nolimit (by k_asm)) ?_; (case k1 => k_asm); (case k2 => k_asm); k_whole))
    intro md h' mo F' N' l1 lo' hmo _ _ _
    (try k_lt l1)
    (try k_sweep)
    k_steps
    unfold OgW
    (k_dflt (refine' newDict_K ?k1 ?k2 (TopRead.nolimit (by k_asm)) ?_; (case k1 => k_asm); (case k2 => k_asm); k_whole))
    intro ed h' eo F' N' l1 lo' heo _ _ _
    (try k_lt l1)
    (try k_sweep)
    k_steps

    unfold OgW
    rename News _ _ _ _ => NN
    rename Fr _ _ _ _ => FF
    refine' turns_list (σ := S1) (l := nl) (vs := nv) (nn := 0) ?hh (fun g => g = _) (fun c => (D, listOf c.pv.toArray c.pc) :: (md, c.mo) :: (sd, c.so) :: (ed, c.eo) :: (nl, listOf nv.toArray 0) :: (351, tabObj #[]) :: c.tl)
      (fun _ => [(Str.ofString "pool", .ref D), (Str.ofString "names", .ref nl), (Str.ofString "shapes", .ref sd), (Str.ofString "memory", .ref md), (Str.ofString "due", .ref ed)])
      (P1 w D md sd ed nl nms) ⟨vs9, c9, mo, so, eo, [], fun _ => 0, fun _ => 0, fun _ => 0, []⟩ ?hE (fun _ _ _ => by k_mem) ?hg ?hF ?hN ?hk ?hp ?turn ?done
    case hF => exact FF
    case hh => rfl
    case hg => rfl
    case hN => exact og_sub NN (by
      refine sub_cons (by k_mem) (sub_cons (by k_mem) (sub_cons (by k_mem) (sub_cons (by k_mem) (sub_cons (by k_mem) (sub_cons (by k_mem) ?_)))))
      intro _ h; cases h)
    case hE => exact hE'
    case hk =>
      exact fa rfl (fa rfl (fa rfl (fa rfl (fa rfl fa0))))
    case hp => exact ⟨⟨_, hI9, hl9⟩, fun _ => isDict_prog hmo, fun _ => isDict_prog hso, fun _ => isDict_prog heo, rfl, fun _ h => (nomatch h), fun _ h => (nomatch h), fun _ h => (nomatch h), fun _ h => (nomatch h), fun _ h => (nomatch h), fun _ h => (nomatch h), fun _ h => (nomatch h), fun _ h => (nomatch h)⟩
    case turn =>
      clear NN FF hI9 hl9 hso hmo heo
      rintro c i v g h5 tk5 I oI m5 hi hv hP hnI rfl F6 N6
      refine gen_turn fun Q9 hQ9 => ?_
      obtain ⟨nm, tn, hnmi, rfl⟩ := hnm.get i hv
      have hP' := hP
      obtain ⟨⟨pn5, hI5, hl5⟩, hmo0, hso0, heo0, hSn, hwf5, hfit5, of1, of2, of3, of4, of5, of6⟩ := hP'
      refine at_prog hmo0 fun hmo => at_prog hso0 fun hso => at_prog heo0 fun heo => ?_
      clear hmo0 hso0 heo0
      have hS3 : c.S.length ≤ sizeLine := by
        rw [sizeLine_eq, ← List.length_map (f := (·.nm)), hSn, List.length_take]
        omega
      have hz1 : (mpsOf c.S c.us c.mt).length ≤ sizeLine := by unfold mpsOf; rw [List.length_map]; exact hS3
      have hz2 : (spsOf c.S).length ≤ sizeLine := by unfold spsOf; rw [List.length_map]; exact hS3
      have hz3 : (dpsOf c.S c.us c.dt).length ≤ sizeLine := by unfold dpsOf; rw [List.length_map]; exact hS3
      have nI1 : @Ne Nat D I := hnI _ (.head _)
      have nI2 : @Ne Nat md I := hnI _ (.tail _ (.head _))
      have nI3 : @Ne Nat sd I := hnI _ (.tail _ (.tail _ (.head _)))
      have nI4 : @Ne Nat ed I := hnI _ (.tail _ (.tail _ (.tail _ (.head _))))
      k_steps
      unfold OgW
      k_dflt (refine' useSp ?kU ?kI ?kl ?k1 ?k2 ?k3 ?k4 ?k5 ?kK ?kd ?ku ?_; (case k1 => k_asm); (case k2 => k_asm); (case k3 => k_asm); (case k4 => k_asm); (case k5 => k_asm); (case kU => k_updF); (case kI => exact hI5); (case kl => exact hl5); (case kK => first | exact rfl | assumption); (case kd => ktr_room); (case ku => ktr_units); k_whole)
      intro x9 dx9 k9 v9 dg9 sc9 sz9 ug9 sg9 sp9 sd9 vs9 ns9 c9 h9 tk9 wf9 hI9 hl9 l9 l8 F9 N9
      (try dsimp only at N9)
      (try k_lt l9)
      (try k_lt2 l8)
      (try k_sweep)
      (try dsimp only)
      (try k_fold)
      have wf9' := wf9
      obtain ⟨wa9, wb9, wc9, wd9, we9⟩ := wf9'
      obtain ⟨hza9, hzb9⟩ := wf_size wf9
      have p10 : (1 : Int) ≤ 10 ^ dg9.toNat := p10_pos
      k_steps
      all_goals
        refine hQ9 _ _ ?_
        unfold OgPostT
        rename News _ _ _ _ => N9
        have hP1 := P1.step hP hnd ⟨nm, x9, dx9, k9, v9, dg9, sc9, sz9, ug9, sg9, sp9, sd9⟩ hnmi (pc := c9) hI9 hl9 (by assumption) (by assumption) (by assumption) wf9 (by first | exact fit_pos (by assumption) (by assumption) | exact fit_neg (by assumption) (by assumption) (by assumption))
          (by dsimp only; omega) (by dsimp only; omega) (by dsimp only; omega) (by dsimp only; omega) (by dsimp only; omega) (by dsimp only; omega) (by dsimp only; omega)
        refine og_endT _ rfl (by k_asm) N9 (by k_mem) (sub_cons (by k_mem) (sub_cons (by k_mem) (sub_cons (by k_mem) (sub_cons (by k_mem) (sub_cons (by k_mem) (sub_cons (by k_mem) (sub_cons (by k_mem) (sub_cons (by k_mem) (fun p hp => by simp only [List.mem_cons, hp, or_true]))))))))) ?_ ?_ hP1
        · refine fa ?_ (fa ?_ (fa ?_ (fa ?_ (fa ?_ (fa ?_ (fa ?_ (fa ?_ (fun p hp => ?_))))))))
          · exact nI1
          · exact nI2
          · exact nI3
          · exact nI4
          · exact hnI _ (.tail _ (.tail _ (.tail _ (.tail _ (.head _)))))
          · exact hnI _ (.tail _ (.tail _ (.tail _ (.tail _ (.tail _ (.head _))))))
          · (refine neN ?_; (try dsimp only); omega)
          · (refine neN ?_; (try dsimp only); omega)
          · exact hnI _ (.tail _ (.tail _ (.tail _ (.tail _ (.tail _ (.tail _ hp))))))
        · exact fa rfl (fa rfl (fa rfl (fa rfl (fa rfl fa0))))
    case done =>
      clear NN FF hI9 hl9 hso hmo heo
      rintro c g h5 tk5 m5 hP rfl F6 N6
      obtain ⟨⟨pn5, hI5, hl5⟩, hmo0, hso0, heo0, hSn, hwf5, hfit5, of1, of2, of3, of4, of5, of6⟩ := hP
      rw [hnm.length, List.take_length] at hSn
      (try dsimp only)
      k_steps
      unfold OgW
      refine ite_join (-1000000) 1000000 ?_ ?_ fun xw txw tkw hx0 hx1 => ?_
      · k_steps
      · k_steps
      k_steps
      obtain ⟨dw, hdw⟩ : ∃ dw, dw = d9 := ⟨_, rfl⟩
      subst hdw
      have hdw0 : 0 ≤ dw := by omega
      have hdw1 : dw < 7 := by omega
      unfold OgW
      (k_dflt (refine' newList_K ?k1 ?k2 ?_; (case k1 => k_asm); (case k2 => k_asm); k_whole))
      intro rl h' F' N' l1
      (try k_lt l1)
      have orl := ne_tl7 l1
      (try k_sweep)
      k_steps
      unfold OgW
      rename News _ _ _ _ => NN
      rename Fr _ _ _ _ => FF
      have hSnd : (c.S.map (·.nm)).Nodup := by rw [hSn]; exact hnd
      have b351 : @LT.lt Nat _ 351 nl := by omega
      refine' turns_range (σ := S2) (n := (d9 - 0).toNat) ?hh (by assumption) (small_one (by omega) (by omega) (by omega) (by omega)) (rangeSize_nat _ _) (fun g => g = _)
        (fun c2 => (D, listOf c2.pv.toArray c2.pc) :: (rl, listOf (List.toArray (c2.rows.map fun r => Value.ref r.rq)) c2.rc) :: (ed, c2.eo) :: (qw, tup2 (dec xw dw.toNat).1 ((dec xw dw.toNat).2 : Int) tqa tqb) :: (md, c.mo) :: (sd, c.so) :: (nl, listOf nv.toArray 0) :: (351, tabObj #[]) :: c2.tl)
        (fun c2 => [(Str.ofString "pool", .ref D), (Str.ofString "names", .ref nl), (Str.ofString "shapes", .ref sd), (Str.ofString "memory", .ref md), (Str.ofString "due", .ref ed), (Str.ofString "worth", .ref qw), (Str.ofString "rows", .ref rl), (Str.ofString "is_odd", .bool (runR (dec xw dw.toNat).1 ((dec xw dw.toNat).2 : Int) c2.rows c.us).2)])
        (P2 w D rl ed md 351 c.S (dec xw dw.toNat).1 ((dec xw dw.toNat).2 : Int) c.us) ⟨vs9, c9, c.eo, [], 0, c.dt, c.tl⟩ ?hE ?hg ?hF ?hN ?hk ?hp ?turn ?done
      case hF => exact FF
      case hh => rfl
      case hg => rfl
      case hN => exact og_sub NN (sub_cons (by k_mem) (sub_cons (by k_mem) (sub_cons (by k_mem) (sub_cons (by k_mem) (sub_cons (by k_mem) (sub_cons (by k_mem) (sub_cons (by k_mem) (sub_cons (by k_mem) (fun p hp => by simp only [List.mem_cons, hp, or_true])))))))))
      case hE => exact hE'
      case hk =>
        exact fa rfl (fa rfl (fa rfl (fa rfl (fa rfl (fa rfl (fa rfl (fa rfl fa0)))))))
      case hp => exact ⟨⟨_, hI9, hl9⟩, heo0, rfl, fun _ h => (nomatch h), hwf5, hfit5, of1, orl, of4, of2, of6⟩
      case turn =>
        clear NN FF hI9 hl9
        rintro c2 i v g h5 tk5 I oI m5 hi ⟨tv, rfl⟩ hP hnI rfl F6 N6
        refine gen_turn fun Q9 hQ9 => ?_
        have hP' := hP
        obtain ⟨⟨pn6, hI6, hl6⟩, heo1, hrl6, hrows6, hwf6, hfit6, oa1, oa2, oa3, oa4, oa5⟩ := hP'
        refine at_prog heo1 fun heo => at_prog hso0 fun hso => ?_
        have nI1 : @Ne Nat D I := hnI _ (.head _)
        have nI2 : @Ne Nat rl I := hnI _ (.tail _ (.head _))
        have nI3 : @Ne Nat ed I := hnI _ (.tail _ (.tail _ (.head _)))
        have hzd : (dpsOf c.S (runR (dec xw dw.toNat).1 ((dec xw dw.toNat).2 : Int) c2.rows c.us).1 c2.dt).length ≤ sizeLine := by
          unfold dpsOf
          rw [List.length_map, sizeLine_eq, ← List.length_map (f := (·.nm)), hSn]
          omega
        have hzr : (List.toArray (c2.rows.map fun r => Value.ref r.rq)).size ≤ sizeLine := by
          rw [sizeLine_eq, List.size_toArray, List.length_map, hrl6]
          omega
        k_steps
        unfold OgW
        (k_dflt (refine' og_nameAt ?oN ?ol hnm ?o0 ?o1 hn3 ?_; (case oN => k_asm); (case ol => k_mem); (case o0 => first | exact Int.fmod_nonneg_of_pos _ (by omega) | exact Int.emod_nonneg _ (by omega)); (case o1 => first | exact Int.fmod_lt_of_pos _ (by omega) | exact Int.emod_lt_of_pos _ (by omega)); k_whole))
        intro nm2 tn2 hnm2
        obtain ⟨r, hrS, hrn⟩ : ∃ r ∈ c.S, r.nm = nm2 := by
          rw [← hSn, List.getElem?_map] at hnm2
          obtain ⟨r, e1, e2⟩ := Option.map_eq_some_iff.mp hnm2
          exact ⟨r, List.mem_of_getElem? e1, e2⟩
        clear hnm2
        subst hrn
        have hv1 : valueAt (dpsOf c.S (runR (dec xw dw.toNat).1 ((dec xw dw.toNat).2 : Int) c2.rows c.us).1 c2.dt) r.nm = some (.int ((runR (dec xw dw.toNat).1 ((dec xw dw.toNat).2 : Int) c2.rows c.us).1 r.nm) (c2.dt r.nm)) := by
          unfold dpsOf
          exact value_map (f := fun r => Value.int ((runR (dec xw dw.toNat).1 ((dec xw dw.toNat).2 : Int) c2.rows c.us).1 r.nm) (c2.dt r.nm)) hSnd hrS
        have hv2 : valueAt (spsOf c.S) r.nm = some (.ref r.x) := by
          unfold spsOf
          exact value_map (f := fun r => Value.ref r.x) hSnd hrS
        obtain ⟨wfr, hrx, hrd⟩ := hwf6 r hrS
        (try k_sweep)
        k_steps
        unfold OgW
        (k_dflt (refine' item5 ?ot ?o0 ?o1 ?_; (case ot => exact News.isTup (by k_asm) (by k_mem)); (case o0 => omega); (case o1 => omega); k_whole))
        intro tw5
        generalize hwy : d9.toNat = wy
        have hwy5 : wy < 5 := by omega
        (try k_sweep)
        k_steps
        unfold OgW
        rename News _ _ _ _ => NR
        k_dflt (refine' useR ?kC ?k1 ?k2 ?k3 NR ?k5 ?kK ?kd ?ku ?_; (case k1 => k_asm); (case k2 => k_asm); (case k3 => k_asm); (case k5 => k_asm); (case kC => exact rowAny w _ r ⟨by k_mem, by k_mem⟩ wfr qw _ _ _ _ (by k_mem) _ _ _ _ wy hwy5 (by omega) (Int.le_trans dec_le (by omega)) (fit_bits (hfit6 r hrS) wfr.2.1) (dec_bits hx0 hx1)); (case kK => first | exact rfl | assumption); (case kd => ktr_room); (case ku => ktr_units); k_whole)
        rintro rv n h9 tk9 ⟨hrv, rfl⟩ F9 N9
        clear NR
        generalize ho : rowRes r _ _ _ wy _ = o at hrv
        (try k_sweep)
        (try dsimp only)
        (try k_fold)
        rcases o with _ | v
        · obtain rfl := hrv
          k_steps
          all_goals
            refine hQ9 _ _ ?_
            unfold OgPostT
            rename News _ _ _ _ => N9
            refine' og_endT _ rfl ?eF N9 ?eI ?eS ?eN ?eK (P2.step hP hSnd ⟨rq, rf, r, _, wy, _, tn2, tw5⟩ hrS hwy5 (pc := c9) (rc := c2.rc + 1) (td := 0) ho hI9 hl9 ?eH (by dsimp only; omega) (by dsimp only; omega) (by dsimp only; omega) (by dsimp only; omega) (by dsimp only; omega) (by dsimp only; omega))
            case eF => k_asm
            case eI => k_mem
            case eH => assumption
            case eS => exact sub_cons (by k_mem) (sub_cons (by rw [← rows_push]; k_mem) (sub_cons (by k_mem) (sub_cons (by k_mem) (sub_cons (by k_mem) (sub_cons (by k_mem) (sub_cons (by k_mem) (sub_cons (by k_mem) (sub_cons (by k_mem) (sub_cons (by k_mem) (fun p hp => by simp only [List.mem_cons, hp, or_true]))))))))))
            case eN =>
              refine fa ?_ (fa ?_ (fa ?_ (fa ?_ (fa ?_ (fa ?_ (fa ?_ (fa ?_ (fa ?_ (fa ?_ (fun p hp => ?_))))))))))
              · exact nI1
              · exact nI2
              · exact nI3
              · exact hnI _ (.tail _ (.tail _ (.tail _ (.head _))))
              · exact hnI _ (.tail _ (.tail _ (.tail _ (.tail _ (.head _)))))
              · exact hnI _ (.tail _ (.tail _ (.tail _ (.tail _ (.tail _ (.head _))))))
              · exact hnI _ (.tail _ (.tail _ (.tail _ (.tail _ (.tail _ (.tail _ (.head _)))))))
              · exact hnI _ (.tail _ (.tail _ (.tail _ (.tail _ (.tail _ (.tail _ (.tail _ (.head _))))))))
              · (refine neN ?_; (try dsimp only); omega)
              · (refine neN ?_; (try dsimp only); omega)
              · exact hnI _ (.tail _ (.tail _ (.tail _ (.tail _ (.tail _ (.tail _ (.tail _ (.tail _ hp))))))))
            case eK =>
              refine fa ?_ (fa ?_ (fa ?_ (fa ?_ (fa ?_ (fa ?_ (fa ?_ (fa ?_ fa0)))))))
              · rfl
              · rfl
              · rfl
              · rfl
              · rfl
              · rfl
              · rfl
              · dsimp only
                rw [odd_none]
                · first | rfl | exact congrArg (fun b => some (Value.bool b)) (by assumption) | exact congrArg (fun b => some (Value.bool b)) (Eq.symm (by assumption))
                · exact ho
        · obtain ⟨tv9, rfl⟩ := hrv
          k_steps
          all_goals
            refine hQ9 _ _ ?_
            unfold OgPostT
            rename News _ _ _ _ => N9
            refine' og_endT _ rfl ?eF N9 ?eI ?eS ?eN ?eK (P2.step hP hSnd ⟨rq, rf, r, _, wy, _, tn2, tw5⟩ hrS hwy5 (pc := c9) (rc := c2.rc + 1) (td := tv9) ho hI9 hl9 ?eH (by dsimp only; omega) (by dsimp only; omega) (by dsimp only; omega) (by dsimp only; omega) (by dsimp only; omega) (by dsimp only; omega))
            case eF => k_asm
            case eI => k_mem
            case eH => assumption
            case eS => exact sub_cons (by k_mem) (sub_cons (by rw [← rows_push]; k_mem) (sub_cons (by k_mem) (sub_cons (by k_mem) (sub_cons (by k_mem) (sub_cons (by k_mem) (sub_cons (by k_mem) (sub_cons (by k_mem) (sub_cons (by k_mem) (sub_cons (by k_mem) (fun p hp => by simp only [List.mem_cons, hp, or_true]))))))))))
            case eN =>
              refine fa ?_ (fa ?_ (fa ?_ (fa ?_ (fa ?_ (fa ?_ (fa ?_ (fa ?_ (fa ?_ (fa ?_ (fun p hp => ?_))))))))))
              · exact nI1
              · exact nI2
              · exact nI3
              · exact hnI _ (.tail _ (.tail _ (.tail _ (.head _))))
              · exact hnI _ (.tail _ (.tail _ (.tail _ (.tail _ (.head _)))))
              · exact hnI _ (.tail _ (.tail _ (.tail _ (.tail _ (.tail _ (.head _))))))
              · exact hnI _ (.tail _ (.tail _ (.tail _ (.tail _ (.tail _ (.tail _ (.head _)))))))
              · exact hnI _ (.tail _ (.tail _ (.tail _ (.tail _ (.tail _ (.tail _ (.tail _ (.head _))))))))
              · (refine neN ?_; (try dsimp only); omega)
              · (refine neN ?_; (try dsimp only); omega)
              · exact hnI _ (.tail _ (.tail _ (.tail _ (.tail _ (.tail _ (.tail _ (.tail _ (.tail _ hp))))))))
            case eK =>
              refine fa ?_ (fa ?_ (fa ?_ (fa ?_ (fa ?_ (fa ?_ (fa ?_ (fa ?_ fa0)))))))
              · rfl
              · rfl
              · rfl
              · rfl
              · rfl
              · rfl
              · rfl
              · dsimp only
                rw [odd_some]
                · first | rfl | exact congrArg (fun b => some (Value.bool b)) (by assumption) | exact congrArg (fun b => some (Value.bool b)) (Eq.symm (by assumption))
                · exact ho
      case done =>
        clear NN FF hI9 hl9
        rintro c2 g h5 tk5 m5 hP rfl F6 N6
        obtain ⟨⟨pn6, hI6, hl6⟩, heo1, hrl6, hrows6, hwf6, hfit6, oa1, oa2, oa3, oa4, oa5⟩ := hP
        (try dsimp only)
        k_steps
        unfold OgW
        rename News _ _ _ _ => NR
        k_dflt (refine' useS0 (lreck1_spec w ((D, listOf c2.pv.toArray c2.pc) :: (rl, listOf (List.toArray (c2.rows.map fun r => Value.ref r.rq)) c2.rc) :: (ed, c2.eo) :: (qw, tup2 (dec xw dw.toNat).1 ((dec xw dw.toNat).2 : Int) tqa tqb) :: (sd, c.so) :: (nl, listOf nv.toArray 0) :: c2.tl) md sd qw rl c.mo c.so _ c.S c2.rows tqa tqb _ _ c.us c.mt hSnd ?c3 ?cw ?cr ?cO (by k_mem) (by k_mem) (by k_mem) hmo0 hso0 ?cn hfit5 (Int.natCast_nonneg _) (Int.le_trans dec_le (by omega)) (dec_bits hx0 hx1) ?cm ?ct) ?k1 ?k2 ?k3 ?k4 ?k5 ?kK ?kd ?ku ?k6 TG ?_)
        case c3 =>
          rw [← List.length_map (f := (·.nm)), hSn]
          exact hn3
        case cw =>
          intro r hr
          obtain ⟨a, b1, b2⟩ := hwf6 r hr
          exact ⟨a, by k_mem, by k_mem⟩
        case cr =>
          intro r hr
          obtain ⟨a, b, b1, b2⟩ := hrows6 r hr
          exact ⟨a, b, by k_mem, by k_mem⟩
        case cO => first | exact .inl ⟨_, rfl⟩ | exact .inl rfl | exact .inr rfl
        case cn =>
          refine fa ?_ (fa ?_ (fa ?_ (fa ?_ (fa ?_ (fa ?_ (fun p hp => ?_))))))
          · (refine neN ?_; (try dsimp only); omega)
          · (refine neN ?_; (try dsimp only); omega)
          · (refine neN ?_; (try dsimp only); omega)
          · (refine neN ?_; (try dsimp only); omega)
          · (refine neN ?_; (try dsimp only); omega)
          · (refine neN ?_; (try dsimp only); omega)
          · exact oa4 p hp
        case ct =>
          refine fa ?_ (fa ?_ (fa ?_ (fa ?_ (fa ?_ (fa ?_ (fun p hp => ?_))))))
          · (refine neN ?_; (try dsimp only); omega)
          · (refine neN ?_; (try dsimp only); omega)
          · (refine neN ?_; (try dsimp only); omega)
          · (refine neN ?_; (try dsimp only); omega)
          · (refine neN ?_; (try dsimp only); omega)
          · (refine neN ?_; (try dsimp only); omega)
          · exact oa5 p hp
        case cm => (refine neN ?_; omega)
        case k4 =>
          refine og_sub NR (sub_cons (by k_mem) (sub_cons (by k_mem) (sub_cons (by k_mem) (sub_cons (by k_mem) (sub_cons (by k_mem) (sub_cons (by k_mem) (sub_cons (by k_mem) (sub_cons (by k_mem) (fun p hp => by simp only [List.mem_cons, hp, or_true])))))))))
        case k1 => k_asm
        case k2 => k_asm
        case k3 => k_asm
        case k5 => k_asm
        case k6 => k_asm
        case kK => rfl
        case kd => ktr_room
        case ku => ktr_units
        rintro rv n h9 tk9 ⟨t5, hT5, rfl, mo9, tkm, rfl, hmo9⟩ F9 N9
        clear NR
        generalize hus : runR _ _ c2.rows c.us = st at F9 hmo9 heo1 hfit6 ⊢
        obtain ⟨us9, odd9⟩ := st
        have NT := og_sub N9 (b := (md, mo9) :: (ed, c2.eo) :: (sd, c.so) :: (nl, listOf nv.toArray 0) :: (t5 ++ c2.tl)) (sub_cons (by k_mem) (sub_cons (by simp) (sub_cons (by simp) (sub_cons (by simp) (fun p hp => by
          rcases List.mem_append.mp hp with h | h <;> simp [h])))))
        have hT9 : TabIn (t5 ++ c2.tl) := hT5.mono fun p hp => List.mem_append_left _ hp
        have hwf9 : ∀ r ∈ c.S, r.Wf ∧ r.In w (t5 ++ c2.tl) := fun r hr => ⟨(hwf6 r hr).1, List.mem_append_right _ (hwf6 r hr).2.1, List.mem_append_right _ (hwf6 r hr).2.2⟩
        clear N9
        generalize t5 ++ c2.tl = tl9 at NT hT9 hwf9
        clear hus hT5
        (try k_sweep)
        (try dsimp only)
        (try k_fold)
        k_steps
        unfold OgW
        refine ne_same ?_
        k_steps
        unfold OgW
        rename Fr _ _ _ _ => FF
        refine' turns_list (σ := Unit) (l := nl) (vs := nv) (nn := 0) ?hh (fun g => g = _) (fun _ => (md, mo9) :: (ed, c2.eo) :: (sd, c.so) :: (nl, listOf nv.toArray 0) :: tl9)
          (fun _ => [(Str.ofString "shapes", .ref sd), (Str.ofString "memory", .ref md), (Str.ofString "due", .ref ed)])
          (fun _ _ => True) () ?hE (fun _ _ _ => by k_mem) ?hg ?hF ?hN ?hk trivial ?turn ?done
        case hF => exact FF
        case hh => rfl
        case hg => rfl
        case hN => exact NT
        case hE => exact hE'
        case hk =>
          exact fa rfl (fa rfl (fa rfl fa0))
        case turn =>
          clear NT FF
          rintro - i v g h5 tk5 I oI m5 hi hv - hnI rfl F6 N6
          refine gen_turn fun Q9 hQ9 => ?_
          obtain ⟨nm, tn, hnmi, rfl⟩ := hnm.get i hv
          refine at_prog hmo9 fun hmo => at_prog hso0 fun hso => at_prog heo1 fun heo => ?_
          obtain ⟨r, hrS, hrn⟩ : ∃ r ∈ c.S, r.nm = nm := by
            rw [← hSn, List.getElem?_map] at hnmi
            obtain ⟨r, e1, e2⟩ := Option.map_eq_some_iff.mp hnmi
            exact ⟨r, List.mem_of_getElem? e1, e2⟩
          clear hnmi
          subst hrn
          dsimp only at hmo heo hfit6
          have hv1 : valueAt (dpsOf c.S us9 c2.dt) r.nm = some (.int (us9 r.nm) (c2.dt r.nm)) := by
            unfold dpsOf
            exact value_map (f := fun r => Value.int (us9 r.nm) (c2.dt r.nm)) hSnd hrS
          have hv2 : valueAt (spsOf c.S) r.nm = some (.ref r.x) := by
            unfold spsOf
            exact value_map (f := fun r => Value.ref r.x) hSnd hrS
          have hv3 : valueAt (mpsOf c.S us9 tkm) r.nm = some (.bytes (byteArr (octS r.digits r.size r.usage r.sign r.sep r.signed (us9 r.nm))) (tkm r.nm)) := by
            unfold mpsOf
            exact value_map (f := fun r => Value.bytes (byteArr (r.oct (us9 r.nm))) (tkm r.nm)) hSnd hrS
          obtain ⟨wfr, hrx, hrd⟩ := hwf9 r hrS
          have hfr := hfit6 r hrS
          have wfr' := wfr
          obtain ⟨wa9, wb9, wc9, wd9, we9⟩ := wfr'
          obtain ⟨hof1, hof2⟩ := octS_facts (sign := r.sign) wfr hfr
          obtain ⟨hza9, hzb9⟩ := wf_size wfr
          k_steps
          refine hQ9 _ _ ?_
          unfold OgPostT
          rename News _ _ _ _ => N9
          refine og_endT () rfl (by k_asm) N9 (by k_mem) (fun p hp => .tail _ (.tail _ (.tail _ hp))) hnI ?_ trivial
          exact fa rfl (fa rfl (fa rfl fa0))
        case done =>
          clear NT FF
          rintro - g h5 tk5 m5 - rfl F6 N6
          (try dsimp only)
          k_steps
          unfold OgW
          rename News _ _ _ _ => NR
          k_dflt (refine' useS0 (table_spec w tl9 hT9) ?k1 ?k2 ?k3 (og_sub NR fun p hp => by simp only [List.mem_cons, hp, or_true]) ?k5 ?kK ?kd ?ku ?k6 TG ?_)
          case k1 => k_asm
          case k2 => k_asm
          case k3 => k_asm
          case k5 => k_asm
          case k6 => k_asm
          case kK => rfl
          case kd => ktr_room
          case ku => ktr_units
          rintro rv n h9 tk9 ⟨rfl, rfl⟩ F9 N9
          clear NR
          (try k_sweep)
          (try dsimp only)
          exact hQ' _ _ ⟨_, hT9, N9, _, F9⟩
end SOgM1
end LinesAll
end EarlyAll
end NcAll
end Mine
theorem PySem.Challenge.cw_og0090_01_holds : PySem.Challenge.rw_og0090_01.Holds := by
  exact Mine.lawX
