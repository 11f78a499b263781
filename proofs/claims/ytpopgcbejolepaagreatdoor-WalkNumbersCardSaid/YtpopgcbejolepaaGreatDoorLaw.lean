/- The deterministic evaluator D and what is proved with it, part Law of the claim on YtpopgcbejolepaaGreatDoor. -/
import Derived.Test.YtpopgcbejolepaaGreatDoorSym
import Derived.Test.YtpopgcbejolepaaGreatDoorRunN0000
import Derived.Test.YtpopgcbejolepaaGreatDoorRunN0010
import Derived.Test.YtpopgcbejolepaaGreatDoorRunN0020
import Derived.Test.YtpopgcbejolepaaGreatDoorRunN0120
import Derived.Test.YtpopgcbejolepaaGreatDoorRunN1000
import Derived.Test.YtpopgcbejolepaaGreatDoorRunN1100
import Derived.Test.YtpopgcbejolepaaGreatDoorRunN1110
import Derived.Test.YtpopgcbejolepaaGreatDoorRunN1120
import Derived.Test.YtpopgcbejolepaaGreatDoorRunZ00
import Derived.Test.YtpopgcbejolepaaGreatDoorRunZ01
import Derived.Test.YtpopgcbejolepaaGreatDoorRunZ10
import Derived.Test.YtpopgcbejolepaaGreatDoorRunZ11
import Derived.Test.YtpopgcbejolepaaGreatDoorRunZ20
import Derived.Test.YtpopgcbejolepaaGreatDoorRunZ21
set_option maxRecDepth 1000000
noncomputable section
namespace Ds.Text
def memo_N000 : List (List AV × AV) := [([.str (srcS (.lit h_N000_0) tl_N000_0), .nils], v_N000_0)]
theorem law_N000 : okIs' (callF (mkE (knL fl_N000) (funsL memo_N000 manc)) 300 3 [(.int .i64 (.var 0)), (.int .i64 (.var 1))] emptyH) (.bool true) = true := by decide +kernel
def memo_N001 : List (List AV × AV) := [([.str (srcS (.lit h_N001_0) tl_N001_0), .nils], v_N001_0)]
theorem law_N001 : okIs' (callF (mkE (knL fl_N001) (funsL memo_N001 manc)) 300 3 [(.int .i64 (.var 0)), (.int .i64 (.var 1))] emptyH) (.bool true) = true := by decide +kernel
def memo_N002 : List (List AV × AV) := [([.str (srcS (.lit h_N002_0) tl_N002_0), .nils], v_N002_0)]
theorem law_N002 : okIs' (callF (mkE (knL fl_N002) (funsL memo_N002 manc)) 300 3 [(.int .i64 (.var 0)), (.int .i64 (.var 1))] emptyH) (.bool true) = true := by decide +kernel
def memo_N012 : List (List AV × AV) := [([.str (srcS (.lit h_N012_0) tl_N012_0), .nils], v_N012_0)]
theorem law_N012 : okIs' (callF (mkE (knL fl_N012) (funsL memo_N012 manc)) 300 3 [(.int .i64 (.var 0)), (.int .i64 (.var 1))] emptyH) (.bool true) = true := by decide +kernel
def memo_N100 : List (List AV × AV) := [([.str (srcS (.lit h_N100_0) tl_N100_0), .nils], v_N100_0)]
theorem law_N100 : okIs' (callF (mkE (knL fl_N100) (funsL memo_N100 manc)) 300 3 [(.int .i64 (.var 0)), (.int .i64 (.var 1))] emptyH) (.bool true) = true := by decide +kernel
def memo_N110 : List (List AV × AV) := [([.str (srcS (.lit h_N110_0) tl_N110_0), .nils], v_N110_0)]
theorem law_N110 : okIs' (callF (mkE (knL fl_N110) (funsL memo_N110 manc)) 300 3 [(.int .i64 (.var 0)), (.int .i64 (.var 1))] emptyH) (.bool true) = true := by decide +kernel
def memo_N111 : List (List AV × AV) := [([.str (srcS (.lit h_N111_0) tl_N111_0), .nils], v_N111_0)]
theorem law_N111 : okIs' (callF (mkE (knL fl_N111) (funsL memo_N111 manc)) 300 3 [(.int .i64 (.var 0)), (.int .i64 (.var 1))] emptyH) (.bool true) = true := by decide +kernel
def memo_N112 : List (List AV × AV) := [([.str (srcS (.lit h_N112_0) tl_N112_0), .nils], v_N112_0)]
theorem law_N112 : okIs' (callF (mkE (knL fl_N112) (funsL memo_N112 manc)) 300 3 [(.int .i64 (.var 0)), (.int .i64 (.var 1))] emptyH) (.bool true) = true := by decide +kernel
def memo_Z0 : List (List AV × AV) := [([.str (srcS (.lit h_Z0_0) tl_Z0_0), .nils], v_Z0_0), ([.str (srcS (.lit h_Z0_1) tl_Z0_1), .nils], v_Z0_1)]
theorem law_Z0 : okIs' (callF (mkE (knL fl_Z0) (funsL memo_Z0 manc)) 300 3 [(.int .i64 (.var 0)), (.int .i64 (.lit (.ofNat 0)))] emptyH) (.bool true) = true := by decide +kernel
def memo_Z1 : List (List AV × AV) := [([.str (srcS (.lit h_Z1_0) tl_Z1_0), .nils], v_Z1_0), ([.str (srcS (.lit h_Z1_1) tl_Z1_1), .nils], v_Z1_1)]
theorem law_Z1 : okIs' (callF (mkE (knL fl_Z1) (funsL memo_Z1 manc)) 300 3 [(.int .i64 (.var 0)), (.int .i64 (.lit (.ofNat 0)))] emptyH) (.bool true) = true := by decide +kernel
def memo_Z2 : List (List AV × AV) := [([.str (srcS (.lit h_Z2_0) tl_Z2_0), .nils], v_Z2_0), ([.str (srcS (.lit h_Z2_1) tl_Z2_1), .nils], v_Z2_1)]
theorem law_Z2 : okIs' (callF (mkE (knL fl_Z2) (funsL memo_Z2 manc)) 300 3 [(.int .i64 (.var 0)), (.int .i64 (.lit (.ofNat 0)))] emptyH) (.bool true) = true := by decide +kernel
def fl_B0 : List (Cond × Bool) := [(.lti (.lit (.ofNat 999999999999999999)) (.var 0), true)]
def memo_B0 : List (List AV × AV) := []
theorem law_B0 : okIs' (callF (mkE (knL fl_B0) (funsL memo_B0 manc)) 300 3 [(.int .i64 (.var 0)), (.int .i64 (.var 1))] emptyH) (.bool true) = true := by decide +kernel
def fl_B1 : List (Cond × Bool) := [(.lti (.lit (.ofNat 999999999999999999)) (.var 0), false), (.lti (.var 0) (.lit (.negSucc 999999999999999998)), true)]
def memo_B1 : List (List AV × AV) := []
theorem law_B1 : okIs' (callF (mkE (knL fl_B1) (funsL memo_B1 manc)) 300 3 [(.int .i64 (.var 0)), (.int .i64 (.var 1))] emptyH) (.bool true) = true := by decide +kernel
def fl_B2 : List (Cond × Bool) := [(.lti (.lit (.ofNat 999999999999999999)) (.var 0), false), (.lti (.var 0) (.lit (.negSucc 999999999999999998)), false), (.lti (.lit (.ofNat 999999999999999999)) (.var 1), true)]
def memo_B2 : List (List AV × AV) := []
theorem law_B2 : okIs' (callF (mkE (knL fl_B2) (funsL memo_B2 manc)) 300 3 [(.int .i64 (.var 0)), (.int .i64 (.var 1))] emptyH) (.bool true) = true := by decide +kernel
def fl_B3 : List (Cond × Bool) := [(.lti (.lit (.ofNat 999999999999999999)) (.var 0), false), (.lti (.var 0) (.lit (.negSucc 999999999999999998)), false), (.lti (.lit (.ofNat 999999999999999999)) (.var 1), false), (.lti (.var 1) (.lit (.negSucc 999999999999999998)), true)]
def memo_B3 : List (List AV × AV) := []
theorem law_B3 : okIs' (callF (mkE (knL fl_B3) (funsL memo_B3 manc)) 300 3 [(.int .i64 (.var 0)), (.int .i64 (.var 1))] emptyH) (.bool true) = true := by decide +kernel
end Ds.Text
end
set_option maxRecDepth 1000000
noncomputable section
namespace Ds.Text
theorem law_walk (a b : Int) (ha : -9223372036854775808 ≤ a ∧ a ≤ 9223372036854775807) (hb : -9223372036854775808 ≤ b ∧ b ≤ 9223372036854775807) (w : Go.World) (hw : 4 ≤ w.heap.size) (ht : Go.Lib.TabIs prog w "internal/strconv.uint64pow10" .u64 Go.Lib.pow10Tab) : Go.Calls prog 3 #[.int .i64 a, .int .i64 b] w (fun e w' => e = .returned (.bool true) ∧ ∀ may, Go.World.keptBut w w' may) := by
  obtain ⟨fx, hfx, hfw⟩ := fix_of_tab ht
  have hr := vals2_rng ha hb
  by_cases c1 : (999999999999999999 : Int) < a
  · exact (have hf : FactsL (vals2 a b) fl_B0 := f_cons (decide_eq_true (show ((999999999999999999 : Int) < a) by omega)) (f_nil)
        leaf hfx hfw hw hr (memo := memo_B0) hf (t_nil) law_B0 (fun ρ => (.cons _ _ _ _ (.int .i64 (.var 0) a trivial rfl) (.cons _ _ _ _ (.int .i64 (.var 1) b trivial rfl) .nil))))
  by_cases c2 : a < (-999999999999999999 : Int)
  · exact (have hf : FactsL (vals2 a b) fl_B1 := f_cons (decide_eq_false (show ¬ ((999999999999999999 : Int) < a) by omega)) (f_cons (decide_eq_true (show (a < (-999999999999999999 : Int)) by omega)) (f_nil))
        leaf hfx hfw hw hr (memo := memo_B1) hf (t_nil) law_B1 (fun ρ => (.cons _ _ _ _ (.int .i64 (.var 0) a trivial rfl) (.cons _ _ _ _ (.int .i64 (.var 1) b trivial rfl) .nil))))
  by_cases c3 : (999999999999999999 : Int) < b
  · exact (have hf : FactsL (vals2 a b) fl_B2 := f_cons (decide_eq_false (show ¬ ((999999999999999999 : Int) < a) by omega)) (f_cons (decide_eq_false (show ¬ (a < (-999999999999999999 : Int)) by omega)) (f_cons (decide_eq_true (show ((999999999999999999 : Int) < b) by omega)) (f_nil)))
        leaf hfx hfw hw hr (memo := memo_B2) hf (t_nil) law_B2 (fun ρ => (.cons _ _ _ _ (.int .i64 (.var 0) a trivial rfl) (.cons _ _ _ _ (.int .i64 (.var 1) b trivial rfl) .nil))))
  by_cases c4 : b < (-999999999999999999 : Int)
  · exact (have hf : FactsL (vals2 a b) fl_B3 := f_cons (decide_eq_false (show ¬ ((999999999999999999 : Int) < a) by omega)) (f_cons (decide_eq_false (show ¬ (a < (-999999999999999999 : Int)) by omega)) (f_cons (decide_eq_false (show ¬ ((999999999999999999 : Int) < b) by omega)) (f_cons (decide_eq_true (show (b < (-999999999999999999 : Int)) by omega)) (f_nil))))
        leaf hfx hfw hw hr (memo := memo_B3) hf (t_nil) law_B3 (fun ρ => (.cons _ _ _ _ (.int .i64 (.var 0) a trivial rfl) (.cons _ _ _ _ (.int .i64 (.var 1) b trivial rfl) .nil))))
  by_cases z : b = 0
  · skip
    by_cases d1 : a < 0
    · exact (have hf : FactsL (vals2 a b) fl_Z0 := f_cons (decide_eq_false (show ¬ ((999999999999999999 : Int) < a) by omega)) (f_cons (decide_eq_false (show ¬ (a < (-999999999999999999 : Int)) by omega)) (f_cons (decide_eq_true (show (a < (0 : Int)) by omega)) (f_cons (decide_eq_false (show ¬ ((0 : Int) < a) by omega)) (f_cons (decide_eq_false (show ¬ (a = (0 : Int)) by omega)) (f_nil)))))
          leaf hfx hfw hw hr (memo := memo_Z0) hf (t_cons (told_src (h := h_Z0_0) (tl := tl_Z0_0) (fl := fl_Z0) hfx hr hf rfl (by decide +kernel) (by decide +kernel) (n_cons (n_neg (show (-1000000000000000000 : Int) < a ∧ a ≤ 0 by omega)) (n_nil)) (by decide +kernel) (by decide +kernel) run_Z0_0) (t_cons (told_src (h := h_Z0_1) (tl := tl_Z0_1) (fl := fl_Z0) hfx hr hf rfl (by decide +kernel) (by decide +kernel) (n_cons (n_neg (show (-1000000000000000000 : Int) < a ∧ a ≤ 0 by omega)) (n_nil)) (by decide +kernel) (by decide +kernel) run_Z0_1) (t_nil))) law_Z0 (fun ρ => (.cons _ _ _ _ (.int .i64 (.var 0) a trivial rfl) (.cons _ _ _ _ (.int .i64 (.lit (.ofNat 0)) b trivial z) .nil))))
    by_cases d2 : a = 0
    · exact (have hf : FactsL (vals2 a b) fl_Z1 := f_cons (decide_eq_false (show ¬ ((999999999999999999 : Int) < a) by omega)) (f_cons (decide_eq_false (show ¬ (a < (-999999999999999999 : Int)) by omega)) (f_cons (decide_eq_false (show ¬ (a < (0 : Int)) by omega)) (f_cons (decide_eq_false (show ¬ ((0 : Int) < a) by omega)) (f_cons (decide_eq_true (show (a = (0 : Int)) by omega)) (f_nil)))))
          leaf hfx hfw hw hr (memo := memo_Z1) hf (t_cons (told_src (h := h_Z1_0) (tl := tl_Z1_0) (fl := fl_Z1) hfx hr hf rfl (by decide +kernel) (by decide +kernel) (n_cons ((show (0 : Int) ≤ a ∧ a < 1000000000000000000 by omega)) (n_nil)) (by decide +kernel) (by decide +kernel) run_Z1_0) (t_cons (told_src (h := h_Z1_1) (tl := tl_Z1_1) (fl := fl_Z1) hfx hr hf rfl (by decide +kernel) (by decide +kernel) (n_cons ((show (0 : Int) ≤ a ∧ a < 1000000000000000000 by omega)) (n_nil)) (by decide +kernel) (by decide +kernel) run_Z1_1) (t_nil))) law_Z1 (fun ρ => (.cons _ _ _ _ (.int .i64 (.var 0) a trivial rfl) (.cons _ _ _ _ (.int .i64 (.lit (.ofNat 0)) b trivial z) .nil))))
    exact (have hf : FactsL (vals2 a b) fl_Z2 := f_cons (decide_eq_false (show ¬ ((999999999999999999 : Int) < a) by omega)) (f_cons (decide_eq_false (show ¬ (a < (-999999999999999999 : Int)) by omega)) (f_cons (decide_eq_false (show ¬ (a < (0 : Int)) by omega)) (f_cons (decide_eq_true (show ((0 : Int) < a) by omega)) (f_cons (decide_eq_false (show ¬ (a = (0 : Int)) by omega)) (f_nil)))))
          leaf hfx hfw hw hr (memo := memo_Z2) hf (t_cons (told_src (h := h_Z2_0) (tl := tl_Z2_0) (fl := fl_Z2) hfx hr hf rfl (by decide +kernel) (by decide +kernel) (n_cons ((show (0 : Int) ≤ a ∧ a < 1000000000000000000 by omega)) (n_nil)) (by decide +kernel) (by decide +kernel) run_Z2_0) (t_cons (told_src (h := h_Z2_1) (tl := tl_Z2_1) (fl := fl_Z2) hfx hr hf rfl (by decide +kernel) (by decide +kernel) (n_cons ((show (0 : Int) ≤ a ∧ a < 1000000000000000000 by omega)) (n_nil)) (by decide +kernel) (by decide +kernel) run_Z2_1) (t_nil))) law_Z2 (fun ρ => (.cons _ _ _ _ (.int .i64 (.var 0) a trivial rfl) (.cons _ _ _ _ (.int .i64 (.lit (.ofNat 0)) b trivial z) .nil))))
  by_cases d1 : a < 0
  · by_cases d2 : b < 0
    · by_cases d3 : a < b
      · exact (have hf : FactsL (vals2 a b) fl_N110 := f_cons (decide_eq_false (show ¬ ((999999999999999999 : Int) < a) by omega)) (f_cons (decide_eq_false (show ¬ (a < (-999999999999999999 : Int)) by omega)) (f_cons (decide_eq_true (show (a < (0 : Int)) by omega)) (f_cons (decide_eq_false (show ¬ ((999999999999999999 : Int) < b) by omega)) (f_cons (decide_eq_false (show ¬ (b < (-999999999999999999 : Int)) by omega)) (f_cons (decide_eq_true (show (b < (0 : Int)) by omega)) (f_cons (decide_eq_false (show ¬ (b = (0 : Int)) by omega)) (f_cons (decide_eq_true (show (a < b) by omega)) (f_cons (decide_eq_false (show ¬ (b < a) by omega)) (f_cons (decide_eq_false (show ¬ (a = b) by omega)) (f_nil))))))))))
            leaf hfx hfw hw hr (memo := memo_N110) hf (t_cons (told_src (h := h_N110_0) (tl := tl_N110_0) (fl := fl_N110) hfx hr hf rfl (by decide +kernel) (by decide +kernel) (n_cons (n_neg (show (-1000000000000000000 : Int) < a ∧ a ≤ 0 by omega)) (n_cons (n_neg (show (-1000000000000000000 : Int) < b ∧ b ≤ 0 by omega)) (n_nil))) (by decide +kernel) (by decide +kernel) run_N110_0) (t_nil)) law_N110 (fun ρ => (.cons _ _ _ _ (.int .i64 (.var 0) a trivial rfl) (.cons _ _ _ _ (.int .i64 (.var 1) b trivial rfl) .nil))))
      by_cases d4 : a = b
      · exact (have hf : FactsL (vals2 a b) fl_N111 := f_cons (decide_eq_false (show ¬ ((999999999999999999 : Int) < a) by omega)) (f_cons (decide_eq_false (show ¬ (a < (-999999999999999999 : Int)) by omega)) (f_cons (decide_eq_true (show (a < (0 : Int)) by omega)) (f_cons (decide_eq_false (show ¬ ((999999999999999999 : Int) < b) by omega)) (f_cons (decide_eq_false (show ¬ (b < (-999999999999999999 : Int)) by omega)) (f_cons (decide_eq_true (show (b < (0 : Int)) by omega)) (f_cons (decide_eq_false (show ¬ (b = (0 : Int)) by omega)) (f_cons (decide_eq_false (show ¬ (a < b) by omega)) (f_cons (decide_eq_false (show ¬ (b < a) by omega)) (f_cons (decide_eq_true (show (a = b) by omega)) (f_nil))))))))))
            leaf hfx hfw hw hr (memo := memo_N111) hf (t_cons (told_src (h := h_N111_0) (tl := tl_N111_0) (fl := fl_N111) hfx hr hf rfl (by decide +kernel) (by decide +kernel) (n_cons (n_neg (show (-1000000000000000000 : Int) < a ∧ a ≤ 0 by omega)) (n_cons (n_neg (show (-1000000000000000000 : Int) < b ∧ b ≤ 0 by omega)) (n_nil))) (by decide +kernel) (by decide +kernel) run_N111_0) (t_nil)) law_N111 (fun ρ => (.cons _ _ _ _ (.int .i64 (.var 0) a trivial rfl) (.cons _ _ _ _ (.int .i64 (.var 1) b trivial rfl) .nil))))
      exact (have hf : FactsL (vals2 a b) fl_N112 := f_cons (decide_eq_false (show ¬ ((999999999999999999 : Int) < a) by omega)) (f_cons (decide_eq_false (show ¬ (a < (-999999999999999999 : Int)) by omega)) (f_cons (decide_eq_true (show (a < (0 : Int)) by omega)) (f_cons (decide_eq_false (show ¬ ((999999999999999999 : Int) < b) by omega)) (f_cons (decide_eq_false (show ¬ (b < (-999999999999999999 : Int)) by omega)) (f_cons (decide_eq_true (show (b < (0 : Int)) by omega)) (f_cons (decide_eq_false (show ¬ (b = (0 : Int)) by omega)) (f_cons (decide_eq_false (show ¬ (a < b) by omega)) (f_cons (decide_eq_true (show (b < a) by omega)) (f_cons (decide_eq_false (show ¬ (a = b) by omega)) (f_nil))))))))))
            leaf hfx hfw hw hr (memo := memo_N112) hf (t_cons (told_src (h := h_N112_0) (tl := tl_N112_0) (fl := fl_N112) hfx hr hf rfl (by decide +kernel) (by decide +kernel) (n_cons (n_neg (show (-1000000000000000000 : Int) < a ∧ a ≤ 0 by omega)) (n_cons (n_neg (show (-1000000000000000000 : Int) < b ∧ b ≤ 0 by omega)) (n_nil))) (by decide +kernel) (by decide +kernel) run_N112_0) (t_nil)) law_N112 (fun ρ => (.cons _ _ _ _ (.int .i64 (.var 0) a trivial rfl) (.cons _ _ _ _ (.int .i64 (.var 1) b trivial rfl) .nil))))
    exact (have hf : FactsL (vals2 a b) fl_N100 := f_cons (decide_eq_false (show ¬ ((999999999999999999 : Int) < a) by omega)) (f_cons (decide_eq_false (show ¬ (a < (-999999999999999999 : Int)) by omega)) (f_cons (decide_eq_true (show (a < (0 : Int)) by omega)) (f_cons (decide_eq_false (show ¬ ((999999999999999999 : Int) < b) by omega)) (f_cons (decide_eq_false (show ¬ (b < (-999999999999999999 : Int)) by omega)) (f_cons (decide_eq_false (show ¬ (b < (0 : Int)) by omega)) (f_cons (decide_eq_false (show ¬ (b = (0 : Int)) by omega)) (f_cons (decide_eq_true (show (a < b) by omega)) (f_cons (decide_eq_false (show ¬ (b < a) by omega)) (f_cons (decide_eq_false (show ¬ (a = b) by omega)) (f_nil))))))))))
          leaf hfx hfw hw hr (memo := memo_N100) hf (t_cons (told_src (h := h_N100_0) (tl := tl_N100_0) (fl := fl_N100) hfx hr hf rfl (by decide +kernel) (by decide +kernel) (n_cons (n_neg (show (-1000000000000000000 : Int) < a ∧ a ≤ 0 by omega)) (n_cons ((show (0 : Int) ≤ b ∧ b < 1000000000000000000 by omega)) (n_nil))) (by decide +kernel) (by decide +kernel) run_N100_0) (t_nil)) law_N100 (fun ρ => (.cons _ _ _ _ (.int .i64 (.var 0) a trivial rfl) (.cons _ _ _ _ (.int .i64 (.var 1) b trivial rfl) .nil))))
  by_cases d2 : b < 0
  · exact (have hf : FactsL (vals2 a b) fl_N012 := f_cons (decide_eq_false (show ¬ ((999999999999999999 : Int) < a) by omega)) (f_cons (decide_eq_false (show ¬ (a < (-999999999999999999 : Int)) by omega)) (f_cons (decide_eq_false (show ¬ (a < (0 : Int)) by omega)) (f_cons (decide_eq_false (show ¬ ((999999999999999999 : Int) < b) by omega)) (f_cons (decide_eq_false (show ¬ (b < (-999999999999999999 : Int)) by omega)) (f_cons (decide_eq_true (show (b < (0 : Int)) by omega)) (f_cons (decide_eq_false (show ¬ (b = (0 : Int)) by omega)) (f_cons (decide_eq_false (show ¬ (a < b) by omega)) (f_cons (decide_eq_true (show (b < a) by omega)) (f_cons (decide_eq_false (show ¬ (a = b) by omega)) (f_nil))))))))))
        leaf hfx hfw hw hr (memo := memo_N012) hf (t_cons (told_src (h := h_N012_0) (tl := tl_N012_0) (fl := fl_N012) hfx hr hf rfl (by decide +kernel) (by decide +kernel) (n_cons ((show (0 : Int) ≤ a ∧ a < 1000000000000000000 by omega)) (n_cons (n_neg (show (-1000000000000000000 : Int) < b ∧ b ≤ 0 by omega)) (n_nil))) (by decide +kernel) (by decide +kernel) run_N012_0) (t_nil)) law_N012 (fun ρ => (.cons _ _ _ _ (.int .i64 (.var 0) a trivial rfl) (.cons _ _ _ _ (.int .i64 (.var 1) b trivial rfl) .nil))))
  by_cases d3 : a < b
  · exact (have hf : FactsL (vals2 a b) fl_N000 := f_cons (decide_eq_false (show ¬ ((999999999999999999 : Int) < a) by omega)) (f_cons (decide_eq_false (show ¬ (a < (-999999999999999999 : Int)) by omega)) (f_cons (decide_eq_false (show ¬ (a < (0 : Int)) by omega)) (f_cons (decide_eq_false (show ¬ ((999999999999999999 : Int) < b) by omega)) (f_cons (decide_eq_false (show ¬ (b < (-999999999999999999 : Int)) by omega)) (f_cons (decide_eq_false (show ¬ (b < (0 : Int)) by omega)) (f_cons (decide_eq_false (show ¬ (b = (0 : Int)) by omega)) (f_cons (decide_eq_true (show (a < b) by omega)) (f_cons (decide_eq_false (show ¬ (b < a) by omega)) (f_cons (decide_eq_false (show ¬ (a = b) by omega)) (f_nil))))))))))
        leaf hfx hfw hw hr (memo := memo_N000) hf (t_cons (told_src (h := h_N000_0) (tl := tl_N000_0) (fl := fl_N000) hfx hr hf rfl (by decide +kernel) (by decide +kernel) (n_cons ((show (0 : Int) ≤ a ∧ a < 1000000000000000000 by omega)) (n_cons ((show (0 : Int) ≤ b ∧ b < 1000000000000000000 by omega)) (n_nil))) (by decide +kernel) (by decide +kernel) run_N000_0) (t_nil)) law_N000 (fun ρ => (.cons _ _ _ _ (.int .i64 (.var 0) a trivial rfl) (.cons _ _ _ _ (.int .i64 (.var 1) b trivial rfl) .nil))))
  by_cases d4 : a = b
  · exact (have hf : FactsL (vals2 a b) fl_N001 := f_cons (decide_eq_false (show ¬ ((999999999999999999 : Int) < a) by omega)) (f_cons (decide_eq_false (show ¬ (a < (-999999999999999999 : Int)) by omega)) (f_cons (decide_eq_false (show ¬ (a < (0 : Int)) by omega)) (f_cons (decide_eq_false (show ¬ ((999999999999999999 : Int) < b) by omega)) (f_cons (decide_eq_false (show ¬ (b < (-999999999999999999 : Int)) by omega)) (f_cons (decide_eq_false (show ¬ (b < (0 : Int)) by omega)) (f_cons (decide_eq_false (show ¬ (b = (0 : Int)) by omega)) (f_cons (decide_eq_false (show ¬ (a < b) by omega)) (f_cons (decide_eq_false (show ¬ (b < a) by omega)) (f_cons (decide_eq_true (show (a = b) by omega)) (f_nil))))))))))
        leaf hfx hfw hw hr (memo := memo_N001) hf (t_cons (told_src (h := h_N001_0) (tl := tl_N001_0) (fl := fl_N001) hfx hr hf rfl (by decide +kernel) (by decide +kernel) (n_cons ((show (0 : Int) ≤ a ∧ a < 1000000000000000000 by omega)) (n_cons ((show (0 : Int) ≤ b ∧ b < 1000000000000000000 by omega)) (n_nil))) (by decide +kernel) (by decide +kernel) run_N001_0) (t_nil)) law_N001 (fun ρ => (.cons _ _ _ _ (.int .i64 (.var 0) a trivial rfl) (.cons _ _ _ _ (.int .i64 (.var 1) b trivial rfl) .nil))))
  exact (have hf : FactsL (vals2 a b) fl_N002 := f_cons (decide_eq_false (show ¬ ((999999999999999999 : Int) < a) by omega)) (f_cons (decide_eq_false (show ¬ (a < (-999999999999999999 : Int)) by omega)) (f_cons (decide_eq_false (show ¬ (a < (0 : Int)) by omega)) (f_cons (decide_eq_false (show ¬ ((999999999999999999 : Int) < b) by omega)) (f_cons (decide_eq_false (show ¬ (b < (-999999999999999999 : Int)) by omega)) (f_cons (decide_eq_false (show ¬ (b < (0 : Int)) by omega)) (f_cons (decide_eq_false (show ¬ (b = (0 : Int)) by omega)) (f_cons (decide_eq_false (show ¬ (a < b) by omega)) (f_cons (decide_eq_true (show (b < a) by omega)) (f_cons (decide_eq_false (show ¬ (a = b) by omega)) (f_nil))))))))))
        leaf hfx hfw hw hr (memo := memo_N002) hf (t_cons (told_src (h := h_N002_0) (tl := tl_N002_0) (fl := fl_N002) hfx hr hf rfl (by decide +kernel) (by decide +kernel) (n_cons ((show (0 : Int) ≤ a ∧ a < 1000000000000000000 by omega)) (n_cons ((show (0 : Int) ≤ b ∧ b < 1000000000000000000 by omega)) (n_nil))) (by decide +kernel) (by decide +kernel) run_N002_0) (t_nil)) law_N002 (fun ρ => (.cons _ _ _ _ (.int .i64 (.var 0) a trivial rfl) (.cons _ _ _ _ (.int .i64 (.var 1) b trivial rfl) .nil))))
end Ds.Text
end
