/- The deterministic evaluator D and what is proved with it, part Law of the claim on YtpopgcbejolepaaGreatDoor. -/
import Derived.Test.YtpopgcbejolepaaGreatDoorSym
import Derived.Test.YtpopgcbejolepaaGreatDoorRunO0000
import Derived.Test.YtpopgcbejolepaaGreatDoorRunO0010
import Derived.Test.YtpopgcbejolepaaGreatDoorRunO0100
import Derived.Test.YtpopgcbejolepaaGreatDoorRunO0110
import Derived.Test.YtpopgcbejolepaaGreatDoorRunO1000
import Derived.Test.YtpopgcbejolepaaGreatDoorRunO1010
import Derived.Test.YtpopgcbejolepaaGreatDoorRunO1100
import Derived.Test.YtpopgcbejolepaaGreatDoorRunO1110
set_option maxRecDepth 1000000
noncomputable section
namespace Ds.Text
def memo_O000 : List (List AV × AV) := [([.str (srcS (.lit h_O000_0) tl_O000_0), .nils], v_O000_0)]
theorem law_O000 : okIs' (callF (mkE (knL fl_O000) (funsL memo_O000 manc)) 300 5 [(.int .i64 (.var 0)), (.int .i64 (.var 1)), (.bool false)] emptyH) (.bool true) = true := by decide +kernel
def memo_O001 : List (List AV × AV) := [([.str (srcS (.lit h_O001_0) tl_O001_0), .nils], v_O001_0)]
theorem law_O001 : okIs' (callF (mkE (knL fl_O001) (funsL memo_O001 manc)) 300 5 [(.int .i64 (.var 0)), (.int .i64 (.var 1)), (.bool true)] emptyH) (.bool true) = true := by decide +kernel
def memo_O010 : List (List AV × AV) := [([.str (srcS (.lit h_O010_0) tl_O010_0), .nils], v_O010_0)]
theorem law_O010 : okIs' (callF (mkE (knL fl_O010) (funsL memo_O010 manc)) 300 5 [(.int .i64 (.var 0)), (.int .i64 (.var 1)), (.bool false)] emptyH) (.bool true) = true := by decide +kernel
def memo_O011 : List (List AV × AV) := [([.str (srcS (.lit h_O011_0) tl_O011_0), .nils], v_O011_0)]
theorem law_O011 : okIs' (callF (mkE (knL fl_O011) (funsL memo_O011 manc)) 300 5 [(.int .i64 (.var 0)), (.int .i64 (.var 1)), (.bool true)] emptyH) (.bool true) = true := by decide +kernel
def memo_O100 : List (List AV × AV) := [([.str (srcS (.lit h_O100_0) tl_O100_0), .nils], v_O100_0)]
theorem law_O100 : okIs' (callF (mkE (knL fl_O100) (funsL memo_O100 manc)) 300 5 [(.int .i64 (.var 0)), (.int .i64 (.var 1)), (.bool false)] emptyH) (.bool true) = true := by decide +kernel
def memo_O101 : List (List AV × AV) := [([.str (srcS (.lit h_O101_0) tl_O101_0), .nils], v_O101_0)]
theorem law_O101 : okIs' (callF (mkE (knL fl_O101) (funsL memo_O101 manc)) 300 5 [(.int .i64 (.var 0)), (.int .i64 (.var 1)), (.bool true)] emptyH) (.bool true) = true := by decide +kernel
def memo_O110 : List (List AV × AV) := [([.str (srcS (.lit h_O110_0) tl_O110_0), .nils], v_O110_0)]
theorem law_O110 : okIs' (callF (mkE (knL fl_O110) (funsL memo_O110 manc)) 300 5 [(.int .i64 (.var 0)), (.int .i64 (.var 1)), (.bool false)] emptyH) (.bool true) = true := by decide +kernel
def memo_O111 : List (List AV × AV) := [([.str (srcS (.lit h_O111_0) tl_O111_0), .nils], v_O111_0)]
theorem law_O111 : okIs' (callF (mkE (knL fl_O111) (funsL memo_O111 manc)) 300 5 [(.int .i64 (.var 0)), (.int .i64 (.var 1)), (.bool true)] emptyH) (.bool true) = true := by decide +kernel
def fl_fB0 : List (Cond × Bool) := [(.lti (.lit (.ofNat 999999999999999999)) (.var 0), true)]
def memo_fB0 : List (List AV × AV) := []
theorem law_fB0 : okIs' (callF (mkE (knL fl_fB0) (funsL memo_fB0 manc)) 300 5 [(.int .i64 (.var 0)), (.int .i64 (.var 1)), (.bool false)] emptyH) (.bool true) = true := by decide +kernel
def fl_fB1 : List (Cond × Bool) := [(.lti (.lit (.ofNat 999999999999999999)) (.var 0), false), (.lti (.var 0) (.lit (.negSucc 999999999999999998)), true)]
def memo_fB1 : List (List AV × AV) := []
theorem law_fB1 : okIs' (callF (mkE (knL fl_fB1) (funsL memo_fB1 manc)) 300 5 [(.int .i64 (.var 0)), (.int .i64 (.var 1)), (.bool false)] emptyH) (.bool true) = true := by decide +kernel
def fl_fB2 : List (Cond × Bool) := [(.lti (.lit (.ofNat 999999999999999999)) (.var 0), false), (.lti (.var 0) (.lit (.negSucc 999999999999999998)), false), (.lti (.lit (.ofNat 999999999999999999)) (.var 1), true)]
def memo_fB2 : List (List AV × AV) := []
theorem law_fB2 : okIs' (callF (mkE (knL fl_fB2) (funsL memo_fB2 manc)) 300 5 [(.int .i64 (.var 0)), (.int .i64 (.var 1)), (.bool false)] emptyH) (.bool true) = true := by decide +kernel
def fl_fB3 : List (Cond × Bool) := [(.lti (.lit (.ofNat 999999999999999999)) (.var 0), false), (.lti (.var 0) (.lit (.negSucc 999999999999999998)), false), (.lti (.lit (.ofNat 999999999999999999)) (.var 1), false), (.lti (.var 1) (.lit (.negSucc 999999999999999998)), true)]
def memo_fB3 : List (List AV × AV) := []
theorem law_fB3 : okIs' (callF (mkE (knL fl_fB3) (funsL memo_fB3 manc)) 300 5 [(.int .i64 (.var 0)), (.int .i64 (.var 1)), (.bool false)] emptyH) (.bool true) = true := by decide +kernel
def fl_tB0 : List (Cond × Bool) := [(.lti (.lit (.ofNat 999999999999999999)) (.var 0), true)]
def memo_tB0 : List (List AV × AV) := []
theorem law_tB0 : okIs' (callF (mkE (knL fl_tB0) (funsL memo_tB0 manc)) 300 5 [(.int .i64 (.var 0)), (.int .i64 (.var 1)), (.bool true)] emptyH) (.bool true) = true := by decide +kernel
def fl_tB1 : List (Cond × Bool) := [(.lti (.lit (.ofNat 999999999999999999)) (.var 0), false), (.lti (.var 0) (.lit (.negSucc 999999999999999998)), true)]
def memo_tB1 : List (List AV × AV) := []
theorem law_tB1 : okIs' (callF (mkE (knL fl_tB1) (funsL memo_tB1 manc)) 300 5 [(.int .i64 (.var 0)), (.int .i64 (.var 1)), (.bool true)] emptyH) (.bool true) = true := by decide +kernel
def fl_tB2 : List (Cond × Bool) := [(.lti (.lit (.ofNat 999999999999999999)) (.var 0), false), (.lti (.var 0) (.lit (.negSucc 999999999999999998)), false), (.lti (.lit (.ofNat 999999999999999999)) (.var 1), true)]
def memo_tB2 : List (List AV × AV) := []
theorem law_tB2 : okIs' (callF (mkE (knL fl_tB2) (funsL memo_tB2 manc)) 300 5 [(.int .i64 (.var 0)), (.int .i64 (.var 1)), (.bool true)] emptyH) (.bool true) = true := by decide +kernel
def fl_tB3 : List (Cond × Bool) := [(.lti (.lit (.ofNat 999999999999999999)) (.var 0), false), (.lti (.var 0) (.lit (.negSucc 999999999999999998)), false), (.lti (.lit (.ofNat 999999999999999999)) (.var 1), false), (.lti (.var 1) (.lit (.negSucc 999999999999999998)), true)]
def memo_tB3 : List (List AV × AV) := []
theorem law_tB3 : okIs' (callF (mkE (knL fl_tB3) (funsL memo_tB3 manc)) 300 5 [(.int .i64 (.var 0)), (.int .i64 (.var 1)), (.bool true)] emptyH) (.bool true) = true := by decide +kernel
end Ds.Text
end
set_option maxRecDepth 1000000
noncomputable section
namespace Ds.Text
theorem law_walk (a b : Int) (s : Bool) (ha : -9223372036854775808 ≤ a ∧ a ≤ 9223372036854775807) (hb : -9223372036854775808 ≤ b ∧ b ≤ 9223372036854775807) (w : Go.World) (hw : 4 ≤ w.heap.size) (ht : Go.Lib.TabIs prog w "internal/strconv.uint64pow10" .u64 Go.Lib.pow10Tab) : Go.Calls prog 5 #[.int .i64 a, .int .i64 b, .bool s] w (fun e w' => e = .returned (.bool true) ∧ ∀ may, Go.World.keptBut w w' may) := by
  obtain ⟨fx, hfx, hfw⟩ := fix_of_tab ht
  have hr := vals2_rng ha hb
  cases s
  · skip
    by_cases c1 : (999999999999999999 : Int) < a
    · exact (have hf : FactsL (vals2 a b) fl_fB0 := f_cons (decide_eq_true (show ((999999999999999999 : Int) < a) by omega)) (f_nil)
          leaf hfx hfw hw hr (memo := memo_fB0) hf (t_nil) law_fB0 (fun ρ => (.cons _ _ _ _ (.int .i64 (.var 0) a trivial rfl) (.cons _ _ _ _ (.int .i64 (.var 1) b trivial rfl) (.cons _ _ _ _ (.bool _) .nil)))))
    by_cases c2 : a < (-999999999999999999 : Int)
    · exact (have hf : FactsL (vals2 a b) fl_fB1 := f_cons (decide_eq_false (show ¬ ((999999999999999999 : Int) < a) by omega)) (f_cons (decide_eq_true (show (a < (-999999999999999999 : Int)) by omega)) (f_nil))
          leaf hfx hfw hw hr (memo := memo_fB1) hf (t_nil) law_fB1 (fun ρ => (.cons _ _ _ _ (.int .i64 (.var 0) a trivial rfl) (.cons _ _ _ _ (.int .i64 (.var 1) b trivial rfl) (.cons _ _ _ _ (.bool _) .nil)))))
    by_cases c3 : (999999999999999999 : Int) < b
    · exact (have hf : FactsL (vals2 a b) fl_fB2 := f_cons (decide_eq_false (show ¬ ((999999999999999999 : Int) < a) by omega)) (f_cons (decide_eq_false (show ¬ (a < (-999999999999999999 : Int)) by omega)) (f_cons (decide_eq_true (show ((999999999999999999 : Int) < b) by omega)) (f_nil)))
          leaf hfx hfw hw hr (memo := memo_fB2) hf (t_nil) law_fB2 (fun ρ => (.cons _ _ _ _ (.int .i64 (.var 0) a trivial rfl) (.cons _ _ _ _ (.int .i64 (.var 1) b trivial rfl) (.cons _ _ _ _ (.bool _) .nil)))))
    by_cases c4 : b < (-999999999999999999 : Int)
    · exact (have hf : FactsL (vals2 a b) fl_fB3 := f_cons (decide_eq_false (show ¬ ((999999999999999999 : Int) < a) by omega)) (f_cons (decide_eq_false (show ¬ (a < (-999999999999999999 : Int)) by omega)) (f_cons (decide_eq_false (show ¬ ((999999999999999999 : Int) < b) by omega)) (f_cons (decide_eq_true (show (b < (-999999999999999999 : Int)) by omega)) (f_nil))))
          leaf hfx hfw hw hr (memo := memo_fB3) hf (t_nil) law_fB3 (fun ρ => (.cons _ _ _ _ (.int .i64 (.var 0) a trivial rfl) (.cons _ _ _ _ (.int .i64 (.var 1) b trivial rfl) (.cons _ _ _ _ (.bool _) .nil)))))
    by_cases d1 : a < 0
    · by_cases d2 : b < 0
      · exact (have hf : FactsL (vals2 a b) fl_O110 := f_cons (decide_eq_false (show ¬ ((999999999999999999 : Int) < a) by omega)) (f_cons (decide_eq_false (show ¬ (a < (-999999999999999999 : Int)) by omega)) (f_cons (decide_eq_true (show (a < (0 : Int)) by omega)) (f_cons (decide_eq_false (show ¬ ((999999999999999999 : Int) < b) by omega)) (f_cons (decide_eq_false (show ¬ (b < (-999999999999999999 : Int)) by omega)) (f_cons (decide_eq_true (show (b < (0 : Int)) by omega)) (f_nil))))))
            leaf hfx hfw hw hr (memo := memo_O110) hf (t_cons (told_src (h := h_O110_0) (tl := tl_O110_0) (fl := fl_O110) hfx hr hf rfl (by decide +kernel) (by decide +kernel) (n_cons (n_neg (show (-1000000000000000000 : Int) < a ∧ a ≤ 0 by omega)) (n_cons (n_neg (show (-1000000000000000000 : Int) < b ∧ b ≤ 0 by omega)) (n_nil))) (by decide +kernel) (by decide +kernel) run_O110_0) (t_nil)) law_O110 (fun ρ => (.cons _ _ _ _ (.int .i64 (.var 0) a trivial rfl) (.cons _ _ _ _ (.int .i64 (.var 1) b trivial rfl) (.cons _ _ _ _ (.bool _) .nil)))))
      exact (have hf : FactsL (vals2 a b) fl_O100 := f_cons (decide_eq_false (show ¬ ((999999999999999999 : Int) < a) by omega)) (f_cons (decide_eq_false (show ¬ (a < (-999999999999999999 : Int)) by omega)) (f_cons (decide_eq_true (show (a < (0 : Int)) by omega)) (f_cons (decide_eq_false (show ¬ ((999999999999999999 : Int) < b) by omega)) (f_cons (decide_eq_false (show ¬ (b < (-999999999999999999 : Int)) by omega)) (f_cons (decide_eq_false (show ¬ (b < (0 : Int)) by omega)) (f_nil))))))
            leaf hfx hfw hw hr (memo := memo_O100) hf (t_cons (told_src (h := h_O100_0) (tl := tl_O100_0) (fl := fl_O100) hfx hr hf rfl (by decide +kernel) (by decide +kernel) (n_cons (n_neg (show (-1000000000000000000 : Int) < a ∧ a ≤ 0 by omega)) (n_cons ((show (0 : Int) ≤ b ∧ b < 1000000000000000000 by omega)) (n_nil))) (by decide +kernel) (by decide +kernel) run_O100_0) (t_nil)) law_O100 (fun ρ => (.cons _ _ _ _ (.int .i64 (.var 0) a trivial rfl) (.cons _ _ _ _ (.int .i64 (.var 1) b trivial rfl) (.cons _ _ _ _ (.bool _) .nil)))))
    by_cases d2 : b < 0
    · exact (have hf : FactsL (vals2 a b) fl_O010 := f_cons (decide_eq_false (show ¬ ((999999999999999999 : Int) < a) by omega)) (f_cons (decide_eq_false (show ¬ (a < (-999999999999999999 : Int)) by omega)) (f_cons (decide_eq_false (show ¬ (a < (0 : Int)) by omega)) (f_cons (decide_eq_false (show ¬ ((999999999999999999 : Int) < b) by omega)) (f_cons (decide_eq_false (show ¬ (b < (-999999999999999999 : Int)) by omega)) (f_cons (decide_eq_true (show (b < (0 : Int)) by omega)) (f_nil))))))
          leaf hfx hfw hw hr (memo := memo_O010) hf (t_cons (told_src (h := h_O010_0) (tl := tl_O010_0) (fl := fl_O010) hfx hr hf rfl (by decide +kernel) (by decide +kernel) (n_cons ((show (0 : Int) ≤ a ∧ a < 1000000000000000000 by omega)) (n_cons (n_neg (show (-1000000000000000000 : Int) < b ∧ b ≤ 0 by omega)) (n_nil))) (by decide +kernel) (by decide +kernel) run_O010_0) (t_nil)) law_O010 (fun ρ => (.cons _ _ _ _ (.int .i64 (.var 0) a trivial rfl) (.cons _ _ _ _ (.int .i64 (.var 1) b trivial rfl) (.cons _ _ _ _ (.bool _) .nil)))))
    exact (have hf : FactsL (vals2 a b) fl_O000 := f_cons (decide_eq_false (show ¬ ((999999999999999999 : Int) < a) by omega)) (f_cons (decide_eq_false (show ¬ (a < (-999999999999999999 : Int)) by omega)) (f_cons (decide_eq_false (show ¬ (a < (0 : Int)) by omega)) (f_cons (decide_eq_false (show ¬ ((999999999999999999 : Int) < b) by omega)) (f_cons (decide_eq_false (show ¬ (b < (-999999999999999999 : Int)) by omega)) (f_cons (decide_eq_false (show ¬ (b < (0 : Int)) by omega)) (f_nil))))))
          leaf hfx hfw hw hr (memo := memo_O000) hf (t_cons (told_src (h := h_O000_0) (tl := tl_O000_0) (fl := fl_O000) hfx hr hf rfl (by decide +kernel) (by decide +kernel) (n_cons ((show (0 : Int) ≤ a ∧ a < 1000000000000000000 by omega)) (n_cons ((show (0 : Int) ≤ b ∧ b < 1000000000000000000 by omega)) (n_nil))) (by decide +kernel) (by decide +kernel) run_O000_0) (t_nil)) law_O000 (fun ρ => (.cons _ _ _ _ (.int .i64 (.var 0) a trivial rfl) (.cons _ _ _ _ (.int .i64 (.var 1) b trivial rfl) (.cons _ _ _ _ (.bool _) .nil)))))
  · skip
    by_cases c1 : (999999999999999999 : Int) < a
    · exact (have hf : FactsL (vals2 a b) fl_tB0 := f_cons (decide_eq_true (show ((999999999999999999 : Int) < a) by omega)) (f_nil)
          leaf hfx hfw hw hr (memo := memo_tB0) hf (t_nil) law_tB0 (fun ρ => (.cons _ _ _ _ (.int .i64 (.var 0) a trivial rfl) (.cons _ _ _ _ (.int .i64 (.var 1) b trivial rfl) (.cons _ _ _ _ (.bool _) .nil)))))
    by_cases c2 : a < (-999999999999999999 : Int)
    · exact (have hf : FactsL (vals2 a b) fl_tB1 := f_cons (decide_eq_false (show ¬ ((999999999999999999 : Int) < a) by omega)) (f_cons (decide_eq_true (show (a < (-999999999999999999 : Int)) by omega)) (f_nil))
          leaf hfx hfw hw hr (memo := memo_tB1) hf (t_nil) law_tB1 (fun ρ => (.cons _ _ _ _ (.int .i64 (.var 0) a trivial rfl) (.cons _ _ _ _ (.int .i64 (.var 1) b trivial rfl) (.cons _ _ _ _ (.bool _) .nil)))))
    by_cases c3 : (999999999999999999 : Int) < b
    · exact (have hf : FactsL (vals2 a b) fl_tB2 := f_cons (decide_eq_false (show ¬ ((999999999999999999 : Int) < a) by omega)) (f_cons (decide_eq_false (show ¬ (a < (-999999999999999999 : Int)) by omega)) (f_cons (decide_eq_true (show ((999999999999999999 : Int) < b) by omega)) (f_nil)))
          leaf hfx hfw hw hr (memo := memo_tB2) hf (t_nil) law_tB2 (fun ρ => (.cons _ _ _ _ (.int .i64 (.var 0) a trivial rfl) (.cons _ _ _ _ (.int .i64 (.var 1) b trivial rfl) (.cons _ _ _ _ (.bool _) .nil)))))
    by_cases c4 : b < (-999999999999999999 : Int)
    · exact (have hf : FactsL (vals2 a b) fl_tB3 := f_cons (decide_eq_false (show ¬ ((999999999999999999 : Int) < a) by omega)) (f_cons (decide_eq_false (show ¬ (a < (-999999999999999999 : Int)) by omega)) (f_cons (decide_eq_false (show ¬ ((999999999999999999 : Int) < b) by omega)) (f_cons (decide_eq_true (show (b < (-999999999999999999 : Int)) by omega)) (f_nil))))
          leaf hfx hfw hw hr (memo := memo_tB3) hf (t_nil) law_tB3 (fun ρ => (.cons _ _ _ _ (.int .i64 (.var 0) a trivial rfl) (.cons _ _ _ _ (.int .i64 (.var 1) b trivial rfl) (.cons _ _ _ _ (.bool _) .nil)))))
    by_cases d1 : a < 0
    · by_cases d2 : b < 0
      · exact (have hf : FactsL (vals2 a b) fl_O111 := f_cons (decide_eq_false (show ¬ ((999999999999999999 : Int) < a) by omega)) (f_cons (decide_eq_false (show ¬ (a < (-999999999999999999 : Int)) by omega)) (f_cons (decide_eq_true (show (a < (0 : Int)) by omega)) (f_cons (decide_eq_false (show ¬ ((999999999999999999 : Int) < b) by omega)) (f_cons (decide_eq_false (show ¬ (b < (-999999999999999999 : Int)) by omega)) (f_cons (decide_eq_true (show (b < (0 : Int)) by omega)) (f_nil))))))
            leaf hfx hfw hw hr (memo := memo_O111) hf (t_cons (told_src (h := h_O111_0) (tl := tl_O111_0) (fl := fl_O111) hfx hr hf rfl (by decide +kernel) (by decide +kernel) (n_cons (n_neg (show (-1000000000000000000 : Int) < a ∧ a ≤ 0 by omega)) (n_cons (n_neg (show (-1000000000000000000 : Int) < b ∧ b ≤ 0 by omega)) (n_nil))) (by decide +kernel) (by decide +kernel) run_O111_0) (t_nil)) law_O111 (fun ρ => (.cons _ _ _ _ (.int .i64 (.var 0) a trivial rfl) (.cons _ _ _ _ (.int .i64 (.var 1) b trivial rfl) (.cons _ _ _ _ (.bool _) .nil)))))
      exact (have hf : FactsL (vals2 a b) fl_O101 := f_cons (decide_eq_false (show ¬ ((999999999999999999 : Int) < a) by omega)) (f_cons (decide_eq_false (show ¬ (a < (-999999999999999999 : Int)) by omega)) (f_cons (decide_eq_true (show (a < (0 : Int)) by omega)) (f_cons (decide_eq_false (show ¬ ((999999999999999999 : Int) < b) by omega)) (f_cons (decide_eq_false (show ¬ (b < (-999999999999999999 : Int)) by omega)) (f_cons (decide_eq_false (show ¬ (b < (0 : Int)) by omega)) (f_nil))))))
            leaf hfx hfw hw hr (memo := memo_O101) hf (t_cons (told_src (h := h_O101_0) (tl := tl_O101_0) (fl := fl_O101) hfx hr hf rfl (by decide +kernel) (by decide +kernel) (n_cons (n_neg (show (-1000000000000000000 : Int) < a ∧ a ≤ 0 by omega)) (n_cons ((show (0 : Int) ≤ b ∧ b < 1000000000000000000 by omega)) (n_nil))) (by decide +kernel) (by decide +kernel) run_O101_0) (t_nil)) law_O101 (fun ρ => (.cons _ _ _ _ (.int .i64 (.var 0) a trivial rfl) (.cons _ _ _ _ (.int .i64 (.var 1) b trivial rfl) (.cons _ _ _ _ (.bool _) .nil)))))
    by_cases d2 : b < 0
    · exact (have hf : FactsL (vals2 a b) fl_O011 := f_cons (decide_eq_false (show ¬ ((999999999999999999 : Int) < a) by omega)) (f_cons (decide_eq_false (show ¬ (a < (-999999999999999999 : Int)) by omega)) (f_cons (decide_eq_false (show ¬ (a < (0 : Int)) by omega)) (f_cons (decide_eq_false (show ¬ ((999999999999999999 : Int) < b) by omega)) (f_cons (decide_eq_false (show ¬ (b < (-999999999999999999 : Int)) by omega)) (f_cons (decide_eq_true (show (b < (0 : Int)) by omega)) (f_nil))))))
          leaf hfx hfw hw hr (memo := memo_O011) hf (t_cons (told_src (h := h_O011_0) (tl := tl_O011_0) (fl := fl_O011) hfx hr hf rfl (by decide +kernel) (by decide +kernel) (n_cons ((show (0 : Int) ≤ a ∧ a < 1000000000000000000 by omega)) (n_cons (n_neg (show (-1000000000000000000 : Int) < b ∧ b ≤ 0 by omega)) (n_nil))) (by decide +kernel) (by decide +kernel) run_O011_0) (t_nil)) law_O011 (fun ρ => (.cons _ _ _ _ (.int .i64 (.var 0) a trivial rfl) (.cons _ _ _ _ (.int .i64 (.var 1) b trivial rfl) (.cons _ _ _ _ (.bool _) .nil)))))
    exact (have hf : FactsL (vals2 a b) fl_O001 := f_cons (decide_eq_false (show ¬ ((999999999999999999 : Int) < a) by omega)) (f_cons (decide_eq_false (show ¬ (a < (-999999999999999999 : Int)) by omega)) (f_cons (decide_eq_false (show ¬ (a < (0 : Int)) by omega)) (f_cons (decide_eq_false (show ¬ ((999999999999999999 : Int) < b) by omega)) (f_cons (decide_eq_false (show ¬ (b < (-999999999999999999 : Int)) by omega)) (f_cons (decide_eq_false (show ¬ (b < (0 : Int)) by omega)) (f_nil))))))
          leaf hfx hfw hw hr (memo := memo_O001) hf (t_cons (told_src (h := h_O001_0) (tl := tl_O001_0) (fl := fl_O001) hfx hr hf rfl (by decide +kernel) (by decide +kernel) (n_cons ((show (0 : Int) ≤ a ∧ a < 1000000000000000000 by omega)) (n_cons ((show (0 : Int) ≤ b ∧ b < 1000000000000000000 by omega)) (n_nil))) (by decide +kernel) (by decide +kernel) run_O001_0) (t_nil)) law_O001 (fun ρ => (.cons _ _ _ _ (.int .i64 (.var 0) a trivial rfl) (.cons _ _ _ _ (.int .i64 (.var 1) b trivial rfl) (.cons _ _ _ _ (.bool _) .nil)))))
end Ds.Text
end
