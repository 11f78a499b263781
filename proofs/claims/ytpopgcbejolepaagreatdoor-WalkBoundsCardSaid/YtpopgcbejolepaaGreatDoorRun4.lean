/- The deterministic evaluator D and what is proved with it, part Run4 of the claim on YtpopgcbejolepaaGreatDoor. -/
import Derived.Test.YtpopgcbejolepaaGreatDoorSym
set_option maxRecDepth 1000000
noncomputable section
namespace Ds.Text
def h_4 : List Nat := [102,117,110,99,32,109,97,105,110,40,41,32,123,10,110,32,58,61,32]
def tl_4 : List (SI × List Nat) := [((.var 0), [10,97,32,58,61,32,109,97,107,101,40,91,93,105,110,116,44,32,110,41,10,99,32,58,61,32,109,97,107,101,40,99,104,97,110,32,98,111,111,108,44,32,110,41,10,112,114,105,110,116,40,108,101,110,40,97,41,44,32,34,32,34,44,32,99,97,112,40,99,41,41,10,125,10])]
def v_4 : AV := (.tup [(.agg [(.int .i64 (.lit (.ofNat 2))), (.int .i64 (.lit (.ofNat 2))), (.str (.lit [])), (.str (.lit [112,97,110,105,99,58,32,98,97,100,32,108,101,110,103,116,104]))]), (.bool true)])
def flr_4 : List (Cond × Bool) := [(.lti (.lit (.ofNat 999999999999999999)) (.var 0), false), (.lti (.var 0) (.lit (.negSucc 999999999999999998)), false), (.lti (.var 0) (.lit (.ofNat 0)), false), (.lti (.lit (.ofNat 1024)) (.var 0), true)]
theorem run_4 : okIs' (callF (mkE (knT (mkSrc h_4 tl_4) flr_4) (funsT (mkSrc h_4 tl_4))) 300 16 [.str (.var 1), .nils] emptyH) v_4 = true := by decide +kernel
end Ds.Text
end
