/- The deterministic evaluator D and what is proved with it, part RunN0010 of the claim on YtpopgcbejolepaaGreatDoor. -/
import Derived.Test.YtpopgcbejolepaaGreatDoorSym
set_option maxRecDepth 1000000
noncomputable section
namespace Ds.Text
def h_N001_0 : List Nat := [102,117,110,99,32,109,97,105,110,40,41,32,123,10,97,32,58,61,32]
def tl_N001_0 : List (SI × List Nat) := [((.var 0), [10,98,32,58,61,32]), ((.var 1), [10,112,114,105,110,116,40,97,32,43,32,98,44,32,34,32,34,44,32,97,32,45,32,98,44,32,34,32,34,44,32,97,32,42,32,98,44,32,34,32,34,44,32,45,97,44,32,34,32,34,41,10,112,114,105,110,116,40,97,32,60,32,98,44,32,97,32,60,61,32,98,44,32,97,32,62,32,98,44,32,97,32,62,61,32,98,44,32,97,32,61,61,32,98,44,32,97,32,33,61,32,98,44,32,34,32,34,41,10,112,114,105,110,116,40,97,32,47,32,98,44,32,34,32,34,44,32,97,32,37,32,98,41,10,125,10])]
def v_N001_0 : AV := (.tup [(.agg [(.int .i64 (.lit (.ofNat 1))), (.int .i64 (.lit (.ofNat 0))), (.str (.cat (.cat (.cat (.cat (.cat (.cat (.cat (.cat (.cat (.cat (.dig (.bin .add .i64 (.var 0) (.var 1))) (.lit [32])) (.dig (.bin .sub .i64 (.var 0) (.var 1)))) (.lit [32])) (.dig (.bin .mul .i64 (.var 0) (.var 1)))) (.lit [32])) (.dig (.bin .sub .i64 (.lit (.ofNat 0)) (.var 0)))) (.lit [32,102,97,108,115,101,116,114,117,101,102,97,108,115,101,116,114,117,101,116,114,117,101,102,97,108,115,101,32])) (.dig (.bin .quo .i64 (.var 0) (.var 1)))) (.lit [32])) (.dig (.bin .rem .i64 (.var 0) (.var 1))))), (.str (.lit []))]), (.bool true)])
def fl_N001 : List (Cond × Bool) := [(.lti (.lit (.ofNat 999999999999999999)) (.var 0), false), (.lti (.var 0) (.lit (.negSucc 999999999999999998)), false), (.lti (.var 0) (.lit (.ofNat 0)), false), (.lti (.lit (.ofNat 999999999999999999)) (.var 1), false), (.lti (.var 1) (.lit (.negSucc 999999999999999998)), false), (.lti (.var 1) (.lit (.ofNat 0)), false), (.eqi (.var 1) (.lit (.ofNat 0)), false), (.lti (.var 0) (.var 1), false), (.lti (.var 1) (.var 0), false), (.eqi (.var 0) (.var 1), true)]
theorem run_N001_0 : okIs' (callF (mkE (knT (mkSrc h_N001_0 tl_N001_0) fl_N001) (funsT (mkSrc h_N001_0 tl_N001_0))) 300 16 [.str (.var 1), .nils] emptyH) v_N001_0 = true := by decide +kernel
end Ds.Text
end
