/- The deterministic evaluator D and what is proved with it, part RunZ00 of the claim on YtpopgcbejolepaaGreatDoor. -/
import Derived.Test.YtpopgcbejolepaaGreatDoorSym
set_option maxRecDepth 1000000
noncomputable section
namespace Ds.Text
def h_Z0_0 : List Nat := [102,117,110,99,32,109,97,105,110,40,41,32,123,10,97,32,58,61,32,40,45]
def tl_Z0_0 : List (SI × List Nat) := [((.bin .sub .i64 (.lit (.ofNat 0)) (.var 0)), [41,10,98,32,58,61,32,48,10,112,114,105,110,116,40,97,32,43,32,98,44,32,34,32,34,44,32,97,32,45,32,98,44,32,34,32,34,44,32,97,32,42,32,98,44,32,34,32,34,44,32,45,97,44,32,34,32,34,41,10,112,114,105,110,116,40,97,32,60,32,98,44,32,97,32,60,61,32,98,44,32,97,32,62,32,98,44,32,97,32,62,61,32,98,44,32,97,32,61,61,32,98,44,32,97,32,33,61,32,98,44,32,34,32,34,41,10,112,114,105,110,116,40,97,32,47,32,98,41,10,125,10])]
def v_Z0_0 : AV := (.tup [(.agg [(.int .i64 (.lit (.ofNat 2))), (.int .i64 (.lit (.ofNat 2))), (.str (.cat (.cat (.cat (.cat (.cat (.cat (.cat (.dig (.bin .add .i64 (.bin .sub .i64 (.lit (.ofNat 0)) (.bin .sub .i64 (.lit (.ofNat 0)) (.var 0))) (.lit (.ofNat 0)))) (.lit [32])) (.dig (.bin .sub .i64 (.bin .sub .i64 (.lit (.ofNat 0)) (.bin .sub .i64 (.lit (.ofNat 0)) (.var 0))) (.lit (.ofNat 0))))) (.lit [32])) (.dig (.bin .mul .i64 (.bin .sub .i64 (.lit (.ofNat 0)) (.bin .sub .i64 (.lit (.ofNat 0)) (.var 0))) (.lit (.ofNat 0))))) (.lit [32])) (.dig (.bin .sub .i64 (.lit (.ofNat 0)) (.bin .sub .i64 (.lit (.ofNat 0)) (.bin .sub .i64 (.lit (.ofNat 0)) (.var 0)))))) (.lit [32,116,114,117,101,116,114,117,101,102,97,108,115,101,102,97,108,115,101,102,97,108,115,101,116,114,117,101,32]))), (.str (.lit [112,97,110,105,99,58,32,100,105,118,105,100,101,32,98,121,32,122,101,114,111]))]), (.bool true)])
def fl_Z0 : List (Cond × Bool) := [(.lti (.lit (.ofNat 999999999999999999)) (.var 0), false), (.lti (.var 0) (.lit (.negSucc 999999999999999998)), false), (.lti (.var 0) (.lit (.ofNat 0)), true), (.lti (.lit (.ofNat 0)) (.var 0), false), (.eqi (.var 0) (.lit (.ofNat 0)), false)]
theorem run_Z0_0 : okIs' (callF (mkE (knT (mkSrc h_Z0_0 tl_Z0_0) fl_Z0) (funsT (mkSrc h_Z0_0 tl_Z0_0))) 300 16 [.str (.var 1), .nils] emptyH) v_Z0_0 = true := by decide +kernel
end Ds.Text
end
