/- The deterministic evaluator D and what is proved with it, part Run15 of the claim on YtpopgcbejolepaaGreatDoor. -/
import Derived.Test.YtpopgcbejolepaaGreatDoorSym
set_option maxRecDepth 1000000
noncomputable section
namespace Ds.Text
def h_15 : List Nat := [102,117,110,99,32,109,97,105,110,40,41,32,123,10,115,32,58,61,32,34,97,98,34,10,102,111,114,32,105,32,58,61,32,48,59,32,105,32,60,32,49,48,59,32,105,43,43,32,123,10,115,32,43,61,32,115,10,125,10,112,114,105,110,116,40,108,101,110,40,115,41,41,10,125,10]
def tl_15 : List (SI × List Nat) := []
def v_15 : AV := (.tup [(.agg [(.int .i64 (.lit (.ofNat 1))), (.int .i64 (.lit (.ofNat 0))), (.str (.lit [50,48,52,56])), (.str (.lit []))]), (.bool true)])
def flr_15 : List (Cond × Bool) := []
theorem run_15 : okIs' (callF (mkE (knT (mkSrc h_15 tl_15) flr_15) (funsT (mkSrc h_15 tl_15))) 300 16 [.str (.var 1), .nils] emptyH) v_15 = true := by decide +kernel
end Ds.Text
end
