/- The deterministic evaluator D and what is proved with it, part RunR13 of the claim on YtiifoffejaonbaaGreatDoor. -/
import Derived.Test.YtiifoffejaonbaaGreatDoorOk
set_option maxRecDepth 1000000
noncomputable section
namespace Ds.Text
def src13 : List Nat := [102,117,110,99,32,109,97,105,110,40,41,32,123,10,99,32,58,61,32,109,97,107,101,40,99,104,97,110,32,105,110,116,41,10,100,32,58,61,32,109,97,107,101,40,99,104,97,110,32,105,110,116,41,10,102,111,114,32,105,32,58,61,32,48,59,32,105,32,60,32,49,51,59,32,105,43,43,32,123,10,103,111,32,102,117,110,99,40,41,32,123,10,60,45,100,10,125,40,41,10,125,10,112,114,105,110,116,40,34,109,34,41,10,105,102,32,99,32,61,61,32,100,32,123,10,112,114,105,110,116,40,49,41,10,125,10,125,10]
def res13 : AV := .tup [.agg [I 1, I 0, S [109], S []], .bool true]
theorem run_r13 : okIs (callF (mkE kn0 funs2) 300 6 [S src13, .nils] emptyH) res13 = true := by decide +kernel
end Ds.Text
end
