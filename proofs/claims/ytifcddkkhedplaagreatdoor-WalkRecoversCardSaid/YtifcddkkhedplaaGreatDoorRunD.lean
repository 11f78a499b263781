/- The deterministic evaluator D and what is proved with it, part RunD of the claim on YtifcddkkhedplaaGreatDoor. -/
import Derived.Test.YtifcddkkhedplaaGreatDoorOk
set_option maxRecDepth 1000000
noncomputable section
namespace Ds.Text
def src2 : List Nat := [102,117,110,99,32,104,101,108,112,40,41,32,115,116,114,105,110,103,32,123,10,114,101,116,117,114,110,32,114,101,99,111,118,101,114,40,41,10,125,10,102,117,110,99,32,102,40,41,32,105,110,116,32,123,10,112,114,105,110,116,40,114,101,99,111,118,101,114,40,41,44,32,34,91,34,41,10,100,101,102,101,114,32,102,117,110,99,40,41,32,123,10,112,114,105,110,116,40,104,101,108,112,40,41,44,32,34,45,34,41,10,125,40,41,10,114,101,116,117,114,110,32,55,10,125,10,102,117,110,99,32,109,97,105,110,40,41,32,123,10,112,114,105,110,116,40,102,40,41,44,32,34,93,34,44,32,114,101,99,111,118,101,114,40,41,41,10,125,10]
def res2 : AV := .tup [.agg [I 1, I 0, S [91,45,55,93], S []], .bool true]
theorem run_r2 : okIs (callF (mkE [] funs2) 300 5 [S src2, .nils] emptyH) res2 = true := by decide +kernel
end Ds.Text
end
