/- The deterministic evaluator D and what is proved with it, part RunA of the claim on YtiifoffejaonbaaGreatDoor. -/
import Derived.Test.YtiifoffejaonbaaGreatDoorOk
set_option maxRecDepth 1000000
noncomputable section
namespace Ds.Text
theorem run_anchor : okIs (callF (mkE kn0 funs2) 300 5 [] emptyH) (.bool true) = true := by decide +kernel
end Ds.Text
end
