import Derived.Test.YtjchghbmniifgaaGreatDoorX09
set_option linter.unusedVariables false
set_option linter.unusedSimpArgs false
set_option linter.unusedSectionVars false
set_option linter.constructorNameAsVariable false
set_option linter.defProp false
set_option linter.unnecessarySimpa false
set_option autoImplicit false
set_option maxRecDepth 1000000
namespace Go.AR
open Go.Proofs
noncomputable section
theorem run57 : outV (calls Cm 1000000 (pos 57) [] .lf .h) = .b true := by kernel_rfl
end
end Go.AR
