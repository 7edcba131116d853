import Derived.Test.YtjchghbmniifgaaGreatDoorX13
set_option linter.unusedVariables false
set_option linter.unusedSimpArgs false
set_option linter.unusedSectionVars false
set_option linter.constructorNameAsVariable false
set_option linter.defProp false
set_option linter.unnecessarySimpa false
set_option autoImplicit false
set_option maxRecDepth 1000000
namespace Go.AR
open Go.Proofs
noncomputable section
theorem run14 : outV (calls Ck 1000000 (pos 14) [] .lf .h) = .b true := by kernel_rfl
theorem pKnown {Z : Nat → Option Obj} (hZ : ZOk Z) : PureOk Tryz.prog (LOk Tryz.prog Z) 14 [] (.b true) := memoB (Ck_ok hZ) run14
end
end Go.AR
