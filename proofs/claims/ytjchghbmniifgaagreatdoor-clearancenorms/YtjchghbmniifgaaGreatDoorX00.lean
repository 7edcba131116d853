import Derived.Test.YtjchghbmniifgaaGreatDoorTie
import Derived.Test.YtjchghbmniifgaaGreatDoorCards
import Derived.SevenTiedAt
import Derived.JoinedOf
set_option linter.unusedVariables false
set_option linter.unusedSimpArgs false
set_option linter.unusedSectionVars false
set_option linter.constructorNameAsVariable false
set_option linter.defProp false
set_option linter.unnecessarySimpa false
set_option autoImplicit false
set_option maxRecDepth 100000
namespace Go.Proofs.YtjchghbmniifgaaGreatDoor
theorem and2 {a b : Bool} (ha : a = true) (hb : b = true) : (a && b) = true := by rw [ha, hb]; rfl
theorem clearanceNorms_c0 : Rows.clearanceNormsRow.wf (OpenSpec.ofChange Rows.clearanceNormsSpec) = true := by kernel_rfl
theorem clearanceNorms_c1 : laidOutB Tryz.prog = true := by kernel_rfl
theorem clearanceNorms_c2 : mapsRowed Tryz.prog = true := by kernel_rfl
theorem clearanceNorms_c3 : Tryz.f3.params.all (Tryz.prog.readableRec ·) = true := by kernel_rfl
theorem clearanceNorms_c4 : namedTie Tryz.prog Rows.clearanceNormsRow.named Rows.clearanceNormsSpec.vars = true := by kernel_rfl
theorem clearanceNorms_c5 : (Rows.clearanceNormsRow.stops == []) = true := by kernel_rfl
theorem clearanceNorms_c6 : (Tryz.prog.stops == []) = true := by kernel_rfl
theorem clearanceNorms_c7 : (Rows.clearanceNormsRow.knobs == []) = true := by kernel_rfl
theorem clearanceNorms_c8 : (Tryz.prog.stopKnobs == []) = true := by kernel_rfl
theorem clearanceNorms_c9 : (Rows.clearanceNormsRow.inPlace == Tryz.prog.inPlace 3) = true := by kernel_rfl
theorem clearanceNorms_c10 : (Rows.clearanceNormsRow.unfollowed == Tryz.prog.unfollowed 3) = true := by kernel_rfl
theorem clearanceNorms_c11 : (Rows.clearanceNormsRow.recurses == Tryz.prog.recurses 3) = true := by kernel_rfl
theorem clearanceNorms_c12 : (Rows.clearanceNormsRow.named == Tryz.prog.varsNamed 3) = true := by kernel_rfl
theorem clearanceNorms_c13 : (Rows.clearanceNormsRow.maps == (Tryz.f3.params.toList ++ Rows.clearanceNormsSpec.plain.varTypes Tryz.prog).any (Tryz.prog.mapsRec ·)) = true := by kernel_rfl
theorem clearanceNorms_c14 : (Rows.clearanceNormsRow.ifaces == (Tryz.f3.params.toList ++ Rows.clearanceNormsSpec.plain.varTypes Tryz.prog).any (Tryz.prog.ifacesRec ·)) = true := by kernel_rfl
theorem clearanceNorms_c15 : (Rows.clearanceNormsRow.mapsOut == Tryz.prog.mapsAmong Tryz.f3.resultTypes.toList) = true := by kernel_rfl
theorem clearanceNorms_c16 : (Rows.clearanceNormsRow.loops == (Tryz.f3.params.toList ++ Rows.clearanceNormsSpec.plain.varTypes Tryz.prog).any (Tryz.prog.loopsFrom ·)) = true := by kernel_rfl
theorem clearanceNorms_c17 : (Rows.clearanceNormsRow.wideKeys == (Tryz.f3.params.toList ++ Rows.clearanceNormsSpec.plain.varTypes Tryz.prog ++ Tryz.f3.resultTypes.toList).any (Tryz.prog.wideKeysFrom ·)) = true := by kernel_rfl
theorem clearanceNorms_c18 : Rows.clearanceNormsSpec.vars.all (Tryz.prog.varReadable ·) = true := by kernel_rfl
theorem clearanceNorms_c19 : Tryz.f3.resultTypes.all (fun t => Tryz.prog.readableRec t && decide (t < Tryz.prog.types.size)) = true := by kernel_rfl
theorem clearanceNorms_c20 : (Rows.clearanceNormsRow.ifacesOut == Tryz.f3.resultTypes.toList.any (Tryz.prog.ifacesRec ·)) = true := by kernel_rfl
theorem clearanceNorms_c21 : (Rows.clearanceNormsRow.loopsOut == Tryz.f3.resultTypes.toList.any (Tryz.prog.loopsFrom ·)) = true := by kernel_rfl
theorem clearanceNorms_c22 : (Rows.clearanceNormsRow.plainKeys == Tryz.prog.plainKeys) = true := by kernel_rfl
theorem clearanceNorms_c23 : Rows.clearanceNormsRow.shortTexts.isNone = true := by kernel_rfl
theorem clearanceNorms_c24 : Tryz.prog.stopsHeard = true := by kernel_rfl
theorem clearanceNorms_c25 : Tryz.prog.mayEnter = true := by kernel_rfl
theorem clearanceNorms_c26 : (Rows.clearanceNormsRow.lifted == Tryz.prog.liftsFinal) = true := by kernel_rfl
theorem clearanceNorms_c27 : (Tryz.prog.make == some Rows.clearanceNormsRow.make) = true := by kernel_rfl
theorem clearanceNorms_c28 : (Rows.clearanceNormsRow.kinds == (if Rows.clearanceNormsRow.domain.isEmpty then [] else Tryz.f3.params.toList.map fun t => match Tryz.prog.underlying t with | some (.int k) => some k | _ => none)) = true := by kernel_rfl
theorem clearanceNorms_c29 : (Rows.clearanceNormsRow.pinned == Rows.clearanceNormsRow.pinnedBy) = true := by kernel_rfl
theorem clearanceNorms_c30 : (Rows.clearanceNormsRow.veiled == (Tryz.f3.params.toList ++ Rows.clearanceNormsSpec.plain.varTypes Tryz.prog ++ Tryz.f3.resultTypes.toList).any (Tryz.prog.veiledRec ·)) = true := by kernel_rfl
theorem clearanceNorms_c31 : Rows.clearanceNormsRow.veiledFits Tryz.prog Tryz.f3.params.toList (Tryz.f3.params.toList ++ Rows.clearanceNormsSpec.plain.varTypes Tryz.prog ++ Tryz.f3.resultTypes.toList) = true := by kernel_rfl
theorem clearanceNorms_facts : joinedFacts Tryz.prog 3 Tryz.f3 Rows.clearanceNormsSpec Rows.clearanceNormsRow = true := (and2 (and2 (and2 (and2 (and2 (and2 (and2 (and2 (and2 (and2 (and2 (and2 (and2 (and2 (and2 (and2 (and2 (and2 (and2 (and2 (and2 (and2 (and2 (and2 (and2 (and2 (and2 (and2 (and2 (and2 (and2 clearanceNorms_c0 clearanceNorms_c1) clearanceNorms_c2) clearanceNorms_c3) clearanceNorms_c4) clearanceNorms_c5) clearanceNorms_c6) clearanceNorms_c7) clearanceNorms_c8) clearanceNorms_c9) clearanceNorms_c10) clearanceNorms_c11) clearanceNorms_c12) clearanceNorms_c13) clearanceNorms_c14) clearanceNorms_c15) clearanceNorms_c16) clearanceNorms_c17) clearanceNorms_c18) clearanceNorms_c19) clearanceNorms_c20) clearanceNorms_c21) clearanceNorms_c22) clearanceNorms_c23) clearanceNorms_c24) clearanceNorms_c25) clearanceNorms_c26) clearanceNorms_c27) clearanceNorms_c28) clearanceNorms_c29) clearanceNorms_c30) clearanceNorms_c31)
theorem clearanceNorms_named : Tryz.prog.funcNamed Rows.clearanceNormsRow.func = some 3 := by kernel_rfl
theorem clearanceNorms_byText : Rows.clearanceNormsRow.wfByText (OpenSpec.ofChange Rows.clearanceNormsSpec) = true := by kernel_rfl
theorem clearanceNorms_main : Tryz.pinned.checked.prog.mainIs = some (true, "062b658aabb290443ba23c78a64e7e77b16ab7ecb00fe0a681fc19af9b971ec8".toList) := by kernel_rfl
theorem clearanceNorms_looks : true = Tryz.prog.looks [] := by kernel_rfl
theorem clearanceNorms_goes : false = Rows.clearanceNormsRow.goesBy Tryz.pinned.checked.prog := by kernel_rfl
theorem clearanceNorms_stand : ([23,23].all fun u => !Tryz.prog.wantsStandIn u) = true := by kernel_rfl
theorem clearanceNorms_noInit : Tryz.checked.prog.inits.idxOf? 3 = none := by kernel_rfl
theorem clearanceNorms_inst : Tryz.f3.isInstance Tryz.pinned.checked.prog Rows.clearanceNormsRow.origin Rows.clearanceNormsRow.targs := of_decide_eq_true (by kernel_rfl)
theorem clearanceNorms_wrap : Tryz.f3.isWrapper Tryz.pinned.checked.prog Rows.clearanceNormsRow.wrapper Rows.clearanceNormsRow.mainSum := by unfold Func.isWrapper; first | (rw [if_pos (by decide +kernel)]; kernel_rfl) | (rw [if_neg (by decide +kernel)]; exact ⟨rfl, rfl⟩)
end Go.Proofs.YtjchghbmniifgaaGreatDoor
