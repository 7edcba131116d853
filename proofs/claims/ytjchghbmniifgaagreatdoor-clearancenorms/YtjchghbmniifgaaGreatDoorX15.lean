import Derived.Test.YtjchghbmniifgaaGreatDoorX07
import Derived.Test.YtjchghbmniifgaaGreatDoorX14
import Derived.Test.YtjchghbmniifgaaGreatDoorProg
import Derived.Test.YtjchghbmniifgaaGreatDoorX05
import Derived.Test.YtjchghbmniifgaaGreatDoorX04
set_option linter.unusedVariables false
set_option linter.unusedSimpArgs false
set_option linter.unusedSectionVars false
set_option linter.constructorNameAsVariable false
set_option linter.defProp false
set_option linter.unnecessarySimpa false
set_option autoImplicit false
set_option maxRecDepth 100000
namespace Go.AR
open Go.Proofs
noncomputable section
theorem orcKnown_ok {Z : Nat → Option Obj} (hZ : ZOk Z) : OrcOk Tryz.prog (LOk Tryz.prog Z) 14 orcKnown := orcS_ok ⟨_, _, Tryz.func14, by kernel_rfl, rfl⟩ fun vs r h => by
  unfold f14 at h
  split at h
  · cases h; exact pKnown hZ
  · cases h
end
end Go.AR
namespace Go.AR
open Go.Proofs
noncomputable section
theorem okn15 : FnOk Tryz.prog 15 FYp := compF_ok (np := 1) Tryz.func15 (by kernel_rfl)
theorem okn64 : FnOk Tryz.prog 64 FYq := compF_ok (np := 3) Tryz.func64 (by kernel_rfl)
theorem okn20 : FnOk Tryz.prog 20 FYal := compF_ok (np := 2) Tryz.func20 (by kernel_rfl)
theorem okn22 : FnOk Tryz.prog 22 FYam := compF_ok (np := 1) Tryz.func22 (by kernel_rfl)
theorem okn16 : FnOk Tryz.prog 16 FYad := compF_ok (np := 1) Tryz.func16 (by kernel_rfl)
theorem okn17 : FnOk Tryz.prog 17 FYae := compF_ok (np := 1) Tryz.func17 (by kernel_rfl)
theorem okn19 : FnOk Tryz.prog 19 FYj := compF_ok (np := 2) Tryz.func19 (by kernel_rfl)
theorem okn3 : FnOk Tryz.prog 3 FYb := compF_ok (np := 2) Tryz.func3 (by kernel_rfl)
end
end Go.AR
namespace Go.AR
open Go.Proofs
noncomputable section
def fnsCn : Tr Fn := (.nd (.nd (.nd (.nd (.nd .lf (some FYp) .lf) none .lf) (some FYb) (.nd (.nd .lf (some FYj) .lf) none (.nd .lf none (.nd .lf (some FYo) .lf)))) none (.nd (.nd (.nd .lf (some FYae) .lf) none .lf) none .lf)) none (.nd (.nd (.nd (.nd (.nd (.nd .lf (some FYq) .lf) none .lf) (some FYad) .lf) none .lf) none (.nd (.nd .lf (some FYal) .lf) none .lf)) none (.nd .lf none (.nd (.nd .lf (some FYam) .lf) none .lf))))
def orcCn : Tr (List AV → Tr Blk → Pos → Res) := (.nd (.nd (.nd .lf none (.nd .lf none (.nd (.nd .lf (some orcQFrom) .lf) none .lf))) none (.nd (.nd .lf none (.nd (.nd .lf (some orcQSub) .lf) none .lf)) none (.nd (.nd .lf (some orcQAdd) .lf) none .lf))) none (.nd (.nd (.nd .lf none (.nd (.nd .lf (some orcQAbs) .lf) none .lf)) none .lf) none (.nd (.nd (.nd .lf (some orcQCmp) .lf) none (.nd .lf none (.nd .lf (some orcQMax) .lf))) none (.nd .lf (some orcKnown) .lf))))
def lCn : List (Nat × Fn) := [(3, FYb), (15, FYp), (16, FYad), (17, FYae), (19, FYj), (20, FYal), (22, FYam), (59, FYo), (64, FYq)]
def mCn : List (Nat × (List AV → Tr Blk → Pos → Res)) := [(14, orcKnown), (18, orcQCmp), (21, orcQAdd), (40, orcQAbs), (41, orcQSub), (43, orcQFrom), (58, orcQMax)]
theorem fnsCn_eq : fnsCn = mkTab lCn := by kernel_rfl
theorem orcCn_eq : orcCn = mkTab mCn := by kernel_rfl
theorem lCn_ok : AllOk Tryz.prog lCn := .cons okn3 (.cons okn15 (.cons okn16 (.cons okn17 (.cons okn19 (.cons okn20 (.cons okn22 (.cons ok59 (.cons okn64 .nil))))))))
theorem mCn_ok {Z : Nat → Option Obj} (hZ : ZOk Z) : AllOrc Tryz.prog (LOk Tryz.prog Z) mCn := .cons (orcKnown_ok hZ) (.cons (orcQCmp_ok hZ) (.cons (orcQAdd_ok hZ) (.cons (orcQAbs_ok hZ) (.cons (orcQSub_ok hZ) (.cons (orcQFrom_ok hZ) (.cons (orcQMax_ok hZ) .nil))))))
def Cn : Ctx := ⟨fnsCn, orcCn⟩
theorem Cn_ok {Z : Nat → Option Obj} (hZ : ZOk Z) : CtxOk Tryz.prog (LOk Tryz.prog Z) Cn := ctx_ok fnsCn_eq orcCn_eq lCn_ok (mCn_ok hZ)
end
end Go.AR
namespace Go.AR
open Go.Proofs
noncomputable section
theorem ownN : NOwn Cn := ⟨⟨by kernel_rfl, by kernel_rfl, by kernel_rfl, by kernel_rfl, by kernel_rfl, by kernel_rfl⟩, by kernel_rfl, ⟨by kernel_rfl, by kernel_rfl⟩, ⟨by kernel_rfl, by kernel_rfl⟩, ⟨by kernel_rfl, by kernel_rfl⟩, ⟨by kernel_rfl, by kernel_rfl⟩, ⟨by kernel_rfl, by kernel_rfl⟩, ⟨by kernel_rfl, by kernel_rfl⟩, ⟨by kernel_rfl, by kernel_rfl⟩, ⟨by kernel_rfl, by kernel_rfl⟩, ⟨by kernel_rfl, by kernel_rfl⟩⟩
theorem pNorms {Z : Nat → Option Obj} (hZ : ZOk Z) {a b c d e f : Int} (ha : byte a) (hb : byte b) (hc : byte c) (hd : byte d) (he : byte e) (hf : byte f) :
    PureOk Tryz.prog (LOk Tryz.prog Z) 3 [b3 .i16 a b c, b3 .i16 d e f] (.b true) :=
  pure0 mixedT (Cn_ok hZ) (law_spec ownN ha hb hc hd he hf fun h' nx' _ => .same _ rfl)
end
end Go.AR
