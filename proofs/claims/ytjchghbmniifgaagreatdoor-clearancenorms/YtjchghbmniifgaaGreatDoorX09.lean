import Derived.Test.YtjchghbmniifgaaGreatDoorX05
import Derived.Test.YtjchghbmniifgaaGreatDoorX07
import Derived.Test.YtjchghbmniifgaaGreatDoorX06
import Derived.Test.YtjchghbmniifgaaGreatDoorX08
set_option linter.unusedVariables false
set_option linter.unusedSimpArgs false
set_option linter.unusedSectionVars false
set_option linter.constructorNameAsVariable false
set_option linter.defProp false
set_option linter.unnecessarySimpa false
set_option autoImplicit false
set_option maxRecDepth 100000
namespace Go.AR
open Go.Proofs
noncomputable section
def fnsCm : Tr Fn := (.nd (.nd (.nd (.nd (.nd (.nd (.nd (.nd (.nd .lf (some c255) .lf) none .lf) none .lf) none (.nd (.nd (.nd .lf (some c287) .lf) none .lf) none (.nd .lf (some c223) .lf))) (some c15) (.nd (.nd (.nd (.nd .lf (some c271) .lf) (some c143) .lf) (some c79) (.nd .lf (some c207) .lf)) (some c47) .lf)) none (.nd (.nd (.nd (.nd .lf (some c135) .lf) (some c71) .lf) none (.nd (.nd .lf (some c167) .lf) none (.nd .lf (some c231) .lf))) none (.nd (.nd .lf none (.nd .lf (some c215) .lf)) (some c55) (.nd (.nd .lf (some c183) .lf) none .lf)))) none (.nd (.nd (.nd (.nd (.nd (.nd .lf (some c259) .lf) none .lf) (some c67) .lf) (some c35) (.nd .lf none (.nd .lf (some c227) .lf))) none (.nd (.nd .lf none (.nd .lf (some c211) .lf)) (some c51) (.nd (.nd .lf (some c179) .lf) (some c115) .lf))) none (.nd (.nd (.nd (.nd (.nd .lf (some c267) .lf) (some c139) .lf) (some c75) .lf) none (.nd .lf (some c107) .lf)) none (.nd (.nd .lf (some c91) (.nd .lf (some c219) .lf)) (some FYo) .lf)))) none (.nd (.nd (.nd (.nd (.nd (.nd .lf (some c129) .lf) none .lf) none .lf) (some c17) (.nd (.nd (.nd (.nd .lf (some c273) .lf) (some FYau) .lf) none (.nd .lf (some c209) .lf)) none (.nd (.nd .lf (some c177) .lf) (some c113) .lf))) none (.nd (.nd (.nd (.nd (.nd .lf (some c265) .lf) none .lf) none .lf) none (.nd (.nd .lf (some c169) .lf) (some c105) .lf)) none (.nd (.nd .lf (some c89) (.nd .lf (some c217) .lf)) (some c57) .lf))) none (.nd (.nd (.nd (.nd .lf (some c69) .lf) none (.nd .lf none (.nd .lf (some c229) .lf))) none (.nd (.nd .lf none (.nd .lf (some c213) .lf)) none .lf)) none (.nd (.nd (.nd .lf (some c77) (.nd .lf (some c205) .lf)) (some c45) (.nd (.nd .lf (some c173) .lf) (some c109) .lf)) (some c29) (.nd (.nd .lf (some c93) (.nd .lf (some c221) .lf)) none .lf))))) none (.nd (.nd (.nd (.nd (.nd (.nd (.nd (.nd .lf (some c256) .lf) (some c128) .lf) (some c64) .lf) none (.nd (.nd (.nd .lf (some c288) .lf) none .lf) (some c96) (.nd .lf (some c224) .lf))) (some c16) (.nd (.nd (.nd (.nd .lf (some c272) .lf) (some FYz) .lf) (some c80) .lf) none (.nd .lf (some c112) .lf))) none (.nd (.nd (.nd (.nd (.nd .lf (some c264) .lf) none .lf) (some c72) .lf) none (.nd (.nd (.nd .lf (some c296) .lf) (some c168) .lf) (some c104) .lf)) (some c24) (.nd (.nd .lf (some c88) (.nd .lf (some c216) .lf)) (some c56) .lf))) none (.nd (.nd (.nd (.nd (.nd (.nd .lf (some c260) .lf) none .lf) (some c68) .lf) (some c36) (.nd .lf none (.nd .lf (some c228) .lf))) (some c20) (.nd (.nd .lf none (.nd .lf (some c212) .lf)) (some c52) (.nd (.nd .lf (some c180) .lf) (some c116) .lf))) none (.nd (.nd (.nd (.nd (.nd .lf (some c268) .lf) none .lf) (some c76) (.nd .lf (some c204) .lf)) none (.nd (.nd .lf (some c172) .lf) (some c108) .lf)) none (.nd (.nd .lf none (.nd .lf (some c220) .lf)) none (.nd (.nd .lf (some c188) .lf) none .lf))))) none (.nd (.nd (.nd (.nd (.nd (.nd .lf (some c130) .lf) (some FYi) .lf) (some c34) .lf) none (.nd (.nd (.nd (.nd .lf (some c274) .lf) none .lf) none (.nd .lf (some c210) .lf)) none (.nd (.nd (.nd .lf (some c306) .lf) (some c178) .lf) (some c114) .lf))) none (.nd (.nd (.nd (.nd (.nd .lf (some c266) .lf) (some c138) .lf) (some c74) .lf) none (.nd .lf (some c106) .lf)) (some c26) (.nd (.nd (.nd (.nd .lf (some c282) .lf) none .lf) (some c90) (.nd .lf (some c218) .lf)) none .lf))) none (.nd (.nd (.nd (.nd (.nd .lf (some c134) .lf) none .lf) (some c38) .lf) none (.nd (.nd .lf none (.nd .lf (some c214) .lf)) (some c54) (.nd (.nd .lf (some c182) .lf) none .lf))) (some c14) (.nd (.nd (.nd .lf (some c78) (.nd .lf (some c206) .lf)) (some FYab) (.nd .lf (some c110) .lf)) none (.nd (.nd (.nd (.nd .lf (some c286) .lf) none .lf) (some c94) (.nd .lf (some c222) .lf)) none (.nd .lf none (.nd .lf (some c254) .lf))))))))
def orcCm : Tr (List AV → Tr Blk → Pos → Res) := (.nd (.nd (.nd (.nd (.nd (.nd (.nd .lf (some orcQDen) .lf) none (.nd .lf (some orcSign) .lf)) none (.nd .lf none (.nd .lf (some orcQMul) .lf))) none (.nd (.nd (.nd (.nd (.nd .lf (some orcZeros) .lf) none .lf) none .lf) none (.nd .lf (some orcDivMod) .lf)) none .lf)) none (.nd (.nd .lf none (.nd (.nd .lf (some orcFrom) .lf) none .lf)) none (.nd (.nd .lf (some orcQFrom) .lf) none .lf))) none (.nd (.nd (.nd (.nd (.nd (.nd (.nd .lf (some orcCcross) .lf) none .lf) (some orcAdd) .lf) none .lf) none (.nd (.nd .lf (some orcAbs) .lf) none .lf)) none (.nd (.nd .lf (some orcQSub) .lf) none .lf)) none (.nd (.nd (.nd (.nd (.nd (.nd .lf (some orcCdot) .lf) none .lf) none .lf) none (.nd .lf (some orcNeg) .lf)) (some orcQAdd) (.nd (.nd .lf (some orcText) .lf) none .lf)) none (.nd .lf none (.nd .lf (some orcCompare) .lf))))) none (.nd (.nd (.nd .lf none (.nd (.nd .lf (some orcQAbs) .lf) none .lf)) none (.nd (.nd .lf none (.nd (.nd .lf (some orcRead) .lf) none .lf)) none (.nd .lf none (.nd .lf (some orcQWhole) .lf)))) none (.nd (.nd (.nd (.nd (.nd (.nd (.nd .lf (some orcCsub) .lf) none .lf) none .lf) none .lf) (some orcQCmp) (.nd (.nd .lf (some orcQNeg) .lf) none .lf)) none (.nd (.nd .lf (some orcQDiv) .lf) none (.nd .lf (some orcQMax) .lf))) none (.nd (.nd (.nd (.nd (.nd (.nd .lf (some orcSide) .lf) none .lf) (some orcQSign) .lf) none (.nd .lf (some orcGcd) (.nd .lf (some orcInt) .lf))) none .lf) none (.nd (.nd (.nd (.nd .lf (some orcSub) .lf) none .lf) none .lf) none (.nd .lf (some orcMul) .lf))))))
def lCm : List (Nat × Fn) := [(14, c14), (15, c15), (16, c16), (17, c17), (20, c20), (24, c24), (26, c26), (29, c29), (34, c34), (35, c35), (36, c36), (38, c38), (45, c45), (46, FYab), (47, c47), (51, c51), (52, c52), (54, c54), (55, c55), (56, c56), (57, c57), (59, FYo), (64, c64), (66, FYi), (67, c67), (68, c68), (69, c69), (71, c71), (72, c72), (74, c74), (75, c75), (76, c76), (77, c77), (78, c78), (79, c79), (80, c80), (88, c88), (89, c89), (90, c90), (91, c91), (93, c93), (94, c94), (96, c96), (104, c104), (105, c105), (106, c106), (107, c107), (108, c108), (109, c109), (110, c110), (112, c112), (113, c113), (114, c114), (115, c115), (116, c116), (128, c128), (129, c129), (130, c130), (134, c134), (135, c135), (138, c138), (139, c139), (143, c143), (144, FYz), (145, FYau), (167, c167), (168, c168), (169, c169), (172, c172), (173, c173), (177, c177), (178, c178), (179, c179), (180, c180), (182, c182), (183, c183), (188, c188), (204, c204), (205, c205), (206, c206), (207, c207), (209, c209), (210, c210), (211, c211), (212, c212), (213, c213), (214, c214), (215, c215), (216, c216), (217, c217), (218, c218), (219, c219), (220, c220), (221, c221), (222, c222), (223, c223), (224, c224), (227, c227), (228, c228), (229, c229), (231, c231), (254, c254), (255, c255), (256, c256), (259, c259), (260, c260), (264, c264), (265, c265), (266, c266), (267, c267), (268, c268), (271, c271), (272, c272), (273, c273), (274, c274), (282, c282), (286, c286), (287, c287), (288, c288), (296, c296), (306, c306)]
def mCm : List (Nat × (List AV → Tr Blk → Pos → Res)) := [(18, orcQCmp), (21, orcQAdd), (40, orcQAbs), (41, orcQSub), (42, orcQDiv), (43, orcQFrom), (58, orcQMax), (60, orcQWhole), (61, orcCompare), (62, orcMul), (63, orcQDen), (65, orcAdd), (70, orcQSign), (81, orcAbs), (82, orcQNeg), (83, orcFrom), (84, orcRead), (85, orcText), (95, orcSign), (101, orcNeg), (102, orcGcd), (103, orcDivMod), (111, orcQMul), (142, orcSub), (230, orcInt), (257, orcCcross), (258, orcCsub), (261, orcCdot), (262, orcSide), (263, orcZeros)]
theorem fnsCm_eq : fnsCm = mkTab lCm := by kernel_rfl
theorem orcCm_eq : orcCm = mkTab mCm := by kernel_rfl
theorem lCm_ok : AllOk Tryz.prog lCm := .cons ok14 (.cons ok15 (.cons ok16 (.cons ok17 (.cons ok20 (.cons ok24 (.cons ok26 (.cons ok29 (.cons ok34 (.cons ok35 (.cons ok36 (.cons ok38 (.cons ok45 (.cons ok46 (.cons ok47 (.cons ok51 (.cons ok52 (.cons ok54 (.cons ok55 (.cons ok56 (.cons ok57 (.cons ok59 (.cons ok64 (.cons ok66 (.cons ok67 (.cons ok68 (.cons ok69 (.cons ok71 (.cons ok72 (.cons ok74 (.cons ok75 (.cons ok76 (.cons ok77 (.cons ok78 (.cons ok79 (.cons ok80 (.cons ok88 (.cons ok89 (.cons ok90 (.cons ok91 (.cons ok93 (.cons ok94 (.cons ok96 (.cons ok104 (.cons ok105 (.cons ok106 (.cons ok107 (.cons ok108 (.cons ok109 (.cons ok110 (.cons ok112 (.cons ok113 (.cons ok114 (.cons ok115 (.cons ok116 (.cons ok128 (.cons ok129 (.cons ok130 (.cons ok134 (.cons ok135 (.cons ok138 (.cons ok139 (.cons ok143 (.cons ok144 (.cons ok145 (.cons ok167 (.cons ok168 (.cons ok169 (.cons ok172 (.cons ok173 (.cons ok177 (.cons ok178 (.cons ok179 (.cons ok180 (.cons ok182 (.cons ok183 (.cons ok188 (.cons ok204 (.cons ok205 (.cons ok206 (.cons ok207 (.cons ok209 (.cons ok210 (.cons ok211 (.cons ok212 (.cons ok213 (.cons ok214 (.cons ok215 (.cons ok216 (.cons ok217 (.cons ok218 (.cons ok219 (.cons ok220 (.cons ok221 (.cons ok222 (.cons ok223 (.cons ok224 (.cons ok227 (.cons ok228 (.cons ok229 (.cons ok231 (.cons ok254 (.cons ok255 (.cons ok256 (.cons ok259 (.cons ok260 (.cons ok264 (.cons ok265 (.cons ok266 (.cons ok267 (.cons ok268 (.cons ok271 (.cons ok272 (.cons ok273 (.cons ok274 (.cons ok282 (.cons ok286 (.cons ok287 (.cons ok288 (.cons ok296 (.cons ok306 .nil))))))))))))))))))))))))))))))))))))))))))))))))))))))))))))))))))))))))))))))))))))))))))))))))))))))))))))))))))))))))
theorem mCm_ok {Z : Nat → Option Obj} (hZ : ZOk Z) : AllOrc Tryz.prog (LOk Tryz.prog Z) mCm := .cons (orcQCmp_ok hZ) (.cons (orcQAdd_ok hZ) (.cons (orcQAbs_ok hZ) (.cons (orcQSub_ok hZ) (.cons (orcQDiv_ok hZ) (.cons (orcQFrom_ok hZ) (.cons (orcQMax_ok hZ) (.cons (orcQWhole_ok hZ) (.cons (orcCompare_ok hZ) (.cons (orcMul_ok hZ) (.cons (orcQDen_ok hZ) (.cons (orcAdd_ok hZ) (.cons (orcQSign_ok hZ) (.cons (orcAbs_ok hZ) (.cons (orcQNeg_ok hZ) (.cons (orcFrom_ok hZ) (.cons (orcRead_ok hZ) (.cons (orcText_ok hZ) (.cons (orcSign_ok hZ) (.cons (orcNeg_ok hZ) (.cons (orcGcd_ok hZ) (.cons (orcDivMod_ok hZ) (.cons (orcQMul_ok hZ) (.cons (orcSub_ok hZ) (.cons (orcInt_ok hZ) (.cons (orcCcross_ok hZ) (.cons (orcCsub_ok hZ) (.cons (orcCdot_ok hZ) (.cons (orcSide_ok hZ) (.cons (orcZeros_ok hZ) .nil)))))))))))))))))))))))))))))
def Cm : Ctx := ⟨fnsCm, orcCm⟩
theorem Cm_ok {Z : Nat → Option Obj} (hZ : ZOk Z) : CtxOk Tryz.prog (LOk Tryz.prog Z) Cm := ctx_ok fnsCm_eq orcCm_eq lCm_ok (mCm_ok hZ)
end
end Go.AR
namespace Go.AR
open Go.Proofs
noncomputable section
inductive Sh | p | n | sl (l : List Sh)
def zipF (f : Sh → AV → Option AV) (ss : List Sh) : List AV → Option (List AV) :=
  List.rec (fun l => List.casesOn l (some []) (fun _ _ => none)) (fun s _ ih l => List.casesOn l none (fun v t => match f s v, ih t with | some r, some q => some (r :: q) | _, _ => none)) ss
def slF (h : Tr Blk) (f : Sh → AV → Option AV) (L : List Sh) (v : AV) : Option AV :=
  match v with
  | .ns => some (.z false [] 0 false)
  | .sl b o n _ => (match cellsAt h b with
    | some l => (match sub o (n * L.length) l with
      | some l' => (match zipF f (rep n L) l' with | some r => some (.z false r n false) | none => none)
      | none => none)
    | none => none)
  | .z false l n x => bif puL false l then some (.z false l n false) else none
  | _ => none
def fzS (h : Tr Blk) (d : Nat) : Sh → AV → Option AV :=
  Nat.rec (fun _ _ => none) (fun _ ih s => match s with
    | .p => fun v => bif pu false v then some v else none
    | .n => fun v => fz0 h v
    | .sl L => fun v => slF h ih L v) d
def fzA (h : Tr Blk) (d : Nat) (L : List Sh) (v : AV) : Option AV := match v with | .a l => (match zipF (fzS h d) L l with | some r => some (.a r) | none => none) | _ => none
def fzR (d : Nat) (L : List Sh) (r : Res) : Option AV := match r with | .ok v h _ => fzA h d L v | .bad => none
theorem zipF_ok {h : Tr Blk} {f : Sh → AV → Option AV} (hf : ∀ s v r, f s v = some r → Fz false h v r) : ∀ {ss : List Sh} {l r : List AV}, zipF f ss l = some r → FzL false h l r
  | [], [], r, hz => by cases hz; exact .nil
  | [], _ :: _, r, hz => by cases hz
  | s :: ss, [], r, hz => by cases hz
  | s :: ss, v :: l, r, hz => by
    have hz : (match f s v, zipF f ss l with | some r, some q => some (r :: q) | _, _ => none) = some r := hz
    split at hz
    · rename_i x q h1 h2
      cases hz
      exact .cons (hf _ _ _ h1) (zipF_ok hf h2)
    · cases hz
theorem slF_ok {h : Tr Blk} {f : Sh → AV → Option AV} (hf : ∀ s v r, f s v = some r → Fz false h v r) {L : List Sh} {v r : AV} (hs : slF h f L v = some r) : Fz false h v r := by
  unfold slF at hs
  split at hs
  · cases hs; exact .nil
  · rename_i b o n c
    split at hs
    · rename_i l hl
      obtain ⟨gr, hb⟩ := cellsAt_some hl
      split at hs
      · rename_i l' hq
        split at hs
        · rename_i r' hz
          cases hs
          exact .sl b o n c L.length gr l l' r' hb hq (zipF_ok hf hz)
        · cases hs
      · cases hs
    · cases hs
  · rename_i l n x
    cases hp : puL false l with
    | false => rw [hp] at hs; cases hs
    | true => rw [hp] at hs; cases hs; exact .room false l n x (by simp [pu, hp])
  · cases hs
theorem fzS_ok {h : Tr Blk} : ∀ (d : Nat) (s : Sh) (v r : AV), fzS h d s v = some r → Fz false h v r
  | 0, s, v, r, hf => by cases hf
  | d + 1, .p, v, r, hf => by
    have hf : (bif pu false v then some v else none) = some r := hf
    cases hp : pu false v with
    | false => rw [hp] at hf; cases hf
    | true => rw [hp] at hf; cases hf; exact .same _ hp
  | d + 1, .n, v, r, hf => fz0_ok (show fz0 h v = some r from hf)
  | d + 1, .sl L, v, r, hf => slF_ok (fzS_ok d) (show slF h (fzS h d) L v = some r from hf)
theorem fzA_ok {h : Tr Blk} {d : Nat} {L : List Sh} {v r : AV} (hf : fzA h d L v = some r) : Fz false h v r := by
  unfold fzA at hf
  split at hf
  · split at hf
    · rename_i hz; cases hf; exact .a _ _ (zipF_ok (fzS_ok d) hz)
    · cases hf
  · cases hf
def outV (r : Res) : AV := match r with | .ok v _ _ => v | .bad => .u
section
variable {Z : Nat → Option Obj} (hZ : ZOk Z) {C : Ctx} (hC : CtxOk Tryz.prog (LOk Tryz.prog Z) C)
include hC
theorem memoA {k f d : Nat} {us : List AV} {L : List Sh} {r : AV} (h : fzR d L (calls C k (pos f) us .lf .h) = some r) : PureOk Tryz.prog (LOk Tryz.prog Z) f us r := by
  unfold fzR at h
  split at h
  · rename_i v h' nx' hx
    exact pure_of_calls mixedT hC hx (fzA_ok h)
  · cases h
theorem memoB {k f : Nat} {us : List AV} {x : Bool} (h : outV (calls C k (pos f) us .lf .h) = .b x) : PureOk Tryz.prog (LOk Tryz.prog Z) f us (.b x) := by
  unfold outV at h
  split at h
  · rename_i v h' nx' hx
    subst h
    exact pure_of_calls mixedT hC hx (.same _ rfl)
  · cases h
end
end
end Go.AR
