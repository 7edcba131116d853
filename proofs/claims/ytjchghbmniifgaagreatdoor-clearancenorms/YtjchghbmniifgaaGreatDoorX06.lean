import Derived.Test.YtjchghbmniifgaaGreatDoorX04
import Derived.Test.YtjchghbmniifgaaGreatDoorProg
import Derived.Test.YtjchghbmniifgaaGreatDoorX05
set_option linter.unusedVariables false
set_option linter.unusedSimpArgs false
set_option linter.unusedSectionVars false
set_option linter.constructorNameAsVariable false
set_option linter.defProp false
set_option linter.unnecessarySimpa false
set_option autoImplicit false
namespace Go.AR
noncomputable section
def Yak2 : List Op := [⟨(some (pos 0)), none, (.alloc [.b false, .ns]), []⟩]
@[go_sem] def wYak2 := eRun Yak2.eq_1
def Yak1 : AC := .reg (Yak2 ++ [])
@[go_sem] def wYak1 := eReg Yak1.eq_1 rfl
def Yak7 : List Op := [⟨none, none, (.store 2), [(.t (pos 0)), (.t (pos 1))]⟩]
@[go_sem] def wYak7 := eRun Yak7.eq_1
def Yak6 : List Op := Yak7 ++ []
@[go_sem] def wYak6 := eCut Yak6.eq_1 rfl
def Yak5 : List Op := ⟨(some (pos 1)), none, (.call (pos nYy)), [(.c (.i .i64 (1)))]⟩ :: Yak6
@[go_sem] def wYak5 := eCall Yak5.eq_1
def Yak4 : AC := .reg ([] ++ Yak5)
@[go_sem] def wYak4 := eReg Yak4.eq_1 rfl
def Yak8 : AC := .ret
@[go_sem] def wYak8 := eRet Yak8.eq_1
def Yak3 : AC := .seq Yak4 Yak8
@[go_sem] def wYak3 := eSeq Yak3.eq_1
def Yak0 : AC := .seq Yak1 Yak3
@[go_sem] def wYak0 := eSeq Yak0.eq_1
def FYak : Fn := ⟨[], [.c (pos 0) true 2], Yak0⟩
def Yaf2 : List Op := [⟨(some (pos 1)), none, .box, [(.t (pos 0))]⟩, ⟨(some (pos 2)), none, .mv, [(.c (.b false))]⟩]
@[go_sem] def wYaf2 := eRun Yaf2.eq_1
def Yaf1 : AC := .reg (Yaf2 ++ [])
@[go_sem] def wYaf1 := eReg Yaf1.eq_1 rfl
def Yaf9 : List Stg := ([], [], none) :: []
@[go_sem] def wYaf9 := eEnd Yaf9.eq_1
def Yaf8 : List Stg := ([⟨9, [], ⟨(some (pos 12)), (some ((pos 7), false)), (.bin .eql 0 .i), [(.t (pos 11)), (.c (.i .i64 (0)))]⟩, false⟩, ⟨10, [], ⟨(some (pos 13)), none, .pick, [(.t (pos 7)), (.c (.b true)), (.t (pos 12))]⟩, false⟩], [], some ⟨11, [], ⟨(some (pos 2)), none, .mv, [(.t (pos 13))]⟩, true⟩) :: Yaf9
@[go_sem] def wYaf8 := eSop Yaf8.eq_1 rfl
def Yaf7 : List Stg := ([], [⟨6, [], ⟨(some (pos 9)), (some ((pos 7), false)), (.load true 2), [(.t (pos 8))]⟩, false⟩], some ⟨8, [], ⟨(some (pos 11)), (some ((pos 7), false)), (.call (pos nYk)), [(.t (pos 9)), (.t (pos 10))]⟩, true⟩) :: Yaf8
@[go_sem] def wYaf7 := eSgcall Yaf7.eq_1
def Yaf6 : List Stg := ([⟨3, [], ⟨(some (pos 6)), none, (.bin .eql 0 .i), [(.t (pos 5)), (.c (.i .i64 (0)))]⟩, false⟩, ⟨4, [], ⟨(some (pos 7)), none, .mv, [(.t (pos 6))]⟩, false⟩, ⟨5, [], ⟨(some (pos 8)), (some ((pos 7), false)), (.faddr 2), [(.t (pos 1))]⟩, false⟩, ⟨6, [], ⟨(some (pos 9)), (some ((pos 7), false)), (.load true 2), [(.t (pos 8))]⟩, false⟩], [⟨6, [], ⟨(some (pos 9)), (some ((pos 7), false)), (.load true 2), [(.t (pos 8))]⟩, false⟩], some ⟨7, [], ⟨(some (pos 10)), (some ((pos 7), false)), (.call (pos nYak)), []⟩, true⟩) :: Yaf7
@[go_sem] def wYaf6 := eSgcall Yaf6.eq_1
def Yaf5 : List Stg := ([⟨0, [], ⟨(some (pos 3)), none, (.faddr 2), [(.t (pos 1))]⟩, false⟩, ⟨1, [], ⟨(some (pos 4)), none, (.load true 2), [(.t (pos 3))]⟩, false⟩], [⟨1, [], ⟨(some (pos 4)), none, (.load true 2), [(.t (pos 3))]⟩, false⟩], some ⟨2, [], ⟨(some (pos 5)), none, (.call (pos nYu)), [(.t (pos 4))]⟩, true⟩) :: Yaf6
@[go_sem] def wYaf5 := eScall Yaf5.eq_1
def Yaf4 : AC := .dreg Yaf5
@[go_sem] def wYaf4 := eDreg Yaf4.eq_1
def Yaf10 : AC := .ret
@[go_sem] def wYaf10 := eRet Yaf10.eq_1
def Yaf3 : AC := .seq Yaf4 Yaf10
@[go_sem] def wYaf3 := eSeq Yaf3.eq_1
def Yaf0 : AC := .seq Yaf1 Yaf3
@[go_sem] def wYaf0 := eSeq Yaf0.eq_1
def FYaf : Fn := ⟨[pos 0], [.t (pos 2)], Yaf0⟩
def Yx2 : List Op := [⟨(some (pos 1)), none, .box, [(.t (pos 0))]⟩, ⟨(some (pos 2)), none, (.alloc [.b false, .ns]), []⟩]
@[go_sem] def wYx2 := eRun Yx2.eq_1
def Yx1 : AC := .reg (Yx2 ++ [])
@[go_sem] def wYx1 := eReg Yx1.eq_1 rfl
def Yx8 : List Op := [⟨(some (pos 6)), none, (.bin .eql 0 .i), [(.t (pos 5)), (.c (.i .i64 (0)))]⟩]
@[go_sem] def wYx8 := eRun Yx8.eq_1
def Yx7 : List Op := Yx8 ++ []
@[go_sem] def wYx7 := eCut Yx7.eq_1 rfl
def Yx6 : List Op := ⟨(some (pos 5)), none, (.call (pos nYu)), [(.t (pos 4))]⟩ :: Yx7
@[go_sem] def wYx6 := eCall Yx6.eq_1
def Yx9 : List Op := [⟨(some (pos 3)), none, (.faddr 2), [(.t (pos 1))]⟩, ⟨(some (pos 4)), none, (.load true 2), [(.t (pos 3))]⟩]
@[go_sem] def wYx9 := eRun Yx9.eq_1
def Yx5 : AC := .reg (Yx9 ++ Yx6)
@[go_sem] def wYx5 := eReg Yx5.eq_1 rfl
def Yx15 : List Op := [⟨none, none, (.store 2), [(.t (pos 2)), (.t (pos 7))]⟩]
@[go_sem] def wYx15 := eRun Yx15.eq_1
def Yx14 : List Op := Yx15 ++ []
@[go_sem] def wYx14 := eCut Yx14.eq_1 rfl
def Yx13 : List Op := ⟨(some (pos 7)), none, (.call (pos nYak)), []⟩ :: Yx14
@[go_sem] def wYx13 := eCall Yx13.eq_1
def Yx12 : AC := .reg ([] ++ Yx13)
@[go_sem] def wYx12 := eReg Yx12.eq_1 rfl
def Yx16 : AC := .ret
@[go_sem] def wYx16 := eRet Yx16.eq_1
def Yx11 : AC := .seq Yx12 Yx16
@[go_sem] def wYx11 := eSeq Yx11.eq_1
def Yx17 : AC := .skip
@[go_sem] def wYx17 := eSkip Yx17.eq_1
def Yx10 : AC := .cond (.t (pos 6)) Yx11 Yx17
@[go_sem] def wYx10 := eCond Yx10.eq_1
def Yx4 : AC := .seq Yx5 Yx10
@[go_sem] def wYx4 := eSeq Yx4.eq_1
def Yx20 : List Op := [⟨(some (pos 8)), none, (.faddr 2), [(.t (pos 1))]⟩, ⟨(some (pos 9)), none, (.load true 2), [(.t (pos 8))]⟩, ⟨none, none, (.store 2), [(.t (pos 2)), (.t (pos 9))]⟩]
@[go_sem] def wYx20 := eRun Yx20.eq_1
def Yx19 : AC := .reg (Yx20 ++ [])
@[go_sem] def wYx19 := eReg Yx19.eq_1 rfl
def Yx21 : AC := .ret
@[go_sem] def wYx21 := eRet Yx21.eq_1
def Yx18 : AC := .seq Yx19 Yx21
@[go_sem] def wYx18 := eSeq Yx18.eq_1
def Yx3 : AC := .seq Yx4 Yx18
@[go_sem] def wYx3 := eSeq Yx3.eq_1
def Yx0 : AC := .seq Yx1 Yx3
@[go_sem] def wYx0 := eSeq Yx0.eq_1
def FYx : Fn := ⟨[pos 0], [.c (pos 2) true 2], Yx0⟩
def Yan2 : List Op := [⟨(some (pos 1)), none, .box, [(.t (pos 0))]⟩, ⟨(some (pos 2)), none, .mv, [(.c (.i .i64 (0)))]⟩]
@[go_sem] def wYan2 := eRun Yan2.eq_1
def Yan1 : AC := .reg (Yan2 ++ [])
@[go_sem] def wYan1 := eReg Yan1.eq_1 rfl
def Yan7 : List Op := [⟨(some (pos 2)), none, .mv, [(.t (pos 5))]⟩]
@[go_sem] def wYan7 := eRun Yan7.eq_1
def Yan6 : List Op := Yan7 ++ []
@[go_sem] def wYan6 := eCut Yan6.eq_1 rfl
def Yan5 : List Op := ⟨(some (pos 5)), none, (.call (pos nYu)), [(.t (pos 4))]⟩ :: Yan6
@[go_sem] def wYan5 := eCall Yan5.eq_1
def Yan8 : List Op := [⟨(some (pos 3)), none, (.faddr 0), [(.t (pos 1))]⟩, ⟨(some (pos 4)), none, (.load true 2), [(.t (pos 3))]⟩]
@[go_sem] def wYan8 := eRun Yan8.eq_1
def Yan4 : AC := .reg (Yan8 ++ Yan5)
@[go_sem] def wYan4 := eReg Yan4.eq_1 rfl
def Yan9 : AC := .ret
@[go_sem] def wYan9 := eRet Yan9.eq_1
def Yan3 : AC := .seq Yan4 Yan9
@[go_sem] def wYan3 := eSeq Yan3.eq_1
def Yan0 : AC := .seq Yan1 Yan3
@[go_sem] def wYan0 := eSeq Yan0.eq_1
def FYan : Fn := ⟨[pos 0], [.t (pos 2)], Yan0⟩
def Yr2 : List Op := [⟨(some (pos 2)), none, .box, [(.t (pos 0))]⟩, ⟨(some (pos 3)), none, .box, [(.t (pos 1))]⟩, ⟨(some (pos 4)), none, .mv, [(.c (.i .i64 (0)))]⟩]
@[go_sem] def wYr2 := eRun Yr2.eq_1
def Yr1 : AC := .reg (Yr2 ++ [])
@[go_sem] def wYr1 := eReg Yr1.eq_1 rfl
def Yr10 : List Op := [⟨(some (pos 10)), none, .pick, [(.t (pos 7)), (.t (pos 9)), (.c (.b false))]⟩]
@[go_sem] def wYr10 := eRun Yr10.eq_1
def Yr9 : List Op := Yr10 ++ []
@[go_sem] def wYr9 := eCut Yr9.eq_1 rfl
def Yr8 : List Op := ⟨(some (pos 9)), (some ((pos 7), true)), (.call (pos nYaf)), [(.t (pos 8))]⟩ :: Yr9
@[go_sem] def wYr8 := eGcall Yr8.eq_1
def Yr11 : List Op := [⟨(some (pos 7)), none, .mv, [(.t (pos 6))]⟩, ⟨(some (pos 8)), (some ((pos 7), true)), (.load true 4), [(.t (pos 3))]⟩]
@[go_sem] def wYr11 := eRun Yr11.eq_1
def Yr7 : List Op := Yr11 ++ Yr8
@[go_sem] def wYr7 := eCut Yr7.eq_1 rfl
def Yr6 : List Op := ⟨(some (pos 6)), none, (.call (pos nYaf)), [(.t (pos 5))]⟩ :: Yr7
@[go_sem] def wYr6 := eCall Yr6.eq_1
def Yr12 : List Op := [⟨(some (pos 5)), none, (.load true 4), [(.t (pos 2))]⟩]
@[go_sem] def wYr12 := eRun Yr12.eq_1
def Yr5 : AC := .reg (Yr12 ++ Yr6)
@[go_sem] def wYr5 := eReg Yr5.eq_1 rfl
def Yr18 : List Op := [⟨(some (pos 4)), none, .mv, [(.t (pos 15))]⟩]
@[go_sem] def wYr18 := eRun Yr18.eq_1
def Yr17 : List Op := Yr18 ++ []
@[go_sem] def wYr17 := eCut Yr17.eq_1 rfl
def Yr16 : List Op := ⟨(some (pos 15)), none, (.call (pos nYk)), [(.t (pos 12)), (.t (pos 14))]⟩ :: Yr17
@[go_sem] def wYr16 := eCall Yr16.eq_1
def Yr19 : List Op := [⟨(some (pos 11)), none, (.faddr 0), [(.t (pos 2))]⟩, ⟨(some (pos 12)), none, (.load true 2), [(.t (pos 11))]⟩, ⟨(some (pos 13)), none, (.faddr 0), [(.t (pos 3))]⟩, ⟨(some (pos 14)), none, (.load true 2), [(.t (pos 13))]⟩]
@[go_sem] def wYr19 := eRun Yr19.eq_1
def Yr15 : AC := .reg (Yr19 ++ Yr16)
@[go_sem] def wYr15 := eReg Yr15.eq_1 rfl
def Yr20 : AC := .ret
@[go_sem] def wYr20 := eRet Yr20.eq_1
def Yr14 : AC := .seq Yr15 Yr20
@[go_sem] def wYr14 := eSeq Yr14.eq_1
def Yr21 : AC := .skip
@[go_sem] def wYr21 := eSkip Yr21.eq_1
def Yr13 : AC := .cond (.t (pos 10)) Yr14 Yr21
@[go_sem] def wYr13 := eCond Yr13.eq_1
def Yr4 : AC := .seq Yr5 Yr13
@[go_sem] def wYr4 := eSeq Yr4.eq_1
def Yr30 : List Stg := ([], [], none) :: []
@[go_sem] def wYr30 := eEnd Yr30.eq_1
def Yr29 : List Stg := ([], [], some ⟨11, [], ⟨(some (pos 4)), none, .mv, [(.t (pos 26))]⟩, true⟩) :: Yr30
@[go_sem] def wYr29 := eSop Yr29.eq_1 rfl
def Yr28 : List Stg := ([], [], some ⟨10, [], ⟨(some (pos 26)), none, (.call (pos nYk)), [(.t (pos 20)), (.t (pos 25))]⟩, true⟩) :: Yr29
@[go_sem] def wYr28 := eScall Yr28.eq_1
def Yr27 : List Stg := ([], [⟨6, [], ⟨(some (pos 22)), none, (.load true 2), [(.t (pos 21))]⟩, false⟩], some ⟨9, [], ⟨(some (pos 25)), none, (.call (pos nYd)), [(.t (pos 22)), (.t (pos 24))]⟩, true⟩) :: Yr28
@[go_sem] def wYr27 := eScall Yr27.eq_1
def Yr26 : List Stg := ([], [⟨6, [], ⟨(some (pos 22)), none, (.load true 2), [(.t (pos 21))]⟩, false⟩, ⟨7, [], ⟨(some (pos 23)), none, (.load true 4), [(.t (pos 2))]⟩, false⟩], some ⟨8, [], ⟨(some (pos 24)), none, (.call (pos nYx)), [(.t (pos 23))]⟩, true⟩) :: Yr27
@[go_sem] def wYr26 := eScall Yr26.eq_1
def Yr25 : List Stg := ([], [⟨1, [], ⟨(some (pos 17)), none, (.load true 2), [(.t (pos 16))]⟩, false⟩, ⟨6, [], ⟨(some (pos 22)), none, (.load true 2), [(.t (pos 21))]⟩, false⟩, ⟨7, [], ⟨(some (pos 23)), none, (.load true 4), [(.t (pos 2))]⟩, false⟩], some ⟨4, [], ⟨(some (pos 20)), none, (.call (pos nYd)), [(.t (pos 17)), (.t (pos 19))]⟩, true⟩) :: Yr26
@[go_sem] def wYr25 := eScall Yr25.eq_1
def Yr24 : List Stg := ([⟨0, [], ⟨(some (pos 16)), none, (.faddr 0), [(.t (pos 2))]⟩, false⟩, ⟨1, [], ⟨(some (pos 17)), none, (.load true 2), [(.t (pos 16))]⟩, false⟩, ⟨2, [], ⟨(some (pos 18)), none, (.load true 4), [(.t (pos 3))]⟩, false⟩, ⟨5, [], ⟨(some (pos 21)), none, (.faddr 0), [(.t (pos 3))]⟩, false⟩, ⟨6, [], ⟨(some (pos 22)), none, (.load true 2), [(.t (pos 21))]⟩, false⟩, ⟨7, [], ⟨(some (pos 23)), none, (.load true 4), [(.t (pos 2))]⟩, false⟩], [⟨1, [], ⟨(some (pos 17)), none, (.load true 2), [(.t (pos 16))]⟩, false⟩, ⟨2, [], ⟨(some (pos 18)), none, (.load true 4), [(.t (pos 3))]⟩, false⟩, ⟨6, [], ⟨(some (pos 22)), none, (.load true 2), [(.t (pos 21))]⟩, false⟩, ⟨7, [], ⟨(some (pos 23)), none, (.load true 4), [(.t (pos 2))]⟩, false⟩], some ⟨3, [], ⟨(some (pos 19)), none, (.call (pos nYx)), [(.t (pos 18))]⟩, true⟩) :: Yr25
@[go_sem] def wYr24 := eScall Yr24.eq_1
def Yr23 : AC := .dreg Yr24
@[go_sem] def wYr23 := eDreg Yr23.eq_1
def Yr31 : AC := .ret
@[go_sem] def wYr31 := eRet Yr31.eq_1
def Yr22 : AC := .seq Yr23 Yr31
@[go_sem] def wYr22 := eSeq Yr22.eq_1
def Yr3 : AC := .seq Yr4 Yr22
@[go_sem] def wYr3 := eSeq Yr3.eq_1
def Yr0 : AC := .seq Yr1 Yr3
@[go_sem] def wYr0 := eSeq Yr0.eq_1
def FYr : Fn := ⟨[pos 0, pos 1], [.t (pos 4)], Yr0⟩
def Yn2 : List Op := [⟨(some (pos 2)), none, .box, [(.t (pos 0))]⟩, ⟨(some (pos 3)), none, .box, [(.t (pos 1))]⟩, ⟨(some (pos 4)), none, (.alloc [.b false, .ns, .b false, .ns]), []⟩]
@[go_sem] def wYn2 := eRun Yn2.eq_1
def Yn1 : AC := .reg (Yn2 ++ [])
@[go_sem] def wYn1 := eReg Yn1.eq_1 rfl
def Yn10 : List Op := [⟨(some (pos 10)), none, .pick, [(.t (pos 7)), (.t (pos 9)), (.c (.b false))]⟩]
@[go_sem] def wYn10 := eRun Yn10.eq_1
def Yn9 : List Op := Yn10 ++ []
@[go_sem] def wYn9 := eCut Yn9.eq_1 rfl
def Yn8 : List Op := ⟨(some (pos 9)), (some ((pos 7), true)), (.call (pos nYaf)), [(.t (pos 8))]⟩ :: Yn9
@[go_sem] def wYn8 := eGcall Yn8.eq_1
def Yn11 : List Op := [⟨(some (pos 7)), none, .mv, [(.t (pos 6))]⟩, ⟨(some (pos 8)), (some ((pos 7), true)), (.load true 4), [(.t (pos 3))]⟩]
@[go_sem] def wYn11 := eRun Yn11.eq_1
def Yn7 : List Op := Yn11 ++ Yn8
@[go_sem] def wYn7 := eCut Yn7.eq_1 rfl
def Yn6 : List Op := ⟨(some (pos 6)), none, (.call (pos nYaf)), [(.t (pos 5))]⟩ :: Yn7
@[go_sem] def wYn6 := eCall Yn6.eq_1
def Yn12 : List Op := [⟨(some (pos 5)), none, (.load true 4), [(.t (pos 2))]⟩]
@[go_sem] def wYn12 := eRun Yn12.eq_1
def Yn5 : AC := .reg (Yn12 ++ Yn6)
@[go_sem] def wYn5 := eReg Yn5.eq_1 rfl
def Yn18 : List Op := [⟨(some (pos 16)), none, (.build [.b false, .ns, .b false, .ns] [(0, 2)]), [(.t (pos 15))]⟩, ⟨none, none, (.store 4), [(.t (pos 4)), (.t (pos 16))]⟩]
@[go_sem] def wYn18 := eRun Yn18.eq_1
def Yn17 : List Op := Yn18 ++ []
@[go_sem] def wYn17 := eCut Yn17.eq_1 rfl
def Yn16 : List Op := ⟨(some (pos 15)), none, (.call (pos nYm)), [(.t (pos 12)), (.t (pos 14))]⟩ :: Yn17
@[go_sem] def wYn16 := eCall Yn16.eq_1
def Yn19 : List Op := [⟨(some (pos 11)), none, (.faddr 0), [(.t (pos 2))]⟩, ⟨(some (pos 12)), none, (.load true 2), [(.t (pos 11))]⟩, ⟨(some (pos 13)), none, (.faddr 0), [(.t (pos 3))]⟩, ⟨(some (pos 14)), none, (.load true 2), [(.t (pos 13))]⟩]
@[go_sem] def wYn19 := eRun Yn19.eq_1
def Yn15 : AC := .reg (Yn19 ++ Yn16)
@[go_sem] def wYn15 := eReg Yn15.eq_1 rfl
def Yn20 : AC := .ret
@[go_sem] def wYn20 := eRet Yn20.eq_1
def Yn14 : AC := .seq Yn15 Yn20
@[go_sem] def wYn14 := eSeq Yn14.eq_1
def Yn21 : AC := .skip
@[go_sem] def wYn21 := eSkip Yn21.eq_1
def Yn13 : AC := .cond (.t (pos 10)) Yn14 Yn21
@[go_sem] def wYn13 := eCond Yn13.eq_1
def Yn4 : AC := .seq Yn5 Yn13
@[go_sem] def wYn4 := eSeq Yn4.eq_1
def Yn34 : List Stg := ([], [], none) :: []
@[go_sem] def wYn34 := eEnd Yn34.eq_1
def Yn33 : List Stg := ([], [], some ⟨17, [], ⟨none, none, (.store 4), [(.t (pos 4)), (.t (pos 33))]⟩, true⟩) :: Yn34
@[go_sem] def wYn33 := eSop Yn33.eq_1 rfl
def Yn32 : List Stg := ([], [], some ⟨16, [], ⟨(some (pos 33)), none, (.call (pos nYi)), [(.t (pos 27)), (.t (pos 32))]⟩, true⟩) :: Yn33
@[go_sem] def wYn32 := eScall Yn32.eq_1
def Yn31 : List Stg := ([], [], some ⟨15, [], ⟨(some (pos 32)), none, (.call (pos nYd)), [(.t (pos 29)), (.t (pos 31))]⟩, true⟩) :: Yn32
@[go_sem] def wYn31 := eScall Yn31.eq_1
def Yn30 : List Stg := ([], [⟨13, [], ⟨(some (pos 30)), none, (.load true 4), [(.t (pos 3))]⟩, false⟩], some ⟨14, [], ⟨(some (pos 31)), none, (.call (pos nYx)), [(.t (pos 30))]⟩, true⟩) :: Yn31
@[go_sem] def wYn30 := eScall Yn30.eq_1
def Yn29 : List Stg := ([], [⟨11, [], ⟨(some (pos 28)), none, (.load true 4), [(.t (pos 2))]⟩, false⟩, ⟨13, [], ⟨(some (pos 30)), none, (.load true 4), [(.t (pos 3))]⟩, false⟩], some ⟨12, [], ⟨(some (pos 29)), none, (.call (pos nYx)), [(.t (pos 28))]⟩, true⟩) :: Yn30
@[go_sem] def wYn29 := eScall Yn29.eq_1
def Yn28 : List Stg := ([], [⟨11, [], ⟨(some (pos 28)), none, (.load true 4), [(.t (pos 2))]⟩, false⟩, ⟨13, [], ⟨(some (pos 30)), none, (.load true 4), [(.t (pos 3))]⟩, false⟩], some ⟨10, [], ⟨(some (pos 27)), none, (.call (pos nYm)), [(.t (pos 21)), (.t (pos 26))]⟩, true⟩) :: Yn29
@[go_sem] def wYn28 := eScall Yn28.eq_1
def Yn27 : List Stg := ([], [⟨6, [], ⟨(some (pos 23)), none, (.load true 2), [(.t (pos 22))]⟩, false⟩, ⟨11, [], ⟨(some (pos 28)), none, (.load true 4), [(.t (pos 2))]⟩, false⟩, ⟨13, [], ⟨(some (pos 30)), none, (.load true 4), [(.t (pos 3))]⟩, false⟩], some ⟨9, [], ⟨(some (pos 26)), none, (.call (pos nYd)), [(.t (pos 23)), (.t (pos 25))]⟩, true⟩) :: Yn28
@[go_sem] def wYn27 := eScall Yn27.eq_1
def Yn26 : List Stg := ([], [⟨6, [], ⟨(some (pos 23)), none, (.load true 2), [(.t (pos 22))]⟩, false⟩, ⟨7, [], ⟨(some (pos 24)), none, (.load true 4), [(.t (pos 2))]⟩, false⟩, ⟨11, [], ⟨(some (pos 28)), none, (.load true 4), [(.t (pos 2))]⟩, false⟩, ⟨13, [], ⟨(some (pos 30)), none, (.load true 4), [(.t (pos 3))]⟩, false⟩], some ⟨8, [], ⟨(some (pos 25)), none, (.call (pos nYx)), [(.t (pos 24))]⟩, true⟩) :: Yn27
@[go_sem] def wYn26 := eScall Yn26.eq_1
def Yn25 : List Stg := ([], [⟨1, [], ⟨(some (pos 18)), none, (.load true 2), [(.t (pos 17))]⟩, false⟩, ⟨6, [], ⟨(some (pos 23)), none, (.load true 2), [(.t (pos 22))]⟩, false⟩, ⟨7, [], ⟨(some (pos 24)), none, (.load true 4), [(.t (pos 2))]⟩, false⟩, ⟨11, [], ⟨(some (pos 28)), none, (.load true 4), [(.t (pos 2))]⟩, false⟩, ⟨13, [], ⟨(some (pos 30)), none, (.load true 4), [(.t (pos 3))]⟩, false⟩], some ⟨4, [], ⟨(some (pos 21)), none, (.call (pos nYd)), [(.t (pos 18)), (.t (pos 20))]⟩, true⟩) :: Yn26
@[go_sem] def wYn25 := eScall Yn25.eq_1
def Yn24 : List Stg := ([⟨0, [], ⟨(some (pos 17)), none, (.faddr 0), [(.t (pos 2))]⟩, false⟩, ⟨1, [], ⟨(some (pos 18)), none, (.load true 2), [(.t (pos 17))]⟩, false⟩, ⟨2, [], ⟨(some (pos 19)), none, (.load true 4), [(.t (pos 3))]⟩, false⟩, ⟨5, [], ⟨(some (pos 22)), none, (.faddr 0), [(.t (pos 3))]⟩, false⟩, ⟨6, [], ⟨(some (pos 23)), none, (.load true 2), [(.t (pos 22))]⟩, false⟩, ⟨7, [], ⟨(some (pos 24)), none, (.load true 4), [(.t (pos 2))]⟩, false⟩, ⟨11, [], ⟨(some (pos 28)), none, (.load true 4), [(.t (pos 2))]⟩, false⟩, ⟨13, [], ⟨(some (pos 30)), none, (.load true 4), [(.t (pos 3))]⟩, false⟩], [⟨1, [], ⟨(some (pos 18)), none, (.load true 2), [(.t (pos 17))]⟩, false⟩, ⟨2, [], ⟨(some (pos 19)), none, (.load true 4), [(.t (pos 3))]⟩, false⟩, ⟨6, [], ⟨(some (pos 23)), none, (.load true 2), [(.t (pos 22))]⟩, false⟩, ⟨7, [], ⟨(some (pos 24)), none, (.load true 4), [(.t (pos 2))]⟩, false⟩, ⟨11, [], ⟨(some (pos 28)), none, (.load true 4), [(.t (pos 2))]⟩, false⟩, ⟨13, [], ⟨(some (pos 30)), none, (.load true 4), [(.t (pos 3))]⟩, false⟩], some ⟨3, [], ⟨(some (pos 20)), none, (.call (pos nYx)), [(.t (pos 19))]⟩, true⟩) :: Yn25
@[go_sem] def wYn24 := eScall Yn24.eq_1
def Yn23 : AC := .dreg Yn24
@[go_sem] def wYn23 := eDreg Yn23.eq_1
def Yn35 : AC := .ret
@[go_sem] def wYn35 := eRet Yn35.eq_1
def Yn22 : AC := .seq Yn23 Yn35
@[go_sem] def wYn22 := eSeq Yn22.eq_1
def Yn3 : AC := .seq Yn4 Yn22
@[go_sem] def wYn3 := eSeq Yn3.eq_1
def Yn0 : AC := .seq Yn1 Yn3
@[go_sem] def wYn0 := eSeq Yn0.eq_1
def FYn : Fn := ⟨[pos 0, pos 1], [.c (pos 4) true 4], Yn0⟩
def Yi2 : List Op := [⟨(some (pos 2)), none, .box, [(.t (pos 0))]⟩, ⟨(some (pos 3)), none, .box, [(.t (pos 1))]⟩, ⟨(some (pos 4)), none, (.alloc [.b false, .ns, .b false, .ns]), []⟩]
@[go_sem] def wYi2 := eRun Yi2.eq_1
def Yi1 : AC := .reg (Yi2 ++ [])
@[go_sem] def wYi1 := eReg Yi1.eq_1 rfl
def Yi8 : List Op := [⟨(some (pos 8)), none, (.bin .lss 0 .i), [(.t (pos 7)), (.c (.i .i64 (0)))]⟩]
@[go_sem] def wYi8 := eRun Yi8.eq_1
def Yi7 : List Op := Yi8 ++ []
@[go_sem] def wYi7 := eCut Yi7.eq_1 rfl
def Yi6 : List Op := ⟨(some (pos 7)), none, (.call (pos nYu)), [(.t (pos 6))]⟩ :: Yi7
@[go_sem] def wYi6 := eCall Yi6.eq_1
def Yi9 : List Op := [⟨(some (pos 6)), none, (.load true 2), [(.t (pos 3))]⟩]
@[go_sem] def wYi9 := eRun Yi9.eq_1
def Yi5 : AC := .reg (Yi9 ++ Yi6)
@[go_sem] def wYi5 := eReg Yi5.eq_1 rfl
def Yi16 : List Stg := ([], [], none) :: []
@[go_sem] def wYi16 := eEnd Yi16.eq_1
def Yi15 : List Stg := ([], [], some ⟨5, [], ⟨none, none, (.store 2), [(.t (pos 3)), (.t (pos 12))]⟩, true⟩) :: Yi16
@[go_sem] def wYi15 := eSop Yi15.eq_1 rfl
def Yi14 : List Stg := ([], [], some ⟨4, [], ⟨none, none, (.store 2), [(.t (pos 2)), (.t (pos 10))]⟩, true⟩) :: Yi15
@[go_sem] def wYi14 := eSop Yi14.eq_1 rfl
def Yi13 : List Stg := ([], [⟨2, [], ⟨(some (pos 11)), none, (.load true 2), [(.t (pos 3))]⟩, false⟩], some ⟨3, [], ⟨(some (pos 12)), none, (.call (pos nYao)), [(.t (pos 11))]⟩, true⟩) :: Yi14
@[go_sem] def wYi13 := eScall Yi13.eq_1
def Yi12 : List Stg := ([⟨0, [], ⟨(some (pos 9)), none, (.load true 2), [(.t (pos 2))]⟩, false⟩, ⟨2, [], ⟨(some (pos 11)), none, (.load true 2), [(.t (pos 3))]⟩, false⟩], [⟨0, [], ⟨(some (pos 9)), none, (.load true 2), [(.t (pos 2))]⟩, false⟩, ⟨2, [], ⟨(some (pos 11)), none, (.load true 2), [(.t (pos 3))]⟩, false⟩], some ⟨1, [], ⟨(some (pos 10)), none, (.call (pos nYao)), [(.t (pos 9))]⟩, true⟩) :: Yi13
@[go_sem] def wYi12 := eScall Yi12.eq_1
def Yi11 : AC := .dreg Yi12
@[go_sem] def wYi11 := eDreg Yi11.eq_1
def Yi17 : AC := .skip
@[go_sem] def wYi17 := eSkip Yi17.eq_1
def Yi10 : AC := .cond (.t (pos 8)) Yi11 Yi17
@[go_sem] def wYi10 := eCond Yi10.eq_1
def Yi4 : AC := .seq Yi5 Yi10
@[go_sem] def wYi4 := eSeq Yi4.eq_1
def Yi22 : List Op := [⟨(some (pos 5)), none, (.alloc [.b false, .ns]), []⟩, ⟨none, none, (.store 2), [(.t (pos 5)), (.t (pos 15))]⟩]
@[go_sem] def wYi22 := eRun Yi22.eq_1
def Yi21 : List Op := Yi22 ++ []
@[go_sem] def wYi21 := eCut Yi21.eq_1 rfl
def Yi20 : List Op := ⟨(some (pos 15)), none, (.call (pos nYt)), [(.t (pos 13)), (.t (pos 14))]⟩ :: Yi21
@[go_sem] def wYi20 := eCall Yi20.eq_1
def Yi23 : List Op := [⟨(some (pos 13)), none, (.load true 2), [(.t (pos 2))]⟩, ⟨(some (pos 14)), none, (.load true 2), [(.t (pos 3))]⟩]
@[go_sem] def wYi23 := eRun Yi23.eq_1
def Yi19 : AC := .reg (Yi23 ++ Yi20)
@[go_sem] def wYi19 := eReg Yi19.eq_1 rfl
def Yi29 : List Stg := ([⟨3, [], ⟨(some (pos 19)), none, (.bin .neq 0 .i), [(.t (pos 18)), (.c (.i .i64 (0)))]⟩, false⟩], [], none) :: []
@[go_sem] def wYi29 := eEnd Yi29.eq_1
def Yi28 : List Stg := ([], [⟨0, [], ⟨(some (pos 16)), none, (.load true 2), [(.t (pos 5))]⟩, false⟩], some ⟨2, [], ⟨(some (pos 18)), none, (.call (pos nYk)), [(.t (pos 16)), (.t (pos 17))]⟩, true⟩) :: Yi29
@[go_sem] def wYi28 := eScall Yi28.eq_1
def Yi27 : List Stg := ([⟨0, [], ⟨(some (pos 16)), none, (.load true 2), [(.t (pos 5))]⟩, false⟩], [⟨0, [], ⟨(some (pos 16)), none, (.load true 2), [(.t (pos 5))]⟩, false⟩], some ⟨1, [], ⟨(some (pos 17)), none, (.call (pos nYak)), []⟩, true⟩) :: Yi28
@[go_sem] def wYi27 := eScall Yi27.eq_1
def Yi26 : AC := .dreg Yi27
@[go_sem] def wYi26 := eDreg Yi26.eq_1
def Yi35 : List Op := [⟨(some (pos 20)), none, .mv, [(.t (pos 23))]⟩, ⟨(some (pos 24)), none, (.ext 0), [(.t (pos 20))]⟩, ⟨(some (pos 25)), none, (.ext 1), [(.t (pos 20))]⟩, ⟨(some (pos 26)), none, (.ext 2), [(.t (pos 20))]⟩, ⟨none, none, (.store 2), [(.t (pos 2)), (.t (pos 24))]⟩]
@[go_sem] def wYi35 := eRun Yi35.eq_1
def Yi34 : List Op := Yi35 ++ []
@[go_sem] def wYi34 := eCut Yi34.eq_1 rfl
def Yi33 : List Op := ⟨(some (pos 23)), none, (.call (pos nYh)), [(.t (pos 21)), (.t (pos 22))]⟩ :: Yi34
@[go_sem] def wYi33 := eCall Yi33.eq_1
def Yi36 : List Op := [⟨(some (pos 21)), none, (.load true 2), [(.t (pos 2))]⟩, ⟨(some (pos 22)), none, (.load true 2), [(.t (pos 5))]⟩]
@[go_sem] def wYi36 := eRun Yi36.eq_1
def Yi32 : AC := .reg (Yi36 ++ Yi33)
@[go_sem] def wYi32 := eReg Yi32.eq_1 rfl
def Yi40 : List Op := [⟨(some (pos 27)), none, .mv, [(.t (pos 30))]⟩, ⟨(some (pos 31)), none, (.ext 0), [(.t (pos 27))]⟩, ⟨(some (pos 32)), none, (.ext 1), [(.t (pos 27))]⟩, ⟨(some (pos 33)), none, (.ext 2), [(.t (pos 27))]⟩, ⟨none, none, (.store 2), [(.t (pos 3)), (.t (pos 31))]⟩]
@[go_sem] def wYi40 := eRun Yi40.eq_1
def Yi39 : List Op := Yi40 ++ []
@[go_sem] def wYi39 := eCut Yi39.eq_1 rfl
def Yi38 : List Op := ⟨(some (pos 30)), none, (.call (pos nYh)), [(.t (pos 28)), (.t (pos 29))]⟩ :: Yi39
@[go_sem] def wYi38 := eCall Yi38.eq_1
def Yi41 : List Op := [⟨(some (pos 28)), none, (.load true 2), [(.t (pos 3))]⟩, ⟨(some (pos 29)), none, (.load true 2), [(.t (pos 5))]⟩]
@[go_sem] def wYi41 := eRun Yi41.eq_1
def Yi37 : AC := .reg (Yi41 ++ Yi38)
@[go_sem] def wYi37 := eReg Yi37.eq_1 rfl
def Yi31 : AC := .seq Yi32 Yi37
@[go_sem] def wYi31 := eSeq Yi31.eq_1
def Yi42 : AC := .skip
@[go_sem] def wYi42 := eSkip Yi42.eq_1
def Yi30 : AC := .cond (.t (pos 19)) Yi31 Yi42
@[go_sem] def wYi30 := eCond Yi30.eq_1
def Yi25 : AC := .seq Yi26 Yi30
@[go_sem] def wYi25 := eSeq Yi25.eq_1
def Yi45 : List Op := [⟨(some (pos 34)), none, (.load true 2), [(.t (pos 2))]⟩, ⟨(some (pos 35)), none, (.load true 2), [(.t (pos 3))]⟩, ⟨(some (pos 36)), none, (.build [.b false, .ns, .b false, .ns] [(0, 2), (2, 2)]), [(.t (pos 34)), (.t (pos 35))]⟩, ⟨none, none, (.store 4), [(.t (pos 4)), (.t (pos 36))]⟩]
@[go_sem] def wYi45 := eRun Yi45.eq_1
def Yi44 : AC := .reg (Yi45 ++ [])
@[go_sem] def wYi44 := eReg Yi44.eq_1 rfl
def Yi46 : AC := .ret
@[go_sem] def wYi46 := eRet Yi46.eq_1
def Yi43 : AC := .seq Yi44 Yi46
@[go_sem] def wYi43 := eSeq Yi43.eq_1
def Yi24 : AC := .seq Yi25 Yi43
@[go_sem] def wYi24 := eSeq Yi24.eq_1
def Yi18 : AC := .seq Yi19 Yi24
@[go_sem] def wYi18 := eSeq Yi18.eq_1
def Yi3 : AC := .seq Yi4 Yi18
@[go_sem] def wYi3 := eSeq Yi3.eq_1
def Yi0 : AC := .seq Yi1 Yi3
@[go_sem] def wYi0 := eSeq Yi0.eq_1
def FYi : Fn := ⟨[pos 0, pos 1], [.c (pos 4) true 4], Yi0⟩
def Ys2 : List Op := [⟨(some (pos 2)), none, .box, [(.t (pos 0))]⟩, ⟨(some (pos 3)), none, .box, [(.t (pos 1))]⟩, ⟨(some (pos 4)), none, (.alloc [.b false, .ns, .b false, .ns]), []⟩]
@[go_sem] def wYs2 := eRun Ys2.eq_1
def Ys1 : AC := .reg (Ys2 ++ [])
@[go_sem] def wYs1 := eReg Ys1.eq_1 rfl
def Ys10 : List Op := [⟨(some (pos 10)), none, .pick, [(.t (pos 7)), (.t (pos 9)), (.c (.b false))]⟩]
@[go_sem] def wYs10 := eRun Ys10.eq_1
def Ys9 : List Op := Ys10 ++ []
@[go_sem] def wYs9 := eCut Ys9.eq_1 rfl
def Ys8 : List Op := ⟨(some (pos 9)), (some ((pos 7), true)), (.call (pos nYaf)), [(.t (pos 8))]⟩ :: Ys9
@[go_sem] def wYs8 := eGcall Ys8.eq_1
def Ys11 : List Op := [⟨(some (pos 7)), none, .mv, [(.t (pos 6))]⟩, ⟨(some (pos 8)), (some ((pos 7), true)), (.load true 4), [(.t (pos 3))]⟩]
@[go_sem] def wYs11 := eRun Ys11.eq_1
def Ys7 : List Op := Ys11 ++ Ys8
@[go_sem] def wYs7 := eCut Ys7.eq_1 rfl
def Ys6 : List Op := ⟨(some (pos 6)), none, (.call (pos nYaf)), [(.t (pos 5))]⟩ :: Ys7
@[go_sem] def wYs6 := eCall Ys6.eq_1
def Ys12 : List Op := [⟨(some (pos 5)), none, (.load true 4), [(.t (pos 2))]⟩]
@[go_sem] def wYs12 := eRun Ys12.eq_1
def Ys5 : AC := .reg (Ys12 ++ Ys6)
@[go_sem] def wYs5 := eReg Ys5.eq_1 rfl
def Ys18 : List Op := [⟨(some (pos 16)), none, (.build [.b false, .ns, .b false, .ns] [(0, 2)]), [(.t (pos 15))]⟩, ⟨none, none, (.store 4), [(.t (pos 4)), (.t (pos 16))]⟩]
@[go_sem] def wYs18 := eRun Ys18.eq_1
def Ys17 : List Op := Ys18 ++ []
@[go_sem] def wYs17 := eCut Ys17.eq_1 rfl
def Ys16 : List Op := ⟨(some (pos 15)), none, (.call (pos nYd)), [(.t (pos 12)), (.t (pos 14))]⟩ :: Ys17
@[go_sem] def wYs16 := eCall Ys16.eq_1
def Ys19 : List Op := [⟨(some (pos 11)), none, (.faddr 0), [(.t (pos 2))]⟩, ⟨(some (pos 12)), none, (.load true 2), [(.t (pos 11))]⟩, ⟨(some (pos 13)), none, (.faddr 0), [(.t (pos 3))]⟩, ⟨(some (pos 14)), none, (.load true 2), [(.t (pos 13))]⟩]
@[go_sem] def wYs19 := eRun Ys19.eq_1
def Ys15 : AC := .reg (Ys19 ++ Ys16)
@[go_sem] def wYs15 := eReg Ys15.eq_1 rfl
def Ys20 : AC := .ret
@[go_sem] def wYs20 := eRet Ys20.eq_1
def Ys14 : AC := .seq Ys15 Ys20
@[go_sem] def wYs14 := eSeq Ys14.eq_1
def Ys21 : AC := .skip
@[go_sem] def wYs21 := eSkip Ys21.eq_1
def Ys13 : AC := .cond (.t (pos 10)) Ys14 Ys21
@[go_sem] def wYs13 := eCond Ys13.eq_1
def Ys4 : AC := .seq Ys5 Ys13
@[go_sem] def wYs4 := eSeq Ys4.eq_1
def Ys30 : List Stg := ([], [], none) :: []
@[go_sem] def wYs30 := eEnd Ys30.eq_1
def Ys29 : List Stg := ([], [], some ⟨11, [], ⟨none, none, (.store 4), [(.t (pos 4)), (.t (pos 27))]⟩, true⟩) :: Ys30
@[go_sem] def wYs29 := eSop Ys29.eq_1 rfl
def Ys28 : List Stg := ([], [], some ⟨10, [], ⟨(some (pos 27)), none, (.call (pos nYi)), [(.t (pos 21)), (.t (pos 26))]⟩, true⟩) :: Ys29
@[go_sem] def wYs28 := eScall Ys28.eq_1
def Ys27 : List Stg := ([], [], some ⟨9, [], ⟨(some (pos 26)), none, (.call (pos nYd)), [(.t (pos 23)), (.t (pos 25))]⟩, true⟩) :: Ys28
@[go_sem] def wYs27 := eScall Ys27.eq_1
def Ys26 : List Stg := ([], [⟨7, [], ⟨(some (pos 24)), none, (.load true 4), [(.t (pos 3))]⟩, false⟩], some ⟨8, [], ⟨(some (pos 25)), none, (.call (pos nYx)), [(.t (pos 24))]⟩, true⟩) :: Ys27
@[go_sem] def wYs26 := eScall Ys26.eq_1
def Ys25 : List Stg := ([], [⟨5, [], ⟨(some (pos 22)), none, (.load true 4), [(.t (pos 2))]⟩, false⟩, ⟨7, [], ⟨(some (pos 24)), none, (.load true 4), [(.t (pos 3))]⟩, false⟩], some ⟨6, [], ⟨(some (pos 23)), none, (.call (pos nYx)), [(.t (pos 22))]⟩, true⟩) :: Ys26
@[go_sem] def wYs25 := eScall Ys25.eq_1
def Ys24 : List Stg := ([⟨0, [], ⟨(some (pos 17)), none, (.faddr 0), [(.t (pos 2))]⟩, false⟩, ⟨1, [], ⟨(some (pos 18)), none, (.load true 2), [(.t (pos 17))]⟩, false⟩, ⟨2, [], ⟨(some (pos 19)), none, (.faddr 0), [(.t (pos 3))]⟩, false⟩, ⟨3, [], ⟨(some (pos 20)), none, (.load true 2), [(.t (pos 19))]⟩, false⟩, ⟨5, [], ⟨(some (pos 22)), none, (.load true 4), [(.t (pos 2))]⟩, false⟩, ⟨7, [], ⟨(some (pos 24)), none, (.load true 4), [(.t (pos 3))]⟩, false⟩], [⟨1, [], ⟨(some (pos 18)), none, (.load true 2), [(.t (pos 17))]⟩, false⟩, ⟨3, [], ⟨(some (pos 20)), none, (.load true 2), [(.t (pos 19))]⟩, false⟩, ⟨5, [], ⟨(some (pos 22)), none, (.load true 4), [(.t (pos 2))]⟩, false⟩, ⟨7, [], ⟨(some (pos 24)), none, (.load true 4), [(.t (pos 3))]⟩, false⟩], some ⟨4, [], ⟨(some (pos 21)), none, (.call (pos nYd)), [(.t (pos 18)), (.t (pos 20))]⟩, true⟩) :: Ys25
@[go_sem] def wYs24 := eScall Ys24.eq_1
def Ys23 : AC := .dreg Ys24
@[go_sem] def wYs23 := eDreg Ys23.eq_1
def Ys31 : AC := .ret
@[go_sem] def wYs31 := eRet Ys31.eq_1
def Ys22 : AC := .seq Ys23 Ys31
@[go_sem] def wYs22 := eSeq Ys22.eq_1
def Ys3 : AC := .seq Ys4 Ys22
@[go_sem] def wYs3 := eSeq Ys3.eq_1
def Ys0 : AC := .seq Ys1 Ys3
@[go_sem] def wYs0 := eSeq Ys0.eq_1
def FYs : Fn := ⟨[pos 0, pos 1], [.c (pos 4) true 4], Ys0⟩
def Yah2 : List Op := [⟨(some (pos 2)), none, .box, [(.t (pos 0))]⟩, ⟨(some (pos 3)), none, .box, [(.t (pos 1))]⟩, ⟨(some (pos 4)), none, (.alloc [.b false, .ns, .b false, .ns]), []⟩]
@[go_sem] def wYah2 := eRun Yah2.eq_1
def Yah1 : AC := .reg (Yah2 ++ [])
@[go_sem] def wYah1 := eReg Yah1.eq_1 rfl
def Yah8 : List Stg := ([], [], none) :: []
@[go_sem] def wYah8 := eEnd Yah8.eq_1
def Yah7 : List Stg := ([], [], some ⟨4, [], ⟨none, none, (.store 4), [(.t (pos 4)), (.t (pos 8))]⟩, true⟩) :: Yah8
@[go_sem] def wYah7 := eSop Yah7.eq_1 rfl
def Yah6 : List Stg := ([], [⟨0, [], ⟨(some (pos 5)), none, (.load true 4), [(.t (pos 2))]⟩, false⟩], some ⟨3, [], ⟨(some (pos 8)), none, (.call (pos nYn)), [(.t (pos 5)), (.t (pos 7))]⟩, true⟩) :: Yah7
@[go_sem] def wYah6 := eScall Yah6.eq_1
def Yah5 : List Stg := ([⟨0, [], ⟨(some (pos 5)), none, (.load true 4), [(.t (pos 2))]⟩, false⟩, ⟨1, [], ⟨(some (pos 6)), none, (.load true 4), [(.t (pos 3))]⟩, false⟩], [⟨0, [], ⟨(some (pos 5)), none, (.load true 4), [(.t (pos 2))]⟩, false⟩, ⟨1, [], ⟨(some (pos 6)), none, (.load true 4), [(.t (pos 3))]⟩, false⟩], some ⟨2, [], ⟨(some (pos 7)), none, (.call (pos nYap)), [(.t (pos 6))]⟩, true⟩) :: Yah6
@[go_sem] def wYah5 := eScall Yah5.eq_1
def Yah4 : AC := .dreg Yah5
@[go_sem] def wYah4 := eDreg Yah4.eq_1
def Yah9 : AC := .ret
@[go_sem] def wYah9 := eRet Yah9.eq_1
def Yah3 : AC := .seq Yah4 Yah9
@[go_sem] def wYah3 := eSeq Yah3.eq_1
def Yah0 : AC := .seq Yah1 Yah3
@[go_sem] def wYah0 := eSeq Yah0.eq_1
def FYah : Fn := ⟨[pos 0, pos 1], [.c (pos 4) true 4], Yah0⟩
def Yap2 : List Op := [⟨(some (pos 1)), none, .box, [(.t (pos 0))]⟩, ⟨(some (pos 2)), none, (.alloc [.b false, .ns, .b false, .ns]), []⟩]
@[go_sem] def wYap2 := eRun Yap2.eq_1
def Yap1 : AC := .reg (Yap2 ++ [])
@[go_sem] def wYap1 := eReg Yap1.eq_1 rfl
def Yap7 : List Stg := ([], [], none) :: []
@[go_sem] def wYap7 := eEnd Yap7.eq_1
def Yap6 : List Stg := ([⟨5, [], ⟨(some (pos 8)), none, (.build [.b false, .ns, .b false, .ns] [(0, 2), (2, 2)]), [(.t (pos 5)), (.t (pos 7))]⟩, false⟩], [⟨4, [], ⟨(some (pos 7)), none, (.load true 2), [(.t (pos 6))]⟩, false⟩], some ⟨6, [], ⟨none, none, (.store 4), [(.t (pos 2)), (.t (pos 8))]⟩, true⟩) :: Yap7
@[go_sem] def wYap6 := eSop Yap6.eq_1 rfl
def Yap5 : List Stg := ([⟨0, [], ⟨(some (pos 3)), none, (.faddr 0), [(.t (pos 1))]⟩, false⟩, ⟨1, [], ⟨(some (pos 4)), none, (.load true 2), [(.t (pos 3))]⟩, false⟩, ⟨3, [], ⟨(some (pos 6)), none, (.faddr 2), [(.t (pos 1))]⟩, false⟩, ⟨4, [], ⟨(some (pos 7)), none, (.load true 2), [(.t (pos 6))]⟩, false⟩], [⟨1, [], ⟨(some (pos 4)), none, (.load true 2), [(.t (pos 3))]⟩, false⟩, ⟨4, [], ⟨(some (pos 7)), none, (.load true 2), [(.t (pos 6))]⟩, false⟩], some ⟨2, [], ⟨(some (pos 5)), none, (.call (pos nYao)), [(.t (pos 4))]⟩, true⟩) :: Yap6
@[go_sem] def wYap5 := eScall Yap5.eq_1
def Yap4 : AC := .dreg Yap5
@[go_sem] def wYap4 := eDreg Yap4.eq_1
def Yap8 : AC := .ret
@[go_sem] def wYap8 := eRet Yap8.eq_1
def Yap3 : AC := .seq Yap4 Yap8
@[go_sem] def wYap3 := eSeq Yap3.eq_1
def Yap0 : AC := .seq Yap1 Yap3
@[go_sem] def wYap0 := eSeq Yap0.eq_1
def FYap : Fn := ⟨[pos 0], [.c (pos 2) true 4], Yap0⟩
def Yag2 : List Op := [⟨(some (pos 1)), none, .box, [(.t (pos 0))]⟩, ⟨(some (pos 2)), none, (.alloc [.b false, .ns, .b false, .ns]), []⟩]
@[go_sem] def wYag2 := eRun Yag2.eq_1
def Yag1 : AC := .reg (Yag2 ++ [])
@[go_sem] def wYag1 := eReg Yag1.eq_1 rfl
def Yag7 : List Stg := ([], [], none) :: []
@[go_sem] def wYag7 := eEnd Yag7.eq_1
def Yag6 : List Stg := ([⟨5, [], ⟨(some (pos 8)), none, (.build [.b false, .ns, .b false, .ns] [(0, 2), (2, 2)]), [(.t (pos 5)), (.t (pos 7))]⟩, false⟩], [⟨4, [], ⟨(some (pos 7)), none, (.load true 2), [(.t (pos 6))]⟩, false⟩], some ⟨6, [], ⟨none, none, (.store 4), [(.t (pos 2)), (.t (pos 8))]⟩, true⟩) :: Yag7
@[go_sem] def wYag6 := eSop Yag6.eq_1 rfl
def Yag5 : List Stg := ([⟨0, [], ⟨(some (pos 3)), none, (.faddr 0), [(.t (pos 1))]⟩, false⟩, ⟨1, [], ⟨(some (pos 4)), none, (.load true 2), [(.t (pos 3))]⟩, false⟩, ⟨3, [], ⟨(some (pos 6)), none, (.faddr 2), [(.t (pos 1))]⟩, false⟩, ⟨4, [], ⟨(some (pos 7)), none, (.load true 2), [(.t (pos 6))]⟩, false⟩], [⟨1, [], ⟨(some (pos 4)), none, (.load true 2), [(.t (pos 3))]⟩, false⟩, ⟨4, [], ⟨(some (pos 7)), none, (.load true 2), [(.t (pos 6))]⟩, false⟩], some ⟨2, [], ⟨(some (pos 5)), none, (.call (pos nYat)), [(.t (pos 4))]⟩, true⟩) :: Yag6
@[go_sem] def wYag5 := eScall Yag5.eq_1
def Yag4 : AC := .dreg Yag5
@[go_sem] def wYag4 := eDreg Yag4.eq_1
def Yag8 : AC := .ret
@[go_sem] def wYag8 := eRet Yag8.eq_1
def Yag3 : AC := .seq Yag4 Yag8
@[go_sem] def wYag3 := eSeq Yag3.eq_1
def Yag0 : AC := .seq Yag1 Yag3
@[go_sem] def wYag0 := eSeq Yag0.eq_1
def FYag : Fn := ⟨[pos 0], [.c (pos 2) true 4], Yag0⟩
def Yv2 : List Op := [⟨(some (pos 2)), none, .box, [(.t (pos 0))]⟩, ⟨(some (pos 3)), none, .box, [(.t (pos 1))]⟩, ⟨(some (pos 4)), none, (.alloc [.b false, .ns, .b false, .ns]), []⟩, ⟨(some (pos 5)), none, .mv, [(.c (.i .i64 (0)))]⟩]
@[go_sem] def wYv2 := eRun Yv2.eq_1
def Yv1 : AC := .reg (Yv2 ++ [])
@[go_sem] def wYv1 := eReg Yv1.eq_1 rfl
def Yv8 : List Op := [⟨(some (pos 8)), none, (.bin .eql 0 .i), [(.t (pos 7)), (.c (.i .i64 (0)))]⟩]
@[go_sem] def wYv8 := eRun Yv8.eq_1
def Yv7 : List Op := Yv8 ++ []
@[go_sem] def wYv7 := eCut Yv7.eq_1 rfl
def Yv6 : List Op := ⟨(some (pos 7)), none, (.call (pos nYan)), [(.t (pos 6))]⟩ :: Yv7
@[go_sem] def wYv6 := eCall Yv6.eq_1
def Yv9 : List Op := [⟨(some (pos 6)), none, (.load true 4), [(.t (pos 3))]⟩]
@[go_sem] def wYv9 := eRun Yv9.eq_1
def Yv5 : AC := .reg (Yv9 ++ Yv6)
@[go_sem] def wYv5 := eReg Yv5.eq_1 rfl
def Yv13 : List Op := [⟨(some (pos 9)), none, (.build [.b false, .ns, .b false, .ns] []), []⟩, ⟨none, none, (.store 4), [(.t (pos 4)), (.t (pos 9))]⟩, ⟨(some (pos 5)), none, .mv, [(.c (.i .i64 (19)))]⟩]
@[go_sem] def wYv13 := eRun Yv13.eq_1
def Yv12 : AC := .reg (Yv13 ++ [])
@[go_sem] def wYv12 := eReg Yv12.eq_1 rfl
def Yv14 : AC := .ret
@[go_sem] def wYv14 := eRet Yv14.eq_1
def Yv11 : AC := .seq Yv12 Yv14
@[go_sem] def wYv11 := eSeq Yv11.eq_1
def Yv15 : AC := .skip
@[go_sem] def wYv15 := eSkip Yv15.eq_1
def Yv10 : AC := .cond (.t (pos 8)) Yv11 Yv15
@[go_sem] def wYv10 := eCond Yv10.eq_1
def Yv4 : AC := .seq Yv5 Yv10
@[go_sem] def wYv4 := eSeq Yv4.eq_1
def Yv25 : List Stg := ([], [], none) :: []
@[go_sem] def wYv25 := eEnd Yv25.eq_1
def Yv24 : List Stg := ([], [], some ⟨12, [], ⟨(some (pos 5)), none, .mv, [(.c (.i .i64 (0)))]⟩, true⟩) :: Yv25
@[go_sem] def wYv24 := eSop Yv24.eq_1 rfl
def Yv23 : List Stg := ([], [], some ⟨11, [], ⟨none, none, (.store 4), [(.t (pos 4)), (.t (pos 20))]⟩, true⟩) :: Yv24
@[go_sem] def wYv23 := eSop Yv23.eq_1 rfl
def Yv22 : List Stg := ([], [], some ⟨10, [], ⟨(some (pos 20)), none, (.call (pos nYi)), [(.t (pos 14)), (.t (pos 19))]⟩, true⟩) :: Yv23
@[go_sem] def wYv22 := eScall Yv22.eq_1
def Yv21 : List Stg := ([], [⟨8, [], ⟨(some (pos 18)), none, (.load true 2), [(.t (pos 17))]⟩, false⟩], some ⟨9, [], ⟨(some (pos 19)), none, (.call (pos nYd)), [(.t (pos 16)), (.t (pos 18))]⟩, true⟩) :: Yv22
@[go_sem] def wYv21 := eScall Yv21.eq_1
def Yv20 : List Stg := ([], [⟨5, [], ⟨(some (pos 15)), none, (.load true 4), [(.t (pos 2))]⟩, false⟩, ⟨8, [], ⟨(some (pos 18)), none, (.load true 2), [(.t (pos 17))]⟩, false⟩], some ⟨6, [], ⟨(some (pos 16)), none, (.call (pos nYx)), [(.t (pos 15))]⟩, true⟩) :: Yv21
@[go_sem] def wYv20 := eScall Yv20.eq_1
def Yv19 : List Stg := ([], [⟨1, [], ⟨(some (pos 11)), none, (.load true 2), [(.t (pos 10))]⟩, false⟩, ⟨5, [], ⟨(some (pos 15)), none, (.load true 4), [(.t (pos 2))]⟩, false⟩, ⟨8, [], ⟨(some (pos 18)), none, (.load true 2), [(.t (pos 17))]⟩, false⟩], some ⟨4, [], ⟨(some (pos 14)), none, (.call (pos nYd)), [(.t (pos 11)), (.t (pos 13))]⟩, true⟩) :: Yv20
@[go_sem] def wYv19 := eScall Yv19.eq_1
def Yv18 : List Stg := ([⟨0, [], ⟨(some (pos 10)), none, (.faddr 0), [(.t (pos 2))]⟩, false⟩, ⟨1, [], ⟨(some (pos 11)), none, (.load true 2), [(.t (pos 10))]⟩, false⟩, ⟨2, [], ⟨(some (pos 12)), none, (.load true 4), [(.t (pos 3))]⟩, false⟩, ⟨5, [], ⟨(some (pos 15)), none, (.load true 4), [(.t (pos 2))]⟩, false⟩, ⟨7, [], ⟨(some (pos 17)), none, (.faddr 0), [(.t (pos 3))]⟩, false⟩, ⟨8, [], ⟨(some (pos 18)), none, (.load true 2), [(.t (pos 17))]⟩, false⟩], [⟨1, [], ⟨(some (pos 11)), none, (.load true 2), [(.t (pos 10))]⟩, false⟩, ⟨2, [], ⟨(some (pos 12)), none, (.load true 4), [(.t (pos 3))]⟩, false⟩, ⟨5, [], ⟨(some (pos 15)), none, (.load true 4), [(.t (pos 2))]⟩, false⟩, ⟨8, [], ⟨(some (pos 18)), none, (.load true 2), [(.t (pos 17))]⟩, false⟩], some ⟨3, [], ⟨(some (pos 13)), none, (.call (pos nYx)), [(.t (pos 12))]⟩, true⟩) :: Yv19
@[go_sem] def wYv18 := eScall Yv18.eq_1
def Yv17 : AC := .dreg Yv18
@[go_sem] def wYv17 := eDreg Yv17.eq_1
def Yv26 : AC := .ret
@[go_sem] def wYv26 := eRet Yv26.eq_1
def Yv16 : AC := .seq Yv17 Yv26
@[go_sem] def wYv16 := eSeq Yv16.eq_1
def Yv3 : AC := .seq Yv4 Yv16
@[go_sem] def wYv3 := eSeq Yv3.eq_1
def Yv0 : AC := .seq Yv1 Yv3
@[go_sem] def wYv0 := eSeq Yv0.eq_1
def FYv : Fn := ⟨[pos 0, pos 1], [.c (pos 4) true 4, .t (pos 5)], Yv0⟩
def Yai2 : List Op := [⟨(some (pos 2)), none, (.alloc [.b false, .ns, .b false, .ns]), []⟩]
@[go_sem] def wYai2 := eRun Yai2.eq_1
def Yai1 : AC := .reg (Yai2 ++ [])
@[go_sem] def wYai1 := eReg Yai1.eq_1 rfl
def Yai7 : List Op := [⟨(some (pos 5)), none, (.build [.b false, .ns, .b false, .ns] [(0, 2)]), [(.t (pos 4))]⟩, ⟨none, none, (.store 4), [(.t (pos 2)), (.t (pos 5))]⟩]
@[go_sem] def wYai7 := eRun Yai7.eq_1
def Yai6 : List Op := Yai7 ++ []
@[go_sem] def wYai6 := eCut Yai6.eq_1 rfl
def Yai5 : List Op := ⟨(some (pos 4)), none, (.call (pos nYy)), [(.t (pos 3))]⟩ :: Yai6
@[go_sem] def wYai5 := eCall Yai5.eq_1
def Yai8 : List Op := [⟨(some (pos 3)), none, .mv, [(.t (pos 0))]⟩]
@[go_sem] def wYai8 := eRun Yai8.eq_1
def Yai4 : AC := .reg (Yai8 ++ Yai5)
@[go_sem] def wYai4 := eReg Yai4.eq_1 rfl
def Yai9 : AC := .ret
@[go_sem] def wYai9 := eRet Yai9.eq_1
def Yai3 : AC := .seq Yai4 Yai9
@[go_sem] def wYai3 := eSeq Yai3.eq_1
def Yai0 : AC := .seq Yai1 Yai3
@[go_sem] def wYai0 := eSeq Yai0.eq_1
def FYai : Fn := ⟨[pos 0], [.c (pos 2) true 4], Yai0⟩
def Yaa2 : List Op := [⟨(some (pos 2)), none, .box, [(.t (pos 0))]⟩, ⟨(some (pos 3)), none, .box, [(.t (pos 1))]⟩, ⟨(some (pos 4)), none, (.alloc [.b false, .ns, .b false, .ns]), []⟩]
@[go_sem] def wYaa2 := eRun Yaa2.eq_1
def Yaa1 : AC := .reg (Yaa2 ++ [])
@[go_sem] def wYaa1 := eReg Yaa1.eq_1 rfl
def Yaa8 : List Op := [⟨(some (pos 8)), none, (.bin .gtr 0 .i), [(.t (pos 7)), (.c (.i .i64 (0)))]⟩]
@[go_sem] def wYaa8 := eRun Yaa8.eq_1
def Yaa7 : List Op := Yaa8 ++ []
@[go_sem] def wYaa7 := eCut Yaa7.eq_1 rfl
def Yaa6 : List Op := ⟨(some (pos 7)), none, (.call (pos nYr)), [(.t (pos 5)), (.t (pos 6))]⟩ :: Yaa7
@[go_sem] def wYaa6 := eCall Yaa6.eq_1
def Yaa9 : List Op := [⟨(some (pos 5)), none, (.load true 4), [(.t (pos 3))]⟩, ⟨(some (pos 6)), none, (.load true 4), [(.t (pos 2))]⟩]
@[go_sem] def wYaa9 := eRun Yaa9.eq_1
def Yaa5 : AC := .reg (Yaa9 ++ Yaa6)
@[go_sem] def wYaa5 := eReg Yaa5.eq_1 rfl
def Yaa13 : List Op := [⟨(some (pos 9)), none, (.load true 4), [(.t (pos 3))]⟩, ⟨none, none, (.store 4), [(.t (pos 4)), (.t (pos 9))]⟩]
@[go_sem] def wYaa13 := eRun Yaa13.eq_1
def Yaa12 : AC := .reg (Yaa13 ++ [])
@[go_sem] def wYaa12 := eReg Yaa12.eq_1 rfl
def Yaa14 : AC := .ret
@[go_sem] def wYaa14 := eRet Yaa14.eq_1
def Yaa11 : AC := .seq Yaa12 Yaa14
@[go_sem] def wYaa11 := eSeq Yaa11.eq_1
def Yaa15 : AC := .skip
@[go_sem] def wYaa15 := eSkip Yaa15.eq_1
def Yaa10 : AC := .cond (.t (pos 8)) Yaa11 Yaa15
@[go_sem] def wYaa10 := eCond Yaa10.eq_1
def Yaa4 : AC := .seq Yaa5 Yaa10
@[go_sem] def wYaa4 := eSeq Yaa4.eq_1
def Yaa18 : List Op := [⟨(some (pos 10)), none, (.load true 4), [(.t (pos 2))]⟩, ⟨none, none, (.store 4), [(.t (pos 4)), (.t (pos 10))]⟩]
@[go_sem] def wYaa18 := eRun Yaa18.eq_1
def Yaa17 : AC := .reg (Yaa18 ++ [])
@[go_sem] def wYaa17 := eReg Yaa17.eq_1 rfl
def Yaa19 : AC := .ret
@[go_sem] def wYaa19 := eRet Yaa19.eq_1
def Yaa16 : AC := .seq Yaa17 Yaa19
@[go_sem] def wYaa16 := eSeq Yaa16.eq_1
def Yaa3 : AC := .seq Yaa4 Yaa16
@[go_sem] def wYaa3 := eSeq Yaa3.eq_1
def Yaa0 : AC := .seq Yaa1 Yaa3
@[go_sem] def wYaa0 := eSeq Yaa0.eq_1
def FYaa : Fn := ⟨[pos 0, pos 1], [.c (pos 4) true 4], Yaa0⟩
def Yab2 : List Op := [⟨(some (pos 2)), none, .box, [(.t (pos 0))]⟩, ⟨(some (pos 3)), none, .box, [(.t (pos 1))]⟩, ⟨(some (pos 4)), none, (.alloc [.b false, .ns, .b false, .ns]), []⟩]
@[go_sem] def wYab2 := eRun Yab2.eq_1
def Yab1 : AC := .reg (Yab2 ++ [])
@[go_sem] def wYab1 := eReg Yab1.eq_1 rfl
def Yab8 : List Op := [⟨(some (pos 8)), none, (.bin .lss 0 .i), [(.t (pos 7)), (.c (.i .i64 (0)))]⟩]
@[go_sem] def wYab8 := eRun Yab8.eq_1
def Yab7 : List Op := Yab8 ++ []
@[go_sem] def wYab7 := eCut Yab7.eq_1 rfl
def Yab6 : List Op := ⟨(some (pos 7)), none, (.call (pos nYr)), [(.t (pos 5)), (.t (pos 6))]⟩ :: Yab7
@[go_sem] def wYab6 := eCall Yab6.eq_1
def Yab9 : List Op := [⟨(some (pos 5)), none, (.load true 4), [(.t (pos 3))]⟩, ⟨(some (pos 6)), none, (.load true 4), [(.t (pos 2))]⟩]
@[go_sem] def wYab9 := eRun Yab9.eq_1
def Yab5 : AC := .reg (Yab9 ++ Yab6)
@[go_sem] def wYab5 := eReg Yab5.eq_1 rfl
def Yab13 : List Op := [⟨(some (pos 9)), none, (.load true 4), [(.t (pos 3))]⟩, ⟨none, none, (.store 4), [(.t (pos 4)), (.t (pos 9))]⟩]
@[go_sem] def wYab13 := eRun Yab13.eq_1
def Yab12 : AC := .reg (Yab13 ++ [])
@[go_sem] def wYab12 := eReg Yab12.eq_1 rfl
def Yab14 : AC := .ret
@[go_sem] def wYab14 := eRet Yab14.eq_1
def Yab11 : AC := .seq Yab12 Yab14
@[go_sem] def wYab11 := eSeq Yab11.eq_1
def Yab15 : AC := .skip
@[go_sem] def wYab15 := eSkip Yab15.eq_1
def Yab10 : AC := .cond (.t (pos 8)) Yab11 Yab15
@[go_sem] def wYab10 := eCond Yab10.eq_1
def Yab4 : AC := .seq Yab5 Yab10
@[go_sem] def wYab4 := eSeq Yab4.eq_1
def Yab18 : List Op := [⟨(some (pos 10)), none, (.load true 4), [(.t (pos 2))]⟩, ⟨none, none, (.store 4), [(.t (pos 4)), (.t (pos 10))]⟩]
@[go_sem] def wYab18 := eRun Yab18.eq_1
def Yab17 : AC := .reg (Yab18 ++ [])
@[go_sem] def wYab17 := eReg Yab17.eq_1 rfl
def Yab19 : AC := .ret
@[go_sem] def wYab19 := eRet Yab19.eq_1
def Yab16 : AC := .seq Yab17 Yab19
@[go_sem] def wYab16 := eSeq Yab16.eq_1
def Yab3 : AC := .seq Yab4 Yab16
@[go_sem] def wYab3 := eSeq Yab3.eq_1
def Yab0 : AC := .seq Yab1 Yab3
@[go_sem] def wYab0 := eSeq Yab0.eq_1
def FYab : Fn := ⟨[pos 0, pos 1], [.c (pos 4) true 4], Yab0⟩
def Yo2 : List Op := [⟨(some (pos 2)), none, (.alloc [.b false, .ns, .b false, .ns]), []⟩]
@[go_sem] def wYo2 := eRun Yo2.eq_1
def Yo1 : AC := .reg (Yo2 ++ [])
@[go_sem] def wYo1 := eReg Yo1.eq_1 rfl
def Yo5 : List Op := [⟨(some (pos 3)), none, (.alloc [.b false, .ns, .b false, .ns]), []⟩]
@[go_sem] def wYo5 := eRun Yo5.eq_1
def Yo4 : AC := .reg (Yo5 ++ [])
@[go_sem] def wYo4 := eReg Yo4.eq_1 rfl
def Yo9 : List Op := [⟨(some (pos 6)), none, .mv, [(.t (pos 0))]⟩, ⟨(some (pos 7)), none, (.len .l), [(.t (pos 6))]⟩, ⟨(some (pos 8)), none, .mv, [(.c (.i .i64 (0)))]⟩]
@[go_sem] def wYo9 := eRun Yo9.eq_1
def Yo8 : AC := .reg (Yo9 ++ [])
@[go_sem] def wYo8 := eReg Yo8.eq_1 rfl
def Yo14 : List Op := [⟨(some (pos 9)), none, (.bin .lss 0 .i), [(.t (pos 8)), (.t (pos 7))]⟩]
@[go_sem] def wYo14 := eRun Yo14.eq_1
def Yo13 : AC := .reg (Yo14 ++ [])
@[go_sem] def wYo13 := eReg Yo13.eq_1 rfl
def Yo17 : AC := .skip
@[go_sem] def wYo17 := eSkip Yo17.eq_1
def Yo18 : AC := .exit 0
@[go_sem] def wYo18 := eExit Yo18.eq_1
def Yo16 : AC := .cond (.t (pos 9)) Yo17 Yo18
@[go_sem] def wYo16 := eCond Yo16.eq_1
def Yo23 : List Op := [⟨(some (pos 10)), none, (.iaddrS 4), [(.t (pos 6)), (.t (pos 8))]⟩, ⟨(some (pos 11)), none, (.load true 4), [(.t (pos 10))]⟩, ⟨(some (pos 5)), none, (.alloc [.b false, .ns, .b false, .ns]), []⟩, ⟨none, none, (.store 4), [(.t (pos 5)), (.t (pos 11))]⟩]
@[go_sem] def wYo23 := eRun Yo23.eq_1
def Yo22 : AC := .reg (Yo23 ++ [])
@[go_sem] def wYo22 := eReg Yo22.eq_1 rfl
def Yo27 : List Op := [⟨none, none, (.store 4), [(.t (pos 3)), (.t (pos 14))]⟩]
@[go_sem] def wYo27 := eRun Yo27.eq_1
def Yo26 : List Op := Yo27 ++ []
@[go_sem] def wYo26 := eCut Yo26.eq_1 rfl
def Yo25 : List Op := ⟨(some (pos 14)), none, (.call (pos nYn)), [(.t (pos 12)), (.t (pos 13))]⟩ :: Yo26
@[go_sem] def wYo25 := eCall Yo25.eq_1
def Yo28 : List Op := [⟨(some (pos 12)), none, (.load true 4), [(.t (pos 3))]⟩, ⟨(some (pos 13)), none, (.load true 4), [(.t (pos 5))]⟩]
@[go_sem] def wYo28 := eRun Yo28.eq_1
def Yo24 : AC := .reg (Yo28 ++ Yo25)
@[go_sem] def wYo24 := eReg Yo24.eq_1 rfl
def Yo21 : AC := .seq Yo22 Yo24
@[go_sem] def wYo21 := eSeq Yo21.eq_1
def Yo20 : AC := .block 1 Yo21
@[go_sem] def wYo20 := eBlock Yo20.eq_1
def Yo30 : List Op := [⟨(some (pos 15)), none, (.bin .add 0 .i), [(.t (pos 8)), (.c (.i .i64 (1)))]⟩, ⟨(some (pos 8)), none, .mv, [(.t (pos 15))]⟩]
@[go_sem] def wYo30 := eRun Yo30.eq_1
def Yo29 : AC := .reg (Yo30 ++ [])
@[go_sem] def wYo29 := eReg Yo29.eq_1 rfl
def Yo19 : AC := .seq Yo20 Yo29
@[go_sem] def wYo19 := eSeq Yo19.eq_1
def Yo15 : AC := .seq Yo16 Yo19
@[go_sem] def wYo15 := eSeq Yo15.eq_1
def Yo12 : AC := .seq Yo13 Yo15
@[go_sem] def wYo12 := eSeq Yo12.eq_1
def Yo11 : AC := .loop Yo12
def Yo10 : AC := .block 0 Yo11
@[go_sem] def wYo10 := eBlock Yo10.eq_1
def Yo7 : AC := .seq Yo8 Yo10
@[go_sem] def wYo7 := eSeq Yo7.eq_1
def Yo33 : List Op := [⟨(some (pos 16)), none, (.load true 4), [(.t (pos 3))]⟩, ⟨none, none, (.store 4), [(.t (pos 2)), (.t (pos 16))]⟩]
@[go_sem] def wYo33 := eRun Yo33.eq_1
def Yo32 : AC := .reg (Yo33 ++ [])
@[go_sem] def wYo32 := eReg Yo32.eq_1 rfl
def Yo34 : AC := .ret
@[go_sem] def wYo34 := eRet Yo34.eq_1
def Yo31 : AC := .seq Yo32 Yo34
@[go_sem] def wYo31 := eSeq Yo31.eq_1
def Yo6 : AC := .seq Yo7 Yo31
@[go_sem] def wYo6 := eSeq Yo6.eq_1
def Yo3 : AC := .seq Yo4 Yo6
@[go_sem] def wYo3 := eSeq Yo3.eq_1
def Yo0 : AC := .seq Yo1 Yo3
@[go_sem] def wYo0 := eSeq Yo0.eq_1
def FYo : Fn := ⟨[pos 0], [.c (pos 2) true 4], Yo0⟩
def Yz2 : List Op := [⟨(some (pos 2)), none, .box, [(.t (pos 0))]⟩, ⟨(some (pos 3)), none, .box, [(.t (pos 1))]⟩, ⟨(some (pos 4)), none, (.alloc [.b false, .ns, .b false, .ns]), []⟩, ⟨(some (pos 5)), none, .mv, [(.c (.i .i64 (0)))]⟩]
@[go_sem] def wYz2 := eRun Yz2.eq_1
def Yz1 : AC := .reg (Yz2 ++ [])
@[go_sem] def wYz1 := eReg Yz1.eq_1 rfl
def Yz8 : List Op := [⟨(some (pos 8)), none, (.bin .eql 0 .i), [(.t (pos 7)), (.c (.i .i64 (0)))]⟩]
@[go_sem] def wYz8 := eRun Yz8.eq_1
def Yz7 : List Op := Yz8 ++ []
@[go_sem] def wYz7 := eCut Yz7.eq_1 rfl
def Yz6 : List Op := ⟨(some (pos 7)), none, (.call (pos nYu)), [(.t (pos 6))]⟩ :: Yz7
@[go_sem] def wYz6 := eCall Yz6.eq_1
def Yz9 : List Op := [⟨(some (pos 6)), none, (.load true 2), [(.t (pos 3))]⟩]
@[go_sem] def wYz9 := eRun Yz9.eq_1
def Yz5 : AC := .reg (Yz9 ++ Yz6)
@[go_sem] def wYz5 := eReg Yz5.eq_1 rfl
def Yz13 : List Op := [⟨(some (pos 9)), none, (.build [.b false, .ns, .b false, .ns] []), []⟩, ⟨none, none, (.store 4), [(.t (pos 4)), (.t (pos 9))]⟩, ⟨(some (pos 5)), none, .mv, [(.c (.i .i64 (19)))]⟩]
@[go_sem] def wYz13 := eRun Yz13.eq_1
def Yz12 : AC := .reg (Yz13 ++ [])
@[go_sem] def wYz12 := eReg Yz12.eq_1 rfl
def Yz14 : AC := .ret
@[go_sem] def wYz14 := eRet Yz14.eq_1
def Yz11 : AC := .seq Yz12 Yz14
@[go_sem] def wYz11 := eSeq Yz11.eq_1
def Yz15 : AC := .skip
@[go_sem] def wYz15 := eSkip Yz15.eq_1
def Yz10 : AC := .cond (.t (pos 8)) Yz11 Yz15
@[go_sem] def wYz10 := eCond Yz10.eq_1
def Yz4 : AC := .seq Yz5 Yz10
@[go_sem] def wYz4 := eSeq Yz4.eq_1
def Yz20 : List Op := [⟨none, none, (.store 4), [(.t (pos 4)), (.t (pos 12))]⟩, ⟨(some (pos 5)), none, .mv, [(.c (.i .i64 (0)))]⟩]
@[go_sem] def wYz20 := eRun Yz20.eq_1
def Yz19 : List Op := Yz20 ++ []
@[go_sem] def wYz19 := eCut Yz19.eq_1 rfl
def Yz18 : List Op := ⟨(some (pos 12)), none, (.call (pos nYi)), [(.t (pos 10)), (.t (pos 11))]⟩ :: Yz19
@[go_sem] def wYz18 := eCall Yz18.eq_1
def Yz21 : List Op := [⟨(some (pos 10)), none, (.load true 2), [(.t (pos 2))]⟩, ⟨(some (pos 11)), none, (.load true 2), [(.t (pos 3))]⟩]
@[go_sem] def wYz21 := eRun Yz21.eq_1
def Yz17 : AC := .reg (Yz21 ++ Yz18)
@[go_sem] def wYz17 := eReg Yz17.eq_1 rfl
def Yz22 : AC := .ret
@[go_sem] def wYz22 := eRet Yz22.eq_1
def Yz16 : AC := .seq Yz17 Yz22
@[go_sem] def wYz16 := eSeq Yz16.eq_1
def Yz3 : AC := .seq Yz4 Yz16
@[go_sem] def wYz3 := eSeq Yz3.eq_1
def Yz0 : AC := .seq Yz1 Yz3
@[go_sem] def wYz0 := eSeq Yz0.eq_1
def FYz : Fn := ⟨[pos 0, pos 1], [.c (pos 4) true 4, .t (pos 5)], Yz0⟩
def Yau2 : List Op := [⟨(some (pos 1)), none, .box, [(.t (pos 0))]⟩, ⟨(some (pos 2)), none, (.alloc [.b false, .ns]), []⟩]
@[go_sem] def wYau2 := eRun Yau2.eq_1
def Yau1 : AC := .reg (Yau2 ++ [])
@[go_sem] def wYau1 := eReg Yau1.eq_1 rfl
def Yau5 : List Op := [⟨(some (pos 3)), none, (.faddr 0), [(.t (pos 1))]⟩, ⟨(some (pos 4)), none, (.load true 2), [(.t (pos 3))]⟩, ⟨none, none, (.store 2), [(.t (pos 2)), (.t (pos 4))]⟩]
@[go_sem] def wYau5 := eRun Yau5.eq_1
def Yau4 : AC := .reg (Yau5 ++ [])
@[go_sem] def wYau4 := eReg Yau4.eq_1 rfl
def Yau6 : AC := .ret
@[go_sem] def wYau6 := eRet Yau6.eq_1
def Yau3 : AC := .seq Yau4 Yau6
@[go_sem] def wYau3 := eSeq Yau3.eq_1
def Yau0 : AC := .seq Yau1 Yau3
@[go_sem] def wYau0 := eSeq Yau0.eq_1
def FYau : Fn := ⟨[pos 0], [.c (pos 2) true 2], Yau0⟩
end
end Go.AR
set_option maxRecDepth 100000
namespace Go.AR
open Go.Proofs
noncomputable section
theorem ok60 : FnOk Tryz.prog 60 FYaf := compF_ok (np := 1) Tryz.func60 (by kernel_rfl)
theorem ok63 : FnOk Tryz.prog 63 FYx := compF_ok (np := 1) Tryz.func63 (by kernel_rfl)
theorem ok70 : FnOk Tryz.prog 70 FYan := compF_ok (np := 1) Tryz.func70 (by kernel_rfl)
theorem ok18 : FnOk Tryz.prog 18 FYr := compF_ok (np := 2) Tryz.func18 (by kernel_rfl)
theorem ok21 : FnOk Tryz.prog 21 FYn := compF_ok (np := 2) Tryz.func21 (by kernel_rfl)
theorem ok66 : FnOk Tryz.prog 66 FYi := compF_ok (np := 2) Tryz.func66 (by kernel_rfl)
theorem ok111 : FnOk Tryz.prog 111 FYs := compF_ok (np := 2) Tryz.func111 (by kernel_rfl)
theorem ok41 : FnOk Tryz.prog 41 FYah := compF_ok (np := 2) Tryz.func41 (by kernel_rfl)
theorem ok82 : FnOk Tryz.prog 82 FYap := compF_ok (np := 1) Tryz.func82 (by kernel_rfl)
theorem ok40 : FnOk Tryz.prog 40 FYag := compF_ok (np := 1) Tryz.func40 (by kernel_rfl)
theorem ok42 : FnOk Tryz.prog 42 FYv := compF_ok (np := 2) Tryz.func42 (by kernel_rfl)
theorem ok43 : FnOk Tryz.prog 43 FYai := compF_ok (np := 1) Tryz.func43 (by kernel_rfl)
theorem ok58 : FnOk Tryz.prog 58 FYaa := compF_ok (np := 2) Tryz.func58 (by kernel_rfl)
theorem ok46 : FnOk Tryz.prog 46 FYab := compF_ok (np := 2) Tryz.func46 (by kernel_rfl)
theorem ok59 : FnOk Tryz.prog 59 FYo := compF_ok (np := 1) Tryz.func59 (by kernel_rfl)
theorem ok144 : FnOk Tryz.prog 144 FYz := compF_ok (np := 2) Tryz.func144 (by kernel_rfl)
theorem ok145 : FnOk Tryz.prog 145 FYau := compF_ok (np := 1) Tryz.func145 (by kernel_rfl)
end
end Go.AR
namespace Go.AR
open Go.Proofs
noncomputable section
def fnsCq : Tr Fn := (.nd (.nd (.nd (.nd (.nd (.nd (.nd .lf (some FYx) .lf) none .lf) none (.nd .lf none (.nd .lf (some FYs) .lf))) none .lf) none (.nd .lf none (.nd (.nd .lf (some FYai) .lf) none (.nd .lf (some FYo) .lf)))) none (.nd (.nd (.nd .lf none (.nd (.nd (.nd .lf (some FYau) .lf) none .lf) none .lf)) none (.nd (.nd .lf (some FYah) .lf) none .lf)) none (.nd (.nd .lf (some FYn) .lf) none .lf))) none (.nd (.nd (.nd (.nd (.nd .lf none (.nd .lf (some c96) .lf)) none (.nd (.nd (.nd .lf (some FYz) .lf) none .lf) none .lf)) none (.nd (.nd .lf (some FYag) .lf) none .lf)) none (.nd .lf none (.nd .lf none (.nd .lf (some FYaf) .lf)))) none (.nd (.nd (.nd (.nd (.nd .lf (some FYi) .lf) none .lf) (some FYr) (.nd (.nd .lf (some FYap) .lf) none .lf)) none (.nd (.nd .lf (some FYv) .lf) none (.nd .lf (some FYaa) .lf))) none (.nd (.nd (.nd (.nd .lf (some FYan) .lf) none .lf) none .lf) none (.nd (.nd .lf (some FYab) .lf) none .lf)))))
def orcCq : Tr (List AV → Tr Blk → Pos → Res) := (.nd (.nd (.nd (.nd (.nd (.nd .lf none (.nd .lf (some orcSign) .lf)) none .lf) none (.nd (.nd .lf none (.nd .lf (some orcDivMod) .lf)) none .lf)) none (.nd (.nd .lf none (.nd (.nd .lf (some orcFrom) .lf) none .lf)) none .lf)) none (.nd (.nd (.nd (.nd (.nd .lf (some orcAdd) .lf) none .lf) none (.nd (.nd .lf (some orcAbs) .lf) none .lf)) none .lf) none (.nd (.nd (.nd .lf none (.nd .lf (some orcNeg) .lf)) none .lf) none (.nd .lf none (.nd .lf (some orcCompare) .lf))))) none (.nd .lf none (.nd .lf none (.nd (.nd (.nd .lf none (.nd .lf (some orcGcd) .lf)) none .lf) none (.nd (.nd (.nd (.nd .lf (some orcSub) .lf) none .lf) none .lf) none (.nd .lf (some orcMul) .lf))))))
def lCq : List (Nat × Fn) := [(18, FYr), (21, FYn), (40, FYag), (41, FYah), (42, FYv), (43, FYai), (46, FYab), (58, FYaa), (59, FYo), (60, FYaf), (63, FYx), (66, FYi), (70, FYan), (82, FYap), (96, c96), (111, FYs), (144, FYz), (145, FYau)]
def mCq : List (Nat × (List AV → Tr Blk → Pos → Res)) := [(61, orcCompare), (62, orcMul), (65, orcAdd), (81, orcAbs), (83, orcFrom), (95, orcSign), (101, orcNeg), (102, orcGcd), (103, orcDivMod), (142, orcSub)]
theorem fnsCq_eq : fnsCq = mkTab lCq := by kernel_rfl
theorem orcCq_eq : orcCq = mkTab mCq := by kernel_rfl
theorem lCq_ok : AllOk Tryz.prog lCq := .cons ok18 (.cons ok21 (.cons ok40 (.cons ok41 (.cons ok42 (.cons ok43 (.cons ok46 (.cons ok58 (.cons ok59 (.cons ok60 (.cons ok63 (.cons ok66 (.cons ok70 (.cons ok82 (.cons ok96 (.cons ok111 (.cons ok144 (.cons ok145 .nil)))))))))))))))))
theorem mCq_ok {Z : Nat → Option Obj} (hZ : ZOk Z) : AllOrc Tryz.prog (LOk Tryz.prog Z) mCq := .cons (orcCompare_ok hZ) (.cons (orcMul_ok hZ) (.cons (orcAdd_ok hZ) (.cons (orcAbs_ok hZ) (.cons (orcFrom_ok hZ) (.cons (orcSign_ok hZ) (.cons (orcNeg_ok hZ) (.cons (orcGcd_ok hZ) (.cons (orcDivMod_ok hZ) (.cons (orcSub_ok hZ) .nil)))))))))
def Cq : Ctx := ⟨fnsCq, orcCq⟩
theorem Cq_ok {Z : Nat → Option Obj} (hZ : ZOk Z) : CtxOk Tryz.prog (LOk Tryz.prog Z) Cq := ctx_ok fnsCq_eq orcCq_eq lCq_ok (mCq_ok hZ)
end
noncomputable section
structure IntOrc (C : Ctx) : Prop where
  add : C.orc.get (pos nYm) = some orcAdd
  mul : C.orc.get (pos nYd) = some orcMul
  cmp : C.orc.get (pos nYk) = some orcCompare
  neg : C.orc.get (pos nYao) = some orcNeg
  abs : C.orc.get (pos nYat) = some orcAbs
  sign : C.orc.get (pos nYu) = some orcSign
  gcd : C.orc.get (pos nYt) = some orcGcd
  dm : C.orc.get (pos nYh) = some orcDivMod
  from_ : C.orc.get (pos nYy) = some orcFrom
section
variable {C : Ctx} {h : Tr Blk} {nx : Pos} {K : AV → Tr Blk → Pos → Prop} {c d : AV} {a b : ZI}
theorem orc1_comes {f : Pos} {F : ZI → Option AV} {r : AV} (ho : C.orc.get f = some (orc1 F)) (ha : zof c = some a) (sa : sm a = true) (hF : F a = some r) (hk : K r h nx) : Comes C (.f f []) [c] h nx K :=
  Comes.orc ho (show orc1 F ([c] ++ []) h nx = .ok r h nx by show orc1 F [c] h nx = _; unfold orc1; simp [ha, sa, hF]) hk
theorem orc2_comes {f : Pos} {F : ZI → ZI → Option AV} {r : AV} (ho : C.orc.get f = some (orc2 F)) (ha : zof c = some a) (hb : zof d = some b) (sa : sm a = true) (sb : sm b = true) (hF : F a b = some r) (hk : K r h nx) : Comes C (.f f []) [c, d] h nx K :=
  Comes.orc ho (show orc2 F ([c, d] ++ []) h nx = .ok r h nx by show orc2 F [c, d] h nx = _; unfold orc2; simp [ha, hb, sa, sb, hF]) hk
theorem c_add (hI : IntOrc C) (ha : zof c = some a) (hb : zof d = some b) (sa : sm a = true) (sb : sm b = true) (hk : K (zv (ZI.add a b)) h nx) : Comes C (.f (pos nYm) []) [c, d] h nx K := orc2_comes (F := fun a b => some (zv (ZI.add a b))) hI.add ha hb sa sb rfl hk
theorem c_mul (hI : IntOrc C) (ha : zof c = some a) (hb : zof d = some b) (sa : sm a = true) (sb : sm b = true) (hk : K (zv (ZI.mul a b)) h nx) : Comes C (.f (pos nYd) []) [c, d] h nx K := orc2_comes (F := fun a b => some (zv (ZI.mul a b))) hI.mul ha hb sa sb rfl hk
theorem c_cmp (hI : IntOrc C) (ha : zof c = some a) (hb : zof d = some b) (sa : sm a = true) (sb : sm b = true) (hk : K (.i .i64 (ZI.cmp a b)) h nx) : Comes C (.f (pos nYk) []) [c, d] h nx K := orc2_comes (F := fun a b => some (.i .i64 (ZI.cmp a b))) hI.cmp ha hb sa sb rfl hk
theorem c_neg (hI : IntOrc C) (ha : zof c = some a) (sa : sm a = true) (hk : K (zv (ZI.neg' a)) h nx) : Comes C (.f (pos nYao) []) [c] h nx K := orc1_comes (F := fun a => some (zv (ZI.neg' a))) hI.neg ha sa rfl hk
theorem c_abs (hI : IntOrc C) (ha : zof c = some a) (sa : sm a = true) (hk : K (zv (ZI.abs a)) h nx) : Comes C (.f (pos nYat) []) [c] h nx K := orc1_comes (F := fun a => some (zv (ZI.abs a))) hI.abs ha sa rfl hk
theorem c_sign (hI : IntOrc C) (ha : zof c = some a) (sa : sm a = true) (hk : K (.i .i64 (ZI.sign a)) h nx) : Comes C (.f (pos nYu) []) [c] h nx K := orc1_comes (F := fun a => some (.i .i64 (ZI.sign a))) hI.sign ha sa rfl hk
theorem c_gcd (hI : IntOrc C) (ha : zof c = some a) (hb : zof d = some b) (sa : sm a = true) (sb : sm b = true) (hlt : b.mag < BB) (hk : K (zv (ZI.gcd a b)) h nx) : Comes C (.f (pos nYt) []) [c, d] h nx K :=
  orc2_comes (F := fGcd) hI.gcd ha hb sa sb (by unfold fGcd; rw [show Nat.blt b.mag 4294967296 = true from by rw [Nat.blt_eq]; exact hlt]; rfl) hk
theorem c_dm (hI : IntOrc C) (ha : zof c = some a) (hb : zof d = some b) (sa : sm a = true) (sb : sm b = true) (h0 : b.mag ≠ 0) (hlt : b.mag < BB) (hk : K (.t [zv (ZI.divmod a b).1, zv (ZI.divmod a b).2, .i .i64 0]) h nx) : Comes C (.f (pos nYh) []) [c, d] h nx K :=
  orc2_comes (F := fDivMod) hI.dm ha hb sa sb (by
    unfold fDivMod
    have h1 : Nat.beq b.mag 0 = false := by cases hq : Nat.beq b.mag 0 with | false => rfl | true => exact absurd (Nat.eq_of_beq_eq_true hq) h0
    rw [h1, show Nat.blt b.mag 4294967296 = true from by rw [Nat.blt_eq]; exact hlt]
    cases Nat.blt a.mag b.mag <;> rfl) hk
theorem c_from1 (hI : IntOrc C) (hk : K (zv ⟨false, 1⟩) h nx) : Comes C (.f (pos nYy) []) [.i .i64 1] h nx K := Comes.orc hI.from_ (show orcFrom [.i .i64 1] h nx = .ok (zv ⟨false, 1⟩) h nx by rfl) hk
end
structure RQ where
  num : ZI
  den : ZI
structure Qv (c : AV) (q : RQ) : Prop where
  ex : ∃ v w, c = .a [.b q.num.neg, v, .b q.den.neg, w] ∧ (v = .g q.num.mag ∨ (v = .ns ∧ q.num.mag = 0)) ∧ (w = .g q.den.mag ∨ (w = .ns ∧ q.den.mag = 0))
theorem zof_cells {v : AV} {a : ZI} (h : v = .g a.mag ∨ (v = .ns ∧ a.mag = 0)) : zof (.a [.b a.neg, v]) = some a := by
  rcases h with rfl | ⟨rfl, h⟩
  · rfl
  · cases a with | mk n m => cases h; rfl
def one : ZI := ⟨false, 1⟩
def RQ.whole (q : RQ) : Bool := Nat.beq q.den.mag 0 || ieq (ZI.cmp q.den one) 0
def RQ.den' (q : RQ) : ZI := bif Nat.beq q.den.mag 0 then one else q.den
section
variable {C : Ctx} {h : Tr Blk} {nx : Pos} {K : AV → Tr Blk → Pos → Prop} {c d : AV} {a b : ZI} {q r : RQ}
theorem sign_zero (a : ZI) : decide (ZI.sign a = 0) = Nat.beq a.mag 0 := by
  unfold ZI.sign
  cases Nat.beq a.mag 0 with
  | true => rfl
  | false => cases a.neg <;> rfl
theorem sm_one : sm one = true := by decide +kernel
theorem one_spec (hI : IntOrc C) (hO : Own C nYak FYak) (hK : ∀ h' nx', Grow h nx h' nx' → K (zv one) h' nx') : Comes C (.f (pos nYak) []) [] h nx K := by
  refine hO.comes (T := Tr.lf) rfl ?_
  show wp C Yak0 _ _ _ _
  simp only [FYak, go_sem, Nat.reduceEqDiff, reduceIte]
  refine c_from1 hI ?_
  have q3 := Tr.get_set_same nx (Blk.cells [.b false, .ns] 0) h
  simp only [go_sem, zv, q3, Nat.reduceEqDiff, reduceIte]
  exact hK _ _ ((Grow.refl h nx).new _)
theorem whole_spec (hI : IntOrc C) (hO : Own C nYaf FYaf) (h1 : Own C nYak FYak) (hq : Qv c q) (sd : sm q.den = true)
    (hK : ∀ h' nx', Grow h nx h' nx' → K (.b (RQ.whole q)) h' nx') : Comes C (.f (pos nYaf) []) [c] h nx K := by
  obtain ⟨v, w, rfl, hv, hw⟩ := hq.ex
  refine hO.comes (T := (Tr.lf.set (pos 0) (.a [.b q.num.neg, v, .b q.den.neg, w]))) rfl ?_
  show wp C Yaf0 _ _ _ _
  simp only [FYaf, go_sem, Nat.reduceEqDiff, reduceIte]
  refine c_sign hI (zof_cells hw) sd ?_
  have f1 := sign_zero q.den
  cases hz : Nat.beq q.den.mag 0 with
  | true =>
    rw [hz] at f1
    simp only [go_sem, f1, Nat.reduceEqDiff, reduceIte]
    have := hK _ _ ((Grow.refl h nx).new (.cells [.b q.num.neg, v, .b q.den.neg, w] 0))
    unfold RQ.whole at this
    rw [hz] at this
    exact this
  | false =>
    rw [hz] at f1
    simp only [go_sem, f1, Nat.reduceEqDiff, reduceIte]
    refine one_spec hI h1 (fun h' nx' hgr => ?_)
    have c1 := (hgr.cells (b := nx) (lt_s1 nx))
    simp only [go_sem] at c1
    simp only [go_sem, f1, c1, Nat.reduceEqDiff, reduceIte]
    refine c_cmp hI (zof_cells hw) rfl sd sm_one ?_
    simp only [go_sem, f1, c1, Nat.reduceEqDiff, reduceIte]
    have := hK _ _ (((Grow.refl h nx).new (.cells [.b q.num.neg, v, .b q.den.neg, w] 0)).trans hgr)
    unfold RQ.whole at this
    rw [hz, ieq_eq] at this
    exact this
theorem Den_spec (hI : IntOrc C) (hO : Own C nYx FYx) (h1 : Own C nYak FYak) (hq : Qv c q) (sd : sm q.den = true)
    (hK : ∀ h' nx', Grow h nx h' nx' → K (zv (RQ.den' q)) h' nx') : Comes C (.f (pos nYx) []) [c] h nx K := by
  obtain ⟨v, w, rfl, hv, hw⟩ := hq.ex
  refine hO.comes (T := (Tr.lf.set (pos 0) (.a [.b q.num.neg, v, .b q.den.neg, w]))) rfl ?_
  show wp C Yx0 _ _ _ _
  simp only [FYx, go_sem, Nat.reduceEqDiff, reduceIte]
  refine c_sign hI (zof_cells hw) sd ?_
  have f1 := sign_zero q.den
  cases hz : Nat.beq q.den.mag 0 with
  | true =>
    rw [hz] at f1
    simp only [go_sem, f1, Nat.reduceEqDiff, reduceIte]
    refine one_spec hI h1 (fun h' nx' hgr => ?_)
    have q3 : h'.get nx.succ = some (.cells [.b false, .ns] 0) := by rw [hgr.get _ (lt_s1 _), Tr.get_set_same]
    simp only [go_sem, zv, one, q3, Nat.reduceEqDiff, reduceIte]
    have := hK _ _ (((((Grow.refl h nx).new (.cells [.b q.num.neg, v, .b q.den.neg, w] 0)).new (.cells [.b false, .ns] 0)).trans hgr).set (b := nx.succ) (Nat.le_of_lt (lt_s1 nx)) (.cells [.b false, .g 1] 0))
    unfold RQ.den' at this
    rw [hz] at this
    exact this
  | false =>
    rw [hz] at f1
    have hw' : w = .g q.den.mag := by
      rcases hw with h | ⟨_, h⟩
      · exact h
      · rw [h] at hz; cases hz
    subst hw'
    simp only [go_sem, f1, Nat.reduceEqDiff, reduceIte]
    have := hK _ _ (((Grow.refl h nx).new (.cells [.b q.num.neg, v, .b q.den.neg, .g q.den.mag] 0)).new (.cells [.b q.den.neg, .g q.den.mag] 0))
    unfold RQ.den' at this
    rw [hz] at this
    exact this
theorem QSign_spec (hI : IntOrc C) (hO : Own C nYan FYan) (hq : Qv c q) (sd : sm q.num = true)
    (hK : ∀ h' nx', Grow h nx h' nx' → K (.i .i64 (ZI.sign q.num)) h' nx') : Comes C (.f (pos nYan) []) [c] h nx K := by
  obtain ⟨v, w, rfl, hv, hw⟩ := hq.ex
  refine hO.comes (T := (Tr.lf.set (pos 0) (.a [.b q.num.neg, v, .b q.den.neg, w]))) rfl ?_
  show wp C Yan0 _ _ _ _
  simp only [FYan, go_sem, Nat.reduceEqDiff, reduceIte]
  refine c_sign hI (zof_cells hv) sd ?_
  exact hK _ _ ((Grow.refl h nx).new _)
def RQ.reduced (n d : ZI) : RQ :=
  let m := bif ilt (ZI.sign d) 0 then ZI.neg' n else n
  let e := bif ilt (ZI.sign d) 0 then ZI.neg' d else d
  let g := ZI.gcd m e
  bif ieq (ZI.cmp g one) 0 then ⟨m, e⟩ else ⟨(ZI.divmod m g).1, (ZI.divmod e g).1⟩
theorem neg_mag (a : ZI) : (ZI.neg' a).mag = a.mag := rfl
theorem sm_neg {a : ZI} (h : sm a = true) : sm (ZI.neg' a) = true := h
theorem sm_le {a b : ZI} (h : sm a = true) (hl : b.mag ≤ a.mag) : sm b = true := by
  unfold sm at *
  exact Nat.ble_eq_true_of_le (Nat.le_trans hl (Nat.le_of_ble_eq_true h))
theorem reduced_spec (hI : IntOrc C) (hO : Own C nYi FYi) (h1 : Own C nYak FYak) (sa : sm a = true) (sb : sm b = true) (h0 : b.mag ≠ 0) (hB : b.mag < BB)
    (hK : ∀ c h' nx', Grow h nx h' nx' → Qv c (RQ.reduced a b) → K c h' nx') : Comes C (.f (pos nYi) []) [zv a, zv b] h nx K := by
  refine hO.comes (T := ((Tr.lf.set (pos 0) (zv a)).set (pos 1) (zv b))) rfl ?_
  show wp C Yi0 _ _ _ _
  simp only [FYi, go_sem, zv, Nat.reduceEqDiff, reduceIte]
  have n1 := lt_s1 nx
  have n2 := lt_s2 nx
  have n3 := lt_s3 nx
  have n4 := lt_s4 nx
  refine c_sign (a := b) hI rfl sb ?_
  have hf : ilt (ZI.sign b) 0 = decide (ZI.sign b < 0) := ilt_eq _ _
  cases hs : ilt (ZI.sign b) 0 with
  | true =>
    rw [hs] at hf
    have f1 := hf.symm
    simp only [go_sem, zv, f1, Nat.reduceEqDiff, reduceIte]
    refine c_neg (a := a) hI rfl sa ?_
    simp only [go_sem, zv, f1, Nat.reduceEqDiff, reduceIte]
    refine c_neg (a := b) hI rfl sb ?_
    simp only [go_sem, zv, f1, Nat.reduceEqDiff, reduceIte]
    have q1 := Tr.get_set_same nx.succ.succ (Blk.cells [AV.b false, AV.ns, AV.b false, AV.ns] 0)
    refine c_gcd (a := (ZI.neg' a)) (b := (ZI.neg' b)) hI rfl rfl sa sb hB ?_
    have gB : (ZI.gcd (ZI.neg' a) (ZI.neg' b)).mag < BB := Nat.lt_of_le_of_lt (Nat.le_of_dvd (Nat.pos_of_ne_zero h0) (Nat.gcd_dvd_right _ _)) hB
    have g0 : (ZI.gcd (ZI.neg' a) (ZI.neg' b)).mag ≠ 0 := fun hz => h0 (Nat.eq_zero_of_gcd_eq_zero_right hz)
    have sg : sm (ZI.gcd (ZI.neg' a) (ZI.neg' b)) = true := sm_le (a := (ZI.neg' b)) sb (Nat.le_of_dvd (Nat.pos_of_ne_zero h0) (Nat.gcd_dvd_right _ _))
    simp only [go_sem, zv, Nat.reduceEqDiff, reduceIte]
    refine one_spec hI h1 (fun h' nx' hgr => ?_)
    have c1 := (hgr.cells (b := nx.succ.succ.succ) (lt_s1 _))
    have c2 := (hgr.cells (b := nx) (lt_s4 _))
    have c3 := (hgr.cells (b := nx.succ) (lt_s3 _))
    have c4 : h'.get nx.succ.succ = some (.cells [.b false, .ns, .b false, .ns] 0) := by rw [hgr.get _ (lt_s2 _)]; simp only [go_sem]; try exact Tr.get_set_same _ _ _
    have c5 : h'.get nx = some (.cells [.b (ZI.neg' a).neg, .g (ZI.neg' a).mag] 0) := by rw [hgr.get _ (lt_s4 _)]; simp only [go_sem]; try exact Tr.get_set_same _ _ _
    have c6 : h'.get nx.succ = some (.cells [.b (ZI.neg' b).neg, .g (ZI.neg' b).mag] 0) := by rw [hgr.get _ (lt_s3 _)]; simp only [go_sem]; try exact Tr.get_set_same _ _ _
    simp only [go_sem] at c1 c2 c3
    simp only [go_sem, zv, c1, c2, c3, c4, c5, c6, Nat.reduceEqDiff, reduceIte]
    refine c_cmp (a := ZI.gcd (ZI.neg' a) (ZI.neg' b)) (b := one) hI rfl rfl sg sm_one ?_
    have hx : ieq (ZI.cmp (ZI.gcd (ZI.neg' a) (ZI.neg' b)) one) 0 = decide (ZI.cmp (ZI.gcd (ZI.neg' a) (ZI.neg' b)) one = 0) := ieq_eq _ _
    cases hc : decide (ZI.cmp (ZI.gcd (ZI.neg' a) (ZI.neg' b)) one = 0) with
    | true =>
      rw [hc] at hx
      unfold RQ.reduced at hK
      simp only [hs, cond_true, cond_false, hx] at hK
      simp only [go_sem, zv, hc, c1, c2, c3, c4, c5, c6, Nat.reduceEqDiff, reduceIte]
      refine hK _ _ _ ?_ ⟨_, _, rfl, .inl rfl, .inl rfl⟩
      repeat (refine Grow.set ?_ (by omega) _)
      refine Grow.trans ?_ hgr
      repeat (refine Grow.set ?_ (by omega) _)
      exact ⟨by omega, fun _ _ => rfl⟩
    | false =>
      rw [hc] at hx
      unfold RQ.reduced at hK
      simp only [hs, cond_true, cond_false, hx] at hK
      simp only [go_sem, zv, hc, c1, c2, c3, c4, c5, c6, Nat.reduceEqDiff, reduceIte]
      refine c_dm (a := (ZI.neg' a)) (b := ZI.gcd (ZI.neg' a) (ZI.neg' b)) hI rfl rfl sa sg g0 gB ?_
      simp only [go_sem, zv, hc, c1, c2, c3, c4, c5, c6, Nat.reduceEqDiff, reduceIte]
      refine c_dm (a := (ZI.neg' b)) (b := ZI.gcd (ZI.neg' a) (ZI.neg' b)) hI rfl rfl sb sg g0 gB ?_
      simp only [go_sem, zv, hc, c1, c2, c3, c4, c5, c6, Nat.reduceEqDiff, reduceIte]
      refine hK _ _ _ ?_ ⟨_, _, rfl, .inl rfl, .inl rfl⟩
      repeat (refine Grow.set ?_ (by omega) _)
      refine Grow.trans ?_ hgr
      repeat (refine Grow.set ?_ (by omega) _)
      exact ⟨by omega, fun _ _ => rfl⟩
  | false =>
    rw [hs] at hf
    have f1 := hf.symm
    simp only [go_sem, zv, f1, Nat.reduceEqDiff, reduceIte]
    refine c_gcd (a := a) (b := b) hI rfl rfl sa sb hB ?_
    have gB : (ZI.gcd a b).mag < BB := Nat.lt_of_le_of_lt (Nat.le_of_dvd (Nat.pos_of_ne_zero h0) (Nat.gcd_dvd_right _ _)) hB
    have g0 : (ZI.gcd a b).mag ≠ 0 := fun hz => h0 (Nat.eq_zero_of_gcd_eq_zero_right hz)
    have sg : sm (ZI.gcd a b) = true := sm_le (a := b) sb (Nat.le_of_dvd (Nat.pos_of_ne_zero h0) (Nat.gcd_dvd_right _ _))
    simp only [go_sem, zv, Nat.reduceEqDiff, reduceIte]
    refine one_spec hI h1 (fun h' nx' hgr => ?_)
    have c1 := (hgr.cells (b := nx.succ.succ.succ) (lt_s1 _))
    have c2 := (hgr.cells (b := nx) (lt_s4 _))
    have c3 := (hgr.cells (b := nx.succ) (lt_s3 _))
    have c4 : h'.get nx.succ.succ = some (.cells [.b false, .ns, .b false, .ns] 0) := by rw [hgr.get _ (lt_s2 _)]; simp only [go_sem]; try exact Tr.get_set_same _ _ _
    have c5 : h'.get nx = some (.cells [.b a.neg, .g a.mag] 0) := by rw [hgr.get _ (lt_s4 _)]; simp only [go_sem]; try exact Tr.get_set_same _ _ _
    have c6 : h'.get nx.succ = some (.cells [.b b.neg, .g b.mag] 0) := by rw [hgr.get _ (lt_s3 _)]; simp only [go_sem]; try exact Tr.get_set_same _ _ _
    simp only [go_sem] at c1 c2 c3
    simp only [go_sem, zv, c1, c2, c3, c4, c5, c6, Nat.reduceEqDiff, reduceIte]
    refine c_cmp (a := ZI.gcd a b) (b := one) hI rfl rfl sg sm_one ?_
    have hx : ieq (ZI.cmp (ZI.gcd a b) one) 0 = decide (ZI.cmp (ZI.gcd a b) one = 0) := ieq_eq _ _
    cases hc : decide (ZI.cmp (ZI.gcd a b) one = 0) with
    | true =>
      rw [hc] at hx
      unfold RQ.reduced at hK
      simp only [hs, cond_true, cond_false, hx] at hK
      simp only [go_sem, zv, hc, c1, c2, c3, c4, c5, c6, Nat.reduceEqDiff, reduceIte]
      refine hK _ _ _ ?_ ⟨_, _, rfl, .inl rfl, .inl rfl⟩
      repeat (refine Grow.set ?_ (by omega) _)
      refine Grow.trans ?_ hgr
      repeat (refine Grow.set ?_ (by omega) _)
      exact ⟨by omega, fun _ _ => rfl⟩
    | false =>
      rw [hc] at hx
      unfold RQ.reduced at hK
      simp only [hs, cond_true, cond_false, hx] at hK
      simp only [go_sem, zv, hc, c1, c2, c3, c4, c5, c6, Nat.reduceEqDiff, reduceIte]
      refine c_dm (a := a) (b := ZI.gcd a b) hI rfl rfl sa sg g0 gB ?_
      simp only [go_sem, zv, hc, c1, c2, c3, c4, c5, c6, Nat.reduceEqDiff, reduceIte]
      refine c_dm (a := b) (b := ZI.gcd a b) hI rfl rfl sb sg g0 gB ?_
      simp only [go_sem, zv, hc, c1, c2, c3, c4, c5, c6, Nat.reduceEqDiff, reduceIte]
      refine hK _ _ _ ?_ ⟨_, _, rfl, .inl rfl, .inl rfl⟩
      repeat (refine Grow.set ?_ (by omega) _)
      refine Grow.trans ?_ hgr
      repeat (refine Grow.set ?_ (by omega) _)
      exact ⟨by omega, fun _ _ => rfl⟩
end
end
noncomputable section
def lv (k : Nat) (a : ZI) : Prop := a.mag ≤ 2 ^ k
section
variable {k j : Nat} {a b : ZI}
theorem two_le {k j : Nat} (h : k ≤ j) : 2 ^ k ≤ 2 ^ j := Nat.pow_le_pow_right (by decide) h
set_option exponentiation.threshold 5000 in
theorem lv_sm (h : lv k a) (hk : k ≤ 4096) : sm a = true := by
  unfold sm
  exact Nat.ble_eq_true_of_le (Nat.le_trans h (two_le hk))
theorem lv_mono (h : lv k a) (hk : k ≤ j) : lv j a := Nat.le_trans h (two_le hk)
theorem lv_mul (ha : lv k a) (hb : lv j b) : lv (k + j) (ZI.mul a b) := by
  unfold lv
  rw [Nat.pow_add]
  exact Nat.mul_le_mul ha hb
theorem add_mag (a b : ZI) : (ZI.add a b).mag ≤ a.mag + b.mag := by
  unfold ZI.add
  cases a.neg == b.neg with
  | true => exact Nat.le_refl _
  | false =>
    cases Nat.ble b.mag a.mag with
    | true => show a.mag - b.mag ≤ _; omega
    | false => show b.mag - a.mag ≤ _; omega
theorem lv_add (ha : lv k a) (hb : lv k b) : lv (k + 1) (ZI.add a b) := by
  have := add_mag a b
  unfold lv at *
  rw [Nat.pow_succ]
  omega
theorem lv_neg (h : lv k a) : lv k (ZI.neg' a) := h
theorem lv_one : lv k one := Nat.one_le_two_pow
end
structure Lq (k : Nat) (q : RQ) : Prop where
  num : lv k q.num
  den : lv k q.den
theorem Lq.den' {k : Nat} {q : RQ} (h : Lq k q) : lv k (RQ.den' q) := by
  unfold RQ.den'
  cases Nat.beq q.den.mag 0 with
  | true => exact lv_one
  | false => exact h.den
theorem den'_pos (q : RQ) : (RQ.den' q).mag ≠ 0 := by
  unfold RQ.den'
  cases h : Nat.beq q.den.mag 0 with
  | true => intro e; cases e
  | false => intro e; have e : q.den.mag = 0 := e; rw [e] at h; cases h
def ints (n : ZI) : RQ := ⟨n, ⟨false, 0⟩⟩
def RQ.add (q r : RQ) : RQ := bif RQ.whole q && RQ.whole r then ints (ZI.add q.num r.num) else RQ.reduced (ZI.add (ZI.mul q.num (RQ.den' r)) (ZI.mul r.num (RQ.den' q))) (ZI.mul (RQ.den' q) (RQ.den' r))
def RQ.mul (q r : RQ) : RQ := bif RQ.whole q && RQ.whole r then ints (ZI.mul q.num r.num) else RQ.reduced (ZI.mul q.num r.num) (ZI.mul (RQ.den' q) (RQ.den' r))
def RQ.cmp (q r : RQ) : Int := bif RQ.whole q && RQ.whole r then ZI.cmp q.num r.num else ZI.cmp (ZI.mul q.num (RQ.den' r)) (ZI.mul r.num (RQ.den' q))
def RQ.neg (q : RQ) : RQ := ⟨ZI.neg' q.num, q.den⟩
def RQ.abs (q : RQ) : RQ := ⟨ZI.abs q.num, q.den⟩
def RQ.sub (q r : RQ) : RQ := RQ.add q (RQ.neg r)
def RQ.max (q r : RQ) : RQ := bif ilt 0 (RQ.cmp r q) then r else q
structure QOwn (C : Ctx) : Prop where
  io : IntOrc C
  one : Own C nYak FYak
  whole : Own C nYaf FYaf
  den : Own C nYx FYx
  sign : Own C nYan FYan
  reduced : Own C nYi FYi
  add : Own C nYn FYn
  mul : Own C nYs FYs
  cmp : Own C nYr FYr
  sub : Own C nYah FYah
  neg : Own C nYap FYap
  abs : Own C nYag FYag
  div : Own C nYv FYv
  from_ : Own C nYai FYai
  max : Own C nYaa FYaa
  sum : Own C nYo FYo
  make : Own C nYz FYz
section
variable {C : Ctx} {h : Tr Blk} {nx : Pos} {K : AV → Tr Blk → Pos → Prop} {c d : AV} {a b : ZI} {q r : RQ}
theorem Mul_q (hO : QOwn C) (hq : Qv c q) (hr : Qv d r) (lq : Lq 1000 q) (lr : Lq 1000 r) (hB : (RQ.den' q).mag * (RQ.den' r).mag < BB)
    (hK : ∀ c h' nx', Grow h nx h' nx' → Qv c (RQ.mul q r) → K c h' nx') : Comes C (.f (pos nYs) []) [c, d] h nx K := by
  obtain ⟨v, w, rfl, hv, hw⟩ := hq.ex
  obtain ⟨v', w', rfl, hv', hw'⟩ := hr.ex
  have n1 := lt_s1 nx
  have n2 := lt_s2 nx
  have n3 := lt_s3 nx
  have n4 := lt_s2 nx.succ
  have n6 := lt_s1 nx.succ
  have n5 := lt_s1 nx.succ.succ
  have sq := lv_sm lq.num (by decide : 1000 ≤ 4096)
  have sr := lv_sm lr.num (by decide : 1000 ≤ 4096)
  have dq := lv_sm lq.den (by decide : 1000 ≤ 4096)
  have dr := lv_sm lr.den (by decide : 1000 ≤ 4096)
  have eq := lv_sm lq.den' (by decide : 1000 ≤ 4096)
  have er := lv_sm lr.den' (by decide : 1000 ≤ 4096)
  refine hO.mul.comes (T := ((Tr.lf.set (pos 0) (.a [.b q.num.neg, v, .b q.den.neg, w])).set (pos 1) (.a [.b r.num.neg, v', .b r.den.neg, w']))) rfl ?_
  show wp C Ys0 _ _ _ _
  simp only [FYs, go_sem, Nat.reduceEqDiff, reduceIte]
  refine whole_spec hO.io hO.whole hO.one hq dq (fun h1 nx1 gr1 => ?_)
  have g1 := gr1
  have ca1 := (g1.cells (b := nx) (by omega))
  have cb1 := (g1.cells (b := nx.succ) (by omega))
  simp only [go_sem] at ca1 cb1
  have cr1 : _ = some (Blk.cells [AV.b false, AV.ns, AV.b false, AV.ns] 0) := (g1.get nx.succ.succ (by omega)).trans (Tr.get_set_same _ _ _)
  cases hwq : RQ.whole q with
  | true =>
    simp only [go_sem, zv, hwq, ca1, cb1, cr1, Nat.reduceEqDiff, reduceIte]
    refine whole_spec hO.io hO.whole hO.one hr dr (fun h2 nx2 gr2 => ?_)
    have g2 := g1.trans gr2
    have ca2 := (g2.cells (b := nx) (by omega))
    have cb2 := (g2.cells (b := nx.succ) (by omega))
    simp only [go_sem] at ca2 cb2
    have cr2 : _ = some (Blk.cells [AV.b false, AV.ns, AV.b false, AV.ns] 0) := (g2.get nx.succ.succ (by omega)).trans (Tr.get_set_same _ _ _)
    cases hwr : RQ.whole r with
    | true =>
      unfold RQ.mul at hK
      simp only [hwq, hwr, Bool.and_true, Bool.and_false, cond_true, cond_false] at hK
      simp only [go_sem, zv, hwq, hwr, ca2, cb2, cr2, Nat.reduceEqDiff, reduceIte]
      refine c_mul (a := q.num) (b := r.num) hO.io (zof_cells hv) (zof_cells hv') sq sr ?_
      simp only [go_sem, zv, ca2, cb2, cr2, Nat.reduceEqDiff, reduceIte]
      refine hK _ _ _ ?_ ⟨_, _, rfl, .inl rfl, .inr ⟨rfl, rfl⟩⟩
      repeat (refine Grow.set ?_ (by omega) _)
      refine Grow.trans ?_ g2
      repeat (refine Grow.set ?_ (by omega) _)
      exact ⟨by omega, fun _ _ => rfl⟩
    | false =>
      unfold RQ.mul at hK
      simp only [hwq, hwr, Bool.and_true, Bool.and_false, cond_true, cond_false] at hK
      simp only [go_sem, zv, hwq, hwr, ca2, cb2, cr2, Nat.reduceEqDiff, reduceIte]
      refine c_mul (a := q.num) (b := r.num) hO.io (zof_cells hv) (zof_cells hv') sq sr ?_
      simp only [go_sem, zv, ca2, cb2, cr2, Nat.reduceEqDiff, reduceIte]
      refine Den_spec hO.io hO.den hO.one hq dq (fun h3 nx3 gr3 => ?_)
      have g3 := g2.trans gr3
      have ca3 := (g3.cells (b := nx) (by omega))
      have cb3 := (g3.cells (b := nx.succ) (by omega))
      simp only [go_sem] at ca3 cb3
      have cr3 : _ = some (Blk.cells [AV.b false, AV.ns, AV.b false, AV.ns] 0) := (g3.get nx.succ.succ (by omega)).trans (Tr.get_set_same _ _ _)
      simp only [go_sem, zv, ca3, cb3, cr3, Nat.reduceEqDiff, reduceIte]
      refine Den_spec hO.io hO.den hO.one hr dr (fun h4 nx4 gr4 => ?_)
      have g4 := g3.trans gr4
      have ca4 := (g4.cells (b := nx) (by omega))
      have cb4 := (g4.cells (b := nx.succ) (by omega))
      simp only [go_sem] at ca4 cb4
      have cr4 : _ = some (Blk.cells [AV.b false, AV.ns, AV.b false, AV.ns] 0) := (g4.get nx.succ.succ (by omega)).trans (Tr.get_set_same _ _ _)
      simp only [go_sem, zv, ca4, cb4, cr4, Nat.reduceEqDiff, reduceIte]
      refine c_mul (a := RQ.den' q) (b := RQ.den' r) hO.io rfl rfl eq er ?_
      simp only [go_sem, zv, ca4, cb4, cr4, Nat.reduceEqDiff, reduceIte]
      refine reduced_spec (a := ZI.mul q.num r.num) (b := ZI.mul (RQ.den' q) (RQ.den' r)) hO.io hO.reduced hO.one (lv_sm (lv_mul lq.num lr.num) (by decide)) (lv_sm (lv_mul lq.den' lr.den') (by decide)) (Nat.mul_ne_zero (den'_pos q) (den'_pos r)) hB (fun c5 h5 nx5 gr5 hz => ?_)
      have g5 := g4.trans gr5
      have ca5 := (g5.cells (b := nx) (by omega))
      have cb5 := (g5.cells (b := nx.succ) (by omega))
      simp only [go_sem] at ca5 cb5
      have cr5 : _ = some (Blk.cells [AV.b false, AV.ns, AV.b false, AV.ns] 0) := (g5.get nx.succ.succ (by omega)).trans (Tr.get_set_same _ _ _)
      obtain ⟨x, y, rfl, hx, hy⟩ := hz.ex
      have hs1 : scal x = true := by rcases hx with rfl | ⟨rfl, _⟩ <;> rfl
      have hs2 : scal y = true := by rcases hy with rfl | ⟨rfl, _⟩ <;> rfl
      have hc1 := scal_cells hs1
      have hc2 := scal_cells hs2
      simp only [go_sem, zv, hs1, hs2, hc1, hc2, ca5, cb5, cr5, Nat.reduceEqDiff, reduceIte]
      refine hK _ _ _ ?_ ⟨_, _, rfl, hx, hy⟩
      repeat (refine Grow.set ?_ (by omega) _)
      refine Grow.trans ?_ g5
      repeat (refine Grow.set ?_ (by omega) _)
      exact ⟨by omega, fun _ _ => rfl⟩
  | false =>
    unfold RQ.mul at hK
    simp only [hwq, Bool.false_and, cond_true, cond_false] at hK
    simp only [go_sem, zv, hwq, ca1, cb1, cr1, Nat.reduceEqDiff, reduceIte]
    refine c_mul (a := q.num) (b := r.num) hO.io (zof_cells hv) (zof_cells hv') sq sr ?_
    simp only [go_sem, zv, ca1, cb1, cr1, Nat.reduceEqDiff, reduceIte]
    refine Den_spec hO.io hO.den hO.one hq dq (fun h3 nx3 gr3 => ?_)
    have g3 := g1.trans gr3
    have ca3 := (g3.cells (b := nx) (by omega))
    have cb3 := (g3.cells (b := nx.succ) (by omega))
    simp only [go_sem] at ca3 cb3
    have cr3 : _ = some (Blk.cells [AV.b false, AV.ns, AV.b false, AV.ns] 0) := (g3.get nx.succ.succ (by omega)).trans (Tr.get_set_same _ _ _)
    simp only [go_sem, zv, ca3, cb3, cr3, Nat.reduceEqDiff, reduceIte]
    refine Den_spec hO.io hO.den hO.one hr dr (fun h4 nx4 gr4 => ?_)
    have g4 := g3.trans gr4
    have ca4 := (g4.cells (b := nx) (by omega))
    have cb4 := (g4.cells (b := nx.succ) (by omega))
    simp only [go_sem] at ca4 cb4
    have cr4 : _ = some (Blk.cells [AV.b false, AV.ns, AV.b false, AV.ns] 0) := (g4.get nx.succ.succ (by omega)).trans (Tr.get_set_same _ _ _)
    simp only [go_sem, zv, ca4, cb4, cr4, Nat.reduceEqDiff, reduceIte]
    refine c_mul (a := RQ.den' q) (b := RQ.den' r) hO.io rfl rfl eq er ?_
    simp only [go_sem, zv, ca4, cb4, cr4, Nat.reduceEqDiff, reduceIte]
    refine reduced_spec (a := ZI.mul q.num r.num) (b := ZI.mul (RQ.den' q) (RQ.den' r)) hO.io hO.reduced hO.one (lv_sm (lv_mul lq.num lr.num) (by decide)) (lv_sm (lv_mul lq.den' lr.den') (by decide)) (Nat.mul_ne_zero (den'_pos q) (den'_pos r)) hB (fun c5 h5 nx5 gr5 hz => ?_)
    have g5 := g4.trans gr5
    have ca5 := (g5.cells (b := nx) (by omega))
    have cb5 := (g5.cells (b := nx.succ) (by omega))
    simp only [go_sem] at ca5 cb5
    have cr5 : _ = some (Blk.cells [AV.b false, AV.ns, AV.b false, AV.ns] 0) := (g5.get nx.succ.succ (by omega)).trans (Tr.get_set_same _ _ _)
    obtain ⟨x, y, rfl, hx, hy⟩ := hz.ex
    have hs1 : scal x = true := by rcases hx with rfl | ⟨rfl, _⟩ <;> rfl
    have hs2 : scal y = true := by rcases hy with rfl | ⟨rfl, _⟩ <;> rfl
    have hc1 := scal_cells hs1
    have hc2 := scal_cells hs2
    simp only [go_sem, zv, hs1, hs2, hc1, hc2, ca5, cb5, cr5, Nat.reduceEqDiff, reduceIte]
    refine hK _ _ _ ?_ ⟨_, _, rfl, hx, hy⟩
    repeat (refine Grow.set ?_ (by omega) _)
    refine Grow.trans ?_ g5
    repeat (refine Grow.set ?_ (by omega) _)
    exact ⟨by omega, fun _ _ => rfl⟩
theorem Add_q (hO : QOwn C) (hq : Qv c q) (hr : Qv d r) (lq : Lq 1000 q) (lr : Lq 1000 r) (hB : (RQ.den' q).mag * (RQ.den' r).mag < BB)
    (hK : ∀ c h' nx', Grow h nx h' nx' → Qv c (RQ.add q r) → K c h' nx') : Comes C (.f (pos nYn) []) [c, d] h nx K := by
  obtain ⟨v, w, rfl, hv, hw⟩ := hq.ex
  obtain ⟨v', w', rfl, hv', hw'⟩ := hr.ex
  have n1 := lt_s1 nx
  have n2 := lt_s2 nx
  have n3 := lt_s3 nx
  have n4 := lt_s2 nx.succ
  have n6 := lt_s1 nx.succ
  have n5 := lt_s1 nx.succ.succ
  have sq := lv_sm lq.num (by decide : 1000 ≤ 4096)
  have sr := lv_sm lr.num (by decide : 1000 ≤ 4096)
  have dq := lv_sm lq.den (by decide : 1000 ≤ 4096)
  have dr := lv_sm lr.den (by decide : 1000 ≤ 4096)
  have eq := lv_sm lq.den' (by decide : 1000 ≤ 4096)
  have er := lv_sm lr.den' (by decide : 1000 ≤ 4096)
  refine hO.add.comes (T := ((Tr.lf.set (pos 0) (.a [.b q.num.neg, v, .b q.den.neg, w])).set (pos 1) (.a [.b r.num.neg, v', .b r.den.neg, w']))) rfl ?_
  show wp C Yn0 _ _ _ _
  simp only [FYn, go_sem, Nat.reduceEqDiff, reduceIte]
  refine whole_spec hO.io hO.whole hO.one hq dq (fun h1 nx1 gr1 => ?_)
  have g1 := gr1
  have ca1 := (g1.cells (b := nx) (by omega))
  have cb1 := (g1.cells (b := nx.succ) (by omega))
  simp only [go_sem] at ca1 cb1
  have cr1 : _ = some (Blk.cells [AV.b false, AV.ns, AV.b false, AV.ns] 0) := (g1.get nx.succ.succ (by omega)).trans (Tr.get_set_same _ _ _)
  cases hwq : RQ.whole q with
  | true =>
    simp only [go_sem, zv, hwq, ca1, cb1, cr1, Nat.reduceEqDiff, reduceIte]
    refine whole_spec hO.io hO.whole hO.one hr dr (fun h2 nx2 gr2 => ?_)
    have g2 := g1.trans gr2
    have ca2 := (g2.cells (b := nx) (by omega))
    have cb2 := (g2.cells (b := nx.succ) (by omega))
    simp only [go_sem] at ca2 cb2
    have cr2 : _ = some (Blk.cells [AV.b false, AV.ns, AV.b false, AV.ns] 0) := (g2.get nx.succ.succ (by omega)).trans (Tr.get_set_same _ _ _)
    cases hwr : RQ.whole r with
    | true =>
      unfold RQ.add at hK
      simp only [hwq, hwr, Bool.and_true, Bool.and_false, cond_true, cond_false] at hK
      simp only [go_sem, zv, hwq, hwr, ca2, cb2, cr2, Nat.reduceEqDiff, reduceIte]
      refine c_add (a := q.num) (b := r.num) hO.io (zof_cells hv) (zof_cells hv') sq sr ?_
      simp only [go_sem, zv, ca2, cb2, cr2, Nat.reduceEqDiff, reduceIte]
      refine hK _ _ _ ?_ ⟨_, _, rfl, .inl rfl, .inr ⟨rfl, rfl⟩⟩
      repeat (refine Grow.set ?_ (by omega) _)
      refine Grow.trans ?_ g2
      repeat (refine Grow.set ?_ (by omega) _)
      exact ⟨by omega, fun _ _ => rfl⟩
    | false =>
      unfold RQ.add at hK
      simp only [hwq, hwr, Bool.and_true, Bool.and_false, cond_true, cond_false] at hK
      simp only [go_sem, zv, hwq, hwr, ca2, cb2, cr2, Nat.reduceEqDiff, reduceIte]
      refine Den_spec hO.io hO.den hO.one hr dr (fun h3 nx3 gr3 => ?_)
      have g3 := g2.trans gr3
      have ca3 := (g3.cells (b := nx) (by omega))
      have cb3 := (g3.cells (b := nx.succ) (by omega))
      simp only [go_sem] at ca3 cb3
      have cr3 : _ = some (Blk.cells [AV.b false, AV.ns, AV.b false, AV.ns] 0) := (g3.get nx.succ.succ (by omega)).trans (Tr.get_set_same _ _ _)
      simp only [go_sem, zv, ca3, cb3, cr3, Nat.reduceEqDiff, reduceIte]
      refine c_mul (a := q.num) (b := RQ.den' r) hO.io (zof_cells hv) rfl sq er ?_
      simp only [go_sem, zv, ca3, cb3, cr3, Nat.reduceEqDiff, reduceIte]
      refine Den_spec hO.io hO.den hO.one hq dq (fun h4 nx4 gr4 => ?_)
      have g4 := g3.trans gr4
      have ca4 := (g4.cells (b := nx) (by omega))
      have cb4 := (g4.cells (b := nx.succ) (by omega))
      simp only [go_sem] at ca4 cb4
      have cr4 : _ = some (Blk.cells [AV.b false, AV.ns, AV.b false, AV.ns] 0) := (g4.get nx.succ.succ (by omega)).trans (Tr.get_set_same _ _ _)
      simp only [go_sem, zv, ca4, cb4, cr4, Nat.reduceEqDiff, reduceIte]
      refine c_mul (a := r.num) (b := RQ.den' q) hO.io (zof_cells hv') rfl sr eq ?_
      simp only [go_sem, zv, ca4, cb4, cr4, Nat.reduceEqDiff, reduceIte]
      refine c_add (a := ZI.mul q.num (RQ.den' r)) (b := ZI.mul r.num (RQ.den' q)) hO.io rfl rfl (lv_sm (lv_mul lq.num lr.den') (by decide)) (lv_sm (lv_mul lr.num lq.den') (by decide)) ?_
      simp only [go_sem, zv, ca4, cb4, cr4, Nat.reduceEqDiff, reduceIte]
      refine Den_spec hO.io hO.den hO.one hq dq (fun h5 nx5 gr5 => ?_)
      have g5 := g4.trans gr5
      have ca5 := (g5.cells (b := nx) (by omega))
      have cb5 := (g5.cells (b := nx.succ) (by omega))
      simp only [go_sem] at ca5 cb5
      have cr5 : _ = some (Blk.cells [AV.b false, AV.ns, AV.b false, AV.ns] 0) := (g5.get nx.succ.succ (by omega)).trans (Tr.get_set_same _ _ _)
      simp only [go_sem, zv, ca5, cb5, cr5, Nat.reduceEqDiff, reduceIte]
      refine Den_spec hO.io hO.den hO.one hr dr (fun h6 nx6 gr6 => ?_)
      have g6 := g5.trans gr6
      have ca6 := (g6.cells (b := nx) (by omega))
      have cb6 := (g6.cells (b := nx.succ) (by omega))
      simp only [go_sem] at ca6 cb6
      have cr6 : _ = some (Blk.cells [AV.b false, AV.ns, AV.b false, AV.ns] 0) := (g6.get nx.succ.succ (by omega)).trans (Tr.get_set_same _ _ _)
      simp only [go_sem, zv, ca6, cb6, cr6, Nat.reduceEqDiff, reduceIte]
      refine c_mul (a := RQ.den' q) (b := RQ.den' r) hO.io rfl rfl eq er ?_
      simp only [go_sem, zv, ca6, cb6, cr6, Nat.reduceEqDiff, reduceIte]
      refine reduced_spec (a := ZI.add (ZI.mul q.num (RQ.den' r)) (ZI.mul r.num (RQ.den' q))) (b := ZI.mul (RQ.den' q) (RQ.den' r)) hO.io hO.reduced hO.one (lv_sm (lv_add (lv_mul lq.num lr.den') (lv_mul lr.num lq.den')) (by decide)) (lv_sm (lv_mul lq.den' lr.den') (by decide)) (Nat.mul_ne_zero (den'_pos q) (den'_pos r)) hB (fun c5 h7 nx7 gr7 hz => ?_)
      have g7 := g6.trans gr7
      have ca7 := (g7.cells (b := nx) (by omega))
      have cb7 := (g7.cells (b := nx.succ) (by omega))
      simp only [go_sem] at ca7 cb7
      have cr7 : _ = some (Blk.cells [AV.b false, AV.ns, AV.b false, AV.ns] 0) := (g7.get nx.succ.succ (by omega)).trans (Tr.get_set_same _ _ _)
      obtain ⟨x, y, rfl, hx, hy⟩ := hz.ex
      have hs1 : scal x = true := by rcases hx with rfl | ⟨rfl, _⟩ <;> rfl
      have hs2 : scal y = true := by rcases hy with rfl | ⟨rfl, _⟩ <;> rfl
      have hc1 := scal_cells hs1
      have hc2 := scal_cells hs2
      simp only [go_sem, zv, hs1, hs2, hc1, hc2, ca7, cb7, cr7, Nat.reduceEqDiff, reduceIte]
      refine hK _ _ _ ?_ ⟨_, _, rfl, hx, hy⟩
      repeat (refine Grow.set ?_ (by omega) _)
      refine Grow.trans ?_ g7
      repeat (refine Grow.set ?_ (by omega) _)
      exact ⟨by omega, fun _ _ => rfl⟩
  | false =>
    unfold RQ.add at hK
    simp only [hwq, Bool.false_and, cond_true, cond_false] at hK
    simp only [go_sem, zv, hwq, ca1, cb1, cr1, Nat.reduceEqDiff, reduceIte]
    refine Den_spec hO.io hO.den hO.one hr dr (fun h3 nx3 gr3 => ?_)
    have g3 := g1.trans gr3
    have ca3 := (g3.cells (b := nx) (by omega))
    have cb3 := (g3.cells (b := nx.succ) (by omega))
    simp only [go_sem] at ca3 cb3
    have cr3 : _ = some (Blk.cells [AV.b false, AV.ns, AV.b false, AV.ns] 0) := (g3.get nx.succ.succ (by omega)).trans (Tr.get_set_same _ _ _)
    simp only [go_sem, zv, ca3, cb3, cr3, Nat.reduceEqDiff, reduceIte]
    refine c_mul (a := q.num) (b := RQ.den' r) hO.io (zof_cells hv) rfl sq er ?_
    simp only [go_sem, zv, ca3, cb3, cr3, Nat.reduceEqDiff, reduceIte]
    refine Den_spec hO.io hO.den hO.one hq dq (fun h4 nx4 gr4 => ?_)
    have g4 := g3.trans gr4
    have ca4 := (g4.cells (b := nx) (by omega))
    have cb4 := (g4.cells (b := nx.succ) (by omega))
    simp only [go_sem] at ca4 cb4
    have cr4 : _ = some (Blk.cells [AV.b false, AV.ns, AV.b false, AV.ns] 0) := (g4.get nx.succ.succ (by omega)).trans (Tr.get_set_same _ _ _)
    simp only [go_sem, zv, ca4, cb4, cr4, Nat.reduceEqDiff, reduceIte]
    refine c_mul (a := r.num) (b := RQ.den' q) hO.io (zof_cells hv') rfl sr eq ?_
    simp only [go_sem, zv, ca4, cb4, cr4, Nat.reduceEqDiff, reduceIte]
    refine c_add (a := ZI.mul q.num (RQ.den' r)) (b := ZI.mul r.num (RQ.den' q)) hO.io rfl rfl (lv_sm (lv_mul lq.num lr.den') (by decide)) (lv_sm (lv_mul lr.num lq.den') (by decide)) ?_
    simp only [go_sem, zv, ca4, cb4, cr4, Nat.reduceEqDiff, reduceIte]
    refine Den_spec hO.io hO.den hO.one hq dq (fun h5 nx5 gr5 => ?_)
    have g5 := g4.trans gr5
    have ca5 := (g5.cells (b := nx) (by omega))
    have cb5 := (g5.cells (b := nx.succ) (by omega))
    simp only [go_sem] at ca5 cb5
    have cr5 : _ = some (Blk.cells [AV.b false, AV.ns, AV.b false, AV.ns] 0) := (g5.get nx.succ.succ (by omega)).trans (Tr.get_set_same _ _ _)
    simp only [go_sem, zv, ca5, cb5, cr5, Nat.reduceEqDiff, reduceIte]
    refine Den_spec hO.io hO.den hO.one hr dr (fun h6 nx6 gr6 => ?_)
    have g6 := g5.trans gr6
    have ca6 := (g6.cells (b := nx) (by omega))
    have cb6 := (g6.cells (b := nx.succ) (by omega))
    simp only [go_sem] at ca6 cb6
    have cr6 : _ = some (Blk.cells [AV.b false, AV.ns, AV.b false, AV.ns] 0) := (g6.get nx.succ.succ (by omega)).trans (Tr.get_set_same _ _ _)
    simp only [go_sem, zv, ca6, cb6, cr6, Nat.reduceEqDiff, reduceIte]
    refine c_mul (a := RQ.den' q) (b := RQ.den' r) hO.io rfl rfl eq er ?_
    simp only [go_sem, zv, ca6, cb6, cr6, Nat.reduceEqDiff, reduceIte]
    refine reduced_spec (a := ZI.add (ZI.mul q.num (RQ.den' r)) (ZI.mul r.num (RQ.den' q))) (b := ZI.mul (RQ.den' q) (RQ.den' r)) hO.io hO.reduced hO.one (lv_sm (lv_add (lv_mul lq.num lr.den') (lv_mul lr.num lq.den')) (by decide)) (lv_sm (lv_mul lq.den' lr.den') (by decide)) (Nat.mul_ne_zero (den'_pos q) (den'_pos r)) hB (fun c5 h7 nx7 gr7 hz => ?_)
    have g7 := g6.trans gr7
    have ca7 := (g7.cells (b := nx) (by omega))
    have cb7 := (g7.cells (b := nx.succ) (by omega))
    simp only [go_sem] at ca7 cb7
    have cr7 : _ = some (Blk.cells [AV.b false, AV.ns, AV.b false, AV.ns] 0) := (g7.get nx.succ.succ (by omega)).trans (Tr.get_set_same _ _ _)
    obtain ⟨x, y, rfl, hx, hy⟩ := hz.ex
    have hs1 : scal x = true := by rcases hx with rfl | ⟨rfl, _⟩ <;> rfl
    have hs2 : scal y = true := by rcases hy with rfl | ⟨rfl, _⟩ <;> rfl
    have hc1 := scal_cells hs1
    have hc2 := scal_cells hs2
    simp only [go_sem, zv, hs1, hs2, hc1, hc2, ca7, cb7, cr7, Nat.reduceEqDiff, reduceIte]
    refine hK _ _ _ ?_ ⟨_, _, rfl, hx, hy⟩
    repeat (refine Grow.set ?_ (by omega) _)
    refine Grow.trans ?_ g7
    repeat (refine Grow.set ?_ (by omega) _)
    exact ⟨by omega, fun _ _ => rfl⟩
theorem Compare_q (hO : QOwn C) (hq : Qv c q) (hr : Qv d r) (lq : Lq 1000 q) (lr : Lq 1000 r)
    (hK : ∀ h' nx', Grow h nx h' nx' → K (.i .i64 (RQ.cmp q r)) h' nx') : Comes C (.f (pos nYr) []) [c, d] h nx K := by
  obtain ⟨v, w, rfl, hv, hw⟩ := hq.ex
  obtain ⟨v', w', rfl, hv', hw'⟩ := hr.ex
  have n1 := lt_s1 nx
  have n2 := lt_s2 nx
  have n3 := lt_s3 nx
  have n4 := lt_s2 nx.succ
  have n6 := lt_s1 nx.succ
  have n5 := lt_s1 nx.succ.succ
  have sq := lv_sm lq.num (by decide : 1000 ≤ 4096)
  have sr := lv_sm lr.num (by decide : 1000 ≤ 4096)
  have dq := lv_sm lq.den (by decide : 1000 ≤ 4096)
  have dr := lv_sm lr.den (by decide : 1000 ≤ 4096)
  have eq := lv_sm lq.den' (by decide : 1000 ≤ 4096)
  have er := lv_sm lr.den' (by decide : 1000 ≤ 4096)
  refine hO.cmp.comes (T := ((Tr.lf.set (pos 0) (.a [.b q.num.neg, v, .b q.den.neg, w])).set (pos 1) (.a [.b r.num.neg, v', .b r.den.neg, w']))) rfl ?_
  show wp C Yr0 _ _ _ _
  simp only [FYr, go_sem, Nat.reduceEqDiff, reduceIte]
  refine whole_spec hO.io hO.whole hO.one hq dq (fun h1 nx1 gr1 => ?_)
  have g1 := gr1
  have ca1 := (g1.cells (b := nx) (by omega))
  have cb1 := (g1.cells (b := nx.succ) (by omega))
  simp only [go_sem] at ca1 cb1
  cases hwq : RQ.whole q with
  | true =>
    simp only [go_sem, zv, hwq, ca1, cb1, Nat.reduceEqDiff, reduceIte]
    refine whole_spec hO.io hO.whole hO.one hr dr (fun h2 nx2 gr2 => ?_)
    have g2 := g1.trans gr2
    have ca2 := (g2.cells (b := nx) (by omega))
    have cb2 := (g2.cells (b := nx.succ) (by omega))
    simp only [go_sem] at ca2 cb2
    cases hwr : RQ.whole r with
    | true =>
      unfold RQ.cmp at hK
      simp only [hwq, hwr, Bool.and_true, Bool.and_false, cond_true, cond_false] at hK
      simp only [go_sem, zv, hwq, hwr, ca2, cb2, Nat.reduceEqDiff, reduceIte]
      refine c_cmp (a := q.num) (b := r.num) hO.io (zof_cells hv) (zof_cells hv') sq sr ?_
      try simp only [go_sem, zv, ca2, cb2, Nat.reduceEqDiff, reduceIte]
      refine hK _ _ ?_
      repeat (refine Grow.set ?_ (by omega) _)
      refine Grow.trans ?_ g2
      repeat (refine Grow.set ?_ (by omega) _)
      exact ⟨by omega, fun _ _ => rfl⟩
    | false =>
      unfold RQ.cmp at hK
      simp only [hwq, hwr, Bool.and_true, Bool.and_false, cond_true, cond_false] at hK
      simp only [go_sem, zv, hwq, hwr, ca2, cb2, Nat.reduceEqDiff, reduceIte]
      refine Den_spec hO.io hO.den hO.one hr dr (fun h3 nx3 gr3 => ?_)
      have g3 := g2.trans gr3
      have ca3 := (g3.cells (b := nx) (by omega))
      have cb3 := (g3.cells (b := nx.succ) (by omega))
      simp only [go_sem] at ca3 cb3
      simp only [go_sem, zv, ca3, cb3, Nat.reduceEqDiff, reduceIte]
      refine c_mul (a := q.num) (b := RQ.den' r) hO.io (zof_cells hv) rfl sq er ?_
      simp only [go_sem, zv, ca3, cb3, Nat.reduceEqDiff, reduceIte]
      refine Den_spec hO.io hO.den hO.one hq dq (fun h4 nx4 gr4 => ?_)
      have g4 := g3.trans gr4
      have ca4 := (g4.cells (b := nx) (by omega))
      have cb4 := (g4.cells (b := nx.succ) (by omega))
      simp only [go_sem] at ca4 cb4
      simp only [go_sem, zv, ca4, cb4, Nat.reduceEqDiff, reduceIte]
      refine c_mul (a := r.num) (b := RQ.den' q) hO.io (zof_cells hv') rfl sr eq ?_
      simp only [go_sem, zv, ca4, cb4, Nat.reduceEqDiff, reduceIte]
      refine c_cmp (a := ZI.mul q.num (RQ.den' r)) (b := ZI.mul r.num (RQ.den' q)) hO.io rfl rfl (lv_sm (lv_mul lq.num lr.den') (by decide)) (lv_sm (lv_mul lr.num lq.den') (by decide)) ?_
      try simp only [go_sem, zv, ca4, cb4, Nat.reduceEqDiff, reduceIte]
      refine hK _ _ ?_
      repeat (refine Grow.set ?_ (by omega) _)
      refine Grow.trans ?_ g4
      repeat (refine Grow.set ?_ (by omega) _)
      exact ⟨by omega, fun _ _ => rfl⟩
  | false =>
    unfold RQ.cmp at hK
    simp only [hwq, Bool.false_and, cond_true, cond_false] at hK
    simp only [go_sem, zv, hwq, ca1, cb1, Nat.reduceEqDiff, reduceIte]
    refine Den_spec hO.io hO.den hO.one hr dr (fun h3 nx3 gr3 => ?_)
    have g3 := g1.trans gr3
    have ca3 := (g3.cells (b := nx) (by omega))
    have cb3 := (g3.cells (b := nx.succ) (by omega))
    simp only [go_sem] at ca3 cb3
    simp only [go_sem, zv, ca3, cb3, Nat.reduceEqDiff, reduceIte]
    refine c_mul (a := q.num) (b := RQ.den' r) hO.io (zof_cells hv) rfl sq er ?_
    simp only [go_sem, zv, ca3, cb3, Nat.reduceEqDiff, reduceIte]
    refine Den_spec hO.io hO.den hO.one hq dq (fun h4 nx4 gr4 => ?_)
    have g4 := g3.trans gr4
    have ca4 := (g4.cells (b := nx) (by omega))
    have cb4 := (g4.cells (b := nx.succ) (by omega))
    simp only [go_sem] at ca4 cb4
    simp only [go_sem, zv, ca4, cb4, Nat.reduceEqDiff, reduceIte]
    refine c_mul (a := r.num) (b := RQ.den' q) hO.io (zof_cells hv') rfl sr eq ?_
    simp only [go_sem, zv, ca4, cb4, Nat.reduceEqDiff, reduceIte]
    refine c_cmp (a := ZI.mul q.num (RQ.den' r)) (b := ZI.mul r.num (RQ.den' q)) hO.io rfl rfl (lv_sm (lv_mul lq.num lr.den') (by decide)) (lv_sm (lv_mul lr.num lq.den') (by decide)) ?_
    try simp only [go_sem, zv, ca4, cb4, Nat.reduceEqDiff, reduceIte]
    refine hK _ _ ?_
    repeat (refine Grow.set ?_ (by omega) _)
    refine Grow.trans ?_ g4
    repeat (refine Grow.set ?_ (by omega) _)
    exact ⟨by omega, fun _ _ => rfl⟩
end
end
noncomputable section
section
variable {C : Ctx} {h : Tr Blk} {nx : Pos} {K : AV → Tr Blk → Pos → Prop} {c d : AV} {a b : ZI} {q r : RQ}
theorem mag_scal {v : AV} {n : Nat} (hv : v = .g n ∨ (v = .ns ∧ n = 0)) : scal v = true := by rcases hv with rfl | ⟨rfl, _⟩ <;> rfl
theorem Neg_q (hO : QOwn C) (hq : Qv c q) (sq : sm q.num = true)
    (hK : ∀ c h' nx', Grow h nx h' nx' → Qv c (RQ.neg q) → K c h' nx') : Comes C (.f (pos nYap) []) [c] h nx K := by
  obtain ⟨v, w, rfl, hv, hw⟩ := hq.ex
  have n1 := lt_s1 nx
  have n6 := lt_s1 nx.succ
  have hs1 := mag_scal hw
  have hc1 := scal_cells hs1
  refine hO.neg.comes (T := (Tr.lf.set (pos 0) (.a [.b q.num.neg, v, .b q.den.neg, w]))) rfl ?_
  show wp C Yap0 _ _ _ _
  simp only [FYap, go_sem, Nat.reduceEqDiff, reduceIte]
  refine c_neg (a := q.num) hO.io (zof_cells hv) sq ?_
  simp only [go_sem, zv, hs1, hc1, Nat.reduceEqDiff, reduceIte]
  refine hK _ _ _ ?_ ⟨_, _, rfl, .inl rfl, hw⟩
  repeat (refine Grow.set ?_ (by omega) _)
  exact ⟨by omega, fun _ _ => rfl⟩
theorem Abs_q (hO : QOwn C) (hq : Qv c q) (sq : sm q.num = true)
    (hK : ∀ c h' nx', Grow h nx h' nx' → Qv c (RQ.abs q) → K c h' nx') : Comes C (.f (pos nYag) []) [c] h nx K := by
  obtain ⟨v, w, rfl, hv, hw⟩ := hq.ex
  have n1 := lt_s1 nx
  have n6 := lt_s1 nx.succ
  have hs1 := mag_scal hw
  have hc1 := scal_cells hs1
  refine hO.abs.comes (T := (Tr.lf.set (pos 0) (.a [.b q.num.neg, v, .b q.den.neg, w]))) rfl ?_
  show wp C Yag0 _ _ _ _
  simp only [FYag, go_sem, Nat.reduceEqDiff, reduceIte]
  refine c_abs (a := q.num) hO.io (zof_cells hv) sq ?_
  simp only [go_sem, zv, hs1, hc1, Nat.reduceEqDiff, reduceIte]
  refine hK _ _ _ ?_ ⟨_, _, rfl, .inl rfl, hw⟩
  repeat (refine Grow.set ?_ (by omega) _)
  exact ⟨by omega, fun _ _ => rfl⟩
theorem Sub_q (hO : QOwn C) (hq : Qv c q) (hr : Qv d r) (lq : Lq 1000 q) (lr : Lq 1000 r) (hB : (RQ.den' q).mag * (RQ.den' r).mag < BB)
    (hK : ∀ c h' nx', Grow h nx h' nx' → Qv c (RQ.sub q r) → K c h' nx') : Comes C (.f (pos nYah) []) [c, d] h nx K := by
  obtain ⟨v, w, rfl, hv, hw⟩ := hq.ex
  obtain ⟨v', w', rfl, hv', hw'⟩ := hr.ex
  have n1 := lt_s1 nx
  have n2 := lt_s2 nx
  have n3 := lt_s3 nx
  have n4 := lt_s2 nx.succ
  have n5 := lt_s1 nx.succ.succ
  have n6 := lt_s1 nx.succ
  refine hO.sub.comes (T := ((Tr.lf.set (pos 0) (.a [.b q.num.neg, v, .b q.den.neg, w])).set (pos 1) (.a [.b r.num.neg, v', .b r.den.neg, w']))) rfl ?_
  show wp C Yah0 _ _ _ _
  simp only [FYah, go_sem, Nat.reduceEqDiff, reduceIte]
  refine Neg_q hO hr (lv_sm lr.num (by decide)) (fun c1 h1 nx1 gr1 hz1 => ?_)
  have ca1 := (gr1.cells (b := nx) (by omega))
  simp only [go_sem] at ca1
  simp only [go_sem, ca1, Nat.reduceEqDiff, reduceIte]
  refine Add_q hO hq hz1 lq ⟨lr.num, lr.den⟩ hB (fun c2 h2 nx2 gr2 hz2 => ?_)
  have g2 := gr1.trans gr2
  have cr2 : _ = some (Blk.cells [AV.b false, AV.ns, AV.b false, AV.ns] 0) := (g2.get nx.succ.succ (by omega)).trans (Tr.get_set_same _ _ _)
  obtain ⟨x, y, rfl, hx, hy⟩ := hz2.ex
  have hs1 := mag_scal hx
  have hs2 := mag_scal hy
  have hc1 := scal_cells hs1
  have hc2 := scal_cells hs2
  simp only [go_sem, cr2, hs1, hs2, hc1, hc2, Nat.reduceEqDiff, reduceIte]
  refine hK _ _ _ ?_ ⟨_, _, rfl, hx, hy⟩
  repeat (refine Grow.set ?_ (by omega) _)
  refine Grow.trans ?_ g2
  repeat (refine Grow.set ?_ (by omega) _)
  exact ⟨by omega, fun _ _ => rfl⟩
theorem Max_q (hO : QOwn C) (hq : Qv c q) (hr : Qv d r) (lq : Lq 1000 q) (lr : Lq 1000 r)
    (hK : ∀ c h' nx', Grow h nx h' nx' → Qv c (RQ.max q r) → K c h' nx') : Comes C (.f (pos nYaa) []) [c, d] h nx K := by
  obtain ⟨v, w, rfl, hv, hw⟩ := hq.ex
  obtain ⟨v', w', rfl, hv', hw'⟩ := hr.ex
  have n1 := lt_s1 nx
  have n2 := lt_s2 nx
  have n3 := lt_s3 nx
  have n4 := lt_s2 nx.succ
  have n5 := lt_s1 nx.succ.succ
  have n6 := lt_s1 nx.succ
  have s1 := mag_scal hv
  have s2 := mag_scal hw
  have s3 := mag_scal hv'
  have s4 := mag_scal hw'
  have t1 := scal_cells s1
  have t2 := scal_cells s2
  have t3 := scal_cells s3
  have t4 := scal_cells s4
  refine hO.max.comes (T := ((Tr.lf.set (pos 0) (.a [.b q.num.neg, v, .b q.den.neg, w])).set (pos 1) (.a [.b r.num.neg, v', .b r.den.neg, w']))) rfl ?_
  show wp C Yaa0 _ _ _ _
  simp only [FYaa, go_sem, Nat.reduceEqDiff, reduceIte]
  refine Compare_q hO hr hq lr lq (fun h1 nx1 gr1 => ?_)
  have ca1 := (gr1.cells (b := nx) (by omega))
  have cb1 := (gr1.cells (b := nx.succ) (by omega))
  have cr1 : _ = some (Blk.cells [AV.b false, AV.ns, AV.b false, AV.ns] 0) := (gr1.get nx.succ.succ (by omega)).trans (Tr.get_set_same _ _ _)
  simp only [go_sem] at ca1 cb1
  have hf : ilt 0 (RQ.cmp r q) = decide (0 < RQ.cmp r q) := ilt_eq _ _
  unfold RQ.max at hK
  cases hs : ilt 0 (RQ.cmp r q) with
  | true =>
    rw [hs] at hf hK
    have f1 := hf.symm
    simp only [go_sem, f1, ca1, cb1, cr1, s1, s2, s3, s4, t1, t2, t3, t4, Nat.reduceEqDiff, reduceIte]
    refine hK _ _ _ ?_ hr
    repeat (refine Grow.set ?_ (by omega) _)
    refine Grow.trans ?_ gr1
    repeat (refine Grow.set ?_ (by omega) _)
    exact ⟨by omega, fun _ _ => rfl⟩
  | false =>
    rw [hs] at hf hK
    have f1 := hf.symm
    simp only [go_sem, f1, ca1, cb1, cr1, s1, s2, s3, s4, t1, t2, t3, t4, Nat.reduceEqDiff, reduceIte]
    refine hK _ _ _ ?_ hq
    repeat (refine Grow.set ?_ (by omega) _)
    refine Grow.trans ?_ gr1
    repeat (refine Grow.set ?_ (by omega) _)
    exact ⟨by omega, fun _ _ => rfl⟩
theorem c_from (hI : IntOrc C) {n : Int} (h1 : -9223372036854775808 ≤ n) (h2 : n < 9223372036854775808) (hk : K (zv (ZI.ofInt n)) h nx) : Comes C (.f (pos nYy) []) [.i .i64 n] h nx K := by
  refine Comes.orc hI.from_ (show orcFrom [.i .i64 n] h nx = .ok (zv (ZI.ofInt n)) h nx from ?_) hk
  have : fFrom [.i .i64 n] = some (zv (ZI.ofInt n)) := by
    cases n with
    | ofNat m =>
      show (bif Nat.blt m 9223372036854775808 then some (zv (ZI.ofInt (.ofNat m))) else none) = _
      rw [show Nat.blt m 9223372036854775808 = true from by rw [Nat.blt_eq]; simp at h2; omega]; rfl
    | negSucc m =>
      show (bif Nat.blt m 9223372036854775808 then some (zv (ZI.ofInt (.negSucc m))) else none) = _
      rw [show Nat.blt m 9223372036854775808 = true from by rw [Nat.blt_eq]; omega]; rfl
  show (bif puL false [.i .i64 n] then (match fFrom [.i .i64 n] with | some r => Res.ok r h nx | none => .bad) else .bad) = _
  rw [this]; rfl
theorem From_q (hO : QOwn C) {n : Int} (h1 : -9223372036854775808 ≤ n) (h2 : n < 9223372036854775808)
    (hK : ∀ c h' nx', Grow h nx h' nx' → Qv c (ints (ZI.ofInt n)) → K c h' nx') : Comes C (.f (pos nYai) []) [.i .i64 n] h nx K := by
  refine hO.from_.comes (T := (Tr.lf.set (pos 0) (.i .i64 n))) rfl ?_
  show wp C Yai0 _ _ _ _
  simp only [FYai, go_sem, Nat.reduceEqDiff, reduceIte]
  refine c_from hO.io h1 h2 ?_
  have cr := Tr.get_set_same nx (Blk.cells [AV.b false, AV.ns, AV.b false, AV.ns] 0) h
  simp only [go_sem, zv, cr, Nat.reduceEqDiff, reduceIte]
  refine hK _ _ _ ?_ ⟨_, _, rfl, .inl rfl, .inr ⟨rfl, rfl⟩⟩
  repeat (refine Grow.set ?_ (by omega) _)
  exact ⟨Nat.le_of_lt (lt_s1 nx), fun _ _ => rfl⟩
end
end
noncomputable section
def RQ.div (q r : RQ) : RQ := RQ.reduced (ZI.mul q.num (RQ.den' r)) (ZI.mul (RQ.den' q) r.num)
section
variable {C : Ctx} {h : Tr Blk} {nx : Pos} {K : AV → Tr Blk → Pos → Prop} {c d : AV} {a b : ZI} {q r : RQ}
theorem Div_q (hO : QOwn C) (hq : Qv c q) (hr : Qv d r) (lq : Lq 1000 q) (lr : Lq 1000 r) (h0 : r.num.mag ≠ 0) (hB : (RQ.den' q).mag * r.num.mag < BB)
    (hK : ∀ c h' nx', Grow h nx h' nx' → Qv c (RQ.div q r) → K (.t [c, .i .i64 0]) h' nx') : Comes C (.f (pos nYv) []) [c, d] h nx K := by
  obtain ⟨v, w, rfl, hv, hw⟩ := hq.ex
  obtain ⟨v', w', rfl, hv', hw'⟩ := hr.ex
  have n1 := lt_s1 nx
  have n2 := lt_s2 nx
  have n3 := lt_s3 nx
  have n4 := lt_s2 nx.succ
  have n5 := lt_s1 nx.succ.succ
  have n6 := lt_s1 nx.succ
  have sq := lv_sm lq.num (by decide : 1000 ≤ 4096)
  have sr := lv_sm lr.num (by decide : 1000 ≤ 4096)
  have dq := lv_sm lq.den (by decide : 1000 ≤ 4096)
  have dr := lv_sm lr.den (by decide : 1000 ≤ 4096)
  have eq := lv_sm lq.den' (by decide : 1000 ≤ 4096)
  have er := lv_sm lr.den' (by decide : 1000 ≤ 4096)
  have s1 := mag_scal hv'
  have s2 := mag_scal hw'
  have t1 := scal_cells s1
  have t2 := scal_cells s2
  refine hO.div.comes (T := ((Tr.lf.set (pos 0) (.a [.b q.num.neg, v, .b q.den.neg, w])).set (pos 1) (.a [.b r.num.neg, v', .b r.den.neg, w']))) rfl ?_
  show wp C Yv0 _ _ _ _
  simp only [FYv, go_sem, Nat.reduceEqDiff, reduceIte]
  refine QSign_spec hO.io hO.sign hr sr (fun h1 nx1 gr1 => ?_)
  have ca1 := (gr1.cells (b := nx) (by omega))
  have cb1 := (gr1.cells (b := nx.succ) (by omega))
  simp only [go_sem] at ca1 cb1
  have f1 : decide (ZI.sign r.num = 0) = false := by
    rw [sign_zero]
    cases hz : Nat.beq r.num.mag 0 with
    | false => rfl
    | true => exact absurd (Nat.eq_of_beq_eq_true hz) h0
  simp only [go_sem, f1, ca1, cb1, Nat.reduceEqDiff, reduceIte]
  refine Den_spec hO.io hO.den hO.one hr dr (fun h2 nx2 gr2 => ?_)
  have g2 := gr1.trans gr2
  have ca2 := (g2.cells (b := nx) (by omega))
  have cb2 := (g2.cells (b := nx.succ) (by omega))
  simp only [go_sem] at ca2 cb2
  simp only [go_sem, zv, ca2, cb2, Nat.reduceEqDiff, reduceIte]
  refine c_mul (a := q.num) (b := RQ.den' r) hO.io (zof_cells hv) rfl sq er ?_
  simp only [go_sem, zv, ca2, cb2, Nat.reduceEqDiff, reduceIte]
  refine Den_spec hO.io hO.den hO.one hq dq (fun h3 nx3 gr3 => ?_)
  have g3 := g2.trans gr3
  have ca3 := (g3.cells (b := nx) (by omega))
  have cb3 := (g3.cells (b := nx.succ) (by omega))
  simp only [go_sem] at ca3 cb3
  simp only [go_sem, zv, ca3, cb3, Nat.reduceEqDiff, reduceIte]
  refine c_mul (a := RQ.den' q) (b := r.num) hO.io rfl (zof_cells hv') eq sr ?_
  simp only [go_sem, zv, ca3, cb3, Nat.reduceEqDiff, reduceIte]
  refine reduced_spec (a := ZI.mul q.num (RQ.den' r)) (b := ZI.mul (RQ.den' q) r.num) hO.io hO.reduced hO.one (lv_sm (lv_mul lq.num lr.den') (by decide)) (lv_sm (lv_mul lq.den' lr.num) (by decide)) (Nat.mul_ne_zero (den'_pos q) h0) hB (fun c5 h5 nx5 gr5 hz => ?_)
  have g5 := g3.trans gr5
  have cr5 : _ = some (Blk.cells [AV.b false, AV.ns, AV.b false, AV.ns] 0) := (g5.get nx.succ.succ (by omega)).trans (Tr.get_set_same _ _ _)
  obtain ⟨x, y, rfl, hx, hy⟩ := hz.ex
  have hs1 := mag_scal hx
  have hs2 := mag_scal hy
  have hc1 := scal_cells hs1
  have hc2 := scal_cells hs2
  simp only [go_sem, cr5, hs1, hs2, hc1, hc2, Nat.reduceEqDiff, reduceIte]
  refine hK _ _ _ ?_ ⟨_, _, rfl, hx, hy⟩
  repeat (refine Grow.set ?_ (by omega) _)
  refine Grow.trans ?_ g5
  repeat (refine Grow.set ?_ (by omega) _)
  exact ⟨by omega, fun _ _ => rfl⟩
end
end
end Go.AR
namespace Go.AR
open Go.Proofs
noncomputable section
theorem ioQ : IntOrc Cq := ⟨by kernel_rfl, by kernel_rfl, by kernel_rfl, by kernel_rfl, by kernel_rfl, by kernel_rfl, by kernel_rfl, by kernel_rfl, by kernel_rfl⟩
theorem ownQ : QOwn Cq := ⟨ioQ, ⟨by kernel_rfl, by kernel_rfl⟩, ⟨by kernel_rfl, by kernel_rfl⟩, ⟨by kernel_rfl, by kernel_rfl⟩, ⟨by kernel_rfl, by kernel_rfl⟩, ⟨by kernel_rfl, by kernel_rfl⟩, ⟨by kernel_rfl, by kernel_rfl⟩, ⟨by kernel_rfl, by kernel_rfl⟩, ⟨by kernel_rfl, by kernel_rfl⟩, ⟨by kernel_rfl, by kernel_rfl⟩, ⟨by kernel_rfl, by kernel_rfl⟩, ⟨by kernel_rfl, by kernel_rfl⟩, ⟨by kernel_rfl, by kernel_rfl⟩, ⟨by kernel_rfl, by kernel_rfl⟩, ⟨by kernel_rfl, by kernel_rfl⟩, ⟨by kernel_rfl, by kernel_rfl⟩, ⟨by kernel_rfl, by kernel_rfl⟩⟩
def qv (q : RQ) : AV := .a [.b q.num.neg, .g q.num.mag, .b q.den.neg, .g q.den.mag]
theorem qv_Qv (q : RQ) : Qv (qv q) q := ⟨_, _, rfl, .inl rfl, .inl rfl⟩
def gof (v : AV) : Option Nat := match v with | .g n => some n | .ns => some 0 | _ => none
def qof (v : AV) : Option RQ := match v with | .a [.b s, m, .b t, n] => (match gof m, gof n with | some x, some y => some ⟨⟨s, x⟩, ⟨t, y⟩⟩ | _, _ => none) | _ => none
theorem gof_fz {k : Bool} {h : Tr Blk} {v : AV} {n : Nat} (hg : gof v = some n) : Fz k h v (.g n) := by
  unfold gof at hg
  split at hg
  · cases hg; exact .same _ rfl
  · cases hg; exact .ng
  · cases hg
theorem qof_fz {h : Tr Blk} {v : AV} {q : RQ} (hq : qof v = some q) : Fz true h v (qv q) := by
  unfold qof at hq
  split at hq
  · split at hq
    · rename_i h1 h2
      cases hq
      exact .a _ _ (.cons (.same _ rfl) (.cons (gof_fz h1) (.cons (.same _ rfl) (.cons (gof_fz h2) .nil))))
    · cases hq
  · cases hq
theorem mag_fz {k : Bool} {h : Tr Blk} {v : AV} {n : Nat} (hv : v = .g n ∨ (v = .ns ∧ n = 0)) : Fz k h v (.g n) := by
  rcases hv with rfl | ⟨rfl, rfl⟩
  · exact .same _ rfl
  · exact .ng
theorem Qv.fz {h : Tr Blk} {c : AV} {q : RQ} (hq : Qv c q) : Fz false h c (qv q) := by
  obtain ⟨v, w, rfl, hv, hw⟩ := hq.ex
  exact .a _ _ (.cons (.same _ rfl) (.cons (mag_fz hv) (.cons (.same _ rfl) (.cons (mag_fz hw) .nil))))
def tm (a : ZI) : Bool := Nat.ble a.mag (2 ^ 1000)
def tq (q : RQ) : Bool := tm q.num && tm q.den
set_option exponentiation.threshold 5000 in
theorem tq_lq {q : RQ} (h : tq q = true) : Lq 1000 q := by
  unfold tq at h
  rw [Bool.and_eq_true] at h
  exact ⟨Nat.le_of_ble_eq_true h.1, Nat.le_of_ble_eq_true h.2⟩
def lt32 (n : Nat) : Bool := Nat.blt n 4294967296
theorem lt32_lt {n : Nat} (h : lt32 n = true) : n < BB := by unfold lt32 at h; rw [Nat.blt_eq] at h; exact h
def runQ (f : Nat) (us : List AV) : Option AV := match calls Cq 1000000 (pos f) us .lf .h with | .ok v h' _ => fz2 h' v | .bad => none
def orcQ1 (F : RQ → Option AV) (vs : List AV) (h : Tr Blk) (nx : Pos) : Res :=
  match vs with | [x] => (match qof x with | some q => bif tq q then (match F q with | some r => .ok r h nx | none => .bad) else .bad | none => .bad) | _ => .bad
def orcQ2 (F : RQ → RQ → Option AV) (vs : List AV) (h : Tr Blk) (nx : Pos) : Res :=
  match vs with | [x, y] => (match qof x, qof y with | some q, some r => bif tq q && tq r then (match F q r with | some r => .ok r h nx | none => .bad) else .bad | _, _ => .bad) | _ => .bad
section
variable {Z : Nat → Option Obj} {f : Nat}
theorem orcQ1_ok {F : RQ → Option AV} (hb : ∃ fn c, Tryz.prog.funcs[f]? = some fn ∧ (fn.name == "runtime.NumGoroutine") = false ∧ fn.body = some c) (hp : ∀ q r, Lq 1000 q → F q = some r → PureOk Tryz.prog (LOk Tryz.prog Z) f [qv q] r) : OrcOk Tryz.prog (LOk Tryz.prog Z) f (orcQ1 F) := by
  refine orc_pure LOk.mono hb ?_
  intro vs h nx v h' nx' hx
  unfold orcQ1 at hx
  split at hx
  · split at hx
    · rename_i x _ q hq
      cases hs : tq q with
      | false => rw [hs] at hx; cases hx
      | true =>
        rw [hs, cond_true] at hx
        split at hx
        · rename_i r hr
          cases hx
          exact ⟨rfl, rfl, _, .cons (qof_fz hq) .nil, hp q _ (tq_lq hs) hr⟩
        · cases hx
    · cases hx
  · cases hx
theorem orcQ2_ok {F : RQ → RQ → Option AV} (hb : ∃ fn c, Tryz.prog.funcs[f]? = some fn ∧ (fn.name == "runtime.NumGoroutine") = false ∧ fn.body = some c) (hp : ∀ q r v, Lq 1000 q → Lq 1000 r → F q r = some v → PureOk Tryz.prog (LOk Tryz.prog Z) f [qv q, qv r] v) : OrcOk Tryz.prog (LOk Tryz.prog Z) f (orcQ2 F) := by
  refine orc_pure LOk.mono hb ?_
  intro vs h nx v h' nx' hx
  unfold orcQ2 at hx
  split at hx
  · split at hx
    · rename_i x y _ _ q r hq hr
      cases hs : (tq q && tq r) with
      | false => rw [hs] at hx; cases hx
      | true =>
        rw [hs, cond_true] at hx
        rw [Bool.and_eq_true] at hs
        split at hx
        · rename_i v hv
          cases hx
          exact ⟨rfl, rfl, _, .cons (qof_fz hq) (.cons (qof_fz hr) .nil), hp q r _ (tq_lq hs.1) (tq_lq hs.2) hv⟩
        · cases hx
    · cases hx
  · cases hx
end
section
variable {Z : Nat → Option Obj} (hZ : ZOk Z) {q r : RQ} {v : AV} {f : Nat}
include hZ
theorem runQ_ok {us : List AV} (h : runQ f us = some v) : PureOk Tryz.prog (LOk Tryz.prog Z) f us v := by
  unfold runQ at h
  split at h
  · rename_i x h' nx' hx
    exact pure_of_calls mixedT (Cq_ok hZ) hx (fz2_ok h)
  · cases h
theorem pQAdd (lq : Lq 1000 q) (lr : Lq 1000 r) (hB : (RQ.den' q).mag * (RQ.den' r).mag < BB) : PureOk Tryz.prog (LOk Tryz.prog Z) 21 [qv q, qv r] (qv (RQ.add q r)) :=
  pure0 mixedT (Cq_ok hZ) (Add_q ownQ (qv_Qv q) (qv_Qv r) lq lr hB fun c h' nx' _ hz => hz.fz)
theorem pQMul (lq : Lq 1000 q) (lr : Lq 1000 r) (hB : (RQ.den' q).mag * (RQ.den' r).mag < BB) : PureOk Tryz.prog (LOk Tryz.prog Z) 111 [qv q, qv r] (qv (RQ.mul q r)) :=
  pure0 mixedT (Cq_ok hZ) (Mul_q ownQ (qv_Qv q) (qv_Qv r) lq lr hB fun c h' nx' _ hz => hz.fz)
theorem pQSub (lq : Lq 1000 q) (lr : Lq 1000 r) (hB : (RQ.den' q).mag * (RQ.den' r).mag < BB) : PureOk Tryz.prog (LOk Tryz.prog Z) 41 [qv q, qv r] (qv (RQ.sub q r)) :=
  pure0 mixedT (Cq_ok hZ) (Sub_q ownQ (qv_Qv q) (qv_Qv r) lq lr hB fun c h' nx' _ hz => hz.fz)
theorem pQDiv (lq : Lq 1000 q) (lr : Lq 1000 r) (h0 : r.num.mag ≠ 0) (hB : (RQ.den' q).mag * r.num.mag < BB) : PureOk Tryz.prog (LOk Tryz.prog Z) 42 [qv q, qv r] (.t [qv (RQ.div q r), .i .i64 0]) :=
  pure0 mixedT (Cq_ok hZ) (Div_q ownQ (qv_Qv q) (qv_Qv r) lq lr h0 hB fun c h' nx' _ hz => .t _ _ (.cons hz.fz (.cons (.same _ rfl) .nil)))
theorem pQCmp (lq : Lq 1000 q) (lr : Lq 1000 r) : PureOk Tryz.prog (LOk Tryz.prog Z) 18 [qv q, qv r] (.i .i64 (RQ.cmp q r)) :=
  pure0 mixedT (Cq_ok hZ) (Compare_q ownQ (qv_Qv q) (qv_Qv r) lq lr fun h' nx' _ => .same _ rfl)
theorem pQMax (lq : Lq 1000 q) (lr : Lq 1000 r) : PureOk Tryz.prog (LOk Tryz.prog Z) 58 [qv q, qv r] (qv (RQ.max q r)) :=
  pure0 mixedT (Cq_ok hZ) (Max_q ownQ (qv_Qv q) (qv_Qv r) lq lr fun c h' nx' _ hz => hz.fz)
theorem pQNeg (lq : Lq 1000 q) : PureOk Tryz.prog (LOk Tryz.prog Z) 82 [qv q] (qv (RQ.neg q)) :=
  pure0 mixedT (Cq_ok hZ) (Neg_q ownQ (qv_Qv q) (lv_sm lq.num (by decide)) fun c h' nx' _ hz => hz.fz)
theorem pQAbs (lq : Lq 1000 q) : PureOk Tryz.prog (LOk Tryz.prog Z) 40 [qv q] (qv (RQ.abs q)) :=
  pure0 mixedT (Cq_ok hZ) (Abs_q ownQ (qv_Qv q) (lv_sm lq.num (by decide)) fun c h' nx' _ hz => hz.fz)
theorem pQSign (lq : Lq 1000 q) : PureOk Tryz.prog (LOk Tryz.prog Z) 70 [qv q] (.i .i64 (ZI.sign q.num)) :=
  pure0 mixedT (Cq_ok hZ) (QSign_spec ownQ.io ownQ.sign (qv_Qv q) (lv_sm lq.num (by decide)) fun h' nx' _ => .same _ rfl)
theorem pQDen (lq : Lq 1000 q) : PureOk Tryz.prog (LOk Tryz.prog Z) 63 [qv q] (zv (RQ.den' q)) :=
  pure0 mixedT (Cq_ok hZ) (Den_spec ownQ.io ownQ.den ownQ.one (qv_Qv q) (lv_sm lq.den (by decide)) fun h' nx' _ => .same _ rfl)
theorem pQWhole (lq : Lq 1000 q) : PureOk Tryz.prog (LOk Tryz.prog Z) 60 [qv q] (.b (RQ.whole q)) :=
  pure0 mixedT (Cq_ok hZ) (whole_spec ownQ.io ownQ.whole ownQ.one (qv_Qv q) (lv_sm lq.den (by decide)) fun h' nx' _ => .same _ rfl)
theorem pQFrom {n : Int} (h1 : -9223372036854775808 ≤ n) (h2 : n < 9223372036854775808) : PureOk Tryz.prog (LOk Tryz.prog Z) 43 [.i .i64 n] (qv (ints (ZI.ofInt n))) :=
  pure0 mixedT (Cq_ok hZ) (From_q ownQ h1 h2 fun c h' nx' _ hz => hz.fz)
end
def orcQAdd := orcQ2 fun q r => bif lt32 ((RQ.den' q).mag * (RQ.den' r).mag) then some (qv (RQ.add q r)) else runQ 21 [qv q, qv r]
def orcQMul := orcQ2 fun q r => bif lt32 ((RQ.den' q).mag * (RQ.den' r).mag) then some (qv (RQ.mul q r)) else runQ 111 [qv q, qv r]
def orcQSub := orcQ2 fun q r => bif lt32 ((RQ.den' q).mag * (RQ.den' r).mag) then some (qv (RQ.sub q r)) else runQ 41 [qv q, qv r]
def orcQDiv := orcQ2 fun q r => bif Bool.not (Nat.beq r.num.mag 0) && lt32 ((RQ.den' q).mag * r.num.mag) then some (.t [qv (RQ.div q r), .i .i64 0]) else runQ 42 [qv q, qv r]
def orcQCmp := orcQ2 fun q r => some (.i .i64 (RQ.cmp q r))
def orcQMax := orcQ2 fun q r => some (qv (RQ.max q r))
def orcQNeg := orcQ1 fun q => some (qv (RQ.neg q))
def orcQAbs := orcQ1 fun q => some (qv (RQ.abs q))
def orcQSign := orcQ1 fun q => some (.i .i64 (ZI.sign q.num))
def orcQDen := orcQ1 fun q => some (zv (RQ.den' q))
def orcQWhole := orcQ1 fun q => some (.b (RQ.whole q))
def fQFrom (vs : List AV) : Option AV := match vs with | [.i .i64 n] => (match n with | .ofNat m => bif Nat.blt m 9223372036854775808 then some (qv (ints (ZI.ofInt n))) else none | .negSucc m => bif Nat.blt m 9223372036854775808 then some (qv (ints (ZI.ofInt n))) else none) | _ => none
def orcQFrom := orcS fQFrom
section
variable {Z : Nat → Option Obj} (hZ : ZOk Z)
include hZ
theorem orcQAdd_ok : OrcOk Tryz.prog (LOk Tryz.prog Z) 21 orcQAdd := orcQ2_ok ⟨_, _, Tryz.func21, by kernel_rfl, rfl⟩ fun q r v lq lr h => by
  cases hs : lt32 ((RQ.den' q).mag * (RQ.den' r).mag) with
  | true => simp only [hs, cond_true] at h; cases h; exact pQAdd hZ lq lr (lt32_lt hs)
  | false => simp only [hs, cond_false] at h; exact runQ_ok hZ h
theorem orcQMul_ok : OrcOk Tryz.prog (LOk Tryz.prog Z) 111 orcQMul := orcQ2_ok ⟨_, _, Tryz.func111, by kernel_rfl, rfl⟩ fun q r v lq lr h => by
  cases hs : lt32 ((RQ.den' q).mag * (RQ.den' r).mag) with
  | true => simp only [hs, cond_true] at h; cases h; exact pQMul hZ lq lr (lt32_lt hs)
  | false => simp only [hs, cond_false] at h; exact runQ_ok hZ h
theorem orcQSub_ok : OrcOk Tryz.prog (LOk Tryz.prog Z) 41 orcQSub := orcQ2_ok ⟨_, _, Tryz.func41, by kernel_rfl, rfl⟩ fun q r v lq lr h => by
  cases hs : lt32 ((RQ.den' q).mag * (RQ.den' r).mag) with
  | true => simp only [hs, cond_true] at h; cases h; exact pQSub hZ lq lr (lt32_lt hs)
  | false => simp only [hs, cond_false] at h; exact runQ_ok hZ h
theorem orcQDiv_ok : OrcOk Tryz.prog (LOk Tryz.prog Z) 42 orcQDiv := orcQ2_ok ⟨_, _, Tryz.func42, by kernel_rfl, rfl⟩ fun q r v lq lr h => by
  cases hs : (Bool.not (Nat.beq r.num.mag 0) && lt32 ((RQ.den' q).mag * r.num.mag)) with
  | true =>
    simp only [hs, cond_true] at h; cases h
    simp only [Bool.and_eq_true, Bool.not_eq_true'] at hs
    exact pQDiv hZ lq lr (fun e => by rw [e] at hs; exact absurd hs.1 (by decide)) (lt32_lt hs.2)
  | false => simp only [hs, cond_false] at h; exact runQ_ok hZ h
theorem orcQCmp_ok : OrcOk Tryz.prog (LOk Tryz.prog Z) 18 orcQCmp := orcQ2_ok ⟨_, _, Tryz.func18, by kernel_rfl, rfl⟩ fun q r v lq lr h => by cases h; exact pQCmp hZ lq lr
theorem orcQMax_ok : OrcOk Tryz.prog (LOk Tryz.prog Z) 58 orcQMax := orcQ2_ok ⟨_, _, Tryz.func58, by kernel_rfl, rfl⟩ fun q r v lq lr h => by cases h; exact pQMax hZ lq lr
theorem orcQNeg_ok : OrcOk Tryz.prog (LOk Tryz.prog Z) 82 orcQNeg := orcQ1_ok ⟨_, _, Tryz.func82, by kernel_rfl, rfl⟩ fun q v lq h => by cases h; exact pQNeg hZ lq
theorem orcQAbs_ok : OrcOk Tryz.prog (LOk Tryz.prog Z) 40 orcQAbs := orcQ1_ok ⟨_, _, Tryz.func40, by kernel_rfl, rfl⟩ fun q v lq h => by cases h; exact pQAbs hZ lq
theorem orcQSign_ok : OrcOk Tryz.prog (LOk Tryz.prog Z) 70 orcQSign := orcQ1_ok ⟨_, _, Tryz.func70, by kernel_rfl, rfl⟩ fun q v lq h => by cases h; exact pQSign hZ lq
theorem orcQDen_ok : OrcOk Tryz.prog (LOk Tryz.prog Z) 63 orcQDen := orcQ1_ok ⟨_, _, Tryz.func63, by kernel_rfl, rfl⟩ fun q v lq h => by cases h; exact pQDen hZ lq
theorem orcQWhole_ok : OrcOk Tryz.prog (LOk Tryz.prog Z) 60 orcQWhole := orcQ1_ok ⟨_, _, Tryz.func60, by kernel_rfl, rfl⟩ fun q v lq h => by cases h; exact pQWhole hZ lq
theorem orcQFrom_ok : OrcOk Tryz.prog (LOk Tryz.prog Z) 43 orcQFrom := orcS_ok ⟨_, _, Tryz.func43, by kernel_rfl, rfl⟩ fun vs r h => by
  unfold fQFrom at h
  split at h
  · rename_i n
    cases n with
    | ofNat m =>
      have h : (bif Nat.blt m 9223372036854775808 then some (qv (ints (ZI.ofInt (.ofNat m)))) else none) = some r := h
      cases hs : Nat.blt m 9223372036854775808 with
      | false => rw [hs] at h; cases h
      | true => rw [hs] at h; cases h; rw [Nat.blt_eq] at hs; exact pQFrom hZ (by simp) (by simp; omega)
    | negSucc m =>
      have h : (bif Nat.blt m 9223372036854775808 then some (qv (ints (ZI.ofInt (.negSucc m)))) else none) = some r := h
      cases hs : Nat.blt m 9223372036854775808 with
      | false => rw [hs] at h; cases h
      | true => rw [hs] at h; cases h; rw [Nat.blt_eq] at hs; exact pQFrom hZ (by omega) (by omega)
  · cases h
end
end
end Go.AR
namespace Go.AR
open Go.Proofs
noncomputable section
def unrQ (C : Ctx) (a : AC) (Q : Post) : Post := fun e T h nx => match e with | .n => wp C (.loop a) Q T h nx | .x j => Q (.x j) T h nx | .r => Q .r T h nx
section
variable {C : Ctx} {h : Tr Blk} {nx : Pos} {T : Tr AV} {K : AV → Tr Blk → Pos → Prop} {Q : Post} {a : AC}
@[go_sem] theorem unrQ_n : unrQ C a Q .n T h nx = wp C (.loop a) Q T h nx := by rfl
@[go_sem] theorem unrQ_x (j : Nat) : unrQ C a Q (.x j) T h nx = Q (.x j) T h nx := by rfl
@[go_sem] theorem unrQ_r : unrQ C a Q .r T h nx = Q .r T h nx := by rfl
theorem wp_unroll (hx : wp C a (kont C [] (unrQ C a Q)) T h nx) : wp C (.loop a) Q T h nx := by
  refine Ends.loop ((wp_sound hx).mono ?_)
  intro e T h nx hq
  cases e <;> exact hq
structure RatOrc (C : Ctx) : Prop where
  from_ : C.orc.get (pos nYai) = some orcQFrom
  abs : C.orc.get (pos nYag) = some orcQAbs
  add : C.orc.get (pos nYn) = some orcQAdd
  sub : C.orc.get (pos nYah) = some orcQSub
  max : C.orc.get (pos nYaa) = some orcQMax
  cmp : C.orc.get (pos nYr) = some orcQCmp
variable {c d : AV} {q r : RQ}
theorem orcQ1_comes {f : Pos} {F : RQ → Option AV} {v : AV} (ho : C.orc.get f = some (orcQ1 F)) (ha : qof c = some q) (sa : tq q = true) (hF : F q = some v) (hk : K v h nx) : Comes C (.f f []) [c] h nx K :=
  Comes.orc ho (show orcQ1 F ([c] ++ []) h nx = .ok v h nx by show orcQ1 F [c] h nx = _; unfold orcQ1; simp [ha, sa, hF]) hk
theorem orcQ2_comes {f : Pos} {F : RQ → RQ → Option AV} {v : AV} (ho : C.orc.get f = some (orcQ2 F)) (ha : qof c = some q) (hb : qof d = some r) (sa : tq q = true) (sb : tq r = true) (hF : F q r = some v) (hk : K v h nx) : Comes C (.f f []) [c, d] h nx K :=
  Comes.orc ho (show orcQ2 F ([c, d] ++ []) h nx = .ok v h nx by show orcQ2 F [c, d] h nx = _; unfold orcQ2; simp [ha, hb, sa, sb, hF]) hk
theorem k_abs (hR : RatOrc C) (ha : qof c = some q) (sa : tq q = true) (hk : K (qv (RQ.abs q)) h nx) : Comes C (.f (pos nYag) []) [c] h nx K := orcQ1_comes (F := fun q => some (qv (RQ.abs q))) hR.abs ha sa rfl hk
theorem k_max (hR : RatOrc C) (ha : qof c = some q) (hb : qof d = some r) (sa : tq q = true) (sb : tq r = true) (hk : K (qv (RQ.max q r)) h nx) : Comes C (.f (pos nYaa) []) [c, d] h nx K := orcQ2_comes (F := fun q r => some (qv (RQ.max q r))) hR.max ha hb sa sb rfl hk
theorem k_cmp (hR : RatOrc C) (ha : qof c = some q) (hb : qof d = some r) (sa : tq q = true) (sb : tq r = true) (hk : K (.i .i64 (RQ.cmp q r)) h nx) : Comes C (.f (pos nYr) []) [c, d] h nx K := orcQ2_comes (F := fun q r => some (.i .i64 (RQ.cmp q r))) hR.cmp ha hb sa sb rfl hk
theorem k_add (hR : RatOrc C) (ha : qof c = some q) (hb : qof d = some r) (sa : tq q = true) (sb : tq r = true) (hl : lt32 ((RQ.den' q).mag * (RQ.den' r).mag) = true) (hk : K (qv (RQ.add q r)) h nx) : Comes C (.f (pos nYn) []) [c, d] h nx K :=
  orcQ2_comes (F := fun q r => bif lt32 ((RQ.den' q).mag * (RQ.den' r).mag) then some (qv (RQ.add q r)) else runQ 21 [qv q, qv r]) hR.add ha hb sa sb (by simp only [hl, cond_true]) hk
theorem k_sub (hR : RatOrc C) (ha : qof c = some q) (hb : qof d = some r) (sa : tq q = true) (sb : tq r = true) (hl : lt32 ((RQ.den' q).mag * (RQ.den' r).mag) = true) (hk : K (qv (RQ.sub q r)) h nx) : Comes C (.f (pos nYah) []) [c, d] h nx K :=
  orcQ2_comes (F := fun q r => bif lt32 ((RQ.den' q).mag * (RQ.den' r).mag) then some (qv (RQ.sub q r)) else runQ 41 [qv q, qv r]) hR.sub ha hb sa sb (by simp only [hl, cond_true]) hk
theorem k_from (hR : RatOrc C) {n : Int} (h1 : -9223372036854775808 ≤ n) (h2 : n < 9223372036854775808) (hk : K (qv (ints (ZI.ofInt n))) h nx) : Comes C (.f (pos nYai) []) [.i .i64 n] h nx K := by
  refine Comes.orc hR.from_ (show orcQFrom [.i .i64 n] h nx = .ok (qv (ints (ZI.ofInt n))) h nx from ?_) hk
  have : fQFrom [.i .i64 n] = some (qv (ints (ZI.ofInt n))) := by
    cases n with
    | ofNat m =>
      show (bif Nat.blt m 9223372036854775808 then some (qv (ints (ZI.ofInt (.ofNat m)))) else none) = _
      rw [show Nat.blt m 9223372036854775808 = true from by rw [Nat.blt_eq]; simp at h2; omega]; rfl
    | negSucc m =>
      show (bif Nat.blt m 9223372036854775808 then some (qv (ints (ZI.ofInt (.negSucc m)))) else none) = _
      rw [show Nat.blt m 9223372036854775808 = true from by rw [Nat.blt_eq]; omega]; rfl
  show (bif puL false [.i .i64 n] then (match fQFrom [.i .i64 n] with | some r => Res.ok r h nx | none => .bad) else .bad) = _
  rw [this]; rfl
end
end
noncomputable section
def Yaq2 : List Op := [⟨(some (pos 2)), none, .box, [(.t (pos 0))]⟩, ⟨(some (pos 3)), none, .box, [(.t (pos 1))]⟩, ⟨(some (pos 4)), none, (.alloc [.i .i64 0, .i .i64 0, .i .i64 0]), []⟩]
@[go_sem] def wYaq2 := eRun Yaq2.eq_1
def Yaq1 : AC := .reg (Yaq2 ++ [])
@[go_sem] def wYaq1 := eReg Yaq1.eq_1 rfl
def Yaq5 : List Op := [⟨(some (pos 5)), none, (.iaddrA 3 1), [(.t (pos 2)), (.c (.i .i64 (0)))]⟩, ⟨(some (pos 6)), none, (.load false 1), [(.t (pos 5))]⟩, ⟨(some (pos 7)), none, (.iaddrA 3 1), [(.t (pos 3)), (.c (.i .i64 (0)))]⟩, ⟨(some (pos 8)), none, (.load false 1), [(.t (pos 7))]⟩, ⟨(some (pos 9)), none, (.bin .sub 0 .i), [(.t (pos 6)), (.t (pos 8))]⟩, ⟨(some (pos 10)), none, (.iaddrA 3 1), [(.t (pos 2)), (.c (.i .i64 (1)))]⟩, ⟨(some (pos 11)), none, (.load false 1), [(.t (pos 10))]⟩, ⟨(some (pos 12)), none, (.iaddrA 3 1), [(.t (pos 3)), (.c (.i .i64 (1)))]⟩, ⟨(some (pos 13)), none, (.load false 1), [(.t (pos 12))]⟩, ⟨(some (pos 14)), none, (.bin .sub 0 .i), [(.t (pos 11)), (.t (pos 13))]⟩, ⟨(some (pos 15)), none, (.iaddrA 3 1), [(.t (pos 2)), (.c (.i .i64 (2)))]⟩, ⟨(some (pos 16)), none, (.load false 1), [(.t (pos 15))]⟩, ⟨(some (pos 17)), none, (.iaddrA 3 1), [(.t (pos 3)), (.c (.i .i64 (2)))]⟩, ⟨(some (pos 18)), none, (.load false 1), [(.t (pos 17))]⟩, ⟨(some (pos 19)), none, (.bin .sub 0 .i), [(.t (pos 16)), (.t (pos 18))]⟩, ⟨(some (pos 20)), none, (.build [.i .i64 0, .i .i64 0, .i .i64 0] [(0, 1), (1, 1), (2, 1)]), [(.t (pos 9)), (.t (pos 14)), (.t (pos 19))]⟩, ⟨none, none, (.store 3), [(.t (pos 4)), (.t (pos 20))]⟩]
@[go_sem] def wYaq5 := eRun Yaq5.eq_1
def Yaq4 : AC := .reg (Yaq5 ++ [])
@[go_sem] def wYaq4 := eReg Yaq4.eq_1 rfl
def Yaq6 : AC := .ret
@[go_sem] def wYaq6 := eRet Yaq6.eq_1
def Yaq3 : AC := .seq Yaq4 Yaq6
@[go_sem] def wYaq3 := eSeq Yaq3.eq_1
def Yaq0 : AC := .seq Yaq1 Yaq3
@[go_sem] def wYaq0 := eSeq Yaq0.eq_1
def FYaq : Fn := ⟨[pos 0, pos 1], [.c (pos 4) true 3], Yaq0⟩
def Yas2 : List Op := [⟨(some (pos 2)), none, .box, [(.t (pos 0))]⟩, ⟨(some (pos 3)), none, .box, [(.t (pos 1))]⟩, ⟨(some (pos 4)), none, .mv, [(.c (.i .i64 (0)))]⟩]
@[go_sem] def wYas2 := eRun Yas2.eq_1
def Yas1 : AC := .reg (Yas2 ++ [])
@[go_sem] def wYas1 := eReg Yas1.eq_1 rfl
def Yas5 : List Op := [⟨(some (pos 5)), none, (.iaddrA 3 1), [(.t (pos 2)), (.c (.i .i64 (0)))]⟩, ⟨(some (pos 6)), none, (.load false 1), [(.t (pos 5))]⟩, ⟨(some (pos 7)), none, (.iaddrA 3 1), [(.t (pos 3)), (.c (.i .i64 (0)))]⟩, ⟨(some (pos 8)), none, (.load false 1), [(.t (pos 7))]⟩, ⟨(some (pos 9)), none, (.bin .mul 0 .i), [(.t (pos 6)), (.t (pos 8))]⟩, ⟨(some (pos 10)), none, (.iaddrA 3 1), [(.t (pos 2)), (.c (.i .i64 (1)))]⟩, ⟨(some (pos 11)), none, (.load false 1), [(.t (pos 10))]⟩, ⟨(some (pos 12)), none, (.iaddrA 3 1), [(.t (pos 3)), (.c (.i .i64 (1)))]⟩, ⟨(some (pos 13)), none, (.load false 1), [(.t (pos 12))]⟩, ⟨(some (pos 14)), none, (.bin .mul 0 .i), [(.t (pos 11)), (.t (pos 13))]⟩, ⟨(some (pos 15)), none, (.bin .add 0 .i), [(.t (pos 9)), (.t (pos 14))]⟩, ⟨(some (pos 16)), none, (.iaddrA 3 1), [(.t (pos 2)), (.c (.i .i64 (2)))]⟩, ⟨(some (pos 17)), none, (.load false 1), [(.t (pos 16))]⟩, ⟨(some (pos 18)), none, (.iaddrA 3 1), [(.t (pos 3)), (.c (.i .i64 (2)))]⟩, ⟨(some (pos 19)), none, (.load false 1), [(.t (pos 18))]⟩, ⟨(some (pos 20)), none, (.bin .mul 0 .i), [(.t (pos 17)), (.t (pos 19))]⟩, ⟨(some (pos 21)), none, (.bin .add 0 .i), [(.t (pos 15)), (.t (pos 20))]⟩, ⟨(some (pos 4)), none, .mv, [(.t (pos 21))]⟩]
@[go_sem] def wYas5 := eRun Yas5.eq_1
def Yas4 : AC := .reg (Yas5 ++ [])
@[go_sem] def wYas4 := eReg Yas4.eq_1 rfl
def Yas6 : AC := .ret
@[go_sem] def wYas6 := eRet Yas6.eq_1
def Yas3 : AC := .seq Yas4 Yas6
@[go_sem] def wYas3 := eSeq Yas3.eq_1
def Yas0 : AC := .seq Yas1 Yas3
@[go_sem] def wYas0 := eSeq Yas0.eq_1
def FYas : Fn := ⟨[pos 0, pos 1], [.t (pos 4)], Yas0⟩
def Yar2 : List Op := [⟨(some (pos 2)), none, .box, [(.t (pos 0))]⟩, ⟨(some (pos 3)), none, .box, [(.t (pos 1))]⟩, ⟨(some (pos 4)), none, (.alloc [.i .i64 0, .i .i64 0, .i .i64 0]), []⟩]
@[go_sem] def wYar2 := eRun Yar2.eq_1
def Yar1 : AC := .reg (Yar2 ++ [])
@[go_sem] def wYar1 := eReg Yar1.eq_1 rfl
def Yar5 : List Op := [⟨(some (pos 5)), none, (.iaddrA 3 1), [(.t (pos 2)), (.c (.i .i64 (1)))]⟩, ⟨(some (pos 6)), none, (.load false 1), [(.t (pos 5))]⟩, ⟨(some (pos 7)), none, (.iaddrA 3 1), [(.t (pos 3)), (.c (.i .i64 (2)))]⟩, ⟨(some (pos 8)), none, (.load false 1), [(.t (pos 7))]⟩, ⟨(some (pos 9)), none, (.bin .mul 0 .i), [(.t (pos 6)), (.t (pos 8))]⟩, ⟨(some (pos 10)), none, (.iaddrA 3 1), [(.t (pos 2)), (.c (.i .i64 (2)))]⟩, ⟨(some (pos 11)), none, (.load false 1), [(.t (pos 10))]⟩, ⟨(some (pos 12)), none, (.iaddrA 3 1), [(.t (pos 3)), (.c (.i .i64 (1)))]⟩, ⟨(some (pos 13)), none, (.load false 1), [(.t (pos 12))]⟩, ⟨(some (pos 14)), none, (.bin .mul 0 .i), [(.t (pos 11)), (.t (pos 13))]⟩, ⟨(some (pos 15)), none, (.bin .sub 0 .i), [(.t (pos 9)), (.t (pos 14))]⟩, ⟨(some (pos 16)), none, (.iaddrA 3 1), [(.t (pos 2)), (.c (.i .i64 (2)))]⟩, ⟨(some (pos 17)), none, (.load false 1), [(.t (pos 16))]⟩, ⟨(some (pos 18)), none, (.iaddrA 3 1), [(.t (pos 3)), (.c (.i .i64 (0)))]⟩, ⟨(some (pos 19)), none, (.load false 1), [(.t (pos 18))]⟩, ⟨(some (pos 20)), none, (.bin .mul 0 .i), [(.t (pos 17)), (.t (pos 19))]⟩, ⟨(some (pos 21)), none, (.iaddrA 3 1), [(.t (pos 2)), (.c (.i .i64 (0)))]⟩, ⟨(some (pos 22)), none, (.load false 1), [(.t (pos 21))]⟩, ⟨(some (pos 23)), none, (.iaddrA 3 1), [(.t (pos 3)), (.c (.i .i64 (2)))]⟩, ⟨(some (pos 24)), none, (.load false 1), [(.t (pos 23))]⟩, ⟨(some (pos 25)), none, (.bin .mul 0 .i), [(.t (pos 22)), (.t (pos 24))]⟩, ⟨(some (pos 26)), none, (.bin .sub 0 .i), [(.t (pos 20)), (.t (pos 25))]⟩, ⟨(some (pos 27)), none, (.iaddrA 3 1), [(.t (pos 2)), (.c (.i .i64 (0)))]⟩, ⟨(some (pos 28)), none, (.load false 1), [(.t (pos 27))]⟩, ⟨(some (pos 29)), none, (.iaddrA 3 1), [(.t (pos 3)), (.c (.i .i64 (1)))]⟩, ⟨(some (pos 30)), none, (.load false 1), [(.t (pos 29))]⟩, ⟨(some (pos 31)), none, (.bin .mul 0 .i), [(.t (pos 28)), (.t (pos 30))]⟩, ⟨(some (pos 32)), none, (.iaddrA 3 1), [(.t (pos 2)), (.c (.i .i64 (1)))]⟩, ⟨(some (pos 33)), none, (.load false 1), [(.t (pos 32))]⟩, ⟨(some (pos 34)), none, (.iaddrA 3 1), [(.t (pos 3)), (.c (.i .i64 (0)))]⟩, ⟨(some (pos 35)), none, (.load false 1), [(.t (pos 34))]⟩, ⟨(some (pos 36)), none, (.bin .mul 0 .i), [(.t (pos 33)), (.t (pos 35))]⟩, ⟨(some (pos 37)), none, (.bin .sub 0 .i), [(.t (pos 31)), (.t (pos 36))]⟩, ⟨(some (pos 38)), none, (.build [.i .i64 0, .i .i64 0, .i .i64 0] [(0, 1), (1, 1), (2, 1)]), [(.t (pos 15)), (.t (pos 26)), (.t (pos 37))]⟩, ⟨none, none, (.store 3), [(.t (pos 4)), (.t (pos 38))]⟩]
@[go_sem] def wYar5 := eRun Yar5.eq_1
def Yar4 : AC := .reg (Yar5 ++ [])
@[go_sem] def wYar4 := eReg Yar4.eq_1 rfl
def Yar6 : AC := .ret
@[go_sem] def wYar6 := eRet Yar6.eq_1
def Yar3 : AC := .seq Yar4 Yar6
@[go_sem] def wYar3 := eSeq Yar3.eq_1
def Yar0 : AC := .seq Yar1 Yar3
@[go_sem] def wYar0 := eSeq Yar0.eq_1
def FYar : Fn := ⟨[pos 0, pos 1], [.c (pos 4) true 3], Yar0⟩
def Yc2 : List Op := [⟨(some (pos 8)), none, (.alloc [.i .i64 0, .i .i64 0, .i .i64 0, .i .u64 0]), []⟩, ⟨(some (pos 9)), none, .mv, [(.c (.b false))]⟩]
@[go_sem] def wYc2 := eRun Yc2.eq_1
def Yc1 : AC := .reg (Yc2 ++ [])
@[go_sem] def wYc1 := eReg Yc1.eq_1 rfl
def Yc9 : List Stg := ([], [], none) :: []
@[go_sem] def wYc9 := eEnd Yc9.eq_1
def Yc8 : List Stg := ([], [], some ⟨20, [], ⟨none, none, (.store 3), [(.t (pos 10)), (.t (pos 35))]⟩, true⟩) :: Yc9
@[go_sem] def wYc8 := eSop Yc8.eq_1 rfl
def Yc7 : List Stg := ([], [], some ⟨18, [], ⟨(some (pos 35)), none, (.call (pos nYar)), [(.t (pos 25)), (.t (pos 34))]⟩, true⟩) :: Yc8
@[go_sem] def wYc7 := eScall Yc7.eq_1
def Yc6 : List Stg := ([], [⟨12, [], ⟨(some (pos 29)), none, (.load true 3), [(.t (pos 28))]⟩, false⟩, ⟨16, [], ⟨(some (pos 33)), none, (.load true 3), [(.t (pos 32))]⟩, false⟩], some ⟨17, [], ⟨(some (pos 34)), none, (.call (pos nYaq)), [(.t (pos 29)), (.t (pos 33))]⟩, true⟩) :: Yc7
@[go_sem] def wYc6 := eScall Yc6.eq_1
def Yc5 : List Stg := ([⟨0, [], ⟨(some (pos 17)), none, .mv, [(.t (pos 0))]⟩, false⟩, ⟨1, [], ⟨(some (pos 18)), none, .mv, [(.t (pos 2))]⟩, false⟩, ⟨2, [], ⟨(some (pos 19)), none, (.iaddrS 3), [(.t (pos 17)), (.t (pos 18))]⟩, false⟩, ⟨3, [], ⟨(some (pos 20)), none, (.load true 3), [(.t (pos 19))]⟩, false⟩, ⟨4, [], ⟨(some (pos 21)), none, .mv, [(.t (pos 0))]⟩, false⟩, ⟨5, [], ⟨(some (pos 22)), none, .mv, [(.t (pos 1))]⟩, false⟩, ⟨6, [], ⟨(some (pos 23)), none, (.iaddrS 3), [(.t (pos 21)), (.t (pos 22))]⟩, false⟩, ⟨7, [], ⟨(some (pos 24)), none, (.load true 3), [(.t (pos 23))]⟩, false⟩, ⟨9, [], ⟨(some (pos 26)), none, .mv, [(.t (pos 0))]⟩, false⟩, ⟨10, [], ⟨(some (pos 27)), none, .mv, [(.t (pos 3))]⟩, false⟩, ⟨11, [], ⟨(some (pos 28)), none, (.iaddrS 3), [(.t (pos 26)), (.t (pos 27))]⟩, false⟩, ⟨12, [], ⟨(some (pos 29)), none, (.load true 3), [(.t (pos 28))]⟩, false⟩, ⟨13, [], ⟨(some (pos 30)), none, .mv, [(.t (pos 0))]⟩, false⟩, ⟨14, [], ⟨(some (pos 31)), none, .mv, [(.t (pos 1))]⟩, false⟩, ⟨15, [], ⟨(some (pos 32)), none, (.iaddrS 3), [(.t (pos 30)), (.t (pos 31))]⟩, false⟩, ⟨16, [], ⟨(some (pos 33)), none, (.load true 3), [(.t (pos 32))]⟩, false⟩, ⟨19, [], ⟨(some (pos 10)), none, (.alloc [.i .i64 0, .i .i64 0, .i .i64 0]), []⟩, false⟩], [⟨3, [], ⟨(some (pos 20)), none, (.load true 3), [(.t (pos 19))]⟩, false⟩, ⟨7, [], ⟨(some (pos 24)), none, (.load true 3), [(.t (pos 23))]⟩, false⟩, ⟨12, [], ⟨(some (pos 29)), none, (.load true 3), [(.t (pos 28))]⟩, false⟩, ⟨16, [], ⟨(some (pos 33)), none, (.load true 3), [(.t (pos 32))]⟩, false⟩], some ⟨8, [], ⟨(some (pos 25)), none, (.call (pos nYaq)), [(.t (pos 20)), (.t (pos 24))]⟩, true⟩) :: Yc6
@[go_sem] def wYc5 := eScall Yc5.eq_1
def Yc4 : AC := .dreg Yc5
@[go_sem] def wYc4 := eDreg Yc4.eq_1
def Yc13 : List Op := [⟨(some (pos 36)), none, (.load true 3), [(.t (pos 10))]⟩, ⟨(some (pos 37)), none, (.build [.i .i64 0, .i .i64 0, .i .i64 0] []), []⟩, ⟨(some (pos 38)), none, (.bin .eql 3 .i), [(.t (pos 36)), (.t (pos 37))]⟩]
@[go_sem] def wYc13 := eRun Yc13.eq_1
def Yc12 : AC := .reg (Yc13 ++ [])
@[go_sem] def wYc12 := eReg Yc12.eq_1 rfl
def Yc17 : List Op := [⟨(some (pos 39)), none, (.build [.i .i64 0, .i .i64 0, .i .i64 0, .i .u64 0] []), []⟩, ⟨none, none, (.store 4), [(.t (pos 8)), (.t (pos 39))]⟩, ⟨(some (pos 9)), none, .mv, [(.c (.b false))]⟩]
@[go_sem] def wYc17 := eRun Yc17.eq_1
def Yc16 : AC := .reg (Yc17 ++ [])
@[go_sem] def wYc16 := eReg Yc16.eq_1 rfl
def Yc18 : AC := .ret
@[go_sem] def wYc18 := eRet Yc18.eq_1
def Yc15 : AC := .seq Yc16 Yc18
@[go_sem] def wYc15 := eSeq Yc15.eq_1
def Yc19 : AC := .skip
@[go_sem] def wYc19 := eSkip Yc19.eq_1
def Yc14 : AC := .cond (.t (pos 38)) Yc15 Yc19
@[go_sem] def wYc14 := eCond Yc14.eq_1
def Yc11 : AC := .seq Yc12 Yc14
@[go_sem] def wYc11 := eSeq Yc11.eq_1
def Yc22 : List Op := [⟨(some (pos 40)), none, (.load true 3), [(.t (pos 10))]⟩, ⟨(some (pos 41)), none, (.build [.i .i64 0, .i .i64 0, .i .i64 0, .i .u64 0] [(0, 3)]), [(.t (pos 40))]⟩, ⟨(some (pos 11)), none, (.alloc [.i .i64 0, .i .i64 0, .i .i64 0, .i .u64 0]), []⟩, ⟨none, none, (.store 4), [(.t (pos 11)), (.t (pos 41))]⟩]
@[go_sem] def wYc22 := eRun Yc22.eq_1
def Yc21 : AC := .reg (Yc22 ++ [])
@[go_sem] def wYc21 := eReg Yc21.eq_1 rfl
def Yc25 : List Op := [⟨(some (pos 12)), none, .mv, [(.c (.b false))]⟩, ⟨(some (pos 13)), none, .mv, [(.c (.b false))]⟩]
@[go_sem] def wYc25 := eRun Yc25.eq_1
def Yc24 : AC := .reg (Yc25 ++ [])
@[go_sem] def wYc24 := eReg Yc24.eq_1 rfl
def Yc29 : List Op := [⟨(some (pos 42)), none, .mv, [(.t (pos 0))]⟩, ⟨(some (pos 43)), none, (.len .l), [(.t (pos 42))]⟩, ⟨(some (pos 44)), none, .mv, [(.c (.i .i64 (0)))]⟩]
@[go_sem] def wYc29 := eRun Yc29.eq_1
def Yc28 : AC := .reg (Yc29 ++ [])
@[go_sem] def wYc28 := eReg Yc28.eq_1 rfl
def Yc34 : List Op := [⟨(some (pos 45)), none, (.bin .lss 0 .i), [(.t (pos 44)), (.t (pos 43))]⟩]
@[go_sem] def wYc34 := eRun Yc34.eq_1
def Yc33 : AC := .reg (Yc34 ++ [])
@[go_sem] def wYc33 := eReg Yc33.eq_1 rfl
def Yc37 : AC := .skip
@[go_sem] def wYc37 := eSkip Yc37.eq_1
def Yc38 : AC := .exit 0
@[go_sem] def wYc38 := eExit Yc38.eq_1
def Yc36 : AC := .cond (.t (pos 45)) Yc37 Yc38
@[go_sem] def wYc36 := eCond Yc36.eq_1
def Yc43 : List Op := [⟨(some (pos 46)), none, .mv, [(.t (pos 44))]⟩, ⟨(some (pos 47)), none, (.iaddrS 3), [(.t (pos 42)), (.t (pos 44))]⟩, ⟨(some (pos 48)), none, (.load true 3), [(.t (pos 47))]⟩, ⟨(some (pos 15)), none, (.alloc [.i .i64 0, .i .i64 0, .i .i64 0]), []⟩, ⟨(some (pos 14)), none, .mv, [(.t (pos 46))]⟩, ⟨none, none, (.store 3), [(.t (pos 15)), (.t (pos 48))]⟩]
@[go_sem] def wYc43 := eRun Yc43.eq_1
def Yc42 : AC := .reg (Yc43 ++ [])
@[go_sem] def wYc42 := eReg Yc42.eq_1 rfl
def Yc49 : List Stg := ([], [], none) :: []
@[go_sem] def wYc49 := eEnd Yc49.eq_1
def Yc48 : List Stg := ([], [], some ⟨8, [], ⟨(some (pos 16)), none, .mv, [(.t (pos 56))]⟩, true⟩) :: Yc49
@[go_sem] def wYc48 := eSop Yc48.eq_1 rfl
def Yc47 : List Stg := ([], [⟨0, [], ⟨(some (pos 49)), none, (.load true 3), [(.t (pos 10))]⟩, false⟩], some ⟨7, [], ⟨(some (pos 56)), none, (.call (pos nYas)), [(.t (pos 49)), (.t (pos 55))]⟩, true⟩) :: Yc48
@[go_sem] def wYc47 := eScall Yc47.eq_1
def Yc46 : List Stg := ([⟨0, [], ⟨(some (pos 49)), none, (.load true 3), [(.t (pos 10))]⟩, false⟩, ⟨1, [], ⟨(some (pos 50)), none, (.load true 3), [(.t (pos 15))]⟩, false⟩, ⟨2, [], ⟨(some (pos 51)), none, .mv, [(.t (pos 0))]⟩, false⟩, ⟨3, [], ⟨(some (pos 52)), none, .mv, [(.t (pos 1))]⟩, false⟩, ⟨4, [], ⟨(some (pos 53)), none, (.iaddrS 3), [(.t (pos 51)), (.t (pos 52))]⟩, false⟩, ⟨5, [], ⟨(some (pos 54)), none, (.load true 3), [(.t (pos 53))]⟩, false⟩], [⟨0, [], ⟨(some (pos 49)), none, (.load true 3), [(.t (pos 10))]⟩, false⟩, ⟨1, [], ⟨(some (pos 50)), none, (.load true 3), [(.t (pos 15))]⟩, false⟩, ⟨5, [], ⟨(some (pos 54)), none, (.load true 3), [(.t (pos 53))]⟩, false⟩], some ⟨6, [], ⟨(some (pos 55)), none, (.call (pos nYaq)), [(.t (pos 50)), (.t (pos 54))]⟩, true⟩) :: Yc47
@[go_sem] def wYc46 := eScall Yc46.eq_1
def Yc45 : AC := .dreg Yc46
@[go_sem] def wYc45 := eDreg Yc45.eq_1
def Yc53 : List Op := [⟨(some (pos 64)), none, .mv, [(.t (pos 16))]⟩, ⟨(some (pos 65)), none, (.bin .lss 0 .i), [(.t (pos 64)), (.c (.i .i64 (0)))]⟩, ⟨(some (pos 63)), none, .mv, [(.t (pos 65))]⟩]
@[go_sem] def wYc53 := eRun Yc53.eq_1
def Yc52 : AC := .reg (Yc53 ++ [])
@[go_sem] def wYc52 := eReg Yc52.eq_1 rfl
def Yc56 : List Op := [⟨(some (pos 12)), none, .mv, [(.c (.b true))]⟩]
@[go_sem] def wYc56 := eRun Yc56.eq_1
def Yc55 : AC := .reg (Yc56 ++ [])
@[go_sem] def wYc55 := eReg Yc55.eq_1 rfl
def Yc59 : List Op := [⟨(some (pos 67)), none, .mv, [(.t (pos 16))]⟩, ⟨(some (pos 68)), none, (.bin .gtr 0 .i), [(.t (pos 67)), (.c (.i .i64 (0)))]⟩, ⟨(some (pos 66)), none, .mv, [(.t (pos 68))]⟩]
@[go_sem] def wYc59 := eRun Yc59.eq_1
def Yc58 : AC := .reg (Yc59 ++ [])
@[go_sem] def wYc58 := eReg Yc58.eq_1 rfl
def Yc62 : List Op := [⟨(some (pos 13)), none, .mv, [(.c (.b true))]⟩]
@[go_sem] def wYc62 := eRun Yc62.eq_1
def Yc61 : AC := .reg (Yc62 ++ [])
@[go_sem] def wYc61 := eReg Yc61.eq_1 rfl
def Yc65 : List Stg := ([], [], none) :: []
@[go_sem] def wYc65 := eEnd Yc65.eq_1
def Yc64 : List Stg := ([⟨0, [], ⟨(some (pos 57)), none, (.faddr 3), [(.t (pos 11))]⟩, false⟩, ⟨1, [], ⟨(some (pos 58)), none, (.load false 1), [(.t (pos 57))]⟩, false⟩, ⟨2, [], ⟨(some (pos 59)), none, .mv, [(.t (pos 14))]⟩, false⟩, ⟨3, [], ⟨(some (pos 60)), none, (.bin .shl 0 .i), [(.c (.i .u64 (1))), (.t (pos 59))]⟩, false⟩, ⟨4, [], ⟨(some (pos 61)), none, (.bin .or 0 .i), [(.t (pos 58)), (.t (pos 60))]⟩, false⟩, ⟨5, [], ⟨(some (pos 62)), none, (.faddr 3), [(.t (pos 11))]⟩, false⟩], [⟨1, [], ⟨(some (pos 58)), none, (.load false 1), [(.t (pos 57))]⟩, false⟩], some ⟨6, [], ⟨none, none, (.store 1), [(.t (pos 62)), (.t (pos 61))]⟩, true⟩) :: Yc65
@[go_sem] def wYc64 := eSop Yc64.eq_1 rfl
def Yc63 : AC := .dreg Yc64
@[go_sem] def wYc63 := eDreg Yc63.eq_1
def Yc60 : AC := .cond (.t (pos 66)) Yc61 Yc63
@[go_sem] def wYc60 := eCond Yc60.eq_1
def Yc57 : AC := .seq Yc58 Yc60
@[go_sem] def wYc57 := eSeq Yc57.eq_1
def Yc54 : AC := .cond (.t (pos 63)) Yc55 Yc57
@[go_sem] def wYc54 := eCond Yc54.eq_1
def Yc51 : AC := .seq Yc52 Yc54
@[go_sem] def wYc51 := eSeq Yc51.eq_1
def Yc50 : AC := .block 2 Yc51
@[go_sem] def wYc50 := eBlock Yc50.eq_1
def Yc44 : AC := .seq Yc45 Yc50
@[go_sem] def wYc44 := eSeq Yc44.eq_1
def Yc41 : AC := .seq Yc42 Yc44
@[go_sem] def wYc41 := eSeq Yc41.eq_1
def Yc40 : AC := .block 1 Yc41
@[go_sem] def wYc40 := eBlock Yc40.eq_1
def Yc67 : List Op := [⟨(some (pos 69)), none, (.bin .add 0 .i), [(.t (pos 44)), (.c (.i .i64 (1)))]⟩, ⟨(some (pos 44)), none, .mv, [(.t (pos 69))]⟩]
@[go_sem] def wYc67 := eRun Yc67.eq_1
def Yc66 : AC := .reg (Yc67 ++ [])
@[go_sem] def wYc66 := eReg Yc66.eq_1 rfl
def Yc39 : AC := .seq Yc40 Yc66
@[go_sem] def wYc39 := eSeq Yc39.eq_1
def Yc35 : AC := .seq Yc36 Yc39
@[go_sem] def wYc35 := eSeq Yc35.eq_1
def Yc32 : AC := .seq Yc33 Yc35
@[go_sem] def wYc32 := eSeq Yc32.eq_1
def Yc31 : AC := .loop Yc32
def Yc30 : AC := .block 0 Yc31
@[go_sem] def wYc30 := eBlock Yc30.eq_1
def Yc27 : AC := .seq Yc28 Yc30
@[go_sem] def wYc27 := eSeq Yc27.eq_1
def Yc71 : List Op := [⟨(some (pos 70)), none, .mv, [(.t (pos 13))]⟩]
@[go_sem] def wYc71 := eRun Yc71.eq_1
def Yc70 : AC := .reg (Yc71 ++ [])
@[go_sem] def wYc70 := eReg Yc70.eq_1 rfl
def Yc76 : List Op := [⟨(some (pos 74)), none, (.faddr 0), [(.t (pos 11))]⟩, ⟨none, none, (.store 3), [(.t (pos 74)), (.t (pos 73))]⟩]
@[go_sem] def wYc76 := eRun Yc76.eq_1
def Yc75 : List Op := Yc76 ++ []
@[go_sem] def wYc75 := eCut Yc75.eq_1 rfl
def Yc74 : List Op := ⟨(some (pos 73)), none, (.call (pos nYaq)), [(.t (pos 71)), (.t (pos 72))]⟩ :: Yc75
@[go_sem] def wYc74 := eCall Yc74.eq_1
def Yc77 : List Op := [⟨(some (pos 71)), none, (.build [.i .i64 0, .i .i64 0, .i .i64 0] []), []⟩, ⟨(some (pos 72)), none, (.load true 3), [(.t (pos 10))]⟩]
@[go_sem] def wYc77 := eRun Yc77.eq_1
def Yc73 : AC := .reg (Yc77 ++ Yc74)
@[go_sem] def wYc73 := eReg Yc73.eq_1 rfl
def Yc78 : AC := .skip
@[go_sem] def wYc78 := eSkip Yc78.eq_1
def Yc72 : AC := .cond (.t (pos 70)) Yc73 Yc78
@[go_sem] def wYc72 := eCond Yc72.eq_1
def Yc69 : AC := .seq Yc70 Yc72
@[go_sem] def wYc69 := eSeq Yc69.eq_1
def Yc81 : List Op := [⟨(some (pos 75)), none, (.load true 4), [(.t (pos 11))]⟩, ⟨(some (pos 76)), none, .mv, [(.t (pos 12))]⟩, ⟨(some (pos 77)), none, .mv, [(.t (pos 13))]⟩, ⟨(some (pos 78)), none, (.bin .neq 0 .b), [(.t (pos 76)), (.t (pos 77))]⟩, ⟨none, none, (.store 4), [(.t (pos 8)), (.t (pos 75))]⟩, ⟨(some (pos 9)), none, .mv, [(.t (pos 78))]⟩]
@[go_sem] def wYc81 := eRun Yc81.eq_1
def Yc80 : AC := .reg (Yc81 ++ [])
@[go_sem] def wYc80 := eReg Yc80.eq_1 rfl
def Yc82 : AC := .ret
@[go_sem] def wYc82 := eRet Yc82.eq_1
def Yc79 : AC := .seq Yc80 Yc82
@[go_sem] def wYc79 := eSeq Yc79.eq_1
def Yc68 : AC := .seq Yc69 Yc79
@[go_sem] def wYc68 := eSeq Yc68.eq_1
def Yc26 : AC := .seq Yc27 Yc68
@[go_sem] def wYc26 := eSeq Yc26.eq_1
def Yc23 : AC := .seq Yc24 Yc26
@[go_sem] def wYc23 := eSeq Yc23.eq_1
def Yc20 : AC := .seq Yc21 Yc23
@[go_sem] def wYc20 := eSeq Yc20.eq_1
def Yc10 : AC := .seq Yc11 Yc20
@[go_sem] def wYc10 := eSeq Yc10.eq_1
def Yc3 : AC := .seq Yc4 Yc10
@[go_sem] def wYc3 := eSeq Yc3.eq_1
def Yc0 : AC := .seq Yc1 Yc3
@[go_sem] def wYc0 := eSeq Yc0.eq_1
def FYc : Fn := ⟨[pos 0, pos 1, pos 2, pos 3], [.c (pos 8) true 4, .t (pos 9)], Yc0⟩
end
noncomputable section
section
variable {h : Tr Blk} {nx : Pos} {b : Pos} {k : IntKind}
@[go_sem] theorem ia0 : opv (.iaddrA 3 1) (some [.p b 0, .i k 0]) h nx = .ok (.p b 0) h nx := by rfl
@[go_sem] theorem ia1 : opv (.iaddrA 3 1) (some [.p b 0, .i k 1]) h nx = .ok (.p b 1) h nx := by rfl
@[go_sem] theorem ia2 : opv (.iaddrA 3 1) (some [.p b 0, .i k 2]) h nx = .ok (.p b 2) h nx := by rfl
end
def v3 (a b c : Int) : AV := .a [.i .i64 a, .i .i64 b, .i .i64 c]
def w64 (n : Int) : Int := IntKind.i64.wrap n
section
variable {C : Ctx} {h : Tr Blk} {nx : Pos} {K : AV → Tr Blk → Pos → Prop}
theorem sub_spec (hO : Own C nYaq FYaq) (a b c d e f : Int) (hK : ∀ h' nx', Grow h nx h' nx' → K (v3 (w64 (a - d)) (w64 (b - e)) (w64 (c - f))) h' nx') : Comes C (.f (pos nYaq) []) [v3 a b c, v3 d e f] h nx K := by
  refine hO.comes (T := (Tr.lf.set (pos 0) (v3 a b c)).set (pos 1) (v3 d e f)) rfl ?_
  show wp C Yaq0 _ _ _ _
  simp only [FYaq, go_sem, v3, Nat.reduceEqDiff, reduceIte]
  exact hK _ _ ((((Grow.refl h nx).new _).new _).new _)
theorem dot_spec (hO : Own C nYas FYas) (a b c d e f : Int) (hK : ∀ h' nx', Grow h nx h' nx' → K (.i .i64 (w64 (w64 (w64 (a * d) + w64 (b * e)) + w64 (c * f)))) h' nx') : Comes C (.f (pos nYas) []) [v3 a b c, v3 d e f] h nx K := by
  refine hO.comes (T := (Tr.lf.set (pos 0) (v3 a b c)).set (pos 1) (v3 d e f)) rfl ?_
  show wp C Yas0 _ _ _ _
  simp only [FYas, go_sem, v3, Nat.reduceEqDiff, reduceIte]
  exact hK _ _ (((Grow.refl h nx).new _).new _)
theorem cross_spec (hO : Own C nYar FYar) (a b c d e f : Int)
    (hK : ∀ h' nx', Grow h nx h' nx' → K (v3 (w64 (w64 (b * f) - w64 (c * e))) (w64 (w64 (c * d) - w64 (a * f))) (w64 (w64 (a * e) - w64 (b * d)))) h' nx') : Comes C (.f (pos nYar) []) [v3 a b c, v3 d e f] h nx K := by
  refine hO.comes (T := (Tr.lf.set (pos 0) (v3 a b c)).set (pos 1) (v3 d e f)) rfl ?_
  show wp C Yar0 _ _ _ _
  simp only [FYar, go_sem, v3, Nat.reduceEqDiff, reduceIte]
  exact hK _ _ ((((Grow.refl h nx).new _).new _).new _)
end
end
noncomputable section
def rz (n : Int) : RQ := ints (ZI.ofInt n)
def ZI.val (a : ZI) : Int := bif a.neg then -(a.mag : Int) else (a.mag : Int)
def ZCan (a : ZI) : Prop := a.neg = true → a.mag ≠ 0
theorem val_ofInt (n : Int) : (ZI.ofInt n).val = n := by
  cases n with
  | ofNat m => rfl
  | negSucc m => show -((m + 1 : Nat) : Int) = _; omega
theorem can_ofInt (n : Int) : ZCan (ZI.ofInt n) := by
  cases n with
  | ofNat m => intro h; cases h
  | negSucc m => intro _; show m + 1 ≠ 0; omega
theorem ofInt_val {a : ZI} (h : ZCan a) : ZI.ofInt a.val = a := by
  obtain ⟨s, m⟩ := a
  cases s with
  | false => rfl
  | true =>
    have : m ≠ 0 := h rfl
    cases m with
    | zero => exact absurd rfl this
    | succ k =>
      show ZI.ofInt (-((k + 1 : Nat) : Int)) = _
      rfl
theorem can_of (q : Bool) (m : Nat) : ZCan (ZI.of q m) := by
  intro h e
  unfold ZI.of at h e
  simp only at h e
  subst e
  cases q <;> cases h
theorem val_of (q : Bool) (m : Nat) : (ZI.of q m).val = bif q then -(m : Int) else (m : Int) := by
  unfold ZI.of ZI.val
  cases q with
  | false => rfl
  | true =>
    cases m with
    | zero => rfl
    | succ k => rfl
theorem add_can (a b : ZI) : ZCan (ZI.add a b) := by
  unfold ZI.add
  cases a.neg == b.neg with
  | true => exact can_of _ _
  | false => cases Nat.ble b.mag a.mag <;> exact can_of _ _
theorem add_val (a b : ZI) : (ZI.add a b).val = a.val + b.val := by
  obtain ⟨s, m⟩ := a
  obtain ⟨t, n⟩ := b
  unfold ZI.add
  cases hle : Nat.ble n m with
  | true =>
    have h := Nat.le_of_ble_eq_true hle
    cases s <;> cases t <;> (simp only [beq_self_eq_true, cond_true, cond_false, hle, show (false == true) = false from rfl, show (true == false) = false from rfl]; rw [val_of]; simp only [ZI.val, cond_true, cond_false]; omega)
  | false =>
    have h : m < n := by
      apply Classical.byContradiction
      intro hc
      have := Nat.ble_eq_true_of_le (Nat.not_lt.1 hc)
      rw [hle] at this; cases this
    cases s <;> cases t <;> (simp only [beq_self_eq_true, cond_true, cond_false, hle, show (false == true) = false from rfl, show (true == false) = false from rfl]; rw [val_of]; simp only [ZI.val, cond_true, cond_false]; omega)
theorem add_ofInt (a b : Int) : ZI.add (ZI.ofInt a) (ZI.ofInt b) = ZI.ofInt (a + b) := by
  rw [← ofInt_val (add_can (ZI.ofInt a) (ZI.ofInt b)), add_val, val_ofInt, val_ofInt]
theorem neg_val (a : ZI) : (ZI.neg' a).val = -a.val := by
  obtain ⟨s, m⟩ := a
  unfold ZI.neg'
  rw [val_of]
  cases s <;> simp [ZI.val]
theorem neg_ofInt (a : Int) : ZI.neg' (ZI.ofInt a) = ZI.ofInt (-a) := by
  have h := ofInt_val (a := ZI.neg' (ZI.ofInt a)) (can_of _ _)
  rw [← h, neg_val, val_ofInt]
def iabs (n : Int) : Int := if n < 0 then -n else n
theorem abs_ofInt (a : Int) : ZI.abs (ZI.ofInt a) = ZI.ofInt (iabs a) := by
  cases a with
  | ofNat m =>
    have : iabs (Int.ofNat m) = Int.ofNat m := by unfold iabs; rw [if_neg (by simp)]
    rw [this]; rfl
  | negSucc m =>
    have : iabs (Int.negSucc m) = Int.ofNat (m + 1) := by unfold iabs; rw [if_pos (by omega)]; rfl
    rw [this]; rfl
def icmp (a b : Int) : Int := if a < b then -1 else if b < a then 1 else 0
theorem cmp_ofInt (a b : Int) : ZI.cmp (ZI.ofInt a) (ZI.ofInt b) = icmp a b := by
  cases a with
  | ofNat m =>
    cases b with
    | ofNat n =>
      show ordB m n = _
      rw [ordB_eq]; unfold ordN icmp
      by_cases h1 : m < n
      · rw [if_pos h1, if_pos (by simp; omega)]
      · by_cases h2 : n < m
        · rw [if_neg h1, if_pos h2, if_neg (by simp; omega), if_pos (by simp; omega)]
        · rw [if_neg h1, if_neg h2, if_neg (by simp; omega), if_neg (by simp; omega)]
    | negSucc n =>
      show (1 : Int) = _
      unfold icmp
      rw [if_neg (by simp; omega), if_pos (by simp; omega)]
  | negSucc m =>
    cases b with
    | ofNat n =>
      show (-1 : Int) = _
      unfold icmp
      rw [if_pos (by simp; omega)]
    | negSucc n =>
      show ordB (n + 1) (m + 1) = _
      rw [ordB_eq]; unfold ordN icmp
      by_cases h1 : n < m
      · rw [if_pos (by omega), if_pos (by omega)]
      · by_cases h2 : m < n
        · rw [if_neg (by omega), if_pos (by omega), if_neg (by omega), if_pos (by omega)]
        · rw [if_neg (by omega), if_neg (by omega), if_neg (by omega), if_neg (by omega)]
theorem rz_add (a b : Int) : RQ.add (rz a) (rz b) = rz (a + b) := by
  show ints (ZI.add (ZI.ofInt a) (ZI.ofInt b)) = _
  rw [add_ofInt]; rfl
theorem rz_neg (a : Int) : RQ.neg (rz a) = rz (-a) := by
  show (⟨ZI.neg' (ZI.ofInt a), ⟨false, 0⟩⟩ : RQ) = _
  rw [neg_ofInt]; rfl
theorem rz_sub (a b : Int) : RQ.sub (rz a) (rz b) = rz (a - b) := by
  unfold RQ.sub
  rw [rz_neg, rz_add, Int.sub_eq_add_neg]
theorem rz_abs (a : Int) : RQ.abs (rz a) = rz (iabs a) := by
  show (⟨ZI.abs (ZI.ofInt a), ⟨false, 0⟩⟩ : RQ) = _
  rw [abs_ofInt]; rfl
theorem rz_cmp (a b : Int) : RQ.cmp (rz a) (rz b) = icmp a b := cmp_ofInt a b
def imax (a b : Int) : Int := if a < b then b else a
theorem rz_max (a b : Int) : RQ.max (rz a) (rz b) = rz (imax a b) := by
  unfold RQ.max
  rw [rz_cmp, ilt_eq]
  unfold icmp imax
  by_cases h : a < b
  · rw [if_neg (by omega), if_pos h, if_pos h]; rfl
  · by_cases h2 : b < a
    · rw [if_pos h2, if_neg h]; rfl
    · rw [if_neg h2, if_neg h, if_neg h]; rfl
end
end Go.AR
set_option maxRecDepth 1000000000
namespace Go.AR
open Go.Proofs
noncomputable section
theorem wr1 : IntKind.i64.wrap (0 + 1) = 1 := by decide
theorem wr2 : IntKind.i64.wrap (1 + 1) = 2 := by decide
theorem wr3 : IntKind.i64.wrap (2 + 1) = 3 := by decide
theorem lt03 : decide ((0 : Int) < 3) = true := by decide
theorem lt13 : decide ((1 : Int) < 3) = true := by decide
theorem lt23 : decide ((2 : Int) < 3) = true := by decide
theorem lt33 : decide ((3 : Int) < 3) = false := by decide
section
variable {h : Tr Blk} {nx : Pos} {k : IntKind} {a b c : AV} {p : Pos}
@[go_sem] theorem ix0 : opv (.idxA 3 1 false) (some [.a [a, b, c], .i k 0]) h nx = .ok a h nx := by rfl
@[go_sem] theorem ix1 : opv (.idxA 3 1 false) (some [.a [a, b, c], .i k 1]) h nx = .ok b h nx := by rfl
@[go_sem] theorem ix2 : opv (.idxA 3 1 false) (some [.a [a, b, c], .i k 2]) h nx = .ok c h nx := by rfl
@[go_sem] theorem iv0 : opv (.iaddrA 3 4) (some [.p p 0, .i k 0]) h nx = .ok (.p p 0) h nx := by rfl
@[go_sem] theorem iv1 : opv (.iaddrA 3 4) (some [.p p 0, .i k 1]) h nx = .ok (.p p 4) h nx := by rfl
@[go_sem] theorem iv2 : opv (.iaddrA 3 4) (some [.p p 0, .i k 2]) h nx = .ok (.p p 8) h nx := by rfl
end
def sml (n : Int) : Prop := -1000000000 ≤ n ∧ n ≤ 1000000000
def qc (n : Int) : List AV := [.b (ZI.ofInt n).neg, .g (ZI.ofInt n).mag, .b false, .g 0]
theorem qv_rz (n : Int) : qv (rz n) = .a (qc n) := rfl
def vv (a b c : Int) : AV := .a (qc a ++ (qc b ++ qc c))
section
variable {C : Ctx} {h h' : Tr Blk} {nx : Pos} {K : AV → Tr Blk → Pos → Prop}
theorem Of_spec (hR : RatOrc C) (hO : Own C nYp FYp) {a b c : Int} (ha : sml a) (hb : sml b) (hc : sml c) (hK : ∀ h' nx', Grow h nx h' nx' → K (vv a b c) h' nx') : Comes C (.f (pos nYp) []) [v3 a b c] h nx K := by
  refine hO.comes (T := (Tr.lf.set (pos 0) (v3 a b c))) rfl ?_
  show wp C Yp0 _ _ _ _
  simp only [FYp, go_sem, v3, Nat.reduceEqDiff, reduceIte]
  refine wp_unroll ?_
  simp only [FYp, go_sem, v3, lt03, Nat.reduceEqDiff, reduceIte]
  refine k_from hR (by unfold sml at ha; omega) (by unfold sml at ha; omega) ?_
  simp only [go_sem, qv, ints, wr1, Nat.reduceEqDiff, reduceIte]
  refine wp_unroll ?_
  simp only [go_sem, v3, lt13, Nat.reduceEqDiff, reduceIte]
  refine k_from hR (by unfold sml at hb; omega) (by unfold sml at hb; omega) ?_
  simp only [go_sem, qv, ints, wr2, Nat.reduceEqDiff, reduceIte]
  refine wp_unroll ?_
  simp only [go_sem, v3, lt23, Nat.reduceEqDiff, reduceIte]
  refine k_from hR (by unfold sml at hc; omega) (by unfold sml at hc; omega) ?_
  simp only [go_sem, qv, ints, wr3, Nat.reduceEqDiff, reduceIte]
  refine wp_unroll ?_
  have n1 := lt_s1 nx
  have n2 := lt_s2 nx
  have n3 := lt_s3 nx
  simp only [go_sem, lt33, Nat.reduceEqDiff, reduceIte]
  refine hK _ _ ?_
  repeat (refine Grow.set ?_ (by omega) _)
  exact ⟨by omega, fun _ _ => rfl⟩
theorem sml_mag {n : Int} (h : sml n) : (ZI.ofInt n).mag ≤ 1000000000 := by
  unfold sml at h
  cases n with
  | ofNat m => show m ≤ _; have : (Int.ofNat m) = (m : Int) := rfl; omega
  | negSucc m => show m + 1 ≤ _; omega
set_option exponentiation.threshold 5000 in
theorem sml_tq {n : Int} (h : sml n) : tq (rz n) = true := by
  have h1 : (1000000000 : Nat) ≤ 2 ^ 1000 := by decide +kernel
  have h2 : Nat.ble (ZI.ofInt n).mag (2 ^ 1000) = true := Nat.ble_eq_true_of_le (Nat.le_trans (sml_mag h) h1)
  unfold tq
  rw [Bool.and_eq_true]
  exact ⟨h2, Nat.ble_eq_true_of_le (Nat.zero_le _)⟩
def qn (n : Int) : AV := .a (qc n)
theorem f_abs (hR : RatOrc C) {a : Int} (ha : sml a) (hk : K (qn (iabs a)) h nx) : Comes C (.f (pos nYag) []) [qn a] h nx K := k_abs (q := rz a) hR rfl (sml_tq ha) (by rw [rz_abs]; exact hk)
theorem f_max (hR : RatOrc C) {a b : Int} (ha : sml a) (hb : sml b) (hk : K (qn (imax a b)) h nx) : Comes C (.f (pos nYaa) []) [qn a, qn b] h nx K := k_max (q := rz a) (r := rz b) hR rfl rfl (sml_tq ha) (sml_tq hb) (by rw [rz_max]; exact hk)
theorem f_cmp (hR : RatOrc C) {a b : Int} (ha : sml a) (hb : sml b) (hk : K (.i .i64 (icmp a b)) h nx) : Comes C (.f (pos nYr) []) [qn a, qn b] h nx K := k_cmp (q := rz a) (r := rz b) hR rfl rfl (sml_tq ha) (sml_tq hb) (by rw [rz_cmp]; exact hk)
theorem f_add (hR : RatOrc C) {a b : Int} (ha : sml a) (hb : sml b) (hk : K (qn (a + b)) h nx) : Comes C (.f (pos nYn) []) [qn a, qn b] h nx K := k_add (q := rz a) (r := rz b) hR rfl rfl (sml_tq ha) (sml_tq hb) rfl (by rw [rz_add]; exact hk)
theorem f_sub (hR : RatOrc C) {a b : Int} (ha : sml a) (hb : sml b) (hk : K (qn (a - b)) h nx) : Comes C (.f (pos nYah) []) [qn a, qn b] h nx K := k_sub (q := rz a) (r := rz b) hR rfl rfl (sml_tq ha) (sml_tq hb) rfl (by rw [rz_sub]; exact hk)
theorem f_from (hR : RatOrc C) {n : Int} (h : sml n) (hk : K (qn n) h' nx) : Comes C (.f (pos nYai) []) [.i .i64 n] h' nx K := k_from hR (by unfold sml at h; omega) (by unfold sml at h; omega) hk
theorem each_spec (hO : Own C nYq FYq) {f : AV} {x1 x2 x3 x4 x5 x6 x7 x8 x9 x10 x11 x12 y1 y2 y3 y4 y5 y6 y7 y8 y9 y10 y11 y12 : AV} {r1 r2 r3 : Int}
    (f1 : ∀ h nx (K : AV → Tr Blk → Pos → Prop), K (qn r1) h nx → Comes C f [.a [x1, x2, x3, x4], .a [y1, y2, y3, y4]] h nx K)
    (f2 : ∀ h nx (K : AV → Tr Blk → Pos → Prop), K (qn r2) h nx → Comes C f [.a [x5, x6, x7, x8], .a [y5, y6, y7, y8]] h nx K)
    (f3 : ∀ h nx (K : AV → Tr Blk → Pos → Prop), K (qn r3) h nx → Comes C f [.a [x9, x10, x11, x12], .a [y9, y10, y11, y12]] h nx K)
    (hK : ∀ h' nx', Grow h nx h' nx' → K (vv r1 r2 r3) h' nx') : Comes C (.f (pos nYq) []) [.a [x1, x2, x3, x4, x5, x6, x7, x8, x9, x10, x11, x12], .a [y1, y2, y3, y4, y5, y6, y7, y8, y9, y10, y11, y12], f] h nx K := by
  refine hO.comes (T := (((Tr.lf.set (pos 0) (.a [x1, x2, x3, x4, x5, x6, x7, x8, x9, x10, x11, x12])).set (pos 1) (.a [y1, y2, y3, y4, y5, y6, y7, y8, y9, y10, y11, y12])).set (pos 2) f)) rfl ?_
  show wp C Yq0 _ _ _ _
  have n1 := lt_s1 nx
  have n2 := lt_s2 nx
  have n3 := lt_s3 nx
  have n4 := lt_s4 nx
  simp only [FYq, go_sem, Nat.reduceEqDiff, reduceIte]
  refine wp_unroll ?_
  simp only [go_sem, lt03, Nat.reduceEqDiff, reduceIte]
  refine f1 _ _ _ ?_
  simp only [go_sem, qn, qc, wr1, Nat.reduceEqDiff, reduceIte]
  refine wp_unroll ?_
  simp only [go_sem, lt13, Nat.reduceEqDiff, reduceIte]
  refine f2 _ _ _ ?_
  simp only [go_sem, qn, qc, wr2, Nat.reduceEqDiff, reduceIte]
  refine wp_unroll ?_
  simp only [go_sem, lt23, Nat.reduceEqDiff, reduceIte]
  refine f3 _ _ _ ?_
  simp only [go_sem, qn, qc, wr3, Nat.reduceEqDiff, reduceIte]
  refine wp_unroll ?_
  simp only [go_sem, lt33, Nat.reduceEqDiff, reduceIte]
  refine hK _ _ ?_
  repeat (refine Grow.set ?_ (by omega) _)
  exact ⟨by omega, fun _ _ => rfl⟩
theorem VAdd_spec (hR : RatOrc C) (hE : Own C nYq FYq) (hO : Own C nYal FYal) {a b c d e i : Int} (ha : sml a) (hb : sml b) (hc : sml c) (hd : sml d) (he : sml e) (hi : sml i)
    (hK : ∀ h' nx', Grow h nx h' nx' → K (vv (a + d) (b + e) (c + i)) h' nx') : Comes C (.f (pos nYal) []) [vv a b c, vv d e i] h nx K := by
  refine hO.comes (T := ((Tr.lf.set (pos 0) (vv a b c)).set (pos 1) (vv d e i))) rfl ?_
  show wp C Yal0 _ _ _ _
  have n1 := lt_s1 nx
  have n2 := lt_s2 nx
  have n3 := lt_s3 nx
  simp only [FYal, go_sem, vv, qc, List.cons_append, List.nil_append, Nat.reduceEqDiff, reduceIte]
  refine each_spec hE (r1 := a + d) (r2 := b + e) (r3 := c + i) (fun h nx K hk => f_add hR ha hd hk) (fun h nx K hk => f_add hR hb he hk) (fun h nx K hk => f_add hR hc hi hk) (fun h' nx' hgr => ?_)
  have c4 : h'.get nx.succ.succ = _ := (hgr.get nx.succ.succ (lt_s1 _)).trans (Tr.get_set_same _ _ _)
  simp only [go_sem, vv, qc, c4, List.cons_append, List.nil_append, Nat.reduceEqDiff, reduceIte]
  refine hK _ _ ?_
  repeat (refine Grow.set ?_ (by omega) _)
  refine Grow.trans ?_ hgr
  repeat (refine Grow.set ?_ (by omega) _)
  exact ⟨by omega, fun _ _ => rfl⟩
end
end
end Go.AR
