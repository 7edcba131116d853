import Derived.Test.YtjchghbmniifgaaGreatDoorProg
import Derived.Shelf.Strings.Repeat
import Derived.Shelf.Strings.OnBuilder
import Derived.Shelf.Strings.Cut
import Derived.Shelf.Strconv.Itoa3
import Derived.Shelf.Pu.ParseUintPublic10
import Derived.Shelf.GgClosure.StringsIndexFuncTop
import Derived.Shelf.Spec.TrailingZeros
import Derived.Ground.NamesProg
import Derived.Ground.MpProg
import Derived.Ground.GgwProg
import Derived.Ground.Names7Prog
import GoSem.Core.Lib
import Derived.CallsIn
import Derived.Deep.MidRow
import Derived.Deep.QuietTactic
import Derived.Laws.StructEq
import Derived.Laws.Cover3
import Derived.ChangeKeysEq
set_option linter.unusedVariables false
set_option linter.unusedSimpArgs false
set_option linter.unusedSectionVars false
set_option linter.constructorNameAsVariable false
set_option linter.defProp false
set_option linter.unnecessarySimpa false
set_option autoImplicit false
namespace Go.Proofs
open Go.Shelf Go.RowKit
def Tryz.lRepeat_ren : Go.Shelf.Ren := ⟨fun | 105 => 124 | 212 => 161 | 99 => 162 | 165 => 163 | 166 => 164 | 170 => 165 | 169 => 166 | 263 => 200 | 264 => 201 | 206 => 190 | 240 => 202 | 241 => 203 | 276 => 252 | 277 => 253 | n => n, fun | 9 => 9 | 3 => 3 | 4 => 4 | 20 => 20 | 0 => 0 | 46 => 186 | 109 => 260 | 5 => 5 | 72 => 266 | 76 => 268 | 51 => 184 | 146 => 312 | 53 => 185 | 148 => 314 | 70 => 263 | 37 => 264 | 75 => 256 | 127 => 316 | 164 => 364 | 80 => 160 | n => n, fun | n => n⟩
theorem Tryz.lRepeat : Go.Proofs.Lays.n105 Tryz.prog Tryz.lRepeat_ren where
  mixed := by kernel_rfl
  f99 := Tryz.func162.trans (congrArg some (by kernel_rfl))
  f105 := Tryz.func124.trans (congrArg some (by kernel_rfl))
  f165 := Tryz.func163.trans (congrArg some (by kernel_rfl))
  f166 := Tryz.func164.trans (congrArg some (by kernel_rfl))
  f169 := Tryz.func166.trans (congrArg some (by kernel_rfl))
  f170 := Tryz.func165.trans (congrArg some (by kernel_rfl))
  f206 := Tryz.func190.trans (congrArg some (by kernel_rfl))
  f212 := Tryz.func161.trans (congrArg some (by kernel_rfl))
  f240 := Tryz.func202.trans (congrArg some (by kernel_rfl))
  f241 := Tryz.func203.trans (congrArg some (by kernel_rfl))
  f263 := Tryz.func200.trans (congrArg some (by kernel_rfl))
  f264 := Tryz.func201.trans (congrArg some (by kernel_rfl))
  f276 := Tryz.func252.trans (congrArg some (by kernel_rfl))
  f277 := Tryz.func253.trans (congrArg some (by kernel_rfl))
  t0 := Tryz.underlying0
  a0 := Tryz.isAgg0
  z0 := Tryz.sizeOf0
  v0 := Tryz.zeroValue0
  t3 := Tryz.underlying3
  a3 := Tryz.isAgg3
  z3 := Tryz.sizeOf3
  v3 := Tryz.zeroValue3
  t4 := Tryz.underlying4
  a4 := Tryz.isAgg4
  z4 := Tryz.sizeOf4
  v4 := Tryz.zeroValue4
  t5 := Tryz.underlying5
  a5 := Tryz.isAgg5
  z5 := Tryz.sizeOf5
  v5 := Tryz.zeroValue5
  t9 := Tryz.underlying9
  a9 := Tryz.isAgg9
  z9 := Tryz.sizeOf9
  v9 := Tryz.zeroValue9
  t20 := Tryz.underlying20
  a20 := Tryz.isAgg20
  z20 := Tryz.sizeOf20
  v20 := Tryz.zeroValue20
  t37 := Tryz.underlying264
  a37 := Tryz.isAgg264
  z37 := Tryz.sizeOf264
  v37 := Tryz.zeroValue264
  t46 := Tryz.underlying186
  a46 := Tryz.isAgg186
  z46 := Tryz.sizeOf186
  v46 := Tryz.zeroValue186
  t51 := Tryz.underlying184
  a51 := Tryz.isAgg184
  z51 := Tryz.sizeOf184
  v51 := Tryz.zeroValue184
  t53 := Tryz.underlying185
  a53 := Tryz.isAgg185
  z53 := Tryz.sizeOf185
  v53 := Tryz.zeroValue185
  t70 := Tryz.underlying263
  a70 := Tryz.isAgg263
  z70 := Tryz.sizeOf263
  v70 := Tryz.zeroValue263
  t72 := Tryz.underlying266
  a72 := Tryz.isAgg266
  z72 := Tryz.sizeOf266
  v72 := Tryz.zeroValue266
  t75 := Tryz.underlying256
  a75 := Tryz.isAgg256
  z75 := Tryz.sizeOf256
  v75 := Tryz.zeroValue256
  t76 := Tryz.underlying268
  a76 := Tryz.isAgg268
  z76 := Tryz.sizeOf268
  v76 := Tryz.zeroValue268
  t109 := Tryz.underlying260
  a109 := Tryz.isAgg260
  z109 := Tryz.sizeOf260
  v109 := Tryz.zeroValue260
  t127 := Tryz.underlying316
  a127 := Tryz.isAgg316
  z127 := Tryz.sizeOf316
  v127 := Tryz.zeroValue316
  t146 := Tryz.underlying312
  a146 := Tryz.isAgg312
  z146 := Tryz.sizeOf312
  v146 := Tryz.zeroValue312
  t148 := Tryz.underlying314
  a148 := Tryz.isAgg314
  z148 := Tryz.sizeOf314
  v148 := Tryz.zeroValue314
  t164 := Tryz.underlying364
  a164 := Tryz.isAgg364
  z164 := Tryz.sizeOf364
  v164 := Tryz.zeroValue364
def Tryz.lJoin_ren : Go.Shelf.Ren := ⟨fun | 156 => 126 | 165 => 163 | 166 => 164 | 169 => 166 | 240 => 202 | 241 => 203 | 276 => 252 | 277 => 253 | n => n, fun | 31 => 210 | 9 => 9 | 3 => 3 | 4 => 4 | 0 => 0 | 20 => 20 | 72 => 266 | 76 => 268 | 70 => 263 | 37 => 264 | 75 => 256 | 127 => 316 | 164 => 364 | 5 => 5 | 80 => 160 | n => n, fun | n => n⟩
theorem Tryz.lJoin : Go.Proofs.Lays.n156 Tryz.prog Tryz.lJoin_ren where
  mixed := by kernel_rfl
  f156 := Tryz.func126.trans (congrArg some (by kernel_rfl))
  f165 := Tryz.func163.trans (congrArg some (by kernel_rfl))
  f166 := Tryz.func164.trans (congrArg some (by kernel_rfl))
  f169 := Tryz.func166.trans (congrArg some (by kernel_rfl))
  f240 := Tryz.func202.trans (congrArg some (by kernel_rfl))
  f241 := Tryz.func203.trans (congrArg some (by kernel_rfl))
  f276 := Tryz.func252.trans (congrArg some (by kernel_rfl))
  f277 := Tryz.func253.trans (congrArg some (by kernel_rfl))
  t0 := Tryz.underlying0
  a0 := Tryz.isAgg0
  z0 := Tryz.sizeOf0
  v0 := Tryz.zeroValue0
  t3 := Tryz.underlying3
  a3 := Tryz.isAgg3
  z3 := Tryz.sizeOf3
  v3 := Tryz.zeroValue3
  t4 := Tryz.underlying4
  a4 := Tryz.isAgg4
  z4 := Tryz.sizeOf4
  v4 := Tryz.zeroValue4
  t9 := Tryz.underlying9
  a9 := Tryz.isAgg9
  z9 := Tryz.sizeOf9
  v9 := Tryz.zeroValue9
  t20 := Tryz.underlying20
  a20 := Tryz.isAgg20
  z20 := Tryz.sizeOf20
  v20 := Tryz.zeroValue20
  t31 := Tryz.underlying210
  a31 := Tryz.isAgg210
  z31 := Tryz.sizeOf210
  v31 := Tryz.zeroValue210
  t37 := Tryz.underlying264
  a37 := Tryz.isAgg264
  z37 := Tryz.sizeOf264
  v37 := Tryz.zeroValue264
  t70 := Tryz.underlying263
  a70 := Tryz.isAgg263
  z70 := Tryz.sizeOf263
  v70 := Tryz.zeroValue263
  t72 := Tryz.underlying266
  a72 := Tryz.isAgg266
  z72 := Tryz.sizeOf266
  v72 := Tryz.zeroValue266
  t75 := Tryz.underlying256
  a75 := Tryz.isAgg256
  z75 := Tryz.sizeOf256
  v75 := Tryz.zeroValue256
  t76 := Tryz.underlying268
  a76 := Tryz.isAgg268
  z76 := Tryz.sizeOf268
  v76 := Tryz.zeroValue268
  t127 := Tryz.underlying316
  a127 := Tryz.isAgg316
  z127 := Tryz.sizeOf316
  v127 := Tryz.zeroValue316
  t164 := Tryz.underlying364
  a164 := Tryz.isAgg364
  z164 := Tryz.sizeOf364
  v164 := Tryz.zeroValue364
def Tryz.lCut_ren : Go.Shelf.Ren := ⟨fun | 145 => 117 | 220 => 146 | 219 => 189 | 217 => 234 | 225 => 235 | 224 => 236 | 267 => 237 | 266 => 275 | 314 => 276 | n => n, fun | 9 => 9 | 4 => 4 | 59 => 204 | 3 => 3 | 5 => 5 | 46 => 186 | 146 => 312 | 51 => 184 | n => n, fun | 1 => 0 | n => n⟩
theorem Tryz.lCut : Go.Proofs.Lays.n145 Tryz.prog Tryz.lCut_ren where
  mixed := by kernel_rfl
  f145 := Tryz.func117.trans (congrArg some (by kernel_rfl))
  f217 := Tryz.func234.trans (congrArg some (by kernel_rfl))
  f219 := Tryz.func189.trans (congrArg some (by kernel_rfl))
  f220 := Tryz.func146.trans (congrArg some (by kernel_rfl))
  f224 := Tryz.func236.trans (congrArg some (by kernel_rfl))
  f225 := Tryz.func235.trans (congrArg some (by kernel_rfl))
  f266 := Tryz.func275.trans (congrArg some (by kernel_rfl))
  f267 := Tryz.func237.trans (congrArg some (by kernel_rfl))
  f314 := Tryz.func276.trans (congrArg some (by kernel_rfl))
  t3 := Tryz.underlying3
  a3 := Tryz.isAgg3
  z3 := Tryz.sizeOf3
  v3 := Tryz.zeroValue3
  t4 := Tryz.underlying4
  a4 := Tryz.isAgg4
  z4 := Tryz.sizeOf4
  v4 := Tryz.zeroValue4
  t5 := Tryz.underlying5
  a5 := Tryz.isAgg5
  z5 := Tryz.sizeOf5
  v5 := Tryz.zeroValue5
  t9 := Tryz.underlying9
  a9 := Tryz.isAgg9
  z9 := Tryz.sizeOf9
  v9 := Tryz.zeroValue9
  t46 := Tryz.underlying186
  a46 := Tryz.isAgg186
  z46 := Tryz.sizeOf186
  v46 := Tryz.zeroValue186
  t51 := Tryz.underlying184
  a51 := Tryz.isAgg184
  z51 := Tryz.sizeOf184
  v51 := Tryz.zeroValue184
  t59 := Tryz.underlying204
  a59 := Tryz.isAgg204
  z59 := Tryz.sizeOf204
  v59 := Tryz.zeroValue204
  t146 := Tryz.underlying312
  a146 := Tryz.isAgg312
  z146 := Tryz.sizeOf312
  v146 := Tryz.zeroValue312
  g1 := by kernel_rfl
def Tryz.lItoa_ren : Go.Shelf.Ren := ⟨fun | 171 => 123 | 243 => 160 | 246 => 199 | 283 => 248 | 284 => 249 | 285 => 250 | 286 => 251 | 129 => 282 | 317 => 281 | 318 => 283 | 319 => 284 | 320 => 285 | 337 => 307 | 338 => 263 | n => n, fun | 3 => 3 | 9 => 9 | 2 => 2 | 4 => 4 | 171 => 360 | 0 => 0 | 53 => 185 | 37 => 264 | 5 => 5 | 173 => 362 | 212 => 399 | 51 => 184 | 20 => 20 | 213 => 400 | 46 => 186 | 232 => 432 | 233 => 403 | n => n, fun | 17 => 5 | 18 => 7 | 19 => 6 | n => n⟩
theorem Tryz.lItoa : Go.Proofs.LaysM.n171 Tryz.prog Tryz.lItoa_ren where
  mixed := by kernel_rfl
  f129 := Tryz.func282.trans (congrArg some (by kernel_rfl))
  f171 := Tryz.func123.trans (congrArg some (by kernel_rfl))
  f243 := Tryz.func160.trans (congrArg some (by kernel_rfl))
  f246 := Tryz.func199.trans (congrArg some (by kernel_rfl))
  f283 := Tryz.func248.trans (congrArg some (by kernel_rfl))
  f284 := Tryz.func249.trans (congrArg some (by kernel_rfl))
  f285 := Tryz.func250.trans (congrArg some (by kernel_rfl))
  f286 := Tryz.func251.trans (congrArg some (by kernel_rfl))
  f317 := Tryz.func281.trans (congrArg some (by kernel_rfl))
  f318 := Tryz.func283.trans (congrArg some (by kernel_rfl))
  f319 := Tryz.func284.trans (congrArg some (by kernel_rfl))
  f320 := Tryz.func285.trans (congrArg some (by kernel_rfl))
  f337 := Tryz.func307.trans (congrArg some (by kernel_rfl))
  f338 := Tryz.func263.trans (congrArg some (by kernel_rfl))
  t0 := Tryz.underlying0
  a0 := Tryz.isAgg0
  z0 := Tryz.sizeOf0
  v0 := Tryz.zeroValue0
  t2 := Tryz.underlying2
  a2 := Tryz.isAgg2
  z2 := Tryz.sizeOf2
  v2 := Tryz.zeroValue2
  t3 := Tryz.underlying3
  a3 := Tryz.isAgg3
  z3 := Tryz.sizeOf3
  v3 := Tryz.zeroValue3
  t4 := Tryz.underlying4
  a4 := Tryz.isAgg4
  z4 := Tryz.sizeOf4
  v4 := Tryz.zeroValue4
  t5 := Tryz.underlying5
  a5 := Tryz.isAgg5
  z5 := Tryz.sizeOf5
  v5 := Tryz.zeroValue5
  t9 := Tryz.underlying9
  a9 := Tryz.isAgg9
  z9 := Tryz.sizeOf9
  v9 := Tryz.zeroValue9
  t20 := Tryz.underlying20
  a20 := Tryz.isAgg20
  z20 := Tryz.sizeOf20
  v20 := Tryz.zeroValue20
  t37 := Tryz.underlying264
  a37 := Tryz.isAgg264
  z37 := Tryz.sizeOf264
  v37 := Tryz.zeroValue264
  t46 := Tryz.underlying186
  a46 := Tryz.isAgg186
  z46 := Tryz.sizeOf186
  v46 := Tryz.zeroValue186
  t51 := Tryz.underlying184
  a51 := Tryz.isAgg184
  z51 := Tryz.sizeOf184
  v51 := Tryz.zeroValue184
  t53 := Tryz.underlying185
  a53 := Tryz.isAgg185
  z53 := Tryz.sizeOf185
  v53 := Tryz.zeroValue185
  t171 := Tryz.underlying360
  a171 := Tryz.isAgg360
  z171 := Tryz.sizeOf360
  v171 := Tryz.zeroValue360
  t173 := Tryz.underlying362
  a173 := Tryz.isAgg362
  z173 := Tryz.sizeOf362
  v173 := Tryz.zeroValue362
  t212 := Tryz.underlying399
  a212 := Tryz.isAgg399
  z212 := Tryz.sizeOf399
  v212 := Tryz.zeroValue399
  t213 := Tryz.underlying400
  a213 := Tryz.isAgg400
  z213 := Tryz.sizeOf400
  t232 := Tryz.underlying432
  a232 := Tryz.isAgg432
  z232 := Tryz.sizeOf432
  v232 := Tryz.zeroValue432
  t233 := Tryz.underlying403
  a233 := Tryz.isAgg403
  z233 := Tryz.sizeOf403
  v233 := Tryz.zeroValue403
  g17 := by kernel_rfl
  g18 := by kernel_rfl
  g19 := by kernel_rfl
  i0 := by kernel_rfl
  i2 := by kernel_rfl
  i3 := by kernel_rfl
  i4 := by kernel_rfl
  i5 := by kernel_rfl
  i9 := by kernel_rfl
  i20 := by kernel_rfl
  i37 := by kernel_rfl
  i46 := by kernel_rfl
  i51 := by kernel_rfl
  i53 := by kernel_rfl
  i171 := by kernel_rfl
  i173 := by kernel_rfl
  i212 := by kernel_rfl
  i232 := by kernel_rfl
  i233 := by kernel_rfl
  m17 := by kernel_rfl
  m18 := by kernel_rfl
  m19 := by kernel_rfl
def Tryz.lParse_ren : Go.Shelf.Ren := ⟨fun | 14 => 158 | 16 => 197 | 17 => 198 | 19 => 242 | 20 => 243 | 21 => 244 | 22 => 245 | 23 => 246 | 24 => 247 | 25 => 279 | 27 => 123 | 26 => 280 | 28 => 160 | 29 => 199 | 30 => 248 | 31 => 249 | 32 => 250 | 33 => 251 | 35 => 282 | 34 => 281 | 36 => 283 | 37 => 284 | 38 => 285 | 39 => 307 | 40 => 263 | n => n, fun | 9 => 9 | 3 => 3 | 22 => 185 | 24 => 256 | 25 => 257 | 4 => 4 | 34 => 355 | 5 => 5 | 36 => 186 | 37 => 264 | 0 => 0 | 39 => 357 | 21 => 21 | 44 => 396 | 47 => 316 | 50 => 423 | 48 => 421 | 2 => 2 | 52 => 360 | 55 => 362 | 59 => 399 | 60 => 184 | 20 => 20 | 61 => 400 | 65 => 432 | 66 => 403 | 67 => 160 | n => n, fun | 0 => 3 | 1 => 4 | 2 => 5 | 3 => 7 | 4 => 6 | n => n⟩
theorem Tryz.lParse : Go.Proofs.LaysPu.n14 Tryz.prog Tryz.lParse_ren where
  mixed := by kernel_rfl
  f14 := Tryz.func158.trans (congrArg some (by kernel_rfl))
  f16 := Tryz.func197.trans (congrArg some (by kernel_rfl))
  f17 := Tryz.func198.trans (congrArg some (by kernel_rfl))
  f19 := Tryz.func242.trans (congrArg some (by kernel_rfl))
  f20 := Tryz.func243.trans (congrArg some (by kernel_rfl))
  f21 := Tryz.func244.trans (congrArg some (by kernel_rfl))
  f22 := Tryz.func245.trans (congrArg some (by kernel_rfl))
  f23 := Tryz.func246.trans (congrArg some (by kernel_rfl))
  f24 := Tryz.func247.trans (congrArg some (by kernel_rfl))
  f25 := Tryz.func279.trans (congrArg some (by kernel_rfl))
  f26 := Tryz.func280.trans (congrArg some (by kernel_rfl))
  f27 := Tryz.func123.trans (congrArg some (by kernel_rfl))
  f28 := Tryz.func160.trans (congrArg some (by kernel_rfl))
  f29 := Tryz.func199.trans (congrArg some (by kernel_rfl))
  f30 := Tryz.func248.trans (congrArg some (by kernel_rfl))
  f31 := Tryz.func249.trans (congrArg some (by kernel_rfl))
  f32 := Tryz.func250.trans (congrArg some (by kernel_rfl))
  f33 := Tryz.func251.trans (congrArg some (by kernel_rfl))
  f34 := Tryz.func281.trans (congrArg some (by kernel_rfl))
  f35 := Tryz.func282.trans (congrArg some (by kernel_rfl))
  f36 := Tryz.func283.trans (congrArg some (by kernel_rfl))
  f37 := Tryz.func284.trans (congrArg some (by kernel_rfl))
  f38 := Tryz.func285.trans (congrArg some (by kernel_rfl))
  f39 := Tryz.func307.trans (congrArg some (by kernel_rfl))
  f40 := Tryz.func263.trans (congrArg some (by kernel_rfl))
  t0 := Tryz.underlying0
  a0 := Tryz.isAgg0
  z0 := Tryz.sizeOf0
  v0 := Tryz.zeroValue0
  i0 := by kernel_rfl
  t2 := Tryz.underlying2
  a2 := Tryz.isAgg2
  z2 := Tryz.sizeOf2
  v2 := Tryz.zeroValue2
  i2 := by kernel_rfl
  t3 := Tryz.underlying3
  a3 := Tryz.isAgg3
  z3 := Tryz.sizeOf3
  v3 := Tryz.zeroValue3
  i3 := by kernel_rfl
  t4 := Tryz.underlying4
  a4 := Tryz.isAgg4
  z4 := Tryz.sizeOf4
  v4 := Tryz.zeroValue4
  i4 := by kernel_rfl
  t5 := Tryz.underlying5
  a5 := Tryz.isAgg5
  z5 := Tryz.sizeOf5
  v5 := Tryz.zeroValue5
  i5 := by kernel_rfl
  t9 := Tryz.underlying9
  a9 := Tryz.isAgg9
  z9 := Tryz.sizeOf9
  v9 := Tryz.zeroValue9
  i9 := by kernel_rfl
  t20 := Tryz.underlying20
  a20 := Tryz.isAgg20
  z20 := Tryz.sizeOf20
  v20 := Tryz.zeroValue20
  i20 := by kernel_rfl
  t21 := Tryz.underlying21
  a21 := Tryz.isAgg21
  z21 := Tryz.sizeOf21
  v21 := Tryz.zeroValue21
  i21 := by kernel_rfl
  t22 := Tryz.underlying185
  a22 := Tryz.isAgg185
  z22 := Tryz.sizeOf185
  v22 := Tryz.zeroValue185
  i22 := by kernel_rfl
  t24 := Tryz.underlying256
  a24 := Tryz.isAgg256
  z24 := Tryz.sizeOf256
  v24 := Tryz.zeroValue256
  i24 := by kernel_rfl
  t25 := Tryz.underlying257
  a25 := Tryz.isAgg257
  z25 := Tryz.sizeOf257
  v25 := Tryz.zeroValue257
  i25 := by kernel_rfl
  t34 := Tryz.underlying355
  a34 := Tryz.isAgg355
  z34 := Tryz.sizeOf355
  v34 := Tryz.zeroValue355
  i34 := by kernel_rfl
  c34 := by kernel_rfl
  t36 := Tryz.underlying186
  a36 := Tryz.isAgg186
  z36 := Tryz.sizeOf186
  v36 := Tryz.zeroValue186
  i36 := by kernel_rfl
  t37 := Tryz.underlying264
  a37 := Tryz.isAgg264
  z37 := Tryz.sizeOf264
  v37 := Tryz.zeroValue264
  i37 := by kernel_rfl
  t39 := Tryz.underlying357
  a39 := Tryz.isAgg357
  z39 := Tryz.sizeOf357
  v39 := Tryz.zeroValue357
  i39 := by kernel_rfl
  t44 := Tryz.underlying396
  a44 := Tryz.isAgg396
  z44 := Tryz.sizeOf396
  v44 := Tryz.zeroValue396
  i44 := by kernel_rfl
  t47 := Tryz.underlying316
  a47 := Tryz.isAgg316
  z47 := Tryz.sizeOf316
  v47 := Tryz.zeroValue316
  i47 := by kernel_rfl
  t48 := Tryz.underlying421
  a48 := Tryz.isAgg421
  z48 := Tryz.sizeOf421
  v48 := Tryz.zeroValue421
  i48 := by kernel_rfl
  t50 := Tryz.underlying423
  a50 := Tryz.isAgg423
  z50 := Tryz.sizeOf423
  v50 := Tryz.zeroValue423
  i50 := by kernel_rfl
  t52 := Tryz.underlying360
  a52 := Tryz.isAgg360
  z52 := Tryz.sizeOf360
  v52 := Tryz.zeroValue360
  i52 := by kernel_rfl
  t55 := Tryz.underlying362
  a55 := Tryz.isAgg362
  z55 := Tryz.sizeOf362
  v55 := Tryz.zeroValue362
  i55 := by kernel_rfl
  t59 := Tryz.underlying399
  a59 := Tryz.isAgg399
  z59 := Tryz.sizeOf399
  v59 := Tryz.zeroValue399
  i59 := by kernel_rfl
  t60 := Tryz.underlying184
  a60 := Tryz.isAgg184
  z60 := Tryz.sizeOf184
  v60 := Tryz.zeroValue184
  i60 := by kernel_rfl
  t61 := Tryz.underlying400
  a61 := Tryz.isAgg400
  z61 := Tryz.sizeOf400
  t65 := Tryz.underlying432
  a65 := Tryz.isAgg432
  z65 := Tryz.sizeOf432
  v65 := Tryz.zeroValue432
  i65 := by kernel_rfl
  t66 := Tryz.underlying403
  a66 := Tryz.isAgg403
  z66 := Tryz.sizeOf403
  v66 := Tryz.zeroValue403
  i66 := by kernel_rfl
  t67 := Tryz.underlying160
  a67 := Tryz.isAgg160
  z67 := Tryz.sizeOf160
  v67 := Tryz.zeroValue160
  i67 := by kernel_rfl
  g0 := by kernel_rfl
  m0 := by kernel_rfl
  g1 := by kernel_rfl
  m1 := by kernel_rfl
  g2 := by kernel_rfl
  m2 := by kernel_rfl
  g3 := by kernel_rfl
  m3 := by kernel_rfl
  g4 := by kernel_rfl
  m4 := by kernel_rfl
def Tryz.lContains_ren : Go.Shelf.Ren := ⟨fun | 17 => 156 | 15 => 196 | 20 => 241 | n => n, fun | 9 => 9 | 23 => 254 | 4 => 4 | 3 => 3 | 0 => 0 | 21 => 21 | n => n, fun | n => n⟩
theorem Tryz.lContains : Go.Proofs.LaysGw.n17 Tryz.prog Tryz.lContains_ren where
  mixed := by kernel_rfl
  f15 := Tryz.func196.trans (congrArg some (by kernel_rfl))
  f17 := Tryz.func156.trans (congrArg some (by kernel_rfl))
  f20 := Tryz.func241.trans (congrArg some (by kernel_rfl))
  t0 := Tryz.underlying0
  a0 := Tryz.isAgg0
  z0 := Tryz.sizeOf0
  v0 := Tryz.zeroValue0
  i0 := by kernel_rfl
  t3 := Tryz.underlying3
  a3 := Tryz.isAgg3
  z3 := Tryz.sizeOf3
  v3 := Tryz.zeroValue3
  i3 := by kernel_rfl
  t4 := Tryz.underlying4
  a4 := Tryz.isAgg4
  z4 := Tryz.sizeOf4
  v4 := Tryz.zeroValue4
  i4 := by kernel_rfl
  t9 := Tryz.underlying9
  a9 := Tryz.isAgg9
  z9 := Tryz.sizeOf9
  v9 := Tryz.zeroValue9
  i9 := by kernel_rfl
  t21 := Tryz.underlying21
  a21 := Tryz.isAgg21
  z21 := Tryz.sizeOf21
  v21 := Tryz.zeroValue21
  i21 := by kernel_rfl
  t23 := Tryz.underlying254
  a23 := Tryz.isAgg254
  z23 := Tryz.sizeOf254
  v23 := Tryz.zeroValue254
  i23 := by kernel_rfl
def Tryz.lZeros_ren : Go.Shelf.Ren := ⟨fun | 29 => 263 | n => n, fun | 22 => 185 | 3 => 3 | 4 => 4 | 25 => 186 | 54 => 403 | 0 => 0 | 5 => 5 | n => n, fun | 1 => 6 | n => n⟩
theorem Tryz.lZeros : Go.Proofs.Lays7.n29 Tryz.prog Tryz.lZeros_ren where
  mixed := by kernel_rfl
  f29 := Tryz.func263.trans (congrArg some (by kernel_rfl))
  t0 := Tryz.underlying0
  a0 := Tryz.isAgg0
  z0 := Tryz.sizeOf0
  v0 := Tryz.zeroValue0
  i0 := by kernel_rfl
  t3 := Tryz.underlying3
  a3 := Tryz.isAgg3
  z3 := Tryz.sizeOf3
  v3 := Tryz.zeroValue3
  i3 := by kernel_rfl
  t4 := Tryz.underlying4
  a4 := Tryz.isAgg4
  z4 := Tryz.sizeOf4
  v4 := Tryz.zeroValue4
  i4 := by kernel_rfl
  t5 := Tryz.underlying5
  a5 := Tryz.isAgg5
  z5 := Tryz.sizeOf5
  v5 := Tryz.zeroValue5
  i5 := by kernel_rfl
  t22 := Tryz.underlying185
  a22 := Tryz.isAgg185
  z22 := Tryz.sizeOf185
  v22 := Tryz.zeroValue185
  i22 := by kernel_rfl
  t25 := Tryz.underlying186
  a25 := Tryz.isAgg186
  z25 := Tryz.sizeOf186
  v25 := Tryz.zeroValue186
  i25 := by kernel_rfl
  t54 := Tryz.underlying403
  a54 := Tryz.isAgg403
  z54 := Tryz.sizeOf403
  g1 := by kernel_rfl
end Go.Proofs
namespace Go.AR
noncomputable section
inductive Pos | h | o (p : Pos) | i (p : Pos)
def Pos.succ (p : Pos) : Pos := Pos.rec (.o .h) (fun p _ => .i p) (fun _ ih => .o ih) p
def Pos.beq (p : Pos) : Pos → Bool :=
  Pos.rec (fun q => Pos.casesOn q true (fun _ => false) (fun _ => false)) (fun _ ih q => Pos.casesOn q false (fun q => ih q) (fun _ => false))
    (fun _ ih q => Pos.casesOn q false (fun _ => false) (fun q => ih q)) p
def pos (n : Nat) : Pos := Nat.rec .h (fun _ ih => ih.succ) n
inductive Tr (α : Type) | lf | nd (l : Tr α) (v : Option α) (r : Tr α)
def Tr.get {α : Type} (p : Pos) : Tr α → Option α :=
  Pos.rec (fun t => Tr.casesOn t none (fun _ v _ => v)) (fun _ ih t => Tr.casesOn t none (fun l _ _ => ih l)) (fun _ ih t => Tr.casesOn t none (fun _ _ r => ih r)) p
def Tr.set {α : Type} (p : Pos) (x : α) : Tr α → Tr α :=
  Pos.rec (fun t => Tr.casesOn t (.nd .lf (some x) .lf) (fun l _ r => .nd l (some x) r)) (fun _ ih t => Tr.casesOn t (.nd (ih .lf) none .lf) (fun l v r => .nd (ih l) v r))
    (fun _ ih t => Tr.casesOn t (.nd .lf none (ih .lf)) (fun l v r => .nd l v (ih r))) p
inductive AV
  | u | b (x : Bool) | i (k : IntKind) (n : Int) | s (l : List Nat) | q (n : Int) (d : Nat)
  | p (b : Pos) (o : Nat) | np | sl (b : Pos) (o n c : Nat) | ns | m (b : Pos) | nm
  | f (f : Pos) (c : List AV) | nf | ni | g (n : Nat) | y (l : Pos) | a (l : List AV) | t (l : List AV) | z (k : Bool) (l : List AV) (n : Nat) (x : Bool) | zp (k : Bool) (l : List AV)
inductive X | t (p : Pos) | c (v : AV)
inductive EK | i | b | s | l
inductive Bin | add | sub | mul | quo | rem | and | or | xor | andNot | shl | shr | eql | neq | lss | leq | gtr | geq
structure Bs where
  lo : Bool
  hi : Bool
  mx : Bool
inductive OC
  | mv | pick | bin (op : Bin) (m : Nat) (k : EK) | not | neg | com | conv (k : IntKind)
  | load (agg : Bool) (n : Nat) | store (n : Nat) | alloc (z : List AV) | box
  | build (z : List AV) (os : List (Nat × Nat)) | bslice (z : List AV) (n : Nat) (os : List (Nat × Nat))
  | faddr (o : Nat) | fld (o n : Nat) (agg : Bool) | iaddrA (n s : Nat) | iaddrS (s : Nat) | idxA (n s : Nat) (agg : Bool) | idxT
  | nilchk | ext (i : Nat) | call (f : Pos) | callv | len (k : EK) | lenA (n : Nat)
  | slS (s : Nat) (b : Bs) | slA (n s : Nat) (b : Bs) | slT (b : Bs)
  | mkslice (z : List AV) | mkfn (f : Pos) | app (s : Nat) | copy (s : Nat) | mkmap | upd (m : Nat) (k : EK) | ins (m : Nat) (k : EK) | mapl (m : Nat) (k : EK) | look (z : AV) (ok : Bool) (m : Nat) (k : EK) | mn | mx
structure Op where
  d : Option Pos
  g : Option (Pos × Bool)
  c : OC
  asx : List X
structure It where
  i : Nat
  js : List Nat
  o : Op
  hv : Bool
inductive AC
  | skip | reg (ops : List Op) | dreg (st : List (List It × List It × Option It))
  | seq (a b : AC) | cond (c : X) (a b : AC) | block (id : Nat) (a : AC) | loop (a : AC) | exit (id : Nat) | ret
  | rf (x : X) (ps : List Pos) (asg body : AC)
inductive Rs | t (p : Pos) | c (p : Pos) (agg : Bool) (n : Nat)
structure Fn where
  params : List Pos
  results : List Rs
  body : AC
inductive Ex | n | x (id : Nat) | r
inductive LSt | ready | busy | done (e : Ex)
inductive Blk | cells (l : List AV) (gr : Nat) | map (l : List (AV × AV)) | loop (T : Tr AV) (ps : List Pos) (asg body : AC) (st : LSt) | dead
inductive Res | bad | ok (v : AV) (h : Tr Blk) (nx : Pos)
inductive SR | bad | ok (e : Ex) (T : Tr AV) (h : Tr Blk) (nx : Pos)
def dropN {α : Type} (n : Nat) (l : List α) : List α := Nat.rec (fun l => l) (fun _ ih l => List.casesOn l [] (fun _ t => ih t)) n l
def takeN {α : Type} (n : Nat) (l : List α) : Option (List α) :=
  Nat.rec (fun _ => some []) (fun _ ih l => List.casesOn l none (fun a t => Option.casesOn (ih t) none (fun r => some (a :: r)))) n l
def hd {α : Type} (l : List α) : Option α := List.casesOn l none (fun a _ => some a)
def sub {α : Type} (o n : Nat) (l : List α) : Option (List α) := takeN n (dropN o l)
def over {α : Type} (new : List α) : List α → Option (List α) :=
  List.rec (fun l => some l) (fun a _ ih l => List.casesOn l none (fun _ t => Option.casesOn (ih t) none (fun r => some (a :: r)))) new
def spl {α : Type} (o : Nat) (new : List α) : List α → Option (List α) :=
  Nat.rec (fun l => over new l) (fun _ ih l => List.casesOn l none (fun a t => Option.casesOn (ih t) none (fun r => some (a :: r)))) o
def rep {α : Type} (n : Nat) (z : List α) : List α := Nat.rec [] (fun _ ih => z ++ ih) n
def cellsOf (v : AV) : List AV := AV.casesOn v [.u] (fun x => [.b x]) (fun k n => [.i k n]) (fun l => [.s l]) (fun n d => [.q n d]) (fun b o => [.p b o]) [.np] (fun b o n c => [.sl b o n c]) [.ns] (fun b => [.m b]) [.nm]
  (fun f c => [.f f c]) [.nf] [.ni] (fun n => [.g n]) (fun l => [.y l]) (fun l => l) (fun l => [.t l]) (fun k l n x => [.z k l n x]) (fun k l => [.zp k l])
def ieq (a b : Int) : Bool := match a, b with | .ofNat x, .ofNat y => Nat.beq x y | .negSucc x, .negSucc y => Nat.beq x y | _, _ => false
def ilt (a b : Int) : Bool := match a, b with | .ofNat x, .ofNat y => Nat.blt x y | .negSucc x, .negSucc y => Nat.blt y x | .negSucc _, .ofNat _ => true | _, _ => false
def neqL (a b : List Nat) : Bool := match a, b with | [], [] => true | x :: a, y :: b => bif Nat.beq x y then neqL a b else false | _, _ => false
def keq (a b : IntKind) : Bool := decide (a = b)
def ceq (e : EK) (a b : AV) : Option Bool :=
  match e, a, b with
  | .i, .i k x, .i j y => bif keq k j then some (ieq x y) else none
  | .b, .b x, .b y => some (x == y)
  | .s, .s x, .s y => some (neqL x y)
  | _, _, _ => none
def ceqL (e : EK) (a b : List AV) : Option Bool :=
  match a, b with
  | [], [] => some true
  | x :: a, y :: b => match ceq e x y with
    | some true => ceqL e a b
    | some false => bif Nat.beq a.length b.length then some false else none
    | none => none
  | _, _ => none
def cmpV (m : Nat) (e : EK) (a b : AV) : Option Bool :=
  match a, b with
  | .a x, .a y => bif Nat.beq m 0 then none else bif Nat.beq x.length m then ceqL e x y else none
  | x, y => bif Nat.beq m 0 then ceq e x y else none
mutual
def eqA : AV → AV → Bool
  | .u, .u => true
  | .b x, .b y => x == y
  | .i k x, .i j y => bif keq k j then ieq x y else false
  | .s x, .s y => neqL x y
  | .q n d, .q m e => bif ieq n m then Nat.beq d e else false
  | .p b o, .p b' o' => bif Pos.beq b b' then Nat.beq o o' else false
  | .np, .np => true
  | .sl b o n c, .sl b' o' n' c' => bif Pos.beq b b' then bif Nat.beq o o' then bif Nat.beq n n' then Nat.beq c c' else false else false else false
  | .ns, .ns => true
  | .m b, .m b' => Pos.beq b b'
  | .nm, .nm => true
  | .f f c, .f f' c' => bif Pos.beq f f' then eqL c c' else false
  | .nf, .nf => true
  | .ni, .ni => true
  | .g n, .g m => Nat.beq n m
  | .y l, .y l' => Pos.beq l l'
  | .a l, .a l' => eqL l l'
  | .t l, .t l' => eqL l l'
  | .z k l n x, .z k' l' n' x' => bif k == k' then bif Nat.beq n n' then bif x == x' then eqL l l' else false else false else false
  | .zp k l, .zp k' l' => bif k == k' then eqL l l' else false
  | _, _ => false
def eqL : List AV → List AV → Bool
  | [], [] => true
  | x :: a, y :: b => bif eqA x y then eqL a b else false
  | _, _ => false
end
def sameV (a b : AV) : Bool := eqA a b
def two63 : Nat := 9223372036854775808
def two64 : Nat := 18446744073709551616
def wr (k : IntKind) (n : Int) : Int :=
  match k, n with
  | .i64, .ofNat a => bif Nat.blt a two63 then n else k.wrap n
  | .u64, .ofNat a => bif Nat.blt a two64 then n else k.wrap n
  | .i64, .negSucc a => bif Nat.blt a two63 then n else k.wrap n
  | _, _ => k.wrap n
def binI (op : Bin) (k : IntKind) (a b : Int) : Option AV :=
  match op with
  | .add => some (.i k (wr k (a + b))) | .sub => some (.i k (wr k (a - b))) | .mul => some (.i k (wr k (a * b)))
  | .quo => bif ieq b 0 then none else some (.i k (wr k (a.tdiv b))) | .rem => bif ieq b 0 then none else some (.i k (a.tmod b))
  | .eql => some (.b (ieq a b)) | .neq => some (.b (!ieq a b)) | .lss => some (.b (ilt a b)) | .leq => some (.b (!ilt b a)) | .gtr => some (.b (ilt b a)) | .geq => some (.b (!ilt a b))
  | .shl => bif ilt b 0 then none else some (.i k (k.wrap (a * 2 ^ (min b.toNat k.bits)))) | .shr => bif ilt b 0 then none else some (.i k (a.fdiv (2 ^ (min b.toNat k.bits))))
  | .and => some (.i k (k.wrap ((BitVec.ofInt k.bits a &&& BitVec.ofInt k.bits b).toNat)))
  | .or => some (.i k (k.wrap ((BitVec.ofInt k.bits a ||| BitVec.ofInt k.bits b).toNat)))
  | .xor => some (.i k (k.wrap ((BitVec.ofInt k.bits a ^^^ BitVec.ofInt k.bits b).toNat)))
  | .andNot => some (.i k (k.wrap ((BitVec.ofInt k.bits a &&& ~~~(BitVec.ofInt k.bits b)).toNat)))
def shiftOp : Bin → Bool | .shl => true | .shr => true | _ => false
def eqOp (op : Bin) (r : Option Bool) : Option AV := match op, r with | .eql, some x => some (.b x) | .neq, some x => some (.b (!x)) | _, _ => none
def isNilEq (op : Bin) (x : Bool) : Option AV := eqOp op (some x)
def addS (op : Bin) (x y : List Nat) : Option AV := match op with | .add => bif Nat.blt (x.length + y.length) 1000000000 then some (.s (x ++ y)) else none | op => eqOp op (some (neqL x y))
def binV (op : Bin) (m : Nat) (e : EK) (x y : AV) : Option AV :=
  match x, y with
  | .i k a, .i j b => bif keq k j then binI op k a b else bif shiftOp op then binI op k a b else none
  | .b x, .b y => eqOp op (cmpV m e (.b x) (.b y))
  | .s x, .s y => addS op x y
  | .a x, .a y => eqOp op (cmpV m e (.a x) (.a y))
  | .sl .., .ns => (match e with | .l => eqOp op (some false) | _ => none)
  | .ns, .ns => (match e with | .l => eqOp op (some true) | _ => none)
  | .z _ _ n _, .ns => (match e with | .l => bif Nat.beq n 0 then none else eqOp op (some false) | _ => none)
  | _, _ => none
def cellsAt (h : Tr Blk) (b : Pos) : Option (List AV) := Option.casesOn (h.get b) none (fun k => Blk.casesOn k (fun l _ => some l) (fun _ => none) (fun _ _ _ _ _ => none) none)
def rd (agg : Bool) (n o : Nat) (l : List AV) : Option AV :=
  Bool.casesOn agg (hd (dropN o l)) (Option.casesOn (sub o n l) none (fun r => some (.a r)))
def okv (v : Option AV) (h : Tr Blk) (nx : Pos) : Res := Option.casesOn v .bad (fun v => .ok v h nx)
def newB (l : List AV) (h : Tr Blk) (nx : Pos) : Tr Blk := h.set nx (.cells l 0)
def doPick (vs : List AV) (h : Tr Blk) (nx : Pos) : Res := match vs with | [.b c, a, b] => .ok (Bool.casesOn c b a) h nx | _ => .bad
def doBin (op : Bin) (m : Nat) (e : EK) (vs : List AV) (h : Tr Blk) (nx : Pos) : Res := match vs with | [x, y] => okv (binV op m e x y) h nx | _ => .bad
def doNot (vs : List AV) (h : Tr Blk) (nx : Pos) : Res := match vs with | [.b x] => .ok (.b (!x)) h nx | _ => .bad
def doNeg (vs : List AV) (h : Tr Blk) (nx : Pos) : Res := match vs with | [.i k n] => .ok (.i k (wr k (0 - n))) h nx | _ => .bad
def doCom (vs : List AV) (h : Tr Blk) (nx : Pos) : Res := match vs with | [.i k n] => .ok (.i k (k.wrap ((BitVec.ofInt k.bits (if k.signed then -1 else k.max) ^^^ BitVec.ofInt k.bits n).toNat))) h nx | _ => .bad
def doConv (k : IntKind) (vs : List AV) (h : Tr Blk) (nx : Pos) : Res := match vs with | [.i _ n] => .ok (.i k (wr k n)) h nx | _ => .bad
def doMv (vs : List AV) (h : Tr Blk) (nx : Pos) : Res := match vs with | [v] => .ok v h nx | _ => .bad
def doLoad (agg : Bool) (n : Nat) (vs : List AV) (h : Tr Blk) (nx : Pos) : Res :=
  match vs with | [.p b o] => (match cellsAt h b with | some l => okv (rd agg n o l) h nx | none => .bad) | [.zp _ l] => okv (rd agg n 0 l) h nx | _ => .bad
def zpR (k : Bool) (l : List AV) (h : Tr Blk) (nx : Pos) : Res := List.casesOn l .bad (fun x r => .ok (.zp k (x :: r)) h nx)
def scal (v : AV) : Bool := match v with | .u => false | .a _ => false | .t _ => false | _ => true
def scalL (l : List AV) : Bool := match l with | [] => true | v :: l => bif scal v then scalL l else false
def put (b : Pos) (o : Nat) (new : List AV) (v : AV) (h : Tr Blk) (nx : Pos) : Res :=
  match h.get b with
  | some (.cells l gr) => bif scalL new then (match spl o new l with | some r => .ok v (h.set b (.cells r gr)) nx | none => .bad) else .bad
  | _ => .bad
def doStore (n : Nat) (vs : List AV) (h : Tr Blk) (nx : Pos) : Res :=
  match vs with
  | [.p b o, v] => bif Nat.beq (cellsOf v).length n then put b o (cellsOf v) .u h nx else .bad
  | _ => .bad
def doAlloc (z : List AV) (vs : List AV) (h : Tr Blk) (nx : Pos) : Res := match vs with | [] => .ok (.p nx 0) (newB z h nx) nx.succ | _ => .bad
def doBox (vs : List AV) (h : Tr Blk) (nx : Pos) : Res := match vs with | [v] => .ok (.p nx 0) (newB (cellsOf v) h nx) nx.succ | _ => .bad
def fillL (vs : List AV) : List (Nat × Nat) → List AV → Option (List AV) :=
  List.rec (fun os z => match os with | [] => some z | _ => none)
    (fun v _ ih os z => match os with | (o, n) :: os => bif Nat.beq (cellsOf v).length n then (match spl o (cellsOf v) z with | some z => ih os z | none => none) else none | [] => none) vs
def doBuild (z : List AV) (os : List (Nat × Nat)) (vs : List AV) (h : Tr Blk) (nx : Pos) : Res := match fillL vs os z with | some l => .ok (.a l) h nx | none => .bad
def doBslice (z : List AV) (n : Nat) (os : List (Nat × Nat)) (vs : List AV) (h : Tr Blk) (nx : Pos) : Res :=
  match fillL vs os z with | some l => .ok (.sl nx 0 n n) (newB l h nx) nx.succ | none => .bad
def doFaddr (o : Nat) (vs : List AV) (h : Tr Blk) (nx : Pos) : Res := match vs with | [.p b o'] => .ok (.p b (o' + o)) h nx | [.zp k l] => zpR k (dropN o l) h nx | _ => .bad
def doFld (o n : Nat) (agg : Bool) (vs : List AV) (h : Tr Blk) (nx : Pos) : Res := match vs with | [.a l] => okv (rd agg n o l) h nx | _ => .bad
def doIaddrA (n s : Nat) (vs : List AV) (h : Tr Blk) (nx : Pos) : Res :=
  match vs with | [.p b o, .i _ (.ofNat j)] => bif Nat.blt j n then .ok (.p b (o + j * s)) h nx else .bad | [.zp k l, .i _ (.ofNat j)] => bif Nat.blt j n then zpR k (dropN (j * s) l) h nx else .bad | _ => .bad
def doIaddrS (s : Nat) (vs : List AV) (h : Tr Blk) (nx : Pos) : Res :=
  match vs with | [.sl b o n _, .i _ (.ofNat j)] => bif Nat.blt j n then .ok (.p b (o + j * s)) h nx else .bad | [.z k l n _, .i _ (.ofNat j)] => bif Nat.blt j n then zpR k (dropN (j * s) l) h nx else .bad | _ => .bad
def doIdxA (n s : Nat) (agg : Bool) (vs : List AV) (h : Tr Blk) (nx : Pos) : Res :=
  match vs with | [.a l, .i _ (.ofNat j)] => bif Nat.blt j n then okv (rd agg s (j * s) l) h nx else .bad | _ => .bad
def doIdxT (vs : List AV) (h : Tr Blk) (nx : Pos) : Res :=
  match vs with | [.s l, .i _ (.ofNat j)] => (match hd (dropN j l) with | some x => .ok (.i .u8 (.ofNat x)) h nx | none => .bad) | _ => .bad
def doNilchk (vs : List AV) (h : Tr Blk) (nx : Pos) : Res := match vs with | [.p b o] => .ok (.p b o) h nx | [.f f c] => .ok (.f f c) h nx | [.y l] => .ok (.y l) h nx | [.zp k l] => .ok (.zp k l) h nx | _ => .bad
def doExt (i : Nat) (vs : List AV) (h : Tr Blk) (nx : Pos) : Res := match vs with | [.t l] => okv (hd (dropN i l)) h nx | _ => .bad
def doLen (k : EK) (vs : List AV) (h : Tr Blk) (nx : Pos) : Res :=
  match k, vs with
  | .l, [.sl _ _ n _] => .ok (.i .i64 (.ofNat n)) h nx
  | .l, [.ns] => .ok (.i .i64 (.ofNat 0)) h nx
  | .l, [.z _ _ n _] => .ok (.i .i64 (.ofNat n)) h nx
  | .s, [.s l] => .ok (.i .i64 (.ofNat l.length)) h nx
  | .i, [.m b] => (match h.get b with | some (.map l) => .ok (.i .i64 (.ofNat l.length)) h nx | _ => .bad)
  | .i, [.nm] => .ok (.i .i64 (.ofNat 0)) h nx
  | _, _ => .bad
def natOf (v : AV) : Option Nat := match v with | .i _ (.ofNat n) => some n | _ => none
def bnds (b : Bs) (len cap : Nat) (vs : List AV) : Option (Nat × Nat × Nat) :=
  match b, vs with
  | ⟨false, false, false⟩, [] => some (0, len, cap)
  | ⟨true, false, false⟩, [l] => (match natOf l with | some l => bif Nat.ble l len then some (l, len, cap) else none | _ => none)
  | ⟨false, true, false⟩, [h] => (match natOf h with | some h => bif Nat.ble h cap then some (0, h, cap) else none | _ => none)
  | ⟨true, true, false⟩, [l, h] => (match natOf l, natOf h with | some l, some h => bif Nat.ble h cap then bif Nat.ble l h then some (l, h, cap) else none else none | _, _ => none)
  | ⟨false, true, true⟩, [h, m] => (match natOf h, natOf m with | some h, some m => bif Nat.ble m cap then bif Nat.ble h m then some (0, h, m) else none else none | _, _ => none)
  | ⟨true, true, true⟩, [l, h, m] => (match natOf l, natOf h, natOf m with | some l, some h, some m => bif Nat.ble m cap then bif Nat.ble h m then bif Nat.ble l h then some (l, h, m) else none else none else none | _, _, _ => none)
  | _, _ => none
def cutA (bl : Pos) (o s : Nat) (r : Nat × Nat × Nat) (h : Tr Blk) (nx : Pos) : Res :=
  bif Nat.beq r.2.2 r.1 then .ok (.sl bl o 0 0) h nx else .ok (.sl bl (o + r.1 * s) (r.2.1 - r.1) (r.2.2 - r.1)) h nx
def cutS (bl : Pos) (o s : Nat) (mx : Bool) (r : Nat × Nat × Nat) (h : Tr Blk) (nx : Pos) : Res :=
  match h.get bl with
  | some (.cells _ gr) => bif Nat.beq gr 0 || mx then cutA bl o s r h nx
      else bif Nat.beq gr s then (bif Nat.beq r.2.2 r.1 then (bif Nat.beq r.1 0 then .ok (.sl bl o 0 0) h nx else .bad) else .ok (.sl bl (o + r.1 * s) (r.2.1 - r.1) (r.2.2 - r.1)) h nx)
      else .bad
  | _ => .bad
def doSlS (s : Nat) (b : Bs) (vs : List AV) (h : Tr Blk) (nx : Pos) : Res :=
  match vs with
  | .sl bl o n c :: vs => (match bnds b n c vs with | some r => cutS bl o s b.mx r h nx | none => .bad)
  | .ns :: vs => (match bnds b 0 0 vs with | some _ => .ok .ns h nx | none => .bad)
  | .z k l n x :: vs => (match bnds b n n vs with
    | some r => (match sub (r.1 * s) ((r.2.1 - r.1) * s) l with | some l' => .ok (.z k l' (r.2.1 - r.1) ((b.mx || x) && Nat.beq r.2.1 r.2.2)) h nx | none => .bad)
    | none => .bad)
  | _ => .bad
def doSlA (n s : Nat) (b : Bs) (vs : List AV) (h : Tr Blk) (nx : Pos) : Res :=
  match vs with | .p bl o :: vs => (match bnds b n n vs with | some r => cutA bl o s r h nx | none => .bad) | _ => .bad
def doSlT (b : Bs) (vs : List AV) (h : Tr Blk) (nx : Pos) : Res :=
  match vs with | .s l :: vs => (match bnds b l.length l.length vs with | some r => (match sub r.1 (r.2.1 - r.1) l with | some q => .ok (.s q) h nx | none => .bad) | none => .bad) | _ => .bad
def doMkslice (z : List AV) (vs : List AV) (h : Tr Blk) (nx : Pos) : Res :=
  match vs with
  | [.i _ (.ofNat n), .i _ (.ofNat c)] => bif Nat.ble n c then bif Nat.ble c 16777216 then .ok (.sl nx 0 n c) (newB (rep c z) h nx) nx.succ else .bad else .bad
  | _ => .bad
def rowOf (s : Nat) (h : Tr Blk) (v : AV) : Option (List AV) :=
  match v with
  | .ns => some []
  | .sl b o n _ => (match cellsAt h b with | some l => sub o (n * s) l | none => none)
  | .z _ l n _ => bif Nat.beq l.length (n * s) then some l else none
  | _ => none
def slen (v : AV) : Option Nat := match v with | .ns => some 0 | .sl _ _ n _ => some n | .z _ _ n _ => some n | _ => none
def appNew (s n m : Nat) (r : List AV) (h : Tr Blk) (nx : Pos) : Res := .ok (.sl nx 0 (n + m) (n + m)) (h.set nx (.cells r s)) nx.succ
def appS (s : Nat) (b : Pos) (o n c m : Nat) (r r' : List AV) (h : Tr Blk) (nx : Pos) : Res :=
  bif Nat.ble (n + m) c then put b (o + n * s) r' (.sl b o (n + m) c) h nx
  else match h.get b with
    | some (.cells _ gr) => bif Nat.beq gr 0 then appNew s n m (r ++ r') h nx else bif Nat.beq gr s then bif scalL r' then appNew s n m (r ++ r') (h.set b .dead) nx else .bad else .bad
    | _ => .bad
def doApp (s : Nat) (vs : List AV) (h : Tr Blk) (nx : Pos) : Res :=
  match vs with
  | [x, y] => (match slen x, slen y, rowOf s h x, rowOf s h y with
    | some n, some m, some r, some r' => bif Nat.ble (n + m) 16777216 then
        (match x with
        | .sl b o n c => appS s b o n c m r r' h nx
        | .z k l n x => bif Nat.beq m 0 then .ok (.z k l n x) h nx else bif x then appNew s n m (r ++ r') h nx else .bad
        | _ => bif Nat.beq m 0 then .ok .ns h nx else appNew s 0 m r' h nx)
      else .bad
    | _, _, _, _ => .bad)
  | _ => .bad
def doCopy (s : Nat) (vs : List AV) (h : Tr Blk) (nx : Pos) : Res :=
  match vs with
  | [.sl b o n _, .sl b' o' n' _] => (match cellsAt h b' with
    | some l' => (match sub o' (min n' n * s) l' with
      | some r => put b o r (.i .i64 (.ofNat (min n' n))) h nx
      | none => .bad)
    | _ => .bad)
  | [.ns, .sl ..] => .ok (.i .i64 (.ofNat 0)) h nx
  | [.sl .., .ns] => .ok (.i .i64 (.ofNat 0)) h nx
  | [.ns, .ns] => .ok (.i .i64 (.ofNat 0)) h nx
  | _ => .bad
def doMkmap (vs : List AV) (h : Tr Blk) (nx : Pos) : Res := match vs with | [] => .ok (.m nx) (h.set nx (.map [])) nx.succ | _ => .bad
def findE (m : Nat) (e : EK) (k : AV) (l : List (AV × AV)) : Option (Option AV) :=
  match l with
  | [] => some none
  | x :: l => match cmpV m e k x.1, findE m e k l with | some false, r => r | some true, some none => some (some x.2) | _, _ => none
def repE (m : Nat) (e : EK) (k v : AV) (l : List (AV × AV)) : List (AV × AV) :=
  match l with
  | [] => []
  | x :: l => match cmpV m e k x.1 with | some true => (k, v) :: repE m e k v l | _ => x :: repE m e k v l
def setE (m : Nat) (e : EK) (k v : AV) (l : List (AV × AV)) : Option (List (AV × AV)) :=
  match findE m e k l with
  | some none => some (l ++ [(k, v)])
  | some (some _) => some (repE m e k v l)
  | none => none
def keyOk (m : Nat) (k : AV) : Bool := match k with | .a l => bif Nat.beq m 0 then false else Nat.beq l.length m | _ => Nat.beq m 0
def doUpd (m : Nat) (e : EK) (vs : List AV) (h : Tr Blk) (nx : Pos) : Res :=
  match vs with
  | [.m b, k, v] => bif keyOk m k then (match h.get b with | some (.map l) => (match setE m e k v l with | some l => .ok .u (h.set b (.map l)) nx | none => .bad) | _ => .bad) else .bad
  | _ => .bad
def pairs : List AV → Option (List (AV × AV))
  | [] => some []
  | k :: v :: l => match pairs l with | some r => some ((k, v) :: r) | none => none
  | _ => none
def apart1 (m : Nat) (e : EK) (k : AV) : List (AV × AV) → Bool
  | [] => true
  | x :: l => match cmpV m e k x.1, cmpV m e x.1 k with | some false, some false => apart1 m e k l | _, _ => false
def apartL (m : Nat) (e : EK) : List (AV × AV) → Bool
  | [] => true
  | x :: l => bif keyOk m x.1 then bif apart1 m e x.1 l then apartL m e l else false else false
def doMapl (m : Nat) (e : EK) (vs : List AV) (h : Tr Blk) (nx : Pos) : Res :=
  match pairs vs with | some l => bif apartL m e l then .ok (.m nx) (h.set nx (.map l)) nx.succ else .bad | none => .bad
def lookR (ok : Bool) (z : AV) (r : Option AV) : AV :=
  Bool.casesOn ok (Option.casesOn r z (fun v => v)) (Option.casesOn r (.t [z, .b false]) (fun v => .t [v, .b true]))
def doLook (z : AV) (ok : Bool) (m : Nat) (e : EK) (vs : List AV) (h : Tr Blk) (nx : Pos) : Res :=
  match vs with
  | [.m b, k] => bif keyOk m k then (match h.get b with | some (.map l) => (match findE m e k l with | some r => .ok (lookR ok z r) h nx | none => .bad) | _ => .bad) else .bad
  | [.nm, k] => bif keyOk m k then .ok (lookR ok z none) h nx else .bad
  | _ => .bad
def mnL (a : Int) (k : IntKind) (vs : List AV) : Option Int := match vs with | [] => some a | .i j b :: vs => bif keq k j then mnL (bif ilt b a then b else a) k vs else none | _ => none
def mxL (a : Int) (k : IntKind) (vs : List AV) : Option Int := match vs with | [] => some a | .i j b :: vs => bif keq k j then mxL (bif ilt a b then b else a) k vs else none | _ => none
def doMn (vs : List AV) (h : Tr Blk) (nx : Pos) : Res := match vs with | .i k a :: vs => (match mnL a k vs with | some n => .ok (.i k n) h nx | none => .bad) | _ => .bad
def doMx (vs : List AV) (h : Tr Blk) (nx : Pos) : Res := match vs with | .i k a :: vs => (match mxL a k vs with | some n => .ok (.i k n) h nx | none => .bad) | _ => .bad
def exV (cl : AV → List AV → Tr Blk → Pos → Res) (c : OC) (vs : List AV) (h : Tr Blk) (nx : Pos) : Res :=
  OC.casesOn (motive := fun _ => (AV → List AV → Tr Blk → Pos → Res) → List AV → Tr Blk → Pos → Res) c (fun _ => doMv) (fun _ => doPick) (fun op m e _ => doBin op m e) (fun _ => doNot) (fun _ => doNeg) (fun _ => doCom) (fun k _ => doConv k)
    (fun agg n _ => doLoad agg n) (fun n _ => doStore n) (fun z _ => doAlloc z) (fun _ => doBox)
    (fun z os _ => doBuild z os) (fun z n os _ => doBslice z n os)
    (fun o _ => doFaddr o) (fun o n agg _ => doFld o n agg) (fun n s _ => doIaddrA n s) (fun s _ => doIaddrS s) (fun n s agg _ => doIdxA n s agg) (fun _ => doIdxT)
    (fun _ => doNilchk) (fun i _ => doExt i) (fun f cl => cl (.f f [])) (fun cl vs h nx => List.casesOn vs .bad (fun v vs => cl v vs h nx)) (fun k _ => doLen k) (fun n _ _ h nx => .ok (.i .i64 (.ofNat n)) h nx)
    (fun s b _ => doSlS s b) (fun n s b _ => doSlA n s b) (fun b _ => doSlT b)
    (fun z _ => doMkslice z) (fun f _ vs h nx => .ok (.f f vs) h nx) (fun s _ => doApp s) (fun s _ => doCopy s) (fun _ => doMkmap) (fun m e _ => doUpd m e) (fun m e _ => doUpd m e) (fun m e _ => doMapl m e) (fun z ok m e _ => doLook z ok m e) (fun _ => doMn) (fun _ => doMx) cl vs h nx
def ev (T : Tr AV) (x : X) : Option AV := X.casesOn x (fun p => T.get p) (fun v => some v)
def evs (T : Tr AV) (l : List X) : Option (List AV) :=
  List.rec (some []) (fun x _ ih => Option.casesOn (ev T x) none (fun v => Option.casesOn ih none (fun r => some (v :: r)))) l
def setD (d : Option Pos) (v : AV) (T : Tr AV) : Tr AV := Option.casesOn d T (fun p => T.set p v)
def wantG (T : Tr AV) (g : Option (Pos × Bool)) : Option Bool :=
  match g with
  | none => some true
  | some (p, w) => match T.get p with | some (.b x) => some (x == w) | some .u => some false | _ => none
def exOp (cl : AV → List AV → Tr Blk → Pos → Res) (o : Op) (T : Tr AV) (h : Tr Blk) (nx : Pos) : Res :=
  match wantG T o.g with
  | some true => (match evs T o.asx with | some vs => exV cl o.c vs h nx | none => .bad)
  | some false => .ok .u h nx
  | none => .bad
def exOps (cl : AV → List AV → Tr Blk → Pos → Res) (ops : List Op) : Tr AV → Tr Blk → Pos → SR :=
  List.rec (fun T h nx => .ok .n T h nx) (fun o _ ih T h nx => Res.casesOn (exOp cl o T h nx) .bad (fun v h nx => ih (setD o.d v T) h nx)) ops
def noCall : AV → List AV → Tr Blk → Pos → Res := fun _ _ _ _ => .bad
def exIts (its : List It) : Tr AV → Tr Blk → Pos → SR :=
  List.rec (fun T h nx => .ok .n T h nx) (fun x _ ih T h nx => Res.casesOn (exOp noCall x.o T h nx) .bad (fun v h nx => ih (setD x.o.d v T) h nx)) its
def again (its : List It) (T : Tr AV) (h : Tr Blk) (nx : Pos) : Bool :=
  List.rec true (fun x _ ih => match exOp noCall x.o T h nx, x.o.d with
    | .ok v _ _, some d => (match T.get d with | some w => bif sameV v w then ih else false | none => false)
    | _, _ => false) its
def exSts (cl : AV → List AV → Tr Blk → Pos → Res) (st : List (List It × List It × Option It)) : Tr AV → Tr Blk → Pos → SR :=
  List.rec (fun T h nx => .ok .n T h nx) (fun s _ ih T h nx =>
    match exIts s.1 T h nx with
    | .ok _ T h nx => bif again s.2.1 T h nx then
        (match s.2.2 with
        | some x => (match exOp cl x.o T h nx with | .ok v h nx => ih (setD x.o.d v T) h nx | .bad => .bad)
        | none => ih T h nx)
      else .bad
    | .bad => .bad) st
def bindP (ps : List Pos) (asx : List AV) (T : Tr AV) : Option (Tr AV) :=
  List.rec (motive := fun _ => List AV → Tr AV → Option (Tr AV)) (fun asx T => match asx with | [] => some T | _ => none) (fun p _ ih asx T => match asx with | a :: asx => ih asx (T.set p a) | [] => none) ps asx T
def rsOf (r : Rs) (T : Tr AV) (h : Tr Blk) : Option AV :=
  match r with
  | .t p => T.get p
  | .c p agg n => match T.get p with | some (.p b o) => (match cellsAt h b with | some l => rd agg n o l | none => none) | _ => none
def rsAll (rs : List Rs) (T : Tr AV) (h : Tr Blk) : Option (List AV) :=
  List.rec (some []) (fun r _ ih => match rsOf r T h, ih with | some v, some l => some (v :: l) | _, _ => none) rs
def tupOf (vs : List AV) : AV := match vs with | [v] => v | vs => .t vs
structure Ctx where
  fns : Tr Fn
  orc : Tr (List AV → Tr Blk → Pos → Res)
def retF (fn : Fn) (r : SR) : Res :=
  match r with
  | .ok .n T h nx => (match rsAll fn.results T h with | some vs => .ok (tupOf vs) h nx | none => .bad)
  | .ok .r T h nx => (match rsAll fn.results T h with | some vs => .ok (tupOf vs) h nx | none => .bad)
  | _ => .bad
def callF (C : Ctx) (run : AC → Tr AV → Tr Blk → Pos → SR) (f : Pos) (vs : List AV) (h : Tr Blk) (nx : Pos) : Res :=
  match C.orc.get f with
  | some g => g vs h nx
  | none => match C.fns.get f with
    | some fn => (match bindP fn.params vs .lf with | some T => retF fn (run fn.body T h nx) | none => .bad)
    | none => .bad
def endRound (l : Pos) (r : SR) : Res :=
  match r with
  | .ok .n _ h nx => (match h.get l with | some (.loop T0 ps asg body .busy) => .ok (.b true) (h.set l (.loop T0 ps asg body .ready)) nx | _ => .bad)
  | .ok e _ h nx => (match h.get l with | some (.loop T0 ps asg body .busy) => .ok (.b false) (h.set l (.loop T0 ps asg body (.done e))) nx | _ => .bad)
  | .bad => .bad
def roundF (run : AC → Tr AV → Tr Blk → Pos → SR) (l : Pos) (vs : List AV) (h : Tr Blk) (nx : Pos) : Res :=
  match h.get l with
  | some (.loop T0 ps asg body .ready) => (match bindP ps vs T0 with
    | some T => (match run asg T h nx with
      | .ok .n T h nx => (match h.get l with
        | some (.loop T0 ps asg body' .ready) => endRound l (run body T (h.set l (.loop T0 ps asg body' .busy)) nx)
        | _ => .bad)
      | _ => .bad)
    | none => .bad)
  | _ => .bad
def callV (C : Ctx) (run : AC → Tr AV → Tr Blk → Pos → SR) (f : AV) (vs : List AV) (h : Tr Blk) (nx : Pos) : Res :=
  match f with
  | .f f c => callF C run f (vs ++ c) h nx
  | .y l => roundF run l vs h nx
  | _ => .bad
def endLoop (T0 : Tr AV) (l : Pos) (r : Res) : SR :=
  match r with
  | .ok _ h nx => (match h.get l with
    | some (.loop _ _ _ _ .ready) => .ok .n T0 (h.set l .dead) nx
    | some (.loop _ _ _ _ (.done e)) => .ok e T0 (h.set l .dead) nx
    | _ => .bad)
  | .bad => .bad
def seqR (k : Tr AV → Tr Blk → Pos → SR) (r : SR) : SR := match r with | .ok .n T h nx => k T h nx | r => r
def blkR (id : Nat) (r : SR) : SR := match r with | .ok (.x j) T h nx => bif Nat.beq j id then .ok .n T h nx else .ok (.x j) T h nx | r => r
def condR (v : Option AV) (a b : SR) : SR := match v with | some (.b true) => a | some (.b false) => b | _ => .bad
def rfR (C : Ctx) (run : AC → Tr AV → Tr Blk → Pos → SR) (x : Option AV) (ps : List Pos) (asg body : AC) (T : Tr AV) (h : Tr Blk) (nx : Pos) : SR :=
  match x with
  | some (.f f c) => endLoop T nx (callF C run f (.y nx :: c) (h.set nx (.loop T ps asg body .ready)) nx.succ)
  | _ => .bad
def exec1 (C : Ctx) (run : AC → Tr AV → Tr Blk → Pos → SR) (c : AC) (T : Tr AV) (h : Tr Blk) (nx : Pos) : SR :=
  AC.casesOn c (.ok .n T h nx) (fun ops => exOps (callV C run) ops T h nx) (fun st => exSts (callV C run) st T h nx)
    (fun a b => seqR (run b) (run a T h nx)) (fun x a b => condR (ev T x) (run a T h nx) (run b T h nx)) (fun id a => blkR id (run a T h nx))
    (fun a => seqR (run (.loop a)) (run a T h nx)) (fun id => .ok (.x id) T h nx) (.ok .r T h nx) (fun x ps asg body => rfR C run (ev T x) ps asg body T h nx)
def exec (C : Ctx) (fuel : Nat) : AC → Tr AV → Tr Blk → Pos → SR :=
  Nat.rec (motive := fun _ => AC → Tr AV → Tr Blk → Pos → SR) (fun _ _ _ _ => .bad) (fun _ ih c T h nx => exec1 C ih c T h nx) fuel
def calls (C : Ctx) (fuel : Nat) (f : Pos) (vs : List AV) (h : Tr Blk) (nx : Pos) : Res := callF C (exec C fuel) f vs h nx
end
end Go.AR
namespace Go.AR
def Pos.num : Pos → Nat | .h => 1 | .o p => 2 * p.num | .i p => 2 * p.num + 1
theorem Pos.num_pos : ∀ p : Pos, 0 < p.num
  | .h => by simp [Pos.num]
  | .o p => by have := p.num_pos; simp [Pos.num]; omega
  | .i p => by simp [Pos.num]
theorem Pos.num_inj : ∀ {p q : Pos}, p.num = q.num → p = q
  | .h, .h, _ => rfl
  | .o p, .o q, e => congrArg Pos.o (Pos.num_inj (by simp only [Pos.num] at e; omega))
  | .i p, .i q, e => congrArg Pos.i (Pos.num_inj (by simp only [Pos.num] at e; omega))
  | .h, .o q, e => by have := q.num_pos; simp [Pos.num] at e; omega
  | .h, .i q, e => by have := q.num_pos; simp [Pos.num] at e; omega
  | .o p, .h, e => by have := p.num_pos; simp [Pos.num] at e; omega
  | .i p, .h, e => by have := p.num_pos; simp [Pos.num] at e; omega
  | .o p, .i q, e => by simp [Pos.num] at e; omega
  | .i p, .o q, e => by simp [Pos.num] at e; omega
theorem Pos.num_succ : ∀ p : Pos, p.succ.num = p.num + 1
  | .h => rfl
  | .o p => rfl
  | .i p => by show 2 * p.succ.num = _; rw [Pos.num_succ p]; simp [Pos.num]; omega
theorem num_pos_nat (n : Nat) : (pos n).num = n + 1 := by
  induction n with
  | zero => rfl
  | succ n ih => show (pos n).succ.num = _; rw [Pos.num_succ, ih]
theorem pos_inj {a b : Nat} (h : pos a = pos b) : a = b := by have := congrArg Pos.num h; simp [num_pos_nat] at this; exact this
theorem Pos.beq_eq : ∀ {p q : Pos}, p.beq q = true → p = q
  | .h, .h, _ => rfl
  | .o p, .o q, e => by have : p.beq q = true := e; rw [Pos.beq_eq this]
  | .i p, .i q, e => by have : p.beq q = true := e; rw [Pos.beq_eq this]
  | .h, .o _, e => by cases e
  | .h, .i _, e => by cases e
  | .o _, .h, e => by cases e
  | .i _, .h, e => by cases e
  | .o _, .i _, e => by cases e
  | .i _, .o _, e => by cases e
variable {α : Type}
theorem Tr.get_lf : ∀ p : Pos, (Tr.lf : Tr α).get p = none
  | .h => rfl
  | .o _ => rfl
  | .i _ => rfl
theorem Tr.get_set_same : ∀ (p : Pos) (x : α) (t : Tr α), (t.set p x).get p = some x
  | .h, _, .lf => rfl
  | .h, _, .nd _ _ _ => rfl
  | .o p, x, .lf => Tr.get_set_same p x .lf
  | .o p, x, .nd l _ _ => Tr.get_set_same p x l
  | .i p, x, .lf => Tr.get_set_same p x .lf
  | .i p, x, .nd _ _ r => Tr.get_set_same p x r
theorem Tr.get_set_other : ∀ {p q : Pos} (x : α) (t : Tr α), p ≠ q → (t.set p x).get q = t.get q
  | .h, .h, _, _, h => absurd rfl h
  | .h, .o q, _, .lf, _ => Tr.get_lf q
  | .h, .i q, _, .lf, _ => Tr.get_lf q
  | .h, .o _, _, .nd _ _ _, _ => rfl
  | .h, .i _, _, .nd _ _ _, _ => rfl
  | .o _, .h, _, .lf, _ => rfl
  | .o _, .h, _, .nd _ _ _, _ => rfl
  | .o p, .o q, x, .lf, h => (Tr.get_set_other (p := p) (q := q) x .lf (fun e => h (e ▸ rfl))).trans (Tr.get_lf q)
  | .o p, .o q, x, .nd l _ _, h => Tr.get_set_other (p := p) (q := q) x l (fun e => h (e ▸ rfl))
  | .o _, .i q, _, .lf, _ => Tr.get_lf q
  | .o _, .i _, _, .nd _ _ _, _ => rfl
  | .i _, .h, _, .lf, _ => rfl
  | .i _, .h, _, .nd _ _ _, _ => rfl
  | .i _, .o q, _, .lf, _ => Tr.get_lf q
  | .i _, .o _, _, .nd _ _ _, _ => rfl
  | .i p, .i q, x, .lf, h => (Tr.get_set_other (p := p) (q := q) x .lf (fun e => h (e ▸ rfl))).trans (Tr.get_lf q)
  | .i p, .i q, x, .nd _ _ r, h => Tr.get_set_other (p := p) (q := q) x r (fun e => h (e ▸ rfl))
theorem takeN_eq : ∀ (n : Nat) (l r : List α), takeN n l = some r → l = r ++ dropN n l ∧ r.length = n
  | 0, l, r, h => by cases h; exact ⟨rfl, rfl⟩
  | n + 1, [], r, h => by cases h
  | n + 1, a :: t, r, h => by
    have h' : (Option.casesOn (takeN n t) none (fun r => some (a :: r)) : Option (List α)) = some r := h
    cases ht : takeN n t with
    | none => rw [ht] at h'; cases h'
    | some r' =>
      rw [ht] at h'; cases h'
      obtain ⟨h1, h2⟩ := takeN_eq n t r' ht
      exact ⟨by show a :: t = a :: (r' ++ dropN n t); rw [← h1], by simp [h2]⟩
theorem dropN_eq : ∀ (n : Nat) (l : List α), dropN n l = l.drop n
  | 0, l => rfl
  | n + 1, [] => rfl
  | n + 1, a :: t => dropN_eq n t
theorem sub_eq {o n : Nat} {l r : List α} (h : sub o n l = some r) : l = l.take o ++ r ++ l.drop (o + n) ∧ r.length = n ∧ o + n ≤ l.length ∨ (n = 0 ∧ r = []) := by
  unfold sub at h
  obtain ⟨h1, h2⟩ := takeN_eq n _ r h
  rw [dropN_eq, dropN_eq] at h1
  by_cases ho : o ≤ l.length
  · left
    refine ⟨?_, h2, ?_⟩
    · rw [List.append_assoc, ← List.drop_drop, ← h1, List.take_append_drop]
    · have := congrArg List.length h1; simp [h2] at this; omega
  · right
    have hd : l.drop o = [] := List.drop_eq_nil_of_le (by omega)
    rw [hd] at h1
    have : r = [] := by cases r with | nil => rfl | cons a t => simp at h1
    subst this
    exact ⟨h2.symm, rfl⟩
theorem over_eq : ∀ (new l r : List α), over new l = some r → r = new ++ l.drop new.length ∧ new.length ≤ l.length
  | [], l, r, h => by cases h; exact ⟨rfl, by simp⟩
  | a :: new, [], r, h => by cases h
  | a :: new, b :: t, r, h => by
    have h' : (Option.casesOn (over new t) none (fun r => some (a :: r)) : Option (List α)) = some r := h
    cases ht : over new t with
    | none => rw [ht] at h'; cases h'
    | some r' =>
      rw [ht] at h'; cases h'
      obtain ⟨h1, h2⟩ := over_eq new t r' ht
      exact ⟨by rw [h1]; rfl, by simp; exact h2⟩
theorem spl_eq : ∀ (o : Nat) (new l r : List α), spl o new l = some r → r = l.take o ++ new ++ l.drop (o + new.length) ∧ o + new.length ≤ l.length
  | 0, new, l, r, h => by obtain ⟨h1, h2⟩ := over_eq new l r h; exact ⟨by simpa using h1, by omega⟩
  | o + 1, new, [], r, h => by cases h
  | o + 1, new, a :: t, r, h => by
    have h' : (Option.casesOn (spl o new t) none (fun r => some (a :: r)) : Option (List α)) = some r := h
    cases ht : spl o new t with
    | none => rw [ht] at h'; cases h'
    | some r' =>
      rw [ht] at h'; cases h'
      obtain ⟨h1, h2⟩ := spl_eq o new t r' ht
      refine ⟨?_, by simp; omega⟩
      rw [h1, show o + 1 + new.length = (o + new.length) + 1 by omega]; rfl
theorem hd_drop {o : Nat} {l : List α} {v : α} (h : hd (dropN o l) = some v) : l[o]? = some v := by
  rw [dropN_eq] at h
  have : (l.drop o)[0]? = some v := by
    cases hl : l.drop o with
    | nil => rw [hl] at h; cases h
    | cons a t => rw [hl] at h; simpa [hd] using h
  simpa using this
structure Ext where
  rb : Nat
  base : Nat
  n : Nat
  tot : Nat
  gr : Nat
structure G where
  μ : Pos → Option Ext
  ζ : Bool → Nat → Option Obj
def RowAt (ζ : Nat → Option Obj) (a : Option Addr) (vs : List Value) : Prop :=
  vs = [] ∨ ∃ rb off C t, a = some ⟨rb, off, none⟩ ∧ ζ rb = some (.cells C t (0, 0)) ∧ ∀ (j : Nat) (y : Value), vs[j]? = some y → C[off + j]? = some y
def bytesOf (l : List Nat) : ByteArray := ⟨(l.map UInt8.ofNat).toArray⟩
def valD (ds : List Nat) : Nat := ds.foldr (fun d r => d + 4294967296 * r) 0
def DigitsAt (ζ : Nat → Option Obj) (n : Nat) (a : Option Addr) (len cap : Nat) : Prop :=
  ∃ ds : List Nat, valD ds = n ∧ ds.length = len ∧ (∀ d ∈ ds, d < 4294967296) ∧ (∀ d, ds.getLast? = some d → d ≠ 0) ∧ (len ≤ cap ∧ (a = none → cap = 0)) ∧
    (ds = [] ∨ ∃ rb off C t, a = some ⟨rb, off, none⟩ ∧ ζ rb = some (.cells C t (0, 0)) ∧ ∀ (j d : Nat), ds[j]? = some d → C[off + j]? = some (.int .u32 d))
def ratText (n : Int) (d : Nat) : List Nat := (if d = 1 then toString n else toString n ++ "/" ++ toString d).toUTF8.toList.map UInt8.toNat
mutual
def pu (k : Bool) : AV → Bool
  | .p _ _ => false
  | .sl _ _ _ _ => false
  | .m _ => false
  | .y _ => false
  | .f _ c => puL k c
  | .a l => puL k l
  | .t l => puL k l
  | .z j l _ _ => (k || !j) && puL k l
  | .zp j l => (k || !j) && puL k l
  | _ => true
def puL (k : Bool) : List AV → Bool
  | [] => true
  | x :: l => pu k x && puL k l
end
theorem puL_append {k : Bool} : ∀ {a b : List AV}, puL k (a ++ b) = (puL k a && puL k b)
  | [], b => rfl
  | x :: a, b => by simp [puL, puL_append (a := a), Bool.and_assoc]
theorem puL_drop {k : Bool} {l : List AV} (h : puL k l = true) (n : Nat) : puL k (l.drop n) = true := by
  rw [← List.take_append_drop n l, puL_append] at h; simp at h; exact h.2
theorem puL_take {k : Bool} {l : List AV} (h : puL k l = true) (n : Nat) : puL k (l.take n) = true := by
  rw [← List.take_append_drop n l, puL_append] at h; simp at h; exact h.1
mutual
inductive V (Γ : G) : AV → Value → Prop
  | u : V Γ .u undef
  | b (x : Bool) : V Γ (.b x) (.bool x)
  | i (k : IntKind) (n : Int) : V Γ (.i k n) (.int k n)
  | s (l : List Nat) (h : ∀ x ∈ l, x < 256) : V Γ (.s l) (.string (bytesOf l))
  | q (n : Int) (d : Nat) : V Γ (.q n d) (.string (bytesOf (ratText n d)))
  | p (b : Pos) (o : Nat) (e : Ext) (he : Γ.μ b = some e) : V Γ (.p b o) (.pointer (some ⟨e.rb, e.base + o, none⟩))
  | np : V Γ .np (.pointer none)
  | sl (b : Pos) (o n c c' : Nat) (e : Ext) (he : Γ.μ b = some e) (hn : n ≤ c) (hc : c' = c ∨ (0 < e.gr ∧ c ≤ c' ∧ o + c * e.gr = e.n ∧ o + c' * e.gr ≤ e.tot)) :
      V Γ (.sl b o n c) (.slice (some ⟨e.rb, e.base + o, none⟩) n c')
  | ns : V Γ .ns (.slice none 0 0)
  | m (b : Pos) (e : Ext) (he : Γ.μ b = some e) : V Γ (.m b) (.map (some e.rb))
  | nm : V Γ .nm (.map none)
  | f (f : Nat) (c : List AV) (vs : Array Value) (h : VL Γ c vs.toList) : V Γ (.f (pos f) c) (.func (.func f) #[] vs)
  | nf : V Γ .nf .nilFunc
  | ni : V Γ .ni .nilIface
  | g (n : Nat) (a : Option Addr) (len cap : Nat) (h : DigitsAt (Γ.ζ false) n a len cap) : V Γ (.g n) (.slice a len cap)
  | y (l : Pos) (e : Ext) (he : Γ.μ l = some e) : V Γ (.y l) (.func (.yield e.rb) #[] #[])
  | a (l : List AV) (vs : Array Value) (h : VL Γ l vs.toList) : V Γ (.a l) (.agg vs)
  | t (l : List AV) (vs : Array Value) (h : VL Γ l vs.toList) : V Γ (.t l) (.tuple vs)
  | z (k : Bool) (l : List AV) (n : Nat) (x : Bool) (a : Option Addr) (cap : Nat) (vs : List Value) (h : VL Γ l vs) (hr : RowAt (Γ.ζ k) a vs) (hn : n ≤ cap) (hx : x = true → cap = n) (ha : a = none → cap = 0) (hp : puL k l = true) : V Γ (.z k l n x) (.slice a n cap)
  | zp (k : Bool) (l : List AV) (rb off : Nat) (vs : List Value) (h : VL Γ l vs) (hr : RowAt (Γ.ζ k) (some ⟨rb, off, none⟩) vs) (hp : puL k l = true) : V Γ (.zp k l) (.pointer (some ⟨rb, off, none⟩))
inductive VL (Γ : G) : List AV → List Value → Prop
  | nil : VL Γ [] []
  | cons {x : AV} {v : Value} {l : List AV} {vs : List Value} (h : V Γ x v) (t : VL Γ l vs) : VL Γ (x :: l) (v :: vs)
end
structure G.le (Γ Γ' : G) : Prop where
  μ : ∀ b e, Γ.μ b = some e → Γ'.μ b = some e
  ζ : ∀ k r o, Γ.ζ k r = some o → Γ'.ζ k r = some o
theorem G.le.refl (Γ : G) : Γ.le Γ := ⟨fun _ _ h => h, fun _ _ _ h => h⟩
theorem G.le.trans {a b c : G} (h : a.le b) (k : b.le c) : a.le c := ⟨fun x e h' => k.μ x e (h.μ x e h'), fun i x e h' => k.ζ i x e (h.ζ i x e h')⟩
theorem DigitsAt.mono {ζ ζ' : Nat → Option Obj} (hz : ∀ r o, ζ r = some o → ζ' r = some o) {n : Nat} {a : Option Addr} {len cap : Nat} (h : DigitsAt ζ n a len cap) : DigitsAt ζ' n a len cap := by
  obtain ⟨ds, h1, h2, h3, h4, h5, h6⟩ := h
  refine ⟨ds, h1, h2, h3, h4, h5, ?_⟩
  rcases h6 with h6 | ⟨rb, off, C, t, ha, hr, hc⟩
  · exact .inl h6
  · exact .inr ⟨rb, off, C, t, ha, hz _ _ hr, hc⟩
theorem RowAt.mono {ζ ζ' : Nat → Option Obj} (hz : ∀ r o, ζ r = some o → ζ' r = some o) {a : Option Addr} {vs : List Value} (h : RowAt ζ a vs) : RowAt ζ' a vs := by
  rcases h with h | ⟨rb, off, C, t, ha, hr, hc⟩
  · exact .inl h
  · exact .inr ⟨rb, off, C, t, ha, hz _ _ hr, hc⟩
mutual
theorem V.mono {Γ Γ' : G} (hl : Γ.le Γ') {x : AV} {v : Value} (h : V Γ x v) : V Γ' x v :=
  match h with
  | .u => .u
  | .b x => .b x
  | .i k n => .i k n
  | .s l h => .s l h
  | .q n d => .q n d
  | .p b o e he => .p b o e (hl.μ _ _ he)
  | .np => .np
  | .sl b o n c c' e he hn hc => .sl b o n c c' e (hl.μ _ _ he) hn hc
  | .ns => .ns
  | .m b e he => .m b e (hl.μ _ _ he)
  | .nm => .nm
  | .f f c vs h => .f f c vs (VL.mono hl h)
  | .nf => .nf
  | .ni => .ni
  | .g n a len cap h => .g n a len cap (h.mono (hl.ζ false))
  | .y l e he => .y l e (hl.μ _ _ he)
  | .a l vs h => .a l vs (VL.mono hl h)
  | .t l vs h => .t l vs (VL.mono hl h)
  | .z k l n x a cap vs h hr hn hx ha hp => .z k l n x a cap vs (VL.mono hl h) (hr.mono (hl.ζ k)) hn hx ha hp
  | .zp k l rb off vs h hr hp => .zp k l rb off vs (VL.mono hl h) (hr.mono (hl.ζ k)) hp
theorem VL.mono {Γ Γ' : G} (hl : Γ.le Γ') {x : List AV} {v : List Value} (h : VL Γ x v) : VL Γ' x v :=
  match h with
  | .nil => .nil
  | .cons h t => .cons (V.mono hl h) (VL.mono hl t)
end
section
variable {Γ : G}
theorem VL.length {l : List AV} {vs : List Value} (h : VL Γ l vs) : vs.length = l.length := by
  induction l generalizing vs with
  | nil => cases h; rfl
  | cons a t ih => cases h with | cons h1 h2 => simp [ih h2]
theorem VL.append {l l' : List AV} {vs vs' : List Value} (h : VL Γ l vs) (h' : VL Γ l' vs') : VL Γ (l ++ l') (vs ++ vs') := by
  induction l generalizing vs with
  | nil => cases h; exact h'
  | cons a t ih => cases h with | cons h1 h2 => exact .cons h1 (ih h2)
theorem VL.split {l l' : List AV} {vs : List Value} (h : VL Γ (l ++ l') vs) : ∃ a b, vs = a ++ b ∧ VL Γ l a ∧ VL Γ l' b := by
  induction l generalizing vs with
  | nil => exact ⟨[], vs, rfl, .nil, h⟩
  | cons x t ih =>
    cases h with
    | cons h1 h2 => obtain ⟨a, b, rfl, h3, h4⟩ := ih h2; exact ⟨_ :: a, b, rfl, .cons h1 h3, h4⟩
theorem VL.get {l : List AV} {vs : List Value} (h : VL Γ l vs) {i : Nat} {x : AV} (hx : l[i]? = some x) : ∃ v, vs[i]? = some v ∧ V Γ x v := by
  induction l generalizing vs i with
  | nil => simp at hx
  | cons a t ih =>
    cases h with
    | cons h1 h2 =>
      cases i with
      | zero => simp at hx; subst hx; exact ⟨_, rfl, h1⟩
      | succ i => simp at hx; simpa using ih h2 hx
theorem VL.one {x : AV} {v : Value} (h : V Γ x v) : VL Γ [x] [v] := .cons h .nil
theorem V.cells {x : AV} {v : Value} (h : V Γ x v) : VL Γ (cellsOf x) v.cells.toList := by
  cases h with
  | a l vs h => exact h
  | u => exact .one .u
  | b x => exact .one (.b x)
  | i k n => exact .one (.i k n)
  | s l h => exact .one (.s l h)
  | q n d => exact .one (.q n d)
  | p b o e he => exact .one (.p b o e he)
  | np => exact .one .np
  | sl b o n c c' e he hn hc => exact .one (.sl b o n c c' e he hn hc)
  | ns => exact .one .ns
  | m b e he => exact .one (.m b e he)
  | nm => exact .one .nm
  | f f c vs h => exact .one (.f f c vs h)
  | nf => exact .one .nf
  | ni => exact .one .ni
  | g n a len cap h => exact .one (.g n a len cap h)
  | y l e he => exact .one (.y l e he)
  | t l vs h => exact .one (.t l vs h)
  | z k l n x a cap vs h hr hn hx ha hp => exact .one (.z k l n x a cap vs h hr hn hx ha hp)
  | zp k l rb off vs h hr hp => exact .one (.zp k l rb off vs h hr hp)
theorem VL.drop {l : List AV} {vs : List Value} (h : VL Γ l vs) (k : Nat) : VL Γ (l.drop k) (vs.drop k) := by
  induction k generalizing l vs with
  | zero => exact h
  | succ k ih => cases h with | nil => exact .nil | cons _ t => exact ih t
theorem VL.take {l : List AV} {vs : List Value} (h : VL Γ l vs) (k : Nat) : VL Γ (l.take k) (vs.take k) := by
  induction k generalizing l vs with
  | zero => exact .nil
  | succ k ih => cases h with | nil => exact .nil | cons g t => exact .cons g (ih t)
theorem V.oneCell {x : AV} {v : Value} (h : V Γ x v) (hs : scal x = true) : v.oneCell' = true := by
  cases h <;> first | rfl | cases hs
theorem VL.oneCells {l : List AV} {vs : List Value} (h : VL Γ l vs) (hs : scalL l = true) : ∀ v ∈ vs, v.oneCell' = true := by
  induction l generalizing vs with
  | nil => cases h; simp
  | cons a t ih =>
    cases h with
    | cons h1 h2 =>
      have hb : (bif scal a then scalL t else false) = true := hs
      cases ha : scal a with
      | false => rw [ha] at hb; cases hb
      | true =>
        rw [ha] at hb
        intro v hv
        cases hv with
        | head => exact V.oneCell h1 ha
        | tail _ hv => exact ih h2 hb v hv
end
noncomputable section
def compV : Value → Option AV
  | .bool b => some (.b b)
  | .int k n => some (.i k n)
  | .string s => some (.s (s.data.toList.map UInt8.toNat))
  | .pointer none => some .np
  | .slice none 0 0 => some .ns
  | .map none => some .nm
  | .nilFunc => some .nf
  | .nilIface => some .ni
  | _ => none
def allO {α β : Type} (f : α → Option β) : List α → Option (List β)
  | [] => some []
  | x :: l => match f x, allO f l with | some y, some r => some (y :: r) | _, _ => none
def compX (n : Nat) : Operand → Option X
  | .tmp t => if t < n then some (.t (pos t)) else none
  | .const v => (compV v).map .c
  | .func f => some (.c (.f (pos f) []))
  | .global _ => none
def szOf (P : Program) (t : TypeId) : Option Nat := (P.info? t).map (·.size)
def isAggD : TypeDesc → Bool | .struct _ | .array _ _ => true | _ => false
def aggOf (P : Program) (t : TypeId) : Option Bool := (P.underlying t).map isAggD
def zeroV (P : Program) (t : TypeId) : Option Value := (P.info? t).bind (·.zero)
def zeroOf (P : Program) (t : TypeId) : Option (List AV) := (zeroV P t).bind fun z => allO compV z.cells.toList
def zero1 (P : Program) (t : TypeId) : Option AV :=
  match aggOf P t, zeroV P t with
  | some true, some (.agg cs) => (allO compV cs.toList).map .a
  | some false, some z => compV z
  | _, _ => none
def binOf : BinOp → Option Bin
  | .add => some .add | .sub => some .sub | .mul => some .mul | .quo => some .quo | .rem => some .rem | .and => some .and | .or => some .or | .xor => some .xor
  | .andNot => some .andNot | .shl => some .shl | .shr => some .shr | .eql => some .eql | .neq => some .neq | .lss => some .lss | .leq => some .leq | .gtr => some .gtr | .geq => some .geq
def ekOf (P : Program) (t : TypeId) : Option EK := match P.underlying t with | some .bool => some .b | some (.int _) => some .i | some .string => some .s | _ => none
def eqN (P : Program) (t : TypeId) : Option (Nat × EK) :=
  match P.underlying t with
  | some (.array m e) => (match ekOf P e with | some k => if szOf P e = some 1 ∧ 0 < m then some (m, k) else none | none => none)
  | _ => (ekOf P t).map fun k => (0, k)
def eqT (P : Program) (op : BinOp) (t : TypeId) : Option (Nat × EK) :=
  match op with
  | .eql | .neq => (match P.underlying t with
    | some (.slice _) => some (0, .l)
    | some (.array _ _) => if P.eqGuardType P.depth t then none else eqN P t
    | _ => eqN P t)
  | _ => (match P.underlying t with | some (.int _) | some .string => some (0, .i) | _ => none)
def compOs (P : Program) (fs : List (Nat × Nat)) : List (Nat × Operand) → Option (List (Nat × Nat) × List Operand)
  | [] => some ([], [])
  | (i, x) :: l => match fs[i]?, compOs P fs l with | some f, some (a, b) => some (f :: a, x :: b) | _, _ => none
def fieldsOf (P : Program) (fs : List Field) : Option (List (Nat × Nat)) := allO (fun f => (szOf P f.type).map fun s => (f.offset, s)) fs
def bsOf (lo hi mx : Option Operand) : Bs := ⟨lo.isSome, hi.isSome, mx.isSome⟩
def boundsL (lo hi mx : Option Operand) : List Operand := lo.toList ++ hi.toList ++ mx.toList
def compO (P : Program) (n : Nat) : Go.Op → Option (OC × List Operand)
  | .move x => some (.mv, [x])
  | .assign x => some (.mv, [x])
  | .pick c a b => some (.pick, [c, a, b])
  | .alloc t => (zeroOf P t).map fun z => (.alloc z, [])
  | .box _ x => some (.box, [x])
  | .build t ps => match P.underlying t, zeroOf P t with
    | some (.struct fs), some z => (match fieldsOf P fs.toList with
      | some pl => (compOs P pl ps.toList).map fun r => (.build z r.1, r.2)
      | none => none)
    | some (.array m e), some z => (match szOf P e with
      | some s => (compOs P ((List.range m).map fun i => (i * s, s)) ps.toList).map fun r => (.build z r.1, r.2)
      | none => none)
    | _, _ => none
  | .buildSlice t m ps => match P.underlying t with
    | some (.slice e) => (match zeroOf P e, szOf P e with
      | some z, some s => if z.length = s ∧ 0 < s ∧ m * s ≤ 65536 then (compOs P ((List.range m).map fun i => (i * s, s)) ps.toList).map fun r => (.bslice (rep m z) m r.1, r.2) else none
      | _, _ => none)
    | _ => none
  | .load t x => match aggOf P t, szOf P t with | some a, some s => some (.load a s, [x]) | _, _ => none
  | .store t a v => (szOf P t).map fun s => (.store s, [a, v])
  | .nilCheck x => some (.nilchk, [x])
  | .binOp op t x y _ => match binOf op, eqT P op t with | some b, some m => some (.bin b m.1 m.2, [x, y]) | _, _ => none
  | .unOp .not _ x => some (.not, [x])
  | .unOp .neg _ x => some (.neg, [x])
  | .unOp .xor _ x => some (.com, [x])
  | .convert s d x => match P.underlying s, P.underlying d with | some (.int _), some (.int k) => some (.conv k, [x]) | _, _ => none
  | .fieldAddr t x f => match P.underlying t with
    | some (.struct fs) => (match fs[f]? with | some fd => (match szOf P fd.type with | some (_ + 1) => some (.faddr fd.offset, [x]) | _ => none) | none => none)
    | _ => none
  | .field t x f => match P.underlying t with
    | some (.struct fs) => (match fs[f]? with | some fd => (match aggOf P fd.type, szOf P fd.type with | some a, some s => some (.fld fd.offset s a, [x]) | _, _ => none) | none => none)
    | _ => none
  | .indexAddr t x i => match P.underlying t with
    | some (.array m e) => (szOf P e).map fun s => (.iaddrA m s, [x, i])
    | some (.slice e) => (szOf P e).map fun s => (.iaddrS s, [x, i])
    | _ => none
  | .index t x i => match P.underlying t with
    | some (.array m e) => (match aggOf P e, szOf P e with | some a, some s => some (.idxA m s a, [x, i]) | _, _ => none)
    | some .string => some (.idxT, [x, i])
    | _ => none
  | .extract x i => some (.ext i, [x])
  | .makeFunc (.func f) first captured => if first.size = 0 then some (.mkfn (pos f), captured.toList) else none
  | .makeSlice t l c => match P.underlying t with
    | some (.slice e) => (match zeroOf P e, szOf P e, P.info? e with
      | some z, some s, some i => if z.length = s ∧ 0 < s ∧ i.bytes ≤ 1048576 then some (.mkslice z, [l, c]) else none
      | _, _, _ => none)
    | _ => none
  | .slice t x lo hi mx => match P.underlying t with
    | some (.slice e) => (szOf P e).map fun s => (.slS s (bsOf lo hi mx), x :: boundsL lo hi mx)
    | some (.array m e) => (szOf P e).map fun s => (.slA m s (bsOf lo hi mx), x :: boundsL lo hi mx)
    | some .string => if mx = none then some (.slT (bsOf lo hi mx), x :: boundsL lo hi mx) else none
    | _ => none
  | .makeMap t none => match P.underlying t with | some (.map _ _) => some (.mkmap, []) | _ => none
  | .lookup t m k ok => match P.underlying t with
    | some (.map kt e) => (match zero1 P e, eqN P kt with | some z, some q => some (.look z ok q.1 q.2, [m, k]) | _, _ => none)
    | _ => none
  | .mapUpdate t m k v => match P.underlying t with
    | some (.map kt _) => (eqN P kt).map fun q => (.upd q.1 q.2, [m, k, v])
    | _ => none
  | .insert t m k v => match P.underlying t with
    | some (.map kt _) => (eqN P kt).map fun q => (.ins q.1 q.2, [m, k, v])
    | _ => none
  | .call { callee := .value (.func f), args, .. } => some (.call (pos f), args.toList)
  | .call { callee := .value (.tmp t), args, .. } => some (.callv, .tmp t :: args.toList)
  | .call { callee := .builtin .len, args, argTypes } => match argTypes[0]?, args.toList with
    | some t, [x] => (match P.underlying t with
      | some (.array m _) => some (.lenA m, [])
      | some .string => some (.len .s, [x])
      | some (.slice _) => some (.len .l, [x])
      | some (.map _ _) => some (.len .i, [x])
      | _ => none)
    | _, _ => none
  | .call { callee := .builtin .append, args, argTypes } => match argTypes[0]?, argTypes[1]?, args.toList with
    | some t, some t', [x, y] => (match P.underlying t with
      | some (.slice e) => (match szOf P e, P.info? e, zeroOf P e with
        | some s, some i, some z => if z.length = s ∧ 0 < s ∧ i.bytes ≤ 1048576 ∧ t' = t ∧ argTypes.size = 2 then some (.app s, [x, y]) else none
        | _, _, _ => none)
      | _ => none)
    | _, _, _ => none
  | .call { callee := .builtin .min, args, .. } => some (.mn, args.toList)
  | .call { callee := .builtin .max, args, .. } => some (.mx, args.toList)
  | _ => none
def compD (n : Nat) : Option Tmp → Option (Option Pos)
  | none => some none
  | some d => if d < n then some (some (pos d)) else none
def compG (n : Nat) (ops : Array Oper) : Option (Nat × Bool) → Option (Option (Pos × Bool))
  | none => some none
  | some (j, w) => match (ops[j]?).bind (·.dst) with
    | some t => if t < n then some (some (pos t, w)) else none
    | none => none
def compOper (P : Program) (n : Nat) (ops : Array Oper) (o : Oper) : Option Op :=
  match compO P n o.op, compD n o.dst, compG n ops o.guard with
  | some (c, xs), some d, some g => (match allO (compX n) xs with | some asx => some ⟨d, g, c, asx⟩ | none => none)
  | _, _, _ => none
end
end Go.AR
namespace Go.AR
def alive (h : Tr Blk) (b : Pos) : Prop := ∃ B, h.get b = some B ∧ B ≠ .dead
inductive EL (Γ : G) : List (AV × AV) → List MapEntry → Prop
  | nil : EL Γ [] []
  | cons {k v : AV} {l : List (AV × AV)} {e : MapEntry} {es : List MapEntry} (hk : V Γ k e.key) (hv : V Γ v e.val) (t : EL Γ l es) : EL Γ ((k, v) :: l) (e :: es)
def MapRel (Γ : G) (l : List (AV × AV)) (es : Array MapEntry) : Prop := ∃ l', l'.Perm l ∧ EL Γ l' es.toList
structure LoopOk where
  rel : Tr AV → List Pos → AC → AC → LSt → G → Loop → Prop
  base : Nat → Option Obj
instance : CoeFun LoopOk (fun _ => Tr AV → List Pos → AC → AC → LSt → G → Loop → Prop) := ⟨LoopOk.rel⟩
inductive BlkRel (L : LoopOk) (Γ : G) (e : Ext) : Blk → Obj → Prop
  | cells (l : List AV) (C : Array Value) (t : TypeId) (pre mid post : List Value) (hC : C.toList = pre ++ mid ++ post) (hp : pre.length = e.base) (hm : VL Γ l mid)
      (hn : e.n = l.length) (ht : e.tot = l.length + post.length) (hg : e.gr = 0 → post = []) : BlkRel L Γ e (.cells l e.gr) (.cells C t (0, 0))
  | map (l : List (AV × AV)) (es : Array MapEntry) (ck : Nat) (h : MapRel Γ l es) : BlkRel L Γ e (.map l) (.map es ck)
  | loop (T : Tr AV) (ps : List Pos) (asg body : AC) (st : LSt) (r : Loop) (h : L T ps asg body st Γ r) : BlkRel L Γ e (.loop T ps asg body st) (.loop r)
structure R (L : LoopOk) (Γ : G) (h : Tr Blk) (nx : Pos) (w : World) : Prop where
  blk : ∀ b e, Γ.μ b = some e → ∃ B, h.get b = some B ∧ (B = .dead ∨ ∃ o, w.heap[e.rb]? = some o ∧ BlkRel L Γ e B o)
  lt : ∀ b e, Γ.μ b = some e → b.num < nx.num ∧ e.rb < w.heap.size
  inj : ∀ b e b' e', Γ.μ b = some e → Γ.μ b' = some e' → alive h b → alive h b' → e.rb = e'.rb → b = b'
  zone : ∀ k r o, Γ.ζ k r = some o → w.heap[r]? = some o
  zfree : ∀ b e, Γ.μ b = some e → alive h b → ∀ k, Γ.ζ k e.rb = none
  zcells : ∀ k r o, Γ.ζ k r = some o → ∃ C t, o = .cells C t (0, 0)
  base : ∀ r o, L.base r = some o → Γ.ζ false r = some o
def Owned (Γ : G) (h : Tr Blk) (r : Nat) : Prop := ∃ b e, Γ.μ b = some e ∧ e.rb = r ∧ alive h b
structure St (L : LoopOk) (Γ : G) (h : Tr Blk) (nx : Pos) (w : World) (Γ' : G) (h' : Tr Blk) (nx' : Pos) (w' : World) : Prop where
  le : Γ.le Γ'
  rel : R L Γ' h' nx' w'
  os : w'.os = w.os
  tape : w'.tape = w.tape
  output : w'.output = w.output
  size : w.heap.size ≤ w'.heap.size
  keep : ∀ r, r < w.heap.size → ¬ Owned Γ h r → w'.heap[r]? = w.heap[r]?
  fresh : ∀ b e, Γ.μ b = none → Γ'.μ b = some e → nx.num ≤ b.num ∧ (w.heap.size ≤ e.rb ∨ Owned Γ h e.rb)
  dead : ∀ b, h.get b = some .dead → b.num < nx.num → h'.get b = some .dead
  still : ∀ b, Γ.μ b = none → b.num < nx.num → h'.get b = h.get b
  nx : nx.num ≤ nx'.num
  zfresh : ∀ k r o, Γ.ζ k r = none → Γ'.ζ k r = some o → w.heap.size ≤ r
theorem St.refl {L : LoopOk} {Γ : G} {h : Tr Blk} {nx : Pos} {w : World} (hr : R L Γ h nx w) : St L Γ h nx w Γ h nx w :=
  ⟨.refl Γ, hr, rfl, rfl, rfl, Nat.le_refl _, fun _ _ _ => rfl, fun b e h1 h2 => (by rw [h1] at h2; cases h2), fun _ h _ => h, fun _ _ _ => rfl, Nat.le_refl _, fun k r o h1 h2 => (by rw [h1] at h2; cases h2)⟩
theorem Owned.back {L : LoopOk} {Γ Γ' : G} {h h' : Tr Blk} {nx nx' : Pos} {w w' : World} (hr : R L Γ h nx w) (s : St L Γ h nx w Γ' h' nx' w') {r : Nat} (ho : Owned Γ' h' r) :
    Owned Γ h r ∨ w.heap.size ≤ r := by
  obtain ⟨b, e, he, rfl, ha⟩ := ho
  cases hb : Γ.μ b with
  | some e' =>
    have : some e' = some e := (s.le.μ _ _ hb).symm.trans he
    cases this
    left
    refine ⟨b, e, hb, rfl, ?_⟩
    obtain ⟨B, hB, _⟩ := hr.blk _ _ hb
    refine ⟨B, hB, ?_⟩
    rintro rfl
    obtain ⟨B', hB', hd⟩ := ha
    have := s.dead b hB (hr.lt _ _ hb).1
    rw [this] at hB'; cases hB'; exact hd rfl
  | none =>
    rcases (s.fresh b e hb he).2 with h1 | h1
    · exact .inr h1
    · exact .inl h1
theorem St.trans {L : LoopOk} {Γ Γ₁ Γ₂ : G} {h h₁ h₂ : Tr Blk} {nx nx₁ nx₂ : Pos} {w w₁ w₂ : World} (hr : R L Γ h nx w)
    (s : St L Γ h nx w Γ₁ h₁ nx₁ w₁) (t : St L Γ₁ h₁ nx₁ w₁ Γ₂ h₂ nx₂ w₂) : St L Γ h nx w Γ₂ h₂ nx₂ w₂ := by
  refine ⟨s.le.trans t.le, t.rel, t.os.trans s.os, t.tape.trans s.tape, t.output.trans s.output, Nat.le_trans s.size t.size, ?_, ?_, ?_, ?_, Nat.le_trans s.nx t.nx, ?_⟩
  · intro r hlt ho
    rw [t.keep r (Nat.lt_of_lt_of_le hlt s.size), s.keep r hlt ho]
    intro ho'
    rcases Owned.back hr s ho' with h1 | h1
    · exact ho h1
    · omega
  · intro b e h1 h2
    cases hb : Γ₁.μ b with
    | some e' =>
      have : some e' = some e := (t.le.μ _ _ hb).symm.trans h2
      cases this
      exact s.fresh b e h1 hb
    | none =>
      obtain ⟨h3, h4⟩ := t.fresh b e hb h2
      refine ⟨Nat.le_trans s.nx h3, ?_⟩
      rcases h4 with h4 | h4
      · left; have := s.size; omega
      · rcases Owned.back hr s h4 with h5 | h5
        · exact .inr h5
        · exact .inl h5
  · intro b hb hlt
    exact t.dead b (s.dead b hb hlt) (Nat.lt_of_lt_of_le hlt s.nx)
  · intro b hb hlt
    have h1 : Γ₁.μ b = none := by
      cases hx : Γ₁.μ b with
      | none => rfl
      | some e => have := (s.fresh b e hb hx).1; omega
    rw [t.still b h1 (Nat.lt_of_lt_of_le hlt s.nx), s.still b hb hlt]
  · intro k r o h1 h2
    cases hz : Γ₁.ζ k r with
    | some o' => exact s.zfresh k r o' h1 hz
    | none => exact Nat.le_trans s.size (t.zfresh k r o hz h2)
theorem EL.mono {Γ Γ' : G} (hl : Γ.le Γ') {l : List (AV × AV)} {es : List MapEntry} (h : EL Γ l es) : EL Γ' l es := by
  induction h with
  | nil => exact .nil
  | cons hk hv _ ih => exact .cons (hk.mono hl) (hv.mono hl) ih
def LMono (L : LoopOk) : Prop := ∀ T ps asg body st Γ Γ' r, G.le Γ Γ' → L T ps asg body st Γ r → L T ps asg body st Γ' r
theorem BlkRel.mono {L : LoopOk} (hL : LMono L) {Γ Γ' : G} (hl : Γ.le Γ') {e : Ext} {B : Blk} {o : Obj} (h : BlkRel L Γ e B o) : BlkRel L Γ' e B o := by
  cases h with
  | cells l C t pre mid post hC hp hm hn ht hg => exact .cells l C t pre mid post hC hp (VL.mono hl hm) hn ht hg
  | map l es ck h => obtain ⟨l', h2, h3⟩ := h; exact .map l es ck ⟨l', h2, h3.mono hl⟩
  | loop T ps asg body st r h => exact .loop T ps asg body st r (hL _ _ _ _ _ _ _ _ hl h)
theorem alive_set {h : Tr Blk} {b c : Pos} {B : Blk} (hc : c ≠ b) : alive (h.set c B) b ↔ alive h b := by
  unfold alive; rw [Tr.get_set_other _ _ hc]
section
variable {L : LoopOk} {Γ : G} {h : Tr Blk} {nx : Pos} {w : World}
theorem R.cells (hr : R L Γ h nx w) {b : Pos} {e : Ext} (he : Γ.μ b = some e) {l : List AV} {gr : Nat} (hb : h.get b = some (.cells l gr)) :
    gr = e.gr ∧ ∃ C t pre mid post, w.heap[e.rb]? = some (.cells C t (0, 0)) ∧ C.toList = pre ++ mid ++ post ∧ pre.length = e.base ∧ VL Γ l mid ∧ e.n = l.length ∧ e.tot = l.length + post.length ∧ (e.gr = 0 → post = []) := by
  obtain ⟨B, hB, hd⟩ := hr.blk b e he
  rw [hb] at hB; cases hB
  rcases hd with hd | ⟨o, ho, hrel⟩
  · cases hd
  · cases hrel with
    | cells l C t pre mid post hC hp hm hn ht hg => exact ⟨rfl, C, t, pre, mid, post, ho, hC, hp, hm, hn, ht, hg⟩
theorem cellsAt_some {b : Pos} {l : List AV} (hc : cellsAt h b = some l) : ∃ gr, h.get b = some (.cells l gr) := by
  unfold cellsAt at hc
  cases hb : h.get b with
  | none => rw [hb] at hc; cases hc
  | some B =>
    rw [hb] at hc
    cases B with
    | cells l' gr => cases hc; exact ⟨gr, rfl⟩
    | map _ => cases hc
    | loop _ _ _ _ _ => cases hc
    | dead => cases hc
theorem lt_of_heap {r : Nat} {o : Obj} (ho : w.heap[r]? = some o) : r < w.heap.size := (Array.getElem?_eq_some_iff.1 ho).1
theorem heap_alloc_lt (o : Obj) {r : Nat} (hl : r < w.heap.size) : (w.alloc o).heap[r]? = w.heap[r]? := by
  show (w.heap.push o)[r]? = _; rw [Array.getElem?_push, if_neg (by omega)]
theorem heap_alloc_new (o : Obj) : (w.alloc o).heap[w.heap.size]? = some o := by
  show (w.heap.push o)[w.heap.size]? = _; rw [Array.getElem?_push, if_pos rfl]
noncomputable def G.add (Γ : G) (b : Pos) (e : Ext) : G := ⟨fun x => if Pos.beq x b then some e else Γ.μ x, Γ.ζ⟩
theorem Pos.beq_self (p : Pos) : p.beq p = true := by
  induction p with
  | h => rfl
  | o p ih => exact ih
  | i p ih => exact ih
theorem G.add_same (b : Pos) (e : Ext) : (Γ.add b e).μ b = some e := by simp [G.add, Pos.beq_self]
theorem G.add_other {b x : Pos} (e : Ext) (hx : x ≠ b) : (Γ.add b e).μ x = Γ.μ x := by
  have : x.beq b = false := by cases hb : x.beq b with | false => rfl | true => exact absurd (Pos.beq_eq hb) hx
  simp [G.add, this]
theorem G.le_add {b : Pos} (e : Ext) (hb : Γ.μ b = none) : Γ.le (Γ.add b e) :=
  ⟨fun x e' hx => by rw [G.add_other e (fun eq => by rw [eq, hb] at hx; cases hx)]; exact hx, fun _ _ _ hx => hx⟩
theorem R.fresh (hr : R L Γ h nx w) : Γ.μ nx = none := by
  cases hb : Γ.μ nx with
  | none => rfl
  | some e => have := (hr.lt nx e hb).1; omega
theorem R.alloc (hL : LMono L) (hr : R L Γ h nx w) (B : Blk) (o : Obj) (e : Ext) (heb : e.rb = w.heap.size) (hd : B ≠ .dead) (hrel : BlkRel L (Γ.add nx e) e B o) :
    St L Γ h nx w (Γ.add nx e) (h.set nx B) nx.succ (w.alloc o) := by
  have hf := hr.fresh
  have hle := G.le_add (Γ := Γ) e hf
  have hne : ∀ b e', Γ.μ b = some e' → b ≠ nx := fun b e' hb eq => by rw [eq, hf] at hb; cases hb
  have hnew : ∀ b e', (Γ.add nx e).μ b = some e' → (b = nx ∧ e' = e) ∨ (b ≠ nx ∧ Γ.μ b = some e') := fun b e' hb => by
    by_cases hbn : b = nx
    · subst hbn; rw [G.add_same] at hb; cases hb; exact .inl ⟨rfl, rfl⟩
    · rw [G.add_other e hbn] at hb; exact .inr ⟨hbn, hb⟩
  refine ⟨hle, ⟨?_, ?_, ?_, ?_, ?_, hr.zcells, hr.base⟩, rfl, rfl, rfl, by simp, ?_, ?_, ?_, ?_, by rw [Pos.num_succ]; omega, fun k r o h1 h2 => (by rw [show (Γ.add nx e).ζ k r = Γ.ζ k r from rfl, h1] at h2; cases h2)⟩
  · intro b e' hb
    rcases hnew b e' hb with ⟨rfl, rfl⟩ | ⟨hbn, hb⟩
    · exact ⟨B, Tr.get_set_same _ _ _, .inr ⟨o, by rw [heb]; exact heap_alloc_new o, hrel⟩⟩
    · obtain ⟨B', hB', hd'⟩ := hr.blk b e' hb
      refine ⟨B', by rw [Tr.get_set_other _ _ (Ne.symm hbn)]; exact hB', ?_⟩
      rcases hd' with hd' | ⟨o', ho', hrel'⟩
      · exact .inl hd'
      · exact .inr ⟨o', by rw [heap_alloc_lt o (lt_of_heap ho')]; exact ho', hrel'.mono hL hle⟩
  · intro b e' hb
    rcases hnew b e' hb with ⟨rfl, rfl⟩ | ⟨hbn, hb⟩
    · exact ⟨by rw [Pos.num_succ]; omega, by rw [heb]; simp⟩
    · obtain ⟨h1, h2⟩ := hr.lt b e' hb
      exact ⟨by rw [Pos.num_succ]; omega, by simp; omega⟩
  · intro b e1 b' e2 hb hb' ha ha' heq
    rcases hnew b e1 hb with ⟨h1, h2⟩ | ⟨hbn, h1⟩ <;> rcases hnew b' e2 hb' with ⟨h3, h4⟩ | ⟨hbn', h3⟩
    · rw [h1, h3]
    · have := (hr.lt b' e2 h3).2; rw [h2] at heq; omega
    · have := (hr.lt b e1 h1).2; rw [h4] at heq; omega
    · exact hr.inj b e1 b' e2 h1 h3 ((alive_set (Ne.symm hbn)).1 ha) ((alive_set (Ne.symm hbn')).1 ha') heq
  · intro k r o' ho'
    have := hr.zone k r o' ho'
    rw [heap_alloc_lt o (lt_of_heap this)]; exact this
  · intro b e' hb ha k
    rcases hnew b e' hb with ⟨rfl, rfl⟩ | ⟨hbn, hb⟩
    · cases hz : Γ.ζ k e'.rb with
      | none => exact hz
      | some o' => have := lt_of_heap (hr.zone _ _ _ hz); omega
    · exact hr.zfree b e' hb ((alive_set (Ne.symm hbn)).1 ha) k
  · intro r hlt _; exact heap_alloc_lt o hlt
  · intro b e' h1 h2
    rcases hnew b e' h2 with ⟨rfl, rfl⟩ | ⟨hbn, hb⟩
    · exact ⟨Nat.le_refl _, .inl (by omega)⟩
    · rw [h1] at hb; cases hb
  · intro b hb hlt; rw [Tr.get_set_other _ _ (fun eq => by subst eq; omega)]; exact hb
  · intro b _ hlt; exact Tr.get_set_other _ _ (fun eq => by subst eq; omega)
theorem R.write (hr : R L Γ h nx w) {b : Pos} {e : Ext} (he : Γ.μ b = some e) (ha : alive h b) (B : Blk) (o : Obj) (hd : B ≠ .dead) (hrel : BlkRel L Γ e B o)
    {w' : World} (hw : w'.heap[e.rb]? = some o) (hwo : ∀ r, r ≠ e.rb → w'.heap[r]? = w.heap[r]?) (hs : w'.heap.size = w.heap.size)
    (hos : w'.os = w.os) (htape : w'.tape = w.tape) (hout : w'.output = w.output) : St L Γ h nx w Γ (h.set b B) nx w' := by
  have haB : ∀ x, alive (h.set b B) x ↔ alive h x := fun x => by
    by_cases hx : x = b
    · subst hx; exact ⟨fun _ => ha, fun _ => ⟨B, Tr.get_set_same _ _ _, hd⟩⟩
    · exact alive_set (Ne.symm hx)
  refine ⟨.refl Γ, ⟨?_, ?_, ?_, ?_, ?_, hr.zcells, hr.base⟩, hos, htape, hout, by omega, ?_, ?_, ?_, ?_, Nat.le_refl _, fun k r o h1 h2 => (by rw [h1] at h2; cases h2)⟩
  · intro x e' hx
    by_cases hxb : x = b
    · subst hxb; rw [he] at hx; cases hx; exact ⟨B, Tr.get_set_same _ _ _, .inr ⟨o, hw, hrel⟩⟩
    · obtain ⟨B', hB', hd'⟩ := hr.blk x e' hx
      refine ⟨B', by rw [Tr.get_set_other _ _ (Ne.symm hxb)]; exact hB', ?_⟩
      rcases hd' with hd' | ⟨o', ho', hrel'⟩
      · exact .inl hd'
      · by_cases hdd : B' = .dead
        · exact .inl hdd
        · refine .inr ⟨o', ?_, hrel'⟩
          rw [hwo]; exact ho'
          intro heq
          exact hxb (hr.inj x e' b e hx he ⟨B', hB', hdd⟩ ha heq)
  · intro x e' hx; obtain ⟨h1, h2⟩ := hr.lt x e' hx; exact ⟨h1, by omega⟩
  · intro x e1 y e2 hx hy hax hay heq
    exact hr.inj x e1 y e2 hx hy ((haB x).1 hax) ((haB y).1 hay) heq
  · intro k r o' ho'
    rw [hwo]; exact hr.zone k r o' ho'
    intro heq
    have := hr.zfree b e he ha k
    rw [← heq, ho'] at this; cases this
  · intro x e' hx hax; exact hr.zfree x e' hx ((haB x).1 hax)
  · intro r hlt ho
    exact hwo r (fun heq => ho ⟨b, e, he, heq.symm, ha⟩)
  · intro x e' h1 h2; rw [h1] at h2; cases h2
  · intro x hx hlt
    by_cases hxb : x = b
    · subst hxb; obtain ⟨B', hB', hdd⟩ := ha; rw [hx] at hB'; cases hB'; exact absurd rfl hdd
    · rw [Tr.get_set_other _ _ (Ne.symm hxb)]; exact hx
  · intro x hx hlt
    exact Tr.get_set_other _ _ (fun heq => by subst heq; rw [he] at hx; cases hx)
theorem R.kill (hr : R L Γ h nx w) {b : Pos} {e : Ext} (he : Γ.μ b = some e) : St L Γ h nx w Γ (h.set b .dead) nx w := by
  have haB : ∀ x, alive (h.set b .dead) x → alive h x := fun x hx => by
    by_cases hxb : x = b
    · subst hxb; obtain ⟨B, hB, hd⟩ := hx; rw [Tr.get_set_same] at hB; cases hB; exact absurd rfl hd
    · exact (alive_set (Ne.symm hxb)).1 hx
  refine ⟨.refl Γ, ⟨?_, hr.lt, ?_, hr.zone, ?_, hr.zcells, hr.base⟩, rfl, rfl, rfl, Nat.le_refl _, fun _ _ _ => rfl, ?_, ?_, ?_, Nat.le_refl _, fun k r o h1 h2 => (by rw [h1] at h2; cases h2)⟩
  · intro x e' hx
    by_cases hxb : x = b
    · subst hxb; exact ⟨.dead, Tr.get_set_same _ _ _, .inl rfl⟩
    · obtain ⟨B', hB', hd'⟩ := hr.blk x e' hx
      exact ⟨B', by rw [Tr.get_set_other _ _ (Ne.symm hxb)]; exact hB', hd'⟩
  · intro x e1 y e2 hx hy hax hay heq; exact hr.inj x e1 y e2 hx hy (haB x hax) (haB y hay) heq
  · intro x e' hx hax; exact hr.zfree x e' hx (haB x hax)
  · intro x e' h1 h2; rw [h1] at h2; cases h2
  · intro x hx hlt
    by_cases hxb : x = b
    · subst hxb; exact Tr.get_set_same _ _ _
    · rw [Tr.get_set_other _ _ (Ne.symm hxb)]; exact hx
  · intro x hx hlt
    exact Tr.get_set_other _ _ (fun heq => by subst heq; rw [he] at hx; cases hx)
theorem R.drew (hr : R L Γ h nx w) : St L Γ h nx w Γ h nx w.drew :=
  ⟨.refl Γ, ⟨hr.blk, hr.lt, hr.inj, hr.zone, hr.zfree, hr.zcells, hr.base⟩, rfl, rfl, rfl, Nat.le_refl _, fun _ _ _ => rfl, fun b e h1 h2 => (by rw [h1] at h2; cases h2), fun _ h _ => h, fun _ _ _ => rfl, Nat.le_refl _, fun k r o h1 h2 => (by rw [h1] at h2; cases h2)⟩
end
end Go.AR
namespace Go.AR
def Done (L : LoopOk) (Γ : G) (h : Tr Blk) (nx : Pos) (w : World) (v : AV) (h' : Tr Blk) (nx' : Pos) (r : Result Next) : Prop :=
  ∃ Γ' w' v', (r = .ok (.value v') w' ∨ (r = .ok .skip w' ∧ v' = undef)) ∧ St L Γ h nx w Γ' h' nx' w' ∧ V Γ' v v'
section
variable {L : LoopOk} {Γ : G} {h h' : Tr Blk} {nx nx' : Pos} {w : World} {v : AV} {P : Program}
theorem Done.same (hr : R L Γ h nx w) {v' : Value} (hv : V Γ v v') : Done L Γ h nx w v h nx (.ok (.value v') w) := ⟨Γ, w, v', .inl rfl, St.refl hr, hv⟩
theorem Done.of {Γ' : G} {w' : World} {v' : Value} {r : Result Next} (hr : r = .ok (.value v') w') (s : St L Γ h nx w Γ' h' nx' w') (hv : V Γ' v v') : Done L Γ h nx w v h' nx' r := ⟨Γ', w', v', .inl hr, s, hv⟩
theorem Done.unit {Γ' : G} {w' : World} {r : Result Next} (hr : r = .ok .skip w') (s : St L Γ h nx w Γ' h' nx' w') : Done L Γ h nx w .u h' nx' r := ⟨Γ', w', undef, .inr ⟨hr, rfl⟩, s, .u⟩
theorem VL.inv1 {x : AV} {vs : List Value} (hl : VL Γ [x] vs) : ∃ a, vs = [a] ∧ V Γ x a := by cases hl with | cons h t => cases t; exact ⟨_, rfl, h⟩
theorem VL.inv2 {x y : AV} {vs : List Value} (hl : VL Γ [x, y] vs) : ∃ a b, vs = [a, b] ∧ V Γ x a ∧ V Γ y b := by
  cases hl with | cons h t => obtain ⟨b, rfl, hb⟩ := t.inv1; exact ⟨_, _, rfl, h, hb⟩
theorem VL.inv3 {x y z : AV} {vs : List Value} (hl : VL Γ [x, y, z] vs) : ∃ a b c, vs = [a, b, c] ∧ V Γ x a ∧ V Γ y b ∧ V Γ z c := by
  cases hl with | cons h t => obtain ⟨b, c, rfl, hb, hc⟩ := t.inv2; exact ⟨_, _, _, rfl, h, hb, hc⟩
theorem VL.inv0 {vs : List Value} (hl : VL Γ [] vs) : vs = [] := by cases hl; rfl
theorem szOf_run {t : TypeId} {s : Nat} (hs : szOf P t = some s) (w : World) : (sizeOf t).run P w = .ok s w := by
  unfold szOf at hs
  cases hi : P.info? t with
  | none => rw [hi] at hs; cases hs
  | some i => rw [hi] at hs; cases hs; simp [sizeOf, typeInfo, hi]
theorem aggOf_run {t : TypeId} {a : Bool} (ha : aggOf P t = some a) (w : World) : (isAgg t).run P w = .ok a w := by
  unfold aggOf at ha
  cases hu : P.underlying t with
  | none => rw [hu] at ha; cases ha
  | some d => rw [hu] at ha; cases ha; unfold isAgg; rw [Sem.run_bind, run_underlying hu w]; cases d <;> rfl
theorem zeroV_run {t : TypeId} {z : Value} (hz : zeroV P t = some z) (w : World) : (zeroValue t).run P w = .ok z w := by
  unfold zeroV at hz
  cases hi : P.info? t with
  | none => rw [hi] at hz; cases hz
  | some i => rw [hi] at hz; have hz : i.zero = some z := hz; simp [zeroValue, typeInfo, hi, hz]
theorem compV_V {v : Value} {x : AV} (hc : compV v = some x) : V Γ x v := by
  cases v with
  | bool b => cases hc; exact .b b
  | int k n => cases hc; exact .i k n
  | string s =>
    cases hc
    have : s = bytesOf (s.data.toList.map UInt8.toNat) := by
      unfold bytesOf
      rw [List.map_map]
      have : (UInt8.ofNat ∘ UInt8.toNat) = id := by funext x; simp
      rw [this, List.map_id]
    conv => rhs; rw [this]
    refine .s _ ?_
    intro x hx
    obtain ⟨y, _, rfl⟩ := List.mem_map.1 hx
    exact y.toNat_lt
  | pointer a => cases a with | none => cases hc; exact .np | some a => cases hc
  | slice a n c =>
    cases a with
    | some a => cases hc
    | none => cases n with
      | succ n => cases hc
      | zero => cases c with | zero => cases hc; exact .ns | succ c => cases hc
  | map r => cases r with | none => cases hc; exact .nm | some r => cases hc
  | nilFunc => cases hc; exact .nf
  | nilIface => cases hc; exact .ni
  | _ => cases hc
theorem allO_compV {vs : List Value} {l : List AV} (hc : allO compV vs = some l) : VL Γ l vs := by
  induction vs generalizing l with
  | nil => cases hc; exact .nil
  | cons a t ih =>
    unfold allO at hc
    cases ha : compV a with
    | none => rw [ha] at hc; simp at hc
    | some x =>
      cases ht : allO compV t with
      | none => rw [ha, ht] at hc; simp at hc
      | some r => rw [ha, ht] at hc; cases hc; exact .cons (compV_V ha) (ih ht)
theorem zeroOf_run {t : TypeId} {l : List AV} (hz : zeroOf P t = some l) : ∃ z, zeroV P t = some z ∧ ∀ Γ, VL Γ l z.cells.toList := by
  unfold zeroOf at hz
  cases hv : zeroV P t with
  | none => rw [hv] at hz; cases hz
  | some z => rw [hv] at hz; exact ⟨z, rfl, fun Γ => allO_compV hz⟩
theorem rd_rel {agg : Bool} {n o : Nat} {l : List AV} {vs : List Value} (hl : VL Γ l vs) {x : AV} (hx : rd agg n o l = some x) :
    (agg = true ∧ ∃ r m, x = .a r ∧ VL Γ r m ∧ m.length = n ∧ (∀ j y, m[j]? = some y → vs[o + j]? = some y)) ∨ (agg = false ∧ ∃ y, vs[o]? = some y ∧ V Γ x y) := by
  cases agg with
  | false =>
    right
    have hx : hd (dropN o l) = some x := hx
    obtain ⟨y, hy, hv⟩ := hl.get (hd_drop hx)
    exact ⟨rfl, y, hy, hv⟩
  | true =>
    left
    have hx : (Option.casesOn (sub o n l) none (fun r => some (.a r)) : Option AV) = some x := hx
    cases hs : sub o n l with
    | none => rw [hs] at hx; cases hx
    | some r =>
      rw [hs] at hx; cases hx
      rcases sub_eq hs with ⟨h1, h2, h3⟩ | ⟨rfl, rfl⟩
      · rw [h1] at hl
        obtain ⟨ab, c, rfl, hab, hc⟩ := hl.split
        obtain ⟨a, m, rfl, ha, hm⟩ := hab.split
        refine ⟨rfl, r, m, rfl, hm, by rw [hm.length, h2], ?_⟩
        intro j y hy
        have hal : a.length = o := by rw [ha.length]; simp; omega
        have hj : j < m.length := by
          rcases Nat.lt_or_ge j m.length with hj | hj
          · exact hj
          · rw [List.getElem?_eq_none hj] at hy; cases hy
        rw [List.append_assoc, List.getElem?_append_right (by omega), List.getElem?_append_left (by omega)]
        simpa [hal] using hy
      · exact ⟨rfl, [], [], rfl, .nil, rfl, fun j y hy => by simp at hy⟩
theorem load_run {agg : Bool} {n : Nat} {t : TypeId} (ha : aggOf P t = some agg) (hs : szOf P t = some n) (hr : R L Γ h nx w) {b : Pos} {o : Nat} {e : Ext} (he : Γ.μ b = some e)
    {l : List AV} (hc : cellsAt h b = some l) {x : AV} (hx : rd agg n o l = some x) : ∃ y, (loadVar t ⟨e.rb, e.base + o, none⟩).run P w = .ok y w ∧ V Γ x y := by
  obtain ⟨gr, hb⟩ := cellsAt_some hc
  obtain ⟨_, C, ty, pre, mid, post, hw, hC, hp, hm, hn, ht, hg⟩ := hr.cells he hb
  have hcell : ∀ j y, mid[j]? = some y → w.cell? ⟨e.rb, e.base + j, none⟩ = some y := by
    intro j y hy
    have hj : j < mid.length := by
      rcases Nat.lt_or_ge j mid.length with hj | hj
      · exact hj
      · rw [List.getElem?_eq_none hj] at hy; cases hy
    unfold World.cell?
    rw [hw]
    show C[e.base + j]? = some y
    rw [← Array.getElem?_toList, hC, List.append_assoc, List.getElem?_append_right (by omega), List.getElem?_append_left (by omega)]
    simpa [hp] using hy
  rcases rd_rel hm hx with ⟨rfl, r, m, rfl, hm', hml, hat⟩ | ⟨rfl, y, hy, hv⟩
  · refine ⟨.agg m.toArray, ?_, .a _ _ (by simpa using hm')⟩
    have hll : (loadCells ⟨e.rb, e.base + o, none⟩ m.length).run P w = .ok m.toArray w :=
      run_loadCells_list (P := P) w _ m (fun j y hy => by rw [Addr.add_mid, Nat.add_assoc]; exact hcell _ _ (hat j y hy))
    simp only [loadVar, Sem.run_bind, aggOf_run ha, Result.andThen_ok, if_true, szOf_run hs, ← hml, hll, Sem.run_pure]
  · refine ⟨y, ?_, hv⟩
    have := hcell o y hy
    simp only [loadVar, Sem.run_bind, aggOf_run ha, Result.andThen_ok, Bool.false_eq_true, if_false, run_load, this]
theorem RowAt.cell (hr : R L Γ h nx w) {k : Bool} {a : Option Addr} {vs : List Value} (hrow : RowAt (Γ.ζ k) a vs) {j : Nat} {y : Value} (hy : vs[j]? = some y) :
    ∃ rb off, a = some ⟨rb, off, none⟩ ∧ w.cell? ⟨rb, off + j, none⟩ = some y := by
  rcases hrow with rfl | ⟨rb, off, C, t, ha, hz, hc⟩
  · simp at hy
  · refine ⟨rb, off, ha, ?_⟩
    unfold World.cell?
    rw [hr.zone k rb _ hz]
    exact hc j y hy
theorem RowAt.drop {ζ : Nat → Option Obj} {rb off : Nat} {vs : List Value} (hrow : RowAt ζ (some ⟨rb, off, none⟩) vs) (k : Nat) : RowAt ζ (some ⟨rb, off + k, none⟩) (vs.drop k) := by
  rcases hrow with rfl | ⟨rb', off', C, t, ha, hz, hc⟩
  · left; simp
  · cases ha
    refine .inr ⟨rb, off + k, C, t, rfl, hz, fun j y hy => ?_⟩
    rw [List.getElem?_drop] at hy
    rw [Nat.add_assoc]; exact hc _ _ hy
theorem RowAt.take {ζ : Nat → Option Obj} {a : Option Addr} {vs : List Value} (hrow : RowAt ζ a vs) (k : Nat) : RowAt ζ a (vs.take k) := by
  rcases hrow with rfl | ⟨rb, off, C, t, ha, hz, hc⟩
  · left; simp
  · refine .inr ⟨rb, off, C, t, ha, hz, fun j y hy => hc j y ?_⟩
    rw [List.getElem?_take] at hy
    split at hy
    · exact hy
    · cases hy
theorem zpR_inv {k : Bool} {l : List AV} {h' : Tr Blk} {nx' : Pos} (hx : zpR k l h nx = .ok v h' nx') : l ≠ [] ∧ v = .zp k l ∧ h' = h ∧ nx' = nx := by
  cases l with
  | nil => cases hx
  | cons a t => cases hx; exact ⟨by simp, rfl, rfl, rfl⟩
theorem zload_run {agg : Bool} {n : Nat} {t : TypeId} (ha : aggOf P t = some agg) (hs : szOf P t = some n) (hr : R L Γ h nx w) {k : Bool} {l : List AV} {rb off : Nat} {vs : List Value} (hl : VL Γ l vs)
    (hrow : RowAt (Γ.ζ k) (some ⟨rb, off, none⟩) vs) {x : AV} (hx : rd agg n 0 l = some x) : ∃ y, (loadVar t ⟨rb, off, none⟩).run P w = .ok y w ∧ V Γ x y := by
  have hcell : ∀ (j : Nat) (y : Value), vs[j]? = some y → w.cell? ⟨rb, off + j, none⟩ = some y := by
    intro j y hy
    obtain ⟨_, _, h1, h2⟩ := hrow.cell hr hy
    cases h1; exact h2
  rcases rd_rel hl hx with ⟨rfl, r, m, rfl, hm', hml, hat⟩ | ⟨rfl, y, hy, hv⟩
  · refine ⟨.agg m.toArray, ?_, .a _ _ (by simpa using hm')⟩
    have hll : (loadCells ⟨rb, off, none⟩ m.length).run P w = .ok m.toArray w :=
      run_loadCells_list (P := P) w _ m (fun j y hy => by rw [Addr.add_mid]; have := hat j y hy; rw [Nat.zero_add] at this; exact hcell _ _ this)
    simp only [loadVar, Sem.run_bind, aggOf_run ha, Result.andThen_ok, if_true, szOf_run hs, ← hml, hll, Sem.run_pure]
  · refine ⟨y, ?_, hv⟩
    have := hcell 0 y hy
    rw [Nat.add_zero] at this
    simp only [loadVar, Sem.run_bind, aggOf_run ha, Result.andThen_ok, Bool.false_eq_true, if_false, run_load, this]
theorem V.z_inv {k : Bool} {l : List AV} {n : Nat} {x : Bool} {y : Value} (hv : V Γ (.z k l n x) y) :
    ∃ a cap vs, y = .slice a n cap ∧ VL Γ l vs ∧ RowAt (Γ.ζ k) a vs ∧ n ≤ cap ∧ (x = true → cap = n) ∧ (a = none → cap = 0) ∧ puL k l = true := by
  cases hv with | z _ _ _ _ a cap vs h hr hn hx ha hp => exact ⟨a, cap, vs, rfl, h, hr, hn, hx, ha, hp⟩
theorem V.zp_inv {k : Bool} {l : List AV} {y : Value} (hv : V Γ (.zp k l) y) : ∃ rb off vs, y = .pointer (some ⟨rb, off, none⟩) ∧ VL Γ l vs ∧ RowAt (Γ.ζ k) (some ⟨rb, off, none⟩) vs ∧ puL k l = true := by
  cases hv with | zp _ _ rb off vs h hr hp => exact ⟨rb, off, vs, rfl, h, hr, hp⟩
theorem put_run (hr : R L Γ h nx w) {b : Pos} {e : Ext} (he : Γ.μ b = some e) {o : Nat} {new : List AV} {nv : List Value} (hnv : VL Γ new nv) {x : AV} {h' : Tr Blk} {nx' : Pos} {v : AV}
    (hp : put b o new v h nx = .ok x h' nx') : x = v ∧ nx' = nx ∧ ∃ w', (storeCells ⟨e.rb, e.base + o, none⟩ nv).run P w = .ok () w' ∧ St L Γ h nx w Γ h' nx w' := by
  unfold put at hp
  cases hb : h.get b with
  | none => rw [hb] at hp; cases hp
  | some B =>
    rw [hb] at hp
    cases B with
    | cells l gr =>
      cases hs : scalL new with
      | false => rw [hs] at hp; cases hp
      | true =>
        simp only [hs, cond_true] at hp
        cases hspl : spl o new l with
        | none => simp only [hspl] at hp; cases hp
        | some r =>
          simp only [hspl] at hp
          cases hp
          obtain ⟨rfl, C, ty, pre, mid, post, hw, hC, hpl, hm, hn, ht, hg⟩ := hr.cells he hb
          obtain ⟨hr1, hr2⟩ := spl_eq o new l r hspl
          have hml := hm.length
          have hsz : C.size = pre.length + mid.length + post.length := by rw [← Array.length_toList, hC]; simp; omega
          have hnl := hnv.length
          have hst := run_storeCells_at P e.rb (e.base + o) ty nv 0 C w hw (by simp; omega) (hnv.oneCells hs)
          refine ⟨rfl, rfl, _, hst, ?_⟩
          have hl0 : l = l.take o ++ (l.drop o).take new.length ++ l.drop (o + new.length) := by
            rw [← List.drop_drop, List.append_assoc, List.take_append_drop, List.take_append_drop]
          have hm' := hm
          rw [hl0] at hm'
          obtain ⟨ab, c, hmid, hab, hc⟩ := hm'.split
          obtain ⟨a, m, rfl, ha, hmm⟩ := hab.split
          have hal : a.length = o := by rw [ha.length]; simp; omega
          have hmml : m.length = nv.length := by rw [hmm.length, hnl]; simp; omega
          have hlist : (C.toList.take (e.base + o + 0) ++ nv ++ C.toList.drop (e.base + o + 0 + nv.length)) = pre ++ (a ++ nv ++ c) ++ post := by
            rw [hC, hmid]
            have e1 : (pre ++ (a ++ m ++ c) ++ post).take (e.base + o + 0) = pre ++ a := by
              rw [show pre ++ (a ++ m ++ c) ++ post = (pre ++ a) ++ (m ++ c ++ post) by simp]
              rw [List.take_append_of_le_length (by simp; omega), List.take_of_length_le (by simp; omega)]
            have e2 : (pre ++ (a ++ m ++ c) ++ post).drop (e.base + o + 0 + nv.length) = c ++ post := by
              rw [show pre ++ (a ++ m ++ c) ++ post = (pre ++ a ++ m) ++ (c ++ post) by simp]
              rw [List.drop_append_of_le_length (by simp; omega), List.drop_of_length_le (by simp; omega)]; rfl
            rw [e1, e2]; simp
          have hrel : BlkRel L Γ e (.cells r e.gr) (.cells (C.toList.take (e.base + o + 0) ++ nv ++ C.toList.drop (e.base + o + 0 + nv.length)).toArray ty (0, 0)) := by
            rw [hlist]
            refine .cells r _ ty pre (a ++ nv ++ c) post rfl hpl ?_ ?_ ?_ hg
            · rw [hr1]; exact (ha.append hnv).append hc
            · rw [hr1, hn]; simp; omega
            · rw [hr1, ht]; simp; omega
          exact hr.write he ⟨_, hb, by simp⟩ _ _ (by simp) hrel (setRow_heap w e.rb C _ ty (0, 0) hw) (fun k hk => setRow_other w e.rb k _ hk) (by simp) rfl rfl rfl
    | map l => cases hp
    | loop _ _ _ _ _ => cases hp
    | dead => cases hp
def newE (w : World) (n tot gr : Nat) : Ext := ⟨w.heap.size, 0, n, tot, gr⟩
theorem new_row (hL : LMono L) (hr : R L Γ h nx w) {l : List AV} {vs rest : List Value} (hl : VL Γ l vs) (t : TypeId) (gr : Nat) (hg : gr = 0 → rest = []) :
    St L Γ h nx w (Γ.add nx (newE w l.length (l.length + rest.length) gr)) (h.set nx (.cells l gr)) nx.succ (w.alloc (.cells (vs ++ rest).toArray t)) := by
  refine hr.alloc hL _ _ _ rfl (by simp) ?_
  exact .cells l _ t [] vs rest rfl rfl (VL.mono (G.le_add _ hr.fresh) hl) rfl rfl hg
theorem newRow_run (t : TypeId) (cs : Array Value) (w : World) : (newRow t cs).run P w = .ok ⟨w.heap.size, 0, none⟩ (w.alloc (.cells cs t)) := by
  simp [newRow, newObj, Sem.run, World.alloc_eq]
end
end Go.AR
namespace Go.AR
theorem ieq_eq (a b : Int) : ieq a b = (a == b) := by
  rw [Bool.eq_iff_iff, beq_iff_eq]
  cases a with
  | ofNat a => cases b with
    | ofNat b => show Nat.beq a b = true ↔ _; rw [Nat.beq_eq]; exact ⟨fun h => by rw [h], fun h => by cases h; rfl⟩
    | negSucc b => exact ⟨fun h => (by cases h), fun h => (by cases h)⟩
  | negSucc a => cases b with
    | ofNat b => exact ⟨fun h => (by cases h), fun h => (by cases h)⟩
    | negSucc b => show Nat.beq a b = true ↔ _; rw [Nat.beq_eq]; exact ⟨fun h => by rw [h], fun h => by cases h; rfl⟩
theorem ilt_eq (a b : Int) : ilt a b = decide (a < b) := by
  rw [Bool.eq_iff_iff, decide_eq_true_eq]
  cases a with
  | ofNat a => cases b with
    | ofNat b => show Nat.ble (a + 1) b = true ↔ _; rw [Nat.ble_eq, Int.ofNat_eq_natCast, Int.ofNat_eq_natCast]; omega
    | negSucc b => rw [Int.ofNat_eq_natCast, Int.negSucc_eq]; exact ⟨fun h => (by cases h), fun h => (by omega)⟩
  | negSucc a => cases b with
    | ofNat b => rw [Int.ofNat_eq_natCast, Int.negSucc_eq]; exact ⟨fun _ => (by omega), fun _ => rfl⟩
    | negSucc b => show Nat.ble (b + 1) a = true ↔ _; rw [Nat.ble_eq, Int.negSucc_eq, Int.negSucc_eq]; omega
theorem keq_eq {k j : IntKind} (h : keq k j = true) : k = j := by simpa [keq] using h
theorem wrap_i64 {n : Int} (h1 : -9223372036854775808 ≤ n) (h2 : n < 9223372036854775808) : IntKind.i64.wrap n = n := by
  have e : IntKind.i64.wrap n = if (true && decide (n % 18446744073709551616 ≥ 9223372036854775808)) = true then n % 18446744073709551616 - 18446744073709551616 else n % 18446744073709551616 := rfl
  rw [e]; simp only [Bool.true_and, decide_eq_true_eq]; split <;> omega
theorem wrap_u64 {n : Int} (h1 : 0 ≤ n) (h2 : n < 18446744073709551616) : IntKind.u64.wrap n = n := by
  have e : IntKind.u64.wrap n = if (false && decide (n % 18446744073709551616 ≥ 9223372036854775808)) = true then n % 18446744073709551616 - 18446744073709551616 else n % 18446744073709551616 := rfl
  rw [e]; simp only [Bool.false_and, Bool.false_eq_true, if_false]; omega
theorem blt_lt {a b : Nat} (h : Nat.blt a b = true) : a < b := by have : Nat.ble (a + 1) b = true := h; rw [Nat.ble_eq] at this; omega
theorem bif_wrap {k : IntKind} {n : Int} {b : Bool} (h : b = true → k.wrap n = n) : (bif b then n else k.wrap n) = k.wrap n := by
  cases b with
  | false => rfl
  | true => exact (h rfl).symm
theorem lt_two63 {a : Nat} (h : Nat.blt a two63 = true) : (a : Int) < 9223372036854775808 := by have := blt_lt h; unfold two63 at this; omega
theorem lt_two64 {a : Nat} (h : Nat.blt a two64 = true) : (a : Int) < 18446744073709551616 := by have := blt_lt h; unfold two64 at this; omega
theorem wr_1 (a : Nat) : wr .i64 (.ofNat a) = IntKind.i64.wrap (.ofNat a) :=
  bif_wrap (b := Nat.blt a two63) (fun h => wrap_i64 (by rw [Int.ofNat_eq_natCast]; omega) (by rw [Int.ofNat_eq_natCast]; exact lt_two63 h))
theorem wr_2 (a : Nat) : wr .u64 (.ofNat a) = IntKind.u64.wrap (.ofNat a) :=
  bif_wrap (b := Nat.blt a two64) (fun h => wrap_u64 (by rw [Int.ofNat_eq_natCast]; omega) (by rw [Int.ofNat_eq_natCast]; exact lt_two64 h))
theorem wr_3 (a : Nat) : wr .i64 (.negSucc a) = IntKind.i64.wrap (.negSucc a) :=
  bif_wrap (b := Nat.blt a two63) (fun h => wrap_i64 (by have := lt_two63 h; rw [Int.negSucc_eq]; omega) (by rw [Int.negSucc_eq]; omega))
theorem wr_eq (k : IntKind) (n : Int) : wr k n = k.wrap n := by
  cases k <;> cases n
  case i64.ofNat a => exact wr_1 a
  case u64.ofNat a => exact wr_2 a
  case i64.negSucc a => exact wr_3 a
  all_goals rfl
theorem neqL_eq (a b : List Nat) : neqL a b = decide (a = b) := by
  induction a generalizing b with
  | nil => cases b <;> simp [neqL]
  | cons x a ih =>
    cases b with
    | nil => simp [neqL]
    | cons y b =>
      unfold neqL
      cases h : Nat.beq x y with
      | true => have := Nat.eq_of_beq_eq_true h; subst this; simp [ih]
      | false => have : x ≠ y := Nat.ne_of_beq_eq_false h; simp [this]
section
variable {L : LoopOk} {Γ : G} {h h' : Tr Blk} {nx nx' : Pos} {w : World} {v : AV} {P : Program}
theorem binI_run {op : BinOp} {b : Bin} (hb : binOf op = some b) (t : TypeId) {k j : IntKind} {x y : Int} (hk : keq k j = true ∨ shiftOp b = true) (hv : binI b k x y = some v) :
    ∃ v', (binOp op t (.int k x) (.int j y)).run P w = .ok v' w ∧ V Γ v v' := by
  cases op <;> cases hb <;> simp only [binI, ieq_eq, ilt_eq] at hv
  case shl =>
    cases hy : decide (y < 0) with
    | true => simp [hy] at hv
    | false =>
      simp only [hy, cond_false, Option.some.injEq] at hv; subst hv
      exact ⟨_, by simp [binOp, Op.shift, of_decide_eq_false hy], .i _ _⟩
  case shr =>
    cases hy : decide (y < 0) with
    | true => simp [hy] at hv
    | false =>
      simp only [hy, cond_false, Option.some.injEq] at hv; subst hv
      exact ⟨_, by simp [binOp, Op.shift, of_decide_eq_false hy], .i _ _⟩
  all_goals (rcases hk with hk | hk; case inr => cases hk)
  all_goals (obtain rfl := keq_eq hk)
  case quo =>
    cases hy : (y == 0) with
    | true => simp [hy] at hv
    | false =>
      simp only [hy, cond_false, Option.some.injEq] at hv; subst hv
      have : ¬ y = 0 := by simpa using hy
      rw [wr_eq]; exact ⟨_, by simp only [binOp, Op.intDiv, this, if_false, ne_eq, not_true_eq_false]; rfl, .i _ _⟩
  case rem =>
    cases hy : (y == 0) with
    | true => simp [hy] at hv
    | false =>
      simp only [hy, cond_false, Option.some.injEq] at hv; subst hv
      have : ¬ y = 0 := by simpa using hy
      exact ⟨_, by simp [binOp, Op.intDiv, this], .i _ _⟩
  all_goals (simp only [Option.some.injEq] at hv; subst hv)
  case add => rw [wr_eq]; exact ⟨_, by simp only [binOp, Op.intArith, ne_eq, not_true_eq_false, if_false]; rfl, .i _ _⟩
  case sub => rw [wr_eq]; exact ⟨_, by simp only [binOp, Op.intArith, ne_eq, not_true_eq_false, if_false]; rfl, .i _ _⟩
  case mul => rw [wr_eq]; exact ⟨_, by simp only [binOp, Op.intArith, ne_eq, not_true_eq_false, if_false]; rfl, .i _ _⟩
  case and => exact ⟨_, by simp [binOp, Op.intBits], .i _ _⟩
  case or => exact ⟨_, by simp [binOp, Op.intBits], .i _ _⟩
  case xor => exact ⟨_, by simp [binOp, Op.intBits], .i _ _⟩
  case andNot => exact ⟨_, by simp [binOp, Op.intBits], .i _ _⟩
  case eql => exact ⟨_, by simp [binOp, Op.intCmp], .b _⟩
  case neq => exact ⟨_, by simp only [binOp, Op.intCmp, ne_eq, not_true_eq_false, if_false]; rfl, .b _⟩
  case lss => exact ⟨_, by simp [binOp, Op.intCmp], .b _⟩
  case leq => exact ⟨.bool (decide (x ≤ y)), by simp [binOp, Op.intCmp], by rw [show (!decide (y < x)) = decide (x ≤ y) by rw [← decide_not]; congr 1; simp]; exact .b _⟩
  case gtr => exact ⟨_, by simp [binOp, Op.intCmp], .b _⟩
  case geq => exact ⟨.bool (decide (x ≥ y)), by simp [binOp, Op.intCmp], by rw [show (!decide (x < y)) = decide (x ≥ y) by rw [← decide_not]; congr 1; simp]; exact .b _⟩
theorem bytesOf_toList (l : List Nat) : (bytesOf l).toList = l.map UInt8.ofNat := by
  rw [ByteArray.toList_eq]; rfl
theorem bytes_inj {a b : List Nat} (ha : ∀ x ∈ a, x < 256) (hb : ∀ x ∈ b, x < 256) : (a.map UInt8.ofNat == b.map UInt8.ofNat) = decide (a = b) := by
  rw [Bool.eq_iff_iff]
  simp only [beq_iff_eq, decide_eq_true_eq]
  refine ⟨fun h => ?_, fun h => by rw [h]⟩
  have := congrArg (List.map UInt8.toNat) h
  simp only [List.map_map] at this
  have e : ∀ l : List Nat, (∀ x ∈ l, x < 256) → l.map (UInt8.toNat ∘ UInt8.ofNat) = l := fun l hl => by
    conv => rhs; rw [← List.map_id l]
    apply List.map_congr_left
    intro x hx
    have := hl x hx
    simp
    omega
  rwa [e a ha, e b hb] at this
theorem ceq_run {t : TypeId} {ek : EK} (ht : ekOf P t = some ek) {x y : AV} {a b : Value} (hx : V Γ x a) (hy : V Γ y b) {r : Bool} (hr : ceq ek x y = some r) (d : Nat) (w : World) :
    (Op.equalIn (d + 1) t a b).run P w = .ok r w := by
  unfold ekOf at ht
  cases hu : P.underlying t with
  | none => simp [hu] at ht
  | some u =>
    cases u <;> simp only [hu, reduceCtorEq, Option.some.injEq] at ht
    case bool =>
      subst ht
      cases x <;> cases y <;> simp only [ceq, reduceCtorEq, Option.some.injEq] at hr
      subst hr; cases hx; cases hy
      exact run_equalIn_bool w d t _ _ hu
    case int q =>
      subst ht
      cases x <;> cases y <;> simp only [ceq, reduceCtorEq] at hr
      rename_i k a' j b'
      cases hk : keq k j with
      | false => simp [hk] at hr
      | true =>
        simp only [hk, cond_true, Option.some.injEq] at hr
        obtain rfl := keq_eq hk
        subst hr; cases hx; cases hy
        rw [ieq_eq]
        exact run_equalIn_int w d t _ _ _ _ hu
    case string =>
      subst ht
      cases x <;> cases y <;> simp only [ceq, reduceCtorEq, Option.some.injEq] at hr
      subst hr; cases hx with | s l hl => cases hy with | s m hm =>
      rw [run_equalIn_string w d t _ _ hu, bytesOf_toList, bytesOf_toList, bytes_inj hl hm, neqL_eq]
end
end Go.AR
namespace Go.AR
section
variable {L : LoopOk} {Γ : G} {h h' : Tr Blk} {nx nx' : Pos} {w : World} {v : AV} {P : Program}
theorem ekOf_agg {t : TypeId} {ek : EK} (ht : ekOf P t = some ek) : aggOf P t = some false := by
  unfold ekOf at ht; unfold aggOf
  cases hu : P.underlying t with
  | none => simp [hu] at ht
  | some u => cases u <;> simp only [hu, reduceCtorEq] at ht <;> rfl
theorem part_run {t : TypeId} (ht : aggOf P t = some false) {xs : Array Value} {k : Nat} {a : Value} (ha : xs[k]? = some a) (w : World) : (part t xs k).run P w = .ok a w := by
  simp only [part, Sem.run_bind, aggOf_run ht, Result.andThen_ok, Bool.false_eq_true, if_false, ha, Sem.run_pure]
theorem drop_get {vs : List Value} {k : Nat} {a : Value} {t : List Value} (hd : vs.drop k = a :: t) : vs[k]? = some a ∧ vs.drop (k + 1) = t := by
  constructor
  · have := congrArg (fun l => l[0]?) hd; simpa using this
  · rw [← List.drop_drop, hd]; rfl
theorem eqItems_run {e : TypeId} {ek : EK} (he : ekOf P e = some ek) (xs ys : Array Value) (d : Nat) (w : World) {r : Bool} : ∀ (x y : List AV) (k : Nat),
    VL Γ x (xs.toList.drop k) → VL Γ y (ys.toList.drop k) → ceqL ek x y = some r → (Op.eqItems (d + 1) e 1 xs ys (List.range' k x.length)).run P w = .ok r w
  | [], [], k, _, _, hr => by cases hr; simp [Op.eqItems]
  | [], _ :: _, k, _, _, hr => by cases hr
  | _ :: _, [], k, _, _, hr => by cases hr
  | a :: x, b :: y, k, hx, hy, hr => by
    obtain ⟨va, xt, hxd, hva, hxt⟩ : ∃ va xt, xs.toList.drop k = va :: xt ∧ V Γ a va ∧ VL Γ x xt := by
      generalize xs.toList.drop k = q at hx; cases hx with | cons h1 h2 => exact ⟨_, _, rfl, h1, h2⟩
    obtain ⟨vb, yt, hyd, hvb, hyt⟩ : ∃ vb yt, ys.toList.drop k = vb :: yt ∧ V Γ b vb ∧ VL Γ y yt := by
      generalize ys.toList.drop k = q at hy; cases hy with | cons h1 h2 => exact ⟨_, _, rfl, h1, h2⟩
    obtain ⟨hx1, hx2⟩ := drop_get hxd
    obtain ⟨hy1, hy2⟩ := drop_get hyd
    rw [Array.getElem?_toList] at hx1 hy1
    unfold ceqL at hr
    cases hc : ceq ek a b with
    | none => simp [hc] at hr
    | some q =>
      have hq := ceq_run he hva hvb hc d w
      have hp1 := part_run (ekOf_agg he) (xs := xs) (k := k * 1) (by rw [Nat.mul_one]; exact hx1) w
      have hp2 := part_run (ekOf_agg he) (xs := ys) (k := k * 1) (by rw [Nat.mul_one]; exact hy1) w
      simp only [List.length_cons, List.range'_succ, Op.eqItems, Sem.run_bind, hp1, hp2, hq, Result.andThen_ok]
      cases q with
      | true =>
        simp only [hc] at hr
        simp only [Bool.not_true, Bool.false_eq_true, if_false]
        exact eqItems_run he xs ys d w x y (k + 1) (by rw [hx2]; exact hxt) (by rw [hy2]; exact hyt) hr
      | false =>
        simp only [hc] at hr
        cases hb : Nat.beq x.length y.length with
        | false => simp [hb] at hr
        | true => simp only [hb, cond_true, Option.some.injEq] at hr; subst hr; simp
theorem ceqL_length {ek : EK} : ∀ {x y : List AV} {r : Bool}, ceqL ek x y = some r → x.length = y.length
  | [], [], _, _ => rfl
  | [], _ :: _, _, hr => by cases hr
  | _ :: _, [], _, hr => by cases hr
  | a :: x, b :: y, r, hr => by
    unfold ceqL at hr
    cases hc : ceq ek a b with
    | none => simp [hc] at hr
    | some q =>
      simp only [hc] at hr
      cases q with
      | true => simp [ceqL_length hr]
      | false =>
        cases hb : Nat.beq x.length y.length with
        | false => simp [hb] at hr
        | true => simp [Nat.eq_of_beq_eq_true hb]
theorem rowEq_run {t e : TypeId} {m : Nat} {ek : EK} (ht : P.underlying t = some (.array m e)) (he : ekOf P e = some ek) (hs : szOf P e = some 1) {x y : List AV} {xs ys : Array Value}
    (hx : VL Γ x xs.toList) (hy : VL Γ y ys.toList) (hm : x.length = m) {r : Bool} (hr : ceqL ek x y = some r) (d : Nat) (w : World) :
    (Op.equalIn (d + 2) t (.agg xs) (.agg ys)).run P w = .ok r w := by
  unfold szOf at hs
  cases hi : P.info? e with
  | none => rw [hi] at hs; cases hs
  | some i =>
    rw [hi] at hs
    have hi1 : i.size = 1 := by simpa using hs
    have hc : P.cellsOf e = 1 := by unfold Program.cellsOf; rw [hi]; exact hi1
    rw [run_equalIn_array w (d + 1) xs ys ht hi, hc, ← hm, List.range_eq_range']
    exact eqItems_run he xs ys d w x y 0 (by simpa using hx) (by simpa using hy) hr
theorem eqOp_cases {b : Bin} {r : Option Bool} {v : AV} (hv : eqOp b r = some v) : ∃ q, r = some q ∧ ((b = .eql ∧ v = .b q) ∨ (b = .neq ∧ v = .b (!q))) := by
  cases b <;> cases r <;> simp only [eqOp, Option.some.injEq, reduceCtorEq] at hv
  · exact ⟨_, rfl, .inl ⟨rfl, hv.symm⟩⟩
  · exact ⟨_, rfl, .inr ⟨rfl, hv.symm⟩⟩
theorem binOf_eql {op : BinOp} (hb : binOf op = some .eql) : op = .eql := by cases op <;> cases hb; rfl
theorem binOf_neq {op : BinOp} (hb : binOf op = some .neq) : op = .neq := by cases op <;> cases hb; rfl
theorem eq_through {op : BinOp} {b : Bin} (hb : binOf op = some b) {q : Bool} {v : AV} (hv : eqOp b (some q) = some v) {t : TypeId} {a c : Value} (w : World)
    (h1 : binOp .eql t a c = (do pure (.bool (← Op.equal t a c)))) (h2 : binOp .neq t a c = (do pure (.bool (!(← Op.equal t a c))))) (he : (Op.equal t a c).run P w = .ok q w) :
    ∃ v', (binOp op t a c).run P w = .ok v' w ∧ V Γ v v' := by
  obtain ⟨q', hq, hd⟩ := eqOp_cases hv
  cases hq
  rcases hd with ⟨rfl, rfl⟩ | ⟨rfl, rfl⟩
  · obtain rfl := binOf_eql hb; exact ⟨.bool q, by rw [h1]; simp [he], .b q⟩
  · obtain rfl := binOf_neq hb; exact ⟨.bool (!q), by rw [h2]; simp [he], .b (!q)⟩
theorem eqT_eqop {op : BinOp} {b : Bin} (hb : binOf op = some b) (hop : b = .eql ∨ b = .neq) {t : TypeId} {m : Nat × EK} (ht : eqT P op t = some m) :
    (match P.underlying t with
    | some (.slice _) => some (0, EK.l)
    | some (.array _ _) => if P.eqGuardType P.depth t then none else eqN P t
    | _ => eqN P t) = some m := by
  rcases hop with rfl | rfl
  · obtain rfl := binOf_eql hb; exact ht
  · obtain rfl := binOf_neq hb; exact ht
theorem eqN_scal {t : TypeId} {ek : EK} (ht : eqN P t = some (0, ek)) : ekOf P t = some ek := by
  unfold eqN at ht
  split at ht
  · split at ht
    · split at ht
      · simp only [Option.some.injEq, Prod.mk.injEq] at ht; omega
      · cases ht
    · cases ht
  · cases hk : ekOf P t with
    | none => simp [hk] at ht
    | some k => simp [hk] at ht; rw [ht]
theorem eqN_row {t : TypeId} {m : Nat} {ek : EK} (ht : eqN P t = some (m, ek)) (hm : m ≠ 0) : ∃ e, P.underlying t = some (.array m e) ∧ ekOf P e = some ek ∧ szOf P e = some 1 := by
  unfold eqN at ht
  split at ht
  · rename_i m' e hu
    split at ht
    · rename_i k hk
      split at ht
      · rename_i hc
        simp only [Option.some.injEq, Prod.mk.injEq] at ht
        obtain ⟨rfl, rfl⟩ := ht
        exact ⟨e, hu, hk, hc.1⟩
      · cases ht
    · cases ht
  · cases hk : ekOf P t with
    | none => simp [hk] at ht
    | some k => simp [hk] at ht; omega
theorem cmpV_run {t : TypeId} {m : Nat} {ek : EK} (ht : eqN P t = some (m, ek)) {x y : AV} {a c : Value} (hx : V Γ x a) (hy : V Γ y c) {r : Bool} (hr : cmpV m ek x y = some r) (d : Nat) (w : World) :
    (Op.equalIn (d + 2) t a c).run P w = .ok r w := by
  have scal : (bif Nat.beq m 0 then ceq ek x y else none) = some r → (Op.equalIn (d + 2) t a c).run P w = .ok r w := by
    intro hr2
    cases hm : Nat.beq m 0 with
    | false => simp [hm] at hr2
    | true =>
      simp only [hm, cond_true] at hr2
      obtain rfl := Nat.eq_of_beq_eq_true hm
      exact ceq_run (eqN_scal ht) hx hy hr2 (d + 1) w
  unfold cmpV at hr
  split at hr
  · rename_i p q
    cases hm : Nat.beq m 0 with
    | true => simp [hm] at hr
    | false =>
      simp only [hm, cond_false] at hr
      cases hl : Nat.beq p.length m with
      | false => simp [hl] at hr
      | true =>
        simp only [hl, cond_true] at hr
        obtain ⟨e, h1, h2, h3⟩ := eqN_row ht (Nat.ne_of_beq_eq_false hm)
        cases hx with | a _ xs hx => cases hy with | a _ ys hy => exact rowEq_run h1 h2 h3 hx hy (Nat.eq_of_beq_eq_true hl) hr d w
  · exact scal hr
theorem eqT_eqN {op : BinOp} {b : Bin} (hb : binOf op = some b) (hop : b = .eql ∨ b = .neq) {t : TypeId} {m : Nat} {ek : EK} (ht : eqT P op t = some (m, ek)) :
    eqN P t = some (m, ek) ∨ ∃ e, P.underlying t = some (.slice e) := by
  have := eqT_eqop hb hop ht
  split at this
  · exact .inr ⟨_, ‹_›⟩
  · split at this
    · cases this
    · exact .inl this
  · exact .inl this
theorem eqT_guard {op : BinOp} {b : Bin} (hb : binOf op = some b) (hop : b = .eql ∨ b = .neq) {t : TypeId} {m : Nat × EK} (ht : eqT P op t = some m) {n : Nat} {e : TypeId} (hu : P.underlying t = some (.array n e)) :
    P.eqGuardType P.depth t = false := by
  have := eqT_eqop hb hop ht
  simp only [hu] at this
  split at this
  · cases this
  · rename_i hq; exact Bool.eq_false_iff.2 hq
theorem ekOf_l {t : TypeId} : ekOf P t ≠ some .l := by
  unfold ekOf
  cases P.underlying t with
  | none => simp
  | some u => cases u <;> simp
theorem eqN_l {t : TypeId} {m : Nat} : eqN P t ≠ some (m, .l) := by
  intro h
  by_cases hm : m = 0
  · subst hm; exact ekOf_l (eqN_scal h)
  · obtain ⟨e, _, h2, _⟩ := eqN_row h hm; exact ekOf_l h2
theorem eqT_slice {op : BinOp} {b : Bin} (hb : binOf op = some b) (hop : b = .eql ∨ b = .neq) {t : TypeId} {m : Nat} (ht : eqT P op t = some (m, .l)) : ∃ e, P.underlying t = some (.slice e) := by
  rcases eqT_eqN hb hop ht with h | h
  · exact absurd h eqN_l
  · exact h
theorem bytes_append (p q : List Nat) : bytesOf p ++ bytesOf q = bytesOf (p ++ q) := by
  apply ByteArray.ext
  rw [ByteArray.data_append]
  apply Array.ext'
  simp [bytesOf]
theorem binOf_add {op : BinOp} (h : binOf op = some .add) : op = .add := by cases op <;> first | rfl | (simp [binOf] at h)
theorem binV_run {op : BinOp} {b : Bin} (hb : binOf op = some b) {t : TypeId} {m : Nat} {ek : EK} (ht : eqT P op t = some (m, ek)) {x y : AV} {a c : Value} (hx : V Γ x a) (hy : V Γ y c)
    (hv : binV b m ek x y = some v) (ox oy : Operand) (w : World) : ∃ v', ((do eqGuard op t ox oy a c; binOp op t a c : Sem Value)).run P w = .ok v' w ∧ V Γ v v' := by
  cases x <;> cases y <;> simp only [binV, reduceCtorEq] at hv
  case b.b p q =>
    obtain ⟨r, hr, hd⟩ := eqOp_cases hv
    have hop : b = .eql ∨ b = .neq := by rcases hd with hd | hd; exact .inl hd.1; exact .inr hd.1
    rw [hr] at hv
    have key : eqN P t = some (m, ek) := by
      rcases eqT_eqN hb hop ht with h | ⟨e, h⟩
      · exact h
      · have := eqT_eqop hb hop ht
        simp only [h, Option.some.injEq, Prod.mk.injEq] at this
        obtain ⟨rfl, rfl⟩ := this
        simp [cmpV, ceq] at hr
    have he := cmpV_run key hx hy hr 9998 w
    cases hx; cases hy
    rw [eqGuard_at_bool]; simp only [pure_bind]
    exact eq_through hb hv w rfl rfl he
  case i.i k p j q =>
    cases hx; cases hy
    rw [eqGuard_at_int]; simp only [pure_bind]
    cases hk : keq k j with
    | true => simp only [hk, cond_true] at hv; exact binI_run hb t (.inl hk) hv
    | false =>
      simp only [hk, cond_false] at hv
      cases hs : shiftOp b with
      | true => simp only [hs, cond_true] at hv; exact binI_run hb t (.inr hs) hv
      | false => simp [hs] at hv
  case s.s p q =>
    cases hx with | s _ hp => cases hy with | s _ hq =>
    rw [eqGuard_at_string]; simp only [pure_bind]
    by_cases hadd : b = .add
    · subst hadd
      have hv : (bif Nat.blt (p.length + q.length) 1000000000 then some (AV.s (p ++ q)) else none) = some v := hv
      cases hl : Nat.blt (p.length + q.length) 1000000000 with
      | false => rw [hl] at hv; cases hv
      | true =>
        rw [hl] at hv
        cases hv
        rw [Nat.blt_eq] at hl
        obtain rfl := binOf_add hb
        have hs : ∀ l : List Nat, (bytesOf l).size = l.length := fun l => by simp [bytesOf, ByteArray.size]
        refine ⟨.string (bytesOf p ++ bytesOf q), ?_, by rw [bytes_append]; exact .s _ (fun x hx => by rcases List.mem_append.1 hx with h | h; exact hp x h; exact hq x h)⟩
        simp only [binOp, Op.stringOp, hs]
        rw [if_neg (by simp only [IntKind.max, IntKind.bits, IntKind.signed]; simp; omega)]
        rfl
    have hv : eqOp b (some (neqL p q)) = some v := by
      cases b <;> first | exact hv | exact absurd rfl hadd
    obtain ⟨r, hr, hd⟩ := eqOp_cases hv
    cases hr
    rcases hd with ⟨rfl, rfl⟩ | ⟨rfl, rfl⟩
    · obtain rfl := binOf_eql hb
      exact ⟨_, by simp only [binOp, Op.stringOp, bytesOf_toList, bytes_inj hp hq]; rfl, by rw [neqL_eq]; exact .b _⟩
    · obtain rfl := binOf_neq hb
      exact ⟨_, by simp only [binOp, Op.stringOp, bytesOf_toList, bytes_inj hp hq]; rfl, by rw [neqL_eq]; exact .b _⟩
  case a.a p q =>
    obtain ⟨r, hr, hd⟩ := eqOp_cases hv
    have hop : b = .eql ∨ b = .neq := by rcases hd with hd | hd; exact .inl hd.1; exact .inr hd.1
    rw [hr] at hv
    have key : eqN P t = some (m, ek) := by
      rcases eqT_eqN hb hop ht with h | ⟨e, h⟩
      · exact h
      · have := eqT_eqop hb hop ht
        simp only [h, Option.some.injEq, Prod.mk.injEq] at this
        obtain ⟨rfl, rfl⟩ := this
        simp [cmpV] at hr
    have hm : m ≠ 0 := by rintro rfl; simp [cmpV] at hr
    obtain ⟨e, h1, _, _⟩ := eqN_row key hm
    have hg := eqT_guard hb hop ht h1
    have he := cmpV_run key hx hy hr 9998 w
    cases hx; cases hy
    simp only [Sem.run_bind, run_eqGuard_agg w op t ox oy _ _ hg, Result.andThen_ok]
    exact eq_through hb hv w rfl rfl he
  case sl.ns b' o' n' c' =>
    cases ek <;> simp only [reduceCtorEq] at hv
    obtain ⟨r, hr, hd⟩ := eqOp_cases hv
    have hop : b = .eql ∨ b = .neq := by rcases hd with hd | hd; exact .inl hd.1; exact .inr hd.1
    obtain ⟨e, hu⟩ := eqT_slice hb hop ht
    cases hx; cases hy
    rw [eqGuard_at_slice]; simp only [pure_bind]
    exact eq_through hb hv w rfl rfl (run_equal_slice_nil w t e _ _ _ hu)
  case z.ns k l n xx =>
    cases ek <;> simp only [reduceCtorEq] at hv
    cases hn0 : Nat.beq n 0 with
    | true => simp [hn0] at hv
    | false =>
      simp only [hn0, cond_false] at hv
      have hn0 := Nat.ne_of_beq_eq_false hn0
      obtain ⟨r, hr, hd⟩ := eqOp_cases hv
      have hop : b = .eql ∨ b = .neq := by rcases hd with hd | hd; exact .inl hd.1; exact .inr hd.1
      obtain ⟨e, hu⟩ := eqT_slice hb hop ht
      obtain ⟨a, cap, ws, rfl, _, _, h1, _, h2, _⟩ := hx.z_inv
      cases hy
      cases a with
      | none => have := h2 rfl; omega
      | some a =>
        rw [eqGuard_at_slice]; simp only [pure_bind]
        exact eq_through hb hv w rfl rfl (run_equal_slice_nil w t e _ _ _ hu)
  case ns.ns =>
    cases ek <;> simp only [reduceCtorEq] at hv
    obtain ⟨r, hr, hd⟩ := eqOp_cases hv
    have hop : b = .eql ∨ b = .neq := by rcases hd with hd | hd; exact .inl hd.1; exact .inr hd.1
    obtain ⟨e, hu⟩ := eqT_slice hb hop ht
    cases hx; cases hy
    rw [eqGuard_at_slice]; simp only [pure_bind]
    exact eq_through hb hv w rfl rfl (run_equal_slice_nil w t e _ _ _ hu)
end
end Go.AR
namespace Go.AR
section
variable {L : LoopOk} {Γ : G} {h h' : Tr Blk} {nx nx' : Pos} {w : World} {v : AV} {P : Program} {o : Oper} {ρ : Operand → Value} {vs : List AV}
theorem okv_inv {x : Option AV} (hx : okv x h nx = .ok v h' nx') : x = some v ∧ h' = h ∧ nx' = nx := by
  cases x with
  | none => cases hx
  | some y => cases hx; exact ⟨rfl, rfl, rfl⟩
theorem d_mv (hr : R L Γ h nx w) {x : Operand} (ho : o.op = .move x ∨ o.op = .assign x) (hv : VL Γ vs [ρ x]) (hx : doMv vs h nx = .ok v h' nx') : Done L Γ h nx w v h' nx' ((execOp ρ o).run P w) := by
  have e : execOp ρ o = pure (.value (ρ x)) := by rcases ho with ho | ho <;> simp only [execOp, ho]
  rw [e]
  cases vs with
  | nil => cases hx
  | cons a t => cases t with
    | cons b t => cases hx
    | nil => cases hx; obtain ⟨_, h1, h2⟩ := hv.inv1; cases h1; exact Done.same hr h2
theorem d_pick (hr : R L Γ h nx w) {c a b : Operand} (ho : o.op = .pick c a b) (hv : VL Γ vs [ρ c, ρ a, ρ b]) (hx : doPick vs h nx = .ok v h' nx') : Done L Γ h nx w v h' nx' ((execOp ρ o).run P w) := by
  unfold doPick at hx
  split at hx
  · rename_i q x y
    cases hx
    obtain ⟨_, _, _, e, h1, h2, h3⟩ := hv.inv3
    simp only [List.cons.injEq, and_true] at e
    obtain ⟨e1, e2, e3⟩ := e
    cases h1
    simp only [execOp, ho, e1, asBool, pure_bind]
    cases q
    · exact Done.same hr (by simpa [e3] using h3)
    · exact Done.same hr (by simpa [e2] using h2)
  · cases hx
theorem runv {s : Sem Value} {y : Value} (hs : s.run P w = .ok y w) : (do pure (Next.value (← s)) : Sem Next).run P w = .ok (.value y) w := by simp [hs]
theorem runv' {s : Sem Value} {y : Value} {w' : World} (hs : s.run P w = .ok y w') : (do pure (Next.value (← s)) : Sem Next).run P w = .ok (.value y) w' := by simp [hs]
theorem d_bin (hr : R L Γ h nx w) {op : BinOp} {t t' : TypeId} {x y : Operand} (ho : o.op = .binOp op t x y t') {b : Bin} (hb : binOf op = some b) {m : Nat} {ek : EK} (ht : eqT P op t = some (m, ek))
    (hv : VL Γ vs [ρ x, ρ y]) (hx : doBin b m ek vs h nx = .ok v h' nx') : Done L Γ h nx w v h' nx' ((execOp ρ o).run P w) := by
  unfold doBin at hx
  split at hx
  · obtain ⟨h1, rfl, rfl⟩ := okv_inv hx
    obtain ⟨_, _, e, h2, h3⟩ := hv.inv2
    simp only [List.cons.injEq, and_true] at e
    obtain ⟨e1, e2⟩ := e
    obtain ⟨y', hy, hv'⟩ := binV_run hb ht h2 h3 h1 x y w
    simp only [execOp, ho, e1, e2]
    rw [runv hy]
    exact Done.same hr hv'
  · cases hx
theorem d_not (hr : R L Γ h nx w) {t : TypeId} {x : Operand} (ho : o.op = .unOp .not t x) (hv : VL Γ vs [ρ x]) (hx : doNot vs h nx = .ok v h' nx') : Done L Γ h nx w v h' nx' ((execOp ρ o).run P w) := by
  unfold doNot at hx
  split at hx
  · cases hx
    obtain ⟨_, e, h1⟩ := hv.inv1
    simp only [List.cons.injEq, and_true] at e
    cases h1
    simp only [execOp, ho, e, Op.unary]
    exact Done.same hr (.b _)
  · cases hx
theorem d_neg (hr : R L Γ h nx w) {t : TypeId} {x : Operand} (ho : o.op = .unOp .neg t x) (hv : VL Γ vs [ρ x]) (hx : doNeg vs h nx = .ok v h' nx') : Done L Γ h nx w v h' nx' ((execOp ρ o).run P w) := by
  unfold doNeg at hx
  split at hx
  · cases hx
    obtain ⟨_, e, h1⟩ := hv.inv1
    simp only [List.cons.injEq, and_true] at e
    cases h1
    simp only [execOp, ho, e, Op.unary, Op.intArith]
    rw [wr_eq]
    exact Done.same hr (.i _ _)
  · cases hx
theorem d_com (hr : R L Γ h nx w) {t : TypeId} {x : Operand} (ho : o.op = .unOp .xor t x) (hv : VL Γ vs [ρ x]) (hx : doCom vs h nx = .ok v h' nx') : Done L Γ h nx w v h' nx' ((execOp ρ o).run P w) := by
  unfold doCom at hx
  split at hx
  · cases hx
    obtain ⟨_, e, h1⟩ := hv.inv1
    simp only [List.cons.injEq, and_true] at e
    cases h1
    simp only [execOp, ho, e, Op.unary, Op.intBits]
    exact Done.same hr (.i _ _)
  · cases hx
theorem d_conv (hr : R L Γ h nx w) {s d : TypeId} {x : Operand} (ho : o.op = .convert s d x) {k k' : IntKind} (hs : P.underlying s = some (.int k')) (hd : P.underlying d = some (.int k)) (hv : VL Γ vs [ρ x])
    (hx : doConv k vs h nx = .ok v h' nx') : Done L Γ h nx w v h' nx' ((execOp ρ o).run P w) := by
  unfold doConv at hx
  split at hx
  · rename_i k0 n0
    cases hx
    obtain ⟨_, e, h1⟩ := hv.inv1
    simp only [List.cons.injEq, and_true] at e
    cases h1
    rw [wr_eq]
    simp only [execOp, ho, e]
    rw [runv (y := .int k (k.wrap n0)) (by simp [convert, run_underlying hs, run_underlying hd, Conv.intToInt])]
    exact Done.same hr (.i _ _)
  · cases hx
theorem d_convS (hr : R L Γ h nx w) {s d : TypeId} {x : Operand} (ho : o.op = .convert s d x) (hs : P.underlying s = some .string) (hd : P.underlying d = some .string) (hv : VL Γ vs [ρ x])
    (hstr : ∀ a, vs = [a] → (∃ l, a = .s l) ∨ ∃ p q, a = .q p q) (hx : doMv vs h nx = .ok v h' nx') : Done L Γ h nx w v h' nx' ((execOp ρ o).run P w) := by
  cases vs with
  | nil => cases hx
  | cons a t => cases t with
    | cons b t => cases hx
    | nil =>
      cases hx
      obtain ⟨_, e, h1⟩ := hv.inv1
      simp only [List.cons.injEq, and_true] at e
      simp only [execOp, ho, e]
      rcases hstr _ rfl with ⟨l, rfl⟩ | ⟨p, q, rfl⟩
      · have h1' := h1
        cases h1 with | s _ hl =>
        rw [runv (y := .string (bytesOf l)) (by simp [convert, run_underlying hs, run_underlying hd])]
        exact Done.same hr (.s _ hl)
      · cases h1
        rw [runv (y := .string (bytesOf (ratText p q))) (by simp [convert, run_underlying hs, run_underlying hd])]
        exact Done.same hr (.q _ _)
theorem d_load (hr : R L Γ h nx w) {t : TypeId} {x : Operand} (ho : o.op = .load t x) {agg : Bool} {n : Nat} (ha : aggOf P t = some agg) (hs : szOf P t = some n) (hv : VL Γ vs [ρ x])
    (hx : doLoad agg n vs h nx = .ok v h' nx') : Done L Γ h nx w v h' nx' ((execOp ρ o).run P w) := by
  unfold doLoad at hx
  split at hx
  · split at hx
    · rename_i l hl
      obtain ⟨h1, rfl, rfl⟩ := okv_inv hx
      obtain ⟨_, e, h2⟩ := hv.inv1
      simp only [List.cons.injEq, and_true] at e
      cases h2 with | p _ _ ex he =>
      obtain ⟨y, hy, hv'⟩ := load_run (P := P) ha hs hr he hl h1
      simp only [execOp, ho, e, Instr.loadAt, Instr.sureAddr, pure_bind]
      rw [runv hy]
      exact Done.same hr hv'
    · cases hx
  · rename_i k l
    obtain ⟨h1, rfl, rfl⟩ := okv_inv hx
    obtain ⟨_, e, h2⟩ := hv.inv1
    simp only [List.cons.injEq, and_true] at e
    obtain ⟨rb, off, ws, rfl, h3, h4, hp⟩ := h2.zp_inv
    obtain ⟨y, hy, hv'⟩ := zload_run (P := P) ha hs hr h3 h4 h1
    simp only [execOp, ho, e, Instr.loadAt, Instr.sureAddr, pure_bind]
    rw [runv hy]
    exact Done.same hr hv'
  · cases hx
theorem d_store (hr : R L Γ h nx w) {t : TypeId} {x y : Operand} (ho : o.op = .store t x y) {n : Nat} (hs : szOf P t = some n) (hv : VL Γ vs [ρ x, ρ y])
    (hx : doStore n vs h nx = .ok v h' nx') : Done L Γ h nx w v h' nx' ((execOp ρ o).run P w) := by
  unfold doStore at hx
  split at hx
  · rename_i b off x'
    cases hn : Nat.beq (cellsOf x').length n with
    | false => simp [hn] at hx
    | true =>
      simp only [hn, cond_true] at hx
      obtain ⟨_, _, e, h2, h3⟩ := hv.inv2
      simp only [List.cons.injEq, and_true] at e
      obtain ⟨e1, e2⟩ := e
      cases h2 with | p _ _ ex he =>
      obtain ⟨rfl, rfl, w', hw, hst⟩ := put_run (P := P) hr he h3.cells hx
      refine Done.unit ?_ hst
      have hsz : (ρ y).cells.size = n := by rw [e2, ← Array.length_toList, h3.cells.length]; exact Nat.eq_of_beq_eq_true hn
      rw [← e2] at hw
      simp only [execOp, ho, e1, Instr.storeAt, Instr.sureAddr, pure_bind, storeVar, Sem.run_bind, szOf_run hs, Result.andThen_ok, hsz, ne_eq, not_true_eq_false, if_false, hw, Sem.run_pure]
  · cases hx
theorem d_alloc (hL : LMono L) (hr : R L Γ h nx w) {t : TypeId} (ho : o.op = .alloc t) {z : List AV} (hz : zeroOf P t = some z) (hv : VL Γ vs []) (hx : doAlloc z vs h nx = .ok v h' nx') :
    Done L Γ h nx w v h' nx' ((execOp ρ o).run P w) := by
  cases hv
  cases hx
  obtain ⟨zv, hz1, hz2⟩ := zeroOf_run hz
  have hst := new_row hL hr (hz2 Γ) t 0 (rest := []) (fun _ => rfl)
  refine Done.of (v' := .pointer (some ⟨w.heap.size, 0, none⟩)) ?_ hst (.p nx 0 _ (G.add_same _ _))
  simp only [execOp, ho]
  exact runv' (by simp [Instr.alloc, zeroV_run hz1, newVar, newRow_run])
theorem d_box (hL : LMono L) (hr : R L Γ h nx w) {t : TypeId} {x : Operand} (ho : o.op = .box t x) (hv : VL Γ vs [ρ x]) (hx : doBox vs h nx = .ok v h' nx') :
    Done L Γ h nx w v h' nx' ((execOp ρ o).run P w) := by
  unfold doBox at hx
  split at hx
  · cases hx
    obtain ⟨_, e, h2⟩ := hv.inv1
    simp only [List.cons.injEq, and_true] at e
    have hst := new_row hL hr h2.cells t 0 (rest := []) (fun _ => rfl)
    refine Done.of (v' := .pointer (some ⟨w.heap.size, 0, none⟩)) ?_ hst (.p nx 0 _ (G.add_same _ _))
    simp only [execOp, ho]
    exact runv' (by simp [Instr.box, newVar, newRow_run, e])
  · cases hx
theorem d_nilchk (hr : R L Γ h nx w) {x : Operand} (ho : o.op = .nilCheck x) (hv : VL Γ vs [ρ x]) (hx : doNilchk vs h nx = .ok v h' nx') : Done L Γ h nx w v h' nx' ((execOp ρ o).run P w) := by
  unfold doNilchk at hx
  split at hx
  · cases hx
    obtain ⟨_, e, h2⟩ := hv.inv1
    simp only [List.cons.injEq, and_true] at e
    have h2' := h2
    cases h2
    simp only [execOp, ho, e]
    exact Done.same hr h2'
  · cases hx
    obtain ⟨y, e, h2⟩ := hv.inv1
    simp only [List.cons.injEq, and_true] at e
    have : ∃ f vs, y = .func (.func f) #[] vs := by
      generalize hq : AV.f _ _ = q at h2
      cases h2 <;> cases hq; exact ⟨_, _, rfl⟩
    obtain ⟨f, cs, rfl⟩ := this
    simp only [execOp, ho, e]
    exact Done.same hr h2
  · cases hx
    obtain ⟨_, e, h2⟩ := hv.inv1
    simp only [List.cons.injEq, and_true] at e
    have h2' := h2
    cases h2
    simp only [execOp, ho, e]
    exact Done.same hr h2'
  · cases hx
    obtain ⟨_, e, h2⟩ := hv.inv1
    simp only [List.cons.injEq, and_true] at e
    have h2' := h2
    obtain ⟨rb, off, ws, rfl, h3, h4, hp⟩ := h2.zp_inv
    simp only [execOp, ho, e]
    exact Done.same hr h2'
  · cases hx
theorem d_ext (hr : R L Γ h nx w) {x : Operand} {i : Nat} (ho : o.op = .extract x i) (hv : VL Γ vs [ρ x]) (hx : doExt i vs h nx = .ok v h' nx') : Done L Γ h nx w v h' nx' ((execOp ρ o).run P w) := by
  unfold doExt at hx
  split at hx
  · obtain ⟨h1, rfl, rfl⟩ := okv_inv hx
    obtain ⟨_, e, h2⟩ := hv.inv1
    simp only [List.cons.injEq, and_true] at e
    cases h2 with | t _ ys hl =>
    obtain ⟨y, hy, hv'⟩ := hl.get (hd_drop h1)
    simp only [execOp, ho, e]
    rw [runv (y := y) (by rw [Array.getElem?_toList] at hy; simp [Instr.extract, hy])]
    exact Done.same hr hv'
  · cases hx
theorem part_rd {t : TypeId} {agg : Bool} {n : Nat} (ha : aggOf P t = some agg) (hs : szOf P t = some n) {l : List AV} {xs : Array Value} (hl : VL Γ l xs.toList) {off : Nat} {x : AV} (hx : rd agg n off l = some x) (w : World) :
    ∃ y, (part t xs off).run P w = .ok y w ∧ V Γ x y := by
  cases agg with
  | false =>
    have hx : hd (dropN off l) = some x := hx
    obtain ⟨y, hy, hv⟩ := hl.get (hd_drop hx)
    exact ⟨y, part_run ha (by rwa [Array.getElem?_toList] at hy) w, hv⟩
  | true =>
    have hx : (Option.casesOn (sub off n l) none (fun r => some (.a r)) : Option AV) = some x := hx
    cases hsb : sub off n l with
    | none => rw [hsb] at hx; cases hx
    | some r =>
      rw [hsb] at hx; cases hx
      have key : ∃ m : List Value, (xs.extract off (off + n)).toList = m ∧ VL Γ r m := by
        rcases sub_eq hsb with ⟨h1, h2, h3⟩ | ⟨rfl, rfl⟩
        · rw [h1] at hl
          obtain ⟨ab, c, hq, hab, hc⟩ := hl.split
          obtain ⟨a, m, rfl, ha', hm⟩ := hab.split
          refine ⟨m, ?_, hm⟩
          have hal : a.length = off := by rw [ha'.length]; simp; omega
          have hml : m.length = n := by rw [hm.length, h2]
          rw [Array.toList_extract, hq]
          simp only [List.extract]
          rw [List.append_assoc, List.drop_append_of_le_length (by omega), List.drop_of_length_le (by omega), List.nil_append, List.take_append_of_le_length (by omega), List.take_of_length_le (by omega)]
        · exact ⟨[], by rw [Array.toList_extract]; simp [List.extract], .nil⟩
      obtain ⟨m, hm1, hm2⟩ := key
      refine ⟨.agg (xs.extract off (off + n)), ?_, .a _ _ (by rw [hm1]; exact hm2)⟩
      simp only [part, Sem.run_bind, aggOf_run ha, Result.andThen_ok, if_true, szOf_run hs, Sem.run_pure]
theorem d_fld (hr : R L Γ h nx w) {t : TypeId} {x : Operand} {f : Nat} (ho : o.op = .field t x f) {fs : Array Field} {fd : Field} (hu : P.underlying t = some (.struct fs)) (hf : fs[f]? = some fd) {agg : Bool} {n : Nat}
    (ha : aggOf P fd.type = some agg) (hs : szOf P fd.type = some n) (hv : VL Γ vs [ρ x]) (hx : doFld fd.offset n agg vs h nx = .ok v h' nx') : Done L Γ h nx w v h' nx' ((execOp ρ o).run P w) := by
  unfold doFld at hx
  split at hx
  · obtain ⟨h1, rfl, rfl⟩ := okv_inv hx
    obtain ⟨_, e, h2⟩ := hv.inv1
    simp only [List.cons.injEq, and_true] at e
    cases h2 with | a _ xs hl =>
    obtain ⟨y, hy, hv'⟩ := part_rd (P := P) ha hs hl h1 w
    simp only [execOp, ho, e]
    rw [runv (y := y) (by simp [Instr.field, run_underlying hu, hf, asAgg, hy])]
    exact Done.same hr hv'
  · cases hx
theorem d_faddr (hr : R L Γ h nx w) {t : TypeId} {x : Operand} {f : Nat} (ho : o.op = .fieldAddr t x f) {fs : Array Field} {fd : Field} (hu : P.underlying t = some (.struct fs)) (hf : fs[f]? = some fd) {n : Nat}
    (hs : szOf P fd.type = some (n + 1)) (hv : VL Γ vs [ρ x]) (hx : doFaddr fd.offset vs h nx = .ok v h' nx') : Done L Γ h nx w v h' nx' ((execOp ρ o).run P w) := by
  unfold doFaddr at hx
  split at hx
  · rename_i b off
    cases hx
    obtain ⟨_, e, h2⟩ := hv.inv1
    simp only [List.cons.injEq, and_true] at e
    cases h2 with | p _ _ ex he =>
    simp only [execOp, ho, e]
    rw [runv (y := .pointer (some ⟨ex.rb, ex.base + (off + fd.offset), none⟩))
      (by simp [Instr.fieldAt, run_underlying hu, hf, Instr.sureAddr, fieldPlace, szOf_run hs, Addr.add_mid, Nat.add_assoc])]
    exact Done.same hr (.p _ _ _ he)
  · rename_i k l
    obtain ⟨hne, rfl, rfl, rfl⟩ := zpR_inv hx
    obtain ⟨_, e, h2⟩ := hv.inv1
    simp only [List.cons.injEq, and_true] at e
    obtain ⟨rb, off, ws, rfl, h3, h4, hp⟩ := h2.zp_inv
    simp only [execOp, ho, e]
    rw [runv (y := .pointer (some ⟨rb, off + fd.offset, none⟩))
      (by simp [Instr.fieldAt, run_underlying hu, hf, Instr.sureAddr, fieldPlace, szOf_run hs, Addr.add_mid])]
    rw [dropN_eq]
    exact Done.same hr (.zp _ _ _ _ _ (h3.drop _) (h4.drop _) (puL_drop hp _))
  · cases hx
theorem d_iaddrA (hr : R L Γ h nx w) {t e : TypeId} {x i : Operand} (ho : o.op = .indexAddr t x i) {m s : Nat} (hu : P.underlying t = some (.array m e)) (hs : szOf P e = some s) (hv : VL Γ vs [ρ x, ρ i])
    (hx : doIaddrA m s vs h nx = .ok v h' nx') : Done L Γ h nx w v h' nx' ((execOp ρ o).run P w) := by
  unfold doIaddrA at hx
  split at hx
  · rename_i b off k j
    cases hj : Nat.blt j m with
    | false => simp [hj] at hx
    | true =>
      simp only [hj, cond_true] at hx; cases hx
      obtain ⟨_, _, e', h2, h3⟩ := hv.inv2
      simp only [List.cons.injEq, and_true] at e'
      obtain ⟨e1, e2⟩ := e'
      cases h2 with | p _ _ ex he =>
      cases h3
      have := blt_lt hj
      simp only [execOp, ho, e1, e2]
      rw [runv (y := .pointer (some ⟨ex.rb, ex.base + (off + j * s), none⟩))
        (by simp [Instr.indexAt, asIntOf, run_underlying hu, Instr.sureAddr, szOf_run hs, Addr.add_mid, Nat.add_assoc, this])]
      exact Done.same hr (.p _ _ _ he)
  · rename_i k l kk j
    cases hj : Nat.blt j m with
    | false => simp [hj] at hx
    | true =>
      simp only [hj, cond_true] at hx
      obtain ⟨hne, rfl, rfl, rfl⟩ := zpR_inv hx
      obtain ⟨_, _, e', h2, h3⟩ := hv.inv2
      simp only [List.cons.injEq, and_true] at e'
      obtain ⟨e1, e2⟩ := e'
      obtain ⟨rb, off, ws, rfl, h4, h5, hp⟩ := h2.zp_inv
      cases h3
      have := blt_lt hj
      simp only [execOp, ho, e1, e2]
      rw [runv (y := .pointer (some ⟨rb, off + j * s, none⟩))
        (by simp [Instr.indexAt, asIntOf, run_underlying hu, Instr.sureAddr, szOf_run hs, Addr.add_mid, this])]
      rw [dropN_eq]
      exact Done.same hr (.zp _ _ _ _ _ (h4.drop _) (h5.drop _) (puL_drop hp _))
  · cases hx
theorem d_iaddrS (hr : R L Γ h nx w) {t e : TypeId} {x i : Operand} (ho : o.op = .indexAddr t x i) {s : Nat} (hu : P.underlying t = some (.slice e)) (hs : szOf P e = some s) (hv : VL Γ vs [ρ x, ρ i])
    (hx : doIaddrS s vs h nx = .ok v h' nx') : Done L Γ h nx w v h' nx' ((execOp ρ o).run P w) := by
  unfold doIaddrS at hx
  split at hx
  · rename_i b off n c k j
    cases hj : Nat.blt j n with
    | false => simp [hj] at hx
    | true =>
      simp only [hj, cond_true] at hx; cases hx
      obtain ⟨_, _, e', h2, h3⟩ := hv.inv2
      simp only [List.cons.injEq, and_true] at e'
      obtain ⟨e1, e2⟩ := e'
      cases h2 with | sl _ _ _ _ c' ex he hn hc =>
      cases h3
      have := blt_lt hj
      simp only [execOp, ho, e1, e2]
      rw [runv (y := .pointer (some ⟨ex.rb, ex.base + (off + j * s), none⟩))
        (by simp [Instr.indexAt, asIntOf, run_underlying hu, szOf_run hs, Addr.add_mid, Nat.add_assoc, this])]
      exact Done.same hr (.p _ _ _ he)
  · rename_i k l n xx kk j
    cases hj : Nat.blt j n with
    | false => simp [hj] at hx
    | true =>
      simp only [hj, cond_true] at hx
      obtain ⟨hne, rfl, rfl, rfl⟩ := zpR_inv hx
      obtain ⟨_, _, e', h2, h3⟩ := hv.inv2
      simp only [List.cons.injEq, and_true] at e'
      obtain ⟨e1, e2⟩ := e'
      obtain ⟨a, cap, ws, rfl, h4, h5, _, _, _, hp⟩ := h2.z_inv
      cases h3
      have := blt_lt hj
      have hw0 : ws ≠ [] := by
        rintro rfl
        cases h4
        rw [dropN_eq] at hne; simp at hne
      obtain ⟨rb, off, rfl⟩ : ∃ rb off, a = some ⟨rb, off, none⟩ := by
        rcases h5 with h5 | ⟨rb, off, _, _, h5, _⟩
        · exact absurd h5 hw0
        · exact ⟨rb, off, h5⟩
      simp only [execOp, ho, e1, e2]
      rw [runv (y := .pointer (some ⟨rb, off + j * s, none⟩))
        (by simp [Instr.indexAt, asIntOf, run_underlying hu, szOf_run hs, Addr.add_mid, this])]
      rw [dropN_eq]
      exact Done.same hr (.zp _ _ _ _ _ (h4.drop _) (h5.drop _) (puL_drop hp _))
  · cases hx
theorem d_idxA (hr : R L Γ h nx w) {t e : TypeId} {x i : Operand} (ho : o.op = .index t x i) {m s : Nat} {agg : Bool} (hu : P.underlying t = some (.array m e)) (ha : aggOf P e = some agg) (hs : szOf P e = some s)
    (hv : VL Γ vs [ρ x, ρ i]) (hx : doIdxA m s agg vs h nx = .ok v h' nx') : Done L Γ h nx w v h' nx' ((execOp ρ o).run P w) := by
  unfold doIdxA at hx
  split at hx
  · rename_i l k j
    cases hj : Nat.blt j m with
    | false => simp [hj] at hx
    | true =>
      simp only [hj, cond_true] at hx
      obtain ⟨h1, rfl, rfl⟩ := okv_inv hx
      obtain ⟨_, _, e', h2, h3⟩ := hv.inv2
      simp only [List.cons.injEq, and_true] at e'
      obtain ⟨e1, e2⟩ := e'
      cases h2 with | a _ xs hl =>
      cases h3
      have := blt_lt hj
      obtain ⟨y, hy, hv'⟩ := part_rd (P := P) ha hs hl h1 w
      simp only [execOp, ho, e1, e2]
      rw [runv (y := y) (by simp [Instr.index, asIntOf, run_underlying hu, szOf_run hs, this, hy])]
      exact Done.same hr hv'
  · cases hx
theorem d_idxT (hr : R L Γ h nx w) {t : TypeId} {x i : Operand} (ho : o.op = .index t x i) (hu : P.underlying t = some .string)
    (hv : VL Γ vs [ρ x, ρ i]) (hx : doIdxT vs h nx = .ok v h' nx') : Done L Γ h nx w v h' nx' ((execOp ρ o).run P w) := by
  unfold doIdxT at hx
  split at hx
  · rename_i l k j
    split at hx
    · rename_i q hq
      cases hx
      obtain ⟨_, _, e', h2, h3⟩ := hv.inv2
      simp only [List.cons.injEq, and_true] at e'
      obtain ⟨e1, e2⟩ := e'
      cases h2 with | s _ hl =>
      cases h3
      have hg := hd_drop hq
      have hq256 := hl q (List.mem_of_getElem? hg)
      simp only [execOp, ho, e1, e2]
      rw [runv (y := .int .u8 (q : Nat)) ?_]
      · exact Done.same hr (.i _ _)
      have hb : (bytesOf l)[j]? = some (UInt8.ofNat q) := by
        show (l.map UInt8.ofNat).toArray[j]? = _
        simp [hg]
      simp only [Instr.index, asIntOf, pure_bind, Sem.run_bind, run_underlying hu, Result.andThen_ok, Int.ofNat_eq_natCast, Int.toNat_natCast, Int.natCast_nonneg, if_true, hb, Sem.run_pure]
      congr 2
      simp
      omega
    · cases hx
  · cases hx
end
end Go.AR
namespace Go.AR
section
variable {L : LoopOk} {Γ : G} {h h' : Tr Blk} {nx nx' : Pos} {w : World} {v : AV} {P : Program} {o : Oper} {ρ : Operand → Value} {vs : List AV}
theorem natOf_V {x : AV} {k : Nat} (hk : natOf x = some k) {a : Value} (ha : V Γ x a) : ∃ kk, a = .int kk (k : Int) := by
  unfold natOf at hk
  split at hk
  · cases hk; cases ha; exact ⟨_, rfl⟩
  · cases hk
theorem sliceBound_run {a : Value} {kk : IntKind} {k y : Nat} (ha : a = .int kk (k : Int)) (hle : k ≤ y) (code : BoundsCode) (w : World) : (Instr.sliceBound a y code).run P w = .ok k w := by
  subst ha
  simp only [Instr.sliceBound, asIntOf, pure_bind]
  rw [if_pos ⟨by omega, by omega⟩]
  simp
theorem ble_le {a b : Nat} (h : Nat.ble a b = true) : a ≤ b := by rwa [Nat.ble_eq] at h
theorem bnds_run {lo hi mx : Option Operand} {n c c' : Nat} {r : Nat × Nat × Nat} (hb : bnds (bsOf lo hi mx) n c vs = some r) (hv : VL Γ vs ((boundsL lo hi mx).map ρ)) (hn : n ≤ c) (hc : c ≤ c') (sl : Bool) (w : World) :
    ∃ m', (Instr.sliceBounds sl n c' (lo.map ρ) (hi.map ρ) (mx.map ρ)).run P w = .ok (r.1, r.2.1, m') w ∧ (mx = none → r.2.2 = c ∧ m' = c') ∧ (mx ≠ none → m' = r.2.2) ∧ r.1 ≤ r.2.1 ∧ r.2.1 ≤ r.2.2 ∧ r.2.2 ≤ c := by
  cases lo with
  | none =>
    cases hi with
    | none =>
      cases mx with
      | none =>
        cases hv; cases hb
        exact ⟨c', by simp [Instr.sliceBounds], fun _ => ⟨rfl, rfl⟩, fun h => absurd rfl h, by simp, hn, Nat.le_refl _⟩
      | some m => simp [bsOf, bnds] at hb
    | some hi =>
      cases mx with
      | none =>
        obtain ⟨va, hv0, hva⟩ : ∃ x, vs = [x] ∧ V Γ x (ρ hi) := by
          simp only [boundsL, Option.toList, List.nil_append, List.append_nil, List.map_cons, List.map_nil] at hv
          cases hv with | cons h1 h2 => cases h2; exact ⟨_, rfl, h1⟩
        subst hv0
        simp only [bsOf, bnds, Option.isSome] at hb
        cases hq : natOf va with
        | none => simp [hq] at hb
        | some k =>
          simp only [hq] at hb
          cases h1 : Nat.ble k c with
          | false => simp [h1] at hb
          | true =>
            simp only [h1, cond_true, Option.some.injEq] at hb; subst hb
            have := ble_le h1
            obtain ⟨kk, he⟩ := natOf_V hq hva
            refine ⟨c', ?_, fun _ => ⟨rfl, rfl⟩, fun h => absurd rfl h, by simp, this, Nat.le_refl _⟩
            simp [Instr.sliceBounds, sliceBound_run he (show k ≤ c' by omega)]
      | some m =>
        obtain ⟨va, vb, hv0, hva, hvb⟩ : ∃ x y, vs = [x, y] ∧ V Γ x (ρ hi) ∧ V Γ y (ρ m) := by
          simp only [boundsL, Option.toList, List.nil_append, List.cons_append, List.map_cons, List.map_nil] at hv
          cases hv with | cons h1 h2 => cases h2 with | cons h2 h3 => cases h3; exact ⟨_, _, rfl, h1, h2⟩
        subst hv0
        simp only [bsOf, bnds, Option.isSome] at hb
        cases hq : natOf va with
        | none => simp [hq] at hb
        | some k =>
          cases hq' : natOf vb with
          | none => simp [hq, hq'] at hb
          | some k' =>
            simp only [hq, hq'] at hb
            cases h1 : Nat.ble k' c with
            | false => simp [h1] at hb
            | true =>
              cases h2 : Nat.ble k k' with
              | false => simp [h1, h2] at hb
              | true =>
                simp only [h1, h2, cond_true, Option.some.injEq] at hb; subst hb
                have := ble_le h1
                have := ble_le h2
                obtain ⟨kk, he⟩ := natOf_V hq hva
                obtain ⟨kk', he'⟩ := natOf_V hq' hvb
                refine ⟨k', ?_, fun h => (by cases h), fun _ => rfl, by simp, by assumption, by assumption⟩
                simp [Instr.sliceBounds, sliceBound_run he' (show k' ≤ c' by omega), sliceBound_run he (show k ≤ k' by omega)]
  | some lo =>
    cases hi with
    | none =>
      cases mx with
      | none =>
        obtain ⟨va, hv0, hva⟩ : ∃ x, vs = [x] ∧ V Γ x (ρ lo) := by
          simp only [boundsL, Option.toList, List.append_nil, List.map_cons, List.map_nil] at hv
          cases hv with | cons h1 h2 => cases h2; exact ⟨_, rfl, h1⟩
        subst hv0
        simp only [bsOf, bnds, Option.isSome] at hb
        cases hq : natOf va with
        | none => simp [hq] at hb
        | some k =>
          simp only [hq] at hb
          cases h1 : Nat.ble k n with
          | false => simp [h1] at hb
          | true =>
            simp only [h1, cond_true, Option.some.injEq] at hb; subst hb
            have := ble_le h1
            obtain ⟨kk, he⟩ := natOf_V hq hva
            refine ⟨c', ?_, fun _ => ⟨rfl, rfl⟩, fun h => absurd rfl h, this, hn, Nat.le_refl _⟩
            simp [Instr.sliceBounds, sliceBound_run he this]
      | some m => simp [bsOf, bnds] at hb
    | some hi =>
      cases mx with
      | none =>
        obtain ⟨va, vb, hv0, hva, hvb⟩ : ∃ x y, vs = [x, y] ∧ V Γ x (ρ lo) ∧ V Γ y (ρ hi) := by
          simp only [boundsL, Option.toList, List.append_nil, List.cons_append, List.nil_append, List.map_cons, List.map_nil] at hv
          cases hv with | cons h1 h2 => cases h2 with | cons h2 h3 => cases h3; exact ⟨_, _, rfl, h1, h2⟩
        subst hv0
        simp only [bsOf, bnds, Option.isSome] at hb
        cases hq : natOf va with
        | none => simp [hq] at hb
        | some k =>
          cases hq' : natOf vb with
          | none => simp [hq, hq'] at hb
          | some k' =>
            simp only [hq, hq'] at hb
            cases h1 : Nat.ble k' c with
            | false => simp [h1] at hb
            | true =>
              cases h2 : Nat.ble k k' with
              | false => simp [h1, h2] at hb
              | true =>
                simp only [h1, h2, cond_true, Option.some.injEq] at hb; subst hb
                have := ble_le h1
                have := ble_le h2
                obtain ⟨kk, he⟩ := natOf_V hq hva
                obtain ⟨kk', he'⟩ := natOf_V hq' hvb
                refine ⟨c', ?_, fun _ => ⟨rfl, rfl⟩, fun h => absurd rfl h, by assumption, by assumption, Nat.le_refl _⟩
                simp [Instr.sliceBounds, sliceBound_run he' (show k' ≤ c' by omega), sliceBound_run he (show k ≤ k' by omega)]
      | some m =>
        obtain ⟨va, vb, vc, hv0, hva, hvb, hvc⟩ : ∃ x y z, vs = [x, y, z] ∧ V Γ x (ρ lo) ∧ V Γ y (ρ hi) ∧ V Γ z (ρ m) := by
          simp only [boundsL, Option.toList, List.cons_append, List.nil_append, List.map_cons, List.map_nil] at hv
          cases hv with | cons h1 h2 => cases h2 with | cons h2 h3 => cases h3 with | cons h3 h4 => cases h4; exact ⟨_, _, _, rfl, h1, h2, h3⟩
        subst hv0
        simp only [bsOf, bnds, Option.isSome] at hb
        cases hq : natOf va with
        | none => simp [hq] at hb
        | some k =>
          cases hq' : natOf vb with
          | none => simp [hq, hq'] at hb
          | some k' =>
            cases hq'' : natOf vc with
            | none => simp [hq, hq', hq''] at hb
            | some k'' =>
              simp only [hq, hq', hq''] at hb
              cases h1 : Nat.ble k'' c with
              | false => simp [h1] at hb
              | true =>
                cases h2 : Nat.ble k' k'' with
                | false => simp [h1, h2] at hb
                | true =>
                  cases h3 : Nat.ble k k' with
                  | false => simp [h1, h2, h3] at hb
                  | true =>
                    simp only [h1, h2, h3, cond_true, Option.some.injEq] at hb; subst hb
                    have := ble_le h1
                    have := ble_le h2
                    have := ble_le h3
                    obtain ⟨kk, he⟩ := natOf_V hq hva
                    obtain ⟨kk', he'⟩ := natOf_V hq' hvb
                    obtain ⟨kk'', he''⟩ := natOf_V hq'' hvc
                    refine ⟨k'', ?_, fun h => (by cases h), fun _ => rfl, by assumption, by assumption, by assumption⟩
                    simp [Instr.sliceBounds, sliceBound_run he'' (show k'' ≤ c' by omega), sliceBound_run he' (show k' ≤ k'' by omega), sliceBound_run he (show k ≤ k' by omega)]
theorem cutA_V {b : Pos} {off s : Nat} {r : Nat × Nat × Nat} {e : Ext} (he : Γ.μ b = some e) (h1 : r.1 ≤ r.2.1) (h2 : r.2.1 ≤ r.2.2) (hx : cutA b off s r h nx = .ok v h' nx') :
    h' = h ∧ nx' = nx ∧ V Γ v (.slice (some (if r.2.2 = r.1 then ⟨e.rb, e.base + off, none⟩ else (⟨e.rb, e.base + off, none⟩ : Addr).add (r.1 * s))) (r.2.1 - r.1) (r.2.2 - r.1)) := by
  unfold cutA at hx
  cases hq : Nat.beq r.2.2 r.1 with
  | true =>
    simp only [hq, cond_true] at hx; cases hx
    have := Nat.eq_of_beq_eq_true hq
    rw [if_pos this, show r.2.1 - r.1 = 0 by omega, show r.2.2 - r.1 = 0 by omega]
    exact ⟨rfl, rfl, .sl _ _ _ _ _ _ he (Nat.le_refl _) (.inl rfl)⟩
  | false =>
    simp only [hq, cond_false] at hx; cases hx
    have := Nat.ne_of_beq_eq_false hq
    rw [if_neg this, Addr.add_mid, Nat.add_assoc]
    exact ⟨rfl, rfl, .sl _ _ _ _ _ _ he (by omega) (.inl rfl)⟩
theorem d_slA (hr : R L Γ h nx w) {t e : TypeId} {x : Operand} {lo hi mx : Option Operand} (ho : o.op = .slice t x lo hi mx) {m s : Nat} (hu : P.underlying t = some (.array m e)) (hs : szOf P e = some s)
    (hv : VL Γ vs ((x :: boundsL lo hi mx).map ρ)) (hx : doSlA m s (bsOf lo hi mx) vs h nx = .ok v h' nx') : Done L Γ h nx w v h' nx' ((execOp ρ o).run P w) := by
  unfold doSlA at hx
  split at hx
  · rename_i bl off vs'
    split at hx
    · rename_i r hb
      simp only [List.map_cons] at hv
      obtain ⟨h1, h2⟩ : V Γ (.p bl off) (ρ x) ∧ VL Γ vs' ((boundsL lo hi mx).map ρ) := by cases hv with | cons a b => exact ⟨a, b⟩
      obtain ⟨m', hrun, hm1, hm2, hle1, hle2, hle3⟩ := bnds_run (P := P) (ρ := ρ) hb h2 (Nat.le_refl _) (Nat.le_refl _) false w
      have hm' : m' = r.2.2 := by
        cases mx with
        | none => obtain ⟨a, b⟩ := hm1 rfl; omega
        | some q => exact hm2 (by simp)
      subst hm'
      obtain ⟨ex, he, hex⟩ : ∃ ex, Γ.μ bl = some ex ∧ ρ x = .pointer (some ⟨ex.rb, ex.base + off, none⟩) := by
        generalize ρ x = q at h1; cases h1 with | p _ _ ex he => exact ⟨ex, he, rfl⟩
      obtain ⟨rfl, rfl, hV⟩ := cutA_V he hle1 hle2 hx
      simp only [execOp, ho, hex]
      rw [runv (y := .slice (some (if r.2.2 = r.1 then ⟨ex.rb, ex.base + off, none⟩ else (⟨ex.rb, ex.base + off, none⟩ : Addr).add (r.1 * s))) (r.2.1 - r.1) (r.2.2 - r.1))
        (by simp [Instr.sliceAt, run_underlying hu, Instr.sureAddr, hrun, szOf_run hs])]
      exact Done.same hr hV
    · cases hx
  · cases hx
theorem takeN_take {α : Type} : ∀ {n : Nat} {l r : List α}, takeN n l = some r → r = l.take n
  | 0, l, r, h => by cases l <;> (cases h; rfl)
  | n + 1, [], r, h => by cases h
  | n + 1, a :: l, r, h => by
    have h : (Option.casesOn (takeN n l) none (fun r => some (a :: r)) : Option (List α)) = some r := h
    cases hq : takeN n l with
    | none => rw [hq] at h; cases h
    | some q => rw [hq] at h; cases h; rw [takeN_take hq]; rfl
theorem bytes_part (l : List Nat) (a b : Nat) : (bytesOf l).extract a b = bytesOf ((l.drop a).take (b - a)) := by
  apply ByteArray.ext
  rw [ByteArray.data_extract]
  apply Array.ext'
  show ((l.map UInt8.ofNat).toArray.extract a b).toList = ((l.drop a).take (b - a)).map UInt8.ofNat
  rw [Array.toList_extract, List.extract_eq_take_drop]
  simp [List.map_take, List.map_drop]
theorem d_slT (hr : R L Γ h nx w) {t : TypeId} {x : Operand} {lo hi mx : Option Operand} (ho : o.op = .slice t x lo hi mx) (hu : P.underlying t = some .string) (hm : mx = none)
    (hv : VL Γ vs ((x :: boundsL lo hi mx).map ρ)) (hx : doSlT (bsOf lo hi mx) vs h nx = .ok v h' nx') : Done L Γ h nx w v h' nx' ((execOp ρ o).run P w) := by
  unfold doSlT at hx
  split at hx
  · rename_i l vs'
    simp only [List.map_cons] at hv
    obtain ⟨h1, h2⟩ : V Γ (.s l) (ρ x) ∧ VL Γ vs' ((boundsL lo hi mx).map ρ) := by cases hv with | cons a b => exact ⟨a, b⟩
    split at hx
    · rename_i r hb
      split at hx
      · rename_i q hq
        cases hx
        obtain ⟨m', hrun, hm1, hm2, hle1, hle2, hle3⟩ := bnds_run (P := P) (ρ := ρ) hb h2 (Nat.le_refl _) (Nat.le_refl _) false w
        obtain ⟨hex, hl⟩ : ρ x = .string (bytesOf l) ∧ ∀ y ∈ l, y < 256 := by
          generalize ρ x = q at h1; cases h1 with | s _ hl => exact ⟨rfl, hl⟩
        subst hm
        have hsz : (bytesOf l).size = l.length := by simp [bytesOf, ByteArray.size]
        have hq' : q = (l.drop r.1).take (r.2.1 - r.1) := by
          unfold sub at hq
          rw [dropN_eq] at hq
          exact takeN_take hq
        have hsem : (Instr.sliceAt t (ρ x) (lo.map ρ) (hi.map ρ) none).run P w = .ok (.string (bytesOf q)) w := by
          rw [hex]
          simp only [Option.map_none] at hrun
          simp only [Instr.sliceAt, Sem.run_bind, run_underlying hu, Result.andThen_ok, Instr.slice, hsz, hrun, Sem.run_pure, Option.isSome_none, Bool.false_eq_true, if_false]
          rw [bytes_part, hq']
        simp only [execOp, ho, Option.map_none]
        rw [runv hsem]
        exact Done.same hr (.s _ (fun y hy => hl y (by rw [hq'] at hy; exact List.mem_of_mem_drop (List.mem_of_mem_take hy))))
      · cases hx
    · cases hx
  · cases hx
theorem d_slS (hr : R L Γ h nx w) {t e : TypeId} {x : Operand} {lo hi mx : Option Operand} (ho : o.op = .slice t x lo hi mx) {s : Nat} (hu : P.underlying t = some (.slice e)) (hs : szOf P e = some s)
    (hv : VL Γ vs ((x :: boundsL lo hi mx).map ρ)) (hx : doSlS s (bsOf lo hi mx) vs h nx = .ok v h' nx') : Done L Γ h nx w v h' nx' ((execOp ρ o).run P w) := by
  unfold doSlS at hx
  split at hx
  · rename_i bl off n c vs'
    simp only [List.map_cons] at hv
    obtain ⟨h1, h2⟩ : V Γ (.sl bl off n c) (ρ x) ∧ VL Γ vs' ((boundsL lo hi mx).map ρ) := by cases hv with | cons a b => exact ⟨a, b⟩
    cases hb : bnds (bsOf lo hi mx) n c vs' with
    | none => simp [hb] at hx
    | some r =>
      simp only [hb] at hx
      obtain ⟨ex, c', he, hex, hnc, hcc⟩ : ∃ ex c', Γ.μ bl = some ex ∧ ρ x = .slice (some ⟨ex.rb, ex.base + off, none⟩) n c' ∧ n ≤ c ∧ (c' = c ∨ (0 < ex.gr ∧ c ≤ c' ∧ off + c * ex.gr = ex.n ∧ off + c' * ex.gr ≤ ex.tot)) := by
        generalize ρ x = q at h1; cases h1 with | sl _ _ _ _ c' ex he hn hc => exact ⟨ex, c', he, rfl, hn, hc⟩
      have hcle : c ≤ c' := by rcases hcc with h | h <;> omega
      obtain ⟨m', hrun, hm1, hm2, hle1, hle2, hle3⟩ := bnds_run (P := P) (ρ := ρ) hb h2 hnc hcle true w
      have hsem : (Instr.sliceAt t (ρ x) (lo.map ρ) (hi.map ρ) (mx.map ρ)).run P w =
          .ok (.slice (some (if m' = r.1 then ⟨ex.rb, ex.base + off, none⟩ else (⟨ex.rb, ex.base + off, none⟩ : Addr).add (r.1 * s))) (r.2.1 - r.1) (m' - r.1)) w := by
        rw [hex]
        simp only [Instr.sliceAt, Sem.run_bind, run_underlying hu, Result.andThen_ok, Instr.slice, hrun, szOf_run hs, Sem.run_pure, Option.map_some]
        congr 2
        split <;> rfl
      have fin : V Γ v (.slice (some (if m' = r.1 then ⟨ex.rb, ex.base + off, none⟩ else (⟨ex.rb, ex.base + off, none⟩ : Addr).add (r.1 * s))) (r.2.1 - r.1) (m' - r.1)) → h' = h → nx' = nx → Done L Γ h nx w v h' nx' ((execOp ρ o).run P w) := by
        intro hV e1 e2; subst e1; subst e2
        simp only [execOp, ho]
        rw [runv hsem]
        exact Done.same hr hV
      unfold cutS at hx
      cases hg : h.get bl with
      | none => simp [hg] at hx
      | some B =>
        cases B with
        | cells l gr =>
          simp only [hg] at hx
          obtain ⟨rfl, _⟩ := hr.cells he hg
          cases hq : (Nat.beq ex.gr 0 || (bsOf lo hi mx).mx) with
          | true =>
            simp only [hq, cond_true] at hx
            have hm' : m' = r.2.2 := by
              cases mx with
              | none =>
                obtain ⟨a, b⟩ := hm1 rfl
                have : ex.gr = 0 := by simpa [bsOf] using hq
                rcases hcc with h | h <;> omega
              | some q => exact hm2 (by simp)
            subst hm'
            obtain ⟨e1, e2, hV⟩ := cutA_V he hle1 hle2 hx
            exact fin hV e1 e2
          | false =>
            simp only [hq, cond_false] at hx
            have hmx : mx = none := by
              cases mx with
              | none => rfl
              | some q => simp [bsOf] at hq
            obtain ⟨hm3, hm4⟩ := hm1 hmx
            have hgr : ex.gr ≠ 0 := by intro h0; simp [h0] at hq
            cases hsg : Nat.beq ex.gr s with
            | false => simp [hsg] at hx
            | true =>
              simp only [hsg, cond_true] at hx
              have hsg := Nat.eq_of_beq_eq_true hsg
              cases hml : Nat.beq r.2.2 r.1 with
              | true =>
                simp only [hml, cond_true] at hx
                have hml := Nat.eq_of_beq_eq_true hml
                cases hr0 : Nat.beq r.1 0 with
                | false => simp [hr0] at hx
                | true =>
                  simp only [hr0, cond_true] at hx; cases hx
                  have hr0 := Nat.eq_of_beq_eq_true hr0
                  refine fin ?_ rfl rfl
                  have e3 : (if m' = r.1 then (⟨ex.rb, ex.base + off, none⟩ : Addr) else (⟨ex.rb, ex.base + off, none⟩ : Addr).add (r.1 * s)) = ⟨ex.rb, ex.base + off, none⟩ := by
                    split
                    · rfl
                    · rw [hr0, Addr.add_mid]; simp
                  rw [e3, hr0, show r.2.1 - 0 = 0 by omega, Nat.sub_zero]
                  have hc0 : c = 0 := by omega
                  refine .sl _ _ _ _ _ _ he (Nat.le_refl _) ?_
                  rcases hcc with h | ⟨g1, g2, g3, g4⟩
                  · left; omega
                  · right; rw [hc0] at g3; rw [hm4]; exact ⟨g1, by omega, g3, g4⟩
              | false =>
                simp only [hml, cond_false] at hx; cases hx
                have hml := Nat.ne_of_beq_eq_false hml
                refine fin ?_ rfl rfl
                rw [if_neg (by omega), Addr.add_mid, Nat.add_assoc]
                refine .sl _ _ _ _ _ _ he (by omega) ?_
                rcases hcc with h | ⟨h1, h2, h3, h4⟩
                · left; omega
                · right
                  have q1 : r.1 * s + (r.2.2 - r.1) * s = r.2.2 * s := by rw [← Nat.add_mul]; congr 1; omega
                  have q2 : r.1 * s + (m' - r.1) * s = m' * s := by rw [← Nat.add_mul]; congr 1; omega
                  rw [hsg] at h3 h4 ⊢
                  rw [hm3] at q1; rw [hm4] at q2
                  refine ⟨by omega, by omega, ?_, ?_⟩
                  · rw [hm3]; omega
                  · rw [hm4]; omega
        | map _ => simp [hg] at hx
        | loop _ _ _ _ _ => simp [hg] at hx
        | dead => simp [hg] at hx
  · rename_i vs'
    simp only [List.map_cons] at hv
    obtain ⟨h1, h2⟩ : V Γ .ns (ρ x) ∧ VL Γ vs' ((boundsL lo hi mx).map ρ) := by cases hv with | cons a b => exact ⟨a, b⟩
    cases hb : bnds (bsOf lo hi mx) 0 0 vs' with
    | none => simp [hb] at hx
    | some r =>
      simp only [hb] at hx; cases hx
      obtain ⟨m', hrun, hm1, hm2, hle1, hle2, hle3⟩ := bnds_run (P := P) (ρ := ρ) hb h2 (Nat.le_refl _) (Nat.le_refl _) true w
      have hm' : m' = 0 := by
        cases mx with
        | none => obtain ⟨a, b⟩ := hm1 rfl; omega
        | some q => have := hm2 (by simp); omega
      have hex : ρ x = .slice none 0 0 := by generalize ρ x = q at h1; cases h1; rfl
      simp only [execOp, ho, hex]
      rw [runv (y := .slice none 0 0)]
      · exact Done.same hr .ns
      · simp only [Instr.sliceAt, Sem.run_bind, run_underlying hu, Result.andThen_ok, Instr.slice, hrun, szOf_run hs, Sem.run_pure, Option.map_none]
        congr 2
        · split <;> rfl
        · omega
        · omega
  · rename_i k l n xx vs'
    simp only [List.map_cons] at hv
    obtain ⟨h1, h2⟩ : V Γ (.z k l n xx) (ρ x) ∧ VL Γ vs' ((boundsL lo hi mx).map ρ) := by cases hv with | cons a b => exact ⟨a, b⟩
    cases hb : bnds (bsOf lo hi mx) n n vs' with
    | none => simp [hb] at hx
    | some r =>
      simp only [hb] at hx
      cases hl' : sub (r.1 * s) ((r.2.1 - r.1) * s) l with
      | none => simp [hl'] at hx
      | some l' =>
        simp only [hl'] at hx; cases hx
        obtain ⟨a, c', ws, hex, h3, h4, hnc, hxx, hnn, hp⟩ := h1.z_inv
        obtain ⟨m', hrun, hm1, hm2, hle1, hle2, hle3⟩ := bnds_run (P := P) (ρ := ρ) hb h2 (Nat.le_refl _) hnc true w
        have hsem : (Instr.sliceAt t (ρ x) (lo.map ρ) (hi.map ρ) (mx.map ρ)).run P w = .ok (.slice (a.map fun a => if m' = r.1 then a else a.add (r.1 * s)) (r.2.1 - r.1) (m' - r.1)) w := by
          rw [hex]
          simp only [Instr.sliceAt, Sem.run_bind, run_underlying hu, Result.andThen_ok, Instr.slice, hrun, szOf_run hs, Sem.run_pure]
          congr 2
          split <;> simp
        simp only [execOp, ho]
        rw [runv hsem]
        have hmm : r.2.2 ≤ m' ∧ m' ≤ c' := by
          cases mx with
          | none => obtain ⟨p, q⟩ := hm1 rfl; omega
          | some q => have := hm2 (by simp); omega
        have hex2 : (((bsOf lo hi mx).mx || xx) && Nat.beq r.2.1 r.2.2) = true → m' = r.2.1 := by
          intro hq
          simp only [Bool.and_eq_true, Bool.or_eq_true] at hq
          have hq2 := Nat.eq_of_beq_eq_true hq.2
          cases mx with
          | none =>
            obtain ⟨p, q⟩ := hm1 rfl
            rcases hq.1 with hq1 | hq1
            · simp [bsOf] at hq1
            · have := hxx hq1; omega
          | some q => have := hm2 (by simp); omega
        have hrow : ∃ ws', VL Γ l' ws' ∧ puL k l' = true ∧ RowAt (Γ.ζ k) (a.map fun a => if m' = r.1 then a else a.add (r.1 * s)) ws' := by
          unfold sub at hl'
          obtain ⟨g1, g2⟩ := takeN_eq _ _ _ hl'
          rw [dropN_eq, dropN_eq] at g1
          have h5 := (h3.drop (r.1 * s)).take ((r.2.1 - r.1) * s)
          have e5 : (l.drop (r.1 * s)).take ((r.2.1 - r.1) * s) = l' := by rw [g1, ← g2, List.take_left']; rfl
          rw [e5] at h5
          refine ⟨_, h5, by rw [← e5]; exact puL_take (puL_drop hp _) _, ?_⟩
          by_cases hm : m' = r.1
          · have : r.2.1 - r.1 = 0 := by omega
            left; rw [this]; simp
          · simp only [hm, if_false]
            rcases h4 with rfl | ⟨rb, off, C, ty, rfl, hz, hc⟩
            · left; simp
            · rw [Option.map_some, Addr.add_mid]
              exact (RowAt.drop (.inr ⟨rb, off, C, ty, rfl, hz, hc⟩) _).take _
        obtain ⟨ws', h5, hp', h6⟩ := hrow
        refine Done.same hr (.z _ _ _ _ _ _ _ h5 h6 (by omega) (fun hq => by rw [hex2 hq]) ?_ hp')
        intro ha
        have : a = none := by cases a with | none => rfl | some _ => cases ha
        have := hnn this
        omega
  · cases hx
theorem bytesOf_size (l : List Nat) : (bytesOf l).size = l.length := show (List.toArray (l.map UInt8.ofNat)).size = _ from by rw [List.size_toArray, List.length_map]
theorem d_len (hr : R L Γ h nx w) {x : Operand} {args : Array Operand} {ts : Array TypeId} (ho : o.op = .call { callee := .builtin .len, args := args, argTypes := ts }) {t : TypeId} (ht : ts[0]? = some t) (ha : args.toList = [x])
    {k : EK} (hu : (∃ e, k = .l ∧ P.underlying t = some (.slice e)) ∨ (k = .s ∧ P.underlying t = some .string) ∨ (∃ a b, k = .i ∧ P.underlying t = some (.map a b)))
    (hv : VL Γ vs [ρ x]) (hx : doLen k vs h nx = .ok v h' nx') : Done L Γ h nx w v h' nx' ((execOp ρ o).run P w) := by
  have hargs : args = #[x] := by rw [← Array.toArray_toList (xs := args), ha]
  subst hargs
  have step : ∀ n : Nat, (Builtin.len_ ts o.type #[ρ x]).run P w = .ok (goInt n) w → Done L Γ h nx w (.i .i64 (.ofNat n)) h nx ((execOp ρ o).run P w) := by
    intro n hn
    simp only [execOp, ho, resolve, pure_bind, invoke, builtin]
    simp only [List.map_toArray, List.map_cons, List.map_nil]
    rw [runv hn]
    exact Done.same hr (.i _ _)
  unfold doLen at hx
  split at hx
  · cases hx
    rcases hu with ⟨e, _, hu⟩ | ⟨h0, _⟩ | ⟨_, _, h0, _⟩
    · obtain ⟨y, e', h2⟩ := hv.inv1
      simp only [List.cons.injEq, and_true] at e'
      cases h2
      refine step _ ?_
      simp [Builtin.len_, ht, e', run_underlying hu]
    · cases h0
    · cases h0
  · cases hx
    rcases hu with ⟨e, _, hu⟩ | ⟨h0, _⟩ | ⟨_, _, h0, _⟩
    · obtain ⟨y, e', h2⟩ := hv.inv1
      simp only [List.cons.injEq, and_true] at e'
      cases h2
      refine step 0 ?_
      simp [Builtin.len_, ht, e', run_underlying hu]
    · cases h0
    · cases h0
  · cases hx
    rcases hu with ⟨e, _, hu⟩ | ⟨h0, _⟩ | ⟨_, _, h0, _⟩
    · obtain ⟨y, e', h2⟩ := hv.inv1
      simp only [List.cons.injEq, and_true] at e'
      obtain ⟨a, c', ws, rfl, _⟩ := h2.z_inv
      refine step _ ?_
      simp [Builtin.len_, ht, e', run_underlying hu]
    · cases h0
    · cases h0
  · cases hx
    rcases hu with ⟨_, h0, _⟩ | ⟨_, hu⟩ | ⟨_, _, h0, _⟩
    · cases h0
    · obtain ⟨y, e', h2⟩ := hv.inv1
      simp only [List.cons.injEq, and_true] at e'
      cases h2 with | s l hl =>
      refine step _ ?_
      simp only [Builtin.len_, ht, e', Sem.run_bind, run_underlying hu, Result.andThen_ok, List.getElem?_toArray, List.getElem?_cons_zero, bytesOf_size, Sem.run_pure]
    · cases h0
  · rename_i b
    cases hg : h.get b with
    | none => simp [hg] at hx
    | some B =>
      cases B with
      | map l =>
        simp only [hg] at hx; cases hx
        rcases hu with ⟨_, h0, _⟩ | ⟨h0, _⟩ | ⟨p, q, _, hu⟩
        · cases h0
        · cases h0
        · obtain ⟨y, e', h2⟩ := hv.inv1
          simp only [List.cons.injEq, and_true] at e'
          cases h2 with | m _ ex he =>
          obtain ⟨B, hB, hd⟩ := hr.blk b ex he
          rw [hg] at hB; cases hB
          rcases hd with hd | ⟨ob, hob, hrel⟩
          · cases hd
          · cases hrel with | map _ es ck hm =>
            refine step _ ?_
            obtain ⟨l', hp, hel⟩ := hm
            have hlen : es.size = l.length := by
              rw [← hp.length_eq, ← Array.length_toList]
              clear hp
              generalize es.toList = q at hel
              induction hel with
              | nil => rfl
              | cons _ _ _ ih => simp [ih]
            simp [Builtin.len_, ht, e', run_underlying hu, getObj, Sem.run, hob, hlen]
      | cells _ _ => simp [hg] at hx
      | loop _ _ _ _ _ => simp [hg] at hx
      | dead => simp [hg] at hx
  · cases hx
    rcases hu with ⟨_, h0, _⟩ | ⟨h0, _⟩ | ⟨p, q, _, hu⟩
    · cases h0
    · cases h0
    · obtain ⟨y, e', h2⟩ := hv.inv1
      simp only [List.cons.injEq, and_true] at e'
      cases h2
      refine step 0 ?_
      simp [Builtin.len_, ht, e', run_underlying hu]
  · cases hx
end
end Go.AR
