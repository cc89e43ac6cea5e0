/- Own texts put together: N13 .. -/
import Derived.Shelf.Strings.Builder1
import Derived.Shelf.Strings.Builder2
import Derived.Shelf.Strings.OnBuilder
import Derived.Shelf.Strings.BuilderF
import Derived.Shelf.Strconv.Itoa0
import Derived.Shelf.Strconv.Itoa1
import Derived.Shelf.LaysM
import Derived.Shelf.Strconv.Itoa2
import Derived.Shelf.Strconv.Itoa3
import Derived.Shelf.Strconv.Itoa4
import Derived.Shelf.Strconv.ParseIntEmpty
import Derived.Shelf.Strconv.Clone
import Derived.Shelf.Strconv.SyntaxError
import Derived.Shelf.LaysC
import Derived.Shelf.Strconv.ToError
import Derived.Shelf.Strconv.Lower
import Derived.Shelf.Strconv.ParseUint10
import Derived.Shelf.Strconv.ParseUint10Empty
import Derived.Shelf.Strconv.ParseUint10Any
import Derived.Shelf.Strconv.ParseInt10
import Derived.Shelf.Strconv.RangeError
import Derived.Shelf.Strconv.ToErrorRange
import Derived.Shelf.Strconv.ParseUintEmpty
import Derived.Shelf.Strconv.ParseUint10b64
import Derived.Shelf.Strconv.ParseUint10b32
import Derived.Shelf.Strconv.ParseUint10b16
import Derived.Shelf.Strconv.ParseUint10b8
import Derived.Shelf.Strconv.ParseUint10At
import Derived.Shelf.Strconv.ParseInt10At64
import Derived.Shelf.Strconv.ParseInt10At32
import Derived.Shelf.Strconv.ParseInt10At16
import Derived.Shelf.Strconv.ParseInt10At8
import Derived.Shelf.Strconv.ParseInt10All
import Derived.Shelf.Strconv.ParseIntPublic10
import Derived.Shelf.Strconv.ErrVarParseInt
import Derived.Shelf.Slices.Clone
import Derived.Shelf.SlicesE.Clone
import Derived.Test.YtjamdeehpblflaaGreatDoorProg
set_option linter.unusedVariables false
set_option linter.unusedSimpArgs false
namespace Go.Proofs
open Go.Shelf
def Tryz.lays156_ren : Go.Shelf.Ren := ⟨fun | 156 => 71 | 165 => 108 | 166 => 70 | 169 => 73 | 240 => 107 | 241 => 132 | 276 => 131 | 277 => 150 | n => n,fun | 31 => 32 | 9 => 9 | 3 => 3 | 4 => 4 | 0 => 0 | 20 => 20 | 72 => 119 | 76 => 122 | 70 => 117 | 37 => 33 | 75 => 121 | 127 => 148 | 164 => 160 | 5 => 5 | 80 => 103 | n => n,fun | n => n⟩
theorem Tryz.lays156 : Go.Proofs.Lays.n156 Tryz.prog Tryz.lays156_ren := {
 mixed := by kernel_rfl
 f156 := Tryz.func71.trans (congrArg some (by kernel_rfl))
 f165 := Tryz.func108.trans (congrArg some (by kernel_rfl))
 f166 := Tryz.func70.trans (congrArg some (by kernel_rfl))
 f169 := Tryz.func73.trans (congrArg some (by kernel_rfl))
 f240 := Tryz.func107.trans (congrArg some (by kernel_rfl))
 f241 := Tryz.func132.trans (congrArg some (by kernel_rfl))
 f276 := Tryz.func131.trans (congrArg some (by kernel_rfl))
 f277 := Tryz.func150.trans (congrArg some (by kernel_rfl))
 t0 := Tryz.underlying0
 a0 := Tryz.isAgg0
 z0 := Tryz.sizeOf0
 v0 := Tryz.zeroValue0
 t3 := Tryz.underlying3
 a3 := Tryz.isAgg3
 z3 := Tryz.sizeOf3
 v3 := Tryz.zeroValue3
 t4 := Tryz.underlying4
 a4 := Tryz.isAgg4
 z4 := Tryz.sizeOf4
 v4 := Tryz.zeroValue4
 t9 := Tryz.underlying9
 a9 := Tryz.isAgg9
 z9 := Tryz.sizeOf9
 v9 := Tryz.zeroValue9
 t20 := Tryz.underlying20
 a20 := Tryz.isAgg20
 z20 := Tryz.sizeOf20
 v20 := Tryz.zeroValue20
 t31 := Tryz.underlying32
 a31 := Tryz.isAgg32
 z31 := Tryz.sizeOf32
 v31 := Tryz.zeroValue32
 t37 := Tryz.underlying33
 a37 := Tryz.isAgg33
 z37 := Tryz.sizeOf33
 v37 := Tryz.zeroValue33
 t70 := Tryz.underlying117
 a70 := Tryz.isAgg117
 z70 := Tryz.sizeOf117
 v70 := Tryz.zeroValue117
 t72 := Tryz.underlying119
 a72 := Tryz.isAgg119
 z72 := Tryz.sizeOf119
 v72 := Tryz.zeroValue119
 t75 := Tryz.underlying121
 a75 := Tryz.isAgg121
 z75 := Tryz.sizeOf121
 v75 := Tryz.zeroValue121
 t76 := Tryz.underlying122
 a76 := Tryz.isAgg122
 z76 := Tryz.sizeOf122
 v76 := Tryz.zeroValue122
 t127 := Tryz.underlying148
 a127 := Tryz.isAgg148
 z127 := Tryz.sizeOf148
 v127 := Tryz.zeroValue148
 t164 := Tryz.underlying160
 a164 := Tryz.isAgg160
 z164 := Tryz.sizeOf160
 v164 := Tryz.zeroValue160 }
theorem Tryz.Builder_Extra_156 : Builder.Extra Tryz.prog Tryz.lays156_ren := {
 sizeBuilder := by kernel_rfl
 liesBuilder := by kernel_rfl
 t5 := Tryz.underlying5
 a5 := Tryz.isAgg5
 z5 := Tryz.sizeOf5
 v5 := Tryz.zeroValue5
 infoByte := by kernel_rfl
 cellsByte := by kernel_rfl
 sizeByte := by kernel_rfl
 neB5 := by decide }
def Tryz.laysM173_ren : Go.Shelf.Ren := ⟨fun | 173 => 111 | 246 => 138 | 283 => 156 | 284 => 157 | 285 => 158 | 286 => 159 | 129 => 173 | 317 => 172 | 318 => 174 | 319 => 175 | 320 => 176 | 337 => 187 | 338 => 188 | n => n,fun | 2 => 2 | 3 => 3 | 9 => 9 | 4 => 4 | 171 => 182 | 0 => 0 | 53 => 163 | 37 => 33 | 5 => 5 | 173 => 185 | 212 => 202 | 51 => 203 | 20 => 20 | 213 => 204 | 46 => 166 | 232 => 210 | 233 => 211 | n => n,fun | 17 => 3 | 18 => 4 | 19 => 5 | n => n⟩
theorem Tryz.laysM173 : Go.Proofs.LaysM.n173 Tryz.prog Tryz.laysM173_ren := {
 mixed := by kernel_rfl
 f129 := Tryz.func173.trans (congrArg some (by kernel_rfl))
 f173 := Tryz.func111.trans (congrArg some (by kernel_rfl))
 f246 := Tryz.func138.trans (congrArg some (by kernel_rfl))
 f283 := Tryz.func156.trans (congrArg some (by kernel_rfl))
 f284 := Tryz.func157.trans (congrArg some (by kernel_rfl))
 f285 := Tryz.func158.trans (congrArg some (by kernel_rfl))
 f286 := Tryz.func159.trans (congrArg some (by kernel_rfl))
 f317 := Tryz.func172.trans (congrArg some (by kernel_rfl))
 f318 := Tryz.func174.trans (congrArg some (by kernel_rfl))
 f319 := Tryz.func175.trans (congrArg some (by kernel_rfl))
 f320 := Tryz.func176.trans (congrArg some (by kernel_rfl))
 f337 := Tryz.func187.trans (congrArg some (by kernel_rfl))
 f338 := Tryz.func188.trans (congrArg some (by kernel_rfl))
 t0 := Tryz.underlying0
 a0 := Tryz.isAgg0
 z0 := Tryz.sizeOf0
 v0 := Tryz.zeroValue0
 t2 := Tryz.underlying2
 a2 := Tryz.isAgg2
 z2 := Tryz.sizeOf2
 v2 := Tryz.zeroValue2
 t3 := Tryz.underlying3
 a3 := Tryz.isAgg3
 z3 := Tryz.sizeOf3
 v3 := Tryz.zeroValue3
 t4 := Tryz.underlying4
 a4 := Tryz.isAgg4
 z4 := Tryz.sizeOf4
 v4 := Tryz.zeroValue4
 t5 := Tryz.underlying5
 a5 := Tryz.isAgg5
 z5 := Tryz.sizeOf5
 v5 := Tryz.zeroValue5
 t9 := Tryz.underlying9
 a9 := Tryz.isAgg9
 z9 := Tryz.sizeOf9
 v9 := Tryz.zeroValue9
 t20 := Tryz.underlying20
 a20 := Tryz.isAgg20
 z20 := Tryz.sizeOf20
 v20 := Tryz.zeroValue20
 t37 := Tryz.underlying33
 a37 := Tryz.isAgg33
 z37 := Tryz.sizeOf33
 v37 := Tryz.zeroValue33
 t46 := Tryz.underlying166
 a46 := Tryz.isAgg166
 z46 := Tryz.sizeOf166
 v46 := Tryz.zeroValue166
 t51 := Tryz.underlying203
 a51 := Tryz.isAgg203
 z51 := Tryz.sizeOf203
 v51 := Tryz.zeroValue203
 t53 := Tryz.underlying163
 a53 := Tryz.isAgg163
 z53 := Tryz.sizeOf163
 v53 := Tryz.zeroValue163
 t171 := Tryz.underlying182
 a171 := Tryz.isAgg182
 z171 := Tryz.sizeOf182
 v171 := Tryz.zeroValue182
 t173 := Tryz.underlying185
 a173 := Tryz.isAgg185
 z173 := Tryz.sizeOf185
 v173 := Tryz.zeroValue185
 t212 := Tryz.underlying202
 a212 := Tryz.isAgg202
 z212 := Tryz.sizeOf202
 v212 := Tryz.zeroValue202
 t213 := Tryz.underlying204
 a213 := Tryz.isAgg204
 z213 := Tryz.sizeOf204
 t232 := Tryz.underlying210
 a232 := Tryz.isAgg210
 z232 := Tryz.sizeOf210
 v232 := Tryz.zeroValue210
 t233 := Tryz.underlying211
 a233 := Tryz.isAgg211
 z233 := Tryz.sizeOf211
 v233 := Tryz.zeroValue211
 g17 := by kernel_rfl
 g18 := by kernel_rfl
 g19 := by kernel_rfl
 i0 := by kernel_rfl
 i2 := by kernel_rfl
 i3 := by kernel_rfl
 i4 := by kernel_rfl
 i5 := by kernel_rfl
 i9 := by kernel_rfl
 i20 := by kernel_rfl
 i37 := by kernel_rfl
 i46 := by kernel_rfl
 i51 := by kernel_rfl
 i53 := by kernel_rfl
 i171 := by kernel_rfl
 i173 := by kernel_rfl
 i212 := by kernel_rfl
 i232 := by kernel_rfl
 i233 := by kernel_rfl
 m17 := by kernel_rfl
 m18 := by kernel_rfl
 m19 := by kernel_rfl }
def Tryz.laysC174_ren : Go.Shelf.Ren := ⟨fun | 174 => 74 | 247 => 109 | 245 => 110 | 287 => 133 | 279 => 134 | 280 => 135 | 281 => 136 | 282 => 137 | 321 => 151 | 322 => 152 | 316 => 153 | 171 => 155 | 205 => 154 | 243 => 171 | 246 => 138 | 283 => 156 | 284 => 157 | 285 => 158 | 286 => 159 | 129 => 173 | 317 => 172 | 318 => 174 | 319 => 175 | 320 => 176 | 337 => 187 | 338 => 188 | n => n,fun | 9 => 9 | 3 => 3 | 2 => 2 | 75 => 121 | 85 => 126 | 4 => 4 | 167 => 162 | 5 => 5 | 53 => 163 | 175 => 164 | 46 => 166 | 168 => 167 | 37 => 33 | 0 => 0 | 210 => 180 | 21 => 21 | 127 => 148 | 145 => 200 | 143 => 198 | 171 => 182 | 173 => 185 | 212 => 202 | 51 => 203 | 20 => 20 | 213 => 204 | 232 => 210 | 233 => 211 | 80 => 103 | n => n,fun | 15 => 0 | 16 => 1 | 17 => 3 | 18 => 4 | 19 => 5 | n => n⟩
theorem Tryz.laysC174 : Go.Proofs.LaysC.n174 Tryz.prog Tryz.laysC174_ren := {
 mixed := by kernel_rfl
 f129 := Tryz.func173.trans (congrArg some (by kernel_rfl))
 f171 := Tryz.func155.trans (congrArg some (by kernel_rfl))
 f174 := Tryz.func74.trans (congrArg some (by kernel_rfl))
 f205 := Tryz.func154.trans (congrArg some (by kernel_rfl))
 f243 := Tryz.func171.trans (congrArg some (by kernel_rfl))
 f245 := Tryz.func110.trans (congrArg some (by kernel_rfl))
 f246 := Tryz.func138.trans (congrArg some (by kernel_rfl))
 f247 := Tryz.func109.trans (congrArg some (by kernel_rfl))
 f279 := Tryz.func134.trans (congrArg some (by kernel_rfl))
 f280 := Tryz.func135.trans (congrArg some (by kernel_rfl))
 f281 := Tryz.func136.trans (congrArg some (by kernel_rfl))
 f282 := Tryz.func137.trans (congrArg some (by kernel_rfl))
 f283 := Tryz.func156.trans (congrArg some (by kernel_rfl))
 f284 := Tryz.func157.trans (congrArg some (by kernel_rfl))
 f285 := Tryz.func158.trans (congrArg some (by kernel_rfl))
 f286 := Tryz.func159.trans (congrArg some (by kernel_rfl))
 f287 := Tryz.func133.trans (congrArg some (by kernel_rfl))
 f316 := Tryz.func153.trans (congrArg some (by kernel_rfl))
 f317 := Tryz.func172.trans (congrArg some (by kernel_rfl))
 f318 := Tryz.func174.trans (congrArg some (by kernel_rfl))
 f319 := Tryz.func175.trans (congrArg some (by kernel_rfl))
 f320 := Tryz.func176.trans (congrArg some (by kernel_rfl))
 f321 := Tryz.func151.trans (congrArg some (by kernel_rfl))
 f322 := Tryz.func152.trans (congrArg some (by kernel_rfl))
 f337 := Tryz.func187.trans (congrArg some (by kernel_rfl))
 f338 := Tryz.func188.trans (congrArg some (by kernel_rfl))
 t0 := Tryz.underlying0
 a0 := Tryz.isAgg0
 z0 := Tryz.sizeOf0
 v0 := Tryz.zeroValue0
 t2 := Tryz.underlying2
 a2 := Tryz.isAgg2
 z2 := Tryz.sizeOf2
 v2 := Tryz.zeroValue2
 t3 := Tryz.underlying3
 a3 := Tryz.isAgg3
 z3 := Tryz.sizeOf3
 v3 := Tryz.zeroValue3
 t4 := Tryz.underlying4
 a4 := Tryz.isAgg4
 z4 := Tryz.sizeOf4
 v4 := Tryz.zeroValue4
 t5 := Tryz.underlying5
 a5 := Tryz.isAgg5
 z5 := Tryz.sizeOf5
 v5 := Tryz.zeroValue5
 t9 := Tryz.underlying9
 a9 := Tryz.isAgg9
 z9 := Tryz.sizeOf9
 v9 := Tryz.zeroValue9
 t20 := Tryz.underlying20
 a20 := Tryz.isAgg20
 z20 := Tryz.sizeOf20
 v20 := Tryz.zeroValue20
 t21 := Tryz.underlying21
 a21 := Tryz.isAgg21
 z21 := Tryz.sizeOf21
 v21 := Tryz.zeroValue21
 t37 := Tryz.underlying33
 a37 := Tryz.isAgg33
 z37 := Tryz.sizeOf33
 v37 := Tryz.zeroValue33
 t46 := Tryz.underlying166
 a46 := Tryz.isAgg166
 z46 := Tryz.sizeOf166
 v46 := Tryz.zeroValue166
 t51 := Tryz.underlying203
 a51 := Tryz.isAgg203
 z51 := Tryz.sizeOf203
 v51 := Tryz.zeroValue203
 t53 := Tryz.underlying163
 a53 := Tryz.isAgg163
 z53 := Tryz.sizeOf163
 v53 := Tryz.zeroValue163
 t75 := Tryz.underlying121
 a75 := Tryz.isAgg121
 z75 := Tryz.sizeOf121
 v75 := Tryz.zeroValue121
 t85 := Tryz.underlying126
 a85 := Tryz.isAgg126
 z85 := Tryz.sizeOf126
 v85 := Tryz.zeroValue126
 t127 := Tryz.underlying148
 a127 := Tryz.isAgg148
 z127 := Tryz.sizeOf148
 v127 := Tryz.zeroValue148
 t143 := Tryz.underlying198
 a143 := Tryz.isAgg198
 z143 := Tryz.sizeOf198
 v143 := Tryz.zeroValue198
 t145 := Tryz.underlying200
 a145 := Tryz.isAgg200
 z145 := Tryz.sizeOf200
 v145 := Tryz.zeroValue200
 t167 := Tryz.underlying162
 a167 := Tryz.isAgg162
 z167 := Tryz.sizeOf162
 v167 := Tryz.zeroValue162
 t168 := Tryz.underlying167
 a168 := Tryz.isAgg167
 z168 := Tryz.sizeOf167
 v168 := Tryz.zeroValue167
 t171 := Tryz.underlying182
 a171 := Tryz.isAgg182
 z171 := Tryz.sizeOf182
 v171 := Tryz.zeroValue182
 t173 := Tryz.underlying185
 a173 := Tryz.isAgg185
 z173 := Tryz.sizeOf185
 v173 := Tryz.zeroValue185
 t175 := Tryz.underlying164
 a175 := Tryz.isAgg164
 z175 := Tryz.sizeOf164
 v175 := Tryz.zeroValue164
 t210 := Tryz.underlying180
 a210 := Tryz.isAgg180
 z210 := Tryz.sizeOf180
 v210 := Tryz.zeroValue180
 t212 := Tryz.underlying202
 a212 := Tryz.isAgg202
 z212 := Tryz.sizeOf202
 v212 := Tryz.zeroValue202
 t213 := Tryz.underlying204
 a213 := Tryz.isAgg204
 z213 := Tryz.sizeOf204
 t232 := Tryz.underlying210
 a232 := Tryz.isAgg210
 z232 := Tryz.sizeOf210
 v232 := Tryz.zeroValue210
 t233 := Tryz.underlying211
 a233 := Tryz.isAgg211
 z233 := Tryz.sizeOf211
 v233 := Tryz.zeroValue211
 g15 := by kernel_rfl
 g16 := by kernel_rfl
 g17 := by kernel_rfl
 g18 := by kernel_rfl
 g19 := by kernel_rfl
 t80 := Tryz.underlying103
 a80 := Tryz.isAgg103
 z80 := Tryz.sizeOf103
 v80 := Tryz.zeroValue103
 i0 := by kernel_rfl
 i2 := by kernel_rfl
 i3 := by kernel_rfl
 i4 := by kernel_rfl
 i5 := by kernel_rfl
 i9 := by kernel_rfl
 i20 := by kernel_rfl
 i21 := by kernel_rfl
 i37 := by kernel_rfl
 i46 := by kernel_rfl
 i51 := by kernel_rfl
 i53 := by kernel_rfl
 i75 := by kernel_rfl
 i80 := by kernel_rfl
 i85 := by kernel_rfl
 i127 := by kernel_rfl
 i143 := by kernel_rfl
 i145 := by kernel_rfl
 i167 := by kernel_rfl
 i168 := by kernel_rfl
 i171 := by kernel_rfl
 i173 := by kernel_rfl
 i175 := by kernel_rfl
 i210 := by kernel_rfl
 i212 := by kernel_rfl
 i232 := by kernel_rfl
 i233 := by kernel_rfl
 m15 := by kernel_rfl
 m16 := by kernel_rfl
 m17 := by kernel_rfl
 m18 := by kernel_rfl
 m19 := by kernel_rfl
 c0 := by kernel_rfl
 c2 := by kernel_rfl
 c3 := by kernel_rfl
 c4 := by kernel_rfl
 c5 := by kernel_rfl
 c9 := by kernel_rfl
 c20 := by kernel_rfl
 c21 := by kernel_rfl
 c37 := by kernel_rfl
 c46 := by kernel_rfl
 c51 := by kernel_rfl
 c53 := by kernel_rfl
 c75 := by kernel_rfl
 c80 := by kernel_rfl
 c85 := by kernel_rfl
 c127 := by kernel_rfl
 c143 := by kernel_rfl
 c145 := by kernel_rfl
 c167 := by kernel_rfl
 c168 := by kernel_rfl
 c171 := by kernel_rfl
 c173 := by kernel_rfl
 c175 := by kernel_rfl
 c210 := by kernel_rfl
 c212 := by kernel_rfl
 c213 := by kernel_rfl
 c232 := by kernel_rfl
 c233 := by kernel_rfl }
theorem Tryz.Builder_X72_156 : Builder.X72 Tryz.prog Tryz.lays156_ren where
 sizeBuilder := by kernel_rfl
 liesBuilder := by kernel_rfl
end Go.Proofs
