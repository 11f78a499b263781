/- The deterministic evaluator D and what is proved with it, part Ok of the claim on YtpopgcbejolepaaGreatDoor. -/
import Derived.Test.YtpopgcbejolepaaGreatDoorCoreD
import Derived.Test.YtpopgcbejolepaaGreatDoorTextC
import Derived.Test.YtpopgcbejolepaaGreatDoorTieA
import Derived.Test.YtpopgcbejolepaaGreatDoorTieB
set_option maxRecDepth 100000
noncomputable section
namespace Ds.Text
open Go.Proofs
noncomputable abbrev prog : Go.Program := Tryz.prog
noncomputable def nameOk (f : Nat) : Bool := match prog.funcs[f]? with
  | some fn => !(fn.name == "runtime.NumGoroutine")
  | none => true
theorem names_ok : (List.range 512).all nameOk = true := by kernel_rfl
theorem tie_ok {X : Cx} {E : Env} {f : Nat} {rs : List Rv} {c : Code} {F : Fun} (hF : F = .code rs c) (hf : f < 512)
    (h : (prog.funcs[f]?).map (fun fn => cFun prog methNames fn) = some (some F)) : FunOk prog X E methNames f F := by
  refine code_ok hF h ?_
  have := List.all_eq_true.1 names_ok f (List.mem_range.2 hf)
  unfold nameOk at this
  unfold tieOk
  split at this <;> rename_i hx
  · rw [hx]; exact this
  · rw [hx] at h; cases h
theorem none_ok {X : Cx} {E : Env} {f : Nat} : FunOk prog X E methNames f .none := True.intro
section
variable {X : Cx} {E : Env}
theorem oku0 : ∀ c : O8, FunOk prog X E methNames (0 + c.num) (N8.get u0 c) := by
  intro c; cases c
  · exact none_ok
  · exact none_ok
  · exact none_ok
  · exact none_ok
  · exact tie_ok (F := f4) (f := 4) rfl (by decide) tie4
  · exact none_ok
  · exact none_ok
  · exact tie_ok (F := f7) (f := 7) rfl (by decide) tie7
theorem oku1 : ∀ c : O8, FunOk prog X E methNames (8 + c.num) (N8.get u1 c) := by
  intro c; cases c
  · exact tie_ok (F := f8) (f := 8) rfl (by decide) tie8
  · exact tie_ok (F := f9) (f := 9) rfl (by decide) tie9
  · exact tie_ok (F := f10) (f := 10) rfl (by decide) tie10
  · exact tie_ok (F := f11) (f := 11) rfl (by decide) tie11
  · exact tie_ok (F := f12) (f := 12) rfl (by decide) tie12
  · exact none_ok
  · exact none_ok
  · exact tie_ok (F := f15) (f := 15) rfl (by decide) tie15
theorem oku2 : ∀ c : O8, FunOk prog X E methNames (16 + c.num) (N8.get u2 c) := by
  intro c; cases c
  · exact tie_ok (F := f16) (f := 16) rfl (by decide) tie16
  · exact tie_ok (F := f17) (f := 17) rfl (by decide) tie17
  · exact tie_ok (F := f18) (f := 18) rfl (by decide) tie18
  · exact tie_ok (F := f19) (f := 19) rfl (by decide) tie19
  · exact tie_ok (F := f20) (f := 20) rfl (by decide) tie20
  · exact tie_ok (F := f21) (f := 21) rfl (by decide) tie21
  · exact tie_ok (F := f22) (f := 22) rfl (by decide) tie22
  · exact tie_ok (F := f23) (f := 23) rfl (by decide) tie23
theorem oku3 (h12 : FunOk prog X E methNames 24 f24) : ∀ c : O8, FunOk prog X E methNames (24 + c.num) (N8.get u3 c) := by
  intro c; cases c
  · exact h12
  · exact tie_ok (F := f25) (f := 25) rfl (by decide) tie25
  · exact tie_ok (F := f26) (f := 26) rfl (by decide) tie26
  · exact tie_ok (F := f27) (f := 27) rfl (by decide) tie27
  · exact tie_ok (F := f28) (f := 28) rfl (by decide) tie28
  · exact tie_ok (F := f29) (f := 29) rfl (by decide) tie29
  · exact tie_ok (F := f30) (f := 30) rfl (by decide) tie30
  · exact tie_ok (F := f31) (f := 31) rfl (by decide) tie31
theorem oku4 : ∀ c : O8, FunOk prog X E methNames (32 + c.num) (N8.get u4 c) := by
  intro c; cases c
  · exact tie_ok (F := f32) (f := 32) rfl (by decide) tie32
  · exact tie_ok (F := f33) (f := 33) rfl (by decide) tie33
  · exact tie_ok (F := f34) (f := 34) rfl (by decide) tie34
  · exact tie_ok (F := f35) (f := 35) rfl (by decide) tie35
  · exact tie_ok (F := f36) (f := 36) rfl (by decide) tie36
  · exact tie_ok (F := f37) (f := 37) rfl (by decide) tie37
  · exact tie_ok (F := f38) (f := 38) rfl (by decide) tie38
  · exact tie_ok (F := f39) (f := 39) rfl (by decide) tie39
theorem oku5 : ∀ c : O8, FunOk prog X E methNames (40 + c.num) (N8.get u5 c) := by
  intro c; cases c
  · exact none_ok
  · exact tie_ok (F := f41) (f := 41) rfl (by decide) tie41
  · exact tie_ok (F := f42) (f := 42) rfl (by decide) tie42
  · exact tie_ok (F := f43) (f := 43) rfl (by decide) tie43
  · exact tie_ok (F := f44) (f := 44) rfl (by decide) tie44
  · exact tie_ok (F := f45) (f := 45) rfl (by decide) tie45
  · exact tie_ok (F := f46) (f := 46) rfl (by decide) tie46
  · exact tie_ok (F := f47) (f := 47) rfl (by decide) tie47
theorem oku6 : ∀ c : O8, FunOk prog X E methNames (48 + c.num) (N8.get u6 c) := by
  intro c; cases c
  · exact tie_ok (F := f48) (f := 48) rfl (by decide) tie48
  · exact tie_ok (F := f49) (f := 49) rfl (by decide) tie49
  · exact tie_ok (F := f50) (f := 50) rfl (by decide) tie50
  · exact tie_ok (F := f51) (f := 51) rfl (by decide) tie51
  · exact tie_ok (F := f52) (f := 52) rfl (by decide) tie52
  · exact tie_ok (F := f53) (f := 53) rfl (by decide) tie53
  · exact tie_ok (F := f54) (f := 54) rfl (by decide) tie54
  · exact tie_ok (F := f55) (f := 55) rfl (by decide) tie55
theorem oku7 : ∀ c : O8, FunOk prog X E methNames (56 + c.num) (N8.get u7 c) := by
  intro c; cases c
  · exact tie_ok (F := f56) (f := 56) rfl (by decide) tie56
  · exact tie_ok (F := f57) (f := 57) rfl (by decide) tie57
  · exact tie_ok (F := f58) (f := 58) rfl (by decide) tie58
  · exact tie_ok (F := f59) (f := 59) rfl (by decide) tie59
  · exact tie_ok (F := f60) (f := 60) rfl (by decide) tie60
  · exact tie_ok (F := f61) (f := 61) rfl (by decide) tie61
  · exact tie_ok (F := f62) (f := 62) rfl (by decide) tie62
  · exact tie_ok (F := f63) (f := 63) rfl (by decide) tie63
theorem oku8 : ∀ c : O8, FunOk prog X E methNames (64 + c.num) (N8.get u8 c) := by
  intro c; cases c
  · exact tie_ok (F := f64) (f := 64) rfl (by decide) tie64
  · exact tie_ok (F := f65) (f := 65) rfl (by decide) tie65
  · exact tie_ok (F := f66) (f := 66) rfl (by decide) tie66
  · exact tie_ok (F := f67) (f := 67) rfl (by decide) tie67
  · exact tie_ok (F := f68) (f := 68) rfl (by decide) tie68
  · exact tie_ok (F := f69) (f := 69) rfl (by decide) tie69
  · exact tie_ok (F := f70) (f := 70) rfl (by decide) tie70
  · exact tie_ok (F := f71) (f := 71) rfl (by decide) tie71
theorem oku9 : ∀ c : O8, FunOk prog X E methNames (72 + c.num) (N8.get u9 c) := by
  intro c; cases c
  · exact tie_ok (F := f72) (f := 72) rfl (by decide) tie72
  · exact tie_ok (F := f73) (f := 73) rfl (by decide) tie73
  · exact tie_ok (F := f74) (f := 74) rfl (by decide) tie74
  · exact tie_ok (F := f75) (f := 75) rfl (by decide) tie75
  · exact tie_ok (F := f76) (f := 76) rfl (by decide) tie76
  · exact tie_ok (F := f77) (f := 77) rfl (by decide) tie77
  · exact tie_ok (F := f78) (f := 78) rfl (by decide) tie78
  · exact tie_ok (F := f79) (f := 79) rfl (by decide) tie79
theorem oku10 : ∀ c : O8, FunOk prog X E methNames (80 + c.num) (N8.get u10 c) := by
  intro c; cases c
  · exact tie_ok (F := f80) (f := 80) rfl (by decide) tie80
  · exact tie_ok (F := f81) (f := 81) rfl (by decide) tie81
  · exact tie_ok (F := f82) (f := 82) rfl (by decide) tie82
  · exact tie_ok (F := f83) (f := 83) rfl (by decide) tie83
  · exact tie_ok (F := f84) (f := 84) rfl (by decide) tie84
  · exact tie_ok (F := f85) (f := 85) rfl (by decide) tie85
  · exact tie_ok (F := f86) (f := 86) rfl (by decide) tie86
  · exact tie_ok (F := f87) (f := 87) rfl (by decide) tie87
theorem oku11 : ∀ c : O8, FunOk prog X E methNames (88 + c.num) (N8.get u11 c) := by
  intro c; cases c
  · exact tie_ok (F := f88) (f := 88) rfl (by decide) tie88
  · exact tie_ok (F := f89) (f := 89) rfl (by decide) tie89
  · exact tie_ok (F := f90) (f := 90) rfl (by decide) tie90
  · exact tie_ok (F := f91) (f := 91) rfl (by decide) tie91
  · exact tie_ok (F := f92) (f := 92) rfl (by decide) tie92
  · exact tie_ok (F := f93) (f := 93) rfl (by decide) tie93
  · exact tie_ok (F := f94) (f := 94) rfl (by decide) tie94
  · exact none_ok
theorem oku12 : ∀ c : O8, FunOk prog X E methNames (96 + c.num) (N8.get u12 c) := by
  intro c; cases c
  · exact tie_ok (F := f96) (f := 96) rfl (by decide) tie96
  · exact tie_ok (F := f97) (f := 97) rfl (by decide) tie97
  · exact tie_ok (F := f98) (f := 98) rfl (by decide) tie98
  · exact tie_ok (F := f99) (f := 99) rfl (by decide) tie99
  · exact tie_ok (F := f100) (f := 100) rfl (by decide) tie100
  · exact tie_ok (F := f101) (f := 101) rfl (by decide) tie101
  · exact tie_ok (F := f102) (f := 102) rfl (by decide) tie102
  · exact tie_ok (F := f103) (f := 103) rfl (by decide) tie103
theorem oku13 : ∀ c : O8, FunOk prog X E methNames (104 + c.num) (N8.get u13 c) := by
  intro c; cases c
  · exact tie_ok (F := f104) (f := 104) rfl (by decide) tie104
  · exact tie_ok (F := f105) (f := 105) rfl (by decide) tie105
  · exact tie_ok (F := f106) (f := 106) rfl (by decide) tie106
  · exact tie_ok (F := f107) (f := 107) rfl (by decide) tie107
  · exact tie_ok (F := f108) (f := 108) rfl (by decide) tie108
  · exact tie_ok (F := f109) (f := 109) rfl (by decide) tie109
  · exact tie_ok (F := f110) (f := 110) rfl (by decide) tie110
  · exact tie_ok (F := f111) (f := 111) rfl (by decide) tie111
theorem oku14 : ∀ c : O8, FunOk prog X E methNames (112 + c.num) (N8.get u14 c) := by
  intro c; cases c
  · exact tie_ok (F := f112) (f := 112) rfl (by decide) tie112
  · exact tie_ok (F := f113) (f := 113) rfl (by decide) tie113
  · exact tie_ok (F := f114) (f := 114) rfl (by decide) tie114
  · exact tie_ok (F := f115) (f := 115) rfl (by decide) tie115
  · exact tie_ok (F := f116) (f := 116) rfl (by decide) tie116
  · exact tie_ok (F := f117) (f := 117) rfl (by decide) tie117
  · exact tie_ok (F := f118) (f := 118) rfl (by decide) tie118
  · exact tie_ok (F := f119) (f := 119) rfl (by decide) tie119
theorem oku15 : ∀ c : O8, FunOk prog X E methNames (120 + c.num) (N8.get u15 c) := by
  intro c; cases c
  · exact tie_ok (F := f120) (f := 120) rfl (by decide) tie120
  · exact tie_ok (F := f121) (f := 121) rfl (by decide) tie121
  · exact tie_ok (F := f122) (f := 122) rfl (by decide) tie122
  · exact tie_ok (F := f123) (f := 123) rfl (by decide) tie123
  · exact tie_ok (F := f124) (f := 124) rfl (by decide) tie124
  · exact tie_ok (F := f125) (f := 125) rfl (by decide) tie125
  · exact tie_ok (F := f126) (f := 126) rfl (by decide) tie126
  · exact tie_ok (F := f127) (f := 127) rfl (by decide) tie127
theorem oku16 : ∀ c : O8, FunOk prog X E methNames (128 + c.num) (N8.get u16 c) := by
  intro c; cases c
  · exact tie_ok (F := f128) (f := 128) rfl (by decide) tie128
  · exact tie_ok (F := f129) (f := 129) rfl (by decide) tie129
  · exact tie_ok (F := f130) (f := 130) rfl (by decide) tie130
  · exact tie_ok (F := f131) (f := 131) rfl (by decide) tie131
  · exact tie_ok (F := f132) (f := 132) rfl (by decide) tie132
  · exact tie_ok (F := f133) (f := 133) rfl (by decide) tie133
  · exact tie_ok (F := f134) (f := 134) rfl (by decide) tie134
  · exact tie_ok (F := f135) (f := 135) rfl (by decide) tie135
theorem oku17 : ∀ c : O8, FunOk prog X E methNames (136 + c.num) (N8.get u17 c) := by
  intro c; cases c
  · exact tie_ok (F := f136) (f := 136) rfl (by decide) tie136
  · exact tie_ok (F := f137) (f := 137) rfl (by decide) tie137
  · exact tie_ok (F := f138) (f := 138) rfl (by decide) tie138
  · exact tie_ok (F := f139) (f := 139) rfl (by decide) tie139
  · exact tie_ok (F := f140) (f := 140) rfl (by decide) tie140
  · exact tie_ok (F := f141) (f := 141) rfl (by decide) tie141
  · exact tie_ok (F := f142) (f := 142) rfl (by decide) tie142
  · exact tie_ok (F := f143) (f := 143) rfl (by decide) tie143
theorem oku18 : ∀ c : O8, FunOk prog X E methNames (144 + c.num) (N8.get u18 c) := by
  intro c; cases c
  · exact tie_ok (F := f144) (f := 144) rfl (by decide) tie144
  · exact tie_ok (F := f145) (f := 145) rfl (by decide) tie145
  · exact tie_ok (F := f146) (f := 146) rfl (by decide) tie146
  · exact tie_ok (F := f147) (f := 147) rfl (by decide) tie147
  · exact tie_ok (F := f148) (f := 148) rfl (by decide) tie148
  · exact tie_ok (F := f149) (f := 149) rfl (by decide) tie149
  · exact tie_ok (F := f150) (f := 150) rfl (by decide) tie150
  · exact tie_ok (F := f151) (f := 151) rfl (by decide) tie151
theorem oku19 : ∀ c : O8, FunOk prog X E methNames (152 + c.num) (N8.get u19 c) := by
  intro c; cases c
  · exact tie_ok (F := f152) (f := 152) rfl (by decide) tie152
  · exact tie_ok (F := f153) (f := 153) rfl (by decide) tie153
  · exact tie_ok (F := f154) (f := 154) rfl (by decide) tie154
  · exact tie_ok (F := f155) (f := 155) rfl (by decide) tie155
  · exact tie_ok (F := f156) (f := 156) rfl (by decide) tie156
  · exact tie_ok (F := f157) (f := 157) rfl (by decide) tie157
  · exact tie_ok (F := f158) (f := 158) rfl (by decide) tie158
  · exact tie_ok (F := f159) (f := 159) rfl (by decide) tie159
theorem oku20 : ∀ c : O8, FunOk prog X E methNames (160 + c.num) (N8.get u20 c) := by
  intro c; cases c
  · exact tie_ok (F := f160) (f := 160) rfl (by decide) tie160
  · exact tie_ok (F := f161) (f := 161) rfl (by decide) tie161
  · exact tie_ok (F := f162) (f := 162) rfl (by decide) tie162
  · exact tie_ok (F := f163) (f := 163) rfl (by decide) tie163
  · exact tie_ok (F := f164) (f := 164) rfl (by decide) tie164
  · exact tie_ok (F := f165) (f := 165) rfl (by decide) tie165
  · exact tie_ok (F := f166) (f := 166) rfl (by decide) tie166
  · exact tie_ok (F := f167) (f := 167) rfl (by decide) tie167
theorem oku21 : ∀ c : O8, FunOk prog X E methNames (168 + c.num) (N8.get u21 c) := by
  intro c; cases c
  · exact tie_ok (F := f168) (f := 168) rfl (by decide) tie168
  · exact tie_ok (F := f169) (f := 169) rfl (by decide) tie169
  · exact tie_ok (F := f170) (f := 170) rfl (by decide) tie170
  · exact tie_ok (F := f171) (f := 171) rfl (by decide) tie171
  · exact tie_ok (F := f172) (f := 172) rfl (by decide) tie172
  · exact tie_ok (F := f173) (f := 173) rfl (by decide) tie173
  · exact tie_ok (F := f174) (f := 174) rfl (by decide) tie174
  · exact tie_ok (F := f175) (f := 175) rfl (by decide) tie175
theorem oku22 : ∀ c : O8, FunOk prog X E methNames (176 + c.num) (N8.get u22 c) := by
  intro c; cases c
  · exact tie_ok (F := f176) (f := 176) rfl (by decide) tie176
  · exact tie_ok (F := f177) (f := 177) rfl (by decide) tie177
  · exact tie_ok (F := f178) (f := 178) rfl (by decide) tie178
  · exact tie_ok (F := f179) (f := 179) rfl (by decide) tie179
  · exact tie_ok (F := f180) (f := 180) rfl (by decide) tie180
  · exact tie_ok (F := f181) (f := 181) rfl (by decide) tie181
  · exact tie_ok (F := f182) (f := 182) rfl (by decide) tie182
  · exact tie_ok (F := f183) (f := 183) rfl (by decide) tie183
theorem oku23 : ∀ c : O8, FunOk prog X E methNames (184 + c.num) (N8.get u23 c) := by
  intro c; cases c
  · exact tie_ok (F := f184) (f := 184) rfl (by decide) tie184
  · exact tie_ok (F := f185) (f := 185) rfl (by decide) tie185
  · exact tie_ok (F := f186) (f := 186) rfl (by decide) tie186
  · exact tie_ok (F := f187) (f := 187) rfl (by decide) tie187
  · exact none_ok
  · exact tie_ok (F := f189) (f := 189) rfl (by decide) tie189
  · exact tie_ok (F := f190) (f := 190) rfl (by decide) tie190
  · exact tie_ok (F := f191) (f := 191) rfl (by decide) tie191
theorem oku24 : ∀ c : O8, FunOk prog X E methNames (192 + c.num) (N8.get u24 c) := by
  intro c; cases c
  · exact tie_ok (F := f192) (f := 192) rfl (by decide) tie192
  · exact tie_ok (F := f193) (f := 193) rfl (by decide) tie193
  · exact tie_ok (F := f194) (f := 194) rfl (by decide) tie194
  · exact tie_ok (F := f195) (f := 195) rfl (by decide) tie195
  · exact tie_ok (F := f196) (f := 196) rfl (by decide) tie196
  · exact tie_ok (F := f197) (f := 197) rfl (by decide) tie197
  · exact tie_ok (F := f198) (f := 198) rfl (by decide) tie198
  · exact tie_ok (F := f199) (f := 199) rfl (by decide) tie199
theorem oku25 : ∀ c : O8, FunOk prog X E methNames (200 + c.num) (N8.get u25 c) := by
  intro c; cases c
  · exact tie_ok (F := f200) (f := 200) rfl (by decide) tie200
  · exact tie_ok (F := f201) (f := 201) rfl (by decide) tie201
  · exact tie_ok (F := f202) (f := 202) rfl (by decide) tie202
  · exact tie_ok (F := f203) (f := 203) rfl (by decide) tie203
  · exact tie_ok (F := f204) (f := 204) rfl (by decide) tie204
  · exact tie_ok (F := f205) (f := 205) rfl (by decide) tie205
  · exact tie_ok (F := f206) (f := 206) rfl (by decide) tie206
  · exact tie_ok (F := f207) (f := 207) rfl (by decide) tie207
theorem oku26 : ∀ c : O8, FunOk prog X E methNames (208 + c.num) (N8.get u26 c) := by
  intro c; cases c
  · exact tie_ok (F := f208) (f := 208) rfl (by decide) tie208
  · exact tie_ok (F := f209) (f := 209) rfl (by decide) tie209
  · exact tie_ok (F := f210) (f := 210) rfl (by decide) tie210
  · exact tie_ok (F := f211) (f := 211) rfl (by decide) tie211
  · exact tie_ok (F := f212) (f := 212) rfl (by decide) tie212
  · exact tie_ok (F := f213) (f := 213) rfl (by decide) tie213
  · exact tie_ok (F := f214) (f := 214) rfl (by decide) tie214
  · exact tie_ok (F := f215) (f := 215) rfl (by decide) tie215
theorem oku27 : ∀ c : O8, FunOk prog X E methNames (216 + c.num) (N8.get u27 c) := by
  intro c; cases c
  · exact tie_ok (F := f216) (f := 216) rfl (by decide) tie216
  · exact tie_ok (F := f217) (f := 217) rfl (by decide) tie217
  · exact tie_ok (F := f218) (f := 218) rfl (by decide) tie218
  · exact tie_ok (F := f219) (f := 219) rfl (by decide) tie219
  · exact tie_ok (F := f220) (f := 220) rfl (by decide) tie220
  · exact tie_ok (F := f221) (f := 221) rfl (by decide) tie221
  · exact none_ok
  · exact tie_ok (F := f223) (f := 223) rfl (by decide) tie223
theorem oku28 : ∀ c : O8, FunOk prog X E methNames (224 + c.num) (N8.get u28 c) := by
  intro c; cases c
  · exact tie_ok (F := f224) (f := 224) rfl (by decide) tie224
  · exact tie_ok (F := f225) (f := 225) rfl (by decide) tie225
  · exact tie_ok (F := f226) (f := 226) rfl (by decide) tie226
  · exact tie_ok (F := f227) (f := 227) rfl (by decide) tie227
  · exact tie_ok (F := f228) (f := 228) rfl (by decide) tie228
  · exact tie_ok (F := f229) (f := 229) rfl (by decide) tie229
  · exact tie_ok (F := f230) (f := 230) rfl (by decide) tie230
  · exact tie_ok (F := f231) (f := 231) rfl (by decide) tie231
theorem oku29 : ∀ c : O8, FunOk prog X E methNames (232 + c.num) (N8.get u29 c) := by
  intro c; cases c
  · exact tie_ok (F := f232) (f := 232) rfl (by decide) tie232
  · exact tie_ok (F := f233) (f := 233) rfl (by decide) tie233
  · exact tie_ok (F := f234) (f := 234) rfl (by decide) tie234
  · exact tie_ok (F := f235) (f := 235) rfl (by decide) tie235
  · exact tie_ok (F := f236) (f := 236) rfl (by decide) tie236
  · exact tie_ok (F := f237) (f := 237) rfl (by decide) tie237
  · exact tie_ok (F := f238) (f := 238) rfl (by decide) tie238
  · exact tie_ok (F := f239) (f := 239) rfl (by decide) tie239
theorem oku30 : ∀ c : O8, FunOk prog X E methNames (240 + c.num) (N8.get u30 c) := by
  intro c; cases c
  · exact tie_ok (F := f240) (f := 240) rfl (by decide) tie240
  · exact none_ok
  · exact none_ok
  · exact none_ok
  · exact none_ok
  · exact tie_ok (F := f245) (f := 245) rfl (by decide) tie245
  · exact tie_ok (F := f246) (f := 246) rfl (by decide) tie246
  · exact tie_ok (F := f247) (f := 247) rfl (by decide) tie247
theorem oku31 : ∀ c : O8, FunOk prog X E methNames (248 + c.num) (N8.get u31 c) := by
  intro c; cases c
  · exact tie_ok (F := f248) (f := 248) rfl (by decide) tie248
  · exact tie_ok (F := f249) (f := 249) rfl (by decide) tie249
  · exact tie_ok (F := f250) (f := 250) rfl (by decide) tie250
  · exact tie_ok (F := f251) (f := 251) rfl (by decide) tie251
  · exact tie_ok (F := f252) (f := 252) rfl (by decide) tie252
  · exact tie_ok (F := f253) (f := 253) rfl (by decide) tie253
  · exact tie_ok (F := f254) (f := 254) rfl (by decide) tie254
  · exact tie_ok (F := f255) (f := 255) rfl (by decide) tie255
theorem oku32 : ∀ c : O8, FunOk prog X E methNames (256 + c.num) (N8.get u32 c) := by
  intro c; cases c
  · exact none_ok
  · exact none_ok
  · exact none_ok
  · exact none_ok
  · exact tie_ok (F := f260) (f := 260) rfl (by decide) tie260
  · exact tie_ok (F := f261) (f := 261) rfl (by decide) tie261
  · exact tie_ok (F := f262) (f := 262) rfl (by decide) tie262
  · exact none_ok
theorem oku33 : ∀ c : O8, FunOk prog X E methNames (264 + c.num) (N8.get u33 c) := by
  intro c; cases c
  · exact none_ok
  · exact tie_ok (F := f265) (f := 265) rfl (by decide) tie265
  · exact tie_ok (F := f266) (f := 266) rfl (by decide) tie266
  · exact none_ok
  · exact none_ok
  · exact none_ok
  · exact none_ok
  · exact none_ok
theorem oku34 : ∀ c : O8, FunOk prog X E methNames (272 + c.num) (N8.get u34 c) := by
  intro c; cases c
  · exact none_ok
  · exact none_ok
  · exact none_ok
  · exact none_ok
  · exact none_ok
  · exact none_ok
  · exact none_ok
  · exact none_ok
theorem oku35 : ∀ c : O8, FunOk prog X E methNames (280 + c.num) (N8.get u35 c) := by
  intro c; cases c
  · exact none_ok
  · exact none_ok
  · exact none_ok
  · exact tie_ok (F := f283) (f := 283) rfl (by decide) tie283
  · exact tie_ok (F := f284) (f := 284) rfl (by decide) tie284
  · exact tie_ok (F := f285) (f := 285) rfl (by decide) tie285
  · exact tie_ok (F := f286) (f := 286) rfl (by decide) tie286
  · exact tie_ok (F := f287) (f := 287) rfl (by decide) tie287
theorem oku36 : ∀ c : O8, FunOk prog X E methNames (288 + c.num) (N8.get u36 c) := by
  intro c; cases c
  · exact tie_ok (F := f288) (f := 288) rfl (by decide) tie288
  · exact tie_ok (F := f289) (f := 289) rfl (by decide) tie289
  · exact tie_ok (F := f290) (f := 290) rfl (by decide) tie290
  · exact tie_ok (F := f291) (f := 291) rfl (by decide) tie291
  · exact tie_ok (F := f292) (f := 292) rfl (by decide) tie292
  · exact tie_ok (F := f293) (f := 293) rfl (by decide) tie293
  · exact tie_ok (F := f294) (f := 294) rfl (by decide) tie294
  · exact tie_ok (F := f295) (f := 295) rfl (by decide) tie295
theorem oku37 : ∀ c : O8, FunOk prog X E methNames (296 + c.num) (N8.get u37 c) := by
  intro c; cases c
  · exact tie_ok (F := f296) (f := 296) rfl (by decide) tie296
  · exact tie_ok (F := f297) (f := 297) rfl (by decide) tie297
  · exact tie_ok (F := f298) (f := 298) rfl (by decide) tie298
  · exact tie_ok (F := f299) (f := 299) rfl (by decide) tie299
  · exact tie_ok (F := f300) (f := 300) rfl (by decide) tie300
  · exact tie_ok (F := f301) (f := 301) rfl (by decide) tie301
  · exact tie_ok (F := f302) (f := 302) rfl (by decide) tie302
  · exact tie_ok (F := f303) (f := 303) rfl (by decide) tie303
theorem oku38 : ∀ c : O8, FunOk prog X E methNames (304 + c.num) (N8.get u38 c) := by
  intro c; cases c
  · exact tie_ok (F := f304) (f := 304) rfl (by decide) tie304
  · exact tie_ok (F := f305) (f := 305) rfl (by decide) tie305
  · exact tie_ok (F := f306) (f := 306) rfl (by decide) tie306
  · exact tie_ok (F := f307) (f := 307) rfl (by decide) tie307
  · exact tie_ok (F := f308) (f := 308) rfl (by decide) tie308
  · exact tie_ok (F := f309) (f := 309) rfl (by decide) tie309
  · exact tie_ok (F := f310) (f := 310) rfl (by decide) tie310
  · exact tie_ok (F := f311) (f := 311) rfl (by decide) tie311
theorem oku39 : ∀ c : O8, FunOk prog X E methNames (312 + c.num) (N8.get u39 c) := by
  intro c; cases c
  · exact tie_ok (F := f312) (f := 312) rfl (by decide) tie312
  · exact tie_ok (F := f313) (f := 313) rfl (by decide) tie313
  · exact tie_ok (F := f314) (f := 314) rfl (by decide) tie314
  · exact tie_ok (F := f315) (f := 315) rfl (by decide) tie315
  · exact tie_ok (F := f316) (f := 316) rfl (by decide) tie316
  · exact none_ok
  · exact none_ok
  · exact none_ok
theorem oku40 : ∀ c : O8, FunOk prog X E methNames (320 + c.num) (N8.get u40 c) := by
  intro c; cases c
  · exact none_ok
  · exact none_ok
  · exact none_ok
  · exact none_ok
  · exact none_ok
  · exact none_ok
  · exact none_ok
  · exact none_ok
theorem oku41 : ∀ c : O8, FunOk prog X E methNames (328 + c.num) (N8.get u41 c) := by
  intro c; cases c
  · exact none_ok
  · exact none_ok
  · exact none_ok
  · exact none_ok
  · exact none_ok
  · exact none_ok
  · exact none_ok
  · exact none_ok
theorem oku42 : ∀ c : O8, FunOk prog X E methNames (336 + c.num) (N8.get u42 c) := by
  intro c; cases c
  · exact none_ok
  · exact none_ok
  · exact none_ok
  · exact none_ok
  · exact none_ok
  · exact none_ok
  · exact none_ok
  · exact none_ok
theorem oku43 : ∀ c : O8, FunOk prog X E methNames (344 + c.num) (N8.get u43 c) := by
  intro c; cases c
  · exact none_ok
  · exact none_ok
  · exact none_ok
  · exact none_ok
  · exact none_ok
  · exact none_ok
  · exact none_ok
  · exact none_ok
theorem oku44 : ∀ c : O8, FunOk prog X E methNames (352 + c.num) (N8.get u44 c) := by
  intro c; cases c
  · exact none_ok
  · exact none_ok
  · exact none_ok
  · exact none_ok
  · exact none_ok
  · exact none_ok
  · exact none_ok
  · exact none_ok
theorem oku45 : ∀ c : O8, FunOk prog X E methNames (360 + c.num) (N8.get u45 c) := by
  intro c; cases c
  · exact none_ok
  · exact none_ok
  · exact none_ok
  · exact none_ok
  · exact none_ok
  · exact none_ok
  · exact none_ok
  · exact none_ok
theorem oku46 : ∀ c : O8, FunOk prog X E methNames (368 + c.num) (N8.get u46 c) := by
  intro c; cases c
  · exact none_ok
  · exact none_ok
  · exact none_ok
  · exact none_ok
  · exact none_ok
  · exact none_ok
  · exact none_ok
  · exact none_ok
theorem oku47 : ∀ c : O8, FunOk prog X E methNames (376 + c.num) (N8.get u47 c) := by
  intro c; cases c
  · exact none_ok
  · exact none_ok
  · exact none_ok
  · exact none_ok
  · exact none_ok
  · exact none_ok
  · exact none_ok
  · exact none_ok
theorem oku48 : ∀ c : O8, FunOk prog X E methNames (384 + c.num) (N8.get u48 c) := by
  intro c; cases c
  · exact none_ok
  · exact none_ok
  · exact none_ok
  · exact none_ok
  · exact none_ok
  · exact none_ok
  · exact none_ok
  · exact none_ok
theorem oku49 : ∀ c : O8, FunOk prog X E methNames (392 + c.num) (N8.get u49 c) := by
  intro c; cases c
  · exact none_ok
  · exact none_ok
  · exact none_ok
  · exact none_ok
  · exact none_ok
  · exact none_ok
  · exact none_ok
  · exact none_ok
theorem oku50 : ∀ c : O8, FunOk prog X E methNames (400 + c.num) (N8.get u50 c) := by
  intro c; cases c
  · exact none_ok
  · exact none_ok
  · exact none_ok
  · exact none_ok
  · exact none_ok
  · exact none_ok
  · exact none_ok
  · exact none_ok
theorem oku51 : ∀ c : O8, FunOk prog X E methNames (408 + c.num) (N8.get u51 c) := by
  intro c; cases c
  · exact none_ok
  · exact none_ok
  · exact none_ok
  · exact none_ok
  · exact none_ok
  · exact none_ok
  · exact none_ok
  · exact none_ok
theorem oku52 : ∀ c : O8, FunOk prog X E methNames (416 + c.num) (N8.get u52 c) := by
  intro c; cases c
  · exact none_ok
  · exact none_ok
  · exact none_ok
  · exact none_ok
  · exact none_ok
  · exact none_ok
  · exact none_ok
  · exact none_ok
theorem oku53 : ∀ c : O8, FunOk prog X E methNames (424 + c.num) (N8.get u53 c) := by
  intro c; cases c
  · exact none_ok
  · exact none_ok
  · exact none_ok
  · exact none_ok
  · exact none_ok
  · exact none_ok
  · exact none_ok
  · exact none_ok
theorem oku54 : ∀ c : O8, FunOk prog X E methNames (432 + c.num) (N8.get u54 c) := by
  intro c; cases c
  · exact none_ok
  · exact none_ok
  · exact none_ok
  · exact none_ok
  · exact none_ok
  · exact none_ok
  · exact none_ok
  · exact none_ok
theorem oku55 : ∀ c : O8, FunOk prog X E methNames (440 + c.num) (N8.get u55 c) := by
  intro c; cases c
  · exact none_ok
  · exact none_ok
  · exact none_ok
  · exact none_ok
  · exact none_ok
  · exact none_ok
  · exact none_ok
  · exact none_ok
theorem oku56 : ∀ c : O8, FunOk prog X E methNames (448 + c.num) (N8.get u56 c) := by
  intro c; cases c
  · exact none_ok
  · exact none_ok
  · exact none_ok
  · exact none_ok
  · exact none_ok
  · exact none_ok
  · exact none_ok
  · exact none_ok
theorem oku57 : ∀ c : O8, FunOk prog X E methNames (456 + c.num) (N8.get u57 c) := by
  intro c; cases c
  · exact none_ok
  · exact none_ok
  · exact none_ok
  · exact none_ok
  · exact none_ok
  · exact none_ok
  · exact none_ok
  · exact none_ok
theorem oku58 : ∀ c : O8, FunOk prog X E methNames (464 + c.num) (N8.get u58 c) := by
  intro c; cases c
  · exact none_ok
  · exact none_ok
  · exact none_ok
  · exact none_ok
  · exact none_ok
  · exact none_ok
  · exact none_ok
  · exact none_ok
theorem oku59 : ∀ c : O8, FunOk prog X E methNames (472 + c.num) (N8.get u59 c) := by
  intro c; cases c
  · exact none_ok
  · exact none_ok
  · exact none_ok
  · exact none_ok
  · exact none_ok
  · exact none_ok
  · exact none_ok
  · exact none_ok
theorem oku60 : ∀ c : O8, FunOk prog X E methNames (480 + c.num) (N8.get u60 c) := by
  intro c; cases c
  · exact none_ok
  · exact none_ok
  · exact none_ok
  · exact none_ok
  · exact none_ok
  · exact none_ok
  · exact none_ok
  · exact none_ok
theorem oku61 : ∀ c : O8, FunOk prog X E methNames (488 + c.num) (N8.get u61 c) := by
  intro c; cases c
  · exact none_ok
  · exact none_ok
  · exact none_ok
  · exact none_ok
  · exact none_ok
  · exact none_ok
  · exact none_ok
  · exact none_ok
theorem oku62 : ∀ c : O8, FunOk prog X E methNames (496 + c.num) (N8.get u62 c) := by
  intro c; cases c
  · exact none_ok
  · exact none_ok
  · exact none_ok
  · exact none_ok
  · exact none_ok
  · exact none_ok
  · exact none_ok
  · exact none_ok
theorem oku63 : ∀ c : O8, FunOk prog X E methNames (504 + c.num) (N8.get u63 c) := by
  intro c; cases c
  · exact none_ok
  · exact none_ok
  · exact none_ok
  · exact none_ok
  · exact none_ok
  · exact none_ok
  · exact none_ok
  · exact none_ok
theorem okv0 (h12 : FunOk prog X E methNames 24 f24) : ∀ b c : O8, FunOk prog X E methNames (0 + b.num * 8 + c.num) (N8.get (N8.get v0 b) c) := by
  intro b; cases b
  · exact oku0
  · exact oku1
  · exact oku2
  · exact oku3 h12
  · exact oku4
  · exact oku5
  · exact oku6
  · exact oku7
theorem okv1 : ∀ b c : O8, FunOk prog X E methNames (64 + b.num * 8 + c.num) (N8.get (N8.get v1 b) c) := by
  intro b; cases b
  · exact oku8
  · exact oku9
  · exact oku10
  · exact oku11
  · exact oku12
  · exact oku13
  · exact oku14
  · exact oku15
theorem okv2 : ∀ b c : O8, FunOk prog X E methNames (128 + b.num * 8 + c.num) (N8.get (N8.get v2 b) c) := by
  intro b; cases b
  · exact oku16
  · exact oku17
  · exact oku18
  · exact oku19
  · exact oku20
  · exact oku21
  · exact oku22
  · exact oku23
theorem okv3 : ∀ b c : O8, FunOk prog X E methNames (192 + b.num * 8 + c.num) (N8.get (N8.get v3 b) c) := by
  intro b; cases b
  · exact oku24
  · exact oku25
  · exact oku26
  · exact oku27
  · exact oku28
  · exact oku29
  · exact oku30
  · exact oku31
theorem okv4 : ∀ b c : O8, FunOk prog X E methNames (256 + b.num * 8 + c.num) (N8.get (N8.get v4 b) c) := by
  intro b; cases b
  · exact oku32
  · exact oku33
  · exact oku34
  · exact oku35
  · exact oku36
  · exact oku37
  · exact oku38
  · exact oku39
theorem okv5 : ∀ b c : O8, FunOk prog X E methNames (320 + b.num * 8 + c.num) (N8.get (N8.get v5 b) c) := by
  intro b; cases b
  · exact oku40
  · exact oku41
  · exact oku42
  · exact oku43
  · exact oku44
  · exact oku45
  · exact oku46
  · exact oku47
theorem okv6 : ∀ b c : O8, FunOk prog X E methNames (384 + b.num * 8 + c.num) (N8.get (N8.get v6 b) c) := by
  intro b; cases b
  · exact oku48
  · exact oku49
  · exact oku50
  · exact oku51
  · exact oku52
  · exact oku53
  · exact oku54
  · exact oku55
theorem okv7 : ∀ b c : O8, FunOk prog X E methNames (448 + b.num * 8 + c.num) (N8.get (N8.get v7 b) c) := by
  intro b; cases b
  · exact oku56
  · exact oku57
  · exact oku58
  · exact oku59
  · exact oku60
  · exact oku61
  · exact oku62
  · exact oku63
theorem okAll (h12 : FunOk prog X E methNames 24 f24) : ∀ a b c : O8, FunOk prog X E methNames (a.num * 64 + b.num * 8 + c.num) (N8.get (N8.get (N8.get funs a) b) c) := by
  intro a; cases a
  · exact okv0 h12
  · exact okv1
  · exact okv2
  · exact okv3
  · exact okv4
  · exact okv5
  · exact okv6
  · exact okv7
theorem base_ok (h12 : FunOk prog X E methNames 24 f24) : ∀ f, f < 512 → FunOk prog X E methNames f (get3 funs (P3.ofNat f)) := by
  intro f hf
  have h := okAll (X := X) (E := E) h12
  have hn := P3.num_ofNat hf
  generalize P3.ofNat f = q at hn
  obtain ⟨a, b, c⟩ := q
  have := h a b c
  simp only [P3.num] at hn
  have e : a.num * 64 + b.num * 8 + c.num = f := by omega
  rw [e] at this
  exact this
end
end Ds.Text
end
set_option maxRecDepth 100000
noncomputable section
namespace Ds.Text
open Go (Code Oper Func)
def fn12 : Func := (prog.funcs[24]?).getD default
def fn27 : Func := (prog.funcs[40]?).getD default
def sqA : Option Go.Code → Go.Code | some (.seq a _) => a | _ => .skip
def sqB : Option Go.Code → Go.Code | some (.seq _ b) => b | _ => .skip
def rgO : Go.Code → Array Oper | .region _ o _ => o | _ => #[]
def rgI : Go.Code → Nat | .region i _ _ => i | _ => 0
instance : Inhabited Oper := ⟨{ dst := none, op := .makeMap 0 none, type := 0, pos := "", after := #[], guard := none }⟩
def op12 (i : Nat) : Oper := ((rgO (sqA (some (sqB fn12.body))))[i]?).getD default
def capsOf (o : Oper) : List Go.Operand := match o.op with | .makeFunc _ _ ⟨c⟩ => c | _ => []
def ctsOf (o : Oper) : Array Go.TypeId := match o.op with | .defer c => c.argTypes | .call c => c.argTypes | _ => #[]
def r27 : Go.Code := sqA (some (sqA fn27.body))
def ops27 : List Oper := (rgO r27).toList
def shape12 : DfrShape prog methNames 24 40 [.celln p4 4] dca dcr [q2,q4] 5 [] 5 dml dcd dcd2 where
  fn := fn12
  fd := fn27
  a := sqA fn12.body
  r := sqB (some (sqB fn12.body))
  id := rgI (sqA (some (sqB fn12.body)))
  mko := op12 0
  df := op12 1
  caps := capsOf (op12 0)
  cts := ctsOf (op12 1)
  id' := rgI r27
  rc := ops27.headD default
  l := ops27.tail
  d := sqB (some (sqA fn27.body))
  d2 := sqB fn27.body
  cts' := ctsOf (ops27.headD default)
  hfn := by kernel_rfl
  hfd := by kernel_rfl
  hname := by kernel_rfl
  hnameD := by kernel_rfl
  hb := by kernel_rfl
  hbD := by kernel_rfl
  hmk := by kernel_rfl
  hmd := by kernel_rfl
  hmg := by kernel_rfl
  hdf := by kernel_rfl
  hdd := by kernel_rfl
  hdg := by kernel_rfl
  hrc := by kernel_rfl
  hrd := by kernel_rfl
  hrg := by kernel_rfl
  hnt := of_decide_eq_true (by kernel_rfl)
  hntD := of_decide_eq_true (by kernel_rfl)
  hk := of_decide_eq_true (by kernel_rfl)
  hj := of_decide_eq_true (by kernel_rfl)
  hca := by kernel_rfl
  hcr := by kernel_rfl
  hcs := by kernel_rfl
  hrs := by kernel_rfl
  hml := by kernel_rfl
  hcd := by kernel_rfl
  hcd2 := by kernel_rfl
  hdrs := by kernel_rfl
def nm0 (i : Nat) : String := methNames.getD i ""
def X0 (σ : Val) (fx : Nat → Option Go.Obj) : Cx := { σ := σ, nm := nm0, fix := fx }
theorem hnm0 {σ : Val} {fx : Nat → Option Go.Obj} : ∀ i m, methNames.findIdx? (· == m) = some i → (X0 σ fx).nm i = m := by
  intro i m h
  obtain ⟨h1, h2, h3⟩ := List.findIdx?_eq_some_iff_getElem.1 h
  show methNames.getD i "" = m
  rw [List.getD_eq_getElem?_getD, List.getElem?_eq_getElem h1]
  simpa using h2
theorem rows_ok : ∀ r ∈ methRows, rowOk prog methNames r = true := List.all_eq_true.1 (show methRows.all (rowOk prog methNames) = true by kernel_rfl)
structure Kn where
  facts : Cond → Option Bool
  ix : SS → SI → Option SI
  sl : SS → SI → SI → Option SS
  soft : Nat → List AV → Option AV
def Told1 (P : Go.Program) (X : Cx) (f : Nat) (xs : List AV) (v : AV) : Prop := ∀ (pd : P5 → Prop) (ρ : Rho) (H : Hp) (w : Go.World) (vs : List Go.Value), GR P ρ → HR X pd ρ H w → VRs X ρ xs vs →
    (∃ fn, P.funcs[f]? = some fn ∧ (fn.name == "runtime.NumGoroutine") = false ∧ fn.body.isNone = false) ∧
    Go.Calls P f vs.toArray w (fun e w' => ∃ ρ' v', e = .returned v' ∧ Stp X pd ρ H w ρ' H w' ∧ VR X ρ' v v')
structure KnOk (σ : Val) (fx : Nat → Option Go.Obj) (K : Kn) : Prop where
  facts : Facts σ K.facts
  ix : ∀ s i c, s.wf → K.ix s i = some c → c.wf ∧ ∃ n : Nat, ∃ h : n < (s.ev σ).length, i.ev σ = (n : Int) ∧ c.ev σ = (((s.ev σ)[n]).toNat : Int)
  sl : ∀ s a b r, s.wf → K.sl s a b = some r → r.wf ∧ ∃ m n : Nat, a.ev σ = (m : Int) ∧ b.ev σ = (n : Int) ∧ m ≤ n ∧ n ≤ (s.ev σ).length ∧ r.ev σ = ((s.ev σ).drop m).take (n - m)
  soft : ∀ f xs v, K.soft f xs = some v → Told1 prog (X0 σ fx) f xs v
def kn0 : Kn := { facts := fun _ => none, ix := fun _ _ => none, sl := fun _ _ _ => none, soft := fun _ _ => none }
theorem kn0_ok {σ : Val} {fx : Nat → Option Go.Obj} : KnOk σ fx kn0 := { facts := (fun _ _ h => nomatch h), ix := (fun _ _ _ _ h => nomatch h), sl := (fun _ _ _ _ _ h => nomatch h), soft := (fun _ _ _ h => nomatch h) }
def mkE (K : Kn) (fs : T3 Fun) : Env := { facts := K.facts, ix := K.ix, sl := K.sl, soft := K.soft, funs := fs, meths := methF methRows }
theorem envOk {σ : Val} {fx : Nat → Option Go.Obj} {K : Kn} {fs : T3 Fun} (hK : KnOk σ fx K) : EnvOk prog (X0 σ fx) (mkE K fs) where
  facts := hK.facts
  ix := hK.ix
  sl := hK.sl
  soft := hK.soft
  meths := (env_ok (P := prog) (X := X0 σ fx) (E := { facts := fun _ => none, ix := fun _ _ => none, sl := fun _ _ _ => none, soft := fun _ _ => none, funs := fs, meths := methF methRows }) (names := methNames) (rows := methRows) rfl rfl (fun _ _ h => nomatch h) rfl rfl rfl rows_ok).meths
theorem hmix0 : prog.follows .mixedOrders = true := by kernel_rfl
theorem base_ok' {σ : Val} {fx : Nat → Option Go.Obj} {K : Kn} {fs : T3 Fun} (hK : KnOk σ fx K) : ∀ f, f < 512 → FunOk prog (X0 σ fx) (mkE K fs) methNames f (get3 funs (P3.ofNat f)) :=
  base_ok (dfr_ok hmix0 (envOk hK) hnm0 shape12)
theorem call_ok {σ : Val} {fx : Nat → Option Go.Obj} {K : Kn} {fs : T3 Fun} (hK : KnOk σ fx K) (h : ∀ f, f < 512 → FunOk prog (X0 σ fx) (mkE K fs) methNames f (get3 fs (P3.ofNat f))) (n : Nat) : CallOk prog (X0 σ fx) (callN (mkE K fs) n) :=
  callN_ok hmix0 (envOk hK) hnm0 h n
theorem set_ok {X : Cx} {E : Env} {fs : T3 Fun} {n : Nat} {F : Fun} (hn : n < 512) (h : ∀ f, f < 512 → FunOk prog X E methNames f (get3 fs (P3.ofNat f))) (hF : FunOk prog X E methNames n F) :
    ∀ f, f < 512 → FunOk prog X E methNames f (get3 (set3 fs (P3.ofNat n) F) (P3.ofNat f)) := by
  intro f hf
  rw [get3_set3]
  by_cases c : f = n
  · subst c; rw [if_pos rfl]; exact hF
  · rw [if_neg (fun e => c (P3.ofNat_inj hn hf e).symm)]; exact h f hf
theorem let_run : (List.range 256).all (fun c => okIs' (callF (mkE kn0 funs) 10 82 [.int .u8 (.lit (.ofNat c))] emptyH) (.bool (letB c))) = true := by decide +kernel
def softK (n : Nat) : Nat → List AV → Option AV := fun f xs => match xs with
  | [.int .i64 (.lit (.ofNat q))] => (match Nat.beq f 20 && Nat.beq q (n / 10) && Nat.ble 10 n with | true => some (S (digL (n / 10))) | false => none)
  | _ => none
def knS (n : Nat) : Kn := { facts := fun _ => none, ix := fun _ _ => none, sl := fun _ _ _ => none, soft := softK n }
theorem dig_told1 {σ : Val} {fx : Nat → Option Go.Obj} : ∀ (n : Nat), n ≤ 9223372036854775807 → Told1 prog (X0 σ fx) 20 [I n] (S (digL n)) := by
  intro n
  induction n using Nat.strongRecOn with
  | _ n ih =>
    intro hn
    have hsoft : ∀ f xs v, softK n f xs = some v → Told1 prog (X0 σ fx) f xs v := by
      intro f xs v h
      unfold softK at h
      split at h
      · rename_i q
        cases hb : (Nat.beq f 20 && Nat.beq q (n / 10) && Nat.ble 10 n) with
        | false => rw [hb] at h; cases h
        | true =>
          rw [hb] at h
          simp only [Option.some.injEq] at h
          simp only [Bool.and_eq_true] at hb
          obtain ⟨⟨h1, h2⟩, h3⟩ := hb
          have h1 := Nat.eq_of_beq_eq_true h1
          have h2 := Nat.eq_of_beq_eq_true h2
          have h3 := Nat.le_of_ble_eq_true h3
          subst h1 h2 h
          exact ih (n / 10) (by omega) (by omega)
      · cases h
    have hK : KnOk σ fx (knS n) := ⟨(kn0_ok (σ := σ) (fx := fx)).facts, (kn0_ok (σ := σ) (fx := fx)).ix, (kn0_ok (σ := σ) (fx := fx)).sl, hsoft⟩
    have hcall := call_ok hK (base_ok' hK) 1
    obtain ⟨H1, hr⟩ := dig_run (E := mkE (knS n) funs) (n := n) (f := 20) rfl rfl hn (fun c => by
      show softK n 20 [I (n / 10)] = _
      have hb : (Nat.beq 20 20 && Nat.beq (n / 10) (n / 10) && Nat.ble 10 n) = true := by
        rw [Nat.beq_refl, Nat.beq_refl, Nat.ble_eq_true_of_le (by omega)]; rfl
      simp only [softK, I, hb]) 0
    intro pd ρ H w vs hG hH hv
    have := told_ok' (E := mkE kn0 funs) (names := methNames) hcall (f := 20) (g := fun xs => match AV.eqbs xs [I n] with | true => some (S (digL n)) | false => none) (fun xs v h => by
      cases he : AV.eqbs xs [I n] with
      | false => simp only [he] at h; cases h
      | true =>
        simp only [he, Option.some.injEq] at h
        subst h
        have := AV.eqbs_eq _ _ he
        subst this
        exact ⟨rfl, rfl, H1, hr⟩)
    refine this pd ρ H w [I n] vs (S (digL n)) hG hH hv ?_
    have he : AV.eqbs [I n] [I n] = true := by simp [AV.eqbs, AV.eqb, I, SI.eqb, ibeq, IntKind.beq]
    simp only [he]
def digG (xs : List AV) : Option AV := match xs with
  | [.int .i64 (.lit (.ofNat n))] => (match Nat.ble n 9223372036854775807 with | true => some (S (digQ n)) | false => none)
  | _ => none
theorem dig_told {σ : Val} {fx : Nat → Option Go.Obj} {E : Env} : FunOk prog (X0 σ fx) E methNames 20 (.told digG) := by
  intro pd ρ H w xs vs v hG hH hv hm
  unfold digG at hm
  split at hm
  · rename_i n
    cases hb : Nat.ble n 9223372036854775807 with
    | false => rw [hb] at hm; cases hm
    | true =>
      rw [hb] at hm
      simp only [Option.some.injEq] at hm
      subst hm
      rw [digQ_eq]
      exact dig_told1 n (Nat.le_of_ble_eq_true hb) pd ρ H w vs hG hH hv
  · cases hm
def funs2 : T3 Fun := set3 (set3 (set3 (set3 (set3 funs (P3.ofNat 52) (.told inG)) (P3.ofNat 105) (.told preG)) (P3.ofNat 75) (.told preG)) (P3.ofNat 82) (.told letG)) (P3.ofNat 20) (.told digG)
theorem funs2_ok {σ : Val} {fx : Nat → Option Go.Obj} {K : Kn} {fs : T3 Fun} (hK : KnOk σ fx K) : ∀ f, f < 512 → FunOk prog (X0 σ fx) (mkE K fs) methNames f (get3 funs2 (P3.ofNat f)) :=
  set_ok (by decide) (set_ok (by decide) (set_ok (by decide) (set_ok (by decide) (set_ok (by decide) (base_ok' hK) (by rw [inG_eq]; exact in_told (E1 := mkE K funs) (n := 0) rfl (by decide) (call_ok hK (base_ok' hK) 1)))
    (pre_told (E1 := mkE K funs) (n := 0) rfl (by decide) (call_ok hK (base_ok' hK) 1)))
    (spre_told (E1 := mkE K funs) (n := 0) rfl (by decide) rfl (call_ok hK (base_ok' hK) 2)))
    (let_told (E1 := mkE kn0 funs) (call_ok kn0_ok (base_ok' kn0_ok) 10) let_run)) dig_told
end Ds.Text
end
