/- The deterministic evaluator D and what is proved with it, part TieA of the claim on YtpopgcbejolepaaGreatDoor. -/
import Derived.Test.YtpopgcbejolepaaGreatDoorCoreA
import Derived.Test.YtpopgcbejolepaaGreatDoorTextB
import Derived.KernelRfl
import Derived.Test.YtpopgcbejolepaaGreatDoorProg
namespace Ds.Text
open Go.Proofs
set_option maxRecDepth 100000
theorem tie4 : (Tryz.prog.funcs[4]?).map (fun fn => cFun Tryz.prog methNames fn) = some (some f4) := by kernel_rfl
theorem tie7 : (Tryz.prog.funcs[7]?).map (fun fn => cFun Tryz.prog methNames fn) = some (some f7) := by kernel_rfl
theorem tie8 : (Tryz.prog.funcs[8]?).map (fun fn => cFun Tryz.prog methNames fn) = some (some f8) := by kernel_rfl
theorem tie9 : (Tryz.prog.funcs[9]?).map (fun fn => cFun Tryz.prog methNames fn) = some (some f9) := by kernel_rfl
theorem tie10 : (Tryz.prog.funcs[10]?).map (fun fn => cFun Tryz.prog methNames fn) = some (some f10) := by kernel_rfl
theorem tie11 : (Tryz.prog.funcs[11]?).map (fun fn => cFun Tryz.prog methNames fn) = some (some f11) := by kernel_rfl
theorem tie12 : (Tryz.prog.funcs[12]?).map (fun fn => cFun Tryz.prog methNames fn) = some (some f12) := by kernel_rfl
theorem tie15 : (Tryz.prog.funcs[15]?).map (fun fn => cFun Tryz.prog methNames fn) = some (some f15) := by kernel_rfl
theorem tie16 : (Tryz.prog.funcs[16]?).map (fun fn => cFun Tryz.prog methNames fn) = some (some f16) := by kernel_rfl
theorem tie17 : (Tryz.prog.funcs[17]?).map (fun fn => cFun Tryz.prog methNames fn) = some (some f17) := by kernel_rfl
theorem tie18 : (Tryz.prog.funcs[18]?).map (fun fn => cFun Tryz.prog methNames fn) = some (some f18) := by kernel_rfl
theorem tie19 : (Tryz.prog.funcs[19]?).map (fun fn => cFun Tryz.prog methNames fn) = some (some f19) := by kernel_rfl
theorem tie20 : (Tryz.prog.funcs[20]?).map (fun fn => cFun Tryz.prog methNames fn) = some (some f20) := by kernel_rfl
theorem tie21 : (Tryz.prog.funcs[21]?).map (fun fn => cFun Tryz.prog methNames fn) = some (some f21) := by kernel_rfl
theorem tie22 : (Tryz.prog.funcs[22]?).map (fun fn => cFun Tryz.prog methNames fn) = some (some f22) := by kernel_rfl
theorem tie23 : (Tryz.prog.funcs[23]?).map (fun fn => cFun Tryz.prog methNames fn) = some (some f23) := by kernel_rfl
theorem tie25 : (Tryz.prog.funcs[25]?).map (fun fn => cFun Tryz.prog methNames fn) = some (some f25) := by kernel_rfl
theorem tie26 : (Tryz.prog.funcs[26]?).map (fun fn => cFun Tryz.prog methNames fn) = some (some f26) := by kernel_rfl
theorem tie27 : (Tryz.prog.funcs[27]?).map (fun fn => cFun Tryz.prog methNames fn) = some (some f27) := by kernel_rfl
theorem tie28 : (Tryz.prog.funcs[28]?).map (fun fn => cFun Tryz.prog methNames fn) = some (some f28) := by kernel_rfl
theorem tie29 : (Tryz.prog.funcs[29]?).map (fun fn => cFun Tryz.prog methNames fn) = some (some f29) := by kernel_rfl
theorem tie30 : (Tryz.prog.funcs[30]?).map (fun fn => cFun Tryz.prog methNames fn) = some (some f30) := by kernel_rfl
theorem tie31 : (Tryz.prog.funcs[31]?).map (fun fn => cFun Tryz.prog methNames fn) = some (some f31) := by kernel_rfl
theorem tie32 : (Tryz.prog.funcs[32]?).map (fun fn => cFun Tryz.prog methNames fn) = some (some f32) := by kernel_rfl
theorem tie33 : (Tryz.prog.funcs[33]?).map (fun fn => cFun Tryz.prog methNames fn) = some (some f33) := by kernel_rfl
theorem tie34 : (Tryz.prog.funcs[34]?).map (fun fn => cFun Tryz.prog methNames fn) = some (some f34) := by kernel_rfl
theorem tie35 : (Tryz.prog.funcs[35]?).map (fun fn => cFun Tryz.prog methNames fn) = some (some f35) := by kernel_rfl
theorem tie36 : (Tryz.prog.funcs[36]?).map (fun fn => cFun Tryz.prog methNames fn) = some (some f36) := by kernel_rfl
theorem tie37 : (Tryz.prog.funcs[37]?).map (fun fn => cFun Tryz.prog methNames fn) = some (some f37) := by kernel_rfl
theorem tie38 : (Tryz.prog.funcs[38]?).map (fun fn => cFun Tryz.prog methNames fn) = some (some f38) := by kernel_rfl
theorem tie39 : (Tryz.prog.funcs[39]?).map (fun fn => cFun Tryz.prog methNames fn) = some (some f39) := by kernel_rfl
theorem tie41 : (Tryz.prog.funcs[41]?).map (fun fn => cFun Tryz.prog methNames fn) = some (some f41) := by kernel_rfl
theorem tie42 : (Tryz.prog.funcs[42]?).map (fun fn => cFun Tryz.prog methNames fn) = some (some f42) := by kernel_rfl
theorem tie43 : (Tryz.prog.funcs[43]?).map (fun fn => cFun Tryz.prog methNames fn) = some (some f43) := by kernel_rfl
theorem tie44 : (Tryz.prog.funcs[44]?).map (fun fn => cFun Tryz.prog methNames fn) = some (some f44) := by kernel_rfl
theorem tie45 : (Tryz.prog.funcs[45]?).map (fun fn => cFun Tryz.prog methNames fn) = some (some f45) := by kernel_rfl
theorem tie46 : (Tryz.prog.funcs[46]?).map (fun fn => cFun Tryz.prog methNames fn) = some (some f46) := by kernel_rfl
theorem tie47 : (Tryz.prog.funcs[47]?).map (fun fn => cFun Tryz.prog methNames fn) = some (some f47) := by kernel_rfl
theorem tie48 : (Tryz.prog.funcs[48]?).map (fun fn => cFun Tryz.prog methNames fn) = some (some f48) := by kernel_rfl
theorem tie49 : (Tryz.prog.funcs[49]?).map (fun fn => cFun Tryz.prog methNames fn) = some (some f49) := by kernel_rfl
theorem tie50 : (Tryz.prog.funcs[50]?).map (fun fn => cFun Tryz.prog methNames fn) = some (some f50) := by kernel_rfl
theorem tie51 : (Tryz.prog.funcs[51]?).map (fun fn => cFun Tryz.prog methNames fn) = some (some f51) := by kernel_rfl
theorem tie52 : (Tryz.prog.funcs[52]?).map (fun fn => cFun Tryz.prog methNames fn) = some (some f52) := by kernel_rfl
theorem tie53 : (Tryz.prog.funcs[53]?).map (fun fn => cFun Tryz.prog methNames fn) = some (some f53) := by kernel_rfl
theorem tie54 : (Tryz.prog.funcs[54]?).map (fun fn => cFun Tryz.prog methNames fn) = some (some f54) := by kernel_rfl
theorem tie55 : (Tryz.prog.funcs[55]?).map (fun fn => cFun Tryz.prog methNames fn) = some (some f55) := by kernel_rfl
theorem tie56 : (Tryz.prog.funcs[56]?).map (fun fn => cFun Tryz.prog methNames fn) = some (some f56) := by kernel_rfl
theorem tie57 : (Tryz.prog.funcs[57]?).map (fun fn => cFun Tryz.prog methNames fn) = some (some f57) := by kernel_rfl
theorem tie58 : (Tryz.prog.funcs[58]?).map (fun fn => cFun Tryz.prog methNames fn) = some (some f58) := by kernel_rfl
theorem tie59 : (Tryz.prog.funcs[59]?).map (fun fn => cFun Tryz.prog methNames fn) = some (some f59) := by kernel_rfl
theorem tie60 : (Tryz.prog.funcs[60]?).map (fun fn => cFun Tryz.prog methNames fn) = some (some f60) := by kernel_rfl
theorem tie61 : (Tryz.prog.funcs[61]?).map (fun fn => cFun Tryz.prog methNames fn) = some (some f61) := by kernel_rfl
theorem tie62 : (Tryz.prog.funcs[62]?).map (fun fn => cFun Tryz.prog methNames fn) = some (some f62) := by kernel_rfl
theorem tie63 : (Tryz.prog.funcs[63]?).map (fun fn => cFun Tryz.prog methNames fn) = some (some f63) := by kernel_rfl
theorem tie64 : (Tryz.prog.funcs[64]?).map (fun fn => cFun Tryz.prog methNames fn) = some (some f64) := by kernel_rfl
theorem tie65 : (Tryz.prog.funcs[65]?).map (fun fn => cFun Tryz.prog methNames fn) = some (some f65) := by kernel_rfl
theorem tie66 : (Tryz.prog.funcs[66]?).map (fun fn => cFun Tryz.prog methNames fn) = some (some f66) := by kernel_rfl
theorem tie67 : (Tryz.prog.funcs[67]?).map (fun fn => cFun Tryz.prog methNames fn) = some (some f67) := by kernel_rfl
theorem tie68 : (Tryz.prog.funcs[68]?).map (fun fn => cFun Tryz.prog methNames fn) = some (some f68) := by kernel_rfl
end Ds.Text
namespace Ds.Text
open Go.Proofs
set_option maxRecDepth 100000
theorem tie69 : (Tryz.prog.funcs[69]?).map (fun fn => cFun Tryz.prog methNames fn) = some (some f69) := by kernel_rfl
theorem tie70 : (Tryz.prog.funcs[70]?).map (fun fn => cFun Tryz.prog methNames fn) = some (some f70) := by kernel_rfl
theorem tie71 : (Tryz.prog.funcs[71]?).map (fun fn => cFun Tryz.prog methNames fn) = some (some f71) := by kernel_rfl
theorem tie72 : (Tryz.prog.funcs[72]?).map (fun fn => cFun Tryz.prog methNames fn) = some (some f72) := by kernel_rfl
theorem tie73 : (Tryz.prog.funcs[73]?).map (fun fn => cFun Tryz.prog methNames fn) = some (some f73) := by kernel_rfl
theorem tie74 : (Tryz.prog.funcs[74]?).map (fun fn => cFun Tryz.prog methNames fn) = some (some f74) := by kernel_rfl
theorem tie75 : (Tryz.prog.funcs[75]?).map (fun fn => cFun Tryz.prog methNames fn) = some (some f75) := by kernel_rfl
theorem tie76 : (Tryz.prog.funcs[76]?).map (fun fn => cFun Tryz.prog methNames fn) = some (some f76) := by kernel_rfl
theorem tie77 : (Tryz.prog.funcs[77]?).map (fun fn => cFun Tryz.prog methNames fn) = some (some f77) := by kernel_rfl
theorem tie78 : (Tryz.prog.funcs[78]?).map (fun fn => cFun Tryz.prog methNames fn) = some (some f78) := by kernel_rfl
theorem tie79 : (Tryz.prog.funcs[79]?).map (fun fn => cFun Tryz.prog methNames fn) = some (some f79) := by kernel_rfl
theorem tie80 : (Tryz.prog.funcs[80]?).map (fun fn => cFun Tryz.prog methNames fn) = some (some f80) := by kernel_rfl
theorem tie81 : (Tryz.prog.funcs[81]?).map (fun fn => cFun Tryz.prog methNames fn) = some (some f81) := by kernel_rfl
theorem tie82 : (Tryz.prog.funcs[82]?).map (fun fn => cFun Tryz.prog methNames fn) = some (some f82) := by kernel_rfl
theorem tie83 : (Tryz.prog.funcs[83]?).map (fun fn => cFun Tryz.prog methNames fn) = some (some f83) := by kernel_rfl
theorem tie84 : (Tryz.prog.funcs[84]?).map (fun fn => cFun Tryz.prog methNames fn) = some (some f84) := by kernel_rfl
theorem tie85 : (Tryz.prog.funcs[85]?).map (fun fn => cFun Tryz.prog methNames fn) = some (some f85) := by kernel_rfl
theorem tie86 : (Tryz.prog.funcs[86]?).map (fun fn => cFun Tryz.prog methNames fn) = some (some f86) := by kernel_rfl
theorem tie87 : (Tryz.prog.funcs[87]?).map (fun fn => cFun Tryz.prog methNames fn) = some (some f87) := by kernel_rfl
theorem tie88 : (Tryz.prog.funcs[88]?).map (fun fn => cFun Tryz.prog methNames fn) = some (some f88) := by kernel_rfl
theorem tie89 : (Tryz.prog.funcs[89]?).map (fun fn => cFun Tryz.prog methNames fn) = some (some f89) := by kernel_rfl
theorem tie90 : (Tryz.prog.funcs[90]?).map (fun fn => cFun Tryz.prog methNames fn) = some (some f90) := by kernel_rfl
theorem tie91 : (Tryz.prog.funcs[91]?).map (fun fn => cFun Tryz.prog methNames fn) = some (some f91) := by kernel_rfl
theorem tie92 : (Tryz.prog.funcs[92]?).map (fun fn => cFun Tryz.prog methNames fn) = some (some f92) := by kernel_rfl
theorem tie93 : (Tryz.prog.funcs[93]?).map (fun fn => cFun Tryz.prog methNames fn) = some (some f93) := by kernel_rfl
theorem tie94 : (Tryz.prog.funcs[94]?).map (fun fn => cFun Tryz.prog methNames fn) = some (some f94) := by kernel_rfl
theorem tie96 : (Tryz.prog.funcs[96]?).map (fun fn => cFun Tryz.prog methNames fn) = some (some f96) := by kernel_rfl
theorem tie97 : (Tryz.prog.funcs[97]?).map (fun fn => cFun Tryz.prog methNames fn) = some (some f97) := by kernel_rfl
theorem tie98 : (Tryz.prog.funcs[98]?).map (fun fn => cFun Tryz.prog methNames fn) = some (some f98) := by kernel_rfl
theorem tie99 : (Tryz.prog.funcs[99]?).map (fun fn => cFun Tryz.prog methNames fn) = some (some f99) := by kernel_rfl
theorem tie100 : (Tryz.prog.funcs[100]?).map (fun fn => cFun Tryz.prog methNames fn) = some (some f100) := by kernel_rfl
theorem tie101 : (Tryz.prog.funcs[101]?).map (fun fn => cFun Tryz.prog methNames fn) = some (some f101) := by kernel_rfl
theorem tie102 : (Tryz.prog.funcs[102]?).map (fun fn => cFun Tryz.prog methNames fn) = some (some f102) := by kernel_rfl
theorem tie103 : (Tryz.prog.funcs[103]?).map (fun fn => cFun Tryz.prog methNames fn) = some (some f103) := by kernel_rfl
theorem tie104 : (Tryz.prog.funcs[104]?).map (fun fn => cFun Tryz.prog methNames fn) = some (some f104) := by kernel_rfl
theorem tie105 : (Tryz.prog.funcs[105]?).map (fun fn => cFun Tryz.prog methNames fn) = some (some f105) := by kernel_rfl
theorem tie106 : (Tryz.prog.funcs[106]?).map (fun fn => cFun Tryz.prog methNames fn) = some (some f106) := by kernel_rfl
theorem tie107 : (Tryz.prog.funcs[107]?).map (fun fn => cFun Tryz.prog methNames fn) = some (some f107) := by kernel_rfl
theorem tie108 : (Tryz.prog.funcs[108]?).map (fun fn => cFun Tryz.prog methNames fn) = some (some f108) := by kernel_rfl
theorem tie109 : (Tryz.prog.funcs[109]?).map (fun fn => cFun Tryz.prog methNames fn) = some (some f109) := by kernel_rfl
theorem tie110 : (Tryz.prog.funcs[110]?).map (fun fn => cFun Tryz.prog methNames fn) = some (some f110) := by kernel_rfl
theorem tie111 : (Tryz.prog.funcs[111]?).map (fun fn => cFun Tryz.prog methNames fn) = some (some f111) := by kernel_rfl
theorem tie112 : (Tryz.prog.funcs[112]?).map (fun fn => cFun Tryz.prog methNames fn) = some (some f112) := by kernel_rfl
theorem tie113 : (Tryz.prog.funcs[113]?).map (fun fn => cFun Tryz.prog methNames fn) = some (some f113) := by kernel_rfl
theorem tie114 : (Tryz.prog.funcs[114]?).map (fun fn => cFun Tryz.prog methNames fn) = some (some f114) := by kernel_rfl
theorem tie115 : (Tryz.prog.funcs[115]?).map (fun fn => cFun Tryz.prog methNames fn) = some (some f115) := by kernel_rfl
theorem tie116 : (Tryz.prog.funcs[116]?).map (fun fn => cFun Tryz.prog methNames fn) = some (some f116) := by kernel_rfl
theorem tie117 : (Tryz.prog.funcs[117]?).map (fun fn => cFun Tryz.prog methNames fn) = some (some f117) := by kernel_rfl
theorem tie118 : (Tryz.prog.funcs[118]?).map (fun fn => cFun Tryz.prog methNames fn) = some (some f118) := by kernel_rfl
theorem tie119 : (Tryz.prog.funcs[119]?).map (fun fn => cFun Tryz.prog methNames fn) = some (some f119) := by kernel_rfl
end Ds.Text
namespace Ds.Text
open Go.Proofs
set_option maxRecDepth 100000
theorem tie120 : (Tryz.prog.funcs[120]?).map (fun fn => cFun Tryz.prog methNames fn) = some (some f120) := by kernel_rfl
theorem tie121 : (Tryz.prog.funcs[121]?).map (fun fn => cFun Tryz.prog methNames fn) = some (some f121) := by kernel_rfl
theorem tie122 : (Tryz.prog.funcs[122]?).map (fun fn => cFun Tryz.prog methNames fn) = some (some f122) := by kernel_rfl
theorem tie123 : (Tryz.prog.funcs[123]?).map (fun fn => cFun Tryz.prog methNames fn) = some (some f123) := by kernel_rfl
theorem tie124 : (Tryz.prog.funcs[124]?).map (fun fn => cFun Tryz.prog methNames fn) = some (some f124) := by kernel_rfl
theorem tie125 : (Tryz.prog.funcs[125]?).map (fun fn => cFun Tryz.prog methNames fn) = some (some f125) := by kernel_rfl
theorem tie126 : (Tryz.prog.funcs[126]?).map (fun fn => cFun Tryz.prog methNames fn) = some (some f126) := by kernel_rfl
theorem tie127 : (Tryz.prog.funcs[127]?).map (fun fn => cFun Tryz.prog methNames fn) = some (some f127) := by kernel_rfl
theorem tie128 : (Tryz.prog.funcs[128]?).map (fun fn => cFun Tryz.prog methNames fn) = some (some f128) := by kernel_rfl
theorem tie129 : (Tryz.prog.funcs[129]?).map (fun fn => cFun Tryz.prog methNames fn) = some (some f129) := by kernel_rfl
theorem tie130 : (Tryz.prog.funcs[130]?).map (fun fn => cFun Tryz.prog methNames fn) = some (some f130) := by kernel_rfl
theorem tie131 : (Tryz.prog.funcs[131]?).map (fun fn => cFun Tryz.prog methNames fn) = some (some f131) := by kernel_rfl
theorem tie132 : (Tryz.prog.funcs[132]?).map (fun fn => cFun Tryz.prog methNames fn) = some (some f132) := by kernel_rfl
theorem tie133 : (Tryz.prog.funcs[133]?).map (fun fn => cFun Tryz.prog methNames fn) = some (some f133) := by kernel_rfl
theorem tie134 : (Tryz.prog.funcs[134]?).map (fun fn => cFun Tryz.prog methNames fn) = some (some f134) := by kernel_rfl
theorem tie135 : (Tryz.prog.funcs[135]?).map (fun fn => cFun Tryz.prog methNames fn) = some (some f135) := by kernel_rfl
theorem tie136 : (Tryz.prog.funcs[136]?).map (fun fn => cFun Tryz.prog methNames fn) = some (some f136) := by kernel_rfl
theorem tie137 : (Tryz.prog.funcs[137]?).map (fun fn => cFun Tryz.prog methNames fn) = some (some f137) := by kernel_rfl
theorem tie138 : (Tryz.prog.funcs[138]?).map (fun fn => cFun Tryz.prog methNames fn) = some (some f138) := by kernel_rfl
theorem tie139 : (Tryz.prog.funcs[139]?).map (fun fn => cFun Tryz.prog methNames fn) = some (some f139) := by kernel_rfl
theorem tie140 : (Tryz.prog.funcs[140]?).map (fun fn => cFun Tryz.prog methNames fn) = some (some f140) := by kernel_rfl
theorem tie141 : (Tryz.prog.funcs[141]?).map (fun fn => cFun Tryz.prog methNames fn) = some (some f141) := by kernel_rfl
theorem tie142 : (Tryz.prog.funcs[142]?).map (fun fn => cFun Tryz.prog methNames fn) = some (some f142) := by kernel_rfl
theorem tie143 : (Tryz.prog.funcs[143]?).map (fun fn => cFun Tryz.prog methNames fn) = some (some f143) := by kernel_rfl
theorem tie144 : (Tryz.prog.funcs[144]?).map (fun fn => cFun Tryz.prog methNames fn) = some (some f144) := by kernel_rfl
theorem tie145 : (Tryz.prog.funcs[145]?).map (fun fn => cFun Tryz.prog methNames fn) = some (some f145) := by kernel_rfl
theorem tie146 : (Tryz.prog.funcs[146]?).map (fun fn => cFun Tryz.prog methNames fn) = some (some f146) := by kernel_rfl
theorem tie147 : (Tryz.prog.funcs[147]?).map (fun fn => cFun Tryz.prog methNames fn) = some (some f147) := by kernel_rfl
theorem tie148 : (Tryz.prog.funcs[148]?).map (fun fn => cFun Tryz.prog methNames fn) = some (some f148) := by kernel_rfl
theorem tie149 : (Tryz.prog.funcs[149]?).map (fun fn => cFun Tryz.prog methNames fn) = some (some f149) := by kernel_rfl
theorem tie150 : (Tryz.prog.funcs[150]?).map (fun fn => cFun Tryz.prog methNames fn) = some (some f150) := by kernel_rfl
theorem tie151 : (Tryz.prog.funcs[151]?).map (fun fn => cFun Tryz.prog methNames fn) = some (some f151) := by kernel_rfl
theorem tie152 : (Tryz.prog.funcs[152]?).map (fun fn => cFun Tryz.prog methNames fn) = some (some f152) := by kernel_rfl
theorem tie153 : (Tryz.prog.funcs[153]?).map (fun fn => cFun Tryz.prog methNames fn) = some (some f153) := by kernel_rfl
theorem tie154 : (Tryz.prog.funcs[154]?).map (fun fn => cFun Tryz.prog methNames fn) = some (some f154) := by kernel_rfl
theorem tie155 : (Tryz.prog.funcs[155]?).map (fun fn => cFun Tryz.prog methNames fn) = some (some f155) := by kernel_rfl
theorem tie156 : (Tryz.prog.funcs[156]?).map (fun fn => cFun Tryz.prog methNames fn) = some (some f156) := by kernel_rfl
theorem tie157 : (Tryz.prog.funcs[157]?).map (fun fn => cFun Tryz.prog methNames fn) = some (some f157) := by kernel_rfl
theorem tie158 : (Tryz.prog.funcs[158]?).map (fun fn => cFun Tryz.prog methNames fn) = some (some f158) := by kernel_rfl
theorem tie159 : (Tryz.prog.funcs[159]?).map (fun fn => cFun Tryz.prog methNames fn) = some (some f159) := by kernel_rfl
theorem tie160 : (Tryz.prog.funcs[160]?).map (fun fn => cFun Tryz.prog methNames fn) = some (some f160) := by kernel_rfl
theorem tie161 : (Tryz.prog.funcs[161]?).map (fun fn => cFun Tryz.prog methNames fn) = some (some f161) := by kernel_rfl
theorem tie162 : (Tryz.prog.funcs[162]?).map (fun fn => cFun Tryz.prog methNames fn) = some (some f162) := by kernel_rfl
end Ds.Text
