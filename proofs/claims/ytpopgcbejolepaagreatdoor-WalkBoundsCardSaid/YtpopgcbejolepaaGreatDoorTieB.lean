/- The deterministic evaluator D and what is proved with it, part TieB of the claim on YtpopgcbejolepaaGreatDoor. -/
import Derived.Test.YtpopgcbejolepaaGreatDoorCoreA
import Derived.Test.YtpopgcbejolepaaGreatDoorTextB
import Derived.KernelRfl
import Derived.Test.YtpopgcbejolepaaGreatDoorProg
namespace Ds.Text
open Go.Proofs
set_option maxRecDepth 100000
theorem tie166 : (Tryz.prog.funcs[166]?).map (fun fn => cFun Tryz.prog methNames fn) = some (some f166) := by kernel_rfl
theorem tie167 : (Tryz.prog.funcs[167]?).map (fun fn => cFun Tryz.prog methNames fn) = some (some f167) := by kernel_rfl
theorem tie168 : (Tryz.prog.funcs[168]?).map (fun fn => cFun Tryz.prog methNames fn) = some (some f168) := by kernel_rfl
theorem tie169 : (Tryz.prog.funcs[169]?).map (fun fn => cFun Tryz.prog methNames fn) = some (some f169) := by kernel_rfl
theorem tie170 : (Tryz.prog.funcs[170]?).map (fun fn => cFun Tryz.prog methNames fn) = some (some f170) := by kernel_rfl
theorem tie171 : (Tryz.prog.funcs[171]?).map (fun fn => cFun Tryz.prog methNames fn) = some (some f171) := by kernel_rfl
theorem tie172 : (Tryz.prog.funcs[172]?).map (fun fn => cFun Tryz.prog methNames fn) = some (some f172) := by kernel_rfl
theorem tie173 : (Tryz.prog.funcs[173]?).map (fun fn => cFun Tryz.prog methNames fn) = some (some f173) := by kernel_rfl
theorem tie174 : (Tryz.prog.funcs[174]?).map (fun fn => cFun Tryz.prog methNames fn) = some (some f174) := by kernel_rfl
theorem tie175 : (Tryz.prog.funcs[175]?).map (fun fn => cFun Tryz.prog methNames fn) = some (some f175) := by kernel_rfl
theorem tie176 : (Tryz.prog.funcs[176]?).map (fun fn => cFun Tryz.prog methNames fn) = some (some f176) := by kernel_rfl
theorem tie177 : (Tryz.prog.funcs[177]?).map (fun fn => cFun Tryz.prog methNames fn) = some (some f177) := by kernel_rfl
theorem tie178 : (Tryz.prog.funcs[178]?).map (fun fn => cFun Tryz.prog methNames fn) = some (some f178) := by kernel_rfl
theorem tie179 : (Tryz.prog.funcs[179]?).map (fun fn => cFun Tryz.prog methNames fn) = some (some f179) := by kernel_rfl
theorem tie180 : (Tryz.prog.funcs[180]?).map (fun fn => cFun Tryz.prog methNames fn) = some (some f180) := by kernel_rfl
theorem tie181 : (Tryz.prog.funcs[181]?).map (fun fn => cFun Tryz.prog methNames fn) = some (some f181) := by kernel_rfl
theorem tie182 : (Tryz.prog.funcs[182]?).map (fun fn => cFun Tryz.prog methNames fn) = some (some f182) := by kernel_rfl
theorem tie183 : (Tryz.prog.funcs[183]?).map (fun fn => cFun Tryz.prog methNames fn) = some (some f183) := by kernel_rfl
theorem tie184 : (Tryz.prog.funcs[184]?).map (fun fn => cFun Tryz.prog methNames fn) = some (some f184) := by kernel_rfl
theorem tie185 : (Tryz.prog.funcs[185]?).map (fun fn => cFun Tryz.prog methNames fn) = some (some f185) := by kernel_rfl
theorem tie186 : (Tryz.prog.funcs[186]?).map (fun fn => cFun Tryz.prog methNames fn) = some (some f186) := by kernel_rfl
theorem tie187 : (Tryz.prog.funcs[187]?).map (fun fn => cFun Tryz.prog methNames fn) = some (some f187) := by kernel_rfl
theorem tie189 : (Tryz.prog.funcs[189]?).map (fun fn => cFun Tryz.prog methNames fn) = some (some f189) := by kernel_rfl
theorem tie190 : (Tryz.prog.funcs[190]?).map (fun fn => cFun Tryz.prog methNames fn) = some (some f190) := by kernel_rfl
theorem tie191 : (Tryz.prog.funcs[191]?).map (fun fn => cFun Tryz.prog methNames fn) = some (some f191) := by kernel_rfl
theorem tie192 : (Tryz.prog.funcs[192]?).map (fun fn => cFun Tryz.prog methNames fn) = some (some f192) := by kernel_rfl
theorem tie193 : (Tryz.prog.funcs[193]?).map (fun fn => cFun Tryz.prog methNames fn) = some (some f193) := by kernel_rfl
theorem tie194 : (Tryz.prog.funcs[194]?).map (fun fn => cFun Tryz.prog methNames fn) = some (some f194) := by kernel_rfl
theorem tie195 : (Tryz.prog.funcs[195]?).map (fun fn => cFun Tryz.prog methNames fn) = some (some f195) := by kernel_rfl
theorem tie196 : (Tryz.prog.funcs[196]?).map (fun fn => cFun Tryz.prog methNames fn) = some (some f196) := by kernel_rfl
theorem tie197 : (Tryz.prog.funcs[197]?).map (fun fn => cFun Tryz.prog methNames fn) = some (some f197) := by kernel_rfl
theorem tie198 : (Tryz.prog.funcs[198]?).map (fun fn => cFun Tryz.prog methNames fn) = some (some f198) := by kernel_rfl
theorem tie199 : (Tryz.prog.funcs[199]?).map (fun fn => cFun Tryz.prog methNames fn) = some (some f199) := by kernel_rfl
theorem tie200 : (Tryz.prog.funcs[200]?).map (fun fn => cFun Tryz.prog methNames fn) = some (some f200) := by kernel_rfl
theorem tie201 : (Tryz.prog.funcs[201]?).map (fun fn => cFun Tryz.prog methNames fn) = some (some f201) := by kernel_rfl
theorem tie202 : (Tryz.prog.funcs[202]?).map (fun fn => cFun Tryz.prog methNames fn) = some (some f202) := by kernel_rfl
theorem tie203 : (Tryz.prog.funcs[203]?).map (fun fn => cFun Tryz.prog methNames fn) = some (some f203) := by kernel_rfl
theorem tie204 : (Tryz.prog.funcs[204]?).map (fun fn => cFun Tryz.prog methNames fn) = some (some f204) := by kernel_rfl
theorem tie205 : (Tryz.prog.funcs[205]?).map (fun fn => cFun Tryz.prog methNames fn) = some (some f205) := by kernel_rfl
theorem tie206 : (Tryz.prog.funcs[206]?).map (fun fn => cFun Tryz.prog methNames fn) = some (some f206) := by kernel_rfl
theorem tie207 : (Tryz.prog.funcs[207]?).map (fun fn => cFun Tryz.prog methNames fn) = some (some f207) := by kernel_rfl
theorem tie208 : (Tryz.prog.funcs[208]?).map (fun fn => cFun Tryz.prog methNames fn) = some (some f208) := by kernel_rfl
theorem tie209 : (Tryz.prog.funcs[209]?).map (fun fn => cFun Tryz.prog methNames fn) = some (some f209) := by kernel_rfl
theorem tie210 : (Tryz.prog.funcs[210]?).map (fun fn => cFun Tryz.prog methNames fn) = some (some f210) := by kernel_rfl
theorem tie211 : (Tryz.prog.funcs[211]?).map (fun fn => cFun Tryz.prog methNames fn) = some (some f211) := by kernel_rfl
theorem tie212 : (Tryz.prog.funcs[212]?).map (fun fn => cFun Tryz.prog methNames fn) = some (some f212) := by kernel_rfl
theorem tie213 : (Tryz.prog.funcs[213]?).map (fun fn => cFun Tryz.prog methNames fn) = some (some f213) := by kernel_rfl
theorem tie214 : (Tryz.prog.funcs[214]?).map (fun fn => cFun Tryz.prog methNames fn) = some (some f214) := by kernel_rfl
theorem tie215 : (Tryz.prog.funcs[215]?).map (fun fn => cFun Tryz.prog methNames fn) = some (some f215) := by kernel_rfl
theorem tie216 : (Tryz.prog.funcs[216]?).map (fun fn => cFun Tryz.prog methNames fn) = some (some f216) := by kernel_rfl
theorem tie217 : (Tryz.prog.funcs[217]?).map (fun fn => cFun Tryz.prog methNames fn) = some (some f217) := by kernel_rfl
theorem tie218 : (Tryz.prog.funcs[218]?).map (fun fn => cFun Tryz.prog methNames fn) = some (some f218) := by kernel_rfl
theorem tie219 : (Tryz.prog.funcs[219]?).map (fun fn => cFun Tryz.prog methNames fn) = some (some f219) := by kernel_rfl
theorem tie220 : (Tryz.prog.funcs[220]?).map (fun fn => cFun Tryz.prog methNames fn) = some (some f220) := by kernel_rfl
theorem tie221 : (Tryz.prog.funcs[221]?).map (fun fn => cFun Tryz.prog methNames fn) = some (some f221) := by kernel_rfl
theorem tie223 : (Tryz.prog.funcs[223]?).map (fun fn => cFun Tryz.prog methNames fn) = some (some f223) := by kernel_rfl
theorem tie224 : (Tryz.prog.funcs[224]?).map (fun fn => cFun Tryz.prog methNames fn) = some (some f224) := by kernel_rfl
theorem tie225 : (Tryz.prog.funcs[225]?).map (fun fn => cFun Tryz.prog methNames fn) = some (some f225) := by kernel_rfl
theorem tie226 : (Tryz.prog.funcs[226]?).map (fun fn => cFun Tryz.prog methNames fn) = some (some f226) := by kernel_rfl
theorem tie227 : (Tryz.prog.funcs[227]?).map (fun fn => cFun Tryz.prog methNames fn) = some (some f227) := by kernel_rfl
theorem tie228 : (Tryz.prog.funcs[228]?).map (fun fn => cFun Tryz.prog methNames fn) = some (some f228) := by kernel_rfl
theorem tie229 : (Tryz.prog.funcs[229]?).map (fun fn => cFun Tryz.prog methNames fn) = some (some f229) := by kernel_rfl
theorem tie230 : (Tryz.prog.funcs[230]?).map (fun fn => cFun Tryz.prog methNames fn) = some (some f230) := by kernel_rfl
theorem tie231 : (Tryz.prog.funcs[231]?).map (fun fn => cFun Tryz.prog methNames fn) = some (some f231) := by kernel_rfl
theorem tie232 : (Tryz.prog.funcs[232]?).map (fun fn => cFun Tryz.prog methNames fn) = some (some f232) := by kernel_rfl
theorem tie233 : (Tryz.prog.funcs[233]?).map (fun fn => cFun Tryz.prog methNames fn) = some (some f233) := by kernel_rfl
end Ds.Text
namespace Ds.Text
open Go.Proofs
set_option maxRecDepth 100000
theorem tie234 : (Tryz.prog.funcs[234]?).map (fun fn => cFun Tryz.prog methNames fn) = some (some f234) := by kernel_rfl
theorem tie235 : (Tryz.prog.funcs[235]?).map (fun fn => cFun Tryz.prog methNames fn) = some (some f235) := by kernel_rfl
theorem tie236 : (Tryz.prog.funcs[236]?).map (fun fn => cFun Tryz.prog methNames fn) = some (some f236) := by kernel_rfl
theorem tie237 : (Tryz.prog.funcs[237]?).map (fun fn => cFun Tryz.prog methNames fn) = some (some f237) := by kernel_rfl
theorem tie238 : (Tryz.prog.funcs[238]?).map (fun fn => cFun Tryz.prog methNames fn) = some (some f238) := by kernel_rfl
theorem tie239 : (Tryz.prog.funcs[239]?).map (fun fn => cFun Tryz.prog methNames fn) = some (some f239) := by kernel_rfl
theorem tie240 : (Tryz.prog.funcs[240]?).map (fun fn => cFun Tryz.prog methNames fn) = some (some f240) := by kernel_rfl
theorem tie245 : (Tryz.prog.funcs[245]?).map (fun fn => cFun Tryz.prog methNames fn) = some (some f245) := by kernel_rfl
theorem tie246 : (Tryz.prog.funcs[246]?).map (fun fn => cFun Tryz.prog methNames fn) = some (some f246) := by kernel_rfl
theorem tie247 : (Tryz.prog.funcs[247]?).map (fun fn => cFun Tryz.prog methNames fn) = some (some f247) := by kernel_rfl
theorem tie248 : (Tryz.prog.funcs[248]?).map (fun fn => cFun Tryz.prog methNames fn) = some (some f248) := by kernel_rfl
theorem tie249 : (Tryz.prog.funcs[249]?).map (fun fn => cFun Tryz.prog methNames fn) = some (some f249) := by kernel_rfl
theorem tie250 : (Tryz.prog.funcs[250]?).map (fun fn => cFun Tryz.prog methNames fn) = some (some f250) := by kernel_rfl
theorem tie251 : (Tryz.prog.funcs[251]?).map (fun fn => cFun Tryz.prog methNames fn) = some (some f251) := by kernel_rfl
theorem tie252 : (Tryz.prog.funcs[252]?).map (fun fn => cFun Tryz.prog methNames fn) = some (some f252) := by kernel_rfl
theorem tie253 : (Tryz.prog.funcs[253]?).map (fun fn => cFun Tryz.prog methNames fn) = some (some f253) := by kernel_rfl
theorem tie254 : (Tryz.prog.funcs[254]?).map (fun fn => cFun Tryz.prog methNames fn) = some (some f254) := by kernel_rfl
theorem tie255 : (Tryz.prog.funcs[255]?).map (fun fn => cFun Tryz.prog methNames fn) = some (some f255) := by kernel_rfl
theorem tie260 : (Tryz.prog.funcs[260]?).map (fun fn => cFun Tryz.prog methNames fn) = some (some f260) := by kernel_rfl
theorem tie261 : (Tryz.prog.funcs[261]?).map (fun fn => cFun Tryz.prog methNames fn) = some (some f261) := by kernel_rfl
theorem tie262 : (Tryz.prog.funcs[262]?).map (fun fn => cFun Tryz.prog methNames fn) = some (some f262) := by kernel_rfl
theorem tie265 : (Tryz.prog.funcs[265]?).map (fun fn => cFun Tryz.prog methNames fn) = some (some f265) := by kernel_rfl
theorem tie266 : (Tryz.prog.funcs[266]?).map (fun fn => cFun Tryz.prog methNames fn) = some (some f266) := by kernel_rfl
theorem tie283 : (Tryz.prog.funcs[283]?).map (fun fn => cFun Tryz.prog methNames fn) = some (some f283) := by kernel_rfl
theorem tie284 : (Tryz.prog.funcs[284]?).map (fun fn => cFun Tryz.prog methNames fn) = some (some f284) := by kernel_rfl
theorem tie285 : (Tryz.prog.funcs[285]?).map (fun fn => cFun Tryz.prog methNames fn) = some (some f285) := by kernel_rfl
theorem tie286 : (Tryz.prog.funcs[286]?).map (fun fn => cFun Tryz.prog methNames fn) = some (some f286) := by kernel_rfl
theorem tie287 : (Tryz.prog.funcs[287]?).map (fun fn => cFun Tryz.prog methNames fn) = some (some f287) := by kernel_rfl
theorem tie288 : (Tryz.prog.funcs[288]?).map (fun fn => cFun Tryz.prog methNames fn) = some (some f288) := by kernel_rfl
theorem tie289 : (Tryz.prog.funcs[289]?).map (fun fn => cFun Tryz.prog methNames fn) = some (some f289) := by kernel_rfl
theorem tie290 : (Tryz.prog.funcs[290]?).map (fun fn => cFun Tryz.prog methNames fn) = some (some f290) := by kernel_rfl
theorem tie291 : (Tryz.prog.funcs[291]?).map (fun fn => cFun Tryz.prog methNames fn) = some (some f291) := by kernel_rfl
theorem tie292 : (Tryz.prog.funcs[292]?).map (fun fn => cFun Tryz.prog methNames fn) = some (some f292) := by kernel_rfl
theorem tie293 : (Tryz.prog.funcs[293]?).map (fun fn => cFun Tryz.prog methNames fn) = some (some f293) := by kernel_rfl
theorem tie294 : (Tryz.prog.funcs[294]?).map (fun fn => cFun Tryz.prog methNames fn) = some (some f294) := by kernel_rfl
theorem tie295 : (Tryz.prog.funcs[295]?).map (fun fn => cFun Tryz.prog methNames fn) = some (some f295) := by kernel_rfl
theorem tie296 : (Tryz.prog.funcs[296]?).map (fun fn => cFun Tryz.prog methNames fn) = some (some f296) := by kernel_rfl
theorem tie297 : (Tryz.prog.funcs[297]?).map (fun fn => cFun Tryz.prog methNames fn) = some (some f297) := by kernel_rfl
theorem tie298 : (Tryz.prog.funcs[298]?).map (fun fn => cFun Tryz.prog methNames fn) = some (some f298) := by kernel_rfl
theorem tie299 : (Tryz.prog.funcs[299]?).map (fun fn => cFun Tryz.prog methNames fn) = some (some f299) := by kernel_rfl
theorem tie300 : (Tryz.prog.funcs[300]?).map (fun fn => cFun Tryz.prog methNames fn) = some (some f300) := by kernel_rfl
theorem tie301 : (Tryz.prog.funcs[301]?).map (fun fn => cFun Tryz.prog methNames fn) = some (some f301) := by kernel_rfl
theorem tie302 : (Tryz.prog.funcs[302]?).map (fun fn => cFun Tryz.prog methNames fn) = some (some f302) := by kernel_rfl
theorem tie303 : (Tryz.prog.funcs[303]?).map (fun fn => cFun Tryz.prog methNames fn) = some (some f303) := by kernel_rfl
theorem tie304 : (Tryz.prog.funcs[304]?).map (fun fn => cFun Tryz.prog methNames fn) = some (some f304) := by kernel_rfl
theorem tie305 : (Tryz.prog.funcs[305]?).map (fun fn => cFun Tryz.prog methNames fn) = some (some f305) := by kernel_rfl
theorem tie306 : (Tryz.prog.funcs[306]?).map (fun fn => cFun Tryz.prog methNames fn) = some (some f306) := by kernel_rfl
theorem tie307 : (Tryz.prog.funcs[307]?).map (fun fn => cFun Tryz.prog methNames fn) = some (some f307) := by kernel_rfl
theorem tie308 : (Tryz.prog.funcs[308]?).map (fun fn => cFun Tryz.prog methNames fn) = some (some f308) := by kernel_rfl
theorem tie309 : (Tryz.prog.funcs[309]?).map (fun fn => cFun Tryz.prog methNames fn) = some (some f309) := by kernel_rfl
theorem tie310 : (Tryz.prog.funcs[310]?).map (fun fn => cFun Tryz.prog methNames fn) = some (some f310) := by kernel_rfl
theorem tie311 : (Tryz.prog.funcs[311]?).map (fun fn => cFun Tryz.prog methNames fn) = some (some f311) := by kernel_rfl
theorem tie312 : (Tryz.prog.funcs[312]?).map (fun fn => cFun Tryz.prog methNames fn) = some (some f312) := by kernel_rfl
theorem tie313 : (Tryz.prog.funcs[313]?).map (fun fn => cFun Tryz.prog methNames fn) = some (some f313) := by kernel_rfl
theorem tie314 : (Tryz.prog.funcs[314]?).map (fun fn => cFun Tryz.prog methNames fn) = some (some f314) := by kernel_rfl
theorem tie315 : (Tryz.prog.funcs[315]?).map (fun fn => cFun Tryz.prog methNames fn) = some (some f315) := by kernel_rfl
theorem tie316 : (Tryz.prog.funcs[316]?).map (fun fn => cFun Tryz.prog methNames fn) = some (some f316) := by kernel_rfl
end Ds.Text
