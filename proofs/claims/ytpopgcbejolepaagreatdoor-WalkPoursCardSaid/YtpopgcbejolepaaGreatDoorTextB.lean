/- The deterministic evaluator D and what is proved with it, part TextB of the claim on YtpopgcbejolepaaGreatDoor. -/
import Derived.Test.YtpopgcbejolepaaGreatDoorCoreA
import Derived.Test.YtpopgcbejolepaaGreatDoorTextA
set_option maxRecDepth 100000
noncomputable section
namespace Ds.Text
open Ds
def f163 : Fun := .code [.t p4] (sq [.q p4 (.mv (.c .nils))]
 (sq [.q p5 (.mv (.c .nils))]
 (.seq (sq [mq p8 q1,.q p9 (.len q8),.q p10 (.mv (ci 0))]
 (.block 0 (.loop (sq [.q p11 (.cmp .lt q10 q9)]
 (.seq (.cond q11 (.skip) (.exit 0))
 (.seq (.block 1 (sq [.q p12 (.ixl 7 q8 q10),.q p13 (.ldn q12 7),ls p7 (.alloc [o0,e0,o0,o0,e0,o0,.nils]),ln (.st q7 q13 7)]
 (.reg [mq p14 q5,mq p15 q0,.q p16 (.ldn q7 7),ks p17 (.fn 112 [q15,q16]),ls p18 (.bsl 1 [o0] [(0,1,q17)]),ls p19 (.app 1 8 q14 q18),mq p5 q19])))
 (.reg [.q p20 (.ari .add q10 (ci 1)),mq p10 q20])))))))
 (sq [mq p21 q5,mq p4 q21]
 (.ret)))))
def f164 : Fun := .code [.t p4] (sq [ls p3 (.box q1),.q p4 (.mv (ci 0))]
 (.seq (sq [fq p15 q3 1,lq p16 q15]
 (.block 0 (sq [.q p18 (ef .text q16 (.c (S [109,97,107,101]))),mq p17 q18]
 (.cond q17 (sq [mq p19 q0,.q p20 (.ldn q3 7),ks p21 (.fn 204 [q19,q20]),mq p4 q21]
 (.ret)) (sq [.q p23 (ef .text q16 (.c (S [110,101,119]))),mq p22 q23]
 (.cond q22 (sq [mq p24 q0,fq p25 q3 4,lq p26 q25,ks p27 (.fn 46 [q24,q26]),mq p5 q27]
 (sq [mq p28 q0,mq p29 q5,mq p30 q0,fq p31 q3 4,lq p32 q31,.q p33 (.sls q32 (some (ci 1)) none),ks p34 (.fn 205 [q30,q33]),.q p35 (.build [o0,o0,o0,o0,o0,.nils] [(0,1,(ci 28)),(1,1,q29),(2,1,q34)]),ks p36 (.fn 48 [q28,q35])]
 (sq [mq p37 q5,mq p4 q37]
 (.ret)))) (sq [.q p39 (ef .text q16 (.c (S [114,101,99,111,118,101,114]))),mq p38 q39]
 (.cond q38 (sq [mq p40 q0,ks p41 (.fn 46 [q40,(.c (S [115,116,114,105,110,103]))]),mq p6 q41]
 (sq [mq p42 q0,mq p43 q6,.q p44 (.build [o0,o0,o0,o0,o0,.nils] [(0,1,(ci 55)),(1,1,q43)]),ks p45 (.fn 48 [q42,q44])]
 (sq [mq p46 q6,mq p4 q46]
 (.ret)))) (.skip)))))))))
 (sq [mq p47 q0,fq p48 q3 6,lq p49 q48,ks p50 (.fn 163 [q47,q49]),mq p7 q50]
 (.seq (sq [fq p51 q3 1,lq p52 q51]
 (.block 1 (sq [.q p54 (ef .text q52 (.c (S [97,112,112,101,110,100]))),mq p53 q54]
 (.cond q53 (sq [mq p55 q0,fq p56 q3 4,lq p57 q56,ks p58 (.fn 46 [q55,q57]),mq p8 q58]
 (.seq (.regc [mq p59 q0,mq p60 q8,mq p61 q7,.q p62 (.ixl 1 q61 (ci 0)),.qr p63 (.ld q62) 0 1,fq p64 q3 4,lq p65 q64,.q p66 (.sls q65 (some (ci 2)) none),ks p67 (.fn 206 [q66]),mq p68 q7,.qr p69 (.sll 1 q68 (some (ci 1)) none none) 0 1,.q p70 (.build [o0,o0,o0,o0,o0,.nils] [(0,1,(ci 39)),(1,1,q60),(2,1,q63),(3,1,q67),(5,1,q69)]),ks p71 (.fn 48 [q59,q70])])
 (sq [mq p72 q8,mq p4 q72]
 (.ret)))) (.seq (sq [.q p74 (ef .text q52 (.c (S [108,101,110]))),mq p73 q74]
 (.cond q73 (.skip) (.reg [.q p75 (ef .text q52 (.c (S [99,97,112]))),mq p73 q75])))
 (.cond q73 (sq [.q p9 (.mv (ci 40))]
 (.seq (sq [fq p76 q3 6,lq p77 q76,.q p78 (.ixl 7 q77 (ci 0)),fq p79 q78 4,lq p80 q79,mq p10 q80]
 (.block 2 (sq [mq p82 q10,.q p83 (.ixs q82 (ci 0)),.q p84 (ef .num q83 (.c (B 91))),mq p81 q84]
 (.cond q81 (.reg [.q p9 (.mv (ci 41))]) (sq [mq p86 q10,.q p87 (.ixs q86 (ci 0)),.q p88 (ef .num q87 (.c (B 99))),mq p85 q88]
 (.cond q85 (.reg [.q p9 (.mv (ci 43))]) (.skip)))))))
 (.seq (sq [fq p89 q3 1,lq p90 q89,.q p91 (ef .text q90 (.c (S [99,97,112])))]
 (.cond q91 (.reg [mq p92 q9,.q p93 (.ari .add q92 (ci 1)),mq p9 q93]) (.skip)))
 (sq [mq p94 q0,ks p95 (.fn 46 [q94,(.c (S [105,110,116]))]),mq p11 q95]
 (sq [mq p96 q0,mq p97 q9,mq p98 q11,mq p99 q7,.q p100 (.ixl 1 q99 (ci 0)),lq p101 q100,.q p102 (.build [o0,o0,o0,o0,o0,.nils] [(0,1,q97),(1,1,q98),(2,1,q101)]),ks p103 (.fn 48 [q96,q102])]
 (sq [mq p104 q11,mq p4 q104]
 (.ret))))))) (sq [.q p106 (ef .text q52 (.c (S [99,108,111,115,101]))),mq p105 q106]
 (.cond q105 (.reg [mq p107 q0,mq p108 q7,.q p109 (.ixl 1 q108 (ci 0)),lq p110 q109,.q p111 (.build [o0,o0,o0,o0,o0,.nils] [(0,1,(ci 51)),(1,1,q110)]),ks p112 (.fn 48 [q107,q111])]) (sq [.q p114 (ef .text q52 (.c (S [112,97,110,105,99]))),mq p113 q114]
 (.cond q113 (.reg [mq p115 q0,mq p116 q7,.q p117 (.ixl 1 q116 (ci 0)),lq p118 q117,.q p119 (.build [o0,o0,o0,o0,o0,.nils] [(0,1,(ci 54)),(1,1,q118)]),ks p120 (.fn 48 [q115,q119])]) (sq [.q p122 (ef .text q52 (.c (S [112,114,105,110,116]))),mq p121 q122]
 (.cond q121 (sq [mq p123 q7,.q p124 (.len q123),.q p125 (.mv (ci 0))]
 (.block 3 (.loop (sq [.q p126 (.cmp .lt q125 q124)]
 (.seq (.cond q126 (.skip) (.exit 3))
 (.seq (.block 4 (sq [mq p127 q125,.q p128 (.ixl 1 q123 q125),lq p129 q128,mq p12 q127,mq p13 q129]
 (sq [ls p130 (.mkmap),ln (.mup true q130 (.c (S [98,111,111,108])) (ci 1)),ln (.mup true q130 (.c (S [115,116,114,105,110,103])) (ci 2)),mq p131 q130,fq p132 q3 6,lq p133 q132,mq p134 q12,.q p135 (.ixl 7 q133 q134),fq p136 q135 4,lq p137 q136,.q p138 (.look true q131 q137 o0 false),mq p14 q138]
 (.reg [mq p139 q0,mq p140 q13,mq p141 q14,.q p142 (.build [o0,o0,o0,o0,o0,.nils] [(0,1,(ci 53)),(1,1,q140),(2,1,q141)]),ks p143 (.fn 48 [q139,q142])]))))
 (.reg [.q p144 (.ari .add q125 (ci 1)),mq p125 q144]))))))) (.skip)))))))))))))
 (sq [.q p4 (.mv (.c (.int .i64 (.lit (.negSucc 0)))))]
 (.ret))))))
def f165 : Fun := .code [.t p4] (sq [ls p3 (.box q1),.q p4 (.mv (ci 0))]
 (.seq (sq [fq p21 q3 0,lq p22 q21]
 (.block 0 (sq [.q p24 (ef .num q22 (ci 45)),mq p23 q24]
 (.cond q23 (sq [mq p25 q0,fq p26 q3 6,lq p27 q26,ks p28 (.fn 163 [q25,q27]),mq p5 q28]
 (sq [.q p6 (.mv (ci 34))]
 (.seq (sq [fq p29 q3 6,lq p30 q29,.q p31 (.ixl 7 q30 (ci 0)),fq p32 q31 4,lq p33 q32,.q p34 (ef .text q33 (.c (S [115,116,114,105,110,103])))]
 (.cond q34 (.reg [.q p6 (.mv (ci 36))]) (.skip)))
 (sq [mq p35 q0,mq p36 q6,fq p37 q3 4,lq p38 q37,mq p39 q5,.q p40 (.ixl 1 q39 (ci 0)),lq p41 q40,mq p42 q5,.q p43 (.ixl 1 q42 (ci 1)),lq p44 q43,ks p45 (.fn 167 [q35,q36,q38,q41,q44]),mq p4 q45]
 (.ret))))) (sq [.q p47 (ef .num q22 (ci 46)),mq p46 q47]
 (.cond q46 (sq [.q p7 (.mv (ci 37))]
 (.seq (sq [fq p48 q3 4,lq p49 q48,.q p50 (ef .text q49 (.c (S [115,116,114,105,110,103])))]
 (.cond q50 (.reg [.q p7 (.mv (ci 38))]) (.skip)))
 (sq [mq p51 q7,mq p52 q0,fq p53 q3 6,lq p54 q53,.q p55 (.ixl 7 q54 (ci 0)),.q p56 (.ldn q55 7),ks p57 (.fn 112 [q52,q56]),.q p58 (.build [o0,o0,o0,o0,o0,.nils] [(0,1,q51),(2,1,q57),(3,1,(.c (.int .i64 (.lit (.negSucc 0))))),(4,1,(.c (.int .i64 (.lit (.negSucc 0)))))]),ls p8 (.alloc [o0,o0,o0,o0,o0,.nils]),ln (.st q8 q58 6)]
 (.seq (sq [fq p59 q3 6,lq p60 q59,.q p61 (.ixl 7 q60 (ci 1)),fq p62 q61 0,lq p63 q62,.q p64 (et .num q63 (ci 8))]
 (.cond q64 (.reg [mq p65 q0,fq p66 q3 6,lq p67 q66,.q p68 (.ixl 7 q67 (ci 1)),.q p69 (.ldn q68 7),ks p70 (.fn 112 [q65,q69]),fq p71 q8 3,ln (.st q71 q70 1)]) (.skip)))
 (.seq (sq [fq p72 q3 6,lq p73 q72,.q p74 (.ixl 7 q73 (ci 2)),fq p75 q74 0,lq p76 q75,.q p77 (et .num q76 (ci 8))]
 (.cond q77 (.reg [mq p78 q0,fq p79 q3 6,lq p80 q79,.q p81 (.ixl 7 q80 (ci 2)),.q p82 (.ldn q81 7),ks p83 (.fn 112 [q78,q82]),fq p84 q8 4,ln (.st q84 q83 1)]) (.skip)))
 (sq [mq p85 q0,fq p86 q3 4,lq p87 q86,ks p88 (.fn 46 [q85,q87]),fq p89 q8 1,ln (.st q89 q88 1)]
 (sq [mq p90 q0,.q p91 (.ldn q8 6),ks p92 (.fn 48 [q90,q91])]
 (sq [fq p93 q8 1,lq p94 q93,mq p4 q94]
 (.ret))))))))) (sq [.q p96 (ef .num q22 (ci 47)),mq p95 q96]
 (.cond q95 (.seq (.regc [mq p97 q0,fq p98 q3 4,.qr p99 (.ld q98) 0 2,mq p100 q0,fq p101 q3 6,lq p102 q101,.q p103 (.ixl 7 q102 (ci 0)),.q p104 (.ldn q103 7),ks p105 (.fn 112 [q100,q104]),mq p106 q0,fq p107 q3 6,.qr p108 (.ld q107) 0 1,.q p109 (.ixl 7 q108 (ci 0)),fq p110 q109 4,.qr p111 (.ld q110) 0 1,fq p112 q3 1,.qr p113 (.ld q112) 0 1,ks p114 (.fn 207 [q106,q111,q113]),ks p115 (.fn 167 [q97,(ci 29),q99,q105,q114]),mq p4 q115])
 (.ret)) (sq [.q p117 (ef .num q22 (ci 48)),mq p116 q117]
 (.cond q116 (sq [.q p9 (.mv (.c .nils))]
 (.seq (sq [mq p118 q0,.q p119 (.nck q118),fq p120 q119 0,.q p121 (.ldn q120 4),fq p122 q3 5,lq p123 q122,ks p124 (.fn 47 [q121,q123]),.q p125 (.len q124),.q p126 (.mv (ci 0))]
 (.block 1 (.loop (sq [.q p127 (.cmp .lt q126 q125)]
 (.seq (.cond q127 (.skip) (.exit 1))
 (.seq (.block 2 (sq [.q p128 (.ixl 1 q124 q126),lq p129 q128,mq p11 q129]
 (.reg [mq p130 q9,mq p131 q0,.q p132 (.nck q131),fq p133 q132 8,lq p134 q133,mq p135 q11,.q p136 (.look false q134 q135 o0 false),ls p137 (.bsl 1 [o0] [(0,1,q136)]),ls p138 (.app 1 8 q130 q137),mq p9 q138])))
 (.reg [.q p139 (.ari .add q126 (ci 1)),mq p126 q139])))))))
 (sq [mq p140 q0,fq p141 q3 4,lq p142 q141,ks p143 (.fn 46 [q140,q142]),mq p12 q143]
 (sq [mq p144 q0,mq p145 q12,fq p146 q3 5,lq p147 q146,mq p148 q9,.q p149 (.build [o0,o0,o0,o0,o0,.nils] [(0,1,(ci 4)),(1,1,q145),(2,1,q147),(5,1,q148)]),ks p150 (.fn 48 [q144,q149])]
 (sq [mq p151 q12,mq p4 q151]
 (.ret)))))) (sq [.q p153 (ef .num q22 (ci 49)),mq p152 q153]
 (.cond q152 (sq [.q p13 (.mv (.c .nils))]
 (.seq (sq [fq p154 q3 6,lq p155 q154,.q p156 (.len q155),.q p157 (.mv (ci 0))]
 (.block 3 (.loop (sq [.q p158 (.cmp .lt q157 q156)]
 (.seq (.cond q158 (.skip) (.exit 3))
 (.seq (.block 4 (sq [.q p159 (.ixl 7 q155 q157),.q p160 (.ldn q159 7),ls p15 (.alloc [o0,e0,o0,o0,e0,o0,.nils]),ln (.st q15 q160 7)]
 (.reg [mq p161 q13,mq p162 q0,fq p163 q15 6,lq p164 q163,.q p165 (.ixl 7 q164 (ci 0)),.q p166 (.ldn q165 7),ks p167 (.fn 112 [q162,q166]),ls p168 (.bsl 1 [o0] [(0,1,q167)]),ls p169 (.app 1 8 q161 q168),mq p13 q169])))
 (.reg [.q p170 (.ari .add q157 (ci 1)),mq p157 q170])))))))
 (sq [mq p171 q0,fq p172 q3 4,lq p173 q172,ks p174 (.fn 46 [q171,q173]),mq p16 q174]
 (sq [mq p175 q0,mq p176 q16,mq p177 q0,fq p178 q3 1,lq p179 q178,ks p180 (.fn 205 [q177,q179]),.q p181 (.build [o0,o0,o0,o0,o0,.nils] [(0,1,(ci 28)),(1,1,q176),(2,1,q180)]),ks p182 (.fn 48 [q175,q181])]
 (.seq (sq [fq p183 q3 6,lq p184 q183,.q p185 (.len q184),.q p186 (.mv (ci 0))]
 (.block 5 (.loop (sq [.q p187 (.cmp .lt q186 q185)]
 (.seq (.cond q187 (.skip) (.exit 5))
 (.seq (.block 6 (sq [mq p188 q186,.q p189 (.ixl 7 q184 q186),.q p190 (.ldn q189 7),ls p18 (.alloc [o0,e0,o0,o0,e0,o0,.nils]),mq p17 q188,ln (.st q18 q190 7)]
 (.regc [mq p191 q0,mq p192 q16,mq p193 q0,fq p194 q3 4,lq p195 q194,fq p196 q18 1,lq p197 q196,ks p198 (.fn 207 [q193,q195,q197]),mq p199 q13,mq p200 q17,.q p201 (.ixl 1 q199 q200),.qr p202 (.ld q201) 0 1,.q p203 (.build [o0,o0,o0,o0,o0,.nils] [(0,1,(ci 30)),(1,1,q192),(2,1,q198),(3,1,q202)]),ks p204 (.fn 48 [q191,q203])])))
 (.reg [.q p205 (.ari .add q186 (ci 1)),mq p186 q205])))))))
 (sq [mq p206 q16,mq p4 q206]
 (.ret))))))) (sq [.q p208 (ef .num q22 (ci 50)),mq p207 q208]
 (.cond q207 (sq [mq p209 q0,fq p210 q3 6,lq p211 q210,.q p212 (.sll 7 q211 (some (ci 1)) none none),ks p213 (.fn 163 [q209,q212]),mq p19 q213]
 (sq [mq p214 q0,fq p215 q3 4,lq p216 q215,ks p217 (.fn 46 [q214,q216]),mq p20 q217]
 (sq [mq p218 q0,mq p219 q20,fq p220 q3 4,lq p221 q220,.q p222 (.sls q221 (some (ci 2)) none),ks p223 (.fn 206 [q222]),mq p224 q19,.q p225 (.build [o0,o0,o0,o0,o0,.nils] [(0,1,(ci 31)),(1,1,q219),(2,1,q223),(5,1,q224)]),ks p226 (.fn 48 [q218,q225])]
 (sq [mq p227 q20,mq p4 q227]
 (.ret))))) (.skip)))))))))))))))
 (sq [.q p4 (.mv (.c (.int .i64 (.lit (.negSucc 0)))))]
 (.ret))))
def f166 : Fun := .code [.t p6] (sq [ls p4 (.box q1),.q p6 (.mv (ci 0))]
 (.seq (sq [fq p7 q4 0,lq p8 q7]
 (.block 0 (sq [.q p10 (ef .num q8 (ci 40)),mq p9 q10]
 (.cond q9 (sq [mq p11 q0,fq p12 q4 5,lq p13 q12,ks p14 (.fn 160 [q11,q13]),mq p6 q14]
 (.ret)) (sq [.q p16 (ef .num q8 (ci 45)),mq p15 q16]
 (.cond q15 (sq [mq p17 q0,fq p18 q4 4,lq p19 q18,mq p20 q2,.q p21 (.ixl 1 q20 (ci 0)),lq p22 q21,mq p23 q2,.q p24 (.ixl 1 q23 (ci 1)),lq p25 q24,ks p26 (.fn 167 [q17,(ci 34),q19,q22,q25]),mq p6 q26]
 (.ret)) (.skip)))))))
 (.seq (.regc [mq p27 q0,fq p28 q4 4,.qr p29 (.ld q28) 0 1,mq p30 q2,.q p31 (.ixl 1 q30 (ci 0)),.qr p32 (.ld q31) 0 1,mq p33 q0,fq p34 q4 6,lq p35 q34,.q p36 (.ixl 7 q35 (ci 0)),fq p37 q36 4,lq p38 q37,fq p39 q4 1,lq p40 q39,ks p41 (.fn 207 [q33,q38,q40]),ks p42 (.fn 167 [q27,(ci 29),q29,q32,q41]),mq p6 q42])
 (.ret))))
def f167 : Fun := .code [.t p10] (sq [.q p10 (.mv (ci 0))]
 (sq [mq p12 q0,mq p13 q2,ks p14 (.fn 46 [q12,q13]),mq p11 q14]
 (sq [mq p15 q0,mq p16 q1,mq p17 q11,mq p18 q3,mq p19 q4,.q p20 (.build [o0,o0,o0,o0,o0,.nils] [(0,1,q16),(1,1,q17),(2,1,q18),(3,1,q19)]),ks p21 (.fn 48 [q15,q20])]
 (sq [mq p22 q11,mq p10 q22]
 (.ret)))))
def f168 : Fun := .code [] (sq [ls p5 (.box q1)]
 (sq [fq p8 q5 0,lq p9 q8]
 (.block 0 (sq [.q p27 (ef .num q9 (ci 40)),mq p26 q27]
 (.cond q26 (.reg [mq p28 q0,fq p29 q5 5,lq p30 q29,mq p31 q3,ks p32 (.fn 208 [q28,q30,q31])]) (sq [.q p34 (ef .num q9 (ci 45)),mq p33 q34]
 (.cond q33 (.reg [mq p35 q0,mq p36 q2,.q p37 (.ixl 1 q36 (ci 0)),lq p38 q37,mq p39 q2,.q p40 (.ixl 1 q39 (ci 1)),lq p41 q40,mq p42 q3,.q p43 (.build [o0,o0,o0,o0,o0,.nils] [(0,1,(ci 35)),(1,1,q38),(2,1,q41),(3,1,q42)]),ks p44 (.fn 48 [q35,q43])]) (.regc [mq p10 q0,mq p11 q2,.q p12 (.ixl 1 q11 (ci 0)),.qr p13 (.ld q12) 0 1,mq p14 q0,fq p15 q5 6,lq p16 q15,.q p17 (.ixl 7 q16 (ci 0)),fq p18 q17 4,lq p19 q18,fq p20 q5 1,lq p21 q20,ks p22 (.fn 207 [q14,q19,q21]),mq p23 q3,.q p24 (.build [o0,o0,o0,o0,o0,.nils] [(0,1,(ci 30)),(1,1,q13),(2,1,q22),(3,1,q23)]),ks p25 (.fn 48 [q10,q24])]))))))))
def f169 : Fun := .code [] (.seq (.regc [mq p4 q0,mq p5 q0,.q p6 (.nck q5),fq p7 q6 9,.qr p8 (.ld q7) 0 1,mq p9 q0,.q p10 (.nck q9),fq p11 q10 10,lq p12 q11,mq p13 q1,.q p14 (.build [e0,(.bool false),.nils,.nils] [(0,1,q12),(1,1,q13)]),ls p15 (.bsl 1 [e0,(.bool false),.nils,.nils] [(0,4,q14)]),ls p16 (.app 4 72 q8 q15),.q p17 (.nck q4),fq p18 q17 9,ln (.st q18 q16 1)])
 (.reg [mq p19 q0,.q p20 (.nck q19),fq p21 q20 10,ln (.st q21 (.c e0) 1)]))
def f170 : Fun := .code [] (sq [mq p5 q0,.q p6 (.nck q5),fq p7 q6 9,lq p8 q7,mq p9 q0,.q p10 (.nck q9),fq p11 q10 9,lq p12 q11,.q p13 (.len q12),.q p14 (.ari .sub q13 (ci 1)),.q p15 (.ixl 4 q8 q14),mq p4 q15]
 (.reg [mq p16 q4,mq p17 q4,.q p18 (.nck q17),fq p19 q18 2,lq p20 q19,mq p21 q1,ls p22 (.bsl 1 [o0] [(0,1,q21)]),ls p23 (.app 1 8 q20 q22),.q p24 (.nck q16),fq p25 q24 2,ln (.st q25 q23 1)]))
def f171 : Fun := .code [] (.seq (.regc [mq p2 q0,mq p3 q0,.q p4 (.nck q3),fq p5 q4 9,.qr p6 (.ld q5) 0 1,mq p7 q0,.q p8 (.nck q7),fq p9 q8 9,.qr p10 (.ld q9) 0 1,.q p11 (.len q10),.q p12 (.ari .sub q11 (ci 1)),.q p13 (.ixl 4 q6 q12),fq p14 q13 2,.qr p15 (.ld q14) 0 1,mq p16 q0,ks p17 (.fn 115 [q16]),ks p18 (.fn 114 [q2,q15,q17])])
 (.reg [mq p19 q0,mq p20 q0,.q p21 (.nck q20),fq p22 q21 9,lq p23 q22,mq p24 q0,.q p25 (.nck q24),fq p26 q25 9,lq p27 q26,.q p28 (.len q27),.q p29 (.ari .sub q28 (ci 1)),.q p30 (.sll 4 q23 none (some q29) none),.q p31 (.nck q19),fq p32 q31 9,ln (.st q32 q30 1)]))
def f172 : Fun := .code [.t p10] (sq [.q p10 (.mv (ci 0))]
 (.seq (sq [mq p11 q1,.q p12 (ef .text q11 (.c (S [115,116,114,105,110,103]))),mq p13 q12,.g p13 true (mq p14 q2),.g p13 true (.q p15 (ef .text q14 (.c (S [115,116,114,105,110,103])))),.q p16 (.pick q13 q15 (.c (.bool false)))]
 (.cond q16 (sq [mq p17 q0,mq p18 q3,mq p19 q4,ks p20 (.fn 167 [q17,(ci 23),(.c (S [98,111,111,108])),q18,q19]),mq p10 q20]
 (.ret)) (.skip)))
 (sq [mq p21 q0,mq p22 q3,mq p23 q4,ks p24 (.fn 167 [q21,(ci 20),(.c (S [98,111,111,108])),q22,q23]),mq p10 q24]
 (.ret))))
def f173 : Fun := .code [.celln p2 7] (sq [ls p2 (.alloc [o0,e0,o0,o0,e0,o0,.nils])]
 (sq [mq p5 q0,ks p6 (.fn 29 [q5]),ls p3 (.alloc [o0,e0,o0,o0]),ln (.st q3 q6 4)]
 (.seq (sq [mq p7 q0,ks p8 (.fn 55 [q7,(.c (S [123]))])]
 (.cond q8 (sq [mq p9 q0,ks p10 (.fn 90 [q9]),ln (.st q2 q10 7)]
 (.ret)) (.skip)))
 (.seq (sq [mq p11 q0,ks p12 (.fn 87 [q11,(.c (S [32,102,111,114,32,115,119,105,116,99,104,32,115,101,108,101,99,116,32]))])]
 (.cond q12 (sq [mq p13 q0,ks p14 (.fn 209 [q13]),ln (.st q2 q14 7)]
 (.ret)) (.skip)))
 (.seq (sq [fq p15 q3 0,lq p16 q15,.q p17 (ef .num q16 (ci 1)),mq p18 q17,.g p18 true (mq p19 q0),.g p18 true (ks p20 (.fn 210 [q19,(.c (S [58]))])),.q p21 (.pick q18 q20 (.c (.bool false)))]
 (.cond q21 (sq [mq p22 q0,.q p23 (.nck q22),fq p24 q23 1,lq p25 q24,.q p26 (.ari .add q25 (ci 2)),.q p27 (.nck q22),fq p28 q27 1,ln (.st q28 q26 1)]
 (.seq (sq [mq p29 q0,ks p30 (.fn 87 [q29,(.c (S [32,102,111,114,32,115,119,105,116,99,104,32,115,101,108,101,99,116,32]))]),.q p31 (.not q30)]
 (.cond q31 (sq [mq p32 q0,ks p33 (.fn 59 [q32]),ln (.st q2 q33 7)]
 (.ret)) (.skip)))
 (sq [mq p34 q0,ks p35 (.fn 209 [q34]),ls p4 (.alloc [o0,e0,o0,o0,e0,o0,.nils]),ln (.st q4 q35 7)]
 (sq [fq p36 q3 3,lq p37 q36,fq p38 q3 1,lq p39 q38,.q p40 (.ldn q4 7),ls p41 (.bsl 1 [o0,e0,o0,o0,e0,o0,.nils] [(0,7,q40)]),ks p42 (.fn 57 [(ci 35),q37,q39,q41]),ln (.st q2 q42 7)]
 (.ret))))) (.skip)))
 (.seq (sq [mq p43 q0,ks p44 (.fn 55 [q43,(.c (S [105,102]))])]
 (.cond q44 (sq [mq p45 q0,ks p46 (.fn 211 [q45]),ln (.st q2 q46 7)]
 (.ret)) (.skip)))
 (.seq (sq [fq p47 q3 0,lq p48 q47,.q p49 (ef .num q48 (ci 4)),mq p50 q49,.g p50 true (fq p51 q3 1),.g p50 true (lq p52 q51),.g p50 true (ks p53 (.fn 52 [q52,(.c (S [32,118,97,114,32,98,114,101,97,107,32,99,111,110,116,105,110,117,101,32,102,97,108,108,116,104,114,111,117,103,104,32,114,101,116,117,114,110,32,103,111,32,100,101,102,101,114,32]))])),.q p54 (.pick q50 q53 (.c (.bool false)))]
 (.cond q54 (sq [mq p55 q0,.q p56 (.nck q55),fq p57 q56 1,lq p58 q57,.q p59 (.ari .add q58 (ci 1)),.q p60 (.nck q55),fq p61 q60 1,ln (.st q61 q59 1)]
 (sq [mq p62 q0,.q p63 (.ldn q3 4),ks p64 (.fn 212 [q62,q63]),ln (.st q2 q64 7)]
 (.ret))) (.skip)))
 (sq [mq p65 q0,ks p66 (.fn 213 [q65]),ln (.st q2 q66 7)]
 (.ret)))))))))
def f174 : Fun := .code [.t p4] (sq [.q p4 (.mv (ci 0))]
 (.seq (sq [mq p7 q0,.q p8 (.nck q7),fq p9 q8 4,lq p10 q9,.q p11 (.len q10),.q p12 (.ari .sub q11 (ci 1)),mq p5 q12]
 (.block 0 (.loop (.seq (sq [mq p13 q5,.q p14 (.cmp .ge q13 (ci 0))]
 (.cond q14 (.skip) (.exit 0)))
 (.seq (.block 1 (sq [mq p17 q0,.q p18 (.nck q17),fq p19 q18 4,lq p20 q19,mq p21 q5,.q p22 (.ixl 3 q20 q21),fq p23 q22 0,lq p24 q23,mq p25 q1,.q p26 (.eq false false .text q24 q25)]
 (.cond q26 (sq [mq p27 q0,.q p28 (.nck q27),fq p29 q28 4,lq p30 q29,mq p31 q5,.q p32 (.ixl 3 q30 q31),fq p33 q32 1,lq p34 q33,mq p6 q34]
 (.seq (sq [mq p35 q6,.q p36 (.cmp .gt q35 (ci 0)),mq p37 q36,.g p37 true (mq p38 q0),.g p37 true (.q p39 (.nck q38)),.g p37 true (fq p40 q39 0),.g p37 true (fq p41 q40 1),.g p37 true (lq p42 q41),.g p37 true (mq p43 q6),.g p37 true (.q p44 (.ari .sub q43 (ci 1))),.g p37 true (.q p45 (.ixl 4 q42 q44)),.g p37 true (fq p46 q45 2),.g p37 true (lq p47 q46),.g p37 true (.q p48 (et .num q47 (ci 0))),.q p49 (.pick q37 q48 (.c (.bool false))),mq p50 q49,.g p50 true (mq p51 q0),.g p50 true (.q p52 (.nck q51)),.g p50 true (fq p53 q52 0),.g p50 true (fq p54 q53 1),.g p50 true (lq p55 q54),.g p50 true (mq p56 q6),.g p50 true (.q p57 (.ari .sub q56 (ci 1))),.g p50 true (.q p58 (.ixl 4 q55 q57)),.g p50 true (fq p59 q58 2),.g p50 true (lq p60 q59),.g p50 true (mq p61 q0),.g p50 true (.q p62 (.nck q61)),.g p50 true (fq p63 q62 6),.g p50 true (lq p64 q63),.g p50 true (.q p65 (.eq true false .num q60 q64)),.q p66 (.pick q50 q65 (.c (.bool false)))]
 (.cond q66 (.reg [mq p67 q0,.q p68 (.nck q67),fq p69 q68 0,fq p70 q69 1,lq p71 q70,mq p72 q6,.q p73 (.ari .sub q72 (ci 1)),.q p74 (.ixl 4 q71 q73),fq p75 q74 3,ln (.st q75 (.c (.bool true)) 1)]) (.skip)))
 (sq [mq p76 q6,mq p4 q76]
 (.ret)))) (.skip))))
 (.reg [mq p15 q5,.q p16 (.ari .sub q15 (ci 1)),mq p5 q16]))))))
 (sq [mq p77 q0,.q p78 (.nck q77),fq p79 q78 9,ln (.st q79 (.c (.bool true)) 1)]
 (sq [.q p4 (.mv (ci 0))]
 (.ret)))))
def f175 : Fun := .code [.t p6] (sq [ls p5 (.box q2),.q p6 (.mv (.c e0))]
 (.seq (sq [mq p7 q1]
 (.block 0 (sq [.q p9 (ef .text q7 (.c (S [45]))),mq p8 q9]
 (.cond q8 (sq [mq p10 q0,fq p11 q5 4,lq p12 q11,.q p13 (ef .text q12 (.c (S [105,110,116]))),ks p14 (.fn 32 [q10,q13])]
 (sq [.q p6 (.mv (.c (S [105,110,116])))]
 (.ret))) (sq [.q p16 (ef .text q7 (.c (S [33]))),mq p15 q16]
 (.cond q15 (sq [mq p17 q0,fq p18 q5 4,lq p19 q18,.q p20 (ef .text q19 (.c (S [98,111,111,108]))),ks p21 (.fn 32 [q17,q20])]
 (sq [.q p6 (.mv (.c (S [98,111,111,108])))]
 (.ret))) (.skip)))))))
 (sq [mq p22 q0,.q p23 (.ldn q5 7),ks p24 (.fn 185 [q22,q23]),mq p6 q24]
 (.ret))))
def f176 : Fun := .code [.t p8] (sq [.q p8 (.mv (.c e0))]
 (sq [mq p11 q2,.q p12 (ef .text q11 (.c (S [105,110,116]))),mq p13 q12,.g p13 true (mq p14 q3),.g p13 true (.q p15 (ef .text q14 (.c (S [105,110,116])))),.q p16 (.pick q13 q15 (.c (.bool false))),mq p9 q16]
 (sq [mq p17 q2,.q p18 (ef .text q17 (.c (S [115,116,114,105,110,103]))),mq p19 q18,.g p19 true (mq p20 q3),.g p19 true (.q p21 (ef .text q20 (.c (S [115,116,114,105,110,103])))),.q p22 (.pick q19 q21 (.c (.bool false))),mq p10 q22]
 (.seq (sq [mq p23 q1]
 (.block 0 (.seq (sq [.q p25 (ef .text q23 (.c (S [38,38]))),mq p24 q25]
 (.cond q24 (.skip) (.reg [.q p26 (ef .text q23 (.c (S [124,124]))),mq p24 q26])))
 (.cond q24 (sq [mq p27 q0,mq p28 q2,.q p29 (ef .text q28 (.c (S [98,111,111,108]))),mq p30 q29,.g p30 true (mq p31 q3),.g p30 true (.q p32 (ef .text q31 (.c (S [98,111,111,108])))),.q p33 (.pick q30 q32 (.c (.bool false))),ks p34 (.fn 32 [q27,q33])]
 (sq [.q p8 (.mv (.c (S [98,111,111,108])))]
 (.ret))) (.seq (sq [.q p36 (ef .text q23 (.c (S [61,61]))),mq p35 q36]
 (.cond q35 (.skip) (.reg [.q p37 (ef .text q23 (.c (S [33,61]))),mq p35 q37])))
 (.cond q35 (sq [mq p38 q0,mq p39 q2,mq p40 q3,ks p41 (.fn 184 [q39,q40]),ks p42 (.fn 32 [q38,q41])]
 (sq [.q p8 (.mv (.c (S [98,111,111,108])))]
 (.ret))) (.seq (sq [.q p44 (ef .text q23 (.c (S [60]))),mq p43 q44]
 (.cond q43 (.skip) (sq [.q p45 (ef .text q23 (.c (S [60,61]))),mq p43 q45]
 (.cond q43 (.skip) (sq [.q p46 (ef .text q23 (.c (S [62]))),mq p43 q46]
 (.cond q43 (.skip) (.reg [.q p47 (ef .text q23 (.c (S [62,61]))),mq p43 q47])))))))
 (.cond q43 (sq [mq p48 q0,mq p49 q9,mq p50 q49,.g p50 false (mq p51 q10),.q p52 (.pick q50 (.c (.bool true)) q51),ks p53 (.fn 32 [q48,q52])]
 (sq [.q p8 (.mv (.c (S [98,111,111,108])))]
 (.ret))) (sq [.q p55 (ef .text q23 (.c (S [43]))),mq p54 q55]
 (.cond q54 (sq [mq p56 q0,mq p57 q9,mq p58 q57,.g p58 false (mq p59 q10),.q p60 (.pick q58 (.c (.bool true)) q59),ks p61 (.fn 32 [q56,q60])]
 (sq [mq p62 q2,mq p8 q62]
 (.ret))) (.skip)))))))))))
 (sq [mq p63 q0,mq p64 q9,ks p65 (.fn 32 [q63,q64])]
 (sq [.q p8 (.mv (.c (S [105,110,116])))]
 (.ret)))))))
def f177 : Fun := .code [.t p2,.t p3,.t p4] (sq [.q p2 (.mv (.c .nils)),.q p3 (.mv (.c e0)),.q p4 (.mv (.c (.bool false)))]
 (.seq (sq [mq p8 q0,ks p9 (.fn 124 [q8]),.q p10 (.not q9),mq p11 q10,.g p11 false (mq p12 q0),.g p11 false (ks p13 (.fn 214 [q12,(.c (S [102,117,110,99,40]))])),.g p11 false (.q p14 (.not q13)),.q p15 (.pick q11 (.c (.bool true)) q14)]
 (.cond q15 (sq [.q p2 (.mv (.c .nils)),.q p3 (.mv (.c e0)),.q p4 (.mv (.c (.bool false)))]
 (.ret)) (.skip)))
 (sq [mq p17 q0,ks p18 (.fn 215 [q17,(ci 0)]),mq p16 q18,.q p19 (.ext q16 0),.q p20 (.ext q16 1),.q p21 (.ext q16 2),mq p5 q19,mq p6 q20,mq p7 q21]
 (sq [mq p22 q6,mq p23 q7,mq p2 q22,mq p3 q23,.q p4 (.mv (.c (.bool true)))]
 (.ret)))))
def f178 : Fun := .code [.t p6] (sq [.q p6 (.mv (.c e0))]
 (.seq (sq [mq p18 q1]
 (.block 0 (sq [.q p20 (ef .text q18 (.c (S [97,112,112,101,110,100]))),mq p19 q20]
 (.cond q19 (.seq (sq [mq p21 q2,.q p22 (.len q21),.q p23 (ef .num q22 (ci 0))]
 (.cond q23 (sq [mq p24 q0,.q p25 (.nck q24),fq p26 q25 9,ln (.st q26 (.c (.bool true)) 1)]
 (sq [.q p6 (.mv (.c e0))]
 (.ret))) (.skip)))
 (sq [mq p27 q2,mq p28 q0,mq p29 q2,.q p30 (.ixl 7 q29 (ci 0)),.q p31 (.ldn q30 7),ks p32 (.fn 123 [q28,q31]),.q p33 (.ixl 7 q27 (ci 0)),ln (.st q33 q32 7)]
 (sq [mq p35 q2,.q p36 (.ixl 7 q35 (ci 0)),fq p37 q36 4,lq p38 q37,ks p39 (.fn 216 [q38]),mq p34 q39,.q p40 (.ext q34 0),.q p41 (.ext q34 1),mq p7 q40,mq p8 q41]
 (sq [mq p42 q0,mq p43 q8,mq p44 q43,.g p44 true (mq p45 q2),.g p44 true (.q p46 (.ixl 7 q45 (ci 0))),.g p44 true (fq p47 q46 4),.g p44 true (lq p48 q47),.g p44 true (ks p49 (.fn 214 [q48,(.c (S [91,93]))])),.q p50 (.pick q44 q49 (.c (.bool false))),ks p51 (.fn 32 [q42,q50])]
 (.seq (sq [.q p9 (.mv (ci 1))]
 (.block 1 (.loop (.seq (sq [mq p52 q9,mq p53 q2,.q p54 (.len q53),.q p55 (.cmp .lt q52 q54),mq p56 q55,.g p56 true (mq p57 q0),.g p56 true (.q p58 (.nck q57)),.g p56 true (fq p59 q58 9),.g p56 true (lq p60 q59),.g p56 true (.q p61 (.not q60)),.q p62 (.pick q56 q61 (.c (.bool false)))]
 (.cond q62 (.skip) (.exit 1)))
 (.seq (.block 2 (.reg [mq p65 q2,mq p66 q9,mq p67 q0,mq p68 q2,mq p69 q9,.q p70 (.ixl 7 q68 q69),.q p71 (.ldn q70 7),mq p72 q7,ks p73 (.fn 125 [q67,q71,q72]),.q p74 (.ixl 7 q65 q66),ln (.st q74 q73 7)]))
 (.reg [mq p63 q9,.q p64 (.ari .add q63 (ci 1)),mq p9 q64]))))))
 (sq [mq p75 q2,.q p76 (.ixl 7 q75 (ci 0)),fq p77 q76 4,lq p78 q77,mq p6 q78]
 (.ret))))))) (.seq (sq [.q p80 (ef .text q18 (.c (S [108,101,110]))),mq p79 q80]
 (.cond q79 (.skip) (.reg [.q p81 (ef .text q18 (.c (S [99,97,112]))),mq p79 q81])))
 (.cond q79 (sq [mq p82 q0,mq p83 q2,ks p84 (.fn 217 [q82,q83]),mq p10 q84]
 (sq [mq p86 q10,ks p87 (.fn 216 [q86]),mq p85 q87,.q p88 (.ext q85 0),.q p89 (.ext q85 1),mq p11 q88,mq p12 q89]
 (sq [mq p90 q0,mq p91 q12,mq p92 q91,.g p92 false (mq p93 q1),.g p92 false (.q p94 (ef .text q93 (.c (S [108,101,110])))),.g p92 false (mq p95 q94),.g p95 true (mq p96 q10),.g p95 true (.q p97 (ef .text q96 (.c (S [115,116,114,105,110,103])))),.g p92 false (.q p98 (.pick q95 q97 (.c (.bool false)))),.q p99 (.pick q92 (.c (.bool true)) q98),ks p100 (.fn 32 [q90,q99])]
 (sq [.q p6 (.mv (.c (S [105,110,116])))]
 (.ret))))) (sq [.q p102 (ef .text q18 (.c (S [99,108,111,115,101]))),mq p101 q102]
 (.cond q101 (sq [mq p103 q0,mq p104 q2,ks p105 (.fn 217 [q103,q104])]
 (sq [mq p106 q0,.q p107 (.nck q106),fq p108 q107 9,lq p109 q108,.q p110 (.not q109)]
 (.cond q110 (.reg [mq p111 q0,mq p112 q2,.q p113 (.ixl 7 q112 (ci 0)),.q p114 (.ldn q113 7),ks p115 (.fn 185 [q111,q114])]) (.skip)))) (sq [.q p117 (ef .text q18 (.c (S [112,97,110,105,99]))),mq p116 q117]
 (.cond q116 (sq [mq p118 q0,mq p119 q2,ks p120 (.fn 217 [q118,q119]),mq p13 q120]
 (.reg [mq p121 q0,mq p122 q13,.q p123 (ef .text q122 (.c (S [115,116,114,105,110,103]))),ks p124 (.fn 32 [q121,q123])])) (sq [.q p126 (ef .text q18 (.c (S [112,114,105,110,116]))),mq p125 q126]
 (.cond q125 (sq [.q p14 (.mv (ci 0))]
 (.block 3 (.loop (.seq (sq [mq p127 q14,mq p128 q2,.q p129 (.len q128),.q p130 (.cmp .lt q127 q129)]
 (.cond q130 (.skip) (.exit 3)))
 (.seq (.block 4 (sq [mq p133 q2,mq p134 q14,mq p135 q0,mq p136 q2,mq p137 q14,.q p138 (.ixl 7 q136 q137),.q p139 (.ldn q138 7),ks p140 (.fn 123 [q135,q139]),.q p141 (.ixl 7 q133 q134),ln (.st q141 q140 7)]
 (.reg [mq p142 q0,mq p143 q2,mq p144 q14,.q p145 (.ixl 7 q143 q144),fq p146 q145 4,lq p147 q146,ks p148 (.fn 52 [q147,(.c (S [32,105,110,116,32,98,111,111,108,32,115,116,114,105,110,103,32]))]),ks p149 (.fn 32 [q142,q148])])))
 (.reg [mq p131 q14,.q p132 (.ari .add q131 (ci 1)),mq p14 q132])))))) (sq [.q p151 (ef .text q18 (.c (S [114,101,99,111,118,101,114]))),mq p150 q151]
 (.cond q150 (sq [mq p152 q0,mq p153 q2,.q p154 (.len q153),.q p155 (ef .num q154 (ci 0)),ks p156 (.fn 32 [q152,q155])]
 (sq [.q p6 (.mv (.c (S [115,116,114,105,110,103])))]
 (.ret))) (sq [.q p158 (ef .text q18 (.c (S [109,97,107,101]))),mq p157 q158]
 (.cond q157 (sq [mq p159 q0,mq p160 q2,.q p161 (.ixl 7 q160 (ci 0)),.q p162 (.ldn q161 7),ks p163 (.fn 34 [q159,q162]),mq p15 q163]
 (sq [mq p165 q15,ks p166 (.fn 216 [q165]),mq p164 q166,.q p167 (.ext q164 0),.q p168 (.ext q164 1),mq p16 q167,mq p17 q168]
 (sq [mq p169 q0,mq p170 q17,mq p171 q170,.g p171 true (mq p172 q2),.g p171 true (.q p173 (.len q172)),.g p171 true (.q p174 (ef .num q173 (ci 2))),.g p171 true (mq p175 q174),.g p175 false (mq p176 q15),.g p175 false (ks p177 (.fn 214 [q176,(.c (S [99,104,97,110,32]))])),.g p171 true (.q p178 (.pick q175 (.c (.bool true)) q177)),.q p179 (.pick q171 q178 (.c (.bool false))),ks p180 (.fn 32 [q169,q179])]
 (.seq (sq [mq p181 q2,.q p182 (.len q181),.q p183 (ef .num q182 (ci 2))]
 (.cond q183 (.reg [mq p184 q2,mq p185 q0,mq p186 q2,.q p187 (.ixl 7 q186 (ci 1)),.q p188 (.ldn q187 7),ks p189 (.fn 127 [q185,q188,(.c (S [105,110,116]))]),.q p190 (.ixl 7 q184 (ci 1)),ln (.st q190 q189 7)]) (.skip)))
 (sq [mq p191 q15,mq p6 q191]
 (.ret)))))) (sq [.q p193 (ef .text q18 (.c (S [110,101,119]))),mq p192 q193]
 (.cond q192 (sq [mq p194 q0,mq p195 q2,.q p196 (.ixl 7 q195 (ci 0)),.q p197 (.ldn q196 7),ks p198 (.fn 34 [q194,q197]),mq p6 q198]
 (.ret)) (.skip)))))))))))))))))))
 (sq [.q p6 (.mv (.c e0))]
 (.ret))))
def f179 : Fun := .code [.celln p4 7] (sq [ls p3 (.box q1),ls p4 (.alloc [o0,e0,o0,o0,e0,o0,.nils])]
 (sq [fq p13 q3 6,lq p14 q13,mq p5 q14]
 (.seq (sq [fq p15 q3 0,lq p16 q15]
 (.block 0 (.seq (sq [.q p18 (ef .num q16 (ci 45)),mq p17 q18]
 (.cond q17 (.skip) (.reg [.q p19 (ef .num q16 (ci 46)),mq p17 q19])))
 (.cond q17 (sq [mq p20 q5,mq p21 q0,mq p22 q5,.q p23 (.ixl 7 q22 (ci 0)),.q p24 (.ldn q23 7),ks p25 (.fn 123 [q21,q24]),.q p26 (.ixl 7 q20 (ci 0)),ln (.st q26 q25 7)]
 (sq [mq p27 q5,.q p28 (.ixl 7 q27 (ci 0)),fq p29 q28 4,lq p30 q29,fq p31 q3 4,ln (.st q31 q30 1)]
 (sq [mq p32 q0,fq p33 q3 4,lq p34 q33,.q p35 (ef .text q34 (.c (S [115,116,114,105,110,103]))),mq p36 q35,.g p36 false (fq p37 q3 4),.g p36 false (lq p38 q37),.g p36 false (ks p39 (.fn 124 [q38])),.g p36 false (mq p40 q39),.g p40 true (fq p41 q3 4),.g p40 true (lq p42 q41),.g p40 true (ks p43 (.fn 214 [q42,(.c (S [91,93]))])),.g p36 false (.q p44 (.pick q40 q43 (.c (.bool false)))),.q p45 (.pick q36 (.c (.bool true)) q44),ks p46 (.fn 32 [q32,q45])]
 (.seq (sq [.q p6 (.mv (ci 1))]
 (.block 1 (.loop (.seq (sq [mq p47 q6,mq p48 q5,.q p49 (.len q48),.q p50 (.cmp .lt q47 q49)]
 (.cond q50 (.skip) (.exit 1)))
 (.seq (.block 2 (sq [mq p53 q5,mq p54 q6,.q p55 (.ixl 7 q53 q54),fq p56 q55 0,lq p57 q56,.q p58 (et .num q57 (ci 8))]
 (.cond q58 (.reg [mq p59 q5,mq p60 q6,mq p61 q0,mq p62 q5,mq p63 q6,.q p64 (.ixl 7 q62 q63),.q p65 (.ldn q64 7),ks p66 (.fn 127 [q61,q65,(.c (S [105,110,116]))]),.q p67 (.ixl 7 q59 q60),ln (.st q67 q66 7)]) (.skip))))
 (.reg [mq p51 q6,.q p52 (.ari .add q51 (ci 1)),mq p6 q52]))))))
 (sq [fq p68 q3 0,lq p69 q68,.q p70 (ef .num q69 (ci 45)),mq p71 q70,.g p71 true (fq p72 q3 4),.g p71 true (lq p73 q72),.g p71 true (.q p74 (ef .text q73 (.c (S [115,116,114,105,110,103])))),.q p75 (.pick q71 q74 (.c (.bool false)))]
 (.cond q75 (.reg [fq p76 q3 4,ln (.st q76 (.c (S [105,110,116])) 1)]) (sq [fq p77 q3 0,lq p78 q77,.q p79 (ef .num q78 (ci 45))]
 (.cond q79 (sq [fq p81 q3 4,lq p82 q81,ks p83 (.fn 216 [q82]),mq p80 q83,.q p84 (.ext q80 0),.q p85 (.ext q80 1),mq p7 q84,mq p8 q85]
 (.reg [mq p86 q7,fq p87 q3 4,ln (.st q87 q86 1)])) (.skip))))))))) (sq [.q p89 (ef .num q16 (ci 47)),mq p88 q89]
 (.cond q88 (sq [mq p90 q5,mq p91 q0,mq p92 q5,.q p93 (.ixl 7 q92 (ci 0)),.q p94 (.ldn q93 7),ks p95 (.fn 123 [q91,q94]),.q p96 (.ixl 7 q90 (ci 0)),ln (.st q96 q95 7)]
 (sq [fq p97 q3 4,ln (.st q97 (.c e0) 1)]
 (.seq (sq [mq p98 q5,.q p99 (.ixl 7 q98 (ci 0)),fq p100 q99 4,lq p101 q100,ks p102 (.fn 214 [q101,(.c (S [42]))])]
 (.cond q102 (sq [mq p104 q0,mq p105 q5,.q p106 (.ixl 7 q105 (ci 0)),fq p107 q106 4,lq p108 q107,.q p109 (.sls q108 (some (ci 1)) none),ks p110 (.fn 91 [q104,q109]),mq p103 q110,.q p111 (.ext q103 0),.q p112 (.ext q103 1),mq p9 q111,mq p10 q112]
 (.reg [mq p113 q9,fq p114 q3 1,lq p115 q114,ks p116 (.fn 218 [q113,q115]),fq p117 q3 4,ln (.st q117 q116 1)])) (.skip)))
 (.reg [mq p118 q0,fq p119 q3 4,lq p120 q119,.q p121 (et .text q120 (.c e0)),ks p122 (.fn 32 [q118,q121])])))) (sq [.q p124 (ef .num q16 (ci 48)),mq p123 q124]
 (.cond q123 (sq [mq p125 q0,.q p126 (.ldn q3 7),ks p127 (.fn 36 [q125,q126,(.c e0)]),fq p128 q3 5,ln (.st q128 q127 1)]
 (sq [mq p129 q0,.q p130 (.nck q129),fq p131 q130 0,fq p132 q131 2,lq p133 q132,fq p134 q3 5,lq p135 q134,.q p136 (.ari .sub q135 (ci 1)),.q p137 (.ixl 11 q133 q136),fq p138 q137 1,lq p139 q138,fq p140 q3 4,ln (.st q140 q139 1)]
 (.seq (sq [mq p141 q0,.q p142 (.nck q141),fq p143 q142 9,lq p144 q143,.q p145 (.not q144)]
 (.cond q145 (.reg [mq p146 q0,fq p147 q3 5,lq p148 q147,.q p149 (.ldn q3 7),ks p150 (.fn 37 [q146,q148,q149])]) (.skip)))
 (.reg [fq p151 q3 6,ln (.st q151 (.c .nils) 1)])))) (sq [.q p153 (ef .num q16 (ci 49)),mq p152 q153]
 (.cond q152 (sq [mq p154 q0,fq p155 q3 1,lq p156 q155,mq p157 q5,ks p158 (.fn 219 [q154,q156,q157])]
 (.reg [fq p159 q3 1,lq p160 q159,.q p161 (.cat (.c (S [42])) q160),fq p162 q3 4,ln (.st q162 q161 1)])) (sq [.q p164 (ef .num q16 (ci 50)),mq p163 q164]
 (.cond q163 (sq [mq p165 q0,mq p166 q5,.q p167 (.len q166),.q p168 (.cmp .le q167 (ci 17)),ks p169 (.fn 32 [q165,q168])]
 (sq [mq p170 q0,mq p171 q5,.q p172 (.ixl 7 q171 (ci 0)),.q p173 (.ldn q172 7),ks p174 (.fn 34 [q170,q173]),mq p11 q174]
 (sq [mq p175 q0,mq p176 q11,.q p177 (.lens q176),.q p178 (.cmp .le q177 (ci 198)),ks p179 (.fn 32 [q175,q178])]
 (.seq (sq [.q p12 (.mv (ci 1))]
 (.block 3 (.loop (.seq (sq [mq p180 q12,mq p181 q5,.q p182 (.len q181),.q p183 (.cmp .lt q180 q182)]
 (.cond q183 (.skip) (.exit 3)))
 (.seq (.block 4 (.reg [mq p186 q5,mq p187 q12,mq p188 q0,mq p189 q5,mq p190 q12,.q p191 (.ixl 7 q189 q190),.q p192 (.ldn q191 7),mq p193 q11,ks p194 (.fn 125 [q188,q192,q193]),.q p195 (.ixl 7 q186 q187),ln (.st q195 q194 7)]))
 (.reg [mq p184 q12,.q p185 (.ari .add q184 (ci 1)),mq p12 q185]))))))
 (.reg [mq p196 q11,.q p197 (.cat (.c (S [91,93])) q196),fq p198 q3 4,ln (.st q198 q197 1)]))))) (.skip)))))))))))))
 (sq [.q p199 (.ldn q3 7),ln (.st q4 q199 7)]
 (.ret)))))
def f180 : Fun := .code [.t p4] (sq [.q p4 (.mv (ci 0))]
 (sq [mq p9 q0,mq p10 q1,.q p11 (.sls q9 (some q10) none),mq p5 q11]
 (.seq (sq [mq p12 q5,ks p13 (.fn 214 [q12,(.c (S [105,110,116]))])]
 (.cond q13 (sq [mq p14 q1,.q p15 (.ari .add q14 (ci 3)),mq p4 q15]
 (.ret)) (.skip)))
 (.seq (sq [mq p16 q5,ks p17 (.fn 214 [q16,(.c (S [98,111,111,108]))])]
 (.cond q17 (sq [mq p18 q1,.q p19 (.ari .add q18 (ci 4)),mq p4 q19]
 (.ret)) (.skip)))
 (.seq (sq [mq p20 q5,ks p21 (.fn 214 [q20,(.c (S [115,116,114,105,110,103]))])]
 (.cond q21 (sq [mq p22 q1,.q p23 (.ari .add q22 (ci 6)),mq p4 q23]
 (.ret)) (.skip)))
 (.seq (sq [mq p24 q5,ks p25 (.fn 214 [q24,(.c (S [91,93]))])]
 (.cond q25 (sq [mq p26 q0,mq p27 q1,.q p28 (.ari .add q27 (ci 2)),ks p29 (.fn 180 [q26,q28]),mq p4 q29]
 (.ret)) (.skip)))
 (.seq (sq [mq p30 q5,ks p31 (.fn 214 [q30,(.c (S [99,104,97,110,32]))])]
 (.cond q31 (sq [mq p32 q0,mq p33 q1,.q p34 (.ari .add q33 (ci 5)),ks p35 (.fn 180 [q32,q34]),mq p4 q35]
 (.ret)) (.skip)))
 (.seq (sq [mq p36 q5,ks p37 (.fn 214 [q36,(.c (S [42]))])]
 (.cond q37 (sq [mq p38 q0,mq p39 q1,.q p40 (.ari .add q39 (ci 1)),ks p41 (.fn 220 [q38,q40]),mq p4 q41]
 (.ret)) (.skip)))
 (.seq (sq [mq p42 q5,ks p43 (.fn 214 [q42,(.c (S [102,117,110,99,40]))])]
 (.cond q43 (sq [mq p45 q0,mq p46 q1,ks p47 (.fn 215 [q45,q46]),mq p44 q47,.q p48 (.ext q44 0),.q p49 (.ext q44 1),.q p50 (.ext q44 2),mq p6 q48,mq p7 q49,mq p8 q50]
 (sq [mq p51 q6,mq p4 q51]
 (.ret))) (.skip)))
 (sq [.q p4 (.mv (.c (.int .i64 (.lit (.negSucc 0)))))]
 (.ret)))))))))))
def f181 : Fun := .code [.t p4] (sq [.q p4 (.mv (.c (.bool false)))]
 (sq [mq p5 q1,ks p6 (.fn 124 [q5]),mq p7 q6,.g p7 true (mq p8 q0),.g p7 true (mq p9 q1),.g p7 true (.q p10 (.eq false false .text q8 q9)),.g p7 true (mq p11 q10),.g p11 false (mq p12 q0),.g p11 false (.q p13 (ef .text q12 (.c (S [110,105,108])))),.g p11 false (mq p14 q13),.g p14 true (mq p15 q1),.g p14 true (ks p16 (.fn 221 [q15])),.g p11 false (.q p17 (.pick q14 q16 (.c (.bool false)))),.g p7 true (.q p18 (.pick q11 (.c (.bool true)) q17)),.q p19 (.pick q7 q18 (.c (.bool false))),mq p4 q19]
 (.ret)))
def f182 : Fun := .code [] (sq [ls p7 (.bsl 0 [] []),mq p8 q0,.q p9 (.nck q8),fq p10 q9 8,lq p11 q10,ls p12 (.app 2 24 q7 q11),mq p6 q12]
 (.reg [mq p13 q0,mq p14 q6,mq p15 q1,mq p16 q2,.q p17 (.build [e0,(.bool false)] [(0,1,q15),(1,1,q16)]),ls p18 (.bsl 1 [e0,(.bool false)] [(0,2,q17)]),ls p19 (.app 2 24 q14 q18),.q p20 (.nck q13),fq p21 q20 8,ln (.st q21 q19 1)]))
def f183 : Fun := .code [] (.reg [mq p2 q0,mq p3 q0,.q p4 (.nck q3),fq p5 q4 8,lq p6 q5,mq p7 q0,.q p8 (.nck q7),fq p9 q8 8,lq p10 q9,.q p11 (.len q10),.q p12 (.ari .sub q11 (ci 1)),.q p13 (.sll 2 q6 none (some q12) none),.q p14 (.nck q2),fq p15 q14 8,ln (.st q15 q13 1)])
def f184 : Fun := .code [.t p4] (sq [.q p4 (.mv (.c (.bool false)))]
 (.seq (sq [mq p5 q0,.q p6 (ef .text q5 (.c (S [110,105,108]))),mq p7 q6,.g p7 false (mq p8 q1),.g p7 false (.q p9 (ef .text q8 (.c (S [110,105,108])))),.q p10 (.pick q7 (.c (.bool true)) q9)]
 (.cond q10 (sq [mq p11 q0,.q p12 (ef .text q11 (.c (S [110,105,108]))),mq p13 q12,.g p13 true (mq p14 q1),.g p13 true (ks p15 (.fn 221 [q14])),.q p16 (.pick q13 q15 (.c (.bool false))),mq p17 q16,.g p17 false (mq p18 q1),.g p17 false (.q p19 (ef .text q18 (.c (S [110,105,108])))),.g p17 false (mq p20 q19),.g p20 true (mq p21 q0),.g p20 true (ks p22 (.fn 221 [q21])),.g p17 false (.q p23 (.pick q20 q22 (.c (.bool false)))),.q p24 (.pick q17 (.c (.bool true)) q23),mq p4 q24]
 (.ret)) (.skip)))
 (sq [mq p25 q0,mq p26 q1,.q p27 (.eq false false .text q25 q26),mq p28 q27,.g p28 true (mq p29 q0),.g p28 true (ks p30 (.fn 124 [q29])),.q p31 (.pick q28 q30 (.c (.bool false))),mq p32 q31,.g p32 true (mq p33 q0),.g p32 true (.q p34 (ef .text q33 (.c (S [105,110,116])))),.g p32 true (mq p35 q34),.g p35 false (mq p36 q0),.g p35 false (.q p37 (ef .text q36 (.c (S [98,111,111,108])))),.g p32 true (.q p38 (.pick q35 (.c (.bool true)) q37)),.g p32 true (mq p39 q38),.g p39 false (mq p40 q0),.g p39 false (.q p41 (ef .text q40 (.c (S [115,116,114,105,110,103])))),.g p32 true (.q p42 (.pick q39 (.c (.bool true)) q41)),.g p32 true (mq p43 q42),.g p43 false (mq p44 q0),.g p43 false (ks p45 (.fn 214 [q44,(.c (S [42]))])),.g p32 true (.q p46 (.pick q43 (.c (.bool true)) q45)),.g p32 true (mq p47 q46),.g p47 false (mq p48 q0),.g p47 false (ks p49 (.fn 214 [q48,(.c (S [99,104,97,110,32]))])),.g p32 true (.q p50 (.pick q47 (.c (.bool true)) q49)),.q p51 (.pick q32 q50 (.c (.bool false))),mq p4 q51]
 (.ret))))
def f185 : Fun := .code [.t p4] (sq [ls p3 (.box q1),.q p4 (.mv (.c e0))]
 (sq [fq p8 q3 4,lq p9 q8,ks p10 (.fn 216 [q9]),mq p7 q10,.q p11 (.ext q7 0),.q p12 (.ext q7 1),mq p5 q11,mq p6 q12]
 (sq [mq p13 q0,mq p14 q6,mq p15 q14,.g p15 true (fq p16 q3 4),.g p15 true (lq p17 q16),.g p15 true (ks p18 (.fn 214 [q17,(.c (S [99,104,97,110,32]))])),.q p19 (.pick q15 q18 (.c (.bool false))),ks p20 (.fn 32 [q13,q19])]
 (sq [mq p21 q5,mq p4 q21]
 (.ret)))))
def f186 : Fun := .code [.t p2,.t p3] (sq [.q p2 (.mv (ci 0)),.q p3 (.mv (.c (.bool false)))]
 (sq [mq p5 q0,ks p6 (.fn 134 [q5]),mq p4 q6]
 (.seq (sq [mq p7 q0,.q p8 (.nck q7),fq p9 q8 1,lq p10 q9,.q p11 (.len q10),.q p12 (ef .num q11 (ci 0))]
 (.cond q12 (sq [.q p2 (.mv (ci 0)),.q p3 (.mv (.c (.bool false)))]
 (.ret)) (.skip)))
 (sq [mq p13 q0,mq p14 q4,mq p15 q0,.q p16 (.nck q15),fq p17 q16 1,lq p18 q17,.q p19 (.len q18),.q p20 (.ari .rem q14 q19),ks p21 (.fn 136 [q13,q20]),mq p2 q21,.q p3 (.mv (.c (.bool true)))]
 (.ret)))))
def f187 : Fun := .code [.t p6] (sq [.q p6 (.mv (.c .nils))]
 (sq [mq p8 q0,mq p9 q1,mq p10 q2,mq p11 q0,.q p12 (.len q11),.q p13 (.sll 1 q8 (some q9) (some q10) (some q12))]
 (.seq (sq [mq p14 q1,mq p15 q2,.q p16 (.eq false false .num q14 q15)]
 (.cond q16 (sq [mq p17 q0,mq p6 q17]
 (.ret)) (.skip)))
 (sq [mq p18 q0,.q p19 (.len q18),mq p7 q19]
 (sq [mq p20 q0,mq p21 q1,.q p22 (.sll 1 q20 none (some q21) none),mq p23 q0,mq p24 q2,.q p25 (.sll 1 q23 (some q24) none none),ls p26 (.app 1 8 q22 q25),mq p0 q26]
 (sq [mq p27 q0,mq p28 q0,.q p29 (.len q28),mq p30 q7,.q p31 (.sll 1 q27 (some q29) (some q30) none),ln (.clr [o0] q31)]
 (sq [mq p32 q0,mq p6 q32]
 (.ret))))))))
def f189 : Fun := .code [.t p2] (sq [.q p2 (.mv (.c e0))]
 (.seq (sq [mq p3 q0]
 (.cond q3 (sq [.q p2 (.mv (.c (S [116,114,117,101])))]
 (.ret)) (.skip)))
 (sq [.q p2 (.mv (.c (S [102,97,108,115,101])))]
 (.ret))))
def f190 : Fun := .code [.celln p4 8] (sq [ls p4 (.alloc [o0,e0,.nilp,o0,o0,o0,.nilp,.nilp])]
 (.seq (sq [mq p5 q1]
 (.cond q5 (sq [mq p6 q0,.q p7 (.nck q6),fq p8 q7 5,lq p9 q8,ks p10 (.inv q9 0 [(ci 1)]),ln (.st q4 q10 8)]
 (.ret)) (.skip)))
 (sq [mq p11 q0,.q p12 (.nck q11),fq p13 q12 5,lq p14 q13,ks p15 (.inv q14 0 [(ci 0)]),ln (.st q4 q15 8)]
 (.ret))))
def f191 : Fun := .code [.t p10,.t p11,.t p12] (sq [ls p7 (.box q2),.q p10 (.mv (ci 0)),.q p11 (.mv (ci 0)),.q p12 (.mv (.c (.bool false)))]
 (sq [.q p13 (.mv (ci 0))]
 (.seq (sq [fq p14 q7 3,lq p15 q14,.q p16 (.cmp .ge q15 (ci 0))]
 (.cond q16 (.reg [mq p17 q0,.q p18 (.nck q17),fq p19 q18 5,lq p20 q19,mq p21 q1,.q p22 (.nck q21),fq p23 q22 2,lq p24 q23,fq p25 q7 3,lq p26 q25,.q p27 (.ixl 8 q24 q26),.q p28 (.ldn q27 8),.q p29 (.nck q20),mq p30 q20,ks p31 (.inv q30 8 [q28]),mq p13 q31]) (.skip)))
 (.seq (sq [fq p32 q7 4,lq p33 q32,.q p34 (.cmp .ge q33 (ci 0))]
 (.cond q34 (.reg [mq p35 q0,.q p36 (.nck q35),fq p37 q36 5,lq p38 q37,mq p39 q1,.q p40 (.nck q39),fq p41 q40 2,lq p42 q41,fq p43 q7 4,lq p44 q43,.q p45 (.ixl 8 q42 q44),.q p46 (.ldn q45 8),.q p47 (.nck q38),mq p48 q38,ks p49 (.inv q48 8 [q46]),mq p3 q49]) (.skip)))
 (.seq (sq [mq p50 q13,.q p51 (.cmp .lt q50 (ci 0)),mq p52 q51,.g p52 false (mq p53 q3),.g p52 false (mq p54 q13),.g p52 false (.q p55 (.cmp .lt q53 q54)),.q p56 (.pick q52 (.c (.bool true)) q55),mq p57 q56,.g p57 false (mq p58 q3),.g p57 false (mq p59 q4),.g p57 false (.q p60 (.cmp .gt q58 q59)),.q p61 (.pick q57 (.c (.bool true)) q60)]
 (.cond q61 (sq [mq p62 q0,ks p63 (.fn 69 [q62,(.c (S [115,108,105,99,101,32,98,111,117,110,100,115,32,111,117,116,32,111,102,32,114,97,110,103,101]))])]
 (sq [.q p10 (.mv (ci 0)),.q p11 (.mv (ci 0)),.q p12 (.mv (.c (.bool false)))]
 (.ret))) (.skip)))
 (sq [mq p64 q13,mq p65 q3,mq p10 q64,mq p11 q65,.q p12 (.mv (.c (.bool true)))]
 (.ret)))))))
def f192 : Fun := .code [] (sq [ls p3 (.box q1)]
 (sq [mq p7 q0,.q p8 (.nck q7),fq p9 q8 5,lq p10 q9,.q p11 (.ldn q3 8),ks p12 (.inv q10 18 [q11]),mq p4 q12]
 (.seq (.block 0 (sq [mq p14 q4,.q p15 (ef .num q14 (ci 0)),mq p13 q15]
 (.cond q13 (sq [mq p16 q0,ks p17 (.fn 69 [q16,(.c (S [99,108,111,115,101,32,111,102,32,110,105,108,32,99,104,97,110,110,101,108]))])]
 (.ret)) (sq [mq p19 q0,.q p20 (.nck q19),fq p21 q20 5,lq p22 q21,.q p23 (.ldn q3 8),ks p24 (.inv q22 26 [q23]),mq p18 q24]
 (.cond q18 (sq [mq p25 q0,ks p26 (.fn 69 [q25,(.c (S [99,108,111,115,101,32,111,102,32,99,108,111,115,101,100,32,99,104,97,110,110,101,108]))])]
 (.ret)) (.skip))))))
 (sq [mq p27 q0,.q p28 (.nck q27),fq p29 q28 5,lq p30 q29,.q p31 (.ldn q3 8),ks p32 (.inv q30 27 [q31])]
 (.block 1 (.loop (.block 2 (sq [mq p34 q0,.q p35 (.nck q34),fq p36 q35 10,lq p37 q36,mq p38 q4,.q p39 (.look false q37 q38 .nilp true),mq p33 q39,.q p40 (.ext q33 0),.q p41 (.ext q33 1),mq p5 q40,mq p6 q41]
 (.block 3 (sq [mq p43 q6,mq p44 q43,.g p44 true (mq p45 q5),.g p44 true (.q p46 (.nck q45)),.g p44 true (fq p47 q46 1),.g p44 true (lq p48 q47),.g p44 true (.q p49 (.len q48)),.g p44 true (.q p50 (.cmp .gt q49 (ci 0))),.q p51 (.pick q44 q50 (.c (.bool false))),mq p42 q51]
 (.cond q42 (.regc [mq p52 q0,mq p53 q5,.q p54 (.nck q53),fq p55 q54 1,.qr p56 (.ld q55) 0 1,.q p57 (.ixl 2 q56 (ci 0)),.qr p58 (.ldn q57 2) 0 1,mq p59 q0,.q p60 (.nck q59),fq p61 q60 5,lq p62 q61,ks p63 (.inv q62 0 [(ci 0)]),ks p64 (.fn 223 [q52,q58,q63,(.c e0)])]) (sq [mq p66 q6,mq p67 q66,.g p67 true (mq p68 q5),.g p67 true (.q p69 (.nck q68)),.g p67 true (fq p70 q69 0),.g p67 true (lq p71 q70),.g p67 true (.q p72 (.len q71)),.g p67 true (.q p73 (.cmp .gt q72 (ci 0))),.q p74 (.pick q67 q73 (.c (.bool false))),mq p65 q74]
 (.cond q65 (.regc [mq p75 q0,mq p76 q5,.q p77 (.nck q76),fq p78 q77 0,.qr p79 (.ld q78) 0 1,.q p80 (.ixl 2 q79 (ci 0)),.qr p81 (.ldn q80 2) 0 1,mq p82 q0,.q p83 (.nck q82),fq p84 q83 5,lq p85 q84,ks p86 (.inv q85 0 [(ci 0)]),ks p87 (.fn 223 [q75,q81,q86,(.c (S [115,101,110,100,32,111,110,32,99,108,111,115,101,100,32,99,104,97,110,110,101,108]))])]) (.ret))))))))))))))
def f193 : Fun := .code [] (sq [.q p8 (.mv (.c .nils))]
 (.seq (sq [mq p16 q2,.q p17 (.len q16),.q p18 (.mv (ci 0))]
 (.block 0 (.loop (sq [.q p19 (.cmp .lt q18 q17)]
 (.seq (.cond q19 (.skip) (.exit 0))
 (.seq (.block 1 (sq [mq p20 q18,.q p21 (.ixl 20 q16 q18),.q p22 (.ldn q21 20),ls p10 (.alloc [o0,o0,e0,.nilp,o0,o0,o0,.nilp,.nilp,o0,e0,.nilp,o0,o0,o0,.nilp,.nilp,o0,o0,(.bool false)]),mq p9 q20,ln (.st q10 q22 20)]
 (sq [mq p23 q0,.q p24 (.ldn q10 20),ks p25 (.fn 224 [q23,q24])]
 (.cond q25 (.reg [mq p26 q8,mq p27 q9,ls p28 (.bsl 1 [o0] [(0,1,q27)]),ls p29 (.app 1 8 q26 q28),mq p8 q29]) (.skip)))))
 (.reg [.q p30 (.ari .add q18 (ci 1)),mq p18 q30])))))))
 (.block 2 (sq [mq p105 q8,.q p106 (.len q105),.q p107 (ef .num q106 (ci 1)),mq p104 q107]
 (.cond q104 (.reg [mq p108 q0,mq p109 q1,mq p110 q2,mq p111 q8,.q p112 (.ixl 1 q111 (ci 0)),lq p113 q112,.q p114 (.ixl 20 q110 q113),.q p115 (.ldn q114 20),ks p116 (.fn 225 [q108,q109,q115])]) (sq [mq p118 q8,.q p119 (.len q118),.q p120 (.cmp .gt q119 (ci 1)),mq p117 q120]
 (.cond q117 (.reg [mq p121 q0,mq p122 q1,mq p123 q2,mq p124 q8,mq p125 q0,.q p126 (.nck q125),fq p127 q126 6,lq p128 q127,ks p129 (.fn 134 [q128]),mq p130 q8,.q p131 (.len q130),.q p132 (.ari .rem q129 q131),.q p133 (.ixl 1 q124 q132),lq p134 q133,.q p135 (.ixl 20 q123 q134),.q p136 (.ldn q135 20),ks p137 (.fn 225 [q121,q122,q136])]) (sq [mq p139 q3,.q p140 (.cmp .ge q139 (ci 0)),mq p138 q140]
 (.cond q138 (.reg [mq p141 q1,mq p142 q3,.q p143 (.nck q141),fq p144 q143 1,ln (.st q144 q142 1)]) (sq [mq p31 q0,.q p32 (.nck q31),fq p33 q32 8,lq p34 q33,mq p35 q0,.q p36 (.nck q35),fq p37 q36 9,lq p38 q37,.q p39 (.ixl 1 q34 q38),lq p40 q39,mq p41 q2,.q p42 (.nck q40),fq p43 q42 1,ln (.st q43 q41 1)]
 (.seq (sq [mq p44 q2,.q p45 (.len q44),.q p46 (.mv (ci 0))]
 (.block 3 (.loop (sq [.q p47 (.cmp .lt q46 q45)]
 (.seq (.cond q47 (.skip) (.exit 3))
 (.seq (.block 4 (sq [mq p48 q46,.q p49 (.ixl 20 q44 q46),.q p50 (.ldn q49 20),ls p12 (.alloc [o0,o0,e0,.nilp,o0,o0,o0,.nilp,.nilp,o0,e0,.nilp,o0,o0,o0,.nilp,.nilp,o0,o0,(.bool false)]),mq p11 q48,ln (.st q12 q50 20)]
 (sq [mq p51 q0,.q p52 (.nck q51),fq p53 q52 5,lq p54 q53,fq p55 q12 1,.q p56 (.ldn q55 8),ks p57 (.inv q54 18 [q56]),mq p13 q57]
 (.block 5 (sq [mq p77 q13,.q p78 (ef .num q77 (ci 0)),mq p76 q78]
 (.cond q76 (.skip) (sq [fq p80 q12 0,lq p81 q80,.q p82 (ef .num q81 (ci 1)),mq p79 q82]
 (.cond q79 (sq [mq p83 q0,mq p84 q13,ks p85 (.fn 226 [q83,q84]),mq p14 q85]
 (.regc [mq p86 q14,mq p87 q14,.q p88 (.nck q87),fq p89 q88 1,.qr p90 (.ld q89) 0 1,mq p91 q0,.q p92 (.nck q91),fq p93 q92 9,lq p94 q93,mq p95 q11,.q p96 (.build [o0,o0] [(0,1,q94),(1,1,q95)]),ls p97 (.bsl 1 [o0,o0] [(0,2,q96)]),ls p98 (.app 2 16 q90 q97),.q p99 (.nck q86),fq p100 q99 1,ln (.st q100 q98 1)])) (sq [mq p58 q0,mq p59 q13,ks p60 (.fn 226 [q58,q59]),mq p15 q60]
 (.regc [mq p61 q15,mq p62 q15,.q p63 (.nck q62),fq p64 q63 0,.qr p65 (.ld q64) 0 1,mq p66 q0,.q p67 (.nck q66),fq p68 q67 9,lq p69 q68,mq p70 q11,.q p71 (.build [o0,o0] [(0,1,q69),(1,1,q70)]),ls p72 (.bsl 1 [o0,o0] [(0,2,q71)]),ls p73 (.app 2 16 q65 q72),.q p74 (.nck q61),fq p75 q74 0,ln (.st q75 q73 1)]))))))))))
 (.reg [.q p101 (.ari .add q46 (ci 1)),mq p46 q101])))))))
 (.reg [mq p102 q0,ks p103 (.fn 133 [q102])]))))))))))))
def f194 : Fun := .code [] (sq [ls p5 (.box q2)]
 (.seq (.regc [mq p7 q1,.q p8 (.nck q7),fq p9 q8 2,.qr p10 (.ld q9) 0 1,fq p11 q5 1,.qr p12 (.ld q11) 0 1,.q p13 (.ixl 8 q10 q12),.qr p14 (.ldn q13 8) 0 1,ls p6 (.alloc [o0,e0,.nilp,o0,o0,o0,.nilp,.nilp]),ln (.st q6 q14 8)])
 (.seq (sq [fq p15 q5 0,lq p16 q15,.q p17 (ef .num q16 (ci 29))]
 (.cond q17 (.reg [mq p18 q1,.q p19 (.nck q18),fq p20 q19 2,lq p21 q20,fq p22 q5 2,lq p23 q22,.q p24 (.ixl 8 q21 q23),.q p25 (.ldn q24 8),ln (.st q6 q25 8)]) (.skip)))
 (.seq (sq [mq p26 q0,.q p27 (.nck q26),fq p28 q27 5,lq p29 q28,.q p30 (.ldn q6 8),ks p31 (.inv q29 28 [q30])]
 (.cond q31 (sq [mq p32 q0,ks p33 (.fn 69 [q32,(.c (S [110,105,108,32,100,101,114,101,102,101,114,101,110,99,101]))])]
 (.ret)) (.skip)))
 (sq [fq p34 q5 0,lq p35 q34,.q p36 (ef .num q35 (ci 29))]
 (.cond q36 (.regc [mq p37 q1,.q p38 (.nck q37),fq p39 q38 2,.qr p40 (.ld q39) 0 1,fq p41 q5 1,.qr p42 (.ld q41) 0 1,mq p43 q0,.q p44 (.nck q43),fq p45 q44 5,lq p46 q45,.q p47 (.ldn q6 8),fq p48 q5 3,lq p49 q48,ks p50 (.inv q46 29 [q47,q49]),.q p51 (.ixl 8 q40 q42),ln (.st q51 q50 8)]) (.reg [mq p52 q0,.q p53 (.nck q52),fq p54 q53 5,lq p55 q54,.q p56 (.ldn q6 8),fq p57 q5 2,lq p58 q57,mq p59 q1,.q p60 (.nck q59),fq p61 q60 2,lq p62 q61,fq p63 q5 3,lq p64 q63,.q p65 (.ixl 8 q62 q64),.q p66 (.ldn q65 8),.q p67 (.nck q55),mq p68 q55,ks p69 (.inv q68 30 [q56,q58,q66])])))))))
def f195 : Fun := .code [] (sq [ls p5 (.box q2)]
 (.seq (.regc [mq p11 q1,.q p12 (.nck q11),fq p13 q12 2,.qr p14 (.ld q13) 0 1,fq p15 q5 1,.qr p16 (.ld q15) 0 1,.q p17 (.ixl 8 q14 q16),.qr p18 (.ldn q17 8) 0 1,fq p19 q5 2,.qr p20 (.ld q19) 0 2,ls p6 (.alloc [o0,e0,.nilp,o0,o0,o0,.nilp,.nilp]),ln (.st q6 q18 8),mq p7 q20])
 (.seq (sq [fq p21 q5 0,lq p22 q21,.q p23 (ef .num q22 (ci 34))]
 (.cond q23 (.regc [mq p24 q1,.q p25 (.nck q24),fq p26 q25 2,lq p27 q26,fq p28 q5 2,lq p29 q28,.q p30 (.ixl 8 q27 q29),.q p31 (.ldn q30 8),fq p32 q5 3,.qr p33 (.ld q32) 0 1,ln (.st q6 q31 8),mq p7 q33]) (.skip)))
 (sq [mq p34 q0,.q p35 (.nck q34),fq p36 q35 5,lq p37 q36,mq p38 q1,.q p39 (.nck q38),fq p40 q39 2,lq p41 q40,mq p42 q7,.q p43 (.ixl 8 q41 q42),.q p44 (.ldn q43 8),.q p45 (.nck q37),mq p46 q37,ks p47 (.inv q46 8 [q44]),mq p8 q47]
 (.seq (sq [mq p49 q0,.q p50 (.nck q49),fq p51 q50 5,lq p52 q51,.q p53 (.ldn q6 8),ks p54 (.inv q52 23 [q53]),mq p48 q54,.q p55 (.ext q48 0),.q p56 (.ext q48 1),mq p9 q55,mq p10 q56]
 (sq [mq p57 q8,.q p58 (.cmp .lt q57 (ci 0)),mq p59 q58,.g p59 false (mq p60 q8),.g p59 false (mq p61 q9),.g p59 false (.q p62 (.cmp .ge q60 q61)),.q p63 (.pick q59 (.c (.bool true)) q62)]
 (.cond q63 (sq [mq p64 q0,ks p65 (.fn 69 [q64,(.c (S [105,110,100,101,120,32,111,117,116,32,111,102,32,114,97,110,103,101]))])]
 (.ret)) (.skip))))
 (sq [fq p66 q5 0,lq p67 q66,.q p68 (ef .num q67 (ci 34))]
 (.cond q68 (.regc [mq p69 q1,.q p70 (.nck q69),fq p71 q70 2,.qr p72 (.ld q71) 0 1,fq p73 q5 1,.qr p74 (.ld q73) 0 1,mq p75 q0,.q p76 (.nck q75),fq p77 q76 5,lq p78 q77,.q p79 (.ldn q6 8),mq p80 q8,ks p81 (.inv q78 31 [q79,q80]),.q p82 (.ixl 8 q72 q74),ln (.st q82 q81 8)]) (.reg [mq p83 q0,.q p84 (.nck q83),fq p85 q84 5,lq p86 q85,.q p87 (.ldn q6 8),mq p88 q8,mq p89 q1,.q p90 (.nck q89),fq p91 q90 2,lq p92 q91,fq p93 q5 3,lq p94 q93,.q p95 (.ixl 8 q92 q94),.q p96 (.ldn q95 8),.q p97 (.nck q86),mq p98 q86,ks p99 (.inv q98 32 [q87,q88,q96])]))))))))
def f196 : Fun := .code [.t p6] (sq [.q p6 (.mv (ci 0))]
 (.seq (sq [mq p9 q0,ls p10 (.rng q9)]
 (.block 0 (.loop (sq [ls p11 (.nxt q10),.q p12 (.ext q11 0)]
 (.seq (.cond q12 (.skip) (.exit 0))
 (.block 1 (sq [.q p13 (.ext q11 1),.q p14 (.ext q11 2),mq p7 q13,mq p8 q14]
 (sq [mq p15 q1,mq p16 q8,ks p17 (.fv q15 [q16]),mq p18 q2,.q p19 (.eq false false .bool q17 q18)]
 (.cond q19 (sq [mq p20 q7,mq p6 q20]
 (.ret)) (.skip))))))))))
 (sq [.q p6 (.mv (.c (.int .i64 (.lit (.negSucc 0)))))]
 (.ret))))
def f197 : Fun := .code [] (sq [mq p10 q1,mq p8 q10]
 (.block 0 (.loop (.block 1 (sq [mq p11 q8,.q p12 (.ari .mul (ci 2) q11),.q p13 (.ari .add q12 (ci 1)),mq p9 q13]
 (.seq (sq [mq p14 q9,mq p15 q2,.q p16 (.cmp .ge q14 q15)]
 (.cond q16 (.exit 0) (.skip)))
 (.seq (sq [mq p17 q9,.q p18 (.ari .add q17 (ci 1)),mq p19 q2,.q p20 (.cmp .lt q18 q19),mq p21 q20,.g p21 true (mq p22 q0),.g p21 true (mq p23 q3),.g p21 true (mq p24 q9),.g p21 true (.q p25 (.ari .add q23 q24)),.g p21 true (.q p26 (.ixl 1 q22 q25)),.g p21 true (lq p27 q26),.g p21 true (mq p28 q0),.g p21 true (mq p29 q3),.g p21 true (mq p30 q9),.g p21 true (.q p31 (.ari .add q29 q30)),.g p21 true (.q p32 (.ari .add q31 (ci 1))),.g p21 true (.q p33 (.ixl 1 q28 q32)),.g p21 true (lq p34 q33),.g p21 true (ks p35 (.fn 154 [q27,q34])),.q p36 (.pick q21 q35 (.c (.bool false)))]
 (.cond q36 (.reg [mq p37 q9,.q p38 (.ari .add q37 (ci 1)),mq p9 q38]) (.skip)))
 (.seq (sq [mq p39 q0,mq p40 q3,mq p41 q8,.q p42 (.ari .add q40 q41),.q p43 (.ixl 1 q39 q42),lq p44 q43,mq p45 q0,mq p46 q3,mq p47 q9,.q p48 (.ari .add q46 q47),.q p49 (.ixl 1 q45 q48),lq p50 q49,ks p51 (.fn 154 [q44,q50]),.q p52 (.not q51)]
 (.cond q52 (.ret) (.skip)))
 (sq [mq p53 q0,mq p54 q3,mq p55 q8,.q p56 (.ari .add q54 q55),mq p57 q0,mq p58 q3,mq p59 q9,.q p60 (.ari .add q58 q59),mq p61 q0,mq p62 q3,mq p63 q9,.q p64 (.ari .add q62 q63),.q p65 (.ixl 1 q61 q64),lq p66 q65,mq p67 q0,mq p68 q3,mq p69 q8,.q p70 (.ari .add q68 q69),.q p71 (.ixl 1 q67 q70),lq p72 q71,.q p73 (.ixl 1 q53 q56),ln (.st q73 q66 1),.q p74 (.ixl 1 q57 q60),ln (.st q74 q72 1)]
 (.reg [mq p75 q9,mq p8 q75]))))))))))
def f198 : Fun := .code [.t p2] (sq [.q p2 (.mv (.c (.int .u64 (.lit (.ofNat 0)))))]
 (sq [mq p3 q0,.q p4 (.conv .u64 q3),ks p5 (.fn 110 [q4]),.q p6 (.bits .shl (.c (.int .u64 (.lit (.ofNat 1)))) q5),mq p2 q6]
 (.ret)))
def f199 : Fun := .code [.t p2] (sq [.q p2 (.mv (.c (.int .u64 (.lit (.ofNat 0)))))]
 (sq [mq p3 q0,.q p4 (.nck q3),lq p5 q4,mq p6 q0,.q p7 (.nck q6),lq p8 q7,.q p9 (.bits .shl q8 (.c (.int .u64 (.lit (.ofNat 13))))),.q p10 (.bits .xor q5 q9),.q p11 (.nck q3),ln (.st q11 q10 1)]
 (sq [mq p12 q0,.q p13 (.nck q12),lq p14 q13,mq p15 q0,.q p16 (.nck q15),lq p17 q16,.q p18 (.bits .shr q17 (.c (.int .u64 (.lit (.ofNat 7))))),.q p19 (.bits .xor q14 q18),.q p20 (.nck q12),ln (.st q20 q19 1)]
 (sq [mq p21 q0,.q p22 (.nck q21),lq p23 q22,mq p24 q0,.q p25 (.nck q24),lq p26 q25,.q p27 (.bits .shl q26 (.c (.int .u64 (.lit (.ofNat 17))))),.q p28 (.bits .xor q23 q27),.q p29 (.nck q21),ln (.st q29 q28 1)]
 (sq [mq p30 q0,.q p31 (.nck q30),lq p32 q31,mq p2 q32]
 (.ret))))))
def f200 : Fun := .code [.t p6] (sq [.q p6 (.mv (ci 0))]
 (sq [mq p7 q0,mq p8 q1,.q p9 (.ari .sub q8 (ci 1)),mq p10 q1,mq p11 q1,.q p12 (.ari .add q11 (ci 1)),mq p13 q2,ks p14 (.fn 201 [q7,q9,q10,q12,q13]),mq p6 q14]
 (.ret)))
def f201 : Fun := .code [.t p10] (sq [.q p10 (.mv (ci 0))]
 (sq [mq p12 q0,mq p13 q1,mq p14 q2,mq p15 q4,ks p16 (.fn 227 [q12,q13,q14,q15]),mq p11 q16,.q p17 (.ext q11 0),.q p18 (.ext q11 1),mq p1 q17,mq p2 q18]
 (sq [mq p20 q0,mq p21 q2,mq p22 q3,mq p23 q4,ks p24 (.fn 227 [q20,q21,q22,q23]),mq p19 q24,.q p25 (.ext q19 0),.q p26 (.ext q19 1),mq p2 q25,mq p3 q26]
 (sq [mq p28 q0,mq p29 q1,mq p30 q2,mq p31 q4,ks p32 (.fn 227 [q28,q29,q30,q31]),mq p27 q32,.q p33 (.ext q27 0),.q p34 (.ext q27 1),mq p1 q33,mq p2 q34]
 (sq [mq p35 q2,mq p10 q35]
 (.ret))))))
def f202 : Fun := .code [.t p2] (sq [.q p2 (.mv (.c (.bool false)))]
 (sq [mq p3 q0,mq p4 q0,.q p5 (.eq true false .num q3 q4),mq p2 q5]
 (.ret)))
def f203 : Fun := .code [.t p4] (sq [.q p4 (.mv (ci 0))]
 (sq [mq p5 q1,.q p6 (.ari .sub q5 (ci 1)),mq p4 q6]
 (.ret)))
def f204 : Fun := .code [.t p4] (sq [ls p3 (.box q1),.q p4 (.mv (ci 0))]
 (sq [.q p5 (.mv (.c (.int .i64 (.lit (.negSucc 0)))))]
 (.seq (sq [fq p10 q3 6,lq p11 q10,.q p12 (.len q11),.q p13 (ef .num q12 (ci 2))]
 (.cond q13 (.reg [mq p14 q0,fq p15 q3 6,lq p16 q15,.q p17 (.ixl 7 q16 (ci 1)),.q p18 (.ldn q17 7),ks p19 (.fn 112 [q14,q18]),mq p5 q19]) (.reg [mq p20 q0,ks p21 (.fn 159 [q20,(.c (S [105,110,116])),(ci 0)]),mq p5 q21])))
 (sq [fq p23 q3 4,lq p24 q23,ks p25 (.fn 228 [q24]),mq p22 q25,.q p26 (.ext q22 0),.q p27 (.ext q22 1),mq p6 q26,mq p7 q27]
 (sq [.q p8 (.mv (ci 33))]
 (.seq (sq [fq p28 q3 4,lq p29 q28,.q p30 (.ixs q29 (ci 0)),.q p31 (ef .num q30 (.c (B 91)))]
 (.cond q31 (.reg [.q p8 (.mv (ci 32))]) (.skip)))
 (sq [mq p32 q0,fq p33 q3 4,lq p34 q33,ks p35 (.fn 46 [q32,q34]),mq p9 q35]
 (sq [mq p36 q0,mq p37 q8,mq p38 q9,mq p39 q5,mq p40 q6,ks p41 (.fn 206 [q40]),.q p42 (.build [o0,o0,o0,o0,o0,.nils] [(0,1,q37),(1,1,q38),(2,1,q39),(3,1,q41)]),ks p43 (.fn 48 [q36,q42])]
 (sq [mq p44 q9,mq p4 q44]
 (.ret))))))))))
def f205 : Fun := .code [.t p4] (sq [ls p3 (.box q1),.q p4 (.mv (ci 0))]
 (sq [mq p5 q0,.q p6 (.nck q5),fq p7 q6 0,fq p8 q7 0,lq p9 q8,.q p10 (.mkfn 230 [q3]),ks p11 (.fn 229 [q9,q10]),mq p4 q11]
 (.ret)))
def f206 : Fun := .code [.t p2] (sq [.q p2 (.mv (ci 0))]
 (.seq (sq [mq p3 q0,ks p4 (.fn 25 [q3])]
 (.cond q4 (sq [.q p2 (.mv (ci 1))]
 (.ret)) (.skip)))
 (sq [.q p2 (.mv (ci 0))]
 (.ret))))
def f207 : Fun := .code [.t p6] (sq [ls p5 (.box q2),.q p6 (.mv (ci 0))]
 (.seq (sq [mq p9 q0,.q p10 (.nck q9),fq p11 q10 0,fq p12 q11 0,lq p13 q12,.q p14 (.len q13),.q p15 (.mv (ci 0))]
 (.block 0 (.loop (sq [.q p16 (.cmp .lt q15 q14)]
 (.seq (.cond q16 (.skip) (.exit 0))
 (.seq (.block 1 (sq [.q p17 (.ixl 2 q13 q15),.q p18 (.ldn q17 2),ls p8 (.alloc [e0,.nils]),ln (.st q8 q18 2)]
 (sq [fq p19 q8 0,lq p20 q19,.q p21 (.cat (.c (S [42])) q20),mq p22 q1,.q p23 (.eq false false .text q21 q22)]
 (.cond q23 (sq [fq p24 q8 1,lq p25 q24,.q p26 (.mkfn 232 [q5]),ks p27 (.fn 231 [q25,q26]),mq p6 q27]
 (.ret)) (.skip)))))
 (.reg [.q p28 (.ari .add q15 (ci 1)),mq p15 q28])))))))
 (sq [.q p6 (.mv (.c (.int .i64 (.lit (.negSucc 0)))))]
 (.ret))))
def f208 : Fun := .code [] (sq [mq p7 q0,.q p8 (.nck q7),fq p9 q8 0,fq p10 q9 1,lq p11 q10,mq p12 q1,.q p13 (.ari .sub q12 (ci 1)),.q p14 (.ixl 4 q11 q13),.q p15 (.ldn q14 4),ls p6 (.alloc [e0,e0,o0,(.bool false)]),ln (.st q6 q15 4)]
 (.block 0 (sq [fq p27 q6 2,lq p28 q27,.q p29 (ef .num q28 (ci 0)),mq p26 q29]
 (.cond q26 (.reg [mq p30 q0,mq p31 q0,mq p32 q1,ks p33 (.fn 203 [q31,q32]),mq p34 q2,.q p35 (.build [o0,o0,o0,o0,o0,.nils] [(0,1,(ci 7)),(1,1,q33),(2,1,q34)]),ks p36 (.fn 48 [q30,q35])]) (sq [fq p38 q6 3,lq p39 q38,mq p37 q39]
 (.cond q37 (.reg [mq p40 q0,mq p41 q0,.q p42 (.nck q41),fq p43 q42 8,lq p44 q43,mq p45 q1,.q p46 (.look false q44 q45 o0 false),mq p47 q2,.q p48 (.build [o0,o0,o0,o0,o0,.nils] [(0,1,(ci 10)),(1,1,q46),(2,1,q47)]),ks p49 (.fn 48 [q40,q48])]) (.reg [mq p16 q0,mq p17 q0,.q p18 (.nck q17),fq p19 q18 8,lq p20 q19,mq p21 q1,.q p22 (.look false q20 q21 o0 false),mq p23 q2,.q p24 (.build [o0,o0,o0,o0,o0,.nils] [(0,1,(ci 5)),(1,1,q22),(2,1,q23)]),ks p25 (.fn 48 [q16,q24])])))))))
def f209 : Fun := .code [.celln p2 7] (sq [ls p2 (.alloc [o0,e0,o0,o0,e0,o0,.nils])]
 (sq [mq p9 q0,ks p10 (.fn 29 [q9]),ls p3 (.alloc [o0,e0,o0,o0]),ln (.st q3 q10 4)]
 (sq [mq p11 q0,.q p12 (.nck q11),fq p13 q12 1,lq p14 q13,.q p15 (.ari .add q14 (ci 1)),.q p16 (.nck q11),fq p17 q16 1,ln (.st q17 q15 1)]
 (.seq (sq [fq p18 q3 1,lq p19 q18,.q p20 (ef .text q19 (.c (S [102,111,114])))]
 (.cond q20 (sq [mq p21 q0,fq p22 q3 3,lq p23 q22,ks p24 (.fn 233 [q21,q23]),ln (.st q2 q24 7)]
 (.ret)) (.skip)))
 (sq [.q p4 (.mv (.c .nils))]
 (sq [.q p5 (.mv (ci 25))]
 (.seq (sq [fq p25 q3 1,lq p26 q25,.q p27 (ef .text q26 (.c (S [115,119,105,116,99,104])))]
 (.cond q27 (sq [.q p5 (.mv (ci 23))]
 (sq [ks p28 (.fn 89 []),ls p6 (.alloc [o0,e0,o0,o0,e0,o0,.nils]),ln (.st q6 q28 7)]
 (.seq (sq [mq p29 q0,ks p30 (.fn 55 [q29,(.c (S [123]))]),.q p31 (.not q30)]
 (.cond q31 (.reg [mq p32 q0,ks p33 (.fn 234 [q32]),ln (.st q6 q33 7)]) (.skip)))
 (.reg [mq p34 q4,.q p35 (.ldn q6 7),ls p36 (.bsl 1 [o0,e0,o0,o0,e0,o0,.nils] [(0,7,q35)]),ls p37 (.app 7 88 q34 q36),mq p4 q37])))) (.skip)))
 (sq [mq p38 q0,ks p39 (.fn 31 [q38,(.c (S [123]))])]
 (sq [mq p40 q0,.q p41 (.nck q40),fq p42 q41 3,lq p43 q42,mq p7 q43]
 (sq [mq p44 q0,.q p45 (.nck q44),fq p46 q45 3,ln (.st q46 (.c (.bool false)) 1)]
 (.seq (.block 0 (.loop (.seq (sq [mq p47 q0,.q p48 (.nck q47),fq p49 q48 2,lq p50 q49,.q p51 (.cmp .lt q50 (ci 0)),mq p52 q51,.g p52 true (mq p53 q0),.g p52 true (ks p54 (.fn 55 [q53,(.c (S [125]))])),.g p52 true (.q p55 (.not q54)),.q p56 (.pick q52 q55 (.c (.bool false)))]
 (.cond q56 (.skip) (.exit 0)))
 (.block 1 (sq [mq p57 q0,fq p58 q3 1,lq p59 q58,.q p60 (ef .text q59 (.c (S [115,119,105,116,99,104]))),ks p61 (.fn 235 [q57,q60]),ls p8 (.alloc [o0,e0,o0,o0,e0,o0,.nils]),ln (.st q8 q61 7)]
 (.reg [mq p62 q4,.q p63 (.ldn q8 7),ls p64 (.bsl 1 [o0,e0,o0,o0,e0,o0,.nils] [(0,7,q63)]),ls p65 (.app 7 88 q62 q64),mq p4 q65]))))))
 (sq [mq p66 q0,mq p67 q7,.q p68 (.nck q66),fq p69 q68 3,ln (.st q69 q67 1)]
 (sq [mq p70 q0,ks p71 (.fn 31 [q70,(.c (S [125]))])]
 (sq [mq p72 q5,fq p73 q3 3,lq p74 q73,mq p75 q4,ks p76 (.fn 57 [q72,q74,(.c e0),q75]),ln (.st q2 q76 7)]
 (.ret)))))))))))))))
def f210 : Fun := .code [.t p4] (sq [.q p4 (.mv (.c (.bool false)))]
 (sq [mq p5 q0,.q p6 (.nck q5),fq p7 q6 1,lq p8 q7,.q p9 (.ari .add q8 (ci 1)),mq p10 q0,.q p11 (.nck q10),fq p12 q11 0,lq p13 q12,.q p14 (.len q13),.q p15 (.cmp .lt q9 q14),mq p16 q15,.g p16 true (mq p17 q0),.g p16 true (.q p18 (.nck q17)),.g p16 true (fq p19 q18 0),.g p16 true (lq p20 q19),.g p16 true (mq p21 q0),.g p16 true (.q p22 (.nck q21)),.g p16 true (fq p23 q22 1),.g p16 true (lq p24 q23),.g p16 true (.q p25 (.ari .add q24 (ci 1))),.g p16 true (.q p26 (.ixl 4 q20 q25)),.g p16 true (fq p27 q26 0),.g p16 true (lq p28 q27),.g p16 true (.q p29 (ef .num q28 (ci 5))),.q p30 (.pick q16 q29 (.c (.bool false))),mq p31 q30,.g p31 true (mq p32 q0),.g p31 true (.q p33 (.nck q32)),.g p31 true (fq p34 q33 0),.g p31 true (lq p35 q34),.g p31 true (mq p36 q0),.g p31 true (.q p37 (.nck q36)),.g p31 true (fq p38 q37 1),.g p31 true (lq p39 q38),.g p31 true (.q p40 (.ari .add q39 (ci 1))),.g p31 true (.q p41 (.ixl 4 q35 q40)),.g p31 true (fq p42 q41 1),.g p31 true (lq p43 q42),.g p31 true (mq p44 q1),.g p31 true (.q p45 (.eq false false .text q43 q44)),.q p46 (.pick q31 q45 (.c (.bool false))),mq p4 q46]
 (.ret)))
def f211 : Fun := .code [.celln p2 7] (sq [ls p2 (.alloc [o0,e0,o0,o0,e0,o0,.nils])]
 (sq [mq p8 q0,ks p9 (.fn 29 [q8]),.q p10 (.fld q9 3),mq p3 q10]
 (sq [mq p11 q0,ks p12 (.fn 31 [q11,(.c (S [105,102]))])]
 (sq [mq p13 q0,ks p14 (.fn 234 [q13]),ls p4 (.alloc [o0,e0,o0,o0,e0,o0,.nils]),ln (.st q4 q14 7)]
 (sq [mq p15 q0,ks p16 (.fn 90 [q15]),ls p5 (.alloc [o0,e0,o0,o0,e0,o0,.nils]),ln (.st q5 q16 7)]
 (sq [ks p17 (.fn 89 []),ls p6 (.alloc [o0,e0,o0,o0,e0,o0,.nils]),ln (.st q6 q17 7)]
 (sq [mq p18 q0,ks p19 (.fn 53 [q18,(.c (S [101,108,115,101]))]),mq p7 q19]
 (.seq (sq [mq p20 q7,mq p21 q20,.g p21 true (mq p22 q0),.g p21 true (ks p23 (.fn 55 [q22,(.c (S [105,102]))])),.q p24 (.pick q21 q23 (.c (.bool false)))]
 (.cond q24 (.reg [mq p25 q0,ks p26 (.fn 211 [q25]),ln (.st q6 q26 7)]) (sq [mq p27 q7]
 (.cond q27 (.reg [mq p28 q0,ks p29 (.fn 90 [q28]),ln (.st q6 q29 7)]) (.skip)))))
 (sq [mq p30 q3,.q p31 (.ldn q4 7),.q p32 (.ldn q5 7),.q p33 (.ldn q6 7),ls p34 (.bsl 3 [o0,e0,o0,o0,e0,o0,.nils,o0,e0,o0,o0,e0,o0,.nils,o0,e0,o0,o0,e0,o0,.nils] [(0,7,q31),(7,7,q32),(14,7,q33)]),ks p35 (.fn 57 [(ci 21),q30,(.c e0),q34]),ln (.st q2 q35 7)]
 (.ret))))))))))
def f212 : Fun := .code [.celln p4 7] (sq [ls p3 (.box q1),ls p4 (.alloc [o0,e0,o0,o0,e0,o0,.nils])]
 (.seq (sq [fq p13 q3 1,lq p14 q13]
 (.block 0 (sq [.q p16 (ef .text q14 (.c (S [118,97,114]))),mq p15 q16]
 (.cond q15 (sq [mq p17 q0,ks p18 (.fn 54 [q17]),mq p5 q18]
 (sq [mq p19 q0,ks p20 (.fn 56 [q19]),ks p21 (.fn 89 []),ls p22 (.bsl 2 [o0,e0,o0,o0,e0,o0,.nils,o0,e0,o0,o0,e0,o0,.nils] [(0,7,q20),(7,7,q21)]),mq p6 q22]
 (sq [mq p23 q0,ks p24 (.fn 53 [q23,(.c (S [61]))]),mq p7 q24]
 (.seq (sq [mq p25 q7]
 (.cond q25 (.reg [mq p26 q6,mq p27 q0,ks p28 (.fn 236 [q27]),.q p29 (.ixl 7 q26 (ci 1)),ln (.st q29 q28 7)]) (.skip)))
 (sq [fq p30 q3 3,lq p31 q30,mq p32 q5,mq p33 q6,ks p34 (.fn 57 [(ci 18),q31,q32,q33]),ln (.st q4 q34 7)]
 (.ret)))))) (.seq (sq [.q p36 (ef .text q14 (.c (S [98,114,101,97,107]))),mq p35 q36]
 (.cond q35 (.skip) (.reg [.q p37 (ef .text q14 (.c (S [99,111,110,116,105,110,117,101]))),mq p35 q37])))
 (.cond q35 (sq [.q p8 (.mv (.c e0))]
 (.seq (sq [mq p38 q0,ks p39 (.fn 29 [q38]),.q p40 (.fld q39 0),.q p41 (ef .num q40 (ci 1))]
 (.cond q41 (.reg [mq p42 q0,ks p43 (.fn 54 [q42]),mq p8 q43]) (.skip)))
 (sq [.q p9 (.mv (ci 27))]
 (.seq (sq [fq p44 q3 1,lq p45 q44,.q p46 (ef .text q45 (.c (S [99,111,110,116,105,110,117,101])))]
 (.cond q46 (.reg [.q p9 (.mv (ci 28))]) (.skip)))
 (sq [mq p47 q9,fq p48 q3 3,lq p49 q48,mq p50 q8,ks p51 (.fn 57 [q47,q49,q50,(.c .nils)]),ln (.st q4 q51 7)]
 (.ret)))))) (sq [.q p53 (ef .text q14 (.c (S [102,97,108,108,116,104,114,111,117,103,104]))),mq p52 q53]
 (.cond q52 (sq [fq p54 q3 3,lq p55 q54,ks p56 (.fn 57 [(ci 29),q55,(.c e0),(.c .nils)]),ln (.st q4 q56 7)]
 (.ret)) (sq [.q p58 (ef .text q14 (.c (S [114,101,116,117,114,110]))),mq p57 q58]
 (.cond q57 (.seq (sq [mq p59 q0,ks p60 (.fn 87 [q59,(.c (S [32,59,32,125,32,99,97,115,101,32,100,101,102,97,117,108,116,32]))])]
 (.cond q60 (.seq (.regc [fq p61 q3 3,.qr p62 (.ld q61) 0 2,ks p63 (.fn 89 []),ls p64 (.bsl 1 [o0,e0,o0,o0,e0,o0,.nils] [(0,7,q63)]),ks p65 (.fn 57 [(ci 30),q62,(.c e0),q64]),ln (.st q4 q65 7)])
 (.ret)) (.skip)))
 (sq [mq p66 q0,ks p67 (.fn 236 [q66]),ls p10 (.alloc [o0,e0,o0,o0,e0,o0,.nils]),ln (.st q10 q67 7)]
 (sq [fq p68 q3 3,lq p69 q68,.q p70 (.ldn q10 7),ls p71 (.bsl 1 [o0,e0,o0,o0,e0,o0,.nils] [(0,7,q70)]),ks p72 (.fn 57 [(ci 30),q69,(.c e0),q71]),ln (.st q4 q72 7)]
 (.ret)))) (.skip)))))))))))
 (sq [mq p73 q0,ks p74 (.fn 237 [q73]),ls p11 (.alloc [o0,e0,o0,o0,e0,o0,.nils]),ln (.st q11 q74 7)]
 (.seq (sq [mq p75 q0,.q p76 (.nck q75),fq p77 q76 2,lq p78 q77,.q p79 (.cmp .ge q78 (ci 0)),mq p80 q79,.g p80 false (.q p81 (.ldn q11 7)),.g p80 false (ks p82 (.fn 238 [q81])),.g p80 false (.q p83 (.not q82)),.q p84 (.pick q80 (.c (.bool true)) q83),mq p85 q84,.g p85 false (mq p86 q0),.g p85 false (.q p87 (.nck q86)),.g p85 false (fq p88 q87 4),.g p85 false (lq p89 q88),.q p90 (.pick q85 (.c (.bool true)) q89)]
 (.cond q90 (sq [mq p91 q0,ks p92 (.fn 59 [q91]),ln (.st q4 q92 7)]
 (.ret)) (.skip)))
 (sq [.q p12 (.mv (ci 31))]
 (.seq (sq [fq p93 q3 1,lq p94 q93,.q p95 (ef .text q94 (.c (S [100,101,102,101,114])))]
 (.cond q95 (.reg [.q p12 (.mv (ci 32))]) (.skip)))
 (sq [mq p96 q12,fq p97 q3 3,lq p98 q97,.q p99 (.ldn q11 7),ls p100 (.bsl 1 [o0,e0,o0,o0,e0,o0,.nils] [(0,7,q99)]),ks p101 (.fn 57 [q96,q98,(.c e0),q100]),ln (.st q4 q101 7)]
 (.ret))))))))
def f213 : Fun := .code [.celln p2 7] (sq [ls p2 (.alloc [o0,e0,o0,o0,e0,o0,.nils])]
 (sq [mq p7 q0,ks p8 (.fn 29 [q7]),.q p9 (.fld q8 3),mq p3 q9]
 (sq [mq p10 q0,ks p11 (.fn 53 [q10,(.c (S [60,45]))]),mq p4 q11]
 (.seq (sq [mq p12 q4]
 (.cond q12 (sq [mq p13 q0,ks p14 (.fn 239 [q13]),ls p5 (.alloc [o0,e0,o0,o0,e0,o0,.nils]),ln (.st q5 q14 7)]
 (sq [mq p15 q3,mq p16 q3,.q p17 (.ldn q5 7),ls p18 (.bsl 1 [o0,e0,o0,o0,e0,o0,.nils] [(0,7,q17)]),ks p19 (.fn 57 [(ci 41),q16,(.c (S [60,45])),q18]),ls p20 (.bsl 1 [o0,e0,o0,o0,e0,o0,.nils] [(0,7,q19)]),ks p21 (.fn 57 [(ci 34),q15,(.c e0),q20]),ln (.st q2 q21 7)]
 (.ret))) (.skip)))
 (sq [mq p22 q0,ks p23 (.fn 237 [q22]),ls p6 (.alloc [o0,e0,o0,o0,e0,o0,.nils]),ln (.st q6 q23 7)]
 (sq [mq p24 q0,.q p25 (.ldn q6 7),mq p26 q0,.q p27 (.nck q26),fq p28 q27 4,lq p29 q28,ks p30 (.fn 240 [q24,q25,q29]),ln (.st q2 q30 7)]
 (.ret)))))))
def f214 : Fun := .code [.t p4] (sq [.q p4 (.mv (.c (.bool false)))]
 (sq [mq p5 q0,.q p6 (.lens q5),mq p7 q1,.q p8 (.lens q7),.q p9 (.cmp .ge q6 q8),mq p10 q9,.g p10 true (mq p11 q0),.g p10 true (mq p12 q1),.g p10 true (.q p13 (.lens q12)),.g p10 true (.q p14 (.sls q11 none (some q13))),.g p10 true (mq p15 q1),.g p10 true (.q p16 (.eq false false .text q14 q15)),.q p17 (.pick q10 q16 (.c (.bool false))),mq p4 q17]
 (.ret)))
def f215 : Fun := .code [.t p4,.t p5,.t p6] (sq [.q p4 (.mv (ci 0)),.q p5 (.mv (.c .nils)),.q p6 (.mv (.c e0))]
 (sq [mq p10 q1,.q p11 (.ari .add q10 (ci 5)),mq p1 q11]
 (sq [.q p7 (.mv (.c .nils))]
 (.seq (.block 0 (.loop (.seq (sq [mq p12 q0,mq p13 q1,.q p14 (.sls q12 (some q13) none),ks p15 (.fn 214 [q14,(.c (S [41]))]),.q p16 (.not q15)]
 (.cond q16 (.skip) (.exit 0)))
 (.block 1 (.seq (sq [mq p17 q7,.q p18 (.len q17),.q p19 (.cmp .gt q18 (ci 0))]
 (.cond q19 (.seq (sq [mq p20 q0,mq p21 q1,.q p22 (.sls q20 (some q21) none),ks p23 (.fn 214 [q22,(.c (S [44]))]),.q p24 (.not q23)]
 (.cond q24 (sq [.q p4 (.mv (.c (.int .i64 (.lit (.negSucc 0))))),.q p5 (.mv (.c .nils)),.q p6 (.mv (.c e0))]
 (.ret)) (.skip)))
 (.reg [mq p25 q1,.q p26 (.ari .add q25 (ci 1)),mq p1 q26])) (.skip)))
 (sq [mq p27 q0,mq p28 q1,ks p29 (.fn 180 [q27,q28]),mq p8 q29]
 (.seq (sq [mq p30 q8,.q p31 (.cmp .lt q30 (ci 0))]
 (.cond q31 (sq [.q p4 (.mv (.c (.int .i64 (.lit (.negSucc 0))))),.q p5 (.mv (.c .nils)),.q p6 (.mv (.c e0))]
 (.ret)) (.skip)))
 (sq [mq p32 q7,mq p33 q0,mq p34 q1,mq p35 q8,.q p36 (.sls q33 (some q34) (some q35)),ls p37 (.bsl 1 [e0] [(0,1,q36)]),ls p38 (.app 1 16 q32 q37),mq p7 q38]
 (.reg [mq p39 q8,mq p1 q39])))))))))
 (sq [mq p40 q1,.q p41 (.ari .add q40 (ci 1)),mq p1 q41]
 (sq [mq p42 q0,mq p43 q1,ks p44 (.fn 180 [q42,q43]),mq p9 q44]
 (.seq (sq [mq p45 q9,.q p46 (.cmp .lt q45 (ci 0))]
 (.cond q46 (sq [mq p47 q1,mq p48 q7,mq p4 q47,mq p5 q48,.q p6 (.mv (.c e0))]
 (.ret)) (.skip)))
 (sq [mq p49 q9,mq p50 q7,mq p51 q0,mq p52 q1,mq p53 q9,.q p54 (.sls q51 (some q52) (some q53)),mq p4 q49,mq p5 q50,mq p6 q54]
 (.ret)))))))))
def f216 : Fun := .code [.t p2,.t p3] (sq [.q p2 (.mv (.c e0)),.q p3 (.mv (.c (.bool false)))]
 (.seq (sq [mq p4 q0,ks p5 (.fn 124 [q4]),mq p6 q5,.g p6 true (mq p7 q0),.g p6 true (ks p8 (.fn 214 [q7,(.c (S [91,93]))])),.q p9 (.pick q6 q8 (.c (.bool false)))]
 (.cond q9 (sq [mq p10 q0,.q p11 (.sls q10 (some (ci 2)) none),mq p2 q11,.q p3 (.mv (.c (.bool true)))]
 (.ret)) (.skip)))
 (.seq (sq [mq p12 q0,ks p13 (.fn 124 [q12]),mq p14 q13,.g p14 true (mq p15 q0),.g p14 true (ks p16 (.fn 214 [q15,(.c (S [99,104,97,110,32]))])),.q p17 (.pick q14 q16 (.c (.bool false)))]
 (.cond q17 (sq [mq p18 q0,.q p19 (.sls q18 (some (ci 5)) none),mq p2 q19,.q p3 (.mv (.c (.bool true)))]
 (.ret)) (.skip)))
 (sq [.q p2 (.mv (.c e0)),.q p3 (.mv (.c (.bool false)))]
 (.ret)))))
def f217 : Fun := .code [.t p4] (sq [.q p4 (.mv (.c e0))]
 (.seq (sq [mq p5 q1,.q p6 (.len q5),.q p7 (et .num q6 (ci 1))]
 (.cond q7 (sq [mq p8 q0,.q p9 (.nck q8),fq p10 q9 9,ln (.st q10 (.c (.bool true)) 1)]
 (sq [.q p4 (.mv (.c e0))]
 (.ret))) (.skip)))
 (sq [mq p11 q1,mq p12 q0,mq p13 q1,.q p14 (.ixl 7 q13 (ci 0)),.q p15 (.ldn q14 7),ks p16 (.fn 123 [q12,q15]),.q p17 (.ixl 7 q11 (ci 0)),ln (.st q17 q16 7)]
 (sq [mq p18 q1,.q p19 (.ixl 7 q18 (ci 0)),fq p20 q19 4,lq p21 q20,mq p4 q21]
 (.ret)))))
def f218 : Fun := .code [.t p4] (sq [.q p4 (.mv (.c e0))]
 (.seq (sq [.q p5 (.mv (ci 0))]
 (.block 0 (.loop (.seq (sq [mq p6 q5,mq p7 q0,.q p8 (.len q7),.q p9 (.cmp .lt q6 q8)]
 (.cond q9 (.skip) (.exit 0)))
 (.seq (.block 1 (sq [mq p12 q0,mq p13 q5,.q p14 (.ixl 2 q12 q13),fq p15 q14 0,lq p16 q15,mq p17 q1,.q p18 (.eq false false .text q16 q17)]
 (.cond q18 (sq [mq p19 q0,mq p20 q5,.q p21 (.ixl 2 q19 q20),fq p22 q21 1,lq p23 q22,mq p4 q23]
 (.ret)) (.skip))))
 (.reg [mq p10 q5,.q p11 (.ari .add q10 (ci 1)),mq p5 q11]))))))
 (sq [.q p4 (.mv (.c e0))]
 (.ret))))
def f219 : Fun := .code [] (sq [mq p12 q0,mq p13 q1,ks p14 (.fn 91 [q12,q13]),mq p11 q14,.q p15 (.ext q11 0),.q p16 (.ext q11 1),mq p6 q15,mq p7 q16]
 (sq [mq p17 q0,mq p18 q7,mq p19 q18,.g p19 true (mq p20 q2),.g p19 true (.q p21 (.len q20)),.g p19 true (.q p22 (.cmp .le q21 (ci 16))),.q p23 (.pick q19 q22 (.c (.bool false))),ks p24 (.fn 32 [q17,q23])]
 (sq [.q p8 (.mv (ci 0))]
 (.block 0 (.loop (.seq (sq [mq p25 q8,mq p26 q2,.q p27 (.len q26),.q p28 (.cmp .lt q25 q27),mq p29 q28,.g p29 true (mq p30 q0),.g p29 true (.q p31 (.nck q30)),.g p29 true (fq p32 q31 9),.g p29 true (lq p33 q32),.g p29 true (.q p34 (.not q33)),.q p35 (.pick q29 q34 (.c (.bool false)))]
 (.cond q35 (.skip) (.exit 0)))
 (.seq (.block 1 (sq [mq p38 q6,mq p39 q2,mq p40 q8,.q p41 (.ixl 7 q39 q40),fq p42 q41 1,lq p43 q42,ks p44 (.fn 218 [q38,q43]),mq p9 q44]
 (sq [mq p45 q0,mq p46 q9,.q p47 (et .text q46 (.c e0)),ks p48 (.fn 32 [q45,q47])]
 (.seq (sq [.q p10 (.mv (ci 0))]
 (.block 2 (.loop (.seq (sq [mq p49 q10,mq p50 q8,.q p51 (.cmp .lt q49 q50)]
 (.cond q51 (.skip) (.exit 2)))
 (.seq (.block 3 (.reg [mq p54 q0,mq p55 q2,mq p56 q10,.q p57 (.ixl 7 q55 q56),fq p58 q57 1,lq p59 q58,mq p60 q2,mq p61 q8,.q p62 (.ixl 7 q60 q61),fq p63 q62 1,lq p64 q63,.q p65 (.eq true false .text q59 q64),ks p66 (.fn 32 [q54,q65])]))
 (.reg [mq p52 q10,.q p53 (.ari .add q52 (ci 1)),mq p10 q53]))))))
 (.reg [mq p67 q2,mq p68 q8,mq p69 q0,mq p70 q2,mq p71 q8,.q p72 (.ixl 7 q70 q71),fq p73 q72 6,lq p74 q73,.q p75 (.ixl 7 q74 (ci 0)),.q p76 (.ldn q75 7),mq p77 q9,ks p78 (.fn 125 [q69,q76,q77]),ls p79 (.bsl 1 [o0,e0,o0,o0,e0,o0,.nils] [(0,7,q78)]),.q p80 (.ixl 7 q67 q68),fq p81 q80 6,ln (.st q81 q79 1)])))))
 (.reg [mq p36 q8,.q p37 (.ari .add q36 (ci 1)),mq p8 q37]))))))))
def f220 : Fun := .code [.t p4] (sq [.q p4 (.mv (ci 0))]
 (sq [mq p6 q1,mq p5 q6]
 (.seq (.block 0 (.loop (.seq (sq [mq p7 q5,mq p8 q0,.q p9 (.lens q8),.q p10 (.cmp .lt q7 q9),mq p11 q10,.g p11 true (mq p12 q0),.g p11 true (mq p13 q5),.g p11 true (.q p14 (.ixs q12 q13)),.g p11 true (ks p15 (.fn 82 [q14])),.g p11 true (mq p16 q15),.g p16 false (mq p17 q0),.g p16 false (mq p18 q5),.g p16 false (.q p19 (.ixs q17 q18)),.g p16 false (.q p20 (.cmp .ge q19 (.c (B 48)))),.g p16 false (mq p21 q20),.g p21 true (mq p22 q0),.g p21 true (mq p23 q5),.g p21 true (.q p24 (.ixs q22 q23)),.g p21 true (.q p25 (.cmp .le q24 (.c (B 57)))),.g p16 false (.q p26 (.pick q21 q25 (.c (.bool false)))),.g p11 true (.q p27 (.pick q16 (.c (.bool true)) q26)),.q p28 (.pick q11 q27 (.c (.bool false)))]
 (.cond q28 (.skip) (.exit 0)))
 (.block 1 (.reg [mq p29 q5,.q p30 (.ari .add q29 (ci 1)),mq p5 q30])))))
 (.seq (sq [mq p31 q5,mq p32 q1,.q p33 (.eq false false .num q31 q32),mq p34 q33,.g p34 false (mq p35 q5),.g p34 false (mq p36 q1),.g p34 false (.q p37 (.ari .sub q35 q36)),.g p34 false (.q p38 (.cmp .gt q37 (ci 24))),.q p39 (.pick q34 (.c (.bool true)) q38),mq p40 q39,.g p40 false (mq p41 q0),.g p40 false (mq p42 q1),.g p40 false (.q p43 (.ixs q41 q42)),.g p40 false (ks p44 (.fn 82 [q43])),.g p40 false (.q p45 (.not q44)),.q p46 (.pick q40 (.c (.bool true)) q45),mq p47 q46,.g p47 false (mq p48 q0),.g p47 false (mq p49 q1),.g p47 false (mq p50 q5),.g p47 false (.q p51 (.sls q48 (some q49) (some q50))),.g p47 false (ks p52 (.fn 52 [q51,(.c (S [32,97,112,112,101,110,100,32,98,111,111,108,32,98,114,101,97,107,32,99,97,112,32,99,97,115,101,32,99,104,97,110,32,99,108,111,115,101,32,99,111,110,116,105,110,117,101,32,100,101,102,97,117,108,116,32,100,101,102,101,114,32,101,108,115,101,32,102,97,108,108,116,104,114,111,117,103,104,32,102,97,108,115,101,32,102,111,114,32,102,117,110,99,32,103,111,32,105,102,32,105,110,116,32,108,101,110,32,109,97,107,101,32,110,101,119,32,110,105,108,32,112,97,110,105,99,32,112,114,105,110,116,32,114,101,99,111,118,101,114,32,114,101,116,117,114,110,32,115,101,108,101,99,116,32,115,116,114,105,110,103,32,115,116,114,117,99,116,32,115,119,105,116,99,104,32,116,114,117,101,32,116,121,112,101,32,118,97,114,32]))])),.q p53 (.pick q47 (.c (.bool true)) q52)]
 (.cond q53 (sq [.q p4 (.mv (.c (.int .i64 (.lit (.negSucc 0)))))]
 (.ret)) (.skip)))
 (sq [mq p54 q5,mq p4 q54]
 (.ret))))))
def f221 : Fun := .code [.t p2] (sq [.q p2 (.mv (.c (.bool false)))]
 (sq [mq p3 q0,ks p4 (.fn 124 [q3]),mq p5 q4,.g p5 true (mq p6 q0),.g p5 true (ks p7 (.fn 214 [q6,(.c (S [42]))])),.g p5 true (mq p8 q7),.g p8 false (mq p9 q0),.g p8 false (ks p10 (.fn 214 [q9,(.c (S [91,93]))])),.g p5 true (.q p11 (.pick q8 (.c (.bool true)) q10)),.g p5 true (mq p12 q11),.g p12 false (mq p13 q0),.g p12 false (ks p14 (.fn 214 [q13,(.c (S [99,104,97,110,32]))])),.g p5 true (.q p15 (.pick q12 (.c (.bool true)) q14)),.g p5 true (mq p16 q15),.g p16 false (mq p17 q0),.g p16 false (ks p18 (.fn 214 [q17,(.c (S [102,117,110,99,40]))])),.g p5 true (.q p19 (.pick q16 (.c (.bool true)) q18)),.q p20 (.pick q5 q19 (.c (.bool false))),mq p2 q20]
 (.ret)))
def f223 : Fun := .code [] (sq [ls p5 (.box q1),ls p6 (.box q2)]
 (sq [mq p17 q0,.q p18 (.nck q17),fq p19 q18 8,lq p20 q19,fq p21 q5 0,lq p22 q21,.q p23 (.ixl 1 q20 q22),lq p24 q23,mq p8 q24]
 (.seq (.regc [mq p25 q8,.q p26 (.nck q25),fq p27 q26 1,.qr p28 (.ld q27) 0 1,fq p29 q5 1,.qr p30 (.ld q29) 0 1,.q p31 (.ixl 20 q28 q30),.qr p32 (.ldn q31 20) 0 1,ls p9 (.alloc [o0,o0,e0,.nilp,o0,o0,o0,.nilp,.nilp,o0,e0,.nilp,o0,o0,o0,.nilp,.nilp,o0,o0,(.bool false)]),ln (.st q9 q32 20)])
 (sq [.q p33 (.mkfn 245 [q5]),mq p10 q33]
 (.seq (sq [mq p34 q8,.q p35 (.nck q34),fq p36 q35 1,lq p37 q36,.q p38 (.len q37),.q p39 (.mv (ci 0))]
 (.block 0 (.loop (sq [.q p40 (.cmp .lt q39 q38)]
 (.seq (.cond q40 (.skip) (.exit 0))
 (.seq (.block 1 (sq [.q p41 (.ixl 20 q37 q39),.q p42 (.ldn q41 20),ls p12 (.alloc [o0,o0,e0,.nilp,o0,o0,o0,.nilp,.nilp,o0,e0,.nilp,o0,o0,o0,.nilp,.nilp,o0,o0,(.bool false)]),ln (.st q12 q42 20)]
 (sq [mq p43 q0,.q p44 (.nck q43),fq p45 q44 5,lq p46 q45,fq p47 q12 1,.q p48 (.ldn q47 8),ks p49 (.inv q46 18 [q48]),mq p13 q49]
 (sq [mq p51 q0,.q p52 (.nck q51),fq p53 q52 10,lq p54 q53,mq p55 q13,.q p56 (.look false q54 q55 .nilp true),mq p50 q56,.q p57 (.ext q50 0),.q p58 (.ext q50 1),mq p14 q57,mq p15 q58]
 (sq [mq p59 q15]
 (.cond q59 (.seq (.regc [mq p60 q14,mq p61 q14,mq p62 q14,.q p63 (.nck q62),fq p64 q63 0,lq p65 q64,mq p66 q10,ks p67 (.fn 246 [q65,q66]),mq p68 q14,.q p69 (.nck q68),fq p70 q69 1,.qr p71 (.ld q70) 0 1,mq p72 q10,ks p73 (.fn 246 [q71,q72]),.q p74 (.nck q60),fq p75 q74 0,ln (.st q75 q67 1),.q p76 (.nck q61),fq p77 q76 1,ln (.st q77 q73 1)])
 (sq [mq p78 q14,.q p79 (.nck q78),fq p80 q79 0,lq p81 q80,.q p82 (.len q81),mq p83 q14,.q p84 (.nck q83),fq p85 q84 1,lq p86 q85,.q p87 (.len q86),.q p88 (.ari .add q82 q87),.q p89 (ef .num q88 (ci 0))]
 (.cond q89 (.reg [mq p90 q0,.q p91 (.nck q90),fq p92 q91 10,lq p93 q92,mq p94 q13,ln (.del false q93 q94)]) (.skip)))) (.skip)))))))
 (.reg [.q p95 (.ari .add q39 (ci 1)),mq p39 q95])))))))
 (sq [mq p96 q8,.q p97 (.nck q96),fq p98 q97 1,ln (.st q98 (.c .nils) 1)]
 (sq [mq p99 q8,.q p100 (.nck q99),fq p101 q100 0,lq p102 q101,mq p103 q8,.q p104 (.nck q103),fq p105 q104 0,lq p106 q105,.q p107 (.len q106),.q p108 (.ari .sub q107 (ci 1)),.q p109 (.ixl 1 q102 q108),lq p110 q109,mq p16 q110]
 (.seq (.block 2 (.seq (.block 5 (.seq (.block 4 (.seq (.block 3 (.seq (.seq (sq [mq p112 q3,.q p113 (et .text q112 (.c e0)),mq p111 q113]
 (.cond q111 (.exit 3) (.skip)))
 (sq [fq p115 q9 0,lq p116 q115,.q p117 (ef .num q116 (ci 1)),mq p114 q117]
 (.cond q114 (.exit 4) (.skip))))
 (.exit 5)))
 (sq [mq p118 q8,mq p119 q3,.q p120 (.nck q118),fq p121 q120 2,ln (.st q121 q119 1)]
 (.exit 2))))
 (.reg [mq p122 q16,.q p123 (.nck q122),fq p124 q123 2,lq p125 q124,fq p126 q9 17,lq p127 q126,.q p128 (.ldn q6 8),.q p129 (.ixl 8 q125 q127),ln (.st q129 q128 8)])))
 (sq [mq p130 q0,mq p131 q16,.q p132 (.ldn q9 20),ks p133 (.fn 247 [q130,q131,q132])]
 (.exit 2))))
 (.reg [mq p134 q0,.q p135 (.nck q134),fq p136 q135 6,lq p137 q136,fq p138 q5 0,lq p139 q138,ks p140 (.fn 135 [q137,q139])])))))))))
end Ds.Text
end
set_option maxRecDepth 100000
noncomputable section
namespace Ds.Text
open Ds
def f224 : Fun := .code [.t p4] (sq [ls p3 (.box q1),.q p4 (.mv (.c (.bool false)))]
 (sq [mq p8 q0,.q p9 (.nck q8),fq p10 q9 5,lq p11 q10,fq p12 q3 1,.q p13 (.ldn q12 8),ks p14 (.inv q11 18 [q13]),mq p5 q14]
 (.seq (sq [mq p15 q5,.q p16 (ef .num q15 (ci 0))]
 (.cond q16 (sq [.q p4 (.mv (.c (.bool false)))]
 (.ret)) (.skip)))
 (sq [mq p18 q0,.q p19 (.nck q18),fq p20 q19 5,lq p21 q20,fq p22 q3 1,.q p23 (.ldn q22 8),ks p24 (.inv q21 19 [q23]),mq p17 q24,.q p25 (.ext q17 0),.q p26 (.ext q17 1),mq p6 q25,mq p7 q26]
 (.seq (sq [mq p27 q0,.q p28 (.nck q27),fq p29 q28 5,lq p30 q29,fq p31 q3 1,.q p32 (.ldn q31 8),ks p33 (.inv q30 26 [q32])]
 (.cond q33 (sq [.q p4 (.mv (.c (.bool true)))]
 (.ret)) (.skip)))
 (.seq (sq [fq p34 q3 0,lq p35 q34,.q p36 (ef .num q35 (ci 1))]
 (.cond q36 (sq [mq p37 q6,.q p38 (.cmp .gt q37 (ci 0)),mq p39 q38,.g p39 false (mq p40 q0),.g p39 false (mq p41 q5),.g p39 false (ks p42 (.fn 226 [q40,q41])),.g p39 false (.q p43 (.nck q42)),.g p39 false (fq p44 q43 0),.g p39 false (lq p45 q44),.g p39 false (.q p46 (.len q45)),.g p39 false (.q p47 (.cmp .gt q46 (ci 0))),.q p48 (.pick q39 (.c (.bool true)) q47),mq p4 q48]
 (.ret)) (.skip)))
 (sq [mq p49 q6,mq p50 q7,.q p51 (.cmp .lt q49 q50),mq p52 q51,.g p52 false (mq p53 q0),.g p52 false (mq p54 q5),.g p52 false (ks p55 (.fn 226 [q53,q54])),.g p52 false (.q p56 (.nck q55)),.g p52 false (fq p57 q56 1),.g p52 false (lq p58 q57),.g p52 false (.q p59 (.len q58)),.g p52 false (.q p60 (.cmp .gt q59 (ci 0))),.q p61 (.pick q52 (.c (.bool true)) q60),mq p4 q61]
 (.ret))))))))
def f225 : Fun := .code [] (sq [ls p5 (.box q2)]
 (sq [mq p12 q0,mq p13 q0,.q p14 (.nck q13),fq p15 q14 5,lq p16 q15,fq p17 q5 1,.q p18 (.ldn q17 8),ks p19 (.inv q16 18 [q18]),ks p20 (.fn 226 [q12,q19]),mq p6 q20]
 (.seq (sq [fq p21 q5 0,lq p22 q21,.q p23 (ef .num q22 (ci 2))]
 (.cond q23 (.seq (.block 0 (sq [mq p34 q0,.q p35 (.nck q34),fq p36 q35 5,lq p37 q36,fq p38 q5 1,.q p39 (.ldn q38 8),ks p40 (.inv q37 26 [q39]),mq p33 q40]
 (.cond q33 (sq [mq p41 q0,ks p42 (.fn 69 [q41,(.c (S [115,101,110,100,32,111,110,32,99,108,111,115,101,100,32,99,104,97,110,110,101,108]))])]
 (.ret)) (sq [mq p44 q6,.q p45 (.nck q44),fq p46 q45 1,lq p47 q46,.q p48 (.len q47),.q p49 (.cmp .gt q48 (ci 0)),mq p43 q49]
 (.cond q43 (.reg [mq p50 q0,mq p51 q6,.q p52 (.nck q51),fq p53 q52 1,lq p54 q53,.q p55 (.ixl 2 q54 (ci 0)),.q p56 (.ldn q55 2),fq p57 q5 9,.q p58 (.ldn q57 8),ks p59 (.fn 223 [q50,q56,q58,(.c e0)])]) (.reg [mq p24 q0,.q p25 (.nck q24),fq p26 q25 5,lq p27 q26,fq p28 q5 1,.q p29 (.ldn q28 8),fq p30 q5 9,.q p31 (.ldn q30 8),ks p32 (.inv q27 33 [q29,q31])]))))))
 (sq [mq p60 q0,mq p61 q1,.q p62 (.ldn q5 20),ks p63 (.fn 247 [q60,q61,q62])]
 (.ret))) (.skip)))
 (sq [mq p64 q0,.q p65 (.nck q64),fq p66 q65 5,lq p67 q66,ks p68 (.inv q67 0 [(ci 0)]),ls p7 (.alloc [o0,e0,.nilp,o0,o0,o0,.nilp,.nilp]),ln (.st q7 q68 8)]
 (.seq (sq [mq p70 q0,.q p71 (.nck q70),fq p72 q71 5,lq p73 q72,fq p74 q5 1,.q p75 (.ldn q74 8),ks p76 (.inv q73 19 [q75]),mq p69 q76,.q p77 (.ext q69 0),.q p78 (.ext q69 1),mq p8 q77,mq p9 q78]
 (sq [mq p79 q8,.q p80 (.cmp .gt q79 (ci 0))]
 (.cond q80 (sq [mq p81 q0,.q p82 (.nck q81),fq p83 q82 5,lq p84 q83,fq p85 q5 1,.q p86 (.ldn q85 8),ks p87 (.inv q84 34 [q86]),ln (.st q7 q87 8)]
 (sq [mq p88 q6,.q p89 (.nck q88),fq p90 q89 0,lq p91 q90,.q p92 (.len q91),.q p93 (.cmp .gt q92 (ci 0))]
 (.cond q93 (sq [mq p94 q6,.q p95 (.nck q94),fq p96 q95 0,lq p97 q96,.q p98 (.ixl 2 q97 (ci 0)),.q p99 (.ldn q98 2),ls p10 (.alloc [o0,o0]),ln (.st q10 q99 2)]
 (sq [mq p100 q0,.q p101 (.nck q100),fq p102 q101 5,lq p103 q102,fq p104 q5 1,.q p105 (.ldn q104 8),mq p106 q0,.q p107 (.nck q106),fq p108 q107 8,lq p109 q108,fq p110 q10 0,lq p111 q110,.q p112 (.ixl 1 q109 q111),lq p113 q112,.q p114 (.nck q113),fq p115 q114 1,lq p116 q115,fq p117 q10 1,lq p118 q117,.q p119 (.ixl 20 q116 q118),fq p120 q119 9,.q p121 (.ldn q120 8),.q p122 (.nck q103),mq p123 q103,ks p124 (.inv q123 33 [q105,q121])]
 (.reg [mq p125 q0,.q p126 (.ldn q10 2),.q p127 (.ldn q7 8),ks p128 (.fn 223 [q125,q126,q127,(.c e0)])]))) (.skip)))) (sq [mq p129 q6,.q p130 (.nck q129),fq p131 q130 0,lq p132 q131,.q p133 (.len q132),.q p134 (.cmp .gt q133 (ci 0))]
 (.cond q134 (sq [mq p135 q6,.q p136 (.nck q135),fq p137 q136 0,lq p138 q137,.q p139 (.ixl 2 q138 (ci 0)),.q p140 (.ldn q139 2),ls p11 (.alloc [o0,o0]),ln (.st q11 q140 2)]
 (sq [mq p141 q0,.q p142 (.nck q141),fq p143 q142 8,lq p144 q143,fq p145 q11 0,lq p146 q145,.q p147 (.ixl 1 q144 q146),lq p148 q147,.q p149 (.nck q148),fq p150 q149 1,lq p151 q150,fq p152 q11 1,lq p153 q152,.q p154 (.ixl 20 q151 q153),fq p155 q154 9,.q p156 (.ldn q155 8),ln (.st q7 q156 8)]
 (.reg [mq p157 q0,.q p158 (.ldn q11 2),.q p159 (.ldn q7 8),ks p160 (.fn 223 [q157,q158,q159,(.c e0)])]))) (.skip))))))
 (sq [mq p161 q1,.q p162 (.nck q161),fq p163 q162 2,lq p164 q163,fq p165 q5 17,lq p166 q165,.q p167 (.ldn q7 8),.q p168 (.ixl 8 q164 q166),ln (.st q168 q167 8)]
 (.reg [mq p169 q0,mq p170 q1,.q p171 (.ldn q5 20),ks p172 (.fn 247 [q169,q170,q171])])))))))
def f226 : Fun := .code [.t p4] (sq [.q p4 (.mv (.c .nilp))]
 (sq [mq p8 q0,.q p9 (.nck q8),fq p10 q9 10,lq p11 q10,mq p12 q1,.q p13 (.look false q11 q12 .nilp true),mq p7 q13,.q p14 (.ext q7 0),.q p15 (.ext q7 1),mq p5 q14,mq p6 q15]
 (.seq (sq [mq p16 q6,.q p17 (.not q16)]
 (.cond q17 (sq [.q p18 (.build [.nils,.nils] []),ls p19 (.box q18),mq p5 q19]
 (.reg [mq p20 q0,.q p21 (.nck q20),fq p22 q21 10,lq p23 q22,mq p24 q1,mq p25 q5,ln (.mup false q23 q24 q25)])) (.skip)))
 (sq [mq p26 q5,mq p4 q26]
 (.ret)))))
def f227 : Fun := .code [.t p8,.t p9] (sq [.q p8 (.mv (ci 0)),.q p9 (.mv (ci 0))]
 (.seq (sq [mq p10 q0,mq p11 q2,.q p12 (.ixl 1 q10 q11),lq p13 q12,mq p14 q0,mq p15 q1,.q p16 (.ixl 1 q14 q15),lq p17 q16,ks p18 (.fn 154 [q13,q17])]
 (.cond q18 (sq [mq p19 q3,.q p20 (.nck q19),lq p21 q20,.q p22 (.ari .add q21 (ci 1)),.q p23 (.nck q19),ln (.st q23 q22 1)]
 (sq [mq p24 q2,mq p25 q1,mq p8 q24,mq p9 q25]
 (.ret))) (.skip)))
 (sq [mq p26 q1,mq p27 q2,mq p8 q26,mq p9 q27]
 (.ret))))
def f228 : Fun := .code [.t p2,.t p3] (sq [.q p2 (.mv (.c e0)),.q p3 (.mv (.c (.bool false)))]
 (.seq (sq [mq p8 q0,ks p9 (.fn 72 [q8]),.q p10 (.not q9)]
 (.cond q10 (sq [.q p2 (.mv (.c e0)),.q p3 (.mv (.c (.bool false)))]
 (.ret)) (.skip)))
 (.seq (sq [.q p11 (.build [e0,e0] [(0,1,(.c (S [91,93]))),(1,1,(.c (S [99,104,97,110,32])))]),.q p12 (.mv (ci 0))]
 (.block 0 (.loop (sq [.q p13 (.cmp .lt q12 (ci 2))]
 (.seq (.cond q13 (.skip) (.exit 0))
 (.seq (.block 1 (sq [.q p14 (.ixv 2 q11 q12),mq p5 q14]
 (sq [mq p16 q0,mq p17 q5,ks p18 (.fn 248 [q16,q17]),mq p15 q18,.q p19 (.ext q15 0),.q p20 (.ext q15 1),mq p6 q19,mq p7 q20]
 (sq [mq p21 q7]
 (.cond q21 (sq [mq p22 q6,mq p2 q22,.q p3 (.mv (.c (.bool true)))]
 (.ret)) (.skip))))))
 (.reg [.q p23 (.ari .add q12 (ci 1)),mq p12 q23])))))))
 (sq [.q p2 (.mv (.c e0)),.q p3 (.mv (.c (.bool false)))]
 (.ret)))))
def f229 : Fun := .code [.t p4] (sq [.q p4 (.mv (ci 0))]
 (.seq (sq [mq p6 q0,.q p7 (.len q6),.q p8 (.mv (ci 0))]
 (.block 0 (.loop (sq [.q p9 (.cmp .lt q8 q7)]
 (.seq (.cond q9 (.skip) (.exit 0))
 (.seq (.block 1 (sq [mq p10 q8,mq p5 q10]
 (sq [mq p11 q1,mq p12 q0,mq p13 q5,.q p14 (.ixl 2 q12 q13),.q p15 (.ldn q14 2),ks p16 (.fv q11 [q15])]
 (.cond q16 (sq [mq p17 q5,mq p4 q17]
 (.ret)) (.skip)))))
 (.reg [.q p18 (.ari .add q8 (ci 1)),mq p8 q18])))))))
 (sq [.q p4 (.mv (.c (.int .i64 (.lit (.negSucc 0)))))]
 (.ret))))
def f230 : Fun := .code [.t p3] (sq [ls p2 (.box q0),.q p3 (.mv (.c (.bool false)))]
 (sq [fq p4 q2 0,lq p5 q4,lq p6 q1,.q p7 (.eq false false .text q5 q6),mq p3 q7]
 (.ret)))
def f231 : Fun := .code [.t p4] (sq [.q p4 (.mv (ci 0))]
 (.seq (sq [mq p6 q0,.q p7 (.len q6),.q p8 (.mv (ci 0))]
 (.block 0 (.loop (sq [.q p9 (.cmp .lt q8 q7)]
 (.seq (.cond q9 (.skip) (.exit 0))
 (.seq (.block 1 (sq [mq p10 q8,mq p5 q10]
 (sq [mq p11 q1,mq p12 q0,mq p13 q5,.q p14 (.ixl 2 q12 q13),.q p15 (.ldn q14 2),ks p16 (.fv q11 [q15])]
 (.cond q16 (sq [mq p17 q5,mq p4 q17]
 (.ret)) (.skip)))))
 (.reg [.q p18 (.ari .add q8 (ci 1)),mq p8 q18])))))))
 (sq [.q p4 (.mv (.c (.int .i64 (.lit (.negSucc 0)))))]
 (.ret))))
def f232 : Fun := .code [.t p3] (sq [ls p2 (.box q0),.q p3 (.mv (.c (.bool false)))]
 (sq [fq p4 q2 0,lq p5 q4,lq p6 q1,.q p7 (.eq false false .text q5 q6),mq p3 q7]
 (.ret)))
def f233 : Fun := .code [.celln p4 7] (sq [ls p4 (.alloc [o0,e0,o0,o0,e0,o0,.nils])]
 (sq [mq p10 q0,.q p11 (.nck q10),fq p12 q11 3,lq p13 q12,mq p5 q13]
 (sq [mq p14 q0,.q p15 (.nck q14),fq p16 q15 3,ln (.st q16 (.c (.bool true)) 1)]
 (sq [ks p17 (.fn 89 []),ks p18 (.fn 89 []),ks p19 (.fn 89 []),ls p20 (.bsl 3 [o0,e0,o0,o0,e0,o0,.nils,o0,e0,o0,o0,e0,o0,.nils,o0,e0,o0,o0,e0,o0,.nils] [(0,7,q17),(7,7,q18),(14,7,q19)]),mq p6 q20]
 (.seq (sq [mq p21 q0,ks p22 (.fn 55 [q21,(.c (S [123]))])]
 (.cond q22 (sq [mq p23 q0,mq p24 q5,.q p25 (.nck q23),fq p26 q25 3,ln (.st q26 q24 1)]
 (sq [mq p27 q0,ks p28 (.fn 90 [q27]),ls p7 (.alloc [o0,e0,o0,o0,e0,o0,.nils]),ln (.st q7 q28 7)]
 (sq [mq p29 q1,mq p30 q6,.q p31 (.ldn q7 7),ls p32 (.bsl 1 [o0,e0,o0,o0,e0,o0,.nils] [(0,7,q31)]),ls p33 (.app 7 88 q30 q32),ks p34 (.fn 57 [(ci 22),q29,(.c e0),q33]),ln (.st q4 q34 7)]
 (.ret)))) (.skip)))
 (sq [.q p8 (.mv (.c (.bool true)))]
 (.seq (sq [mq p35 q0,ks p36 (.fn 55 [q35,(.c (S [59]))]),.q p37 (.not q36)]
 (.cond q37 (.reg [mq p38 q0,mq p39 q6,ks p40 (.fn 249 [q38,q39]),mq p8 q40]) (.skip)))
 (.seq (sq [mq p41 q8]
 (.cond q41 (sq [mq p42 q0,ks p43 (.fn 31 [q42,(.c (S [59]))])]
 (.seq (sq [mq p44 q0,ks p45 (.fn 55 [q44,(.c (S [59]))]),.q p46 (.not q45)]
 (.cond q46 (.reg [mq p47 q6,mq p48 q0,ks p49 (.fn 236 [q48]),.q p50 (.ixl 7 q47 (ci 1)),ln (.st q50 q49 7)]) (.skip)))
 (sq [mq p51 q0,ks p52 (.fn 31 [q51,(.c (S [59]))])]
 (sq [mq p53 q0,ks p54 (.fn 55 [q53,(.c (S [123]))]),.q p55 (.not q54)]
 (.cond q55 (.reg [mq p56 q6,mq p57 q0,ks p58 (.fn 213 [q57]),.q p59 (.ixl 7 q56 (ci 2)),ln (.st q59 q58 7)]) (.skip)))))) (.skip)))
 (sq [mq p60 q0,mq p61 q5,.q p62 (.nck q60),fq p63 q62 3,ln (.st q63 q61 1)]
 (sq [mq p64 q0,ks p65 (.fn 90 [q64]),ls p9 (.alloc [o0,e0,o0,o0,e0,o0,.nils]),ln (.st q9 q65 7)]
 (sq [mq p66 q1,mq p67 q6,.q p68 (.ldn q9 7),ls p69 (.bsl 1 [o0,e0,o0,o0,e0,o0,.nils] [(0,7,q68)]),ls p70 (.app 7 88 q67 q69),ks p71 (.fn 57 [(ci 22),q66,(.c e0),q70]),ln (.st q4 q71 7)]
 (.ret))))))))))))
def f234 : Fun := .code [.celln p2 7] (sq [ls p2 (.alloc [o0,e0,o0,o0,e0,o0,.nils])]
 (sq [mq p5 q0,.q p6 (.nck q5),fq p7 q6 3,lq p8 q7,mq p3 q8]
 (sq [mq p9 q0,.q p10 (.nck q9),fq p11 q10 3,ln (.st q11 (.c (.bool true)) 1)]
 (sq [mq p12 q0,ks p13 (.fn 236 [q12]),ls p4 (.alloc [o0,e0,o0,o0,e0,o0,.nils]),ln (.st q4 q13 7)]
 (sq [mq p14 q0,mq p15 q3,.q p16 (.nck q14),fq p17 q16 3,ln (.st q17 q15 1)]
 (sq [.q p18 (.ldn q4 7),ln (.st q2 q18 7)]
 (.ret)))))))
def f235 : Fun := .code [.celln p4 7] (sq [ls p4 (.alloc [o0,e0,o0,o0,e0,o0,.nils])]
 (sq [mq p12 q0,ks p13 (.fn 29 [q12]),.q p14 (.fld q13 3),mq p5 q14]
 (sq [.q p6 (.mv (ci 26))]
 (.seq (sq [mq p15 q1]
 (.cond q15 (.reg [.q p6 (.mv (ci 24))]) (.skip)))
 (sq [mq p16 q0,ks p17 (.fn 53 [q16,(.c (S [100,101,102,97,117,108,116]))]),mq p7 q17]
 (.seq (sq [mq p18 q7]
 (.cond q18 (sq [mq p19 q0,ks p20 (.fn 250 [q19]),ls p8 (.alloc [o0,e0,o0,o0,e0,o0,.nils]),ln (.st q8 q20 7)]
 (sq [mq p21 q6,mq p22 q5,.q p23 (.ldn q8 7),ls p24 (.bsl 1 [o0,e0,o0,o0,e0,o0,.nils] [(0,7,q23)]),ks p25 (.fn 57 [q21,q22,(.c (S [100,101,102,97,117,108,116])),q24]),ln (.st q4 q25 7)]
 (.ret))) (.skip)))
 (sq [mq p26 q0,ks p27 (.fn 31 [q26,(.c (S [99,97,115,101]))])]
 (.seq (sq [mq p28 q1,.q p29 (.not q28)]
 (.cond q29 (sq [mq p30 q0,mq p31 q5,ks p32 (.fn 251 [q30,q31]),ln (.st q4 q32 7)]
 (.ret)) (.skip)))
 (sq [mq p33 q0,ks p34 (.fn 236 [q33]),ls p35 (.bsl 1 [o0,e0,o0,o0,e0,o0,.nils] [(0,7,q34)]),mq p9 q35]
 (.seq (.block 0 (.loop (.seq (sq [mq p36 q0,ks p37 (.fn 53 [q36,(.c (S [44]))])]
 (.cond q37 (.skip) (.exit 0)))
 (.block 1 (sq [mq p38 q0,ks p39 (.fn 236 [q38]),ls p10 (.alloc [o0,e0,o0,o0,e0,o0,.nils]),ln (.st q10 q39 7)]
 (.reg [mq p40 q9,.q p41 (.ldn q10 7),ls p42 (.bsl 1 [o0,e0,o0,o0,e0,o0,.nils] [(0,7,q41)]),ls p43 (.app 7 88 q40 q42),mq p9 q43]))))))
 (sq [mq p44 q0,ks p45 (.fn 250 [q44]),ls p11 (.alloc [o0,e0,o0,o0,e0,o0,.nils]),ln (.st q11 q45 7)]
 (sq [mq p46 q9,.q p47 (.ldn q11 7),ls p48 (.bsl 1 [o0,e0,o0,o0,e0,o0,.nils] [(0,7,q47)]),ls p49 (.app 7 88 q46 q48),mq p9 q49]
 (sq [mq p50 q6,mq p51 q5,mq p52 q9,ks p53 (.fn 57 [q50,q51,(.c (S [99,97,115,101])),q52]),ln (.st q4 q53 7)]
 (.ret))))))))))))))
def f236 : Fun := .code [.celln p2 7] (sq [ls p2 (.alloc [o0,e0,o0,o0,e0,o0,.nils])]
 (sq [mq p9 q0,ks p10 (.fn 239 [q9]),ls p11 (.bsl 1 [o0,e0,o0,o0,e0,o0,.nils] [(0,7,q10)]),mq p3 q11]
 (sq [mq p12 q0,.q p13 (.nck q12),fq p14 q13 4,lq p15 q14,mq p4 q15]
 (sq [.q p5 (.mv (.c .nils))]
 (.seq (.block 0 (.loop (.seq (sq [mq p16 q0,.q p17 (.nck q16),fq p18 q17 2,lq p19 q18,.q p20 (.cmp .lt q19 (ci 0)),mq p21 q20,.g p21 true (mq p22 q0),.g p21 true (ks p23 (.fn 29 [q22])),.g p21 true (ks p24 (.fn 252 [q23])),.g p21 true (.q p25 (.cmp .gt q24 (ci 0))),.q p26 (.pick q21 q25 (.c (.bool false)))]
 (.cond q26 (.skip) (.exit 0)))
 (.block 1 (sq [mq p27 q5,mq p28 q0,ks p29 (.fn 29 [q28]),ls p30 (.bsl 1 [o0,e0,o0,o0] [(0,4,q29)]),ls p31 (.app 4 40 q27 q30),mq p5 q31]
 (sq [mq p32 q0,.q p33 (.nck q32),fq p34 q33 1,lq p35 q34,.q p36 (.ari .add q35 (ci 1)),.q p37 (.nck q32),fq p38 q37 1,ln (.st q38 q36 1)]
 (sq [mq p39 q0,ks p40 (.fn 239 [q39]),ls p6 (.alloc [o0,e0,o0,o0,e0,o0,.nils]),ln (.st q6 q40 7)]
 (sq [mq p41 q3,.q p42 (.ldn q6 7),ls p43 (.bsl 1 [o0,e0,o0,o0,e0,o0,.nils] [(0,7,q42)]),ls p44 (.app 7 88 q41 q43),mq p3 q44]
 (.reg [.q p4 (.mv (.c (.bool false)))])))))))))
 (.seq (sq [.q p7 (.mv (ci 5))]
 (.block 2 (.loop (.seq (sq [mq p45 q7,.q p46 (.cmp .ge q45 (ci 1))]
 (.cond q46 (.skip) (.exit 2)))
 (.seq (.block 3 (sq [.q p8 (.mv (ci 0))]
 (.block 4 (.loop (.seq (sq [mq p49 q8,mq p50 q5,.q p51 (.len q50),.q p52 (.cmp .lt q49 q51)]
 (.cond q52 (.skip) (.exit 4)))
 (.block 5 (.seq (sq [mq p53 q5,mq p54 q8,.q p55 (.ixl 4 q53 q54),.q p56 (.ldn q55 4),ks p57 (.fn 252 [q56]),mq p58 q7,.q p59 (.eq true false .num q57 q58)]
 (.cond q59 (sq [mq p60 q8,.q p61 (.ari .add q60 (ci 1)),mq p8 q61]
 (.exit 5)) (.skip)))
 (.seq (.regc [mq p62 q3,mq p63 q8,mq p64 q5,mq p65 q8,.q p66 (.ixl 4 q64 q65),fq p67 q66 3,.qr p68 (.ld q67) 0 1,mq p69 q5,mq p70 q8,.q p71 (.ixl 4 q69 q70),fq p72 q71 1,.qr p73 (.ld q72) 0 1,mq p74 q3,mq p75 q8,.q p76 (.ixl 7 q74 q75),.q p77 (.ldn q76 7),mq p78 q3,mq p79 q8,.q p80 (.ari .add q79 (ci 1)),.q p81 (.ixl 7 q78 q80),.q p82 (.ldn q81 7),ls p83 (.bsl 2 [o0,e0,o0,o0,e0,o0,.nils,o0,e0,o0,o0,e0,o0,.nils] [(0,7,q77),(7,7,q82)]),ks p84 (.fn 57 [(ci 42),q68,q73,q83]),.q p85 (.ixl 7 q62 q63),ln (.st q85 q84 7)])
 (sq [mq p86 q3,mq p87 q8,.q p88 (.ari .add q87 (ci 1)),.q p89 (.sll 7 q86 none (some q88) none),mq p90 q3,mq p91 q8,.q p92 (.ari .add q91 (ci 2)),.q p93 (.sll 7 q90 (some q92) none none),ls p94 (.app 7 88 q89 q93),mq p3 q94]
 (.reg [mq p95 q5,mq p96 q8,.q p97 (.sll 4 q95 none (some q96) none),mq p98 q5,mq p99 q8,.q p100 (.ari .add q99 (ci 1)),.q p101 (.sll 4 q98 (some q100) none none),ls p102 (.app 4 40 q97 q101),mq p5 q102]))))))))))
 (.reg [mq p47 q7,.q p48 (.ari .sub q47 (ci 1)),mq p7 q48]))))))
 (sq [mq p103 q0,mq p104 q4,.q p105 (.nck q103),fq p106 q105 4,ln (.st q106 q104 1)]
 (sq [mq p107 q3,.q p108 (.ixl 7 q107 (ci 0)),.q p109 (.ldn q108 7),ln (.st q2 q109 7)]
 (.ret)))))))))
def f237 : Fun := .code [.celln p2 7] (sq [ls p2 (.alloc [o0,e0,o0,o0,e0,o0,.nils])]
 (sq [mq p9 q0,ks p10 (.fn 55 [q9,(.c (S [40]))]),mq p3 q10]
 (sq [mq p11 q0,ks p12 (.fn 253 [q11]),ls p4 (.alloc [o0,e0,o0,o0,e0,o0,.nils]),ln (.st q4 q12 7)]
 (sq [mq p13 q0,.q p14 (.nck q13),fq p15 q14 3,lq p16 q15,mq p5 q16]
 (.seq (.block 0 (.loop (.seq (sq [mq p17 q0,ks p18 (.fn 87 [q17,(.c (S [32,40,32,91,32,46,32]))])]
 (.cond q18 (.skip) (.exit 0)))
 (.block 1 (sq [.q p3 (.mv (.c (.bool false)))]
 (sq [mq p19 q0,ks p20 (.fn 29 [q19]),ls p6 (.alloc [o0,e0,o0,o0]),ln (.st q6 q20 4)]
 (sq [mq p21 q0,.q p22 (.nck q21),fq p23 q22 1,lq p24 q23,.q p25 (.ari .add q24 (ci 1)),.q p26 (.nck q21),fq p27 q26 1,ln (.st q27 q25 1)]
 (sq [mq p28 q0,.q p29 (.nck q28),fq p30 q29 3,ln (.st q30 (.c (.bool false)) 1)]
 (.seq (sq [fq p31 q6 1,lq p32 q31]
 (.block 2 (sq [.q p42 (ef .text q32 (.c (S [40]))),mq p41 q42]
 (.cond q41 (sq [.q p43 (.ldn q4 7),ls p44 (.bsl 1 [o0,e0,o0,o0,e0,o0,.nils] [(0,7,q43)]),mq p7 q44]
 (sq [mq p45 q7,mq p46 q0,ks p47 (.fn 254 [q46,(.c (S [41]))]),ls p48 (.app 7 88 q45 q47),mq p7 q48]
 (.reg [fq p49 q6 3,lq p50 q49,mq p51 q7,ks p52 (.fn 57 [(ci 43),q50,(.c e0),q51]),ln (.st q4 q52 7)]))) (sq [.q p54 (ef .text q32 (.c (S [91]))),mq p53 q54]
 (.cond q53 (.reg [mq p55 q0,fq p56 q6 3,lq p57 q56,.q p58 (.ldn q4 7),ks p59 (.fn 255 [q55,q57,q58]),ln (.st q4 q59 7)]) (sq [mq p33 q0,ks p34 (.fn 54 [q33]),mq p8 q34]
 (.reg [fq p35 q6 3,lq p36 q35,mq p37 q8,.q p38 (.ldn q4 7),ls p39 (.bsl 1 [o0,e0,o0,o0,e0,o0,.nils] [(0,7,q38)]),ks p40 (.fn 57 [(ci 47),q36,q37,q39]),ln (.st q4 q40 7)]))))))))
 (.reg [mq p60 q0,mq p61 q5,.q p62 (.nck q60),fq p63 q62 3,ln (.st q63 q61 1)]))))))))))
 (sq [mq p64 q0,mq p65 q3,.q p66 (.nck q64),fq p67 q66 4,ln (.st q67 q65 1)]
 (sq [.q p68 (.ldn q4 7),ln (.st q2 q68 7)]
 (.ret))))))))
def f238 : Fun := .code [.t p2] (sq [ls p1 (.box q0),.q p2 (.mv (.c (.bool false)))]
 (sq [fq p3 q1 0,lq p4 q3,.q p5 (ef .num q4 (ci 43)),mq p6 q5,.g p6 false (fq p7 q1 0),.g p6 false (lq p8 q7),.g p6 false (.q p9 (ef .num q8 (ci 44))),.g p6 false (mq p10 q9),.g p10 true (fq p11 q1 1),.g p10 true (lq p12 q11),.g p10 true (.q p13 (et .text q12 (.c (S [109,97,107,101])))),.g p6 false (.q p14 (.pick q10 q13 (.c (.bool false)))),.g p6 false (mq p15 q14),.g p15 true (fq p16 q1 1),.g p15 true (lq p17 q16),.g p15 true (.q p18 (et .text q17 (.c (S [110,101,119])))),.g p6 false (.q p19 (.pick q15 q18 (.c (.bool false)))),.q p20 (.pick q6 (.c (.bool true)) q19),mq p2 q20]
 (.ret)))
def f239 : Fun := .code [.celln p2 7] (sq [ls p2 (.alloc [o0,e0,o0,o0,e0,o0,.nils])]
 (sq [mq p5 q0,ks p6 (.fn 29 [q5]),ls p3 (.alloc [o0,e0,o0,o0]),ln (.st q3 q6 4)]
 (.seq (sq [mq p7 q0,ks p8 (.fn 87 [q7,(.c (S [32,45,32,33,32,60,45,32]))])]
 (.cond q8 (sq [mq p9 q0,.q p10 (.nck q9),fq p11 q10 1,lq p12 q11,.q p13 (.ari .add q12 (ci 1)),.q p14 (.nck q9),fq p15 q14 1,ln (.st q15 q13 1)]
 (sq [mq p16 q0,ks p17 (.fn 239 [q16]),ls p4 (.alloc [o0,e0,o0,o0,e0,o0,.nils]),ln (.st q4 q17 7)]
 (sq [mq p18 q0,.q p19 (.nck q18),fq p20 q19 4,ln (.st q20 (.c (.bool false)) 1)]
 (sq [fq p21 q3 3,lq p22 q21,fq p23 q3 1,lq p24 q23,.q p25 (.ldn q4 7),ls p26 (.bsl 1 [o0,e0,o0,o0,e0,o0,.nils] [(0,7,q25)]),ks p27 (.fn 57 [(ci 41),q22,q24,q26]),ln (.st q2 q27 7)]
 (.ret))))) (.skip)))
 (sq [mq p28 q0,ks p29 (.fn 237 [q28]),ln (.st q2 q29 7)]
 (.ret)))))
def f240 : Fun := .code [.celln p6 7] (sq [ls p4 (.box q1),ls p6 (.alloc [o0,e0,o0,o0,e0,o0,.nils])]
 (sq [mq p12 q0,ks p13 (.fn 29 [q12]),ls p7 (.alloc [o0,e0,o0,o0]),ln (.st q7 q13 4)]
 (sq [mq p14 q2,.q p15 (.not q14),mq p16 q15,.g p16 true (fq p17 q4 0),.g p16 true (lq p18 q17),.g p16 true (.q p19 (ef .num q18 (ci 40))),.g p16 true (mq p20 q19),.g p20 false (fq p21 q4 0),.g p20 false (lq p22 q21),.g p20 false (.q p23 (ef .num q22 (ci 45))),.g p16 true (.q p24 (.pick q20 (.c (.bool true)) q23)),.g p16 true (mq p25 q24),.g p25 false (fq p26 q4 0),.g p25 false (lq p27 q26),.g p25 false (.q p28 (ef .num q27 (ci 47))),.g p16 true (.q p29 (.pick q25 (.c (.bool true)) q28)),.q p30 (.pick q16 q29 (.c (.bool false))),mq p8 q30]
 (.seq (sq [mq p31 q0,ks p32 (.fn 55 [q31,(.c (S [60,45]))])]
 (.cond q32 (sq [mq p33 q0,.q p34 (.nck q33),fq p35 q34 1,lq p36 q35,.q p37 (.ari .add q36 (ci 1)),.q p38 (.nck q33),fq p39 q38 1,ln (.st q39 q37 1)]
 (sq [mq p40 q0,ks p41 (.fn 236 [q40]),ls p9 (.alloc [o0,e0,o0,o0,e0,o0,.nils]),ln (.st q9 q41 7)]
 (sq [fq p42 q7 3,lq p43 q42,.q p44 (.ldn q4 7),.q p45 (.ldn q9 7),ls p46 (.bsl 2 [o0,e0,o0,o0,e0,o0,.nils,o0,e0,o0,o0,e0,o0,.nils] [(0,7,q44),(7,7,q45)]),ks p47 (.fn 57 [(ci 33),q43,(.c e0),q46]),ln (.st q6 q47 7)]
 (.ret)))) (.skip)))
 (.seq (sq [mq p48 q8,mq p49 q48,.g p49 true (fq p50 q4 0),.g p49 true (lq p51 q50),.g p49 true (.q p52 (ef .num q51 (ci 40))),.q p53 (.pick q49 q52 (.c (.bool false))),mq p54 q53,.g p54 true (mq p55 q0),.g p54 true (ks p56 (.fn 55 [q55,(.c (S [58,61]))])),.q p57 (.pick q54 q56 (.c (.bool false)))]
 (.cond q57 (sq [mq p58 q0,.q p59 (.nck q58),fq p60 q59 1,lq p61 q60,.q p62 (.ari .add q61 (ci 1)),.q p63 (.nck q58),fq p64 q63 1,ln (.st q64 q62 1)]
 (sq [mq p65 q0,ks p66 (.fn 236 [q65]),ls p10 (.alloc [o0,e0,o0,o0,e0,o0,.nils]),ln (.st q10 q66 7)]
 (sq [fq p67 q4 3,lq p68 q67,fq p69 q4 1,lq p70 q69,.q p71 (.ldn q10 7),ls p72 (.bsl 1 [o0,e0,o0,o0,e0,o0,.nils] [(0,7,q71)]),ks p73 (.fn 57 [(ci 17),q68,q70,q72]),ln (.st q6 q73 7)]
 (.ret)))) (.skip)))
 (.seq (sq [mq p74 q8,mq p75 q74,.g p75 true (mq p76 q0),.g p75 true (ks p77 (.fn 87 [q76,(.c (S [32,61,32,43,61,32,45,61,32,42,61,32]))])),.q p78 (.pick q75 q77 (.c (.bool false)))]
 (.cond q78 (sq [mq p79 q0,.q p80 (.nck q79),fq p81 q80 1,lq p82 q81,.q p83 (.ari .add q82 (ci 1)),.q p84 (.nck q79),fq p85 q84 1,ln (.st q85 q83 1)]
 (sq [mq p86 q0,ks p87 (.fn 236 [q86]),ls p11 (.alloc [o0,e0,o0,o0,e0,o0,.nils]),ln (.st q11 q87 7)]
 (sq [fq p88 q7 3,lq p89 q88,fq p90 q7 1,lq p91 q90,.q p92 (.ldn q4 7),.q p93 (.ldn q11 7),ls p94 (.bsl 2 [o0,e0,o0,o0,e0,o0,.nils,o0,e0,o0,o0,e0,o0,.nils] [(0,7,q92),(7,7,q93)]),ks p95 (.fn 57 [(ci 19),q89,q91,q94]),ln (.st q6 q95 7)]
 (.ret)))) (.skip)))
 (.seq (sq [mq p96 q8,mq p97 q96,.g p97 true (mq p98 q0),.g p97 true (ks p99 (.fn 87 [q98,(.c (S [32,43,43,32,45,45,32]))])),.q p100 (.pick q97 q99 (.c (.bool false)))]
 (.cond q100 (sq [mq p101 q0,.q p102 (.nck q101),fq p103 q102 1,lq p104 q103,.q p105 (.ari .add q104 (ci 1)),.q p106 (.nck q101),fq p107 q106 1,ln (.st q107 q105 1)]
 (sq [fq p108 q7 3,lq p109 q108,fq p110 q7 1,lq p111 q110,.q p112 (.ldn q4 7),ls p113 (.bsl 1 [o0,e0,o0,o0,e0,o0,.nils] [(0,7,q112)]),ks p114 (.fn 57 [(ci 20),q109,q111,q113]),ln (.st q6 q114 7)]
 (.ret))) (.skip)))
 (.seq (sq [mq p115 q0,.q p116 (.nck q115),fq p117 q116 2,lq p118 q117,.q p119 (.cmp .lt q118 (ci 0)),mq p120 q119,.g p120 true (.q p121 (.ldn q4 7)),.g p120 true (ks p122 (.fn 238 [q121])),.q p123 (.pick q120 q122 (.c (.bool false))),mq p124 q123,.g p124 true (mq p125 q2),.g p124 true (.q p126 (.not q125)),.q p127 (.pick q124 q126 (.c (.bool false)))]
 (.cond q127 (sq [fq p128 q4 3,lq p129 q128,.q p130 (.ldn q4 7),ls p131 (.bsl 1 [o0,e0,o0,o0,e0,o0,.nils] [(0,7,q130)]),ks p132 (.fn 57 [(ci 34),q129,(.c e0),q131]),ln (.st q6 q132 7)]
 (.ret)) (.skip)))
 (sq [mq p133 q0,ks p134 (.fn 59 [q133]),ln (.st q6 q134 7)]
 (.ret))))))))))
def f245 : Fun := .code [.t p3] (sq [ls p2 (.box q0),.q p3 (.mv (.c (.bool false)))]
 (sq [fq p4 q2 0,lq p5 q4,fq p6 q1 0,lq p7 q6,.q p8 (.eq false false .num q5 q7),mq p3 q8]
 (.ret)))
def f246 : Fun := .code [.t p4] (sq [.q p4 (.mv (.c .nils))]
 (sq [mq p8 q0,mq p9 q1,ks p10 (.fn 260 [q8,q9]),mq p5 q10]
 (.seq (sq [mq p11 q5,.q p12 (ef .num q11 (.c (.int .i64 (.lit (.negSucc 0)))))]
 (.cond q12 (sq [mq p13 q0,mq p4 q13]
 (.ret)) (.skip)))
 (.seq (sq [mq p14 q5,.q p15 (.ari .add q14 (ci 1)),mq p6 q15]
 (.block 0 (.loop (.seq (sq [mq p16 q6,mq p17 q0,.q p18 (.len q17),.q p19 (.cmp .lt q16 q18)]
 (.cond q19 (.skip) (.exit 0)))
 (.seq (.block 1 (sq [mq p22 q0,mq p23 q6,.q p24 (.ixl 2 q22 q23),.q p25 (.ldn q24 2),ls p7 (.alloc [o0,o0]),ln (.st q7 q25 2)]
 (sq [mq p26 q1,.q p27 (.ldn q7 2),ks p28 (.fv q26 [q27]),.q p29 (.not q28)]
 (.cond q29 (sq [mq p30 q0,mq p31 q5,.q p32 (.ldn q7 2),.q p33 (.ixl 2 q30 q31),ln (.st q33 q32 2)]
 (.reg [mq p34 q5,.q p35 (.ari .add q34 (ci 1)),mq p5 q35])) (.skip)))))
 (.reg [mq p20 q6,.q p21 (.ari .add q20 (ci 1)),mq p6 q21]))))))
 (sq [mq p36 q0,mq p37 q5,.q p38 (.sll 2 q36 (some q37) none none),ln (.clr [o0,o0] q38)]
 (sq [mq p39 q0,mq p40 q5,.q p41 (.sll 2 q39 none (some q40) none),mq p4 q41]
 (.ret)))))))
def f247 : Fun := .code [] (sq [ls p5 (.box q2)]
 (sq [fq p6 q5 18,lq p7 q6,.q p8 (.cmp .ge q7 (ci 0))]
 (.cond q8 (.reg [mq p9 q1,fq p10 q5 18,lq p11 q10,.q p12 (.nck q9),fq p13 q12 1,ln (.st q13 q11 1)]) (.skip))))
def f248 : Fun := .code [.t p4,.t p5] (sq [.q p4 (.mv (.c e0)),.q p5 (.mv (.c (.bool false)))]
 (sq [mq p6 q0,mq p7 q1,ks p8 (.fn 261 [q6,q7]),.q p9 (.ext q8 0),.q p10 (.ext q8 1),mq p4 q9,mq p5 q10]
 (.ret)))
def f249 : Fun := .code [.t p4] (sq [.q p4 (.mv (.c (.bool false)))]
 (sq [mq p9 q0,ks p10 (.fn 87 [q9,(.c (S [32,45,32,33,32,60,45,32]))]),mq p5 q10]
 (sq [mq p11 q0,ks p12 (.fn 55 [q11,(.c (S [60,45]))]),mq p6 q12]
 (sq [mq p13 q0,ks p14 (.fn 236 [q13]),ls p7 (.alloc [o0,e0,o0,o0,e0,o0,.nils]),ln (.st q7 q14 7)]
 (sq [mq p15 q0,.q p16 (.nck q15),fq p17 q16 4,lq p18 q17,mq p8 q18]
 (.seq (sq [mq p19 q0,.q p20 (.nck q19),fq p21 q20 2,lq p22 q21,.q p23 (.cmp .ge q22 (ci 0))]
 (.cond q23 (sq [.q p4 (.mv (.c (.bool false)))]
 (.ret)) (.skip)))
 (.seq (sq [mq p24 q0,ks p25 (.fn 55 [q24,(.c (S [123]))])]
 (.cond q25 (sq [mq p26 q1,.q p27 (.ldn q7 7),.q p28 (.ixl 7 q26 (ci 1)),ln (.st q28 q27 7)]
 (sq [.q p4 (.mv (.c (.bool false)))]
 (.ret))) (.skip)))
 (.seq (sq [mq p29 q6,mq p30 q29,.g p30 true (fq p31 q7 0),.g p30 true (lq p32 q31),.g p30 true (.q p33 (ef .num q32 (ci 41))),.q p34 (.pick q30 q33 (.c (.bool false))),mq p35 q34,.g p35 true (mq p36 q0),.g p35 true (ks p37 (.fn 55 [q36,(.c (S [59]))])),.q p38 (.pick q35 q37 (.c (.bool false)))]
 (.cond q38 (sq [mq p39 q1,fq p40 q7 3,lq p41 q40,.q p42 (.ldn q7 7),ls p43 (.bsl 1 [o0,e0,o0,o0,e0,o0,.nils] [(0,7,q42)]),ks p44 (.fn 57 [(ci 34),q41,(.c e0),q43]),.q p45 (.ixl 7 q39 (ci 0)),ln (.st q45 q44 7)]
 (sq [.q p4 (.mv (.c (.bool true)))]
 (.ret))) (.skip)))
 (.seq (sq [mq p46 q5,mq p47 q46,.g p47 false (fq p48 q7 0),.g p47 false (lq p49 q48),.g p47 false (.q p50 (ef .num q49 (ci 42))),.g p47 false (mq p51 q50),.g p51 true (mq p52 q8),.g p51 true (.q p53 (.not q52)),.g p47 false (.q p54 (.pick q51 q53 (.c (.bool false)))),.q p55 (.pick q47 (.c (.bool true)) q54)]
 (.cond q55 (sq [mq p56 q0,ks p57 (.fn 59 [q56])]
 (sq [.q p4 (.mv (.c (.bool false)))]
 (.ret))) (.skip)))
 (sq [mq p58 q1,mq p59 q0,.q p60 (.ldn q7 7),mq p61 q8,ks p62 (.fn 240 [q59,q60,q61]),.q p63 (.ixl 7 q58 (ci 0)),ln (.st q63 q62 7)]
 (sq [.q p4 (.mv (.c (.bool true)))]
 (.ret))))))))))))
def f250 : Fun := .code [.celln p2 7] (sq [ls p2 (.alloc [o0,e0,o0,o0,e0,o0,.nils])]
 (sq [mq p5 q0,ks p6 (.fn 29 [q5]),.q p7 (.fld q6 3),mq p3 q7]
 (sq [mq p8 q0,ks p9 (.fn 31 [q8,(.c (S [58]))])]
 (sq [mq p10 q0,ks p11 (.fn 120 [q10]),mq p4 q11]
 (sq [mq p12 q3,mq p13 q4,ks p14 (.fn 57 [(ci 16),q12,(.c e0),q13]),ln (.st q2 q14 7)]
 (.ret))))))
def f251 : Fun := .code [.celln p4 7] (sq [ls p4 (.alloc [o0,e0,o0,o0,e0,o0,.nils])]
 (sq [.q p5 (.mv (.c .nils))]
 (sq [mq p14 q0,ks p15 (.fn 29 [q14]),ls p6 (.alloc [o0,e0,o0,o0]),ln (.st q6 q15 4)]
 (sq [mq p16 q0,.q p17 (.nck q16),fq p18 q17 2,lq p19 q18,.q p20 (.cmp .lt q19 (ci 0)),mq p21 q20,.g p21 true (fq p22 q6 0),.g p21 true (lq p23 q22),.g p21 true (.q p24 (ef .num q23 (ci 1))),.q p25 (.pick q21 q24 (.c (.bool false))),mq p26 q25,.g p26 true (mq p27 q0),.g p26 true (ks p28 (.fn 210 [q27,(.c (S [58,61]))])),.q p29 (.pick q26 q28 (.c (.bool false))),mq p7 q29]
 (.seq (sq [mq p30 q7]
 (.cond q30 (sq [mq p31 q0,.q p32 (.nck q31),fq p33 q32 1,lq p34 q33,.q p35 (.ari .add q34 (ci 2)),.q p36 (.nck q31),fq p37 q36 1,ln (.st q37 q35 1)]
 (sq [mq p38 q5,fq p39 q6 3,lq p40 q39,fq p41 q6 1,lq p42 q41,ks p43 (.fn 57 [(ci 7),q40,q42,(.c .nils)]),ls p44 (.bsl 1 [o0,e0,o0,o0,e0,o0,.nils] [(0,7,q43)]),ls p45 (.app 7 88 q38 q44),mq p5 q45]
 (sq [mq p46 q0,ks p47 (.fn 55 [q46,(.c (S [60,45]))]),.q p48 (.not q47)]
 (.cond q48 (sq [mq p49 q0,ks p50 (.fn 59 [q49]),ln (.st q4 q50 7)]
 (.ret)) (.skip))))) (.skip)))
 (sq [mq p51 q0,ks p52 (.fn 53 [q51,(.c (S [60,45]))]),mq p8 q52]
 (.seq (sq [mq p53 q8]
 (.cond q53 (sq [mq p54 q0,ks p55 (.fn 239 [q54]),ls p9 (.alloc [o0,e0,o0,o0,e0,o0,.nils]),ln (.st q9 q55 7)]
 (sq [mq p56 q0,ks p57 (.fn 250 [q56]),ls p10 (.alloc [o0,e0,o0,o0,e0,o0,.nils]),ln (.st q10 q57 7)]
 (sq [mq p58 q5,.q p59 (.ldn q9 7),ls p60 (.bsl 1 [o0,e0,o0,o0,e0,o0,.nils] [(0,7,q59)]),ls p61 (.app 7 88 q58 q60),mq p5 q61]
 (sq [mq p62 q5,.q p63 (.ldn q10 7),ls p64 (.bsl 1 [o0,e0,o0,o0,e0,o0,.nils] [(0,7,q63)]),ls p65 (.app 7 88 q62 q64),mq p5 q65]
 (sq [mq p66 q1,mq p67 q5,ks p68 (.fn 57 [(ci 26),q66,(.c (S [114,101,99,118])),q67]),ln (.st q4 q68 7)]
 (.ret)))))) (.skip)))
 (sq [mq p69 q0,ks p70 (.fn 237 [q69]),ls p11 (.alloc [o0,e0,o0,o0,e0,o0,.nils]),ln (.st q11 q70 7)]
 (sq [mq p71 q0,ks p72 (.fn 31 [q71,(.c (S [60,45]))])]
 (sq [mq p73 q0,ks p74 (.fn 236 [q73]),ls p12 (.alloc [o0,e0,o0,o0,e0,o0,.nils]),ln (.st q12 q74 7)]
 (sq [mq p75 q0,ks p76 (.fn 250 [q75]),ls p13 (.alloc [o0,e0,o0,o0,e0,o0,.nils]),ln (.st q13 q76 7)]
 (sq [mq p77 q1,.q p78 (.ldn q11 7),.q p79 (.ldn q12 7),.q p80 (.ldn q13 7),ls p81 (.bsl 3 [o0,e0,o0,o0,e0,o0,.nils,o0,e0,o0,o0,e0,o0,.nils,o0,e0,o0,o0,e0,o0,.nils] [(0,7,q78),(7,7,q79),(14,7,q80)]),ks p82 (.fn 57 [(ci 26),q77,(.c (S [115,101,110,100])),q81]),ln (.st q4 q82 7)]
 (.ret)))))))))))))
def f252 : Fun := .code [.t p2] (sq [ls p1 (.box q0),.q p2 (.mv (ci 0))]
 (.seq (sq [fq p3 q1 0,lq p4 q3,.q p5 (et .num q4 (ci 5))]
 (.cond q5 (sq [.q p2 (.mv (ci 0))]
 (.ret)) (.skip)))
 (.seq (sq [fq p6 q1 1,lq p7 q6]
 (.block 0 (sq [.q p9 (ef .text q7 (.c (S [124,124]))),mq p8 q9]
 (.cond q8 (sq [.q p2 (.mv (ci 1))]
 (.ret)) (sq [.q p11 (ef .text q7 (.c (S [38,38]))),mq p10 q11]
 (.cond q10 (sq [.q p2 (.mv (ci 2))]
 (.ret)) (.seq (sq [.q p13 (ef .text q7 (.c (S [61,61]))),mq p12 q13]
 (.cond q12 (.skip) (sq [.q p14 (ef .text q7 (.c (S [33,61]))),mq p12 q14]
 (.cond q12 (.skip) (sq [.q p15 (ef .text q7 (.c (S [60]))),mq p12 q15]
 (.cond q12 (.skip) (sq [.q p16 (ef .text q7 (.c (S [60,61]))),mq p12 q16]
 (.cond q12 (.skip) (sq [.q p17 (ef .text q7 (.c (S [62]))),mq p12 q17]
 (.cond q12 (.skip) (.reg [.q p18 (ef .text q7 (.c (S [62,61]))),mq p12 q18])))))))))))
 (.cond q12 (sq [.q p2 (.mv (ci 3))]
 (.ret)) (.seq (sq [.q p20 (ef .text q7 (.c (S [43]))),mq p19 q20]
 (.cond q19 (.skip) (.reg [.q p21 (ef .text q7 (.c (S [45]))),mq p19 q21])))
 (.cond q19 (sq [.q p2 (.mv (ci 4))]
 (.ret)) (.seq (sq [.q p23 (ef .text q7 (.c (S [42]))),mq p22 q23]
 (.cond q22 (.skip) (sq [.q p24 (ef .text q7 (.c (S [47]))),mq p22 q24]
 (.cond q22 (.skip) (.reg [.q p25 (ef .text q7 (.c (S [37]))),mq p22 q25])))))
 (.cond q22 (sq [.q p2 (.mv (ci 5))]
 (.ret)) (.skip)))))))))))))
 (sq [.q p2 (.mv (ci 0))]
 (.ret)))))
def f253 : Fun := .code [.celln p2 7] (sq [ls p2 (.alloc [o0,e0,o0,o0,e0,o0,.nils])]
 (sq [mq p6 q0,ks p7 (.fn 29 [q6]),ls p3 (.alloc [o0,e0,o0,o0]),ln (.st q3 q7 4)]
 (.seq (sq [mq p8 q0,.q p9 (.nck q8),fq p10 q9 2,lq p11 q10,.q p12 (.cmp .ge q11 (ci 0))]
 (.cond q12 (sq [.q p13 (.build [o0,e0,o0,o0,e0,o0,.nils] []),ln (.st q2 q13 7)]
 (.ret)) (.skip)))
 (sq [mq p14 q0,.q p15 (.nck q14),fq p16 q15 1,lq p17 q16,.q p18 (.ari .add q17 (ci 1)),.q p19 (.nck q14),fq p20 q19 1,ln (.st q20 q18 1)]
 (.seq (sq [fq p21 q3 0,lq p22 q21]
 (.block 0 (sq [.q p24 (ef .num q22 (ci 1)),mq p23 q24]
 (.cond q23 (sq [fq p25 q3 3,lq p26 q25,fq p27 q3 1,lq p28 q27,ks p29 (.fn 57 [(ci 40),q26,q28,(.c .nils)]),ln (.st q2 q29 7)]
 (.ret)) (sq [.q p31 (ef .num q22 (ci 2)),mq p30 q31]
 (.cond q30 (sq [fq p32 q3 3,lq p33 q32,fq p34 q3 2,lq p35 q34,.q p36 (.build [o0,e0,o0,o0,e0,o0,.nils] [(0,1,(ci 36)),(3,1,q33),(2,1,q35)]),ln (.st q2 q36 7)]
 (.ret)) (sq [.q p38 (ef .num q22 (ci 3)),mq p37 q38]
 (.cond q37 (sq [fq p39 q3 3,lq p40 q39,fq p41 q3 1,lq p42 q41,ks p43 (.fn 57 [(ci 37),q40,q42,(.c .nils)]),ln (.st q2 q43 7)]
 (.ret)) (.skip)))))))))
 (sq [mq p45 q0,.q p46 (.ldn q3 4),ks p47 (.fn 262 [q45,q46]),mq p44 q47,.q p48 (.ext q44 0),.q p49 (.ext q44 1),ls p4 (.alloc [o0,e0,o0,o0,e0,o0,.nils]),ln (.st q4 q48 7),mq p5 q49]
 (.seq (sq [mq p50 q5,.q p51 (.not q50)]
 (.cond q51 (sq [mq p52 q0,.q p53 (.nck q52),fq p54 q53 1,lq p55 q54,.q p56 (.ari .sub q55 (ci 1)),.q p57 (.nck q52),fq p58 q57 1,ln (.st q58 q56 1)]
 (sq [mq p59 q0,.q p60 (.nck q59),fq p61 q60 2,lq p62 q61,.q p63 (.cmp .lt q62 (ci 0))]
 (.cond q63 (sq [mq p64 q0,ks p65 (.fn 59 [q64]),ln (.st q2 q65 7)]
 (.ret)) (.skip)))) (.skip)))
 (sq [.q p66 (.ldn q4 7),ln (.st q2 q66 7)]
 (.ret)))))))))
def f254 : Fun := .code [.t p4] (sq [.q p4 (.mv (.c .nils))]
 (sq [.q p5 (.mv (.c .nils))]
 (.seq (.block 0 (.loop (.seq (sq [mq p7 q0,.q p8 (.nck q7),fq p9 q8 2,lq p10 q9,.q p11 (.cmp .lt q10 (ci 0)),mq p12 q11,.g p12 true (mq p13 q0),.g p12 true (mq p14 q1),.g p12 true (ks p15 (.fn 55 [q13,q14])),.g p12 true (.q p16 (.not q15)),.q p17 (.pick q12 q16 (.c (.bool false)))]
 (.cond q17 (.skip) (.exit 0)))
 (.block 1 (.seq (sq [mq p18 q5,.q p19 (.len q18),.q p20 (.cmp .gt q19 (ci 0))]
 (.cond q20 (.reg [mq p21 q0,ks p22 (.fn 31 [q21,(.c (S [44]))])]) (.skip)))
 (sq [mq p23 q0,ks p24 (.fn 236 [q23]),ls p6 (.alloc [o0,e0,o0,o0,e0,o0,.nils]),ln (.st q6 q24 7)]
 (.reg [mq p25 q5,.q p26 (.ldn q6 7),ls p27 (.bsl 1 [o0,e0,o0,o0,e0,o0,.nils] [(0,7,q26)]),ls p28 (.app 7 88 q25 q27),mq p5 q28])))))))
 (sq [mq p29 q0,mq p30 q1,ks p31 (.fn 31 [q29,q30])]
 (sq [mq p32 q5,mq p4 q32]
 (.ret))))))
def f255 : Fun := .code [.celln p6 7] (sq [ls p5 (.box q2),ls p6 (.alloc [o0,e0,o0,o0,e0,o0,.nils])]
 (.seq (.regc [.qr p9 (.ldn q5 7) 0 2,ks p10 (.fn 89 []),ks p11 (.fn 89 []),ls p12 (.bsl 3 [o0,e0,o0,o0,e0,o0,.nils,o0,e0,o0,o0,e0,o0,.nils,o0,e0,o0,o0,e0,o0,.nils] [(0,7,q9),(7,7,q10),(14,7,q11)]),mq p7 q12])
 (.seq (sq [mq p13 q0,ks p14 (.fn 55 [q13,(.c (S [58]))]),.q p15 (.not q14)]
 (.cond q15 (sq [mq p16 q7,mq p17 q0,ks p18 (.fn 236 [q17]),.q p19 (.ixl 7 q16 (ci 1)),ln (.st q19 q18 7)]
 (sq [mq p20 q0,ks p21 (.fn 53 [q20,(.c (S [93]))]),mq p8 q21]
 (sq [mq p22 q8]
 (.cond q22 (sq [mq p23 q1,mq p24 q7,.q p25 (.sll 7 q24 none (some (ci 2)) none),ks p26 (.fn 57 [(ci 45),q23,(.c e0),q25]),ln (.st q6 q26 7)]
 (.ret)) (.skip))))) (.skip)))
 (sq [mq p27 q0,ks p28 (.fn 31 [q27,(.c (S [58]))])]
 (.seq (sq [mq p29 q0,ks p30 (.fn 55 [q29,(.c (S [93]))]),.q p31 (.not q30)]
 (.cond q31 (.reg [mq p32 q7,mq p33 q0,ks p34 (.fn 236 [q33]),.q p35 (.ixl 7 q32 (ci 2)),ln (.st q35 q34 7)]) (.skip)))
 (sq [mq p36 q0,ks p37 (.fn 31 [q36,(.c (S [93]))])]
 (sq [mq p38 q1,mq p39 q7,ks p40 (.fn 57 [(ci 46),q38,(.c e0),q39]),ln (.st q6 q40 7)]
 (.ret))))))))
def f260 : Fun := .code [.t p4] (sq [.q p4 (.mv (ci 0))]
 (.seq (sq [mq p6 q0,.q p7 (.len q6),.q p8 (.mv (ci 0))]
 (.block 0 (.loop (sq [.q p9 (.cmp .lt q8 q7)]
 (.seq (.cond q9 (.skip) (.exit 0))
 (.seq (.block 1 (sq [mq p10 q8,mq p5 q10]
 (sq [mq p11 q1,mq p12 q0,mq p13 q5,.q p14 (.ixl 2 q12 q13),.q p15 (.ldn q14 2),ks p16 (.fv q11 [q15])]
 (.cond q16 (sq [mq p17 q5,mq p4 q17]
 (.ret)) (.skip)))))
 (.reg [.q p18 (.ari .add q8 (ci 1)),mq p8 q18])))))))
 (sq [.q p4 (.mv (.c (.int .i64 (.lit (.negSucc 0)))))]
 (.ret))))
def f261 : Fun := .code [.t p4,.t p5] (sq [.q p4 (.mv (.c e0)),.q p5 (.mv (.c (.bool false)))]
 (.seq (sq [mq p6 q0,mq p7 q1,ks p8 (.fn 105 [q6,q7]),.q p9 (.not q8)]
 (.cond q9 (sq [mq p10 q0,mq p4 q10,.q p5 (.mv (.c (.bool false)))]
 (.ret)) (.skip)))
 (sq [mq p11 q0,mq p12 q1,.q p13 (.lens q12),.q p14 (.sls q11 (some q13) none),mq p4 q14,.q p5 (.mv (.c (.bool true)))]
 (.ret))))
def f262 : Fun := .code [.celln p4 7,.t p5] (sq [ls p3 (.box q1),ls p4 (.alloc [o0,e0,o0,o0,e0,o0,.nils]),.q p5 (.mv (.c (.bool false)))]
 (.seq (sq [fq p11 q3 0,lq p12 q11,.q p13 (ef .num q12 (ci 6))]
 (.cond q13 (sq [.q p14 (.build [o0,e0,o0,o0,e0,o0,.nils] []),ln (.st q4 q14 7),.q p5 (.mv (.c (.bool false)))]
 (.ret)) (.skip)))
 (sq [mq p15 q0,.q p16 (.nck q15),fq p17 q16 3,lq p18 q17,mq p6 q18]
 (sq [mq p19 q0,.q p20 (.nck q19),fq p21 q20 3,ln (.st q21 (.c (.bool false)) 1)]
 (sq [ls p7 (.alloc [o0,e0,o0,o0,e0,o0,.nils])]
 (sq [.q p8 (.mv (.c (.bool true)))]
 (.seq (sq [fq p22 q3 1,lq p23 q22]
 (.block 0 (sq [.q p25 (ef .text q23 (.c (S [40]))),mq p24 q25]
 (.cond q24 (sq [mq p26 q0,ks p27 (.fn 236 [q26]),ln (.st q7 q27 7)]
 (.reg [mq p28 q0,ks p29 (.fn 31 [q28,(.c (S [41]))])])) (.seq (sq [.q p31 (ef .text q23 (.c (S [116,114,117,101]))),mq p30 q31]
 (.cond q30 (.skip) (.reg [.q p32 (ef .text q23 (.c (S [102,97,108,115,101]))),mq p30 q32])))
 (.cond q30 (.reg [fq p33 q3 3,lq p34 q33,fq p35 q3 1,lq p36 q35,ks p37 (.fn 57 [(ci 38),q34,q36,(.c .nils)]),ln (.st q7 q37 7)]) (sq [.q p39 (ef .text q23 (.c (S [110,105,108]))),mq p38 q39]
 (.cond q38 (.reg [fq p40 q3 3,lq p41 q40,ks p42 (.fn 57 [(ci 39),q41,(.c e0),(.c .nils)]),ln (.st q7 q42 7)]) (sq [.q p44 (ef .text q23 (.c (S [102,117,110,99]))),mq p43 q44]
 (.cond q43 (sq [mq p45 q0,ks p46 (.fn 58 [q45]),mq p9 q46]
 (.reg [fq p47 q3 3,lq p48 q47,mq p49 q9,ks p50 (.fn 57 [(ci 48),q48,(.c e0),q49]),ln (.st q7 q50 7)])) (.seq (sq [.q p52 (ef .text q23 (.c (S [38]))),mq p51 q52]
 (.cond q51 (.skip) (.reg [.q p53 (ef .text q23 (.c (S [91]))),mq p51 q53])))
 (.cond q51 (sq [mq p54 q6,.q p55 (.not q54),mq p8 q55]
 (sq [mq p56 q8]
 (.cond q56 (.reg [mq p57 q0,.q p58 (.ldn q3 4),ks p59 (.fn 265 [q57,q58]),ln (.st q7 q59 7)]) (.skip)))) (.seq (sq [.q p61 (ef .text q23 (.c (S [109,97,107,101]))),mq p60 q61]
 (.cond q60 (.skip) (.reg [.q p62 (ef .text q23 (.c (S [110,101,119]))),mq p60 q62])))
 (.cond q60 (.reg [mq p63 q0,.q p64 (.ldn q3 4),ks p65 (.fn 266 [q63,q64]),ln (.st q7 q65 7)]) (.seq (sq [.q p67 (ef .text q23 (.c (S [97,112,112,101,110,100]))),mq p66 q67]
 (.cond q66 (.skip) (sq [.q p68 (ef .text q23 (.c (S [99,97,112]))),mq p66 q68]
 (.cond q66 (.skip) (sq [.q p69 (ef .text q23 (.c (S [99,108,111,115,101]))),mq p66 q69]
 (.cond q66 (.skip) (sq [.q p70 (ef .text q23 (.c (S [108,101,110]))),mq p66 q70]
 (.cond q66 (.skip) (sq [.q p71 (ef .text q23 (.c (S [112,97,110,105,99]))),mq p66 q71]
 (.cond q66 (.skip) (sq [.q p72 (ef .text q23 (.c (S [112,114,105,110,116]))),mq p66 q72]
 (.cond q66 (.skip) (.reg [.q p73 (ef .text q23 (.c (S [114,101,99,111,118,101,114]))),mq p66 q73])))))))))))))
 (.cond q66 (sq [mq p74 q0,ks p75 (.fn 31 [q74,(.c (S [40]))])]
 (sq [mq p76 q0,ks p77 (.fn 254 [q76,(.c (S [41]))]),mq p10 q77]
 (.reg [fq p78 q3 3,lq p79 q78,fq p80 q3 1,lq p81 q80,mq p82 q10,ks p83 (.fn 57 [(ci 44),q79,q81,q82]),ln (.st q7 q83 7)]))) (.reg [.q p8 (.mv (.c (.bool false)))])))))))))))))))))
 (sq [mq p84 q0,mq p85 q6,.q p86 (.nck q84),fq p87 q86 3,ln (.st q87 q85 1)]
 (sq [.q p88 (.ldn q7 7),mq p89 q8,ln (.st q4 q88 7),mq p5 q89]
 (.ret))))))))))
def f265 : Fun := .code [.celln p4 7] (sq [ls p3 (.box q1),ls p4 (.alloc [o0,e0,o0,o0,e0,o0,.nils])]
 (sq [.q p5 (.mv (.c .nils))]
 (sq [.q p6 (.mv (.c e0))]
 (sq [.q p7 (.mv (ci 49))]
 (.seq (sq [fq p13 q3 1,lq p14 q13,.q p15 (ef .text q14 (.c (S [38])))]
 (.cond q15 (.reg [mq p16 q0,ks p17 (.fn 54 [q16]),mq p6 q17]) (sq [.q p7 (.mv (ci 50))]
 (sq [mq p18 q0,ks p19 (.fn 31 [q18,(.c (S [93]))])]
 (sq [mq p20 q0,ks p21 (.fn 56 [q20]),ls p8 (.alloc [o0,e0,o0,o0,e0,o0,.nils]),ln (.st q8 q21 7)]
 (.reg [mq p22 q5,.q p23 (.ldn q8 7),ls p24 (.bsl 1 [o0,e0,o0,o0,e0,o0,.nils] [(0,7,q23)]),ls p25 (.app 7 88 q22 q24),mq p5 q25]))))))
 (sq [mq p26 q0,ks p27 (.fn 31 [q26,(.c (S [123]))])]
 (.seq (.block 0 (.loop (.seq (sq [mq p28 q0,.q p29 (.nck q28),fq p30 q29 2,lq p31 q30,.q p32 (.cmp .lt q31 (ci 0)),mq p33 q32,.g p33 true (mq p34 q0),.g p33 true (ks p35 (.fn 55 [q34,(.c (S [125]))])),.g p33 true (.q p36 (.not q35)),.q p37 (.pick q33 q36 (.c (.bool false)))]
 (.cond q37 (.skip) (.exit 0)))
 (.block 1 (sq [mq p38 q0,ks p39 (.fn 29 [q38]),.q p40 (.fld q39 3),mq p9 q40]
 (.seq (sq [mq p41 q7,.q p42 (ef .num q41 (ci 49))]
 (.cond q42 (sq [mq p43 q0,ks p44 (.fn 54 [q43]),mq p10 q44]
 (sq [mq p45 q0,ks p46 (.fn 31 [q45,(.c (S [58]))])]
 (sq [mq p47 q0,ks p48 (.fn 236 [q47]),ls p11 (.alloc [o0,e0,o0,o0,e0,o0,.nils]),ln (.st q11 q48 7)]
 (.reg [mq p49 q5,mq p50 q9,mq p51 q10,.q p52 (.ldn q11 7),ls p53 (.bsl 1 [o0,e0,o0,o0,e0,o0,.nils] [(0,7,q52)]),ks p54 (.fn 57 [(ci 5),q50,q51,q53]),ls p55 (.bsl 1 [o0,e0,o0,o0,e0,o0,.nils] [(0,7,q54)]),ls p56 (.app 7 88 q49 q55),mq p5 q56])))) (sq [mq p57 q0,ks p58 (.fn 236 [q57]),ls p12 (.alloc [o0,e0,o0,o0,e0,o0,.nils]),ln (.st q12 q58 7)]
 (.reg [mq p59 q5,.q p60 (.ldn q12 7),ls p61 (.bsl 1 [o0,e0,o0,o0,e0,o0,.nils] [(0,7,q60)]),ls p62 (.app 7 88 q59 q61),mq p5 q62]))))
 (sq [mq p63 q0,ks p64 (.fn 55 [q63,(.c (S [125]))]),.q p65 (.not q64)]
 (.cond q65 (.reg [mq p66 q0,ks p67 (.fn 31 [q66,(.c (S [44]))])]) (.skip)))))))))
 (sq [mq p68 q0,ks p69 (.fn 31 [q68,(.c (S [125]))])]
 (sq [mq p70 q7,fq p71 q3 3,lq p72 q71,mq p73 q6,mq p74 q5,ks p75 (.fn 57 [q70,q72,q73,q74]),ln (.st q4 q75 7)]
 (.ret))))))))))
def f266 : Fun := .code [.celln p4 7] (sq [ls p3 (.box q1),ls p4 (.alloc [o0,e0,o0,o0,e0,o0,.nils])]
 (sq [mq p11 q0,ks p12 (.fn 31 [q11,(.c (S [40]))])]
 (sq [.q p5 (.mv (.c .nils))]
 (.seq (sq [fq p13 q3 1,lq p14 q13,.q p15 (ef .text q14 (.c (S [110,101,119])))]
 (.cond q15 (sq [mq p16 q0,ks p17 (.fn 29 [q16]),.q p18 (.fld q17 3),mq p6 q18]
 (sq [mq p19 q0,ks p20 (.fn 54 [q19]),mq p7 q20]
 (.reg [mq p21 q5,mq p22 q6,mq p23 q7,ks p24 (.fn 57 [(ci 12),q22,q23,(.c .nils)]),ls p25 (.bsl 1 [o0,e0,o0,o0,e0,o0,.nils] [(0,7,q24)]),ls p26 (.app 7 88 q21 q25),mq p5 q26]))) (sq [mq p27 q0,ks p28 (.fn 56 [q27]),ls p8 (.alloc [o0,e0,o0,o0,e0,o0,.nils]),ln (.st q8 q28 7)]
 (sq [mq p29 q5,.q p30 (.ldn q8 7),ls p31 (.bsl 1 [o0,e0,o0,o0,e0,o0,.nils] [(0,7,q30)]),ls p32 (.app 7 88 q29 q31),mq p5 q32]
 (sq [mq p33 q0,ks p34 (.fn 53 [q33,(.c (S [44]))]),mq p9 q34]
 (sq [mq p35 q9]
 (.cond q35 (sq [mq p36 q0,ks p37 (.fn 236 [q36]),ls p10 (.alloc [o0,e0,o0,o0,e0,o0,.nils]),ln (.st q10 q37 7)]
 (.reg [mq p38 q5,.q p39 (.ldn q10 7),ls p40 (.bsl 1 [o0,e0,o0,o0,e0,o0,.nils] [(0,7,q39)]),ls p41 (.app 7 88 q38 q40),mq p5 q41])) (.skip))))))))
 (sq [mq p42 q0,ks p43 (.fn 31 [q42,(.c (S [41]))])]
 (sq [fq p44 q3 3,lq p45 q44,fq p46 q3 1,lq p47 q46,mq p48 q5,ks p49 (.fn 57 [(ci 44),q45,q47,q48]),ln (.st q4 q49 7)]
 (.ret)))))))
def f283 : Fun := .code [.celln p8 8] (sq [ls p5 (.box q1),ls p8 (.alloc [o0,e0,.nilp,o0,o0,o0,.nilp,.nilp])]
 (sq [fq p11 q5 4,lq p12 q11,mq p13 q2,.q p14 (.len q13),.q p15 (.ari .add q12 q14),mq p9 q15]
 (.seq (.block 0 (sq [mq p17 q2,.q p18 (.len q17),.q p19 (ef .num q18 (ci 0)),mq p16 q19]
 (.cond q16 (sq [.q p20 (.ldn q5 8),ln (.st q8 q20 8)]
 (.ret)) (sq [mq p22 q9,fq p23 q5 5,lq p24 q23,.q p25 (.cmp .le q22 q24),mq p21 q25]
 (.cond q21 (sq [fq p26 q5 2,lq p27 q26,.q p28 (.nck q27),lq p29 q28,fq p30 q5 3,lq p31 q30,fq p32 q5 4,lq p33 q32,.q p34 (.ari .add q31 q33),.q p35 (.sll 8 q29 (some q34) none none),mq p36 q2,ls p37 (.cpy 8 q35 q36)]
 (sq [mq p38 q9,fq p39 q5 4,ln (.st q39 q38 1)]
 (sq [.q p40 (.ldn q5 8),ln (.st q8 q40 8)]
 (.ret)))) (.skip))))))
 (sq [fq p41 q5 5,lq p42 q41,.q p43 (.ari .mul (ci 2) q42),mq p44 q9,.q p45 (.mx q43 q44),.q p46 (.mn q45 (ci 16384)),ls p47 (.mksl [o0,e0,.nilp,o0,o0,o0,.nilp,.nilp] 72 q46 q46),mq p10 q47]
 (.seq (sq [fq p48 q5 2,lq p49 q48,.q p50 (et .ptr q49 (.c .nilp))]
 (.cond q50 (.reg [mq p51 q10,fq p52 q5 2,lq p53 q52,.q p54 (.nck q53),lq p55 q54,fq p56 q5 3,lq p57 q56,fq p58 q5 3,lq p59 q58,fq p60 q5 4,lq p61 q60,.q p62 (.ari .add q59 q61),.q p63 (.sll 8 q55 (some q57) (some q62) none),ls p64 (.cpy 8 q51 q63)]) (.skip)))
 (sq [mq p65 q10,fq p66 q5 4,lq p67 q66,.q p68 (.sll 8 q65 (some q67) none none),mq p69 q2,ls p70 (.cpy 8 q68 q69)]
 (sq [mq p71 q0,mq p72 q10,mq p73 q9,ks p74 (.fn 315 [q71,q72,q73]),ln (.st q8 q74 8)]
 (.ret))))))))
def f284 : Fun := .code [.t p4] (sq [ls p3 (.box q1),.q p4 (.mv (ci 0))]
 (sq [fq p5 q3 0,lq p6 q5,mq p4 q6]
 (.ret)))
def f285 : Fun := .code [.celln p6 8] (sq [ls p4 (.box q1),ls p6 (.alloc [o0,e0,.nilp,o0,o0,o0,.nilp,.nilp])]
 (sq [fq p7 q4 2,lq p8 q7,.q p9 (.nck q8),lq p10 q9,fq p11 q4 3,lq p12 q11,mq p13 q2,.q p14 (.ari .add q12 q13),.q p15 (.ixl 8 q10 q14),.q p16 (.ldn q15 8),ln (.st q6 q16 8)]
 (.ret)))
def f286 : Fun := .code [.celln p6 8] (sq [ls p4 (.box q1),ls p6 (.alloc [o0,e0,.nilp,o0,o0,o0,.nilp,.nilp])]
 (sq [mq p7 q0,.q p8 (.nck q7),fq p9 q8 6,fq p10 q9 0,lq p11 q10,.q p12 (.ari .add q11 (ci 1)),.q p13 (.nck q7),fq p14 q13 6,fq p15 q14 0,ln (.st q15 q12 1)]
 (sq [.q p16 (.ldn q4 8),ls p17 (.bsl 1 [o0,e0,.nilp,o0,o0,o0,.nilp,.nilp] [(0,8,q16)]),ls p18 (.box q17),.q p19 (.build [o0,e0,.nilp,o0,o0,o0,.nilp,.nilp] [(2,1,q18)]),ln (.st q6 q19 8)]
 (.ret))))
def f287 : Fun := .code [.t p4] (sq [ls p3 (.box q1),.q p4 (.mv (.c e0))]
 (sq [fq p5 q3 1,lq p6 q5,mq p4 q6]
 (.ret)))
def f288 : Fun := .code [.t p4] (sq [ls p3 (.box q1),.q p4 (.mv (.c (.bool false)))]
 (sq [fq p5 q3 7,lq p6 q5,.q p7 (.nck q6),fq p8 q7 2,lq p9 q8,mq p4 q9]
 (.ret)))
def f289 : Fun := .code [.celln p6 8] (sq [ls p6 (.alloc [o0,e0,.nilp,o0,o0,o0,.nilp,.nilp])]
 (sq [mq p7 q0,.q p8 (.nck q7),fq p9 q8 6,fq p10 q9 1,lq p11 q10,.q p12 (.ari .add q11 (ci 1)),.q p13 (.nck q7),fq p14 q13 6,fq p15 q14 1,ln (.st q15 q12 1)]
 (sq [mq p16 q1,mq p17 q2,.q p18 (.build [o0,.nils] [(0,1,q16),(1,1,q17)]),ls p19 (.box q18),.q p20 (.build [o0,e0,.nilp,o0,o0,o0,.nilp,.nilp] [(6,1,q19)]),ln (.st q6 q20 8)]
 (.ret))))
def f290 : Fun := .code [.t p4,.t p5] (sq [ls p3 (.box q1),.q p4 (.mv (ci 0)),.q p5 (.mv (ci 0))]
 (sq [fq p6 q3 7,lq p7 q6,.q p8 (.nck q7),fq p9 q8 3,lq p10 q9,.q p11 (.len q10),fq p12 q3 7,lq p13 q12,.q p14 (.nck q13),fq p15 q14 1,lq p16 q15,mq p4 q11,mq p5 q16]
 (.ret)))
def f291 : Fun := .code [.celln p8 8] (sq [ls p5 (.box q1),ls p8 (.alloc [o0,e0,.nilp,o0,o0,o0,.nilp,.nilp])]
 (sq [fq p9 q5 3,lq p10 q9,mq p11 q2,.q p12 (.ari .add q10 q11),mq p13 q3,mq p14 q2,.q p15 (.ari .sub q13 q14),fq p16 q5 5,lq p17 q16,mq p18 q2,.q p19 (.ari .sub q17 q18),fq p20 q5 3,ln (.st q20 q12 1),fq p21 q5 4,ln (.st q21 q15 1),fq p22 q5 5,ln (.st q22 q19 1)]
 (sq [.q p23 (.ldn q5 8),ln (.st q8 q23 8)]
 (.ret))))
def f292 : Fun := .code [.celln p4 8] (sq [ls p4 (.alloc [o0,e0,.nilp,o0,o0,o0,.nilp,.nilp])]
 (sq [mq p5 q1,.q p6 (.build [o0,.nils] [(0,1,q5)]),ls p7 (.box q6),.q p8 (.build [o0,e0,.nilp,o0,o0,o0,.nilp,.nilp] [(6,1,q7)]),ln (.st q4 q8 8)]
 (.ret)))
def f293 : Fun := .code [.t p4,.t p5] (sq [ls p3 (.box q1),.q p4 (.mv (ci 0)),.q p5 (.mv (.c .nils))]
 (.seq (sq [fq p6 q3 6,lq p7 q6,.q p8 (ef .ptr q7 (.c .nilp))]
 (.cond q8 (sq [.q p4 (.mv (ci 0)),.q p5 (.mv (.c .nils))]
 (.ret)) (.skip)))
 (sq [fq p9 q3 6,lq p10 q9,.q p11 (.nck q10),fq p12 q11 0,lq p13 q12,fq p14 q3 6,lq p15 q14,.q p16 (.nck q15),fq p17 q16 1,lq p18 q17,mq p4 q13,mq p5 q18]
 (.ret))))
def f294 : Fun := .code [.celln p6 8] (sq [ls p4 (.box q1),ls p6 (.alloc [o0,e0,.nilp,o0,o0,o0,.nilp,.nilp])]
 (sq [fq p7 q4 2,lq p8 q7,.q p9 (.nck q8),lq p10 q9,mq p11 q2,.q p12 (.ixl 8 q10 q11),.q p13 (.ldn q12 8),ln (.st q6 q13 8)]
 (.ret)))
def f295 : Fun := .code [.t p4] (sq [ls p3 (.box q1),.q p4 (.mv (ci 0))]
 (.seq (sq [fq p5 q3 7,lq p6 q5,.q p7 (ef .ptr q6 (.c .nilp))]
 (.cond q7 (sq [.q p4 (.mv (ci 0))]
 (.ret)) (.skip)))
 (sq [fq p8 q3 7,lq p9 q8,.q p10 (.nck q9),fq p11 q10 0,lq p12 q11,mq p4 q12]
 (.ret))))
def f296 : Fun := .code [.celln p6 8] (sq [ls p4 (.box q1),ls p5 (.box q2),ls p6 (.alloc [o0,e0,.nilp,o0,o0,o0,.nilp,.nilp])]
 (sq [fq p7 q4 1,lq p8 q7,fq p9 q5 1,lq p10 q9,.q p11 (.cat q8 q10),.q p12 (.build [o0,e0,.nilp,o0,o0,o0,.nilp,.nilp] [(1,1,q11)]),ln (.st q6 q12 8)]
 (.ret)))
def f297 : Fun := .code [.celln p6 8] (sq [ls p6 (.alloc [o0,e0,.nilp,o0,o0,o0,.nilp,.nilp])]
 (sq [mq p7 q0,mq p8 q1,ks p9 (.fn 316 [q8]),mq p10 q1,.q p11 (.len q10),ks p12 (.fn 315 [q7,q9,q11]),ln (.st q6 q12 8)]
 (.ret)))
def f298 : Fun := .code [.celln p6 8] (sq [ls p6 (.alloc [o0,e0,.nilp,o0,o0,o0,.nilp,.nilp])]
 (sq [mq p7 q0,.q p8 (.nck q7),fq p9 q8 6,fq p10 q9 4,lq p11 q10,.q p12 (.ari .add q11 (ci 1)),.q p13 (.nck q7),fq p14 q13 6,fq p15 q14 4,ln (.st q15 q12 1)]
 (sq [mq p16 q0,.q p17 (.nck q16),fq p18 q17 5,lq p19 q18,.q p20 (.ari .add q19 (ci 1)),.q p21 (.nck q16),fq p22 q21 5,ln (.st q22 q20 1)]
 (sq [mq p23 q0,.q p24 (.nck q23),fq p25 q24 5,lq p26 q25,mq p27 q1,.q p28 (.build [o0,o0,(.bool false),.nils] [(0,1,q26),(1,1,q27)]),ls p29 (.box q28),.q p30 (.build [o0,e0,.nilp,o0,o0,o0,.nilp,.nilp] [(7,1,q29)]),ln (.st q6 q30 8)]
 (.ret)))))
def f299 : Fun := .code [.celln p6 8] (sq [ls p6 (.alloc [o0,e0,.nilp,o0,o0,o0,.nilp,.nilp])]
 (sq [mq p7 q0,mq p8 q1,ls p9 (.mksl [o0,e0,.nilp,o0,o0,o0,.nilp,.nilp] 72 q8 q8),mq p10 q1,ks p11 (.fn 315 [q7,q9,q10]),ln (.st q6 q11 8)]
 (.ret)))
def f300 : Fun := .code [.celln p4 8] (sq [ls p4 (.alloc [o0,e0,.nilp,o0,o0,o0,.nilp,.nilp])]
 (sq [mq p5 q1,.q p6 (.build [o0,e0,.nilp,o0,o0,o0,.nilp,.nilp] [(1,1,q5)]),ln (.st q4 q6 8)]
 (.ret)))
def f301 : Fun := .code [.t p4] (sq [ls p3 (.box q1),.q p4 (.mv (.c (.bool false)))]
 (sq [fq p5 q3 2,lq p6 q5,.q p7 (ef .ptr q6 (.c .nilp)),mq p4 q7]
 (.ret)))
def f302 : Fun := .code [.celln p4 8] (sq [ls p4 (.alloc [o0,e0,.nilp,o0,o0,o0,.nilp,.nilp])]
 (sq [mq p5 q1,.q p6 (.build [o0,e0,.nilp,o0,o0,o0,.nilp,.nilp] [(0,1,q5)]),ln (.st q4 q6 8)]
 (.ret)))
def f303 : Fun := .code [.celln p4 8] (sq [ls p4 (.alloc [o0,e0,.nilp,o0,o0,o0,.nilp,.nilp])]
 (sq [mq p6 q0,.q p7 (.nck q6),fq p8 q7 6,fq p9 q8 2,lq p10 q9,.q p11 (.ari .add q10 (ci 1)),.q p12 (.nck q6),fq p13 q12 6,fq p14 q13 2,ln (.st q14 q11 1)]
 (sq [mq p15 q1,.q p16 (.len q15),ls p17 (.mksl [o0,e0,.nilp,o0,o0,o0,.nilp,.nilp] 72 q16 q16),ls p5 (.alloc [.nils]),ln (.st q5 q17 1)]
 (sq [.q p18 (.build [o0,e0,.nilp,o0,o0,o0,.nilp,.nilp] [(2,1,q5)]),ln (.st q4 q18 8)]
 (.ret)))))
def f304 : Fun := .code [] (sq [ls p4 (.box q1),ls p5 (.box q2)]
 (.regc [fq p6 q4 7,.qr p7 (.ld q6) 0 2,fq p8 q4 7,.qr p9 (.ld q8) 0 1,.q p10 (.nck q9),fq p11 q10 3,.qr p12 (.ld q11) 0 1,.q p13 (.ldn q5 8),ls p14 (.bsl 1 [o0,e0,.nilp,o0,o0,o0,.nilp,.nilp] [(0,8,q13)]),ls p15 (.app 8 72 q12 q14),.q p16 (.nck q7),fq p17 q16 3,ln (.st q17 q15 1)]))
def f305 : Fun := .code [] (sq [ls p5 (.box q1),ls p7 (.box q3)]
 (.reg [fq p8 q5 2,lq p9 q8,.q p10 (.nck q9),lq p11 q10,fq p12 q5 3,lq p13 q12,mq p14 q2,.q p15 (.ari .add q13 q14),.q p16 (.ldn q7 8),.q p17 (.ixl 8 q11 q15),ln (.st q17 q16 8)]))
def f306 : Fun := .code [] (sq [ls p4 (.box q1),ls p5 (.box q2)]
 (.reg [fq p6 q4 2,lq p7 q6,.q p8 (.nck q7),lq p9 q8,.q p10 (.ldn q5 8),.q p11 (.ixl 8 q9 (ci 0)),ln (.st q11 q10 8)]))
def f307 : Fun := .code [.t p6] (sq [ls p4 (.box q1),ls p5 (.box q2),.q p6 (.mv (.c (.bool false)))]
 (sq [fq p7 q4 0,lq p8 q7,fq p9 q5 0,lq p10 q9,.q p11 (.eq false false .num q8 q10),mq p12 q11,.g p12 true (fq p13 q4 2),.g p12 true (lq p14 q13),.g p12 true (fq p15 q5 2),.g p12 true (lq p16 q15),.g p12 true (.q p17 (.eq false false .ptr q14 q16)),.q p18 (.pick q12 q17 (.c (.bool false))),mq p19 q18,.g p19 true (fq p20 q4 6),.g p19 true (lq p21 q20),.g p19 true (fq p22 q5 6),.g p19 true (lq p23 q22),.g p19 true (.q p24 (.eq false false .ptr q21 q23)),.q p25 (.pick q19 q24 (.c (.bool false))),mq p26 q25,.g p26 true (fq p27 q4 7),.g p26 true (lq p28 q27),.g p26 true (fq p29 q5 7),.g p26 true (lq p30 q29),.g p26 true (.q p31 (.eq false false .ptr q28 q30)),.q p32 (.pick q26 q31 (.c (.bool false))),mq p6 q32]
 (.ret)))
def f308 : Fun := .code [] (sq [ls p5 (.box q1),ls p7 (.box q3)]
 (.reg [fq p8 q5 2,lq p9 q8,.q p10 (.nck q9),lq p11 q10,mq p12 q2,.q p13 (.ldn q7 8),.q p14 (.ixl 8 q11 q12),ln (.st q14 q13 8)]))
def f309 : Fun := .code [.celln p4 8] (sq [ls p3 (.box q1),ls p4 (.alloc [o0,e0,.nilp,o0,o0,o0,.nilp,.nilp])]
 (sq [fq p6 q3 7,lq p7 q6,.q p8 (.nck q7),fq p9 q8 3,lq p10 q9,.q p11 (.ixl 8 q10 (ci 0)),.q p12 (.ldn q11 8),ls p5 (.alloc [o0,e0,.nilp,o0,o0,o0,.nilp,.nilp]),ln (.st q5 q12 8)]
 (.seq (.regc [fq p13 q3 7,.qr p14 (.ld q13) 0 1,fq p15 q3 7,lq p16 q15,.q p17 (.nck q16),fq p18 q17 3,lq p19 q18,.q p20 (.sll 8 q19 (some (ci 1)) none none),ks p21 (.fn 316 [q20]),.q p22 (.nck q14),fq p23 q22 3,ln (.st q23 q21 1)])
 (sq [.q p24 (.ldn q5 8),ln (.st q4 q24 8)]
 (.ret)))))
def f310 : Fun := .code [] (sq [ls p3 (.box q1)]
 (.reg [fq p4 q3 7,lq p5 q4,.q p6 (.nck q5),fq p7 q6 2,ln (.st q7 (.c (.bool true)) 1)]))
def f311 : Fun := .code [.t p4,.t p5] (sq [ls p3 (.box q1),.q p4 (.mv (ci 0)),.q p5 (.mv (ci 0))]
 (sq [fq p6 q3 4,lq p7 q6,fq p8 q3 5,lq p9 q8,mq p4 q7,mq p5 q9]
 (.ret)))
def f312 : Fun := .code [.celln p8 8] (sq [ls p5 (.box q1),ls p8 (.alloc [o0,e0,.nilp,o0,o0,o0,.nilp,.nilp])]
 (sq [fq p9 q5 1,lq p10 q9,mq p11 q2,mq p12 q3,.q p13 (.sls q10 (some q11) (some q12)),.q p14 (.build [o0,e0,.nilp,o0,o0,o0,.nilp,.nilp] [(1,1,q13)]),ln (.st q8 q14 8)]
 (.ret)))
def f313 : Fun := .code [.celln p4 8] (sq [ls p4 (.alloc [o0,e0,.nilp,o0,o0,o0,.nilp,.nilp])]
 (sq [mq p5 q0,.q p6 (.nck q5),fq p7 q6 0,fq p8 q7 0,lq p9 q8,mq p10 q1,.q p11 (.ixl 1 q9 q10),lq p12 q11,.q p13 (.build [o0,e0,.nilp,o0,o0,o0,.nilp,.nilp] [(1,1,q12)]),ln (.st q4 q13 8)]
 (.ret)))
def f314 : Fun := .code [.celln p4 8] (sq [ls p3 (.box q1),ls p4 (.alloc [o0,e0,.nilp,o0,o0,o0,.nilp,.nilp])]
 (sq [fq p5 q3 2,lq p6 q5,.q p7 (.nck q6),lq p8 q7,.q p9 (.ixl 8 q8 (ci 0)),.q p10 (.ldn q9 8),ln (.st q4 q10 8)]
 (.ret)))
def f315 : Fun := .code [.celln p6 8] (sq [ls p4 (.box q1),ls p6 (.alloc [o0,e0,.nilp,o0,o0,o0,.nilp,.nilp])]
 (sq [mq p7 q0,.q p8 (.nck q7),fq p9 q8 6,fq p10 q9 3,lq p11 q10,.q p12 (.ari .add q11 (ci 1)),.q p13 (.nck q7),fq p14 q13 6,fq p15 q14 3,ln (.st q15 q12 1)]
 (sq [mq p16 q2,lq p17 q4,.q p18 (.len q17),.q p19 (.build [o0,e0,.nilp,o0,o0,o0,.nilp,.nilp] [(2,1,q4),(4,1,q16),(5,1,q18)]),ln (.st q6 q19 8)]
 (.ret))))
def f316 : Fun := .code [.t p2] (sq [.q p2 (.mv (.c .nils))]
 (.seq (sq [mq p3 q0,.q p4 (ef .slice q3 (.c .nils))]
 (.cond q4 (sq [.q p2 (.mv (.c .nils))]
 (.ret)) (.skip)))
 (sq [ls p5 (.bsl 0 [] []),mq p6 q0,ls p7 (.app 8 72 q5 q6),mq p2 q7]
 (.ret))))
end Ds.Text
end
set_option maxRecDepth 100000
noncomputable section
namespace Ds.Text
open Ds
def u0 : N8 Fun := .mk .none .none .none .none f4 .none .none f7
def u1 : N8 Fun := .mk f8 f9 f10 f11 f12 .none .none f15
def u2 : N8 Fun := .mk f16 f17 f18 f19 f20 f21 f22 f23
def u3 : N8 Fun := .mk f24 f25 f26 f27 f28 f29 f30 f31
def u4 : N8 Fun := .mk f32 f33 f34 f35 f36 f37 f38 f39
def u5 : N8 Fun := .mk .none f41 f42 f43 f44 f45 f46 f47
def u6 : N8 Fun := .mk f48 f49 f50 f51 f52 f53 f54 f55
def u7 : N8 Fun := .mk f56 f57 f58 f59 f60 f61 f62 f63
def u8 : N8 Fun := .mk f64 f65 f66 f67 f68 f69 f70 f71
def u9 : N8 Fun := .mk f72 f73 f74 f75 f76 f77 f78 f79
def u10 : N8 Fun := .mk f80 f81 f82 f83 f84 f85 f86 f87
def u11 : N8 Fun := .mk f88 f89 f90 f91 f92 f93 f94 .none
def u12 : N8 Fun := .mk f96 f97 f98 f99 f100 f101 f102 f103
def u13 : N8 Fun := .mk f104 f105 f106 f107 f108 f109 f110 f111
def u14 : N8 Fun := .mk f112 f113 f114 f115 f116 f117 f118 f119
def u15 : N8 Fun := .mk f120 f121 f122 f123 f124 f125 f126 f127
def u16 : N8 Fun := .mk f128 f129 f130 f131 f132 f133 f134 f135
def u17 : N8 Fun := .mk f136 f137 f138 f139 f140 f141 f142 f143
def u18 : N8 Fun := .mk f144 f145 f146 f147 f148 f149 f150 f151
def u19 : N8 Fun := .mk f152 f153 f154 f155 f156 f157 f158 f159
def u20 : N8 Fun := .mk f160 f161 f162 f163 f164 f165 f166 f167
def u21 : N8 Fun := .mk f168 f169 f170 f171 f172 f173 f174 f175
def u22 : N8 Fun := .mk f176 f177 f178 f179 f180 f181 f182 f183
def u23 : N8 Fun := .mk f184 f185 f186 f187 .none f189 f190 f191
def u24 : N8 Fun := .mk f192 f193 f194 f195 f196 f197 f198 f199
def u25 : N8 Fun := .mk f200 f201 f202 f203 f204 f205 f206 f207
def u26 : N8 Fun := .mk f208 f209 f210 f211 f212 f213 f214 f215
def u27 : N8 Fun := .mk f216 f217 f218 f219 f220 f221 .none f223
def u28 : N8 Fun := .mk f224 f225 f226 f227 f228 f229 f230 f231
def u29 : N8 Fun := .mk f232 f233 f234 f235 f236 f237 f238 f239
def u30 : N8 Fun := .mk f240 .none .none .none .none f245 f246 f247
def u31 : N8 Fun := .mk f248 f249 f250 f251 f252 f253 f254 f255
def u32 : N8 Fun := .mk .none .none .none .none f260 f261 f262 .none
def u33 : N8 Fun := .mk .none f265 f266 .none .none .none .none .none
def u34 : N8 Fun := .mk .none .none .none .none .none .none .none .none
def u35 : N8 Fun := .mk .none .none .none f283 f284 f285 f286 f287
def u36 : N8 Fun := .mk f288 f289 f290 f291 f292 f293 f294 f295
def u37 : N8 Fun := .mk f296 f297 f298 f299 f300 f301 f302 f303
def u38 : N8 Fun := .mk f304 f305 f306 f307 f308 f309 f310 f311
def u39 : N8 Fun := .mk f312 f313 f314 f315 f316 .none .none .none
def u40 : N8 Fun := .mk .none .none .none .none .none .none .none .none
def u41 : N8 Fun := .mk .none .none .none .none .none .none .none .none
def u42 : N8 Fun := .mk .none .none .none .none .none .none .none .none
def u43 : N8 Fun := .mk .none .none .none .none .none .none .none .none
def u44 : N8 Fun := .mk .none .none .none .none .none .none .none .none
def u45 : N8 Fun := .mk .none .none .none .none .none .none .none .none
def u46 : N8 Fun := .mk .none .none .none .none .none .none .none .none
def u47 : N8 Fun := .mk .none .none .none .none .none .none .none .none
def u48 : N8 Fun := .mk .none .none .none .none .none .none .none .none
def u49 : N8 Fun := .mk .none .none .none .none .none .none .none .none
def u50 : N8 Fun := .mk .none .none .none .none .none .none .none .none
def u51 : N8 Fun := .mk .none .none .none .none .none .none .none .none
def u52 : N8 Fun := .mk .none .none .none .none .none .none .none .none
def u53 : N8 Fun := .mk .none .none .none .none .none .none .none .none
def u54 : N8 Fun := .mk .none .none .none .none .none .none .none .none
def u55 : N8 Fun := .mk .none .none .none .none .none .none .none .none
def u56 : N8 Fun := .mk .none .none .none .none .none .none .none .none
def u57 : N8 Fun := .mk .none .none .none .none .none .none .none .none
def u58 : N8 Fun := .mk .none .none .none .none .none .none .none .none
def u59 : N8 Fun := .mk .none .none .none .none .none .none .none .none
def u60 : N8 Fun := .mk .none .none .none .none .none .none .none .none
def u61 : N8 Fun := .mk .none .none .none .none .none .none .none .none
def u62 : N8 Fun := .mk .none .none .none .none .none .none .none .none
def u63 : N8 Fun := .mk .none .none .none .none .none .none .none .none
def v0 : N8 (N8 Fun) := .mk u0 u1 u2 u3 u4 u5 u6 u7
def v1 : N8 (N8 Fun) := .mk u8 u9 u10 u11 u12 u13 u14 u15
def v2 : N8 (N8 Fun) := .mk u16 u17 u18 u19 u20 u21 u22 u23
def v3 : N8 (N8 Fun) := .mk u24 u25 u26 u27 u28 u29 u30 u31
def v4 : N8 (N8 Fun) := .mk u32 u33 u34 u35 u36 u37 u38 u39
def v5 : N8 (N8 Fun) := .mk u40 u41 u42 u43 u44 u45 u46 u47
def v6 : N8 (N8 Fun) := .mk u48 u49 u50 u51 u52 u53 u54 u55
def v7 : N8 (N8 Fun) := .mk u56 u57 u58 u59 u60 u61 u62 u63
def funs : T3 Fun := .mk v0 v1 v2 v3 v4 v5 v6 v7
def methNames : List String := ["Number", "Comparable", "Text", "Direct", "Closure", "Box", "Unbox", "Rebox", "AsNumber", "Is", "Unwrap", "Function", "Bytes", "NewText", "Same", "Join", "SubText", "MakeChan", "ID", "Count", "Object", "List", "MakeSlice", "Size", "Cut", "Append", "Closed", "Shut", "Nil", "Get", "Set", "At", "Put", "Push", "Shift"]
def methRows : List (Nat × Nat × Nat) := [(67,0,302), (67,2,313), (67,3,292), (67,4,289), (67,5,286), (67,6,314), (67,7,306), (67,8,284), (67,11,293), (67,12,287), (67,13,300), (67,14,307), (67,15,296), (67,16,312), (67,17,298), (67,18,295), (67,19,290), (67,20,303), (67,21,297), (67,22,299), (67,23,311), (67,24,291), (67,25,283), (67,26,288), (67,27,310), (67,28,301), (67,29,294), (67,30,308), (67,31,285), (67,32,305), (67,33,304), (67,34,309), (123,0,134), (123,21,318), (123,33,135)]
end Ds.Text
end
