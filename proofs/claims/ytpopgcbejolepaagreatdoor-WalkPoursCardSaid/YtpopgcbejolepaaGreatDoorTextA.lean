/- The deterministic evaluator D and what is proved with it, part TextA of the claim on YtpopgcbejolepaaGreatDoor. -/
import Derived.Test.YtpopgcbejolepaaGreatDoorCoreA
set_option maxRecDepth 100000
noncomputable section
namespace Ds.Text
open Ds
def f4 : Fun := .code [.t p4] (sq [.q p4 (.mv (.c (.bool false)))]
 (.seq (sq [ks p8 (.fn 9 []),.q p9 (.not q8)]
 (.cond q9 (sq [.q p4 (.mv (.c (.bool false)))]
 (.ret)) (.skip)))
 (.seq (sq [mq p10 q0,ls p11 (.bsl 1 [o0] [(0,1,q10)]),ks p12 (.fn 10 [q11]),.q p13 (.not q12),mq p14 q13,.g p14 false (mq p15 q1),.g p14 false (.q p16 (.cmp .lt q15 (ci 0))),.q p17 (.pick q14 (.c (.bool true)) q16),mq p18 q17,.g p18 false (mq p19 q1),.g p18 false (.q p20 (.cmp .gt q19 (ci 100))),.q p21 (.pick q18 (.c (.bool true)) q20)]
 (.cond q21 (sq [.q p4 (.mv (.c (.bool true)))]
 (.ret)) (.skip)))
 (sq [mq p22 q0,ks p23 (.fn 11 [q22]),.q p24 (.cat (.c (S [120,32,58,61,32])) q23),.q p25 (.cat q24 (.c (S [10,102,111,114,32,105,32,58,61,32,48,59,32,105,32,60,32]))),mq p26 q1,ks p27 (.fn 12 [q26]),.q p28 (.cat q25 q27),.q p29 (.cat q28 (.c (S [59,32,105,43,43,32,123,10,120,32,42,61,32,50,10,120,43,43,10,125,10,108,32,58,61,32,49,10,102,111,114,32,105,32,58,61,32,48,59,32,105,32,60,32,54,51,59,32,105,43,43,32,123,10,108,32,43,61,32,108,10,125,10,112,114,105,110,116,40,120,44,32,34,32,34,44,32,108,44,32,34,32,34,44,32,108,32,47,32,40,45,49,41,44,32,34,32,34,41,10,112,114,105,110,116,40,108,32,37,32,40,45,49,41,44,32,34,32,34,44,32,45,108,44,32,34,32,34,44,32,108,32,45,32,49,41]))),mq p5 q29]
 (sq [mq p30 q0,mq p6 q30]
 (.seq (sq [mq p31 q1,.q p32 (.mv (ci 0))]
 (.block 0 (.loop (sq [.q p33 (.cmp .lt q32 q31)]
 (.seq (.cond q33 (.skip) (.exit 0))
 (.seq (.block 1 (.reg [mq p34 q6,.q p35 (.ari .mul (ci 2) q34),.q p36 (.ari .add q35 (ci 1)),mq p6 q36]))
 (.reg [.q p37 (.ari .add q32 (ci 1)),mq p32 q37])))))))
 (sq [.q p7 (.mv (.c (.int .i64 (.lit (.negSucc 9223372036854775807)))))]
 (sq [mq p38 q5,mq p39 q6,ks p40 (.fn 12 [q39]),.q p41 (.cat q40 (.c (S [32]))),mq p42 q7,ks p43 (.fn 12 [q42]),.q p44 (.cat q41 q43),.q p45 (.cat q44 (.c (S [32]))),mq p46 q7,ks p47 (.fn 12 [q46]),.q p48 (.cat q45 q47),.q p49 (.cat q48 (.c (S [32,48,32]))),mq p50 q7,ks p51 (.fn 12 [q50]),.q p52 (.cat q49 q51),.q p53 (.cat q52 (.c (S [32,57,50,50,51,51,55,50,48,51,54,56,53,52,55,55,53,56,48,55]))),ks p54 (.fn 15 [q38,q53]),mq p4 q54]
 (.ret)))))))))
def f7 : Fun := .code [.t p4] (sq [.q p4 (.mv (.c (.bool false)))]
 (.seq (sq [ks p8 (.fn 9 []),.q p9 (.not q8)]
 (.cond q9 (sq [.q p4 (.mv (.c (.bool false)))]
 (.ret)) (.skip)))
 (.seq (sq [mq p10 q0,.q p11 (.cmp .lt q10 (ci 0)),mq p12 q11,.g p12 false (mq p13 q0),.g p12 false (.q p14 (.cmp .gt q13 (ci 13))),.q p15 (.pick q12 (.c (.bool true)) q14),mq p16 q15,.g p16 false (mq p17 q1),.g p16 false (.q p18 (.cmp .lt q17 (ci 0))),.q p19 (.pick q16 (.c (.bool true)) q18),mq p20 q19,.g p20 false (mq p21 q1),.g p20 false (.q p22 (.cmp .gt q21 (ci 300))),.q p23 (.pick q20 (.c (.bool true)) q22)]
 (.cond q23 (sq [.q p4 (.mv (.c (.bool true)))]
 (.ret)) (.skip)))
 (sq [mq p25 q0,ks p26 (.fn 12 [q25]),.q p27 (.cat (.c (S [102,117,110,99,32,109,97,105,110,40,41,32,123,10,115,32,58,61,32,34,97,98,34,10,102,111,114,32,105,32,58,61,32,48,59,32,105,32,60,32])) q26),.q p28 (.cat q27 (.c (S [59,32,105,43,43,32,123,10,115,32,43,61,32,115,10,125,10,102,111,114,32,105,32,58,61,32,48,59,32,105,32,60,32]))),mq p29 q1,ks p30 (.fn 12 [q29]),.q p31 (.cat q28 q30),.q p32 (.cat q31 (.c (S [59,32,105,43,43,32,123,10,112,114,105,110,116,40,115,41,10,125,10,125,10]))),ks p33 (.fn 16 [q32,(.c .nils)]),mq p24 q33,.q p34 (.ext q24 0),.q p35 (.ext q24 1),ls p5 (.alloc [o0,o0,e0,e0]),ln (.st q5 q34 4),mq p6 q35]
 (sq [mq p36 q0,.q p37 (.bits .shl (ci 2) q36),mq p7 q37]
 (.seq (sq [mq p38 q7,mq p39 q1,.q p40 (.ari .mul q38 q39),.q p41 (.cmp .le q40 (ci 65536))]
 (.cond q41 (sq [mq p42 q6,mq p43 q42,.g p43 true (fq p44 q5 0),.g p43 true (lq p45 q44),.g p43 true (.q p46 (ef .num q45 (ci 1))),.q p47 (.pick q43 q46 (.c (.bool false))),mq p48 q47,.g p48 true (fq p49 q5 2),.g p48 true (lq p50 q49),.g p48 true (.q p51 (.lens q50)),.g p48 true (mq p52 q7),.g p48 true (mq p53 q1),.g p48 true (.q p54 (.ari .mul q52 q53)),.g p48 true (.q p55 (.eq false false .num q51 q54)),.q p56 (.pick q48 q55 (.c (.bool false))),mq p4 q56]
 (.ret)) (.skip)))
 (sq [mq p57 q6,mq p58 q57,.g p58 true (fq p59 q5 0),.g p58 true (lq p60 q59),.g p58 true (.q p61 (ef .num q60 (ci 2))),.q p62 (.pick q58 q61 (.c (.bool false))),mq p63 q62,.g p63 true (fq p64 q5 1),.g p63 true (lq p65 q64),.g p63 true (.q p66 (ef .num q65 (ci 2))),.q p67 (.pick q63 q66 (.c (.bool false))),mq p68 q67,.g p68 true (fq p69 q5 3),.g p68 true (lq p70 q69),.g p68 true (.q p71 (ef .text q70 (.c (S [102,97,116,97,108,58,32,116,111,111,32,109,117,99,104,32,111,117,116,112,117,116])))),.q p72 (.pick q68 q71 (.c (.bool false))),mq p73 q72,.g p73 true (fq p74 q5 2),.g p73 true (lq p75 q74),.g p73 true (.q p76 (.lens q75)),.g p73 true (mq p77 q7),.g p73 true (.q p78 (.ari .quo (ci 65536) q77)),.g p73 true (mq p79 q7),.g p73 true (.q p80 (.ari .mul q78 q79)),.g p73 true (.q p81 (.eq false false .num q76 q80)),.q p82 (.pick q73 q81 (.c (.bool false))),mq p4 q82]
 (.ret))))))))
def f8 : Fun := .code [.t p4] (sq [.q p4 (.mv (.c (.bool false)))]
 (.seq (sq [ks p9 (.fn 9 []),.q p10 (.not q9)]
 (.cond q10 (sq [.q p4 (.mv (.c (.bool false)))]
 (.ret)) (.skip)))
 (.seq (sq [mq p11 q0,.q p12 (.cmp .lt q11 (ci 0)),mq p13 q12,.g p13 false (mq p14 q0),.g p13 false (.q p15 (.cmp .gt q14 (ci 150))),.q p16 (.pick q13 (.c (.bool true)) q15)]
 (.cond q16 (sq [.q p4 (.mv (.c (.bool true)))]
 (.ret)) (.skip)))
 (sq [.q p5 (.mv (.c (S [60,45,99])))]
 (.seq (sq [mq p17 q1]
 (.cond q17 (.reg [.q p5 (.mv (.c (S [100,32,60,45,32,49])))]) (.skip)))
 (sq [mq p18 q0,ks p19 (.fn 12 [q18]),.q p20 (.cat (.c (S [102,117,110,99,32,109,97,105,110,40,41,32,123,10,99,32,58,61,32,109,97,107,101,40,99,104,97,110,32,105,110,116,41,10,100,32,58,61,32,109,97,107,101,40,99,104,97,110,32,105,110,116,41,10,102,111,114,32,105,32,58,61,32,48,59,32,105,32,60,32])) q19),.q p21 (.cat q20 (.c (S [59,32,105,43,43,32,123,10,103,111,32,102,117,110,99,40,41,32,123,10]))),mq p22 q5,.q p23 (.cat q21 q22),.q p24 (.cat q23 (.c (S [10,125,40,41,10]))),mq p6 q24]
 (.seq (sq [mq p25 q1]
 (.cond q25 (.reg [mq p26 q6,.q p27 (.cat q26 (.c (S [60,45,100,10]))),mq p6 q27]) (.skip)))
 (sq [mq p29 q6,.q p30 (.cat q29 (.c (S [125,10,112,114,105,110,116,40,108,101,110,40,99,41,44,32,108,101,110,40,100,41,41,10,125,10]))),ks p31 (.fn 16 [q30,(.c .nils)]),mq p28 q31,.q p32 (.ext q28 0),.q p33 (.ext q28 1),ls p7 (.alloc [o0,o0,e0,e0]),ln (.st q7 q32 4),mq p8 q33]
 (.seq (sq [mq p34 q0,.q p35 (.cmp .gt q34 (ci 63)),mq p36 q35,.g p36 true (mq p37 q1),.g p36 true (.q p38 (.not q37)),.q p39 (.pick q36 q38 (.c (.bool false)))]
 (.cond q39 (sq [mq p40 q8,mq p41 q40,.g p41 true (.q p42 (.ldn q7 4)),.g p41 true (.q p43 (.build [o0,o0,e0,e0] [(0,1,(ci 2)),(1,1,(ci 2)),(3,1,(.c (S [102,97,116,97,108,58,32,116,111,111,32,109,97,110,121,32,103,111,114,111,117,116,105,110,101,115])))])),.g p41 true (.q p44 (.eqst false [.num,.num,.text,.text] q42 q43)),.q p45 (.pick q41 q44 (.c (.bool false))),mq p4 q45]
 (.ret)) (.skip)))
 (sq [mq p46 q8,mq p47 q46,.g p47 true (.q p48 (.ldn q7 4)),.g p47 true (.q p49 (.build [o0,o0,e0,e0] [(0,1,(ci 1)),(2,1,(.c (S [48,48])))])),.g p47 true (.q p50 (.eqst false [.num,.num,.text,.text] q48 q49)),.q p51 (.pick q47 q50 (.c (.bool false))),mq p4 q51]
 (.ret)))))))))))
def f9 : Fun := .code [.t p0] (sq [.q p0 (.mv (.c (.bool false)))]
 (sq [ks p6 (.fn 17 [(.c (S [102,117,110,99,32,109,97,105,110,40,41,32,123,32,120,32,58,61,32,49,59,32,102,32,58,61,32,102,117,110,99,40,41,32,123,32,120,43,43,32,125,59,32,102,40,41,59,32,112,114,105,110,116,40,120,41,32,125]))]),mq p5 q6,.q p7 (.ext q5 0),.q p8 (.ext q5 1),ls p1 (.alloc [.nils,.nils,.nils,o0]),ls p2 (.alloc [o0,o0]),ln (.st q1 q7 4),ln (.st q2 q8 2)]
 (sq [.q p10 (.ldn q1 4),ks p11 (.fn 19 [q10]),ks p12 (.fn 18 [q11,(.c .nils),(ci 1000000)]),mq p9 q12,.q p13 (.ext q9 0),.q p14 (.ext q9 1),ls p3 (.alloc [o0,o0,e0,e0]),ls p4 (.alloc [o0,o0,o0,o0,o0]),ln (.st q3 q13 4),ln (.st q4 q14 5)]
 (sq [fq p15 q2 0,lq p16 q15,.q p17 (ef .num q16 (ci 0)),mq p18 q17,.g p18 true (.q p19 (.ldn q3 4)),.g p18 true (.q p20 (.build [o0,o0,e0,e0] [(0,1,(ci 1)),(2,1,(.c (S [50])))])),.g p18 true (.q p21 (.eqst false [.num,.num,.text,.text] q19 q20)),.q p22 (.pick q18 q21 (.c (.bool false))),mq p23 q22,.g p23 true (fq p24 q4 0),.g p23 true (lq p25 q24),.g p23 true (.q p26 (ef .num q25 (ci 1))),.q p27 (.pick q23 q26 (.c (.bool false))),mq p28 q27,.g p28 true (fq p29 q4 1),.g p28 true (lq p30 q29),.g p28 true (.q p31 (ef .num q30 (ci 1))),.q p32 (.pick q28 q31 (.c (.bool false))),mq p0 q32]
 (.ret)))))
def f10 : Fun := .code [.t p2] (sq [.q p2 (.mv (.c (.bool false)))]
 (.seq (sq [mq p5 q0,.q p6 (.len q5),.q p7 (.mv (ci 0))]
 (.block 0 (.loop (sq [.q p8 (.cmp .lt q7 q6)]
 (.seq (.cond q8 (.skip) (.exit 0))
 (.seq (.block 1 (sq [.q p9 (.ixl 1 q5 q7),lq p10 q9,mq p4 q10]
 (sq [mq p11 q4,.q p12 (.cmp .gt q11 (ci 999999999999999999)),mq p13 q12,.g p13 false (mq p14 q4),.g p13 false (.q p15 (.cmp .lt q14 (.c (.int .i64 (.lit (.negSucc 999999999999999998)))))),.q p16 (.pick q13 (.c (.bool true)) q15)]
 (.cond q16 (sq [.q p2 (.mv (.c (.bool false)))]
 (.ret)) (.skip)))))
 (.reg [.q p17 (.ari .add q7 (ci 1)),mq p7 q17])))))))
 (sq [.q p2 (.mv (.c (.bool true)))]
 (.ret))))
def f11 : Fun := .code [.t p2] (sq [.q p2 (.mv (.c e0))]
 (.seq (sq [mq p3 q0,.q p4 (.cmp .lt q3 (ci 0))]
 (.cond q4 (sq [mq p5 q0,.q p6 (.neg q5),ks p7 (.fn 12 [q6]),.q p8 (.cat (.c (S [40,45])) q7),.q p9 (.cat q8 (.c (S [41]))),mq p2 q9]
 (.ret)) (.skip)))
 (sq [mq p10 q0,ks p11 (.fn 12 [q10]),mq p2 q11]
 (.ret))))
def f12 : Fun := .code [.t p2] (sq [.q p2 (.mv (.c e0))]
 (sq [mq p3 q0,ks p4 (.fn 20 [q3]),mq p2 q4]
 (.ret)))
def f15 : Fun := .code [.t p4] (sq [.q p4 (.mv (.c (.bool false)))]
 (sq [mq p8 q0,.q p9 (.cat (.c (S [102,117,110,99,32,109,97,105,110,40,41,32,123,10])) q8),.q p10 (.cat q9 (.c (S [10,125,10]))),ks p11 (.fn 16 [q10,(.c .nils)]),mq p7 q11,.q p12 (.ext q7 0),.q p13 (.ext q7 1),ls p5 (.alloc [o0,o0,e0,e0]),ln (.st q5 q12 4),mq p6 q13]
 (sq [mq p14 q6,mq p15 q14,.g p15 true (.q p16 (.ldn q5 4)),.g p15 true (mq p17 q1),.g p15 true (.q p18 (.build [o0,o0,e0,e0] [(0,1,(ci 1)),(2,1,q17)])),.g p15 true (.q p19 (.eqst false [.num,.num,.text,.text] q16 q18)),.q p20 (.pick q15 q19 (.c (.bool false))),mq p4 q20]
 (.ret))))
def f16 : Fun := .code [.celln p4 4,.t p5] (sq [ls p4 (.alloc [o0,o0,e0,e0]),.q p5 (.mv (.c (.bool false)))]
 (sq [mq p11 q0,ks p12 (.fn 17 [q11]),mq p10 q12,.q p13 (.ext q10 0),.q p14 (.ext q10 1),ls p6 (.alloc [.nils,.nils,.nils,o0]),ls p7 (.alloc [o0,o0]),ln (.st q6 q13 4),ln (.st q7 q14 2)]
 (.seq (sq [fq p15 q7 0,lq p16 q15,.q p17 (et .num q16 (ci 0))]
 (.cond q17 (sq [.q p18 (.build [o0,o0,e0,e0] []),ln (.st q4 q18 4),.q p5 (.mv (.c (.bool false)))]
 (.ret)) (.skip)))
 (sq [.q p20 (.ldn q6 4),ks p21 (.fn 19 [q20]),mq p22 q1,ks p23 (.fn 18 [q21,q22,(ci 50000000)]),mq p19 q23,.q p24 (.ext q19 0),.q p25 (.ext q19 1),ls p8 (.alloc [o0,o0,e0,e0]),ls p9 (.alloc [o0,o0,o0,o0,o0]),ln (.st q8 q24 4),ln (.st q9 q25 5)]
 (sq [.q p26 (.ldn q8 4),ln (.st q4 q26 4),.q p5 (.mv (.c (.bool true)))]
 (.ret))))))
def f17 : Fun := .code [.celln p2 4,.celln p3 2] (sq [ls p2 (.alloc [.nils,.nils,.nils,o0]),ls p3 (.alloc [o0,o0])]
 (sq [mq p8 q0,ks p9 (.fn 21 [q8]),mq p7 q9,.q p10 (.ext q7 0),.q p11 (.ext q7 1),ls p4 (.alloc [o0,e0,o0,o0,e0,o0,.nils]),ls p5 (.alloc [o0,o0]),ln (.st q4 q10 7),ln (.st q5 q11 2)]
 (.seq (sq [fq p12 q5 0,lq p13 q12,.q p14 (et .num q13 (ci 0))]
 (.cond q14 (.seq (.regc [.q p15 (.build [.nils,.nils,.nils,o0] []),.qr p16 (.ldn q5 2) 0 1,ln (.st q2 q15 4),ln (.st q3 q16 2)])
 (.ret)) (.skip)))
 (sq [.q p17 (.build [.nils,.nils,.nils,o0,.nils,o0,o0,e0,.nils,(.bool false)] []),ls p18 (.box q17),mq p6 q18]
 (sq [mq p19 q6,.q p20 (.ldn q4 7),ks p21 (.fn 22 [q19,q20])]
 (.seq (sq [mq p22 q6,.q p23 (.nck q22),fq p24 q23 9,lq p25 q24]
 (.cond q25 (sq [.q p26 (.build [.nils,.nils,.nils,o0] []),.q p27 (.build [o0,o0] [(0,1,(ci 5))]),ln (.st q2 q26 4),ln (.st q3 q27 2)]
 (.ret)) (.skip)))
 (sq [mq p28 q6,.q p29 (.nck q28),fq p30 q29 0,.q p31 (.ldn q30 4),.q p32 (.build [o0,o0] []),ln (.st q2 q31 4),ln (.st q3 q32 2)]
 (.ret))))))))
def f18 : Fun := .code [.celln p6 4,.celln p7 5] (sq [ls p3 (.box q0),ls p6 (.alloc [o0,o0,e0,e0]),ls p7 (.alloc [o0,o0,o0,o0,o0])]
 (sq [.q p11 (.ldn q3 5),.q p12 (.build [.nils,.nils,.nils,.nils,o0,o0,o0,o0,o0,o0,o0] [(0,5,q11)]),ls p13 (.box q12),mq p8 q13]
 (sq [.q p14 (.ldn q3 5),mq p15 q8,.q p16 (.mkif 67 q15),mq p17 q1,ks p18 (.fn 23 [q14,q16,q17,(.c .nilf)]),mq p9 q18]
 (sq [mq p19 q9,mq p20 q2,ks p21 (.fn 24 [q19,q20]),ls p10 (.alloc [o0,o0,e0,e0]),ln (.st q10 q21 4)]
 (.seq (.regc [.q p22 (.ldn q10 4),mq p23 q8,.q p24 (.nck q23),fq p25 q24 6,.qr p26 (.ldn q25 5) 0 1,ln (.st q6 q22 4),ln (.st q7 q26 5)])
 (.ret))))))
def f19 : Fun := .code [.celln p2 5] (sq [ls p1 (.box q0),ls p2 (.alloc [.nils,.nils,.nils,.nils,o0])]
 (sq [fq p14 q1 3,lq p15 q14,.q p16 (.build [.nils,.nils,.nils,.nils,o0] [(4,1,q15)]),ls p17 (.box q16),mq p3 q17]
 (.seq (sq [fq p18 q1 1,lq p19 q18,.q p20 (.len q19),.q p21 (.mv (ci 0))]
 (.block 0 (.loop (sq [.q p22 (.cmp .lt q21 q20)]
 (.seq (.cond q22 (.skip) (.exit 0))
 (.seq (.block 1 (sq [.q p23 (.ixl 4 q19 q21),.q p24 (.ldn q23 4),ls p5 (.alloc [e0,e0,o0,(.bool false)]),ln (.st q5 q24 4)]
 (sq [fq p25 q5 2,lq p26 q25,.q p27 (ef .num q26 (ci 0))]
 (.cond q27 (.regc [mq p28 q3,mq p29 q3,.q p30 (.nck q29),fq p31 q30 1,.qr p32 (.ld q31) 0 2,fq p33 q5 1,lq p34 q33,ks p35 (.fn 25 [q34]),ls p36 (.bsl 1 [(.bool false)] [(0,1,q35)]),ls p37 (.app 1 1 q32 q36),.q p38 (.nck q28),fq p39 q38 1,ln (.st q39 q37 1)]) (.skip)))))
 (.reg [.q p40 (.ari .add q21 (ci 1)),mq p21 q40])))))))
 (.seq (sq [fq p41 q1 0,lq p42 q41,.q p43 (.len q42),.q p44 (.mv (ci 0))]
 (.block 2 (.loop (sq [.q p45 (.cmp .lt q44 q43)]
 (.seq (.cond q45 (.skip) (.exit 2))
 (.seq (.block 3 (sq [.q p46 (.ixl 2 q42 q44),.q p47 (.ldn q46 2),ls p7 (.alloc [e0,.nils]),ln (.st q7 q47 2)]
 (sq [.q p8 (.mv (.c .nils))]
 (.seq (sq [fq p48 q7 1,lq p49 q48,.q p50 (.len q49),.q p51 (.mv (ci 0))]
 (.block 4 (.loop (sq [.q p52 (.cmp .lt q51 q50)]
 (.seq (.cond q52 (.skip) (.exit 4))
 (.seq (.block 5 (sq [.q p53 (.ixl 2 q49 q51),.q p54 (.ldn q53 2),ls p10 (.alloc [e0,e0]),ln (.st q10 q54 2)]
 (.reg [mq p55 q8,fq p56 q10 1,lq p57 q56,ks p58 (.fn 25 [q57]),ls p59 (.bsl 1 [(.bool false)] [(0,1,q58)]),ls p60 (.app 1 1 q55 q59),mq p8 q60])))
 (.reg [.q p61 (.ari .add q51 (ci 1)),mq p51 q61])))))))
 (.reg [mq p62 q3,mq p63 q3,.q p64 (.nck q63),fq p65 q64 2,lq p66 q65,mq p67 q8,ls p68 (.bsl 1 [.nils] [(0,1,q67)]),ls p69 (.app 1 24 q66 q68),.q p70 (.nck q62),fq p71 q70 2,ln (.st q71 q69 1)])))))
 (.reg [.q p72 (.ari .add q44 (ci 1)),mq p44 q72])))))))
 (sq [ls p73 (.mkmap),mq p11 q73]
 (.seq (sq [fq p74 q1 2,lq p75 q74,.q p76 (.len q75),.q p77 (.mv (ci 0))]
 (.block 6 (.loop (sq [.q p78 (.cmp .lt q77 q76)]
 (.seq (.cond q78 (.skip) (.exit 6))
 (.seq (.block 7 (sq [mq p79 q77,mq p12 q79]
 (sq [.q p80 (.ldn q1 4),mq p81 q3,mq p82 q11,mq p83 q12,.q p84 (.ari .add q83 (ci 1)),ls p85 (.mkmap),.q p86 (.build [.nils,.nils,.nils,o0,.nilp,.nilm,o0,.nilp,.nilm,.nils,e0] [(0,4,q80),(4,1,q81),(5,1,q82),(6,1,q84),(8,1,q85)]),ls p87 (.box q86),mq p13 q87]
 (.regc [mq p88 q3,mq p89 q3,.q p90 (.nck q89),fq p91 q90 3,.qr p92 (.ld q91) 0 2,mq p93 q13,fq p94 q1 2,lq p95 q94,mq p96 q12,.q p97 (.ixl 11 q95 q96),.q p98 (.ldn q97 11),ks p99 (.fn 26 [q93,q98]),ls p100 (.bsl 1 [e0,.nils,o0,o0,(.bool false),.nils] [(0,6,q99)]),ls p101 (.app 6 88 q92 q100),.q p102 (.nck q88),fq p103 q102 3,ln (.st q103 q101 1)]))))
 (.reg [.q p104 (.ari .add q77 (ci 1)),mq p77 q104])))))))
 (sq [mq p105 q3,.q p106 (.nck q105),.q p107 (.ldn q106 5),ln (.st q2 q107 5)]
 (.ret))))))))
def f20 : Fun := .code [.t p2] (.seq (.reg [.q p2 (.mv (.c (S [])))])
 (.seq (.seq (.reg [.q p3 (.mv q0),.q p4 (.cmp .lt q3 (.c (I 0)))])
 (.cond q4 (.seq (.reg [.q p5 (.mv q0),.k (some p6) (.fn 27 [q5]),.q p7 (.cat (.c (S [45])) q6),.q p2 (.mv q7)])
 (.ret)) (.skip)))
 (.seq (.seq (.reg [.q p8 (.mv q0),.q p9 (.cmp .lt q8 (.c (I 10)))])
 (.cond q9 (.seq (.reg [.q p10 (.mv q0),.q p11 (.ari .add (.c (I 48)) q10),.q p12 (.conv .u8 q11),.l (some p13) (.bsl 1 [(B 0)] [(0,1,q12)]),.q p14 (.b2s q13),.q p2 (.mv q14)])
 (.ret)) (.skip)))
 (.seq (.reg [.q p15 (.mv q0),.q p16 (.ari .quo q15 (.c (I 10))),.s (some p17) 20 [q16],.q p18 (.mv q0),.q p19 (.ari .rem q18 (.c (I 10))),.q p20 (.ari .add (.c (I 48)) q19),.q p21 (.conv .u8 q20),.l (some p22) (.bsl 1 [(B 0)] [(0,1,q21)]),.q p23 (.b2s q22),.q p24 (.cat q17 q23),.q p2 (.mv q24)])
 (.ret)))))
def f21 : Fun := .code [.celln p2 7,.celln p3 2] (sq [ls p2 (.alloc [o0,e0,o0,o0,e0,o0,.nils]),ls p3 (.alloc [o0,o0])]
 (sq [mq p10 q0,ks p11 (.fn 28 [q10]),mq p9 q11,.q p12 (.ext q9 0),.q p13 (.ext q9 1),ls p5 (.alloc [o0,o0]),mq p4 q12,ln (.st q5 q13 2)]
 (.seq (sq [fq p14 q5 0,lq p15 q14,.q p16 (et .num q15 (ci 0))]
 (.cond q16 (.seq (.regc [.q p17 (.build [o0,e0,o0,o0,e0,o0,.nils] []),.qr p18 (.ldn q5 2) 0 1,ln (.st q2 q17 7),ln (.st q3 q18 2)])
 (.ret)) (.skip)))
 (sq [mq p19 q4,.q p20 (.build [.nils,o0,o0,(.bool false),(.bool false)] [(0,1,q19),(2,1,(.c (.int .i64 (.lit (.negSucc 0)))))]),ls p21 (.box q20),mq p6 q21]
 (sq [.q p22 (.build [o0,e0,o0,o0,e0,o0,.nils] [(0,1,(ci 1))]),ls p7 (.alloc [o0,e0,o0,o0,e0,o0,.nils]),ln (.st q7 q22 7)]
 (.seq (.block 0 (.loop (.seq (sq [mq p23 q6,.q p24 (.nck q23),fq p25 q24 2,lq p26 q25,.q p27 (.cmp .lt q26 (ci 0)),mq p28 q27,.g p28 true (mq p29 q6),.g p28 true (ks p30 (.fn 29 [q29])),.g p28 true (.q p31 (.fld q30 0)),.g p28 true (.q p32 (et .num q31 (ci 6))),.q p33 (.pick q28 q32 (.c (.bool false)))]
 (.cond q33 (.skip) (.exit 0)))
 (.block 1 (sq [mq p34 q6,ks p35 (.fn 30 [q34]),ls p8 (.alloc [o0,e0,o0,o0,e0,o0,.nils]),ln (.st q8 q35 7)]
 (sq [fq p36 q7 6,lq p37 q36,.q p38 (.ldn q8 7),ls p39 (.bsl 1 [o0,e0,o0,o0,e0,o0,.nils] [(0,7,q38)]),ls p40 (.app 7 88 q37 q39),fq p41 q7 6,ln (.st q41 q40 1)]
 (.reg [mq p42 q6,ks p43 (.fn 31 [q42,(.c (S [59]))])])))))))
 (.seq (sq [mq p44 q6,.q p45 (.nck q44),fq p46 q45 2,lq p47 q46,.q p48 (.cmp .ge q47 (ci 0))]
 (.cond q48 (.seq (.regc [.q p49 (.build [o0,e0,o0,o0,e0,o0,.nils] []),mq p50 q6,.q p51 (.nck q50),fq p52 q51 2,.qr p53 (.ld q52) 0 1,.q p54 (.build [o0,o0] [(0,1,(ci 4)),(1,1,q53)]),ln (.st q2 q49 7),ln (.st q3 q54 2)])
 (.ret)) (.skip)))
 (sq [.q p55 (.ldn q7 7),.q p56 (.build [o0,o0] []),ln (.st q2 q55 7),ln (.st q3 q56 2)]
 (.ret)))))))))
def f22 : Fun := .code [] (sq [ls p3 (.box q1)]
 (.seq (sq [.q p4 (.mv (ci 0))]
 (.block 0 (.loop (.seq (sq [mq p13 q4,fq p14 q3 6,lq p15 q14,.q p16 (.len q15),.q p17 (.cmp .lt q13 q16)]
 (.cond q17 (.skip) (.exit 0)))
 (.seq (.block 1 (.seq (sq [.q p5 (.mv (ci 0))]
 (.block 2 (.loop (.seq (sq [mq p20 q5,mq p21 q4,.q p22 (.cmp .lt q20 q21)]
 (.cond q22 (.skip) (.exit 2)))
 (.seq (.block 3 (.reg [mq p25 q0,fq p26 q3 6,lq p27 q26,mq p28 q5,.q p29 (.ixl 7 q27 q28),fq p30 q29 1,lq p31 q30,fq p32 q3 6,lq p33 q32,mq p34 q4,.q p35 (.ixl 7 q33 q34),fq p36 q35 1,lq p37 q36,.q p38 (.eq true false .text q31 q37),ks p39 (.fn 32 [q25,q38])]))
 (.reg [mq p23 q5,.q p24 (.ari .add q23 (ci 1)),mq p5 q24]))))))
 (sq [fq p40 q3 6,lq p41 q40,mq p42 q4,.q p43 (.ixl 7 q41 q42),fq p44 q43 0,lq p45 q44,.q p46 (ef .num q45 (ci 2))]
 (.cond q46 (.regc [mq p47 q0,mq p48 q0,.q p49 (.nck q48),fq p50 q49 0,fq p51 q50 0,.qr p52 (.ld q51) 0 1,fq p53 q3 6,lq p54 q53,mq p55 q4,.q p56 (.ixl 7 q54 q55),fq p57 q56 1,lq p58 q57,.q p59 (.build [e0,.nils] [(0,1,q58)]),ls p60 (.bsl 1 [e0,.nils] [(0,2,q59)]),ls p61 (.app 2 40 q52 q60),.q p62 (.nck q47),fq p63 q62 0,fq p64 q63 0,ln (.st q64 q61 1)]) (.skip)))))
 (.reg [mq p18 q4,.q p19 (.ari .add q18 (ci 1)),mq p4 q19]))))))
 (sq [.q p6 (.mv (ci 0))]
 (.seq (sq [.q p7 (.mv (ci 0))]
 (.block 4 (.loop (.seq (sq [mq p65 q7,fq p66 q3 6,lq p67 q66,.q p68 (.len q67),.q p69 (.cmp .lt q65 q68),mq p70 q69,.g p70 true (mq p71 q0),.g p70 true (.q p72 (.nck q71)),.g p70 true (fq p73 q72 9),.g p70 true (lq p74 q73),.g p70 true (.q p75 (.not q74)),.q p76 (.pick q70 q75 (.c (.bool false)))]
 (.cond q76 (.skip) (.exit 4)))
 (.seq (.block 5 (sq [fq p79 q3 6,lq p80 q79,mq p81 q7,.q p82 (.ixl 7 q80 q81),.q p83 (.ldn q82 7),ls p8 (.alloc [o0,e0,o0,o0,e0,o0,.nils]),ln (.st q8 q83 7)]
 (sq [fq p84 q8 0,lq p85 q84]
 (.block 6 (sq [.q p87 (ef .num q85 (ci 2)),mq p86 q87]
 (.cond q86 (.seq (.regc [mq p88 q0,.q p89 (.nck q88),fq p90 q89 0,fq p91 q90 0,.qr p92 (.ld q91) 0 1,mq p93 q6,mq p94 q0,.q p95 (.ldn q8 7),ks p96 (.fn 33 [q94,q95]),.q p97 (.ixl 2 q92 q93),fq p98 q97 1,ln (.st q98 q96 1)])
 (.reg [mq p99 q6,.q p100 (.ari .add q99 (ci 1)),mq p6 q100])) (sq [.q p102 (ef .num q85 (ci 3)),mq p101 q102]
 (.cond q101 (sq [mq p103 q0,fq p104 q8 6,lq p105 q104,.q p106 (.ixl 7 q105 (ci 0)),.q p107 (.ldn q106 7),ks p108 (.fn 34 [q103,q107]),mq p9 q108]
 (.reg [mq p109 q0,fq p110 q8 1,lq p111 q110,mq p112 q9,ks p113 (.fn 35 [q109,q111,q112])])) (sq [.q p115 (ef .num q85 (ci 4)),mq p114 q115]
 (.cond q114 (sq [mq p116 q0,.q p117 (.ldn q8 7),fq p118 q8 1,lq p119 q118,ks p120 (.fn 36 [q116,q117,q119]),mq p10 q120]
 (.seq (.regc [mq p121 q0,mq p122 q0,.q p123 (.nck q122),fq p124 q123 4,.qr p125 (.ld q124) 0 1,fq p126 q8 1,lq p127 q126,mq p128 q10,.q p129 (.neg q128),.q p130 (.build [e0,o0,o0] [(0,1,q127),(1,1,q129),(2,1,(ci 0))]),ls p131 (.bsl 1 [e0,o0,o0] [(0,3,q130)]),ls p132 (.app 3 32 q125 q131),.q p133 (.nck q121),fq p134 q133 4,ln (.st q134 q132 1)])
 (sq [fq p135 q8 1,lq p136 q135,.q p137 (ef .text q136 (.c (S [109,97,105,110])))]
 (.cond q137 (sq [mq p138 q0,mq p139 q10,.q p140 (.nck q138),fq p141 q140 0,fq p142 q141 3,ln (.st q142 q139 1)]
 (.reg [mq p143 q0,mq p144 q0,.q p145 (.nck q144),fq p146 q145 0,fq p147 q146 2,lq p148 q147,mq p149 q10,.q p150 (.ari .sub q149 (ci 1)),.q p151 (.ixl 11 q148 q150),fq p152 q151 1,lq p153 q152,.q p154 (ef .text q153 (.c (S [102,117,110,99,40,41]))),ks p155 (.fn 32 [q143,q154])])) (.skip))))) (.skip)))))))))))
 (.reg [mq p77 q7,.q p78 (.ari .add q77 (ci 1)),mq p7 q78]))))))
 (sq [mq p156 q0,mq p157 q0,.q p158 (.nck q157),fq p159 q158 0,fq p160 q159 3,lq p161 q160,.q p162 (.cmp .gt q161 (ci 0)),ks p163 (.fn 32 [q156,q162])]
 (sq [.q p11 (.mv (ci 0))]
 (sq [.q p12 (.mv (ci 0))]
 (.block 7 (.loop (.seq (sq [mq p164 q12,fq p165 q3 6,lq p166 q165,.q p167 (.len q166),.q p168 (.cmp .lt q164 q167),mq p169 q168,.g p169 true (mq p170 q0),.g p169 true (.q p171 (.nck q170)),.g p169 true (fq p172 q171 9),.g p169 true (lq p173 q172),.g p169 true (.q p174 (.not q173)),.q p175 (.pick q169 q174 (.c (.bool false)))]
 (.cond q175 (.skip) (.exit 7)))
 (.seq (.block 8 (sq [fq p178 q3 6,lq p179 q178,mq p180 q12,.q p181 (.ixl 7 q179 q180),fq p182 q181 0,lq p183 q182,.q p184 (ef .num q183 (ci 4))]
 (.cond q184 (sq [mq p185 q11,.q p186 (.ari .add q185 (ci 1)),mq p11 q186]
 (.reg [mq p187 q0,mq p188 q11,fq p189 q3 6,lq p190 q189,mq p191 q12,.q p192 (.ixl 7 q190 q191),.q p193 (.ldn q192 7),ks p194 (.fn 37 [q187,q188,q193])])) (.skip))))
 (.reg [mq p176 q12,.q p177 (.ari .add q176 (ci 1)),mq p12 q177]))))))))))))
def f23 : Fun := .code [.t p8] (sq [ls p4 (.box q0),.q p8 (.mv (.c .nilp))]
 (.seq (.late [.qr p10 (.ldn q4 5) 0 1,mq p11 q1,mq p12 q2,ks p13 (.fn 38 [q12]),mq p14 q511,mq p15 q3,.q p16 (.build [.nils,.nils,.nils,.nils,o0,.nili,.nilp,.nils,.nils,o0,.nilm,.nils,o0,e0,o0,.nilf] [(0,5,q10),(5,1,q11),(6,1,q13),(10,1,q14),(15,1,q15)]),ls p17 (.box q16),mq p9 q17])
 (.seq (sq [fq p18 q4 1,lq p19 q18,.q p20 (.len q19),.q p21 (.mv (ci 0))]
 (.block 0 (.loop (sq [.q p22 (.cmp .lt q21 q20)]
 (.seq (.cond q22 (.skip) (.exit 0))
 (.seq (.block 1 (.regc [mq p23 q9,mq p24 q9,.q p25 (.nck q24),fq p26 q25 7,.qr p27 (.ld q26) 0 2,mq p28 q1,ks p29 (.inv q28 0 [(ci 0)]),ls p30 (.bsl 1 [o0,e0,.nilp,o0,o0,o0,.nilp,.nilp] [(0,8,q29)]),ls p31 (.app 8 72 q27 q30),.q p32 (.nck q23),fq p33 q32 7,ln (.st q33 q31 1)]))
 (.reg [.q p34 (.ari .add q21 (ci 1)),mq p21 q34])))))))
 (sq [mq p35 q9,mq p36 q9,fq p37 q4 4,lq p38 q37,ks p39 (.fn 39 [q36,q38,(.c .nils),(.c .nils)]),ls p40 (.bsl 1 [.nilp] [(0,1,q39)]),.q p41 (.build [.nils,.nils,e0,(.bool false)] [(0,1,q40)]),ls p42 (.box q41),ls p43 (.bsl 1 [.nilp] [(0,1,q42)]),.q p44 (.nck q35),fq p45 q44 8,ln (.st q45 q43 1)]
 (sq [mq p46 q9,mq p8 q46]
 (.ret))))))
def dca : Code := .reg [ls p2 (.box q0),ls p4 (.alloc [o0,o0,e0,e0])]
def dcr : Code := .seq (.block 0 (.loop (.seq (sq [.q p6 (.mv q1),.q p7 (.cmp .gt q6 (ci 0)),.q p8 (.mv q7),.g p8 true (.q p9 (.ld q2)),.g p8 true (.q p10 (.nck q9)),.g p8 true (.q p11 (.fad q10 12)),.g p8 true (.q p12 (.ld q11)),.g p8 true (.q p13 (ef .num q12 (ci 0))),.q p14 (.pick q8 q13 (.c (.bool false)))]
 (.cond q14 (.skip) (.exit 0)))
 (.seq (.block 1 (.reg [.q p17 (.ld q2),ks p18 (.fn 43 [q17])]))
 (.reg [.q p15 (.mv q1),.q p16 (.ari .sub q15 (ci 1)),.q p1 (.mv q16)])))))
 (sq [.q p19 (.ld q2),ks p20 (.fn 42 [q19]),ln (.st q4 q20 4)]
 (.ret))
def dml : List Op := [.q p6 (.tas .nili q5),.q p4 (.mv q6),.q p7 (.ext q4 0),.q p8 (.ext q4 1),.q p2 (.mv q7),.q p3 (.mv q8)]
def dcd : Code := .seq (.reg [.q p9 (.mv q3)])
 (.cond q9 (.reg [.q p10 (.ld q0),.q p11 (.mv q2),ks p12 (.fn 41 [q10,q11])]) (.skip))
def dcd2 : Code := .reg [.q p13 (.ld q0),ks p14 (.fn 42 [q13]),ln (.st q1 q14 4)]
def f24 : Fun := .dfr [.celln p4 4] (.seq dca (.reg [.q p5 (.mkfn 40 [q2,q4])])) q5 dcr 40 [] (.seq (.seq (.reg (.q p5 (.mv (.c .nili)) :: dml)) dcd) dcd2)
def f25 : Fun := .code [.t p2] (sq [.q p2 (.mv (.c (.bool false)))]
 (sq [mq p3 q0,.q p4 (ef .text q3 (.c (S [115,116,114,105,110,103]))),mq p5 q4,.g p5 false (mq p6 q0),.g p5 false (ks p7 (.fn 44 [q6])),.q p8 (.pick q5 (.c (.bool true)) q7),mq p2 q8]
 (.ret)))
def f26 : Fun := .code [.celln p4 6] (sq [ls p3 (.box q1),ls p4 (.alloc [e0,.nils,o0,o0,(.bool false),.nils])]
 (sq [fq p17 q3 1,lq p18 q17,ks p19 (.fn 45 [q18]),mq p16 q19,.q p20 (.ext q16 0),.q p21 (.ext q16 1),.q p22 (.ext q16 2),mq p5 q20,mq p6 q21,mq p7 q22]
 (sq [mq p23 q0,fq p24 q3 0,lq p25 q24,fq p26 q3 3,lq p27 q26,.q p28 (.len q27),mq p29 q6,.q p30 (et .text q29 (.c e0)),.q p31 (.build [e0,.nils,o0,o0,(.bool false),.nils] [(0,1,q25),(2,1,q28),(4,1,q30)]),ls p32 (.box q31),.q p33 (.nck q23),fq p34 q33 7,ln (.st q34 q32 1)]
 (.seq (sq [fq p35 q3 3,lq p36 q35,.q p37 (.len q36),.q p38 (.mv (ci 0))]
 (.block 0 (.loop (sq [.q p39 (.cmp .lt q38 q37)]
 (.seq (.cond q39 (.skip) (.exit 0))
 (.seq (.block 1 (sq [.q p40 (.ixl 1 q36 q38),lq p41 q40,mq p9 q41]
 (.regc [mq p42 q0,.q p43 (.nck q42),fq p44 q43 8,.qr p45 (.ld q44) 0 1,mq p46 q9,mq p47 q0,mq p48 q0,.q p49 (.nck q48),fq p50 q49 0,fq p51 q50 1,lq p52 q51,mq p53 q9,.q p54 (.ari .sub q53 (ci 1)),.q p55 (.ixl 4 q52 q54),fq p56 q55 1,lq p57 q56,ks p58 (.fn 46 [q47,q57]),ln (.mup false q45 q46 q58)])))
 (.reg [.q p59 (.ari .add q38 (ci 1)),mq p38 q59])))))))
 (sq [mq p60 q0,.q p61 (.nck q60),fq p62 q61 0,.q p63 (.ldn q62 4),mq p64 q0,.q p65 (.nck q64),fq p66 q65 6,lq p67 q66,ks p68 (.fn 47 [q63,q67]),mq p10 q68]
 (sq [mq p69 q0,.q p70 (.nck q69),fq p71 q70 7,lq p72 q71,mq p73 q10,.q p74 (.len q73),.q p75 (.nck q72),fq p76 q75 3,ln (.st q76 q74 1)]
 (.seq (sq [mq p77 q10,.q p78 (.len q77),.q p79 (.mv (ci 0))]
 (.block 2 (.loop (sq [.q p80 (.cmp .lt q79 q78)]
 (.seq (.cond q80 (.skip) (.exit 2))
 (.seq (.block 3 (sq [.q p81 (.ixl 1 q77 q79),lq p82 q81,mq p12 q82]
 (.regc [mq p83 q0,.q p84 (.nck q83),fq p85 q84 8,.qr p86 (.ld q85) 0 1,mq p87 q12,mq p88 q0,ks p89 (.fn 46 [q88,(.c (S [42,98,111,120]))]),ln (.mup false q86 q87 q89)])))
 (.reg [.q p90 (.ari .add q79 (ci 1)),mq p79 q90])))))))
 (.seq (sq [fq p91 q3 3,lq p92 q91,.q p93 (.len q92),.q p94 (.mv (ci 0))]
 (.block 4 (.loop (sq [.q p95 (.cmp .lt q94 q93)]
 (.seq (.cond q95 (.skip) (.exit 4))
 (.seq (.block 5 (sq [.q p96 (.ixl 1 q92 q94),lq p97 q96,mq p14 q97]
 (sq [mq p98 q0,.q p99 (.nck q98),fq p100 q99 0,fq p101 q100 1,lq p102 q101,mq p103 q14,.q p104 (.ari .sub q103 (ci 1)),.q p105 (.ixl 4 q102 q104),fq p106 q105 3,lq p107 q106]
 (.cond q107 (sq [mq p108 q0,ks p109 (.fn 46 [q108,(.c (S [42,98,111,120]))]),mq p15 q109]
 (sq [mq p110 q0,mq p111 q15,mq p112 q0,.q p113 (.nck q112),fq p114 q113 8,lq p115 q114,mq p116 q14,.q p117 (.look false q115 q116 o0 false),.q p118 (.build [o0,o0,o0,o0,o0,.nils] [(0,1,(ci 8)),(1,1,q111),(2,1,q117)]),ks p119 (.fn 48 [q110,q118])]
 (.reg [mq p120 q0,.q p121 (.nck q120),fq p122 q121 8,lq p123 q122,mq p124 q14,mq p125 q15,ln (.mup false q123 q124 q125)]))) (.skip)))))
 (.reg [.q p126 (.ari .add q94 (ci 1)),mq p94 q126])))))))
 (sq [mq p127 q0,.q p128 (.build [o0,o0,o0,o0,o0,.nils] [(0,1,(ci 56))]),ks p129 (.fn 48 [q127,q128])]
 (sq [mq p130 q0,fq p131 q3 4,.q p132 (.ldn q131 7),ks p133 (.fn 49 [q130,q132])]
 (sq [mq p134 q0,.q p135 (.build [o0,o0,o0,o0,o0,.nils] [(0,1,(ci 48)),(1,1,(.c (.int .i64 (.lit (.negSucc 0)))))]),ks p136 (.fn 48 [q134,q135])]
 (sq [mq p137 q0,.q p138 (.nck q137),fq p139 q138 7,lq p140 q139,.q p141 (.nck q140),.q p142 (.ldn q141 6),ln (.st q4 q142 6)]
 (.ret)))))))))))))
def f27 : Fun := .code [.t p2] (.seq (.reg [.q p2 (.mv (.c (S [])))])
 (.seq (.seq (.reg [.q p3 (.mv q0),.q p4 (.cmp .gt q3 (.c (.int .i64 (.lit (.negSucc 9)))))])
 (.cond q4 (.seq (.reg [.q p5 (.mv q0),.q p6 (.ari .sub (.c (I 48)) q5),.q p7 (.conv .u8 q6),.l (some p8) (.bsl 1 [(B 0)] [(0,1,q7)]),.q p9 (.b2s q8),.q p2 (.mv q9)])
 (.ret)) (.skip)))
 (.seq (.reg [.q p10 (.mv q0),.q p11 (.ari .quo q10 (.c (I 10))),.s (some p12) 27 [q11],.q p13 (.mv q0),.q p14 (.ari .rem q13 (.c (I 10))),.q p15 (.ari .sub (.c (I 48)) q14),.q p16 (.conv .u8 q15),.l (some p17) (.bsl 1 [(B 0)] [(0,1,q16)]),.q p18 (.b2s q17),.q p19 (.cat q12 q18),.q p2 (.mv q19)])
 (.ret))))
def f28 : Fun := .code [.t p2,.celln p3 2] (sq [.q p2 (.mv (.c .nils)),ls p3 (.alloc [o0,o0])]
 (.seq (sq [mq p11 q0,.q p12 (.lens q11),.q p13 (.cmp .gt q12 (ci 8192))]
 (.cond q13 (sq [.q p14 (.build [o0,o0] [(0,1,(ci 1)),(1,1,(ci 8192))]),.q p2 (.mv (.c .nils)),ln (.st q3 q14 2)]
 (.ret)) (.skip)))
 (sq [.q p4 (.mv (.c .nils))]
 (sq [.q p5 (.mv (ci 0))]
 (.seq (.block 0 (.loop (.seq (sq [mq p15 q5,mq p16 q0,.q p17 (.lens q16),.q p18 (.cmp .lt q15 q17)]
 (.cond q18 (.skip) (.exit 0)))
 (.block 1 (.seq (sq [mq p19 q0,mq p20 q5,.q p21 (.ixs q19 q20),.q p22 (ef .num q21 (.c (B 10)))]
 (.cond q22 (.reg [mq p23 q4,mq p24 q5,ks p25 (.fn 50 [q23,q24]),mq p4 q25]) (.skip)))
 (.seq (sq [mq p26 q0,mq p27 q5,.q p28 (.ixs q26 q27),.q p29 (ef .num q28 (.c (B 10))),mq p30 q29,.g p30 false (mq p31 q0),.g p30 false (mq p32 q5),.g p30 false (.q p33 (.ixs q31 q32)),.g p30 false (.q p34 (ef .num q33 (.c (B 32)))),.q p35 (.pick q30 (.c (.bool true)) q34),mq p36 q35,.g p36 false (mq p37 q0),.g p36 false (mq p38 q5),.g p36 false (.q p39 (.ixs q37 q38)),.g p36 false (.q p40 (ef .num q39 (.c (B 9)))),.q p41 (.pick q36 (.c (.bool true)) q40)]
 (.cond q41 (sq [mq p42 q5,.q p43 (.ari .add q42 (ci 1)),mq p5 q43]
 (.exit 1)) (.skip)))
 (.seq (sq [mq p44 q5,.q p45 (.ari .add q44 (ci 2)),mq p46 q0,.q p47 (.lens q46),.q p48 (.cmp .le q45 q47),mq p49 q48,.g p49 true (mq p50 q0),.g p49 true (mq p51 q5),.g p49 true (mq p52 q5),.g p49 true (.q p53 (.ari .add q52 (ci 2))),.g p49 true (.q p54 (.sls q50 (some q51) (some q53))),.g p49 true (.q p55 (ef .text q54 (.c (S [47,47])))),.q p56 (.pick q49 q55 (.c (.bool false)))]
 (.cond q56 (.seq (.block 2 (.loop (.seq (sq [mq p57 q5,mq p58 q0,.q p59 (.lens q58),.q p60 (.cmp .lt q57 q59),mq p61 q60,.g p61 true (mq p62 q0),.g p61 true (mq p63 q5),.g p61 true (.q p64 (.ixs q62 q63)),.g p61 true (.q p65 (et .num q64 (.c (B 10)))),.q p66 (.pick q61 q65 (.c (.bool false)))]
 (.cond q66 (.skip) (.exit 2)))
 (.block 3 (.reg [mq p67 q5,.q p68 (.ari .add q67 (ci 1)),mq p5 q68])))))
 (.exit 1)) (.skip)))
 (sq [mq p70 q0,mq p71 q5,ks p72 (.fn 51 [q70,q71]),mq p69 q72,.q p73 (.ext q69 0),.q p74 (.ext q69 1),.q p75 (.ext q69 2),ls p6 (.alloc [o0,e0,o0,o0]),ln (.st q6 q73 4),mq p7 q74,mq p8 q75]
 (.seq (sq [mq p76 q8,.q p77 (.cmp .ge q76 (ci 0))]
 (.cond q77 (sq [mq p78 q8,.q p79 (.build [o0,o0] [(0,1,(ci 2)),(1,1,q78)]),.q p2 (.mv (.c .nils)),ln (.st q3 q79 2)]
 (.ret)) (.skip)))
 (sq [mq p80 q4,.q p81 (.ldn q6 4),ls p82 (.bsl 1 [o0,e0,o0,o0] [(0,4,q81)]),ls p83 (.app 4 40 q80 q82),mq p4 q83]
 (.reg [mq p84 q7,mq p5 q84])))))))))))
 (sq [mq p85 q4,mq p86 q0,.q p87 (.lens q86),ks p88 (.fn 50 [q85,q87]),mq p4 q88]
 (sq [mq p89 q4,mq p90 q0,.q p91 (.lens q90),.q p92 (.build [o0,e0,o0,o0] [(0,1,(ci 6)),(3,1,q91)]),ls p93 (.bsl 1 [o0,e0,o0,o0] [(0,4,q92)]),ls p94 (.app 4 40 q89 q93),mq p4 q94]
 (sq [.q p9 (.mv (ci 0))]
 (.seq (sq [.q p10 (.mv (ci 0))]
 (.block 4 (.loop (.seq (sq [mq p95 q10,mq p96 q4,.q p97 (.len q96),.q p98 (.cmp .lt q95 q97)]
 (.cond q98 (.skip) (.exit 4)))
 (.seq (.block 5 (.seq (sq [mq p101 q4,mq p102 q10,.q p103 (.ixl 4 q101 q102),fq p104 q103 0,lq p105 q104,.q p106 (et .num q105 (ci 5))]
 (.cond q106 (.exit 5) (.skip)))
 (.seq (sq [mq p107 q4,mq p108 q10,.q p109 (.ixl 4 q107 q108),fq p110 q109 1,lq p111 q110,ks p112 (.fn 52 [q111,(.c (S [32,40,32,91,32,123,32]))])]
 (.cond q112 (.reg [mq p113 q9,.q p114 (.ari .add q113 (ci 1)),mq p9 q114]) (.skip)))
 (.seq (sq [mq p115 q9,.q p116 (.cmp .gt q115 (ci 40))]
 (.cond q116 (sq [mq p117 q4,mq p118 q10,.q p119 (.ixl 4 q117 q118),fq p120 q119 3,lq p121 q120,.q p122 (.build [o0,o0] [(0,1,(ci 3)),(1,1,q121)]),.q p2 (.mv (.c .nils)),ln (.st q3 q122 2)]
 (.ret)) (.skip)))
 (sq [mq p123 q9,.q p124 (.cmp .gt q123 (ci 0)),mq p125 q124,.g p125 true (mq p126 q4),.g p125 true (mq p127 q10),.g p125 true (.q p128 (.ixl 4 q126 q127)),.g p125 true (fq p129 q128 1),.g p125 true (lq p130 q129),.g p125 true (ks p131 (.fn 52 [q130,(.c (S [32,41,32,93,32,125,32]))])),.q p132 (.pick q125 q131 (.c (.bool false)))]
 (.cond q132 (.reg [mq p133 q9,.q p134 (.ari .sub q133 (ci 1)),mq p9 q134]) (.skip)))))))
 (.reg [mq p99 q10,.q p100 (.ari .add q99 (ci 1)),mq p10 q100]))))))
 (sq [mq p135 q4,.q p136 (.build [o0,o0] []),mq p2 q135,ln (.st q3 q136 2)]
 (.ret)))))))))))
def f29 : Fun := .code [.celln p2 4] (sq [ls p2 (.alloc [o0,e0,o0,o0])]
 (sq [mq p3 q0,.q p4 (.nck q3),fq p5 q4 0,lq p6 q5,mq p7 q0,.q p8 (.nck q7),fq p9 q8 1,lq p10 q9,.q p11 (.ixl 4 q6 q10),.q p12 (.ldn q11 4),ln (.st q2 q12 4)]
 (.ret)))
def f30 : Fun := .code [.celln p2 7] (sq [ls p2 (.alloc [o0,e0,o0,o0,e0,o0,.nils])]
 (sq [mq p13 q0,ks p14 (.fn 29 [q13]),.q p15 (.fld q14 3),mq p3 q15]
 (.seq (sq [mq p16 q0,ks p17 (.fn 53 [q16,(.c (S [116,121,112,101]))])]
 (.cond q17 (sq [mq p18 q0,ks p19 (.fn 54 [q18]),mq p4 q19]
 (sq [mq p20 q0,ks p21 (.fn 31 [q20,(.c (S [115,116,114,117,99,116]))])]
 (sq [mq p22 q0,ks p23 (.fn 31 [q22,(.c (S [123]))])]
 (sq [.q p5 (.mv (.c .nils))]
 (.seq (.block 0 (.loop (.seq (sq [mq p24 q0,.q p25 (.nck q24),fq p26 q25 2,lq p27 q26,.q p28 (.cmp .lt q27 (ci 0)),mq p29 q28,.g p29 true (mq p30 q0),.g p29 true (ks p31 (.fn 55 [q30,(.c (S [125]))])),.g p29 true (.q p32 (.not q31)),.q p33 (.pick q29 q32 (.c (.bool false)))]
 (.cond q33 (.skip) (.exit 0)))
 (.block 1 (sq [mq p34 q0,ks p35 (.fn 29 [q34]),.q p36 (.fld q35 3),mq p6 q36]
 (sq [mq p37 q0,ks p38 (.fn 54 [q37]),mq p7 q38]
 (sq [mq p39 q0,ks p40 (.fn 56 [q39]),ls p8 (.alloc [o0,e0,o0,o0,e0,o0,.nils]),ln (.st q8 q40 7)]
 (sq [mq p41 q5,mq p42 q6,mq p43 q7,.q p44 (.ldn q8 7),ls p45 (.bsl 1 [o0,e0,o0,o0,e0,o0,.nils] [(0,7,q44)]),ks p46 (.fn 57 [(ci 5),q42,q43,q45]),ls p47 (.bsl 1 [o0,e0,o0,o0,e0,o0,.nils] [(0,7,q46)]),ls p48 (.app 7 88 q41 q47),mq p5 q48]
 (.reg [mq p49 q0,ks p50 (.fn 31 [q49,(.c (S [59]))])])))))))))
 (sq [mq p51 q0,ks p52 (.fn 31 [q51,(.c (S [125]))])]
 (sq [mq p53 q3,mq p54 q4,mq p55 q5,ks p56 (.fn 57 [(ci 2),q53,q54,q55]),ln (.st q2 q56 7)]
 (.ret)))))))) (.skip)))
 (.seq (sq [mq p57 q0,ks p58 (.fn 53 [q57,(.c (S [118,97,114]))])]
 (.cond q58 (sq [mq p59 q0,ks p60 (.fn 54 [q59]),mq p9 q60]
 (sq [mq p61 q0,ks p62 (.fn 56 [q61]),ls p10 (.alloc [o0,e0,o0,o0,e0,o0,.nils]),ln (.st q10 q62 7)]
 (sq [mq p63 q3,mq p64 q9,.q p65 (.ldn q10 7),ls p66 (.bsl 1 [o0,e0,o0,o0,e0,o0,.nils] [(0,7,q65)]),ks p67 (.fn 57 [(ci 3),q63,q64,q66]),ln (.st q2 q67 7)]
 (.ret)))) (.skip)))
 (.seq (sq [mq p68 q0,ks p69 (.fn 53 [q68,(.c (S [102,117,110,99]))])]
 (.cond q69 (sq [mq p70 q0,ks p71 (.fn 54 [q70]),mq p11 q71]
 (sq [mq p72 q0,ks p73 (.fn 58 [q72]),mq p12 q73]
 (sq [mq p74 q3,mq p75 q11,mq p76 q12,ks p77 (.fn 57 [(ci 4),q74,q75,q76]),ln (.st q2 q77 7)]
 (.ret)))) (.skip)))
 (sq [mq p78 q0,ks p79 (.fn 59 [q78]),ln (.st q2 q79 7)]
 (.ret)))))))
def f31 : Fun := .code [] (sq [mq p5 q0,mq p6 q1,ks p7 (.fn 53 [q5,q6]),mq p4 q7]
 (sq [mq p8 q4,.q p9 (.not q8)]
 (.cond q9 (.reg [mq p10 q0,ks p11 (.fn 59 [q10])]) (.skip))))
def f32 : Fun := .code [] (sq [mq p4 q1,.q p5 (.not q4)]
 (.cond q5 (.reg [mq p6 q0,.q p7 (.nck q6),fq p8 q7 9,ln (.st q8 (.c (.bool true)) 1)]) (.skip)))
def f33 : Fun := .code [.t p4] (sq [ls p3 (.box q1),.q p4 (.mv (.c .nils))]
 (sq [mq p9 q0,fq p10 q3 6,lq p11 q10,.q p12 (.len q11),.q p13 (.cmp .le q12 (ci 16)),ks p14 (.fn 32 [q9,q13])]
 (sq [.q p5 (.mv (.c .nils))]
 (.seq (sq [.q p6 (.mv (ci 0))]
 (.block 0 (.loop (.seq (sq [mq p15 q6,fq p16 q3 6,lq p17 q16,.q p18 (.len q17),.q p19 (.cmp .lt q15 q18)]
 (.cond q19 (.skip) (.exit 0)))
 (.seq (.block 1 (.seq (sq [.q p7 (.mv (ci 0))]
 (.block 2 (.loop (.seq (sq [mq p22 q7,mq p23 q6,.q p24 (.cmp .lt q22 q23)]
 (.cond q24 (.skip) (.exit 2)))
 (.seq (.block 3 (.reg [mq p27 q0,fq p28 q3 6,lq p29 q28,mq p30 q7,.q p31 (.ixl 7 q29 q30),fq p32 q31 1,lq p33 q32,fq p34 q3 6,lq p35 q34,mq p36 q6,.q p37 (.ixl 7 q35 q36),fq p38 q37 1,lq p39 q38,.q p40 (.eq true false .text q33 q39),ks p41 (.fn 32 [q27,q40])]))
 (.reg [mq p25 q7,.q p26 (.ari .add q25 (ci 1)),mq p7 q26]))))))
 (sq [mq p42 q0,fq p43 q3 6,lq p44 q43,mq p45 q6,.q p46 (.ixl 7 q44 q45),fq p47 q46 6,lq p48 q47,.q p49 (.ixl 7 q48 (ci 0)),.q p50 (.ldn q49 7),ks p51 (.fn 34 [q42,q50]),mq p8 q51]
 (.reg [mq p52 q5,fq p53 q3 6,lq p54 q53,mq p55 q6,.q p56 (.ixl 7 q54 q55),fq p57 q56 1,lq p58 q57,mq p59 q8,.q p60 (.build [e0,e0] [(0,1,q58),(1,1,q59)]),ls p61 (.bsl 1 [e0,e0] [(0,2,q60)]),ls p62 (.app 2 32 q52 q61),mq p5 q62]))))
 (.reg [mq p20 q6,.q p21 (.ari .add q20 (ci 1)),mq p6 q21]))))))
 (sq [mq p63 q5,mq p4 q63]
 (.ret))))))
def f34 : Fun := .code [.t p4] (sq [ls p3 (.box q1),.q p4 (.mv (.c e0))]
 (sq [.q p6 (.ldn q3 7),ks p7 (.fn 60 [q6]),mq p5 q7]
 (sq [mq p8 q0,mq p9 q5,.q p10 (.lens q9),.q p11 (.cmp .le q10 (ci 200)),ks p12 (.fn 32 [q8,q11])]
 (sq [mq p13 q0,.q p14 (.ldn q3 7),ks p15 (.fn 61 [q13,q14])]
 (sq [mq p16 q5,mq p4 q16]
 (.ret))))))
def f35 : Fun := .code [.t p6] (sq [.q p6 (.mv (ci 0))]
 (.seq (sq [.q p7 (.mv (ci 0))]
 (.block 0 (.loop (.seq (sq [mq p8 q7,mq p9 q0,.q p10 (.nck q9),fq p11 q10 4,lq p12 q11,.q p13 (.len q12),.q p14 (.cmp .lt q8 q13)]
 (.cond q14 (.skip) (.exit 0)))
 (.seq (.block 1 (sq [mq p17 q0,.q p18 (.nck q17),fq p19 q18 4,lq p20 q19,mq p21 q7,.q p22 (.ixl 3 q20 q21),fq p23 q22 0,lq p24 q23,mq p25 q1,.q p26 (.eq false false .text q24 q25),mq p27 q26,.g p27 true (mq p28 q0),.g p27 true (.q p29 (.nck q28)),.g p27 true (fq p30 q29 4),.g p27 true (lq p31 q30),.g p27 true (mq p32 q7),.g p27 true (.q p33 (.ixl 3 q31 q32)),.g p27 true (fq p34 q33 2),.g p27 true (lq p35 q34),.g p27 true (mq p36 q0),.g p27 true (.q p37 (.nck q36)),.g p27 true (fq p38 q37 5),.g p27 true (lq p39 q38),.g p27 true (.q p40 (.eq false false .num q35 q39)),.q p41 (.pick q27 q40 (.c (.bool false)))]
 (.cond q41 (.reg [mq p42 q0,.q p43 (.nck q42),fq p44 q43 9,ln (.st q44 (.c (.bool true)) 1)]) (.skip))))
 (.reg [mq p15 q7,.q p16 (.ari .add q15 (ci 1)),mq p7 q16]))))))
 (.seq (.regc [mq p45 q0,mq p46 q0,.q p47 (.nck q46),fq p48 q47 0,fq p49 q48 1,.qr p50 (.ld q49) 0 1,mq p51 q1,mq p52 q2,mq p53 q0,.q p54 (.nck q53),fq p55 q54 6,lq p56 q55,.q p57 (.build [e0,e0,o0,(.bool false)] [(0,1,q51),(1,1,q52),(2,1,q56)]),ls p58 (.bsl 1 [e0,e0,o0,(.bool false)] [(0,4,q57)]),ls p59 (.app 4 48 q50 q58),.q p60 (.nck q45),fq p61 q60 0,fq p62 q61 1,ln (.st q62 q59 1)])
 (sq [mq p63 q0,mq p64 q0,.q p65 (.nck q64),fq p66 q65 0,fq p67 q66 1,lq p68 q67,.q p69 (.len q68),.q p70 (.cmp .le q69 (ci 200)),ks p71 (.fn 32 [q63,q70])]
 (.seq (.regc [mq p72 q0,mq p73 q0,.q p74 (.nck q73),fq p75 q74 4,.qr p76 (.ld q75) 0 1,mq p77 q1,mq p78 q0,.q p79 (.nck q78),fq p80 q79 0,fq p81 q80 1,lq p82 q81,.q p83 (.len q82),mq p84 q0,.q p85 (.nck q84),fq p86 q85 5,lq p87 q86,.q p88 (.build [e0,o0,o0] [(0,1,q77),(1,1,q83),(2,1,q87)]),ls p89 (.bsl 1 [e0,o0,o0] [(0,3,q88)]),ls p90 (.app 3 32 q76 q89),.q p91 (.nck q72),fq p92 q91 4,ln (.st q92 q90 1)])
 (sq [mq p93 q0,.q p94 (.nck q93),fq p95 q94 0,fq p96 q95 1,lq p97 q96,.q p98 (.len q97),mq p6 q98]
 (.ret)))))))
def f36 : Fun := .code [.t p6] (sq [ls p4 (.box q1),.q p6 (.mv (ci 0))]
 (sq [.q p10 (.build [o0,e0,o0,o0,e0,o0,.nils] [(0,1,(ci 15))]),ls p7 (.alloc [o0,e0,o0,o0,e0,o0,.nils]),ln (.st q7 q10 7)]
 (.seq (sq [.q p8 (.mv (ci 0))]
 (.block 0 (.loop (.seq (sq [mq p11 q8,fq p12 q4 6,lq p13 q12,.q p14 (.ixl 7 q13 (ci 0)),fq p15 q14 6,lq p16 q15,.q p17 (.len q16),.q p18 (.cmp .lt q11 q17)]
 (.cond q18 (.skip) (.exit 0)))
 (.seq (.block 1 (.regc [fq p21 q7 6,.qr p22 (.ld q21) 0 1,fq p23 q4 6,lq p24 q23,.q p25 (.ixl 7 q24 (ci 0)),fq p26 q25 6,lq p27 q26,mq p28 q8,.q p29 (.ixl 7 q27 q28),fq p30 q29 6,lq p31 q30,.q p32 (.ixl 7 q31 (ci 0)),.q p33 (.ldn q32 7),ls p34 (.bsl 1 [o0,e0,o0,o0,e0,o0,.nils] [(0,7,q33)]),ls p35 (.app 7 88 q22 q34),fq p36 q7 6,ln (.st q36 q35 1)]))
 (.reg [mq p19 q8,.q p20 (.ari .add q19 (ci 1)),mq p8 q20]))))))
 (.seq (.regc [fq p37 q7 6,.qr p38 (.ld q37) 0 1,fq p39 q4 6,lq p40 q39,.q p41 (.ixl 7 q40 (ci 1)),.q p42 (.ldn q41 7),ls p43 (.bsl 1 [o0,e0,o0,o0,e0,o0,.nils] [(0,7,q42)]),ls p44 (.app 7 88 q38 q43),fq p45 q7 6,ln (.st q45 q44 1)])
 (sq [mq p46 q0,.q p47 (.ldn q7 7),ks p48 (.fn 34 [q46,q47]),mq p9 q48]
 (.seq (.regc [mq p49 q0,mq p50 q0,.q p51 (.nck q50),fq p52 q51 0,fq p53 q52 2,.qr p54 (.ld q53) 0 1,mq p55 q2,mq p56 q9,mq p57 q0,.q p58 (.nck q57),fq p59 q58 6,lq p60 q59,.q p61 (.build [e0,e0,o0,.nils,o0,e0,o0,o0,e0,o0,.nils] [(0,1,q55),(1,1,q56),(2,1,q60)]),ls p62 (.bsl 1 [e0,e0,o0,.nils,o0,e0,o0,o0,e0,o0,.nils] [(0,11,q61)]),ls p63 (.app 11 152 q54 q62),.q p64 (.nck q49),fq p65 q64 0,fq p66 q65 2,ln (.st q66 q63 1)])
 (sq [mq p67 q0,mq p68 q0,.q p69 (.nck q68),fq p70 q69 0,fq p71 q70 2,lq p72 q71,.q p73 (.len q72),.q p74 (.cmp .le q73 (ci 100)),ks p75 (.fn 32 [q67,q74])]
 (sq [mq p76 q0,.q p77 (.nck q76),fq p78 q77 0,fq p79 q78 2,lq p80 q79,.q p81 (.len q80),mq p6 q81]
 (.ret)))))))))
def f37 : Fun := .code [] (sq [ls p5 (.box q2)]
 (sq [mq p14 q0,.q p15 (.nck q14),fq p16 q15 6,lq p17 q16,mq p6 q17]
 (sq [mq p18 q0,.q p19 (.nck q18),fq p20 q19 7,lq p21 q20,mq p7 q21]
 (sq [mq p22 q0,.q p23 (.nck q22),fq p24 q23 8,lq p25 q24,mq p8 q25]
 (sq [mq p26 q0,mq p27 q1,.q p28 (.nck q26),fq p29 q28 6,ln (.st q29 q27 1)]
 (sq [mq p30 q0,.q p31 (.nck q30),fq p32 q31 8,ln (.st q32 (.c .nils) 1)]
 (sq [mq p33 q0,.q p34 (.nck q33),fq p35 q34 7,ln (.st q35 (.c e0) 1)]
 (.seq (sq [fq p36 q5 6,lq p37 q36,.q p38 (.ixl 7 q37 (ci 1)),fq p39 q38 0,lq p40 q39,.q p41 (et .num q40 (ci 8))]
 (.cond q41 (.reg [mq p42 q0,fq p43 q5 6,lq p44 q43,.q p45 (.ixl 7 q44 (ci 1)),.q p46 (.ldn q45 7),ks p47 (.fn 60 [q46]),.q p48 (.nck q42),fq p49 q48 7,ln (.st q49 q47 1)]) (.skip)))
 (sq [mq p50 q0,ks p51 (.fn 62 [q50])]
 (sq [.q p9 (.mv (.c .nils))]
 (.seq (sq [.q p10 (.mv (ci 0))]
 (.block 0 (.loop (.seq (sq [mq p52 q10,fq p53 q5 6,lq p54 q53,.q p55 (.ixl 7 q54 (ci 0)),fq p56 q55 6,lq p57 q56,.q p58 (.len q57),.q p59 (.cmp .lt q52 q58),mq p60 q59,.g p60 true (mq p61 q0),.g p60 true (.q p62 (.nck q61)),.g p60 true (fq p63 q62 9),.g p60 true (lq p64 q63),.g p60 true (.q p65 (.not q64)),.q p66 (.pick q60 q65 (.c (.bool false)))]
 (.cond q66 (.skip) (.exit 0)))
 (.seq (.block 1 (sq [fq p69 q5 6,lq p70 q69,.q p71 (.ixl 7 q70 (ci 0)),fq p72 q71 6,lq p73 q72,mq p74 q10,.q p75 (.ixl 7 q73 q74),.q p76 (.ldn q75 7),ls p11 (.alloc [o0,e0,o0,o0,e0,o0,.nils]),ln (.st q11 q76 7)]
 (sq [mq p77 q0,fq p78 q11 6,lq p79 q78,.q p80 (.ixl 7 q79 (ci 0)),.q p81 (.ldn q80 7),ks p82 (.fn 34 [q77,q81]),mq p12 q82]
 (.reg [mq p83 q9,mq p84 q0,fq p85 q11 1,lq p86 q85,mq p87 q12,ks p88 (.fn 35 [q84,q86,q87]),ls p89 (.bsl 1 [o0] [(0,1,q88)]),ls p90 (.app 1 8 q83 q89),mq p9 q90]))))
 (.reg [mq p67 q10,.q p68 (.ari .add q67 (ci 1)),mq p10 q68]))))))
 (sq [fq p91 q5 6,lq p92 q91,.q p93 (.ixl 7 q92 (ci 2)),.q p94 (.ldn q93 7),ls p13 (.alloc [o0,e0,o0,o0,e0,o0,.nils]),ln (.st q13 q94 7)]
 (sq [mq p95 q0,fq p96 q13 6,lq p97 q96,ks p98 (.fn 63 [q95,q97,(.c (.bool false))]),fq p99 q13 6,ln (.st q99 q98 1)]
 (.seq (sq [mq p100 q0,.q p101 (.nck q100),fq p102 q101 7,lq p103 q102,.q p104 (et .text q103 (.c e0)),mq p105 q104,.g p105 true (mq p106 q0),.g p105 true (.q p107 (.nck q106)),.g p105 true (fq p108 q107 9),.g p105 true (lq p109 q108),.g p105 true (.q p110 (.not q109)),.q p111 (.pick q105 q110 (.c (.bool false)))]
 (.cond q111 (.reg [mq p112 q0,.q p113 (.ldn q13 7),ks p114 (.fn 64 [q113]),ks p115 (.fn 32 [q112,q114])]) (.skip)))
 (sq [mq p116 q0,ks p117 (.fn 65 [q116])]
 (sq [mq p118 q0,.q p119 (.nck q118),fq p120 q119 0,fq p121 q120 2,lq p122 q121,mq p123 q1,.q p124 (.ari .sub q123 (ci 1)),mq p125 q9,.q p126 (.ixl 11 q122 q124),fq p127 q126 3,ln (.st q127 q125 1)]
 (sq [mq p128 q0,.q p129 (.nck q128),fq p130 q129 0,fq p131 q130 2,lq p132 q131,mq p133 q1,.q p134 (.ari .sub q133 (ci 1)),.q p135 (.ldn q13 7),.q p136 (.ixl 11 q132 q134),fq p137 q136 4,ln (.st q137 q135 7)]
 (sq [mq p138 q0,mq p139 q6,.q p140 (.nck q138),fq p141 q140 6,ln (.st q141 q139 1)]
 (sq [mq p142 q0,mq p143 q7,.q p144 (.nck q142),fq p145 q144 7,ln (.st q145 q143 1)]
 (.reg [mq p146 q0,mq p147 q8,.q p148 (.nck q146),fq p149 q148 8,ln (.st q149 q147 1)]))))))))))))))))))))
def f38 : Fun := .code [.t p2] (sq [.q p2 (.mv (.c .nilp))]
 (sq [mq p3 q0,ks p4 (.fn 66 [q3]),.q p5 (.build [.nils,.nils] [(0,1,q4)]),ls p6 (.box q5),mq p2 q6]
 (.ret)))
def f39 : Fun := .code [.t p8] (sq [.q p8 (.mv (.c .nilp))]
 (sq [mq p11 q0,.q p12 (.nck q11),fq p13 q12 0,fq p14 q13 3,lq p15 q14,mq p16 q1,.q p17 (.ari .sub q16 (ci 1)),.q p18 (.ixl 6 q15 q17),.q p19 (.ldn q18 6),ls p9 (.alloc [e0,.nils,o0,o0,(.bool false),.nils]),ln (.st q9 q19 6)]
 (sq [mq p20 q1,mq p21 q0,.q p22 (.nck q21),fq p23 q22 5,lq p24 q23,ks p25 (.inv q24 0 [(ci 0)]),.q p26 (.build [o0,o0,.nils,o0,.nils,(.bool false),(.bool false),e0,(.bool false),o0,e0,.nilp,o0,o0,o0,.nilp,.nilp,(.bool false)] [(0,1,q20),(3,1,(.c (.int .i64 (.lit (.negSucc 0))))),(9,8,q25)]),ls p27 (.box q26),mq p10 q27]
 (sq [mq p28 q10,mq p29 q10,.q p30 (.nck q29),fq p31 q30 2,lq p32 q31,mq p33 q3,ls p34 (.app 8 72 q32 q33),mq p35 q2,ls p36 (.app 8 72 q34 q35),.q p37 (.nck q28),fq p38 q37 2,ln (.st q38 q36 1)]
 (.seq (.block 0 (.loop (.seq (sq [mq p39 q10,.q p40 (.nck q39),fq p41 q40 2,lq p42 q41,.q p43 (.len q42),fq p44 q9 1,lq p45 q44,.q p46 (.len q45),.q p47 (.cmp .lt q43 q46)]
 (.cond q47 (.skip) (.exit 0)))
 (.block 1 (.regc [mq p48 q10,mq p49 q10,.q p50 (.nck q49),fq p51 q50 2,.qr p52 (.ld q51) 0 2,mq p53 q0,.q p54 (.nck q53),fq p55 q54 5,lq p56 q55,ks p57 (.inv q56 0 [(ci 0)]),ls p58 (.bsl 1 [o0,e0,.nilp,o0,o0,o0,.nilp,.nilp] [(0,8,q57)]),ls p59 (.app 8 72 q52 q58),.q p60 (.nck q48),fq p61 q60 2,ln (.st q61 q59 1)])))))
 (sq [mq p62 q10,mq p8 q62]
 (.ret)))))))
def f41 : Fun := .code [] (.seq (sq [mq p4 q1,.q p5 (.ld (.c (.ptr (.mk .o0 .o0 .o0 .o0 .o0) 0))),ks p6 (.fn 67 [q4,q5])]
 (.cond q6 (sq [mq p7 q0,mq p8 q0,.q p9 (.nck q7),fq p10 q9 12,ln (.st q10 (ci 3) 1),.q p11 (.nck q8),fq p12 q11 13,ln (.st q12 (.c (S [111,117,116,32,111,102,32,109,101,109,111,114,121])) 1)]
 (.ret)) (.skip)))
 (.reg [.q p0 (.bad 1)]))
def f42 : Fun := .code [.celln p2 4] (sq [ls p2 (.alloc [o0,o0,e0,e0])]
 (.seq (.regc [mq p4 q0,.q p5 (.nck q4),fq p6 q5 12,.qr p7 (.ld q6) 0 1,mq p8 q0,.q p9 (.nck q8),fq p10 q9 11,.qr p11 (.ld q10) 0 1,.qr p12 (.b2s q11) 0 1,mq p13 q0,.q p14 (.nck q13),fq p15 q14 13,.qr p16 (.ld q15) 0 1,.q p17 (.build [o0,o0,e0,e0] [(0,1,q7),(2,1,q12),(3,1,q16)]),ls p3 (.alloc [o0,o0,e0,e0]),ln (.st q3 q17 4)])
 (.seq (sq [mq p18 q0,.q p19 (.nck q18),fq p20 q19 12,lq p21 q20,.q p22 (ef .num q21 (ci 2)),mq p23 q22,.g p23 false (mq p24 q0),.g p23 false (.q p25 (.nck q24)),.g p23 false (fq p26 q25 12),.g p23 false (lq p27 q26),.g p23 false (.q p28 (ef .num q27 (ci 3))),.q p29 (.pick q23 (.c (.bool true)) q28)]
 (.cond q29 (.reg [fq p30 q3 1,ln (.st q30 (ci 2) 1)]) (.skip)))
 (sq [.q p31 (.ldn q3 4),ln (.st q2 q31 4)]
 (.ret)))))
def f43 : Fun := .code [] (sq [mq p6 q0,.q p7 (.nck q6),fq p8 q7 8,lq p9 q8,mq p10 q0,.q p11 (.nck q10),fq p12 q11 9,lq p13 q12,.q p14 (.ixl 1 q9 q13),lq p15 q14,mq p2 q15]
 (sq [mq p16 q0,ks p17 (.fn 68 [q16]),mq p3 q17]
 (.block 0 (sq [mq p49 q2,.q p50 (.nck q49),fq p51 q50 2,lq p52 q51,.q p53 (et .text q52 (.c e0)),mq p48 q53]
 (.cond q48 (sq [mq p54 q2,.q p55 (.nck q54),fq p56 q55 2,lq p57 q56,mq p4 q57]
 (sq [mq p58 q2,.q p59 (.nck q58),fq p60 q59 2,ln (.st q60 (.c e0) 1)]
 (.reg [mq p61 q0,mq p62 q4,ks p63 (.fn 69 [q61,q62])]))) (sq [mq p65 q3,.q p66 (.nck q65),fq p67 q66 8,lq p68 q67,mq p64 q68]
 (.cond q64 (.reg [mq p69 q0,mq p70 q2,mq p71 q3,ks p72 (.fn 70 [q69,q70,q71])]) (.seq (.regc [mq p18 q0,.q p19 (.nck q18),fq p20 q19 0,fq p21 q20 3,.qr p22 (.ld q21) 0 1,mq p23 q3,.q p24 (.nck q23),fq p25 q24 0,.qr p26 (.ld q25) 0 1,.q p27 (.ari .sub q26 (ci 1)),.q p28 (.ixl 6 q22 q27),fq p29 q28 5,.qr p30 (.ld q29) 0 1,mq p31 q3,.q p32 (.nck q31),fq p33 q32 1,.qr p34 (.ld q33) 0 1,.q p35 (.ixl 6 q30 q34),.qr p36 (.ldn q35 6) 0 1,ls p5 (.alloc [o0,o0,o0,o0,o0,.nils]),ln (.st q5 q36 6)])
 (sq [mq p37 q3,.q p38 (.nck q37),fq p39 q38 1,lq p40 q39,.q p41 (.ari .add q40 (ci 1)),.q p42 (.nck q37),fq p43 q42 1,ln (.st q43 q41 1)]
 (.reg [mq p44 q0,mq p45 q3,.q p46 (.ldn q5 6),ks p47 (.fn 71 [q44,q45,q46])]))))))))))
def f44 : Fun := .code [.t p2] (sq [ls p1 (.box q0),.q p2 (.mv (.c (.bool false)))]
 (sq [lq p3 q1,ks p4 (.fn 72 [q3]),mq p5 q4,.g p5 true (ls p6 (.bsl 4 [e0,e0,e0,e0] [(0,1,(.c (S [42]))),(1,1,(.c (S [91,93]))),(2,1,(.c (S [99,104,97,110,32]))),(3,1,(.c (S [102,117,110,99,40])))])),.g p5 true (.q p7 (.mkfn 74 [q1])),.g p5 true (ks p8 (.fn 73 [q6,q7])),.q p9 (.pick q5 q8 (.c (.bool false))),mq p2 q9]
 (.ret)))
def f45 : Fun := .code [.t p2,.t p3,.t p4] (sq [.q p2 (.mv (.c .nils)),.q p3 (.mv (.c e0)),.q p4 (.mv (.c (.bool false)))]
 (.seq (sq [mq p5 q0,ks p6 (.fn 72 [q5]),.q p7 (.not q6),mq p8 q7,.g p8 false (mq p9 q0),.g p8 false (ks p10 (.fn 75 [q9,(.c (S [102,117,110,99,40]))])),.g p8 false (.q p11 (.not q10)),.q p12 (.pick q8 (.c (.bool true)) q11)]
 (.cond q12 (sq [.q p2 (.mv (.c .nils)),.q p3 (.mv (.c e0)),.q p4 (.mv (.c (.bool false)))]
 (.ret)) (.skip)))
 (sq [mq p14 q0,ks p15 (.fn 76 [q14]),mq p13 q15,.q p16 (.ext q13 0),.q p17 (.ext q13 1),.q p18 (.ext q13 2),mq p2 q17,mq p3 q18]
 (sq [mq p19 q2,mq p20 q3,mq p2 q19,mq p3 q20,.q p4 (.mv (.c (.bool true)))]
 (.ret)))))
def f46 : Fun := .code [.t p4] (sq [.q p4 (.mv (ci 0))]
 (.seq (.regc [mq p5 q0,.q p6 (.nck q5),fq p7 q6 7,.qr p8 (.ld q7) 0 3,mq p9 q0,.q p10 (.nck q9),fq p11 q10 7,.qr p12 (.ld q11) 0 2,.q p13 (.nck q12),fq p14 q13 1,.qr p15 (.ld q14) 0 2,mq p16 q1,ks p17 (.fn 25 [q16]),ls p18 (.bsl 1 [(.bool false)] [(0,1,q17)]),ls p19 (.app 1 1 q15 q18),.q p20 (.nck q8),fq p21 q20 1,ln (.st q21 q19 1)])
 (sq [mq p22 q0,.q p23 (.nck q22),fq p24 q23 7,lq p25 q24,.q p26 (.nck q25),fq p27 q26 1,lq p28 q27,.q p29 (.len q28),.q p30 (.ari .sub q29 (ci 1)),mq p4 q30]
 (.ret))))
def f47 : Fun := .code [.t p4] (sq [ls p2 (.box q0),ls p3 (.box q1),.q p4 (.mv (.c .nils))]
 (sq [ls p5 (.alloc [.nils])]
 (sq [ls p6 (.alloc [.nilf])]
 (sq [.q p8 (.mkfn 77 [q2,q3,q5]),ls p7 (.alloc [.nilf]),ln (.st q7 q8 1)]
 (sq [.q p9 (.mkfn 79 [q7,q2,q6]),ln (.st q6 q9 1)]
 (sq [lq p10 q6,fq p11 q2 2,lq p12 q11,lq p13 q3,.q p14 (.ari .sub q13 (ci 1)),.q p15 (.ixl 11 q12 q14),fq p16 q15 4,.q p17 (.ldn q16 7),ks p18 (.fv q10 [q17])]
 (sq [lq p19 q5,ks p20 (.fn 80 [q19])]
 (sq [lq p21 q5,mq p4 q21]
 (.ret)))))))))
def f48 : Fun := .code [.t p4] (sq [ls p3 (.box q1),.q p4 (.mv (ci 0))]
 (.seq (.regc [mq p5 q0,.q p6 (.nck q5),fq p7 q6 7,.qr p8 (.ld q7) 0 2,mq p9 q0,.q p10 (.nck q9),fq p11 q10 7,.qr p12 (.ld q11) 0 1,.q p13 (.nck q12),fq p14 q13 5,.qr p15 (.ld q14) 0 1,.q p16 (.ldn q3 6),ls p17 (.bsl 1 [o0,o0,o0,o0,o0,.nils] [(0,6,q16)]),ls p18 (.app 6 64 q15 q17),.q p19 (.nck q8),fq p20 q19 5,ln (.st q20 q18 1)])
 (sq [mq p21 q0,.q p22 (.nck q21),fq p23 q22 7,lq p24 q23,.q p25 (.nck q24),fq p26 q25 5,lq p27 q26,.q p28 (.len q27),.q p29 (.ari .sub q28 (ci 1)),mq p4 q29]
 (.ret))))
def f49 : Fun := .code [] (sq [ls p3 (.box q1)]
 (sq [fq p6 q3 6,lq p7 q6,.q p8 (.len q7),.q p9 (.mv (ci 0))]
 (.block 0 (.loop (sq [.q p10 (.cmp .lt q9 q8)]
 (.seq (.cond q10 (.skip) (.exit 0))
 (.seq (.block 1 (sq [.q p11 (.ixl 7 q7 q9),.q p12 (.ldn q11 7),ls p5 (.alloc [o0,e0,o0,o0,e0,o0,.nils]),ln (.st q5 q12 7)]
 (.reg [mq p13 q0,.q p14 (.ldn q5 7),ks p15 (.fn 81 [q13,q14])])))
 (.reg [.q p16 (.ari .add q9 (ci 1)),mq p9 q16]))))))))
def f50 : Fun := .code [.t p4] (sq [.q p4 (.mv (.c .nils))]
 (.seq (sq [mq p7 q0,.q p8 (.len q7),.q p9 (ef .num q8 (ci 0))]
 (.cond q9 (sq [mq p10 q0,mq p4 q10]
 (.ret)) (.skip)))
 (sq [mq p11 q0,mq p12 q0,.q p13 (.len q12),.q p14 (.ari .sub q13 (ci 1)),.q p15 (.ixl 4 q11 q14),.q p16 (.ldn q15 4),ls p5 (.alloc [o0,e0,o0,o0]),ln (.st q5 q16 4)]
 (.seq (sq [fq p17 q5 0,lq p18 q17,.q p19 (.cmp .le q18 (ci 3)),mq p20 q19,.g p20 false (fq p21 q5 1),.g p20 false (lq p22 q21),.g p20 false (ks p23 (.fn 52 [q22,(.c (S [32,98,114,101,97,107,32,99,111,110,116,105,110,117,101,32,102,97,108,108,116,104,114,111,117,103,104,32,114,101,116,117,114,110,32,116,114,117,101,32,102,97,108,115,101,32,110,105,108,32,105,110,116,32,98,111,111,108,32,115,116,114,105,110,103,32,43,43,32,45,45,32,41,32,93,32,125,32]))])),.q p24 (.pick q20 (.c (.bool true)) q23)]
 (.cond q24 (sq [ls p25 (.bsl 0 [] []),mq p26 q0,ls p27 (.app 4 40 q25 q26),mq p6 q27]
 (sq [mq p28 q6,mq p29 q1,.q p30 (.build [o0,e0,o0,o0] [(0,1,(ci 5)),(1,1,(.c (S [59]))),(2,1,(ci 1)),(3,1,q29)]),ls p31 (.bsl 1 [o0,e0,o0,o0] [(0,4,q30)]),ls p32 (.app 4 40 q28 q31),mq p4 q32]
 (.ret))) (.skip)))
 (sq [mq p33 q0,mq p4 q33]
 (.ret))))))
def f51 : Fun := .code [.celln p4 4,.t p5,.t p6] (sq [ls p4 (.alloc [o0,e0,o0,o0]),.q p5 (.mv (ci 0)),.q p6 (.mv (ci 0))]
 (sq [mq p10 q0,mq p11 q1,.q p12 (.ixs q10 q11),mq p7 q12]
 (.seq (sq [mq p13 q7,ks p14 (.fn 82 [q13])]
 (.cond q14 (sq [mq p15 q0,mq p16 q1,ks p17 (.fn 83 [q15,q16]),mq p8 q17]
 (.seq (sq [mq p18 q8,mq p19 q1,.q p20 (.ari .sub q18 q19),.q p21 (.cmp .gt q20 (ci 24))]
 (.cond q21 (sq [.q p22 (.build [o0,e0,o0,o0] []),mq p23 q1,mq p24 q1,ln (.st q4 q22 4),mq p5 q23,mq p6 q24]
 (.ret)) (.skip)))
 (sq [.q p9 (.mv (ci 1))]
 (.seq (sq [mq p25 q0,mq p26 q1,mq p27 q8,.q p28 (.sls q25 (some q26) (some q27)),ks p29 (.fn 52 [q28,(.c (S [32,97,112,112,101,110,100,32,98,111,111,108,32,98,114,101,97,107,32,99,97,112,32,99,97,115,101,32,99,104,97,110,32,99,108,111,115,101,32,99,111,110,116,105,110,117,101,32,100,101,102,97,117,108,116,32,100,101,102,101,114,32,101,108,115,101,32,102,97,108,108,116,104,114,111,117,103,104,32,102,97,108,115,101,32,102,111,114,32,102,117,110,99,32,103,111,32,105,102,32,105,110,116,32,108,101,110,32,109,97,107,101,32,110,101,119,32,110,105,108,32,112,97,110,105,99,32,112,114,105,110,116,32,114,101,99,111,118,101,114,32,114,101,116,117,114,110,32,115,101,108,101,99,116,32,115,116,114,105,110,103,32,115,116,114,117,99,116,32,115,119,105,116,99,104,32,116,114,117,101,32,116,121,112,101,32,118,97,114,32]))])]
 (.cond q29 (.reg [.q p9 (.mv (ci 4))]) (.skip)))
 (sq [mq p30 q9,mq p31 q0,mq p32 q1,mq p33 q8,.q p34 (.sls q31 (some q32) (some q33)),mq p35 q1,.q p36 (.build [o0,e0,o0,o0] [(0,1,q30),(1,1,q34),(3,1,q35)]),mq p37 q8,ln (.st q4 q36 4),mq p5 q37,.q p6 (.mv (.c (.int .i64 (.lit (.negSucc 0)))))]
 (.ret)))))) (.skip)))
 (.seq (sq [mq p38 q7,ks p39 (.fn 84 [q38])]
 (.cond q39 (sq [mq p40 q0,mq p41 q1,ks p42 (.fn 85 [q40,q41]),.q p43 (.ext q42 0),.q p44 (.ext q42 1),.q p45 (.ext q42 2),ln (.st q4 q43 4),mq p5 q44,mq p6 q45]
 (.ret)) (.skip)))
 (.seq (sq [mq p46 q7,.q p47 (ef .num q46 (.c (B 34)))]
 (.cond q47 (sq [mq p48 q0,mq p49 q1,ks p50 (.fn 86 [q48,q49]),.q p51 (.ext q50 0),.q p52 (.ext q50 1),.q p53 (.ext q50 2),ln (.st q4 q51 4),mq p5 q52,mq p6 q53]
 (.ret)) (.skip)))
 (.seq (sq [mq p54 q1,.q p55 (.ari .add q54 (ci 2)),mq p56 q0,.q p57 (.lens q56),.q p58 (.cmp .le q55 q57),mq p59 q58,.g p59 true (mq p60 q0),.g p59 true (mq p61 q1),.g p59 true (mq p62 q1),.g p59 true (.q p63 (.ari .add q62 (ci 2))),.g p59 true (.q p64 (.sls q60 (some q61) (some q63))),.g p59 true (ks p65 (.fn 52 [q64,(.c (S [32,58,61,32,61,61,32,33,61,32,60,61,32,62,61,32,38,38,32,124,124,32,60,45,32,43,43,32,45,45,32,43,61,32,45,61,32,42,61,32]))])),.q p66 (.pick q59 q65 (.c (.bool false)))]
 (.cond q66 (sq [mq p67 q0,mq p68 q1,mq p69 q1,.q p70 (.ari .add q69 (ci 2)),.q p71 (.sls q67 (some q68) (some q70)),mq p72 q1,.q p73 (.build [o0,e0,o0,o0] [(0,1,(ci 5)),(1,1,q71),(3,1,q72)]),mq p74 q1,.q p75 (.ari .add q74 (ci 2)),ln (.st q4 q73 4),mq p5 q75,.q p6 (.mv (.c (.int .i64 (.lit (.negSucc 0)))))]
 (.ret)) (.skip)))
 (.seq (sq [mq p76 q7,.q p77 (.cmp .gt q76 (.c (B 32))),mq p78 q77,.g p78 true (mq p79 q7),.g p78 true (.q p80 (.cmp .lt q79 (.c (B 127)))),.q p81 (.pick q78 q80 (.c (.bool false))),mq p82 q81,.g p82 true (mq p83 q0),.g p82 true (mq p84 q1),.g p82 true (mq p85 q1),.g p82 true (.q p86 (.ari .add q85 (ci 1))),.g p82 true (.q p87 (.sls q83 (some q84) (some q86))),.g p82 true (ks p88 (.fn 52 [q87,(.c (S [32,40,32,41,32,91,32,93,32,123,32,125,32,44,32,59,32,58,32,46,32,61,32,60,32,62,32,43,32,45,32,42,32,47,32,37,32,33,32,38,32]))])),.q p89 (.pick q82 q88 (.c (.bool false)))]
 (.cond q89 (sq [mq p90 q0,mq p91 q1,mq p92 q1,.q p93 (.ari .add q92 (ci 1)),.q p94 (.sls q90 (some q91) (some q93)),mq p95 q1,.q p96 (.build [o0,e0,o0,o0] [(0,1,(ci 5)),(1,1,q94),(3,1,q95)]),mq p97 q1,.q p98 (.ari .add q97 (ci 1)),ln (.st q4 q96 4),mq p5 q98,.q p6 (.mv (.c (.int .i64 (.lit (.negSucc 0)))))]
 (.ret)) (.skip)))
 (sq [.q p99 (.build [o0,e0,o0,o0] []),mq p100 q1,mq p101 q1,ln (.st q4 q99 4),mq p5 q100,mq p6 q101]
 (.ret)))))))))
def f52 : Fun := .code [.t p4] (.seq (.reg [.q p4 (.mv (.c (.bool false)))])
 (.seq (.reg [.q p7 (.mv q0),.q p8 (.cat (.c (S [32])) q7),.q p9 (.cat q8 (.c (S [32]))),.q p5 (.mv q9)])
 (.seq (.seq (.reg [.q p6 (.mv (.c (I 0)))])
 (.block 0 (.loop (.seq (.seq (.reg [.q p10 (.mv q6),.q p11 (.mv q5),.q p12 (.lens q11),.q p13 (.ari .add q10 q12),.q p14 (.mv q1),.q p15 (.lens q14),.q p16 (.cmp .le q13 q15)])
 (.cond q16 (.skip) (.exit 0)))
 (.seq (.block 1 (.seq (.reg [.q p19 (.mv q0),.q p20 (.eq true true .text q19 (.c (S []))),.q p21 (.mv q20),.g p21 true (.q p22 (.mv q1)),.g p21 true (.q p23 (.mv q6)),.g p21 true (.q p24 (.mv q6)),.g p21 true (.q p25 (.mv q5)),.g p21 true (.q p26 (.lens q25)),.g p21 true (.q p27 (.ari .add q24 q26)),.g p21 true (.q p28 (.sls q22 (some q23) (some q27))),.g p21 true (.q p29 (.mv q5)),.g p21 true (.q p30 (.eq false false .text q28 q29)),.q p31 (.pick q21 q30 (.c (.bool false)))])
 (.cond q31 (.seq (.reg [.q p4 (.mv (.c (.bool true)))])
 (.ret)) (.skip))))
 (.reg [.q p17 (.mv q6),.q p18 (.ari .add q17 (.c (I 1))),.q p6 (.mv q18)]))))))
 (.seq (.reg [.q p4 (.mv (.c (.bool false)))])
 (.ret)))))
def f53 : Fun := .code [.t p4] (sq [.q p4 (.mv (.c (.bool false)))]
 (sq [mq p6 q0,mq p7 q1,ks p8 (.fn 55 [q6,q7]),mq p5 q8]
 (.seq (sq [mq p9 q5]
 (.cond q9 (.reg [mq p10 q0,.q p11 (.nck q10),fq p12 q11 1,lq p13 q12,.q p14 (.ari .add q13 (ci 1)),.q p15 (.nck q10),fq p16 q15 1,ln (.st q16 q14 1)]) (.skip)))
 (sq [mq p17 q5,mq p4 q17]
 (.ret)))))
def f54 : Fun := .code [.t p2] (sq [.q p2 (.mv (.c e0))]
 (sq [mq p4 q0,ks p5 (.fn 29 [q4]),ls p3 (.alloc [o0,e0,o0,o0]),ln (.st q3 q5 4)]
 (.seq (sq [mq p6 q0,.q p7 (.nck q6),fq p8 q7 2,lq p9 q8,.q p10 (.cmp .ge q9 (ci 0)),mq p11 q10,.g p11 false (fq p12 q3 0),.g p11 false (lq p13 q12),.g p11 false (.q p14 (et .num q13 (ci 1))),.q p15 (.pick q11 (.c (.bool true)) q14)]
 (.cond q15 (sq [mq p16 q0,ks p17 (.fn 59 [q16])]
 (sq [.q p2 (.mv (.c e0))]
 (.ret))) (.skip)))
 (sq [mq p18 q0,.q p19 (.nck q18),fq p20 q19 1,lq p21 q20,.q p22 (.ari .add q21 (ci 1)),.q p23 (.nck q18),fq p24 q23 1,ln (.st q24 q22 1)]
 (sq [fq p25 q3 1,lq p26 q25,mq p2 q26]
 (.ret))))))
def f55 : Fun := .code [.t p4] (sq [.q p4 (.mv (.c (.bool false)))]
 (.seq (.regc [mq p6 q0,.q p7 (.nck q6),fq p8 q7 0,.qr p9 (.ld q8) 0 1,mq p10 q0,.q p11 (.nck q10),fq p12 q11 1,.qr p13 (.ld q12) 0 1,.q p14 (.ixl 4 q9 q13),.qr p15 (.ldn q14 4) 0 1,ls p5 (.alloc [o0,e0,o0,o0]),ln (.st q5 q15 4)])
 (sq [mq p16 q0,.q p17 (.nck q16),fq p18 q17 2,lq p19 q18,.q p20 (.cmp .lt q19 (ci 0)),mq p21 q20,.g p21 true (fq p22 q5 0),.g p21 true (lq p23 q22),.g p21 true (.q p24 (ef .num q23 (ci 4))),.g p21 true (mq p25 q24),.g p25 false (fq p26 q5 0),.g p25 false (lq p27 q26),.g p25 false (.q p28 (ef .num q27 (ci 5))),.g p21 true (.q p29 (.pick q25 (.c (.bool true)) q28)),.q p30 (.pick q21 q29 (.c (.bool false))),mq p31 q30,.g p31 true (fq p32 q5 1),.g p31 true (lq p33 q32),.g p31 true (mq p34 q1),.g p31 true (.q p35 (.eq false false .text q33 q34)),.q p36 (.pick q31 q35 (.c (.bool false))),mq p4 q36]
 (.ret))))
def f56 : Fun := .code [.celln p2 7] (sq [ls p2 (.alloc [o0,e0,o0,o0,e0,o0,.nils])]
 (sq [mq p8 q0,ks p9 (.fn 29 [q8]),.q p10 (.fld q9 3),mq p3 q10]
 (.seq (sq [mq p11 q0,ks p12 (.fn 87 [q11,(.c (S [32,105,110,116,32,98,111,111,108,32,115,116,114,105,110,103,32,42,32,91,32,99,104,97,110,32,102,117,110,99,32]))]),.q p13 (.not q12)]
 (.cond q13 (sq [mq p14 q0,ks p15 (.fn 59 [q14]),ln (.st q2 q15 7)]
 (.ret)) (.skip)))
 (sq [mq p16 q0,ks p17 (.fn 29 [q16]),.q p18 (.fld q17 1),mq p4 q18]
 (sq [mq p19 q0,.q p20 (.nck q19),fq p21 q20 1,lq p22 q21,.q p23 (.ari .add q22 (ci 1)),.q p24 (.nck q19),fq p25 q24 1,ln (.st q25 q23 1)]
 (.seq (sq [mq p26 q4]
 (.block 0 (sq [.q p28 (ef .text q26 (.c (S [105,110,116]))),mq p27 q28]
 (.cond q27 (sq [mq p29 q3,ks p30 (.fn 57 [(ci 9),q29,(.c e0),(.c .nils)]),ln (.st q2 q30 7)]
 (.ret)) (sq [.q p32 (ef .text q26 (.c (S [98,111,111,108]))),mq p31 q32]
 (.cond q31 (sq [mq p33 q3,ks p34 (.fn 57 [(ci 10),q33,(.c e0),(.c .nils)]),ln (.st q2 q34 7)]
 (.ret)) (sq [.q p36 (ef .text q26 (.c (S [115,116,114,105,110,103]))),mq p35 q36]
 (.cond q35 (sq [mq p37 q3,ks p38 (.fn 57 [(ci 11),q37,(.c e0),(.c .nils)]),ln (.st q2 q38 7)]
 (.ret)) (sq [.q p40 (ef .text q26 (.c (S [42]))),mq p39 q40]
 (.cond q39 (sq [mq p41 q0,ks p42 (.fn 54 [q41]),mq p5 q42]
 (sq [mq p43 q3,mq p44 q5,ks p45 (.fn 57 [(ci 12),q43,q44,(.c .nils)]),ln (.st q2 q45 7)]
 (.ret))) (sq [.q p47 (ef .text q26 (.c (S [91]))),mq p46 q47]
 (.cond q46 (sq [mq p48 q0,ks p49 (.fn 31 [q48,(.c (S [93]))])]
 (sq [mq p50 q0,ks p51 (.fn 56 [q50]),ls p6 (.alloc [o0,e0,o0,o0,e0,o0,.nils]),ln (.st q6 q51 7)]
 (sq [mq p52 q3,.q p53 (.ldn q6 7),ls p54 (.bsl 1 [o0,e0,o0,o0,e0,o0,.nils] [(0,7,q53)]),ks p55 (.fn 57 [(ci 13),q52,(.c e0),q54]),ln (.st q2 q55 7)]
 (.ret)))) (sq [.q p57 (ef .text q26 (.c (S [99,104,97,110]))),mq p56 q57]
 (.cond q56 (sq [mq p58 q0,ks p59 (.fn 56 [q58]),ls p7 (.alloc [o0,e0,o0,o0,e0,o0,.nils]),ln (.st q7 q59 7)]
 (sq [mq p60 q3,.q p61 (.ldn q7 7),ls p62 (.bsl 1 [o0,e0,o0,o0,e0,o0,.nils] [(0,7,q61)]),ks p63 (.fn 57 [(ci 14),q60,(.c e0),q62]),ln (.st q2 q63 7)]
 (.ret))) (.skip)))))))))))))))
 (sq [mq p64 q0,mq p65 q3,ks p66 (.fn 88 [q64,q65]),ln (.st q2 q66 7)]
 (.ret))))))))
def f57 : Fun := .code [.celln p8 7] (sq [ls p8 (.alloc [o0,e0,o0,o0,e0,o0,.nils])]
 (sq [mq p9 q0,mq p10 q1,mq p11 q2,mq p12 q3,.q p13 (.build [o0,e0,o0,o0,e0,o0,.nils] [(0,1,q9),(3,1,q10),(1,1,q11),(6,1,q12)]),ln (.st q8 q13 7)]
 (.ret)))
def f58 : Fun := .code [.t p2] (sq [.q p2 (.mv (.c .nils))]
 (sq [mq p11 q0,ks p12 (.fn 29 [q11]),.q p13 (.fld q12 3),mq p3 q13]
 (sq [mq p14 q0,ks p15 (.fn 31 [q14,(.c (S [40]))])]
 (sq [.q p4 (.mv (.c .nils))]
 (.seq (.block 0 (.loop (.seq (sq [mq p16 q0,.q p17 (.nck q16),fq p18 q17 2,lq p19 q18,.q p20 (.cmp .lt q19 (ci 0)),mq p21 q20,.g p21 true (mq p22 q0),.g p21 true (ks p23 (.fn 55 [q22,(.c (S [41]))])),.g p21 true (.q p24 (.not q23)),.q p25 (.pick q21 q24 (.c (.bool false)))]
 (.cond q25 (.skip) (.exit 0)))
 (.block 1 (.seq (sq [mq p26 q4,.q p27 (.len q26),.q p28 (.cmp .gt q27 (ci 0))]
 (.cond q28 (.reg [mq p29 q0,ks p30 (.fn 31 [q29,(.c (S [44]))])]) (.skip)))
 (sq [mq p31 q0,ks p32 (.fn 29 [q31]),.q p33 (.fld q32 3),mq p5 q33]
 (sq [mq p34 q0,ks p35 (.fn 54 [q34]),mq p6 q35]
 (sq [mq p36 q0,ks p37 (.fn 56 [q36]),ls p7 (.alloc [o0,e0,o0,o0,e0,o0,.nils]),ln (.st q7 q37 7)]
 (.reg [mq p38 q4,mq p39 q5,mq p40 q6,.q p41 (.ldn q7 7),ls p42 (.bsl 1 [o0,e0,o0,o0,e0,o0,.nils] [(0,7,q41)]),ks p43 (.fn 57 [(ci 7),q39,q40,q42]),ls p44 (.bsl 1 [o0,e0,o0,o0,e0,o0,.nils] [(0,7,q43)]),ls p45 (.app 7 88 q38 q44),mq p4 q45])))))))))
 (sq [mq p46 q0,ks p47 (.fn 31 [q46,(.c (S [41]))])]
 (sq [ks p48 (.fn 89 []),ls p8 (.alloc [o0,e0,o0,o0,e0,o0,.nils]),ln (.st q8 q48 7)]
 (.seq (sq [mq p49 q0,.q p50 (.nck q49),fq p51 q50 2,lq p52 q51,.q p53 (.cmp .lt q52 (ci 0)),mq p54 q53,.g p54 true (mq p55 q0),.g p54 true (ks p56 (.fn 55 [q55,(.c (S [123]))])),.g p54 true (.q p57 (.not q56)),.q p58 (.pick q54 q57 (.c (.bool false)))]
 (.cond q58 (.reg [mq p59 q0,ks p60 (.fn 56 [q59]),ln (.st q8 q60 7)]) (.skip)))
 (sq [mq p61 q0,.q p62 (.nck q61),fq p63 q62 3,lq p64 q63,mq p9 q64]
 (sq [mq p65 q0,.q p66 (.nck q65),fq p67 q66 3,ln (.st q67 (.c (.bool false)) 1)]
 (sq [mq p68 q0,ks p69 (.fn 90 [q68]),ls p10 (.alloc [o0,e0,o0,o0,e0,o0,.nils]),ln (.st q10 q69 7)]
 (sq [mq p70 q0,mq p71 q9,.q p72 (.nck q70),fq p73 q72 3,ln (.st q73 q71 1)]
 (.seq (.regc [mq p74 q3,mq p75 q4,ks p76 (.fn 57 [(ci 6),q74,(.c e0),q75]),.qr p77 (.ldn q8 7) 0 1,.qr p78 (.ldn q10 7) 0 1,ls p79 (.bsl 3 [o0,e0,o0,o0,e0,o0,.nils,o0,e0,o0,o0,e0,o0,.nils,o0,e0,o0,o0,e0,o0,.nils] [(0,7,q76),(7,7,q77),(14,7,q78)]),mq p2 q79])
 (.ret))))))))))))))
def f59 : Fun := .code [.celln p2 7] (sq [ls p2 (.alloc [o0,e0,o0,o0,e0,o0,.nils])]
 (.seq (sq [mq p3 q0,.q p4 (.nck q3),fq p5 q4 2,lq p6 q5,.q p7 (.cmp .lt q6 (ci 0))]
 (.cond q7 (.reg [mq p8 q0,mq p9 q0,.q p10 (.nck q9),fq p11 q10 0,lq p12 q11,mq p13 q0,.q p14 (.nck q13),fq p15 q14 1,lq p16 q15,.q p17 (.ixl 4 q12 q16),fq p18 q17 3,lq p19 q18,.q p20 (.nck q8),fq p21 q20 2,ln (.st q21 q19 1)]) (.skip)))
 (sq [.q p22 (.build [o0,e0,o0,o0,e0,o0,.nils] []),ln (.st q2 q22 7)]
 (.ret))))
def f60 : Fun := .code [.t p2] (sq [ls p1 (.box q0),.q p2 (.mv (.c e0))]
 (sq [.q p3 (.mv (.c e0))]
 (.seq (sq [fq p6 q1 6,lq p7 q6,.q p8 (.len q7),.q p9 (.cmp .gt q8 (ci 0))]
 (.cond q9 (.reg [fq p10 q1 6,lq p11 q10,.q p12 (.ixl 7 q11 (ci 0)),.q p13 (.ldn q12 7),ks p14 (.fn 60 [q13]),mq p3 q14]) (.skip)))
 (.seq (sq [fq p15 q1 0,lq p16 q15]
 (.block 0 (sq [.q p18 (ef .num q16 (ci 9)),mq p17 q18]
 (.cond q17 (sq [.q p2 (.mv (.c (S [105,110,116])))]
 (.ret)) (sq [.q p20 (ef .num q16 (ci 10)),mq p19 q20]
 (.cond q19 (sq [.q p2 (.mv (.c (S [98,111,111,108])))]
 (.ret)) (sq [.q p22 (ef .num q16 (ci 11)),mq p21 q22]
 (.cond q21 (sq [.q p2 (.mv (.c (S [115,116,114,105,110,103])))]
 (.ret)) (sq [.q p24 (ef .num q16 (ci 12)),mq p23 q24]
 (.cond q23 (sq [fq p25 q1 1,lq p26 q25,.q p27 (.cat (.c (S [42])) q26),mq p2 q27]
 (.ret)) (sq [.q p29 (ef .num q16 (ci 13)),mq p28 q29]
 (.cond q28 (sq [mq p30 q3,.q p31 (.cat (.c (S [91,93])) q30),mq p2 q31]
 (.ret)) (sq [.q p33 (ef .num q16 (ci 14)),mq p32 q33]
 (.cond q32 (sq [mq p34 q3,.q p35 (.cat (.c (S [99,104,97,110,32])) q34),mq p2 q35]
 (.ret)) (sq [.q p37 (ef .num q16 (ci 15)),mq p36 q37]
 (.cond q36 (sq [.q p4 (.mv (.c (S [102,117,110,99,40])))]
 (.seq (sq [.q p5 (.mv (ci 0))]
 (.block 1 (.loop (.seq (sq [mq p38 q5,.q p39 (.ari .add q38 (ci 1)),fq p40 q1 6,lq p41 q40,.q p42 (.len q41),.q p43 (.cmp .lt q39 q42)]
 (.cond q43 (.skip) (.exit 1)))
 (.seq (.block 2 (.seq (sq [mq p46 q5,.q p47 (.cmp .gt q46 (ci 0))]
 (.cond q47 (.reg [mq p48 q4,.q p49 (.cat q48 (.c (S [44]))),mq p4 q49]) (.skip)))
 (.reg [mq p50 q4,fq p51 q1 6,lq p52 q51,mq p53 q5,.q p54 (.ixl 7 q52 q53),.q p55 (.ldn q54 7),ks p56 (.fn 60 [q55]),.q p57 (.cat q50 q56),mq p4 q57])))
 (.reg [mq p44 q5,.q p45 (.ari .add q44 (ci 1)),mq p5 q45]))))))
 (sq [mq p58 q4,.q p59 (.cat q58 (.c (S [41]))),mq p4 q59]
 (.seq (sq [fq p60 q1 6,lq p61 q60,.q p62 (.len q61),.q p63 (.cmp .gt q62 (ci 0))]
 (.cond q63 (.reg [mq p64 q4,fq p65 q1 6,lq p66 q65,fq p67 q1 6,lq p68 q67,.q p69 (.len q68),.q p70 (.ari .sub q69 (ci 1)),.q p71 (.ixl 7 q66 q70),.q p72 (.ldn q71 7),ks p73 (.fn 60 [q72]),.q p74 (.cat q64 q73),mq p4 q74]) (.skip)))
 (sq [mq p75 q4,mq p2 q75]
 (.ret)))))) (.skip)))))))))))))))))
 (sq [.q p2 (.mv (.c e0))]
 (.ret))))))
def f61 : Fun := .code [] (sq [ls p3 (.box q1)]
 (.seq (sq [fq p7 q3 0,lq p8 q7,.q p9 (ef .num q8 (ci 12))]
 (.cond q9 (sq [mq p11 q0,fq p12 q3 1,lq p13 q12,ks p14 (.fn 91 [q11,q13]),mq p10 q14,.q p15 (.ext q10 0),.q p16 (.ext q10 1),mq p4 q15,mq p5 q16]
 (.reg [mq p17 q0,mq p18 q5,ks p19 (.fn 32 [q17,q18])])) (.skip)))
 (.seq (sq [fq p20 q3 0,lq p21 q20,.q p22 (ef .num q21 (ci 15))]
 (.cond q22 (.reg [mq p23 q0,fq p24 q3 6,lq p25 q24,.q p26 (.len q25),.q p27 (.cmp .le q26 (ci 9)),ks p28 (.fn 32 [q23,q27])]) (.skip)))
 (sq [.q p6 (.mv (ci 0))]
 (.block 0 (.loop (.seq (sq [mq p29 q6,fq p30 q3 6,lq p31 q30,.q p32 (.len q31),.q p33 (.cmp .lt q29 q32)]
 (.cond q33 (.skip) (.exit 0)))
 (.seq (.block 1 (sq [fq p36 q3 6,lq p37 q36,mq p38 q6,.q p39 (.ixl 7 q37 q38),fq p40 q39 0,lq p41 q40,.q p42 (et .num q41 (ci 8))]
 (.cond q42 (.reg [mq p43 q0,fq p44 q3 6,lq p45 q44,mq p46 q6,.q p47 (.ixl 7 q45 q46),.q p48 (.ldn q47 7),ks p49 (.fn 61 [q43,q48])]) (.skip))))
 (.reg [mq p34 q6,.q p35 (.ari .add q34 (ci 1)),mq p6 q35])))))))))
def f62 : Fun := .code [] (.reg [mq p2 q0,.q p3 (.nck q2),fq p4 q3 5,lq p5 q4,.q p6 (.ari .add q5 (ci 1)),.q p7 (.nck q2),fq p8 q7 5,ln (.st q8 q6 1)])
def f63 : Fun := .code [.t p6] (sq [.q p6 (.mv (.c .nils))]
 (sq [.q p7 (.mv (.c .nils))]
 (.seq (sq [.q p8 (.mv (ci 0))]
 (.block 0 (.loop (.seq (sq [mq p10 q8,mq p11 q1,.q p12 (.len q11),.q p13 (.cmp .lt q10 q12),mq p14 q13,.g p14 true (mq p15 q0),.g p14 true (.q p16 (.nck q15)),.g p14 true (fq p17 q16 9),.g p14 true (lq p18 q17),.g p14 true (.q p19 (.not q18)),.q p20 (.pick q14 q19 (.c (.bool false)))]
 (.cond q20 (.skip) (.exit 0)))
 (.seq (.block 1 (.seq (sq [mq p23 q1,mq p24 q8,.q p25 (.ixl 7 q23 q24),fq p26 q25 0,lq p27 q26,.q p28 (ef .num q27 (ci 29))]
 (.cond q28 (.reg [mq p29 q0,mq p30 q2,mq p31 q30,.g p31 true (mq p32 q8),.g p31 true (.q p33 (.ari .add q32 (ci 1))),.g p31 true (mq p34 q1),.g p31 true (.q p35 (.len q34)),.g p31 true (.q p36 (.eq false false .num q33 q35)),.q p37 (.pick q31 q36 (.c (.bool false))),ks p38 (.fn 32 [q29,q37])]) (.skip)))
 (sq [mq p39 q0,mq p40 q1,mq p41 q8,.q p42 (.ixl 7 q40 q41),.q p43 (.ldn q42 7),ks p44 (.fn 92 [q39,q43,(.c e0)]),ls p9 (.alloc [o0,e0,o0,o0,e0,o0,.nils]),ln (.st q9 q44 7)]
 (.reg [mq p45 q7,.q p46 (.ldn q9 7),ls p47 (.bsl 1 [o0,e0,o0,o0,e0,o0,.nils] [(0,7,q46)]),ls p48 (.app 7 88 q45 q47),mq p7 q48]))))
 (.reg [mq p21 q8,.q p22 (.ari .add q21 (ci 1)),mq p8 q22]))))))
 (sq [mq p49 q7,mq p6 q49]
 (.ret)))))
def f64 : Fun := .code [.t p2] (sq [ls p1 (.box q0),.q p2 (.mv (.c (.bool false)))]
 (.seq (sq [fq p5 q1 0,lq p6 q5]
 (.block 0 (sq [.q p8 (ef .num q6 (ci 30)),mq p7 q8]
 (.cond q7 (sq [.q p2 (.mv (.c (.bool true)))]
 (.ret)) (sq [.q p10 (ef .num q6 (ci 34)),mq p9 q10]
 (.cond q9 (sq [fq p11 q1 6,lq p12 q11,.q p13 (.ixl 7 q12 (ci 0)),fq p14 q13 0,lq p15 q14,.q p16 (ef .num q15 (ci 44)),mq p17 q16,.g p17 true (fq p18 q1 6),.g p17 true (lq p19 q18),.g p17 true (.q p20 (.ixl 7 q19 (ci 0))),.g p17 true (fq p21 q20 1),.g p17 true (lq p22 q21),.g p17 true (.q p23 (ef .text q22 (.c (S [112,97,110,105,99])))),.q p24 (.pick q17 q23 (.c (.bool false))),mq p2 q24]
 (.ret)) (sq [.q p26 (ef .num q6 (ci 16)),mq p25 q26]
 (.cond q25 (sq [fq p27 q1 6,lq p28 q27,.q p29 (.len q28),.q p30 (.cmp .gt q29 (ci 0)),mq p31 q30,.g p31 true (fq p32 q1 6),.g p31 true (lq p33 q32),.g p31 true (fq p34 q1 6),.g p31 true (lq p35 q34),.g p31 true (.q p36 (.len q35)),.g p31 true (.q p37 (.ari .sub q36 (ci 1))),.g p31 true (.q p38 (.ixl 7 q33 q37)),.g p31 true (.q p39 (.ldn q38 7)),.g p31 true (ks p40 (.fn 64 [q39])),.q p41 (.pick q31 q40 (.c (.bool false))),mq p2 q41]
 (.ret)) (sq [.q p43 (ef .num q6 (ci 21)),mq p42 q43]
 (.cond q42 (sq [fq p44 q1 6,lq p45 q44,.q p46 (.ixl 7 q45 (ci 2)),fq p47 q46 0,lq p48 q47,.q p49 (et .num q48 (ci 8)),mq p50 q49,.g p50 true (fq p51 q1 6),.g p50 true (lq p52 q51),.g p50 true (.q p53 (.ixl 7 q52 (ci 1))),.g p50 true (.q p54 (.ldn q53 7)),.g p50 true (ks p55 (.fn 64 [q54])),.q p56 (.pick q50 q55 (.c (.bool false))),mq p57 q56,.g p57 true (fq p58 q1 6),.g p57 true (lq p59 q58),.g p57 true (.q p60 (.ixl 7 q59 (ci 2))),.g p57 true (.q p61 (.ldn q60 7)),.g p57 true (ks p62 (.fn 64 [q61])),.q p63 (.pick q57 q62 (.c (.bool false))),mq p2 q63]
 (.ret)) (sq [.q p65 (ef .num q6 (ci 35)),mq p64 q65]
 (.cond q64 (sq [fq p66 q1 6,lq p67 q66,.q p68 (.ixl 7 q67 (ci 0)),.q p69 (.ldn q68 7),ks p70 (.fn 64 [q69]),mq p71 q70,.g p71 true (fq p72 q1 6),.g p71 true (lq p73 q72),.g p71 true (.q p74 (.ixl 7 q73 (ci 0))),.g p71 true (.q p75 (.ldn q74 7)),.g p71 true (fq p76 q1 1),.g p71 true (lq p77 q76),.g p71 true (ks p78 (.fn 93 [q75,q77,(.c (.bool false))])),.g p71 true (.q p79 (.not q78)),.q p80 (.pick q71 q79 (.c (.bool false))),mq p2 q80]
 (.ret)) (sq [.q p82 (ef .num q6 (ci 22)),mq p81 q82]
 (.cond q81 (sq [fq p83 q1 6,lq p84 q83,.q p85 (.ixl 7 q84 (ci 1)),fq p86 q85 0,lq p87 q86,.q p88 (ef .num q87 (ci 8)),mq p89 q88,.g p89 true (fq p90 q1 6),.g p89 true (lq p91 q90),.g p89 true (.q p92 (.ixl 7 q91 (ci 3))),.g p89 true (.q p93 (.ldn q92 7)),.g p89 true (ks p94 (.fn 93 [q93,(.c e0),(.c (.bool true))])),.g p89 true (.q p95 (.not q94)),.q p96 (.pick q89 q95 (.c (.bool false))),mq p2 q96]
 (.ret)) (sq [.q p98 (ef .num q6 (ci 25)),mq p97 q98]
 (.cond q97 (sq [fq p99 q1 6,lq p100 q99,ks p101 (.fn 94 [q100]),mq p2 q101]
 (.ret)) (sq [.q p103 (ef .num q6 (ci 23)),mq p102 q103]
 (.cond q102 (sq [.q p3 (.mv (.c (.bool false)))]
 (.seq (sq [.q p4 (.mv (ci 1))]
 (.block 1 (.loop (.seq (sq [mq p104 q4,fq p105 q1 6,lq p106 q105,.q p107 (.len q106),.q p108 (.cmp .lt q104 q107)]
 (.cond q108 (.skip) (.exit 1)))
 (.seq (.block 2 (.reg [mq p111 q3,mq p112 q111,.g p112 false (fq p113 q1 6),.g p112 false (lq p114 q113),.g p112 false (mq p115 q4),.g p112 false (.q p116 (.ixl 7 q114 q115)),.g p112 false (fq p117 q116 1),.g p112 false (lq p118 q117),.g p112 false (.q p119 (ef .text q118 (.c (S [100,101,102,97,117,108,116])))),.q p120 (.pick q112 (.c (.bool true)) q119),mq p3 q120]))
 (.reg [mq p109 q4,.q p110 (.ari .add q109 (ci 1)),mq p4 q110]))))))
 (sq [mq p121 q3,mq p122 q121,.g p122 true (fq p123 q1 6),.g p122 true (lq p124 q123),.g p122 true (.q p125 (.sll 7 q124 (some (ci 1)) none none)),.g p122 true (ks p126 (.fn 94 [q125])),.q p127 (.pick q122 q126 (.c (.bool false))),mq p2 q127]
 (.ret)))) (.skip)))))))))))))))))))
 (sq [.q p2 (.mv (.c (.bool false)))]
 (.ret))))
def f65 : Fun := .code [] (sq [mq p3 q0,.q p4 (.nck q3),fq p5 q4 4,lq p6 q5,.q p7 (.len q6),mq p2 q7]
 (.seq (.block 0 (.loop (.seq (sq [mq p8 q2,.q p9 (.cmp .gt q8 (ci 0)),mq p10 q9,.g p10 true (mq p11 q0),.g p10 true (.q p12 (.nck q11)),.g p10 true (fq p13 q12 4),.g p10 true (lq p14 q13),.g p10 true (mq p15 q2),.g p10 true (.q p16 (.ari .sub q15 (ci 1))),.g p10 true (.q p17 (.ixl 3 q14 q16)),.g p10 true (fq p18 q17 2),.g p10 true (lq p19 q18),.g p10 true (mq p20 q0),.g p10 true (.q p21 (.nck q20)),.g p10 true (fq p22 q21 5),.g p10 true (lq p23 q22),.g p10 true (.q p24 (.eq false false .num q19 q23)),.q p25 (.pick q10 q24 (.c (.bool false)))]
 (.cond q25 (.skip) (.exit 0)))
 (.block 1 (.reg [mq p26 q2,.q p27 (.ari .sub q26 (ci 1)),mq p2 q27])))))
 (sq [mq p28 q0,mq p29 q0,.q p30 (.nck q29),fq p31 q30 4,lq p32 q31,mq p33 q2,.q p34 (.sll 3 q32 none (some q33) none),.q p35 (.nck q28),fq p36 q35 4,ln (.st q36 q34 1)]
 (.reg [mq p37 q0,.q p38 (.nck q37),fq p39 q38 5,lq p40 q39,.q p41 (.ari .sub q40 (ci 1)),.q p42 (.nck q37),fq p43 q42 5,ln (.st q43 q41 1)]))))
def f66 : Fun := .code [.t p2] (sq [.q p2 (.mv (.c .nils))]
 (.seq (sq [mq p3 q0,.q p4 (ef .slice q3 (.c .nils))]
 (.cond q4 (sq [.q p2 (.mv (.c .nils))]
 (.ret)) (.skip)))
 (sq [ls p5 (.bsl 0 [] []),mq p6 q0,ls p7 (.app 1 8 q5 q6),mq p2 q7]
 (.ret))))
def f67 : Fun := .code [.t p4] (sq [.q p4 (.mv (.c (.bool false)))]
 (.seq (sq [mq p6 q0,.q p7 (ef .iface q6 (.c .nili)),mq p8 q7,.g p8 false (mq p9 q1),.g p8 false (.q p10 (ef .iface q9 (.c .nili))),.q p11 (.pick q8 (.c (.bool true)) q10)]
 (.cond q11 (sq [mq p12 q0,mq p13 q1,.q p14 (.eq false false .iface q12 q13),mq p4 q14]
 (.ret)) (.skip)))
 (sq [mq p15 q1,ks p16 (.fn 95 [q15]),ks p17 (.inv q16 1 []),mq p5 q17]
 (sq [mq p18 q0,mq p19 q1,mq p20 q5,ks p21 (.fn 96 [q18,q19,q20]),mq p4 q21]
 (.ret)))))
def f68 : Fun := .code [.t p2] (sq [.q p2 (.mv (.c .nilp))]
 (sq [mq p4 q0,.q p5 (.nck q4),fq p6 q5 8,lq p7 q6,mq p8 q0,.q p9 (.nck q8),fq p10 q9 9,lq p11 q10,.q p12 (.ixl 1 q7 q11),lq p13 q12,mq p3 q13]
 (sq [mq p14 q3,.q p15 (.nck q14),fq p16 q15 0,lq p17 q16,mq p18 q3,.q p19 (.nck q18),fq p20 q19 0,lq p21 q20,.q p22 (.len q21),.q p23 (.ari .sub q22 (ci 1)),.q p24 (.ixl 1 q17 q23),lq p25 q24,mq p2 q25]
 (.ret))))
end Ds.Text
end
set_option maxRecDepth 100000
noncomputable section
namespace Ds.Text
open Ds
def f69 : Fun := .code [] (sq [mq p5 q0,ks p6 (.fn 68 [q5]),mq p4 q6]
 (.reg [mq p7 q4,mq p8 q4,mq p9 q4,mq p10 q4,mq p11 q4,mq p12 q1,mq p13 q0,.q p14 (.nck q13),fq p15 q14 5,lq p16 q15,ks p17 (.inv q16 0 [(ci 0)]),.q p18 (.nck q7),fq p19 q18 6,ln (.st q19 (.c (.bool true)) 1),.q p20 (.nck q8),fq p21 q20 7,ln (.st q21 q12 1),.q p22 (.nck q9),fq p23 q22 8,ln (.st q23 (.c (.bool true)) 1),.q p24 (.nck q10),fq p25 q24 9,ln (.st q25 q17 8),.q p26 (.nck q11),fq p27 q26 17,ln (.st q27 (.c (.bool false)) 1)]))
def f70 : Fun := .code [] (.seq (sq [mq p9 q2,.q p10 (.nck q9),fq p11 q10 4,lq p12 q11,.q p13 (.len q12),mq p6 q13]
 (sq [mq p14 q6,.q p15 (.cmp .gt q14 (ci 0))]
 (.cond q15 (sq [mq p16 q2,.q p17 (.nck q16),fq p18 q17 4,lq p19 q18,mq p20 q6,.q p21 (.ari .sub q20 (ci 1)),.q p22 (.ixl 10 q19 q21),.q p23 (.ldn q22 10),ls p7 (.alloc [o0,e0,.nilp,o0,o0,o0,.nilp,.nilp,.nils,.nils]),ln (.st q7 q23 10)]
 (sq [mq p24 q2,mq p25 q2,.q p26 (.nck q25),fq p27 q26 4,lq p28 q27,mq p29 q6,.q p30 (.ari .sub q29 (ci 1)),.q p31 (.sll 10 q28 none (some q30) none),.q p32 (.nck q24),fq p33 q32 4,ln (.st q33 q31 1)]
 (.seq (sq [mq p34 q0,fq p35 q7 0,.q p36 (.ldn q35 8),fq p37 q7 9,lq p38 q37,ks p39 (.fn 97 [q34,q36,q38,(.c (.int .i64 (.lit (.negSucc 0))))]),mq p8 q39]
 (sq [mq p40 q8,.q p41 (et .ptr q40 (.c .nilp))]
 (.cond q41 (.reg [mq p42 q8,.q p43 (.nck q42),fq p44 q43 5,ln (.st q44 (.c (.bool true)) 1)]) (.skip))))
 (.ret)))) (.skip))))
 (sq [mq p45 q1,mq p46 q1,.q p47 (.nck q46),fq p48 q47 0,lq p49 q48,mq p50 q1,.q p51 (.nck q50),fq p52 q51 0,lq p53 q52,.q p54 (.len q53),.q p55 (.ari .sub q54 (ci 1)),.q p56 (.sll 1 q49 none (some q55) none),.q p57 (.nck q45),fq p58 q57 0,ln (.st q58 q56 1)]
 (.block 0 (sq [mq p60 q1,.q p61 (.nck q60),fq p62 q61 0,lq p63 q62,.q p64 (.len q63),.q p65 (ef .num q64 (ci 0)),mq p59 q65]
 (.cond q59 (.reg [mq p66 q0,mq p67 q1,mq p68 q2,ks p69 (.fn 98 [q66,q67,q68])]) (sq [mq p71 q2,.q p72 (.nck q71),fq p73 q72 6,lq p74 q73,mq p70 q74]
 (.cond q70 (.reg [mq p75 q0,mq p76 q2,.q p77 (.nck q76),fq p78 q77 7,lq p79 q78,ks p80 (.fn 69 [q75,q79])]) (sq [mq p82 q2,.q p83 (.nck q82),fq p84 q83 3,lq p85 q84,.q p86 (.cmp .ge q85 (ci 0)),mq p81 q86]
 (.cond q81 (.regc [mq p87 q0,ks p88 (.fn 68 [q87]),.q p89 (.nck q88),fq p90 q89 2,lq p91 q90,mq p92 q2,.q p93 (.nck q92),fq p94 q93 3,.qr p95 (.ld q94) 0 1,mq p96 q2,.q p97 (.nck q96),fq p98 q97 9,.qr p99 (.ldn q98 8) 0 1,.q p100 (.ixl 8 q91 q95),ln (.st q100 q99 8)]) (.skip))))))))))
def f71 : Fun := .code [] (sq [ls p5 (.box q2)]
 (sq [mq p7 q0,.q p8 (.nck q7),fq p9 q8 5,lq p10 q9,mq p6 q10]
 (sq [fq p11 q5 0,lq p12 q11]
 (.block 0 (sq [.q p18 (ef .num q12 (ci 1)),mq p17 q18]
 (.cond q17 (.regc [mq p19 q1,.q p20 (.nck q19),fq p21 q20 2,.qr p22 (.ld q21) 0 1,fq p23 q5 1,.qr p24 (.ld q23) 0 1,mq p25 q6,fq p26 q5 2,lq p27 q26,ks p28 (.inv q25 0 [q27]),.q p29 (.ixl 8 q22 q24),ln (.st q29 q28 8)]) (sq [.q p31 (ef .num q12 (ci 2)),mq p30 q31]
 (.cond q30 (.regc [mq p32 q1,.q p33 (.nck q32),fq p34 q33 2,.qr p35 (.ld q34) 0 1,fq p36 q5 1,.qr p37 (.ld q36) 0 1,mq p38 q6,fq p39 q5 2,lq p40 q39,ks p41 (.inv q38 2 [q40]),.q p42 (.ixl 8 q35 q37),ln (.st q42 q41 8)]) (sq [.q p44 (ef .num q12 (ci 3)),mq p43 q44]
 (.cond q43 (.regc [mq p45 q1,.q p46 (.nck q45),fq p47 q46 2,.qr p48 (.ld q47) 0 1,fq p49 q5 1,.qr p50 (.ld q49) 0 1,mq p51 q6,fq p52 q5 2,lq p53 q52,ks p54 (.inv q51 3 [q53]),.q p55 (.ixl 8 q48 q50),ln (.st q55 q54 8)]) (sq [.q p57 (ef .num q12 (ci 4)),mq p56 q57]
 (.cond q56 (.regc [mq p58 q1,.q p59 (.nck q58),fq p60 q59 2,.qr p61 (.ld q60) 0 2,fq p62 q5 1,.qr p63 (.ld q62) 0 2,mq p64 q6,fq p65 q5 2,.qr p66 (.ld q65) 0 1,mq p67 q1,fq p68 q5 5,lq p69 q68,ks p70 (.fn 99 [q67,q69]),.q p71 (.mkm 4 q64),.q p72 (.nck q71),mq p73 q64,ks p74 (.inv q73 4 [q66,q70]),.q p75 (.ixl 8 q61 q63),ln (.st q75 q74 8)]) (sq [.q p77 (ef .num q12 (ci 5)),mq p76 q77]
 (.cond q76 (.reg [mq p78 q1,.q p79 (.nck q78),fq p80 q79 2,lq p81 q80,fq p82 q5 1,lq p83 q82,mq p84 q1,.q p85 (.nck q84),fq p86 q85 2,lq p87 q86,fq p88 q5 2,lq p89 q88,.q p90 (.ixl 8 q87 q89),.q p91 (.ldn q90 8),.q p92 (.ixl 8 q81 q83),ln (.st q92 q91 8)]) (sq [.q p94 (ef .num q12 (ci 6)),mq p93 q94]
 (.cond q93 (.reg [mq p95 q1,.q p96 (.nck q95),fq p97 q96 2,lq p98 q97,fq p99 q5 1,lq p100 q99,mq p101 q0,.q p102 (.nck q101),fq p103 q102 7,lq p104 q103,fq p105 q5 2,lq p106 q105,.q p107 (.ixl 8 q104 q106),.q p108 (.ldn q107 8),.q p109 (.ixl 8 q98 q100),ln (.st q109 q108 8)]) (sq [.q p111 (ef .num q12 (ci 7)),mq p110 q111]
 (.cond q110 (.reg [mq p112 q0,.q p113 (.nck q112),fq p114 q113 7,lq p115 q114,fq p116 q5 1,lq p117 q116,mq p118 q1,.q p119 (.nck q118),fq p120 q119 2,lq p121 q120,fq p122 q5 2,lq p123 q122,.q p124 (.ixl 8 q121 q123),.q p125 (.ldn q124 8),.q p126 (.ixl 8 q115 q117),ln (.st q126 q125 8)]) (sq [.q p128 (ef .num q12 (ci 8)),mq p127 q128]
 (.cond q127 (.regc [mq p129 q1,.q p130 (.nck q129),fq p131 q130 2,.qr p132 (.ld q131) 0 2,fq p133 q5 1,.qr p134 (.ld q133) 0 2,mq p135 q6,mq p136 q1,.q p137 (.nck q136),fq p138 q137 2,.qr p139 (.ld q138) 0 1,fq p140 q5 2,.qr p141 (.ld q140) 0 1,.q p142 (.ixl 8 q139 q141),.qr p143 (.ldn q142 8) 0 1,mq p144 q0,.q p145 (.nck q144),fq p146 q145 0,fq p147 q146 3,lq p148 q147,mq p149 q1,.q p150 (.nck q149),fq p151 q150 0,lq p152 q151,.q p153 (.ari .sub q152 (ci 1)),.q p154 (.ixl 6 q148 q153),.q p155 (.ldn q154 6),fq p156 q5 2,lq p157 q156,ks p158 (.fn 100 [q155,q157]),.q p159 (.mkm 5 q135),.q p160 (.nck q159),mq p161 q135,ks p162 (.inv q161 5 [q143,q158]),.q p163 (.ixl 8 q132 q134),ln (.st q163 q162 8)]) (sq [.q p165 (ef .num q12 (ci 9)),mq p164 q165]
 (.cond q164 (.regc [mq p166 q1,.q p167 (.nck q166),fq p168 q167 2,.qr p169 (.ld q168) 0 1,fq p170 q5 1,.qr p171 (.ld q170) 0 1,mq p172 q6,mq p173 q1,.q p174 (.nck q173),fq p175 q174 2,lq p176 q175,fq p177 q5 2,lq p178 q177,.q p179 (.ixl 8 q176 q178),.q p180 (.ldn q179 8),.q p181 (.mkm 6 q172),.q p182 (.nck q181),mq p183 q172,ks p184 (.inv q183 6 [q180]),.q p185 (.ixl 8 q169 q171),ln (.st q185 q184 8)]) (sq [.q p187 (ef .num q12 (ci 10)),mq p186 q187]
 (.cond q186 (.reg [mq p188 q6,mq p189 q1,.q p190 (.nck q189),fq p191 q190 2,lq p192 q191,fq p193 q5 1,lq p194 q193,.q p195 (.ixl 8 q192 q194),.q p196 (.ldn q195 8),mq p197 q1,.q p198 (.nck q197),fq p199 q198 2,lq p200 q199,fq p201 q5 2,lq p202 q201,.q p203 (.ixl 8 q200 q202),.q p204 (.ldn q203 8),.q p205 (.mkm 7 q188),.q p206 (.nck q205),mq p207 q188,ks p208 (.inv q207 7 [q196,q204])]) (sq [.q p210 (ef .num q12 (ci 26)),mq p209 q210]
 (.cond q209 (.reg [mq p211 q1,fq p212 q5 1,lq p213 q212,.q p214 (.nck q211),fq p215 q214 1,ln (.st q215 q213 1)]) (sq [.q p217 (ef .num q12 (ci 27)),mq p216 q217]
 (.cond q216 (sq [mq p218 q6,mq p219 q1,.q p220 (.nck q219),fq p221 q220 2,lq p222 q221,fq p223 q5 2,lq p224 q223,.q p225 (.ixl 8 q222 q224),.q p226 (.ldn q225 8),.q p227 (.mkm 8 q218),.q p228 (.nck q227),mq p229 q218,ks p230 (.inv q229 8 [q226]),.q p231 (ef .num q230 (ci 0))]
 (.cond q231 (.reg [mq p232 q1,fq p233 q5 1,lq p234 q233,.q p235 (.nck q232),fq p236 q235 1,ln (.st q236 q234 1)]) (.skip))) (sq [.q p238 (ef .num q12 (ci 48)),mq p237 q238]
 (.cond q237 (sq [mq p239 q1,.q p240 (.nck q239),fq p241 q240 8,ln (.st q241 (.c (.bool true)) 1)]
 (sq [fq p242 q5 1,lq p243 q242,.q p244 (.cmp .ge q243 (ci 0))]
 (.cond q244 (.regc [mq p245 q1,mq p246 q1,mq p247 q1,.q p248 (.nck q247),fq p249 q248 2,.qr p250 (.ld q249) 0 1,fq p251 q5 1,.qr p252 (.ld q251) 0 1,.q p253 (.ixl 8 q250 q252),.qr p254 (.ldn q253 8) 0 1,mq p255 q0,.q p256 (.nck q255),fq p257 q256 0,fq p258 q257 3,lq p259 q258,mq p260 q1,.q p261 (.nck q260),fq p262 q261 0,lq p263 q262,.q p264 (.ari .sub q263 (ci 1)),.q p265 (.ixl 6 q259 q264),.q p266 (.ldn q265 6),fq p267 q5 1,lq p268 q267,ks p269 (.fn 100 [q266,q268]),.q p270 (.nck q245),fq p271 q270 9,ln (.st q271 q254 8),.q p272 (.nck q246),fq p273 q272 17,ln (.st q273 q269 1)]) (.skip)))) (sq [.q p275 (ef .num q12 (ci 56)),mq p274 q275]
 (.cond q274 (sq [mq p276 q0,.q p277 (.nck q276),fq p278 q277 14,lq p279 q278,.q p280 (.ari .add q279 (ci 1)),.q p281 (.nck q276),fq p282 q281 14,ln (.st q282 q280 1)]
 (.seq (sq [mq p283 q0,.q p284 (.nck q283),fq p285 q284 15,lq p286 q285,.q p287 (et .func q286 (.c .nilf))]
 (.cond q287 (.reg [mq p288 q0,.q p289 (.nck q288),fq p290 q289 15,lq p291 q290,mq p292 q0,.q p293 (.nck q292),fq p294 q293 14,lq p295 q294,ks p296 (.fv q291 [q295])]) (.skip)))
 (.reg [mq p297 q0,mq p298 q0,.q p299 (.nck q298),fq p300 q299 6,lq p301 q300,mq p302 q0,.q p303 (.nck q302),fq p304 q303 9,lq p305 q304,ks p306 (.fn 101 [q301,q305]),.q p307 (.nck q297),fq p308 q307 9,ln (.st q308 q306 1)]))) (sq [.q p310 (ef .num q12 (ci 53)),mq p309 q310]
 (.cond q309 (.reg [mq p311 q0,mq p312 q1,.q p313 (.nck q312),fq p314 q313 2,lq p315 q314,fq p316 q5 1,lq p317 q316,.q p318 (.ixl 8 q315 q317),.q p319 (.ldn q318 8),fq p320 q5 2,lq p321 q320,ks p322 (.fn 102 [q311,q319,q321])]) (.reg [mq p13 q0,mq p14 q1,.q p15 (.ldn q5 6),ks p16 (.fn 103 [q13,q14,q15])])))))))))))))))))))))))))))))))))))
def f72 : Fun := .code [.t p2] (sq [.q p2 (.mv (.c (.bool false)))]
 (sq [mq p7 q0,ks p8 (.fn 76 [q7]),mq p6 q8,.q p9 (.ext q6 0),.q p10 (.ext q6 1),.q p11 (.ext q6 2),mq p3 q9,mq p4 q10,mq p5 q11]
 (sq [mq p12 q3,.q p13 (.cmp .gt q12 (ci 0)),mq p14 q13,.g p14 true (mq p15 q3),.g p14 true (mq p16 q0),.g p14 true (.q p17 (.lens q16)),.g p14 true (.q p18 (.eq false false .num q15 q17)),.q p19 (.pick q14 q18 (.c (.bool false))),mq p2 q19]
 (.ret))))
def f73 : Fun := .code [.t p4] (sq [.q p4 (.mv (.c (.bool false)))]
 (sq [mq p5 q0,mq p6 q1,ks p7 (.fn 104 [q5,q6]),.q p8 (.cmp .ge q7 (ci 0)),mq p4 q8]
 (.ret)))
def f74 : Fun := .code [.t p3] (sq [.q p3 (.mv (.c (.bool false)))]
 (sq [lq p4 q1,mq p5 q0,ks p6 (.fn 75 [q4,q5]),mq p3 q6]
 (.ret)))
def f75 : Fun := .code [.t p4] (.seq (.reg [.q p4 (.mv (.c (.bool false)))])
 (.seq (.reg [.q p5 (.mv q0),.q p6 (.mv q1),.k (some p7) (.fn 105 [q5,q6]),.q p4 (.mv q7)])
 (.ret)))
def f76 : Fun := .code [.t p2,.t p3,.t p4] (sq [.q p2 (.mv (ci 0)),.q p3 (.mv (.c .nils)),.q p4 (.mv (.c e0))]
 (.seq (sq [.q p12 (.build [e0,e0,e0] [(0,1,(.c (S [105,110,116]))),(1,1,(.c (S [98,111,111,108]))),(2,1,(.c (S [115,116,114,105,110,103])))]),.q p13 (.mv (ci 0))]
 (.block 0 (.loop (sq [.q p14 (.cmp .lt q13 (ci 3))]
 (.seq (.cond q14 (.skip) (.exit 0))
 (.seq (.block 1 (sq [.q p15 (.ixv 3 q12 q13),mq p6 q15]
 (sq [mq p16 q0,mq p17 q6,ks p18 (.fn 75 [q16,q17])]
 (.cond q18 (sq [mq p19 q6,.q p20 (.lens q19),mq p2 q20,.q p3 (.mv (.c .nils)),.q p4 (.mv (.c e0))]
 (.ret)) (.skip)))))
 (.reg [.q p21 (.ari .add q13 (ci 1)),mq p13 q21])))))))
 (.seq (.block 2 (sq [mq p23 q0,ks p24 (.fn 75 [q23,(.c (S [42]))]),mq p22 q24]
 (.cond q22 (sq [mq p25 q0,.q p26 (.sls q25 (some (ci 1)) none),ks p27 (.fn 106 [q26]),mq p7 q27]
 (sq [mq p28 q7,.q p29 (.cmp .gt q28 (ci 0))]
 (.cond q29 (sq [mq p30 q7,.q p31 (.ari .add (ci 1) q30),mq p2 q31,.q p3 (.mv (.c .nils)),.q p4 (.mv (.c e0))]
 (.ret)) (.skip)))) (.seq (sq [mq p33 q0,ks p34 (.fn 75 [q33,(.c (S [91,93]))]),mq p32 q34]
 (.cond q32 (.skip) (.reg [mq p35 q0,ks p36 (.fn 75 [q35,(.c (S [99,104,97,110,32]))]),mq p32 q36])))
 (.cond q32 (sq [.q p8 (.mv (ci 2))]
 (.seq (sq [mq p37 q0,.q p38 (.ixs q37 (ci 0)),.q p39 (ef .num q38 (.c (B 99)))]
 (.cond q39 (.reg [.q p8 (.mv (ci 5))]) (.skip)))
 (sq [mq p41 q0,mq p42 q8,.q p43 (.sls q41 (some q42) none),ks p44 (.fn 76 [q43]),mq p40 q44,.q p45 (.ext q40 0),.q p46 (.ext q40 1),.q p47 (.ext q40 2),mq p9 q45,mq p10 q46,mq p11 q47]
 (sq [mq p48 q9,.q p49 (.cmp .gt q48 (ci 0))]
 (.cond q49 (sq [mq p50 q8,mq p51 q9,.q p52 (.ari .add q50 q51),mq p2 q52,.q p3 (.mv (.c .nils)),.q p4 (.mv (.c e0))]
 (.ret)) (.skip)))))) (sq [mq p54 q0,ks p55 (.fn 75 [q54,(.c (S [102,117,110,99,40]))]),mq p53 q55]
 (.cond q53 (sq [mq p56 q0,ks p57 (.fn 107 [q56]),.q p58 (.ext q57 0),.q p59 (.ext q57 1),.q p60 (.ext q57 2),mq p2 q58,mq p3 q59,mq p4 q60]
 (.ret)) (.skip))))))))
 (sq [.q p2 (.mv (ci 0)),.q p3 (.mv (.c .nils)),.q p4 (.mv (.c e0))]
 (.ret)))))
def f77 : Fun := .code [] (sq [fq p6 q1 1,lq p7 q6,mq p8 q0,.q p9 (.ari .sub q8 (ci 1)),.q p10 (.ixl 4 q7 q9),.q p11 (.ldn q10 4),ls p5 (.alloc [e0,e0,o0,(.bool false)]),ln (.st q5 q11 4)]
 (sq [fq p12 q5 2,lq p13 q12,.q p14 (et .num q13 (ci 0)),mq p15 q14,.g p15 true (fq p16 q5 2),.g p15 true (lq p17 q16),.g p15 true (lq p18 q2),.g p15 true (.q p19 (.eq true false .num q17 q18)),.q p20 (.pick q15 q19 (.c (.bool false))),mq p21 q20,.g p21 true (lq p22 q3),.g p21 true (mq p23 q0),.g p21 true (ks p24 (.fn 78 [q22,q23])),.g p21 true (.q p25 (.not q24)),.q p26 (.pick q21 q25 (.c (.bool false)))]
 (.cond q26 (.reg [lq p27 q3,mq p28 q0,ls p29 (.bsl 1 [o0] [(0,1,q28)]),ls p30 (.app 1 8 q27 q29),ln (.st q3 q30 1)]) (.skip))))
def f78 : Fun := .code [.t p4] (sq [.q p4 (.mv (.c (.bool false)))]
 (sq [mq p5 q0,mq p6 q1,ks p7 (.fn 108 [q5,q6]),.q p8 (.cmp .ge q7 (ci 0)),mq p4 q8]
 (.ret)))
def f79 : Fun := .code [] (sq [ls p4 (.box q0)]
 (.seq (.block 0 (sq [fq p10 q4 0,lq p11 q10,.q p12 (ef .num q11 (ci 40)),mq p13 q12,.g p13 true (fq p14 q4 5),.g p13 true (lq p15 q14),.g p13 true (.q p16 (.cmp .gt q15 (ci 0))),.q p17 (.pick q13 q16 (.c (.bool false))),mq p9 q17]
 (.cond q9 (.reg [lq p18 q1,fq p19 q4 5,lq p20 q19,ks p21 (.fv q18 [q20])]) (sq [fq p23 q4 0,lq p24 q23,.q p25 (ef .num q24 (ci 48)),mq p22 q25]
 (.cond q22 (sq [.q p26 (.ldn q2 4),fq p27 q4 5,lq p28 q27,ks p29 (.fn 47 [q26,q28]),.q p30 (.len q29),.q p31 (.mv (ci 0))]
 (.block 1 (.loop (sq [.q p32 (.cmp .lt q31 q30)]
 (.seq (.cond q32 (.skip) (.exit 1))
 (.seq (.block 2 (sq [.q p33 (.ixl 1 q29 q31),lq p34 q33,mq p6 q34]
 (.reg [lq p35 q1,mq p36 q6,ks p37 (.fv q35 [q36])])))
 (.reg [.q p38 (.ari .add q31 (ci 1)),mq p31 q38]))))))) (.skip))))))
 (sq [fq p39 q4 6,lq p40 q39,.q p41 (.len q40),.q p42 (.mv (ci 0))]
 (.block 3 (.loop (sq [.q p43 (.cmp .lt q42 q41)]
 (.seq (.cond q43 (.skip) (.exit 3))
 (.seq (.block 4 (sq [.q p44 (.ixl 7 q40 q42),.q p45 (.ldn q44 7),ls p8 (.alloc [o0,e0,o0,o0,e0,o0,.nils]),ln (.st q8 q45 7)]
 (.reg [lq p46 q3,.q p47 (.ldn q8 7),ks p48 (.fv q46 [q47])])))
 (.reg [.q p49 (.ari .add q42 (ci 1)),mq p42 q49])))))))))
def f80 : Fun := .code [] (sq [mq p3 q0,.q p4 (.len q3),mq p2 q4]
 (.reg [mq p5 q0,mq p6 q2,mq p7 q2,.q p8 (.conv .u64 q7),ks p9 (.fn 110 [q8]),ks p10 (.fn 109 [q5,(ci 0),q6,q9])]))
def f81 : Fun := .code [] (sq [ls p3 (.box q1)]
 (sq [fq p7 q3 0,lq p8 q7]
 (.block 0 (sq [.q p13 (ef .num q8 (ci 16)),mq p12 q13]
 (.cond q12 (.reg [mq p14 q0,.q p15 (.ldn q3 7),ks p16 (.fn 49 [q14,q15])]) (sq [.q p18 (ef .num q8 (ci 17)),mq p17 q18]
 (.cond q17 (.regc [mq p19 q0,fq p20 q3 5,.qr p21 (.ld q20) 0 1,mq p22 q0,fq p23 q3 6,lq p24 q23,.q p25 (.ixl 7 q24 (ci 0)),.q p26 (.ldn q25 7),ks p27 (.fn 112 [q22,q26]),ks p28 (.fn 111 [q19,q21,q27])]) (sq [.q p30 (ef .num q8 (ci 18)),mq p29 q30]
 (.cond q29 (sq [fq p31 q3 6,lq p32 q31,.q p33 (.ixl 7 q32 (ci 1)),fq p34 q33 0,lq p35 q34,.q p36 (ef .num q35 (ci 8))]
 (.cond q36 (sq [mq p37 q0,mq p38 q0,.q p39 (.nck q38),fq p40 q39 0,fq p41 q40 1,lq p42 q41,fq p43 q3 5,lq p44 q43,.q p45 (.ari .sub q44 (ci 1)),.q p46 (.ixl 4 q42 q45),fq p47 q46 1,lq p48 q47,ks p49 (.fn 46 [q37,q48]),mq p4 q49]
 (sq [mq p50 q0,mq p51 q4,.q p52 (.build [o0,o0,o0,o0,o0,.nils] [(0,1,(ci 1)),(1,1,q51)]),ks p53 (.fn 48 [q50,q52])]
 (.reg [mq p54 q0,fq p55 q3 5,lq p56 q55,mq p57 q4,ks p58 (.fn 111 [q54,q56,q57])]))) (.regc [mq p59 q0,fq p60 q3 5,.qr p61 (.ld q60) 0 1,mq p62 q0,fq p63 q3 6,lq p64 q63,.q p65 (.ixl 7 q64 (ci 1)),.q p66 (.ldn q65 7),ks p67 (.fn 112 [q62,q66]),ks p68 (.fn 111 [q59,q61,q67])]))) (.seq (sq [.q p70 (ef .num q8 (ci 19)),mq p69 q70]
 (.cond q69 (.skip) (.reg [.q p71 (ef .num q8 (ci 20)),mq p69 q71])))
 (.cond q69 (.reg [mq p72 q0,.q p73 (.ldn q3 7),ks p74 (.fn 113 [q72,q73])]) (sq [.q p76 (ef .num q8 (ci 21)),mq p75 q76]
 (.cond q75 (sq [mq p77 q0,mq p78 q0,fq p79 q3 6,lq p80 q79,.q p81 (.ixl 7 q80 (ci 0)),.q p82 (.ldn q81 7),ks p83 (.fn 112 [q78,q82]),.q p84 (.build [o0,o0,o0,o0,o0,.nils] [(0,1,(ci 27)),(2,1,q83)]),ks p85 (.fn 48 [q77,q84]),mq p5 q85]
 (sq [mq p86 q0,fq p87 q3 6,lq p88 q87,.q p89 (.ixl 7 q88 (ci 1)),.q p90 (.ldn q89 7),ks p91 (.fn 49 [q86,q90])]
 (.seq (sq [fq p92 q3 6,lq p93 q92,.q p94 (.ixl 7 q93 (ci 2)),fq p95 q94 0,lq p96 q95,.q p97 (ef .num q96 (ci 8))]
 (.cond q97 (sq [mq p98 q0,mq p99 q5,ls p100 (.bsl 1 [o0] [(0,1,q99)]),mq p101 q0,ks p102 (.fn 115 [q101]),ks p103 (.fn 114 [q98,q100,q102])]
 (.ret)) (.skip)))
 (sq [mq p104 q0,.q p105 (.build [o0,o0,o0,o0,o0,.nils] [(0,1,(ci 26))]),ks p106 (.fn 48 [q104,q105]),mq p6 q106]
 (sq [mq p107 q0,mq p108 q5,ls p109 (.bsl 1 [o0] [(0,1,q108)]),mq p110 q0,ks p111 (.fn 115 [q110]),ks p112 (.fn 114 [q107,q109,q111])]
 (sq [mq p113 q0,fq p114 q3 6,lq p115 q114,.q p116 (.ixl 7 q115 (ci 2)),.q p117 (.ldn q116 7),ks p118 (.fn 81 [q113,q117])]
 (.reg [mq p119 q0,mq p120 q6,ls p121 (.bsl 1 [o0] [(0,1,q120)]),mq p122 q0,ks p123 (.fn 115 [q122]),ks p124 (.fn 114 [q119,q121,q123])]))))))) (sq [.q p126 (ef .num q8 (ci 35)),mq p125 q126]
 (.cond q125 (sq [mq p127 q0,fq p128 q3 1,lq p129 q128,.q p130 (.nck q127),fq p131 q130 10,ln (.st q131 q129 1)]
 (.reg [mq p132 q0,fq p133 q3 6,lq p134 q133,.q p135 (.ixl 7 q134 (ci 0)),.q p136 (.ldn q135 7),ks p137 (.fn 81 [q132,q136])])) (sq [.q p139 (ef .num q8 (ci 22)),mq p138 q139]
 (.cond q138 (.reg [mq p140 q0,.q p141 (.ldn q3 7),ks p142 (.fn 116 [q140,q141])]) (sq [.q p144 (ef .num q8 (ci 23)),mq p143 q144]
 (.cond q143 (.reg [mq p145 q0,.q p146 (.ldn q3 7),ks p147 (.fn 117 [q145,q146])]) (sq [.q p149 (ef .num q8 (ci 25)),mq p148 q149]
 (.cond q148 (.reg [mq p150 q0,.q p151 (.ldn q3 7),ks p152 (.fn 118 [q150,q151])]) (.reg [mq p9 q0,.q p10 (.ldn q3 7),ks p11 (.fn 119 [q9,q10])]))))))))))))))))))))))
def f82 : Fun := .code [.t p2] (.seq (.reg [.q p2 (.mv (.c (.bool false)))])
 (.seq (.reg [.q p3 (.mv q0),.q p4 (.cmp .ge q3 (.c (B 97))),.q p5 (.mv q4),.g p5 true (.q p6 (.mv q0)),.g p5 true (.q p7 (.cmp .le q6 (.c (B 122)))),.q p8 (.pick q5 q7 (.c (.bool false))),.q p9 (.mv q8),.g p9 false (.q p10 (.mv q0)),.g p9 false (.q p11 (.cmp .ge q10 (.c (B 65)))),.g p9 false (.q p12 (.mv q11)),.g p12 true (.q p13 (.mv q0)),.g p12 true (.q p14 (.cmp .le q13 (.c (B 90)))),.g p9 false (.q p15 (.pick q12 q14 (.c (.bool false)))),.q p16 (.pick q9 (.c (.bool true)) q15),.q p17 (.mv q16),.g p17 false (.q p18 (.mv q0)),.g p17 false (.q p19 (.eq false true .num q18 (.c (B 95)))),.q p20 (.pick q17 (.c (.bool true)) q19),.q p2 (.mv q20)])
 (.ret)))
def f83 : Fun := .code [.t p4] (sq [.q p4 (.mv (ci 0))]
 (.seq (.block 0 (.loop (.seq (sq [mq p5 q1,mq p6 q0,.q p7 (.lens q6),.q p8 (.cmp .lt q5 q7),mq p9 q8,.g p9 true (mq p10 q0),.g p9 true (mq p11 q1),.g p9 true (.q p12 (.ixs q10 q11)),.g p9 true (ks p13 (.fn 82 [q12])),.g p9 true (mq p14 q13),.g p14 false (mq p15 q0),.g p14 false (mq p16 q1),.g p14 false (.q p17 (.ixs q15 q16)),.g p14 false (ks p18 (.fn 84 [q17])),.g p9 true (.q p19 (.pick q14 (.c (.bool true)) q18)),.q p20 (.pick q9 q19 (.c (.bool false)))]
 (.cond q20 (.skip) (.exit 0)))
 (.block 1 (.reg [mq p21 q1,.q p22 (.ari .add q21 (ci 1)),mq p1 q22])))))
 (sq [mq p23 q1,mq p4 q23]
 (.ret))))
def f84 : Fun := .code [.t p2] (.seq (.reg [.q p2 (.mv (.c (.bool false)))])
 (.seq (.reg [.q p3 (.mv q0),.q p4 (.cmp .ge q3 (.c (B 48))),.q p5 (.mv q4),.g p5 true (.q p6 (.mv q0)),.g p5 true (.q p7 (.cmp .le q6 (.c (B 57)))),.q p8 (.pick q5 q7 (.c (.bool false))),.q p2 (.mv q8)])
 (.ret)))
def f85 : Fun := .code [.celln p4 4,.t p5,.t p6] (.seq (.reg [.l (some p4) (.alloc [(I 0),(S []),(I 0),(I 0)]),.q p5 (.mv (.c (I 0))),.q p6 (.mv (.c (I 0)))])
 (.seq (.reg [.q p9 (.mv q1),.q p7 (.mv q9)])
 (.seq (.reg [.q p8 (.mv (.c (I 0)))])
 (.seq (.block 0 (.loop (.seq (.seq (.reg [.q p10 (.mv q7),.q p11 (.mv q0),.q p12 (.lens q11),.q p13 (.cmp .lt q10 q12),.q p14 (.mv q13),.g p14 true (.q p15 (.mv q0)),.g p14 true (.q p16 (.mv q7)),.g p14 true (.q p17 (.ixs q15 q16)),.g p14 true (.k (some p18) (.fn 84 [q17])),.q p19 (.pick q14 q18 (.c (.bool false)))])
 (.cond q19 (.skip) (.exit 0)))
 (.block 1 (.seq (.seq (.reg [.q p20 (.mv q7),.q p21 (.mv q1),.q p22 (.ari .sub q20 q21),.q p23 (.cmp .lt q22 (.c (I 18)))])
 (.cond q23 (.reg [.q p24 (.mv q8),.q p25 (.ari .mul (.c (I 10)) q24),.q p26 (.mv q0),.q p27 (.mv q7),.q p28 (.ixs q26 q27),.q p29 (.conv .i64 q28),.q p30 (.ari .add q25 q29),.q p31 (.ari .sub q30 (.c (I 48))),.q p8 (.mv q31)]) (.skip)))
 (.reg [.q p32 (.mv q7),.q p33 (.ari .add q32 (.c (I 1))),.q p7 (.mv q33)]))))))
 (.seq (.seq (.reg [.q p34 (.mv q7),.q p35 (.mv q1),.q p36 (.ari .sub q34 q35),.q p37 (.cmp .gt q36 (.c (I 18))),.q p38 (.mv q37),.g p38 false (.q p39 (.mv q7)),.g p38 false (.q p40 (.mv q1)),.g p38 false (.q p41 (.ari .sub q39 q40)),.g p38 false (.q p42 (.cmp .gt q41 (.c (I 1)))),.g p38 false (.q p43 (.mv q42)),.g p43 true (.q p44 (.mv q0)),.g p43 true (.q p45 (.mv q1)),.g p43 true (.q p46 (.ixs q44 q45)),.g p43 true (.q p47 (.eq false true .num q46 (.c (B 48)))),.g p38 false (.q p48 (.pick q43 q47 (.c (.bool false)))),.q p49 (.pick q38 (.c (.bool true)) q48)])
 (.cond q49 (.seq (.reg [.q p50 (.build [(I 0),(S []),(I 0),(I 0)] []),.q p51 (.mv q1),.q p52 (.mv q1),.l none (.st q4 q50 4),.q p5 (.mv q51),.q p6 (.mv q52)])
 (.ret)) (.skip)))
 (.seq (.seq (.reg [.q p53 (.mv q7),.q p54 (.mv q0),.q p55 (.lens q54),.q p56 (.cmp .lt q53 q55),.q p57 (.mv q56),.g p57 true (.q p58 (.mv q0)),.g p57 true (.q p59 (.mv q7)),.g p57 true (.q p60 (.ixs q58 q59)),.g p57 true (.k (some p61) (.fn 82 [q60])),.q p62 (.pick q57 q61 (.c (.bool false)))])
 (.cond q62 (.seq (.reg [.q p63 (.build [(I 0),(S []),(I 0),(I 0)] []),.q p64 (.mv q1),.q p65 (.mv q7),.l none (.st q4 q63 4),.q p5 (.mv q64),.q p6 (.mv q65)])
 (.ret)) (.skip)))
 (.seq (.reg [.q p66 (.mv q0),.q p67 (.mv q1),.q p68 (.mv q7),.q p69 (.sls q66 (some q67) (some q68)),.q p70 (.mv q8),.q p71 (.mv q1),.q p72 (.build [(I 0),(S []),(I 0),(I 0)] [(0,1,(.c (I 2))),(1,1,q69),(2,1,q70),(3,1,q71)]),.q p73 (.mv q7),.l none (.st q4 q72 4),.q p5 (.mv q73),.q p6 (.mv (.c (.int .i64 (.lit (.negSucc 0)))))])
 (.ret))))))))
def f86 : Fun := .code [.celln p4 4,.t p5,.t p6] (sq [ls p4 (.alloc [o0,e0,o0,o0]),.q p5 (.mv (ci 0)),.q p6 (.mv (ci 0))]
 (sq [.q p7 (.mv (.c e0))]
 (sq [mq p10 q1,.q p11 (.ari .add q10 (ci 1)),mq p8 q11]
 (.seq (.block 0 (.loop (.seq (sq [mq p12 q8,mq p13 q0,.q p14 (.lens q13),.q p15 (.cmp .lt q12 q14),mq p16 q15,.g p16 true (mq p17 q0),.g p16 true (mq p18 q8),.g p16 true (.q p19 (.ixs q17 q18)),.g p16 true (.q p20 (et .num q19 (.c (B 34)))),.q p21 (.pick q16 q20 (.c (.bool false)))]
 (.cond q21 (.skip) (.exit 0)))
 (.block 1 (sq [mq p22 q0,mq p23 q8,.q p24 (.ixs q22 q23),mq p9 q24]
 (.seq (sq [mq p25 q9,.q p26 (ef .num q25 (.c (B 92)))]
 (.cond q26 (.seq (sq [mq p27 q8,.q p28 (.ari .add q27 (ci 1)),mq p29 q0,.q p30 (.lens q29),.q p31 (.eq false false .num q28 q30),mq p32 q31,.g p32 false (mq p33 q0),.g p32 false (mq p34 q8),.g p32 false (.q p35 (.ari .add q34 (ci 1))),.g p32 false (.q p36 (.ixs q33 q35)),.g p32 false (.q p37 (et .num q36 (.c (B 110)))),.g p32 false (mq p38 q37),.g p38 true (mq p39 q0),.g p38 true (mq p40 q8),.g p38 true (.q p41 (.ari .add q40 (ci 1))),.g p38 true (.q p42 (.ixs q39 q41)),.g p38 true (.q p43 (et .num q42 (.c (B 34)))),.g p32 false (.q p44 (.pick q38 q43 (.c (.bool false)))),.g p32 false (mq p45 q44),.g p45 true (mq p46 q0),.g p45 true (mq p47 q8),.g p45 true (.q p48 (.ari .add q47 (ci 1))),.g p45 true (.q p49 (.ixs q46 q48)),.g p45 true (.q p50 (et .num q49 (.c (B 92)))),.g p32 false (.q p51 (.pick q45 q50 (.c (.bool false)))),.q p52 (.pick q32 (.c (.bool true)) q51)]
 (.cond q52 (sq [.q p53 (.build [o0,e0,o0,o0] []),mq p54 q1,mq p55 q8,ln (.st q4 q53 4),mq p5 q54,mq p6 q55]
 (.ret)) (.skip)))
 (sq [mq p56 q8,.q p57 (.ari .add q56 (ci 1)),mq p8 q57]
 (sq [mq p58 q0,mq p59 q8,.q p60 (.ixs q58 q59),mq p9 q60]
 (sq [mq p61 q9,.q p62 (ef .num q61 (.c (B 110)))]
 (.cond q62 (.reg [.q p9 (.mv (.c (B 10)))]) (.skip)))))) (sq [mq p63 q9,.q p64 (.cmp .lt q63 (.c (B 32))),mq p65 q64,.g p65 false (mq p66 q9),.g p65 false (.q p67 (.cmp .gt q66 (.c (B 126)))),.q p68 (.pick q65 (.c (.bool true)) q67)]
 (.cond q68 (sq [.q p69 (.build [o0,e0,o0,o0] []),mq p70 q1,mq p71 q8,ln (.st q4 q69 4),mq p5 q70,mq p6 q71]
 (.ret)) (.skip)))))
 (sq [mq p72 q7,mq p73 q9,ls p74 (.bsl 1 [(B 0)] [(0,1,q73)]),.q p75 (.b2s q74),.q p76 (.cat q72 q75),mq p7 q76]
 (.reg [mq p77 q8,.q p78 (.ari .add q77 (ci 1)),mq p8 q78]))))))))
 (.seq (sq [mq p79 q8,mq p80 q0,.q p81 (.lens q80),.q p82 (.cmp .ge q79 q81)]
 (.cond q82 (sq [.q p83 (.build [o0,e0,o0,o0] []),mq p84 q1,mq p85 q0,.q p86 (.lens q85),ln (.st q4 q83 4),mq p5 q84,mq p6 q86]
 (.ret)) (.skip)))
 (.seq (sq [mq p87 q7,.q p88 (.lens q87),.q p89 (.cmp .gt q88 (ci 256))]
 (.cond q89 (sq [.q p90 (.build [o0,e0,o0,o0] []),mq p91 q1,mq p92 q1,ln (.st q4 q90 4),mq p5 q91,mq p6 q92]
 (.ret)) (.skip)))
 (sq [mq p93 q7,mq p94 q1,.q p95 (.build [o0,e0,o0,o0] [(0,1,(ci 3)),(1,1,q93),(3,1,q94)]),mq p96 q8,.q p97 (.ari .add q96 (ci 1)),ln (.st q4 q95 4),mq p5 q97,.q p6 (.mv (.c (.int .i64 (.lit (.negSucc 0)))))]
 (.ret))))))))
def f87 : Fun := .code [.t p4] (sq [.q p4 (.mv (.c (.bool false)))]
 (.seq (.regc [mq p6 q0,.q p7 (.nck q6),fq p8 q7 0,.qr p9 (.ld q8) 0 1,mq p10 q0,.q p11 (.nck q10),fq p12 q11 1,.qr p13 (.ld q12) 0 1,.q p14 (.ixl 4 q9 q13),.qr p15 (.ldn q14 4) 0 1,ls p5 (.alloc [o0,e0,o0,o0]),ln (.st q5 q15 4)])
 (sq [mq p16 q0,.q p17 (.nck q16),fq p18 q17 2,lq p19 q18,.q p20 (.cmp .lt q19 (ci 0)),mq p21 q20,.g p21 true (fq p22 q5 0),.g p21 true (lq p23 q22),.g p21 true (.q p24 (ef .num q23 (ci 4))),.g p21 true (mq p25 q24),.g p25 false (fq p26 q5 0),.g p25 false (lq p27 q26),.g p25 false (.q p28 (ef .num q27 (ci 5))),.g p21 true (.q p29 (.pick q25 (.c (.bool true)) q28)),.q p30 (.pick q21 q29 (.c (.bool false))),mq p31 q30,.g p31 true (fq p32 q5 1),.g p31 true (lq p33 q32),.g p31 true (mq p34 q1),.g p31 true (ks p35 (.fn 52 [q33,q34])),.q p36 (.pick q31 q35 (.c (.bool false))),mq p4 q36]
 (.ret))))
def f88 : Fun := .code [.celln p4 7] (sq [ls p4 (.alloc [o0,e0,o0,o0,e0,o0,.nils])]
 (sq [mq p8 q0,ks p9 (.fn 31 [q8,(.c (S [40]))])]
 (sq [.q p5 (.mv (.c .nils))]
 (.seq (.block 0 (.loop (.seq (sq [mq p10 q0,.q p11 (.nck q10),fq p12 q11 2,lq p13 q12,.q p14 (.cmp .lt q13 (ci 0)),mq p15 q14,.g p15 true (mq p16 q0),.g p15 true (ks p17 (.fn 55 [q16,(.c (S [41]))])),.g p15 true (.q p18 (.not q17)),.q p19 (.pick q15 q18 (.c (.bool false)))]
 (.cond q19 (.skip) (.exit 0)))
 (.block 1 (.seq (sq [mq p20 q5,.q p21 (.len q20),.q p22 (.cmp .gt q21 (ci 0))]
 (.cond q22 (.reg [mq p23 q0,ks p24 (.fn 31 [q23,(.c (S [44]))])]) (.skip)))
 (sq [mq p25 q0,ks p26 (.fn 56 [q25]),ls p6 (.alloc [o0,e0,o0,o0,e0,o0,.nils]),ln (.st q6 q26 7)]
 (.reg [mq p27 q5,.q p28 (.ldn q6 7),ls p29 (.bsl 1 [o0,e0,o0,o0,e0,o0,.nils] [(0,7,q28)]),ls p30 (.app 7 88 q27 q29),mq p5 q30])))))))
 (sq [mq p31 q0,ks p32 (.fn 31 [q31,(.c (S [41]))])]
 (sq [ks p33 (.fn 89 []),ls p7 (.alloc [o0,e0,o0,o0,e0,o0,.nils]),ln (.st q7 q33 7)]
 (.seq (sq [mq p34 q0,ks p35 (.fn 87 [q34,(.c (S [32,105,110,116,32,98,111,111,108,32,115,116,114,105,110,103,32,42,32,91,32,99,104,97,110,32,102,117,110,99,32]))])]
 (.cond q35 (.reg [mq p36 q0,ks p37 (.fn 56 [q36]),ln (.st q7 q37 7)]) (.skip)))
 (sq [mq p38 q5,.q p39 (.ldn q7 7),ls p40 (.bsl 1 [o0,e0,o0,o0,e0,o0,.nils] [(0,7,q39)]),ls p41 (.app 7 88 q38 q40),mq p5 q41]
 (sq [mq p42 q1,mq p43 q5,ks p44 (.fn 57 [(ci 15),q42,(.c e0),q43]),ln (.st q4 q44 7)]
 (.ret))))))))))
def f89 : Fun := .code [.celln p0 7] (sq [ls p0 (.alloc [o0,e0,o0,o0,e0,o0,.nils])]
 (sq [.q p1 (.build [o0,e0,o0,o0,e0,o0,.nils] [(0,1,(ci 8))]),ln (.st q0 q1 7)]
 (.ret)))
def f90 : Fun := .code [.celln p2 7] (sq [ls p2 (.alloc [o0,e0,o0,o0,e0,o0,.nils])]
 (sq [mq p5 q0,ks p6 (.fn 29 [q5]),.q p7 (.fld q6 3),mq p3 q7]
 (sq [mq p8 q0,ks p9 (.fn 31 [q8,(.c (S [123]))])]
 (sq [mq p10 q0,ks p11 (.fn 120 [q10]),mq p4 q11]
 (sq [mq p12 q0,ks p13 (.fn 31 [q12,(.c (S [125]))])]
 (sq [mq p14 q3,mq p15 q4,ks p16 (.fn 57 [(ci 16),q14,(.c e0),q15]),ln (.st q2 q16 7)]
 (.ret)))))))
def f91 : Fun := .code [.t p4,.t p5] (sq [.q p4 (.mv (.c .nils)),.q p5 (.mv (.c (.bool false)))]
 (.seq (sq [.q p6 (.mv (ci 0))]
 (.block 0 (.loop (.seq (sq [mq p7 q6,mq p8 q0,.q p9 (.nck q8),fq p10 q9 0,fq p11 q10 0,lq p12 q11,.q p13 (.len q12),.q p14 (.cmp .lt q7 q13)]
 (.cond q14 (.skip) (.exit 0)))
 (.seq (.block 1 (sq [mq p17 q0,.q p18 (.nck q17),fq p19 q18 0,fq p20 q19 0,lq p21 q20,mq p22 q6,.q p23 (.ixl 2 q21 q22),fq p24 q23 0,lq p25 q24,mq p26 q1,.q p27 (.eq false false .text q25 q26)]
 (.cond q27 (sq [mq p28 q0,.q p29 (.nck q28),fq p30 q29 0,fq p31 q30 0,lq p32 q31,mq p33 q6,.q p34 (.ixl 2 q32 q33),fq p35 q34 1,lq p36 q35,mq p4 q36,.q p5 (.mv (.c (.bool true)))]
 (.ret)) (.skip))))
 (.reg [mq p15 q6,.q p16 (.ari .add q15 (ci 1)),mq p6 q16]))))))
 (sq [.q p4 (.mv (.c .nils)),.q p5 (.mv (.c (.bool false)))]
 (.ret))))
def f92 : Fun := .code [.celln p6 7] (sq [ls p4 (.box q1),ls p6 (.alloc [o0,e0,o0,o0,e0,o0,.nils])]
 (.seq (sq [mq p11 q0,.q p12 (.nck q11),fq p13 q12 9,lq p14 q13]
 (.cond q14 (sq [.q p15 (.ldn q4 7),ln (.st q6 q15 7)]
 (.ret)) (.skip)))
 (sq [.q p16 (.ldn q4 7),ks p17 (.fn 121 [q16]),mq p7 q17]
 (.seq (sq [fq p18 q4 0,lq p19 q18]
 (.block 0 (sq [.q p25 (ef .num q19 (ci 16)),mq p24 q25]
 (.cond q24 (sq [mq p26 q0,.q p27 (.ldn q4 7),ks p28 (.fn 122 [q26,q27]),ln (.st q6 q28 7)]
 (.ret)) (sq [.q p30 (ef .num q19 (ci 17)),mq p29 q30]
 (.cond q29 (sq [mq p31 q7,mq p32 q0,mq p33 q7,.q p34 (.ixl 7 q33 (ci 0)),.q p35 (.ldn q34 7),ks p36 (.fn 123 [q32,q35]),.q p37 (.ixl 7 q31 (ci 0)),ln (.st q37 q36 7)]
 (sq [mq p38 q0,mq p39 q7,.q p40 (.ixl 7 q39 (ci 0)),fq p41 q40 4,lq p42 q41,ks p43 (.fn 124 [q42]),ks p44 (.fn 32 [q38,q43])]
 (.reg [mq p45 q0,fq p46 q4 1,lq p47 q46,mq p48 q7,.q p49 (.ixl 7 q48 (ci 0)),fq p50 q49 4,lq p51 q50,ks p52 (.fn 35 [q45,q47,q51]),fq p53 q4 5,ln (.st q53 q52 1)]))) (sq [.q p55 (ef .num q19 (ci 18)),mq p54 q55]
 (.cond q54 (sq [mq p56 q0,mq p57 q7,.q p58 (.ixl 7 q57 (ci 0)),.q p59 (.ldn q58 7),ks p60 (.fn 34 [q56,q59]),mq p8 q60]
 (.seq (sq [mq p61 q7,.q p62 (.ixl 7 q61 (ci 1)),fq p63 q62 0,lq p64 q63,.q p65 (et .num q64 (ci 8))]
 (.cond q65 (.reg [mq p66 q7,mq p67 q0,mq p68 q7,.q p69 (.ixl 7 q68 (ci 1)),.q p70 (.ldn q69 7),mq p71 q8,ks p72 (.fn 125 [q67,q70,q71]),.q p73 (.ixl 7 q66 (ci 1)),ln (.st q73 q72 7)]) (.skip)))
 (.reg [mq p74 q0,fq p75 q4 1,lq p76 q75,mq p77 q8,ks p78 (.fn 35 [q74,q76,q77]),fq p79 q4 5,ln (.st q79 q78 1)]))) (sq [.q p81 (ef .num q19 (ci 19)),mq p80 q81]
 (.cond q80 (sq [mq p82 q7,mq p83 q0,mq p84 q7,.q p85 (.ixl 7 q84 (ci 0)),.q p86 (.ldn q85 7),ks p87 (.fn 126 [q83,q86]),.q p88 (.ixl 7 q82 (ci 0)),ln (.st q88 q87 7)]
 (sq [mq p89 q7,.q p90 (.ixl 7 q89 (ci 0)),fq p91 q90 4,lq p92 q91,mq p9 q92]
 (sq [mq p93 q7,mq p94 q0,mq p95 q7,.q p96 (.ixl 7 q95 (ci 1)),.q p97 (.ldn q96 7),mq p98 q9,ks p99 (.fn 125 [q94,q97,q98]),.q p100 (.ixl 7 q93 (ci 1)),ln (.st q100 q99 7)]
 (.reg [mq p101 q0,fq p102 q4 1,lq p103 q102,.q p104 (ef .text q103 (.c (S [61]))),mq p105 q104,.g p105 false (mq p106 q9),.g p105 false (.q p107 (ef .text q106 (.c (S [105,110,116])))),.q p108 (.pick q105 (.c (.bool true)) q107),mq p109 q108,.g p109 false (fq p110 q4 1),.g p109 false (lq p111 q110),.g p109 false (.q p112 (ef .text q111 (.c (S [43,61])))),.g p109 false (mq p113 q112),.g p113 true (mq p114 q9),.g p113 true (.q p115 (ef .text q114 (.c (S [115,116,114,105,110,103])))),.g p109 false (.q p116 (.pick q113 q115 (.c (.bool false)))),.q p117 (.pick q109 (.c (.bool true)) q116),ks p118 (.fn 32 [q101,q117])])))) (sq [.q p120 (ef .num q19 (ci 20)),mq p119 q120]
 (.cond q119 (sq [mq p121 q7,mq p122 q0,mq p123 q7,.q p124 (.ixl 7 q123 (ci 0)),.q p125 (.ldn q124 7),ks p126 (.fn 126 [q122,q125]),.q p127 (.ixl 7 q121 (ci 0)),ln (.st q127 q126 7)]
 (.reg [mq p128 q0,mq p129 q7,.q p130 (.ixl 7 q129 (ci 0)),fq p131 q130 4,lq p132 q131,.q p133 (ef .text q132 (.c (S [105,110,116]))),ks p134 (.fn 32 [q128,q133])])) (sq [.q p136 (ef .num q19 (ci 21)),mq p135 q136]
 (.cond q135 (sq [mq p137 q7,mq p138 q0,mq p139 q7,.q p140 (.ixl 7 q139 (ci 0)),.q p141 (.ldn q140 7),ks p142 (.fn 127 [q138,q141,(.c (S [98,111,111,108]))]),.q p143 (.ixl 7 q137 (ci 0)),ln (.st q143 q142 7)]
 (sq [mq p144 q7,mq p145 q0,mq p146 q7,.q p147 (.ixl 7 q146 (ci 1)),.q p148 (.ldn q147 7),ks p149 (.fn 122 [q145,q148]),.q p150 (.ixl 7 q144 (ci 1)),ln (.st q150 q149 7)]
 (sq [mq p151 q7,.q p152 (.ixl 7 q151 (ci 2)),fq p153 q152 0,lq p154 q153,.q p155 (et .num q154 (ci 8))]
 (.cond q155 (.reg [mq p156 q7,mq p157 q0,mq p158 q7,.q p159 (.ixl 7 q158 (ci 2)),.q p160 (.ldn q159 7),ks p161 (.fn 92 [q157,q160,(.c e0)]),.q p162 (.ixl 7 q156 (ci 2)),ln (.st q162 q161 7)]) (.skip))))) (sq [.q p164 (ef .num q19 (ci 22)),mq p163 q164]
 (.cond q163 (.reg [mq p165 q0,mq p166 q7,mq p167 q2,ks p168 (.fn 128 [q165,q166,q167])]) (sq [.q p170 (ef .num q19 (ci 23)),mq p169 q170]
 (.cond q169 (.reg [mq p171 q0,mq p172 q7,mq p173 q2,ks p174 (.fn 129 [q171,q172,q173])]) (sq [.q p176 (ef .num q19 (ci 25)),mq p175 q176]
 (.cond q175 (.reg [mq p177 q0,mq p178 q7,mq p179 q2,ks p180 (.fn 130 [q177,q178,q179])]) (sq [.q p182 (ef .num q19 (ci 35)),mq p181 q182]
 (.cond q181 (.seq (sq [.q p10 (.mv (ci 0))]
 (.block 1 (.loop (.seq (sq [mq p183 q10,mq p184 q0,.q p185 (.nck q184),fq p186 q185 8,lq p187 q186,.q p188 (.len q187),.q p189 (.cmp .lt q183 q188)]
 (.cond q189 (.skip) (.exit 1)))
 (.seq (.block 2 (.reg [mq p192 q0,mq p193 q0,.q p194 (.nck q193),fq p195 q194 8,lq p196 q195,mq p197 q10,.q p198 (.ixl 2 q196 q197),fq p199 q198 0,lq p200 q199,fq p201 q4 1,lq p202 q201,.q p203 (.eq true false .text q200 q202),ks p204 (.fn 32 [q192,q203])]))
 (.reg [mq p190 q10,.q p191 (.ari .add q190 (ci 1)),mq p10 q191]))))))
 (.reg [mq p205 q7,mq p206 q0,mq p207 q7,.q p208 (.ixl 7 q207 (ci 0)),.q p209 (.ldn q208 7),fq p210 q4 1,lq p211 q210,ks p212 (.fn 92 [q206,q209,q211]),.q p213 (.ixl 7 q205 (ci 0)),ln (.st q213 q212 7)])) (.reg [mq p20 q0,.q p21 (.ldn q4 7),mq p22 q7,ks p23 (.fn 131 [q20,q21,q22])])))))))))))))))))))))))
 (sq [mq p214 q7,fq p215 q4 6,ln (.st q215 q214 1)]
 (sq [.q p216 (.ldn q4 7),ln (.st q6 q216 7)]
 (.ret)))))))
def f93 : Fun := .code [.t p6] (sq [ls p3 (.box q0),.q p6 (.mv (.c (.bool false)))]
 (.seq (sq [fq p8 q3 0,lq p9 q8,.q p10 (ef .num q9 (ci 27))]
 (.cond q10 (sq [mq p11 q2,mq p12 q11,.g p12 true (fq p13 q3 1),.g p12 true (lq p14 q13),.g p12 true (.q p15 (ef .text q14 (.c e0))),.q p16 (.pick q12 q15 (.c (.bool false))),mq p17 q16,.g p17 false (mq p18 q1),.g p17 false (.q p19 (et .text q18 (.c e0))),.g p17 false (mq p20 q19),.g p20 true (fq p21 q3 1),.g p20 true (lq p22 q21),.g p20 true (mq p23 q1),.g p20 true (.q p24 (.eq false false .text q22 q23)),.g p17 false (.q p25 (.pick q20 q24 (.c (.bool false)))),.q p26 (.pick q17 (.c (.bool true)) q25),mq p6 q26]
 (.ret)) (.skip)))
 (.seq (sq [fq p27 q3 0,lq p28 q27,.q p29 (ef .num q28 (ci 22)),mq p30 q29,.g p30 false (fq p31 q3 0),.g p30 false (lq p32 q31),.g p30 false (.q p33 (ef .num q32 (ci 23))),.q p34 (.pick q30 (.c (.bool true)) q33),mq p35 q34,.g p35 false (fq p36 q3 0),.g p35 false (lq p37 q36),.g p35 false (.q p38 (ef .num q37 (ci 25))),.q p39 (.pick q35 (.c (.bool true)) q38)]
 (.cond q39 (.reg [.q p2 (.mv (.c (.bool false)))]) (.skip)))
 (.seq (sq [fq p40 q3 0,lq p41 q40,.q p42 (ef .num q41 (ci 48))]
 (.cond q42 (sq [.q p6 (.mv (.c (.bool false)))]
 (.ret)) (.skip)))
 (.seq (sq [.q p7 (.mv (ci 0))]
 (.block 0 (.loop (.seq (sq [mq p43 q7,fq p44 q3 6,lq p45 q44,.q p46 (.len q45),.q p47 (.cmp .lt q43 q46)]
 (.cond q47 (.skip) (.exit 0)))
 (.seq (.block 1 (sq [fq p50 q3 6,lq p51 q50,mq p52 q7,.q p53 (.ixl 7 q51 q52),.q p54 (.ldn q53 7),mq p55 q1,mq p56 q2,ks p57 (.fn 93 [q54,q55,q56])]
 (.cond q57 (sq [.q p6 (.mv (.c (.bool true)))]
 (.ret)) (.skip))))
 (.reg [mq p48 q7,.q p49 (.ari .add q48 (ci 1)),mq p7 q49]))))))
 (sq [.q p6 (.mv (.c (.bool false)))]
 (.ret)))))))
def f94 : Fun := .code [.t p2] (sq [.q p2 (.mv (.c (.bool false)))]
 (.seq (sq [.q p3 (.mv (ci 0))]
 (.block 0 (.loop (.seq (sq [mq p6 q3,mq p7 q0,.q p8 (.len q7),.q p9 (.cmp .lt q6 q8)]
 (.cond q9 (.skip) (.exit 0)))
 (.seq (.block 1 (.seq (.regc [mq p12 q0,mq p13 q3,.q p14 (.ixl 7 q12 q13),fq p15 q14 6,.qr p16 (.ld q15) 0 1,mq p17 q0,mq p18 q3,.q p19 (.ixl 7 q17 q18),fq p20 q19 6,.qr p21 (.ld q20) 0 1,.q p22 (.len q21),.q p23 (.ari .sub q22 (ci 1)),.q p24 (.ixl 7 q16 q23),.qr p25 (.ldn q24 7) 0 1,ls p4 (.alloc [o0,e0,o0,o0,e0,o0,.nils]),ln (.st q4 q25 7)])
 (sq [fq p26 q4 6,lq p27 q26,.q p28 (.len q27),.q p29 (.cmp .gt q28 (ci 0)),mq p30 q29,.g p30 true (fq p31 q4 6),.g p30 true (lq p32 q31),.g p30 true (fq p33 q4 6),.g p30 true (lq p34 q33),.g p30 true (.q p35 (.len q34)),.g p30 true (.q p36 (.ari .sub q35 (ci 1))),.g p30 true (.q p37 (.ixl 7 q32 q36)),.g p30 true (fq p38 q37 0),.g p30 true (lq p39 q38),.g p30 true (.q p40 (ef .num q39 (ci 29))),.q p41 (.pick q30 q40 (.c (.bool false))),mq p5 q41]
 (sq [.q p42 (.ldn q4 7),ks p43 (.fn 93 [q42,(.c e0),(.c (.bool true))]),mq p44 q43,.g p44 false (mq p45 q5),.g p44 false (.q p46 (.not q45)),.g p44 false (mq p47 q46),.g p47 true (.q p48 (.ldn q4 7)),.g p47 true (ks p49 (.fn 64 [q48])),.g p47 true (.q p50 (.not q49)),.g p44 false (.q p51 (.pick q47 q50 (.c (.bool false)))),.q p52 (.pick q44 (.c (.bool true)) q51)]
 (.cond q52 (sq [.q p2 (.mv (.c (.bool false)))]
 (.ret)) (.skip))))))
 (.reg [mq p10 q3,.q p11 (.ari .add q10 (ci 1)),mq p3 q11]))))))
 (sq [.q p2 (.mv (.c (.bool true)))]
 (.ret))))
def f96 : Fun := .code [.t p6] (sq [.q p6 (.mv (.c (.bool false)))]
 (.block 0 (.loop (.block 1 (.seq (sq [mq p14 q2,mq p15 q14,.g p15 true (mq p16 q0),.g p15 true (mq p17 q1),.g p15 true (.q p18 (.eq false false .iface q16 q17)),.q p19 (.pick q15 q18 (.c (.bool false)))]
 (.cond q19 (sq [.q p6 (.mv (.c (.bool true)))]
 (.ret)) (.skip)))
 (.seq (sq [mq p21 q0,.q p22 (.tas .nili q21),mq p20 q22,.q p23 (.ext q20 0),.q p24 (.ext q20 1),mq p7 q23,mq p8 q24]
 (sq [mq p25 q8,mq p26 q25,.g p26 true (mq p27 q7),.g p26 true (mq p28 q1),.g p26 true (ks p29 (.inv q27 9 [q28])),.q p30 (.pick q26 q29 (.c (.bool false)))]
 (.cond q30 (sq [.q p6 (.mv (.c (.bool true)))]
 (.ret)) (.skip))))
 (sq [mq p31 q0]
 (.block 2 (sq [.q p32 (.tas .nili q31),.q p33 (.ext q32 1),.q p34 (.ext q32 0)]
 (.cond q33 (sq [mq p9 q34]
 (sq [mq p35 q9,ks p36 (.inv q35 10 []),mq p0 q36]
 (sq [mq p37 q0,.q p38 (ef .iface q37 (.c .nili))]
 (.cond q38 (sq [.q p6 (.mv (.c (.bool false)))]
 (.ret)) (.skip))))) (sq [.q p39 (.tas .nili q31),.q p40 (.ext q39 1),.q p41 (.ext q39 0)]
 (.cond q40 (sq [mq p10 q41]
 (.seq (sq [mq p42 q10,ks p43 (.inv q42 10 []),.q p44 (.len q43),.q p45 (.mv (ci 0))]
 (.block 3 (.loop (sq [.q p46 (.cmp .lt q45 q44)]
 (.seq (.cond q46 (.skip) (.exit 3))
 (.seq (.block 4 (sq [.q p47 (.ixl 1 q43 q45),lq p48 q47,mq p12 q48]
 (sq [mq p49 q12,mq p50 q1,mq p51 q2,ks p52 (.fn 96 [q49,q50,q51])]
 (.cond q52 (sq [.q p6 (.mv (.c (.bool true)))]
 (.ret)) (.skip)))))
 (.reg [.q p53 (.ari .add q45 (ci 1)),mq p45 q53])))))))
 (sq [.q p6 (.mv (.c (.bool false)))]
 (.ret)))) (sq [mq p13 q31]
 (sq [.q p6 (.mv (.c (.bool false)))]
 (.ret)))))))))))))))
def f97 : Fun := .code [.t p8] (sq [ls p5 (.box q1),.q p8 (.mv (.c .nilp))]
 (sq [mq p14 q0,.q p15 (.nck q14),fq p16 q15 5,lq p17 q16,.q p18 (.ldn q5 8),ks p19 (.inv q17 11 [q18]),mq p13 q19,.q p20 (.ext q13 0),.q p21 (.ext q13 1),mq p9 q20,mq p10 q21]
 (sq [mq p22 q0,.q p23 (.nck q22),fq p24 q23 8,lq p25 q24,mq p26 q0,.q p27 (.nck q26),fq p28 q27 9,lq p29 q28,.q p30 (.ixl 1 q25 q29),lq p31 q30,mq p11 q31]
 (.seq (.block 0 (sq [mq p53 q9,.q p54 (ef .num q53 (ci 0)),mq p52 q54]
 (.cond q52 (.reg [mq p55 q0,ks p56 (.fn 69 [q55,(.c (S [99,97,108,108,32,111,102,32,110,105,108,32,102,117,110,99,116,105,111,110]))])]) (sq [mq p58 q11,.q p59 (.nck q58),fq p60 q59 0,lq p61 q60,.q p62 (.len q61),.q p63 (.cmp .ge q62 (ci 60)),mq p57 q63]
 (.cond q57 (.reg [mq p64 q0,ks p65 (.fn 132 [q64,(.c (S [102,97,116,97,108,58,32,115,116,97,99,107,32,111,118,101,114,102,108,111,119]))])]) (sq [mq p32 q0,mq p33 q9,mq p34 q10,mq p35 q2,ks p36 (.fn 39 [q32,q33,q34,q35]),mq p12 q36]
 (sq [mq p37 q12,mq p38 q3,.q p39 (.nck q37),fq p40 q39 3,ln (.st q40 q38 1)]
 (sq [mq p41 q11,mq p42 q11,.q p43 (.nck q42),fq p44 q43 0,lq p45 q44,mq p46 q12,ls p47 (.bsl 1 [.nilp] [(0,1,q46)]),ls p48 (.app 1 8 q45 q47),.q p49 (.nck q41),fq p50 q49 0,ln (.st q50 q48 1)]
 (sq [mq p51 q12,mq p8 q51]
 (.ret))))))))))
 (sq [.q p8 (.mv (.c .nilp))]
 (.ret))))))
def f98 : Fun := .code [] (.block 0 (sq [mq p12 q2,.q p13 (.nck q12),fq p14 q13 6,lq p15 q14,mq p11 q15]
 (.cond q11 (.reg [mq p16 q0,mq p17 q2,.q p18 (.nck q17),fq p19 q18 7,lq p20 q19,.q p21 (.cat (.c (S [112,97,110,105,99,58,32])) q20),ks p22 (.fn 132 [q16,q21])]) (sq [mq p24 q0,.q p25 (.nck q24),fq p26 q25 9,lq p27 q26,.q p28 (ef .num q27 (ci 0)),mq p23 q28]
 (.cond q23 (.reg [mq p29 q0,.q p30 (.nck q29),fq p31 q30 12,ln (.st q31 (ci 1) 1)]) (sq [mq p6 q1,.q p7 (.nck q6),fq p8 q7 3,ln (.st q8 (.c (.bool true)) 1)]
 (.reg [mq p9 q0,ks p10 (.fn 133 [q9])])))))))
def f99 : Fun := .code [.t p4] (sq [.q p4 (.mv (.c .nils))]
 (sq [.q p5 (.mv (.c .nils))]
 (.seq (sq [mq p8 q1,.q p9 (.len q8),.q p10 (.mv (ci 0))]
 (.block 0 (.loop (sq [.q p11 (.cmp .lt q10 q9)]
 (.seq (.cond q11 (.skip) (.exit 0))
 (.seq (.block 1 (sq [.q p12 (.ixl 1 q8 q10),lq p13 q12,mq p7 q13]
 (.reg [mq p14 q5,mq p15 q0,.q p16 (.nck q15),fq p17 q16 2,lq p18 q17,mq p19 q7,.q p20 (.ixl 8 q18 q19),.q p21 (.ldn q20 8),ls p22 (.bsl 1 [o0,e0,.nilp,o0,o0,o0,.nilp,.nilp] [(0,8,q21)]),ls p23 (.app 8 72 q14 q22),mq p5 q23])))
 (.reg [.q p24 (.ari .add q10 (ci 1)),mq p10 q24])))))))
 (sq [mq p25 q5,mq p4 q25]
 (.ret)))))
def f100 : Fun := .code [.t p4] (sq [ls p2 (.box q0),.q p4 (.mv (.c (.bool false)))]
 (sq [mq p5 q1,.q p6 (.cmp .ge q5 (ci 0)),mq p7 q6,.g p7 true (mq p8 q1),.g p7 true (fq p9 q2 1),.g p7 true (lq p10 q9),.g p7 true (.q p11 (.len q10)),.g p7 true (.q p12 (.cmp .lt q8 q11)),.q p13 (.pick q7 q12 (.c (.bool false))),mq p14 q13,.g p14 true (fq p15 q2 1),.g p14 true (lq p16 q15),.g p14 true (mq p17 q1),.g p14 true (.q p18 (.ixl 1 q16 q17)),.g p14 true (lq p19 q18),.q p20 (.pick q14 q19 (.c (.bool false))),mq p4 q20]
 (.ret)))
def f101 : Fun := .code [.t p4] (sq [.q p4 (.mv (ci 0))]
 (sq [mq p6 q0,ks p7 (.fn 134 [q6]),mq p5 q7]
 (.seq (sq [mq p8 q5,.q p9 (.ari .rem q8 (ci 2)),.q p10 (ef .num q9 (ci 0)),mq p11 q10,.g p11 false (mq p12 q0),.g p11 false (.q p13 (.nck q12)),.g p11 false (fq p14 q13 1),.g p11 false (lq p15 q14),.g p11 false (.q p16 (.len q15)),.g p11 false (.q p17 (ef .num q16 (ci 0))),.q p18 (.pick q11 (.c (.bool true)) q17)]
 (.cond q18 (sq [mq p19 q1,mq p4 q19]
 (.ret)) (.skip)))
 (sq [mq p20 q0,mq p21 q1,ks p22 (.fn 135 [q20,q21])]
 (sq [mq p23 q0,mq p24 q5,.q p25 (.ari .quo q24 (ci 2)),mq p26 q0,.q p27 (.nck q26),fq p28 q27 1,lq p29 q28,.q p30 (.len q29),.q p31 (.ari .rem q25 q30),ks p32 (.fn 136 [q23,q31]),mq p4 q32]
 (.ret))))))
def f102 : Fun := .code [] (sq [ls p4 (.box q1)]
 (sq [.q p6 (.mv (.c e0))]
 (.seq (sq [mq p7 q2]
 (.block 0 (sq [.q p15 (ef .num q7 (ci 0)),mq p14 q15]
 (.cond q14 (.reg [mq p16 q0,.q p17 (.nck q16),fq p18 q17 5,lq p19 q18,.q p20 (.ldn q4 8),ks p21 (.inv q19 8 [q20]),ks p22 (.fn 137 [q21]),mq p6 q22]) (sq [.q p24 (ef .num q7 (ci 1)),mq p23 q24]
 (.cond q23 (.reg [mq p25 q0,.q p26 (.nck q25),fq p27 q26 5,lq p28 q27,.q p29 (.ldn q4 8),ks p30 (.inv q28 8 [q29]),.q p31 (et .num q30 (ci 0)),ks p32 (.fn 138 [q31]),mq p6 q32]) (.reg [mq p8 q0,.q p9 (.nck q8),fq p10 q9 5,lq p11 q10,.q p12 (.ldn q4 8),ks p13 (.inv q11 12 [q12]),mq p6 q13])))))))
 (.seq (sq [mq p33 q0,.q p34 (.nck q33),fq p35 q34 11,lq p36 q35,.q p37 (.len q36),mq p38 q6,.q p39 (.lens q38),.q p40 (.ari .add q37 q39),.q p41 (.cmp .gt q40 (ci 65536))]
 (.cond q41 (sq [mq p42 q0,ks p43 (.fn 132 [q42,(.c (S [102,97,116,97,108,58,32,116,111,111,32,109,117,99,104,32,111,117,116,112,117,116]))])]
 (.ret)) (.skip)))
 (.reg [mq p44 q0,mq p45 q0,.q p46 (.nck q45),fq p47 q46 11,lq p48 q47,mq p49 q6,ls p50 (.apps q48 q49),.q p51 (.nck q44),fq p52 q51 11,ln (.st q52 q50 1)])))))
def f103 : Fun := .code [] (sq [ls p5 (.box q2)]
 (sq [fq p8 q5 0,lq p9 q8]
 (.block 0 (sq [.q p15 (ef .num q9 (ci 45)),mq p14 q15]
 (.cond q14 (.regc [mq p16 q0,mq p17 q1,.q p18 (.nck q17),fq p19 q18 2,.qr p20 (.ld q19) 0 1,fq p21 q5 2,.qr p22 (.ld q21) 0 1,.q p23 (.ixl 8 q20 q22),.qr p24 (.ldn q23 8) 0 1,mq p25 q1,fq p26 q5 5,lq p27 q26,ks p28 (.fn 99 [q25,q27]),fq p29 q5 1,.qr p30 (.ld q29) 0 1,ks p31 (.fn 97 [q16,q24,q28,q30])]) (sq [.q p33 (ef .num q9 (ci 46)),mq p32 q33]
 (.cond q32 (.regc [mq p34 q0,mq p35 q1,.q p36 (.nck q35),fq p37 q36 2,.qr p38 (.ld q37) 0 1,fq p39 q5 2,.qr p40 (.ld q39) 0 1,.q p41 (.ixl 8 q38 q40),.qr p42 (.ldn q41 8) 0 1,mq p43 q1,fq p44 q5 5,lq p45 q44,ks p46 (.fn 99 [q43,q45]),ks p47 (.fn 139 [q34,q42,q46])]) (sq [.q p49 (ef .num q9 (ci 47)),mq p48 q49]
 (.cond q48 (.seq (sq [mq p51 q0,.q p52 (.nck q51),fq p53 q52 5,lq p54 q53,mq p55 q1,.q p56 (.nck q55),fq p57 q56 2,lq p58 q57,fq p59 q5 2,lq p60 q59,.q p61 (.ixl 8 q58 q60),.q p62 (.ldn q61 8),.q p63 (.nck q54),mq p64 q54,ks p65 (.inv q64 11 [q62]),mq p50 q65,.q p66 (.ext q50 0),.q p67 (.ext q50 1),mq p6 q66,mq p7 q67]
 (sq [mq p68 q6,.q p69 (ef .num q68 (ci 0))]
 (.cond q69 (sq [mq p70 q0,ks p71 (.fn 69 [q70,(.c (S [99,97,108,108,32,111,102,32,110,105,108,32,102,117,110,99,116,105,111,110]))])]
 (.ret)) (.skip))))
 (.regc [mq p72 q1,mq p73 q1,.q p74 (.nck q73),fq p75 q74 4,.qr p76 (.ld q75) 0 2,mq p77 q1,.q p78 (.nck q77),fq p79 q78 2,.qr p80 (.ld q79) 0 1,fq p81 q5 2,.qr p82 (.ld q81) 0 1,.q p83 (.ixl 8 q80 q82),.qr p84 (.ldn q83 8) 0 1,mq p85 q1,fq p86 q5 5,lq p87 q86,ks p88 (.fn 99 [q85,q87]),.q p89 (.build [o0,e0,.nilp,o0,o0,o0,.nilp,.nilp,.nils,.nils] [(0,8,q84),(9,1,q88)]),ls p90 (.bsl 1 [o0,e0,.nilp,o0,o0,o0,.nilp,.nilp,.nils,.nils] [(0,10,q89)]),ls p91 (.app 10 120 q76 q90),.q p92 (.nck q72),fq p93 q92 4,ln (.st q93 q91 1)])) (sq [.q p95 (ef .num q9 (ci 54)),mq p94 q95]
 (.cond q94 (.reg [mq p96 q0,mq p97 q0,.q p98 (.nck q97),fq p99 q98 5,lq p100 q99,mq p101 q1,.q p102 (.nck q101),fq p103 q102 2,lq p104 q103,fq p105 q5 1,lq p106 q105,.q p107 (.ixl 8 q104 q106),.q p108 (.ldn q107 8),.q p109 (.nck q100),mq p110 q100,ks p111 (.inv q110 12 [q108]),ks p112 (.fn 69 [q96,q111])]) (sq [.q p114 (ef .num q9 (ci 55)),mq p113 q114]
 (.cond q113 (.reg [mq p115 q0,mq p116 q1,fq p117 q5 1,lq p118 q117,ks p119 (.fn 140 [q115,q116,q118])]) (.seq (sq [.q p121 (ef .num q9 (ci 13)),mq p120 q121]
 (.cond q120 (.skip) (sq [.q p122 (ef .num q9 (ci 14)),mq p120 q122]
 (.cond q120 (.skip) (sq [.q p123 (ef .num q9 (ci 15)),mq p120 q123]
 (.cond q120 (.skip) (sq [.q p124 (ef .num q9 (ci 16)),mq p120 q124]
 (.cond q120 (.skip) (sq [.q p125 (ef .num q9 (ci 17)),mq p120 q125]
 (.cond q120 (.skip) (sq [.q p126 (ef .num q9 (ci 18)),mq p120 q126]
 (.cond q120 (.skip) (sq [.q p127 (ef .num q9 (ci 19)),mq p120 q127]
 (.cond q120 (.skip) (sq [.q p128 (ef .num q9 (ci 11)),mq p120 q128]
 (.cond q120 (.skip) (.reg [.q p129 (ef .num q9 (ci 12)),mq p120 q129])))))))))))))))))
 (.cond q120 (.reg [mq p130 q0,mq p131 q1,.q p132 (.ldn q5 6),ks p133 (.fn 141 [q130,q131,q132])]) (.seq (sq [.q p135 (ef .num q9 (ci 22)),mq p134 q135]
 (.cond q134 (.skip) (sq [.q p136 (ef .num q9 (ci 23)),mq p134 q136]
 (.cond q134 (.skip) (sq [.q p137 (ef .num q9 (ci 24)),mq p134 q137]
 (.cond q134 (.skip) (sq [.q p138 (ef .num q9 (ci 25)),mq p134 q138]
 (.cond q134 (.skip) (sq [.q p139 (ef .num q9 (ci 40)),mq p134 q139]
 (.cond q134 (.skip) (sq [.q p140 (ef .num q9 (ci 36)),mq p134 q140]
 (.cond q134 (.skip) (sq [.q p141 (ef .num q9 (ci 38)),mq p134 q141]
 (.cond q134 (.skip) (sq [.q p142 (ef .num q9 (ci 20)),mq p134 q142]
 (.cond q134 (.skip) (.reg [.q p143 (ef .num q9 (ci 21)),mq p134 q143])))))))))))))))))
 (.cond q134 (.reg [mq p144 q0,mq p145 q1,.q p146 (.ldn q5 6),ks p147 (.fn 142 [q144,q145,q146])]) (.seq (sq [.q p149 (ef .num q9 (ci 33)),mq p148 q149]
 (.cond q148 (.skip) (sq [.q p150 (ef .num q9 (ci 43)),mq p148 q150]
 (.cond q148 (.skip) (sq [.q p151 (ef .num q9 (ci 44)),mq p148 q151]
 (.cond q148 (.skip) (sq [.q p152 (ef .num q9 (ci 51)),mq p148 q152]
 (.cond q148 (.skip) (sq [.q p153 (ef .num q9 (ci 49)),mq p148 q153]
 (.cond q148 (.skip) (sq [.q p154 (ef .num q9 (ci 50)),mq p148 q154]
 (.cond q148 (.skip) (.reg [.q p155 (ef .num q9 (ci 52)),mq p148 q155])))))))))))))
 (.cond q148 (.reg [mq p156 q0,mq p157 q1,.q p158 (.ldn q5 6),ks p159 (.fn 143 [q156,q157,q158])]) (.reg [mq p10 q0,mq p11 q1,.q p12 (.ldn q5 6),ks p13 (.fn 144 [q10,q11,q12])]))))))))))))))))))))
def f104 : Fun := .code [.t p4] (sq [.q p4 (.mv (ci 0))]
 (.seq (sq [mq p6 q0,.q p7 (.len q6),.q p8 (.mv (ci 0))]
 (.block 0 (.loop (sq [.q p9 (.cmp .lt q8 q7)]
 (.seq (.cond q9 (.skip) (.exit 0))
 (.seq (.block 1 (sq [mq p10 q8,mq p5 q10]
 (sq [mq p11 q1,mq p12 q0,mq p13 q5,.q p14 (.ixl 1 q12 q13),lq p15 q14,ks p16 (.fv q11 [q15])]
 (.cond q16 (sq [mq p17 q5,mq p4 q17]
 (.ret)) (.skip)))))
 (.reg [.q p18 (.ari .add q8 (ci 1)),mq p8 q18])))))))
 (sq [.q p4 (.mv (.c (.int .i64 (.lit (.negSucc 0)))))]
 (.ret))))
def f105 : Fun := .code [.t p4] (.seq (.reg [.q p4 (.mv (.c (.bool false)))])
 (.seq (.reg [.q p5 (.mv q0),.q p6 (.lens q5),.q p7 (.mv q1),.q p8 (.lens q7),.q p9 (.cmp .ge q6 q8),.q p10 (.mv q9),.g p10 true (.q p11 (.mv q0)),.g p10 true (.q p12 (.mv q1)),.g p10 true (.q p13 (.lens q12)),.g p10 true (.q p14 (.sls q11 none (some q13))),.g p10 true (.q p15 (.mv q1)),.g p10 true (.q p16 (.eq false false .text q14 q15)),.q p17 (.pick q10 q16 (.c (.bool false))),.q p4 (.mv q17)])
 (.ret)))
def f106 : Fun := .code [.t p2] (sq [.q p2 (.mv (ci 0))]
 (sq [mq p4 q0,ks p5 (.fn 145 [q4,(.c (F 146))]),mq p3 q5]
 (.seq (sq [mq p6 q3,.q p7 (.cmp .lt q6 (ci 0))]
 (.cond q7 (.reg [mq p8 q0,.q p9 (.lens q8),mq p3 q9]) (.skip)))
 (.seq (sq [mq p10 q3,.q p11 (ef .num q10 (ci 0)),mq p12 q11,.g p12 false (mq p13 q3),.g p12 false (.q p14 (.cmp .gt q13 (ci 24))),.q p15 (.pick q12 (.c (.bool true)) q14),mq p16 q15,.g p16 false (mq p17 q0),.g p16 false (.q p18 (.ixs q17 (ci 0))),.g p16 false (.q p19 (.cmp .ge q18 (.c (B 48)))),.g p16 false (mq p20 q19),.g p20 true (mq p21 q0),.g p20 true (.q p22 (.ixs q21 (ci 0))),.g p20 true (.q p23 (.cmp .le q22 (.c (B 57)))),.g p16 false (.q p24 (.pick q20 q23 (.c (.bool false)))),.q p25 (.pick q16 (.c (.bool true)) q24),mq p26 q25,.g p26 false (mq p27 q0),.g p26 false (mq p28 q3),.g p26 false (.q p29 (.sls q27 none (some q28))),.g p26 false (ks p30 (.fn 147 [q29])),.q p31 (.pick q26 (.c (.bool true)) q30)]
 (.cond q31 (sq [.q p2 (.mv (ci 0))]
 (.ret)) (.skip)))
 (sq [mq p32 q3,mq p2 q32]
 (.ret))))))
def f107 : Fun := .code [.t p2,.t p3,.t p4] (sq [.q p2 (.mv (ci 0)),.q p3 (.mv (.c .nils)),.q p4 (.mv (.c e0))]
 (sq [.q p2 (.mv (ci 5))]
 (.seq (.block 0 (.loop (.seq (sq [mq p11 q0,mq p12 q2,.q p13 (.sls q11 (some q12) none),ks p14 (.fn 75 [q13,(.c (S [41]))]),.q p15 (.not q14)]
 (.cond q15 (.skip) (.exit 0)))
 (.block 1 (.seq (sq [mq p16 q3,.q p17 (.len q16),.q p18 (.cmp .gt q17 (ci 0))]
 (.cond q18 (.seq (sq [mq p19 q0,mq p20 q2,.q p21 (.sls q19 (some q20) none),ks p22 (.fn 75 [q21,(.c (S [44]))]),.q p23 (.not q22)]
 (.cond q23 (sq [.q p2 (.mv (ci 0)),.q p3 (.mv (.c .nils)),.q p4 (.mv (.c e0))]
 (.ret)) (.skip)))
 (.reg [mq p24 q2,.q p25 (.ari .add q24 (ci 1)),mq p2 q25])) (.skip)))
 (sq [mq p27 q0,mq p28 q2,.q p29 (.sls q27 (some q28) none),ks p30 (.fn 76 [q29]),mq p26 q30,.q p31 (.ext q26 0),.q p32 (.ext q26 1),.q p33 (.ext q26 2),mq p5 q31,mq p6 q32,mq p7 q33]
 (.seq (sq [mq p34 q5,.q p35 (ef .num q34 (ci 0))]
 (.cond q35 (sq [.q p2 (.mv (ci 0)),.q p3 (.mv (.c .nils)),.q p4 (.mv (.c e0))]
 (.ret)) (.skip)))
 (sq [mq p36 q3,mq p37 q0,mq p38 q2,mq p39 q2,mq p40 q5,.q p41 (.ari .add q39 q40),.q p42 (.sls q37 (some q38) (some q41)),ls p43 (.bsl 1 [e0] [(0,1,q42)]),ls p44 (.app 1 16 q36 q43),mq p3 q44]
 (.reg [mq p45 q2,mq p46 q5,.q p47 (.ari .add q45 q46),mq p2 q47])))))))))
 (sq [mq p48 q2,.q p49 (.ari .add q48 (ci 1)),mq p2 q49]
 (sq [mq p51 q0,mq p52 q2,.q p53 (.sls q51 (some q52) none),ks p54 (.fn 76 [q53]),mq p50 q54,.q p55 (.ext q50 0),.q p56 (.ext q50 1),.q p57 (.ext q50 2),mq p8 q55,mq p9 q56,mq p10 q57]
 (sq [mq p58 q2,mq p59 q8,.q p60 (.ari .add q58 q59),mq p61 q3,mq p62 q0,mq p63 q2,mq p64 q2,mq p65 q8,.q p66 (.ari .add q64 q65),.q p67 (.sls q62 (some q63) (some q66)),mq p2 q60,mq p3 q61,mq p4 q67]
 (.ret)))))))
def f108 : Fun := .code [.t p4] (sq [.q p4 (.mv (ci 0))]
 (.seq (sq [mq p6 q0,.q p7 (.len q6),.q p8 (.mv (ci 0))]
 (.block 0 (.loop (sq [.q p9 (.cmp .lt q8 q7)]
 (.seq (.cond q9 (.skip) (.exit 0))
 (.seq (.block 1 (sq [mq p10 q8,mq p5 q10]
 (sq [mq p11 q1,mq p12 q0,mq p13 q5,.q p14 (.ixl 1 q12 q13),lq p15 q14,.q p16 (.eq false false .num q11 q15)]
 (.cond q16 (sq [mq p17 q5,mq p4 q17]
 (.ret)) (.skip)))))
 (.reg [.q p18 (.ari .add q8 (ci 1)),mq p8 q18])))))))
 (sq [.q p4 (.mv (.c (.int .i64 (.lit (.negSucc 0)))))]
 (.ret))))
def f109 : Fun := .code [] (sq [.q p8 (.mv (.c (.bool true)))]
 (sq [.q p9 (.mv (.c (.bool true)))]
 (.block 0 (.loop (.block 1 (sq [mq p19 q2,mq p20 q1,.q p21 (.ari .sub q19 q20),mq p10 q21]
 (.seq (sq [mq p22 q10,.q p23 (.cmp .le q22 (ci 12))]
 (.cond q23 (sq [mq p24 q0,mq p25 q1,mq p26 q2,ks p27 (.fn 148 [q24,q25,q26])]
 (.ret)) (.skip)))
 (.seq (sq [mq p28 q3,.q p29 (ef .num q28 (ci 0))]
 (.cond q29 (sq [mq p30 q0,mq p31 q1,mq p32 q2,ks p33 (.fn 149 [q30,q31,q32])]
 (.ret)) (.skip)))
 (.seq (sq [mq p34 q8,.q p35 (.not q34)]
 (.cond q35 (sq [mq p36 q0,mq p37 q1,mq p38 q2,ks p39 (.fn 150 [q36,q37,q38])]
 (.reg [mq p40 q3,.q p41 (.ari .sub q40 (ci 1)),mq p3 q41])) (.skip)))
 (sq [mq p43 q0,mq p44 q1,mq p45 q2,ks p46 (.fn 151 [q43,q44,q45]),mq p42 q46,.q p47 (.ext q42 0),.q p48 (.ext q42 1),mq p11 q47,mq p12 q48]
 (.seq (sq [mq p49 q12,.q p50 (ef .num q49 (ci 2))]
 (.cond q50 (sq [mq p51 q0,mq p52 q1,mq p53 q2,ks p54 (.fn 152 [q51,q52,q53])]
 (sq [mq p55 q2,.q p56 (.ari .sub q55 (ci 1)),mq p57 q11,mq p58 q1,.q p59 (.ari .sub q57 q58),.q p60 (.ari .sub q56 q59),mq p11 q60]
 (.reg [.q p12 (.mv (ci 1))]))) (.skip)))
 (.seq (sq [mq p61 q8,mq p62 q61,.g p62 true (mq p63 q9),.q p64 (.pick q62 q63 (.c (.bool false))),mq p65 q64,.g p65 true (mq p66 q12),.g p65 true (.q p67 (ef .num q66 (ci 1))),.q p68 (.pick q65 q67 (.c (.bool false)))]
 (.cond q68 (sq [mq p69 q0,mq p70 q1,mq p71 q2,ks p72 (.fn 153 [q69,q70,q71])]
 (.cond q72 (.ret) (.skip))) (.skip)))
 (.seq (sq [mq p73 q1,.q p74 (.cmp .gt q73 (ci 0)),mq p75 q74,.g p75 true (mq p76 q0),.g p75 true (mq p77 q1),.g p75 true (.q p78 (.ari .sub q77 (ci 1))),.g p75 true (.q p79 (.ixl 1 q76 q78)),.g p75 true (lq p80 q79),.g p75 true (mq p81 q0),.g p75 true (mq p82 q11),.g p75 true (.q p83 (.ixl 1 q81 q82)),.g p75 true (lq p84 q83),.g p75 true (ks p85 (.fn 154 [q80,q84])),.g p75 true (.q p86 (.not q85)),.q p87 (.pick q75 q86 (.c (.bool false)))]
 (.cond q87 (sq [mq p88 q0,mq p89 q1,mq p90 q2,mq p91 q11,ks p92 (.fn 155 [q88,q89,q90,q91]),mq p13 q92]
 (sq [mq p93 q13,mq p1 q93]
 (.exit 1))) (.skip)))
 (sq [mq p95 q0,mq p96 q1,mq p97 q2,mq p98 q11,ks p99 (.fn 156 [q95,q96,q97,q98]),mq p94 q99,.q p100 (.ext q94 0),.q p101 (.ext q94 1),mq p14 q100,mq p15 q101]
 (sq [mq p102 q15,mq p9 q102]
 (sq [mq p103 q14,mq p104 q1,.q p105 (.ari .sub q103 q104),mq p106 q2,mq p107 q14,.q p108 (.ari .sub q106 q107),mq p16 q105,mq p17 q108]
 (sq [mq p109 q10,.q p110 (.ari .quo q109 (ci 8)),mq p18 q110]
 (sq [mq p111 q16,mq p112 q17,.q p113 (.cmp .lt q111 q112)]
 (.cond q113 (sq [mq p114 q16,mq p115 q18,.q p116 (.cmp .ge q114 q115),mq p8 q116]
 (sq [mq p117 q0,mq p118 q1,mq p119 q14,mq p120 q3,ks p121 (.fn 109 [q117,q118,q119,q120])]
 (.reg [mq p122 q14,.q p123 (.ari .add q122 (ci 1)),mq p1 q123]))) (sq [mq p124 q17,mq p125 q18,.q p126 (.cmp .ge q124 q125),mq p8 q126]
 (sq [mq p127 q0,mq p128 q14,.q p129 (.ari .add q128 (ci 1)),mq p130 q2,mq p131 q3,ks p132 (.fn 109 [q127,q129,q130,q131])]
 (.reg [mq p133 q14,mq p2 q133]))))))))))))))))))))))
def f110 : Fun := .code [.t p2] (sq [.q p2 (.mv (ci 0))]
 (.seq (.cond (.c (.bool false)) (sq [mq p3 q0,.q p4 (.conv .u32 q3),ks p5 (.fn 157 [q4]),mq p2 q5]
 (.ret)) (.skip))
 (sq [mq p6 q0,ks p7 (.fn 158 [q6]),mq p2 q7]
 (.ret))))
def f111 : Fun := .code [] (sq [mq p10 q0,.q p11 (.nck q10),fq p12 q11 0,fq p13 q12 1,lq p14 q13,mq p15 q1,.q p16 (.ari .sub q15 (ci 1)),.q p17 (.ixl 4 q14 q16),.q p18 (.ldn q17 4),ls p6 (.alloc [e0,e0,o0,(.bool false)]),ln (.st q6 q18 4)]
 (sq [fq p19 q6 1,lq p20 q19,.q p7 (.mv (ci 5)),mq p8 q20]
 (.seq (sq [fq p21 q6 3,lq p22 q21]
 (.cond q22 (.reg [.q p7 (.mv (ci 8)),.q p8 (.mv (.c (S [42,98,111,120])))]) (.skip)))
 (sq [mq p23 q0,mq p24 q8,ks p25 (.fn 46 [q23,q24]),mq p9 q25]
 (sq [mq p26 q0,.q p27 (.nck q26),fq p28 q27 8,lq p29 q28,mq p30 q1,mq p31 q9,ln (.mup false q29 q30 q31)]
 (.reg [mq p32 q0,mq p33 q7,mq p34 q9,mq p35 q2,.q p36 (.build [o0,o0,o0,o0,o0,.nils] [(0,1,q33),(1,1,q34),(2,1,q35)]),ks p37 (.fn 48 [q32,q36])]))))))
def f112 : Fun := .code [.t p4] (sq [ls p3 (.box q1),.q p4 (.mv (ci 0))]
 (.seq (sq [fq p11 q3 0,lq p12 q11]
 (.block 0 (sq [.q p14 (ef .num q12 (ci 36)),mq p13 q14]
 (.cond q13 (sq [mq p15 q0,fq p16 q3 2,lq p17 q16,ks p18 (.fn 159 [q15,(.c (S [105,110,116])),q17]),mq p4 q18]
 (.ret)) (sq [.q p20 (ef .num q12 (ci 38)),mq p19 q20]
 (.cond q19 (.seq (sq [fq p21 q3 1,lq p22 q21,.q p23 (ef .text q22 (.c (S [116,114,117,101])))]
 (.cond q23 (sq [mq p24 q0,ks p25 (.fn 159 [q24,(.c (S [98,111,111,108])),(ci 1)]),mq p4 q25]
 (.ret)) (.skip)))
 (sq [mq p26 q0,ks p27 (.fn 159 [q26,(.c (S [98,111,111,108])),(ci 0)]),mq p4 q27]
 (.ret))) (sq [.q p29 (ef .num q12 (ci 39)),mq p28 q29]
 (.cond q28 (sq [mq p30 q0,ks p31 (.fn 159 [q30,(.c (S [42,110,105,108])),(ci 0)]),mq p4 q31]
 (.ret)) (sq [.q p33 (ef .num q12 (ci 37)),mq p32 q33]
 (.cond q32 (sq [mq p35 q0,.q p36 (.nck q35),fq p37 q36 5,lq p38 q37,fq p39 q3 1,lq p40 q39,.q p41 (.look true q38 q40 o0 true),mq p34 q41,.q p42 (.ext q34 0),.q p43 (.ext q34 1),mq p5 q42,mq p6 q43]
 (.seq (sq [mq p44 q6,.q p45 (.not q44)]
 (.cond q45 (sq [mq p46 q0,.q p47 (.nck q46),fq p48 q47 4,lq p49 q48,.q p50 (.nck q49),fq p51 q50 0,lq p52 q51,.q p53 (.len q52),mq p5 q53]
 (sq [mq p54 q0,.q p55 (.nck q54),fq p56 q55 5,lq p57 q56,fq p58 q3 1,lq p59 q58,mq p60 q5,ln (.mup true q57 q59 q60)]
 (.regc [mq p61 q0,.q p62 (.nck q61),fq p63 q62 4,.qr p64 (.ld q63) 0 2,mq p65 q0,.q p66 (.nck q65),fq p67 q66 4,.qr p68 (.ld q67) 0 1,.q p69 (.nck q68),fq p70 q69 0,.qr p71 (.ld q70) 0 1,fq p72 q3 1,lq p73 q72,ls p74 (.bsl 1 [e0] [(0,1,q73)]),ls p75 (.app 1 16 q71 q74),.q p76 (.nck q64),fq p77 q76 0,ln (.st q77 q75 1)]))) (.skip)))
 (sq [mq p78 q0,ks p79 (.fn 46 [q78,(.c (S [115,116,114,105,110,103]))]),mq p7 q79]
 (sq [mq p80 q0,mq p81 q7,mq p82 q5,.q p83 (.build [o0,o0,o0,o0,o0,.nils] [(0,1,(ci 2)),(1,1,q81),(2,1,q82)]),ks p84 (.fn 48 [q80,q83])]
 (sq [mq p85 q7,mq p4 q85]
 (.ret)))))) (sq [.q p87 (ef .num q12 (ci 40)),mq p86 q87]
 (.cond q86 (.seq (sq [fq p88 q3 5,lq p89 q88,.q p90 (.cmp .gt q89 (ci 0))]
 (.cond q90 (sq [mq p91 q0,fq p92 q3 5,lq p93 q92,ks p94 (.fn 160 [q91,q93]),mq p4 q94]
 (.ret)) (.skip)))
 (sq [mq p95 q0,fq p96 q3 4,lq p97 q96,ks p98 (.fn 46 [q95,q97]),mq p8 q98]
 (sq [mq p99 q0,mq p100 q8,fq p101 q3 5,lq p102 q101,.q p103 (.neg q102),.q p104 (.build [o0,o0,o0,o0,o0,.nils] [(0,1,(ci 3)),(1,1,q100),(2,1,q103)]),ks p105 (.fn 48 [q99,q104])]
 (sq [mq p106 q8,mq p4 q106]
 (.ret))))) (sq [.q p108 (ef .num q12 (ci 41)),mq p107 q108]
 (.cond q107 (sq [mq p109 q0,.q p110 (.ldn q3 7),ks p111 (.fn 161 [q109,q110]),mq p4 q111]
 (.ret)) (sq [.q p113 (ef .num q12 (ci 42)),mq p112 q113]
 (.cond q112 (sq [mq p114 q0,.q p115 (.ldn q3 7),ks p116 (.fn 162 [q114,q115]),mq p4 q116]
 (.ret)) (sq [.q p118 (ef .num q12 (ci 43)),mq p117 q118]
 (.cond q117 (sq [mq p119 q0,fq p120 q3 6,lq p121 q120,ks p122 (.fn 163 [q119,q121]),mq p9 q122]
 (sq [.q p10 (.mv (.c (.int .i64 (.lit (.negSucc 0)))))]
 (.seq (sq [fq p123 q3 4,lq p124 q123,.q p125 (et .text q124 (.c e0))]
 (.cond q125 (.reg [mq p126 q0,fq p127 q3 4,lq p128 q127,ks p129 (.fn 46 [q126,q128]),mq p10 q129]) (.skip)))
 (sq [mq p130 q0,mq p131 q10,mq p132 q9,.q p133 (.ixl 1 q132 (ci 0)),lq p134 q133,mq p135 q9,.q p136 (.sll 1 q135 (some (ci 1)) none none),.q p137 (.build [o0,o0,o0,o0,o0,.nils] [(0,1,(ci 45)),(1,1,q131),(2,1,q134),(5,1,q136)]),ks p138 (.fn 48 [q130,q137])]
 (sq [mq p139 q10,mq p4 q139]
 (.ret)))))) (sq [.q p141 (ef .num q12 (ci 44)),mq p140 q141]
 (.cond q140 (sq [mq p142 q0,.q p143 (.ldn q3 7),ks p144 (.fn 164 [q142,q143]),mq p4 q144]
 (.ret)) (.skip)))))))))))))))))))))
 (sq [mq p145 q0,.q p146 (.ldn q3 7),ks p147 (.fn 165 [q145,q146]),mq p4 q147]
 (.ret))))
def f113 : Fun := .code [] (sq [ls p3 (.box q1)]
 (sq [fq p13 q3 6,lq p14 q13,.q p15 (.ixl 7 q14 (ci 0)),.q p16 (.ldn q15 7),ls p4 (.alloc [o0,e0,o0,o0,e0,o0,.nils]),ln (.st q4 q16 7)]
 (sq [.q p5 (.mv (.c .nils))]
 (.seq (sq [fq p17 q4 0,lq p18 q17,.q p19 (et .num q18 (ci 40))]
 (.cond q19 (.reg [mq p20 q0,fq p21 q4 6,lq p22 q21,ks p23 (.fn 163 [q20,q22]),mq p5 q23]) (.skip)))
 (sq [.q p6 (.mv (ci 0))]
 (.seq (.block 0 (sq [fq p54 q3 0,lq p55 q54,.q p56 (ef .num q55 (ci 20)),mq p53 q56]
 (.cond q53 (sq [mq p57 q0,ks p58 (.fn 46 [q57,(.c (S [105,110,116]))]),mq p7 q58]
 (sq [mq p59 q0,.q p60 (.ldn q4 7),mq p61 q5,ks p62 (.fn 166 [q59,q60,q61]),mq p8 q62]
 (sq [mq p63 q0,mq p64 q7,.q p65 (.build [o0,o0,o0,o0,o0,.nils] [(0,1,(ci 1)),(1,1,q64),(2,1,(ci 1))]),ks p66 (.fn 48 [q63,q65])]
 (sq [.q p9 (.mv (ci 13))]
 (.seq (sq [fq p67 q3 1,lq p68 q67,.q p69 (ef .text q68 (.c (S [45,45])))]
 (.cond q69 (.reg [.q p9 (.mv (ci 14))]) (.skip)))
 (.reg [mq p70 q0,mq p71 q9,mq p72 q8,mq p73 q7,ks p74 (.fn 167 [q70,q71,(.c (S [105,110,116])),q72,q73]),mq p6 q74])))))) (sq [fq p76 q3 1,lq p77 q76,.q p78 (ef .text q77 (.c (S [61]))),mq p75 q78]
 (.cond q75 (.reg [mq p79 q0,fq p80 q3 6,lq p81 q80,.q p82 (.ixl 7 q81 (ci 1)),.q p83 (.ldn q82 7),ks p84 (.fn 112 [q79,q83]),mq p6 q84]) (sq [mq p24 q0,.q p25 (.ldn q4 7),mq p26 q5,ks p27 (.fn 166 [q24,q25,q26]),mq p10 q27]
 (sq [mq p28 q0,fq p29 q3 6,lq p30 q29,.q p31 (.ixl 7 q30 (ci 1)),.q p32 (.ldn q31 7),ks p33 (.fn 112 [q28,q32]),mq p11 q33]
 (sq [.q p12 (.mv (ci 13))]
 (.seq (.block 1 (sq [fq p35 q4 4,lq p36 q35,.q p37 (ef .text q36 (.c (S [115,116,114,105,110,103]))),mq p34 q37]
 (.cond q34 (.reg [.q p12 (.mv (ci 22))]) (sq [fq p39 q3 1,lq p40 q39,.q p41 (ef .text q40 (.c (S [45,61]))),mq p38 q41]
 (.cond q38 (.reg [.q p12 (.mv (ci 14))]) (sq [fq p43 q3 1,lq p44 q43,.q p45 (ef .text q44 (.c (S [42,61]))),mq p42 q45]
 (.cond q42 (.reg [.q p12 (.mv (ci 15))]) (.skip))))))))
 (.reg [mq p46 q0,mq p47 q12,fq p48 q4 4,lq p49 q48,mq p50 q10,mq p51 q11,ks p52 (.fn 167 [q46,q47,q49,q50,q51]),mq p6 q52]))))))))))
 (.reg [mq p85 q0,.q p86 (.ldn q4 7),mq p87 q5,mq p88 q6,ks p89 (.fn 168 [q85,q86,q87,q88])])))))))
def f114 : Fun := .code [] (sq [mq p8 q1,.q p9 (.len q8),.q p10 (.mv (ci 0))]
 (.block 0 (.loop (sq [.q p11 (.cmp .lt q10 q9)]
 (.seq (.cond q11 (.skip) (.exit 0))
 (.seq (.block 1 (sq [.q p12 (.ixl 1 q8 q10),lq p13 q12,mq p7 q13]
 (.reg [mq p14 q0,.q p15 (.nck q14),fq p16 q15 7,lq p17 q16,.q p18 (.nck q17),fq p19 q18 5,lq p20 q19,mq p21 q7,mq p22 q2,.q p23 (.ixl 6 q20 q21),fq p24 q23 1,ln (.st q24 q22 1)])))
 (.reg [.q p25 (.ari .add q10 (ci 1)),mq p10 q25])))))))
def f115 : Fun := .code [.t p2] (sq [.q p2 (.mv (ci 0))]
 (sq [mq p3 q0,.q p4 (.nck q3),fq p5 q4 7,lq p6 q5,.q p7 (.nck q6),fq p8 q7 5,lq p9 q8,.q p10 (.len q9),mq p2 q10]
 (.ret)))
def f116 : Fun := .code [] (sq [ls p3 (.box q1)]
 (sq [mq p7 q0,.q p8 (.nck q7),fq p9 q8 10,lq p10 q9,mq p4 q10]
 (sq [mq p11 q0,.q p12 (.nck q11),fq p13 q12 10,ln (.st q13 (.c e0) 1)]
 (.seq (sq [fq p14 q3 6,lq p15 q14,.q p16 (.ixl 7 q15 (ci 0)),fq p17 q16 0,lq p18 q17,.q p19 (et .num q18 (ci 8))]
 (.cond q19 (.reg [mq p20 q0,fq p21 q3 6,lq p22 q21,.q p23 (.ixl 7 q22 (ci 0)),.q p24 (.ldn q23 7),ks p25 (.fn 81 [q20,q24])]) (.skip)))
 (sq [mq p26 q0,.q p27 (.build [o0,o0,o0,o0,o0,.nils] [(0,1,(ci 56))]),ks p28 (.fn 48 [q26,q27]),mq p5 q28]
 (sq [mq p29 q0,mq p30 q4,.q p31 (.nck q29),fq p32 q31 10,ln (.st q32 q30 1)]
 (sq [mq p33 q0,ks p34 (.fn 169 [q33,(.c (.bool true))])]
 (.seq (sq [fq p35 q3 6,lq p36 q35,.q p37 (.ixl 7 q36 (ci 1)),fq p38 q37 0,lq p39 q38,.q p40 (et .num q39 (ci 8))]
 (.cond q40 (sq [mq p41 q0,fq p42 q3 6,lq p43 q42,.q p44 (.ixl 7 q43 (ci 1)),.q p45 (.ldn q44 7),ks p46 (.fn 112 [q41,q45]),mq p6 q46]
 (.reg [mq p47 q0,mq p48 q0,mq p49 q6,.q p50 (.build [o0,o0,o0,o0,o0,.nils] [(0,1,(ci 27)),(2,1,q49)]),ks p51 (.fn 48 [q48,q50]),ks p52 (.fn 170 [q47,q51])])) (.skip)))
 (sq [mq p53 q0,fq p54 q3 6,lq p55 q54,.q p56 (.ixl 7 q55 (ci 3)),.q p57 (.ldn q56 7),ks p58 (.fn 49 [q53,q57])]
 (.seq (.regc [mq p59 q0,mq p60 q0,.q p61 (.nck q60),fq p62 q61 9,.qr p63 (.ld q62) 0 1,mq p64 q0,.q p65 (.nck q64),fq p66 q65 9,.qr p67 (.ld q66) 0 1,.q p68 (.len q67),.q p69 (.ari .sub q68 (ci 1)),.q p70 (.ixl 4 q63 q69),fq p71 q70 3,.qr p72 (.ld q71) 0 1,mq p73 q0,ks p74 (.fn 115 [q73]),ks p75 (.fn 114 [q59,q72,q74])])
 (.seq (sq [fq p76 q3 6,lq p77 q76,.q p78 (.ixl 7 q77 (ci 2)),fq p79 q78 0,lq p80 q79,.q p81 (et .num q80 (ci 8))]
 (.cond q81 (.reg [mq p82 q0,fq p83 q3 6,lq p84 q83,.q p85 (.ixl 7 q84 (ci 2)),.q p86 (.ldn q85 7),ks p87 (.fn 81 [q82,q86])]) (.skip)))
 (sq [mq p88 q0,mq p89 q5,.q p90 (.build [o0,o0,o0,o0,o0,.nils] [(0,1,(ci 26)),(1,1,q89)]),ks p91 (.fn 48 [q88,q90])]
 (.reg [mq p92 q0,ks p93 (.fn 171 [q92])])))))))))))))
def f117 : Fun := .code [] (sq [ls p3 (.box q1)]
 (sq [mq p21 q0,.q p22 (.nck q21),fq p23 q22 10,lq p24 q23,mq p4 q24]
 (sq [mq p25 q0,.q p26 (.nck q25),fq p27 q26 10,ln (.st q27 (.c e0) 1)]
 (sq [.q p5 (.mv (.c (.int .i64 (.lit (.negSucc 0)))))]
 (.seq (sq [fq p28 q3 6,lq p29 q28,.q p30 (.ixl 7 q29 (ci 0)),fq p31 q30 0,lq p32 q31,.q p33 (et .num q32 (ci 8))]
 (.cond q33 (sq [mq p34 q0,fq p35 q3 6,lq p36 q35,.q p37 (.ixl 7 q36 (ci 0)),.q p38 (.ldn q37 7),ks p39 (.fn 112 [q34,q38]),mq p6 q39]
 (sq [mq p40 q0,fq p41 q3 6,lq p42 q41,.q p43 (.ixl 7 q42 (ci 0)),fq p44 q43 4,lq p45 q44,ks p46 (.fn 46 [q40,q45]),mq p5 q46]
 (.reg [mq p47 q0,mq p48 q5,mq p49 q6,.q p50 (.build [o0,o0,o0,o0,o0,.nils] [(0,1,(ci 5)),(1,1,q48),(2,1,q49)]),ks p51 (.fn 48 [q47,q50])]))) (.skip)))
 (sq [fq p52 q3 6,lq p53 q52,.q p54 (.sll 7 q53 (some (ci 1)) none none),mq p7 q54]
 (sq [mq p55 q7,.q p56 (.len q55),ls p57 (.mksl [.nils] 24 q56 q56),mq p8 q57]
 (sq [.q p9 (.mv (.c (.int .i64 (.lit (.negSucc 0)))))]
 (.seq (sq [mq p58 q7,.q p59 (.len q58),.q p60 (.mv (ci 0))]
 (.block 0 (.loop (sq [.q p61 (.cmp .lt q60 q59)]
 (.seq (.cond q61 (.skip) (.exit 0))
 (.seq (.block 1 (sq [mq p62 q60,.q p63 (.ixl 7 q58 q60),.q p64 (.ldn q63 7),ls p11 (.alloc [o0,e0,o0,o0,e0,o0,.nils]),mq p10 q62,ln (.st q11 q64 7)]
 (.seq (sq [fq p65 q11 1,lq p66 q65,.q p67 (ef .text q66 (.c (S [100,101,102,97,117,108,116])))]
 (.cond q67 (sq [mq p68 q10,mq p9 q68]
 (.exit 1)) (.skip)))
 (sq [fq p69 q11 6,lq p70 q69,fq p71 q11 6,lq p72 q71,.q p73 (.len q72),.q p74 (.ari .sub q73 (ci 1)),.q p75 (.sll 7 q70 none (some q74) none),.q p76 (.len q75),.q p77 (.mv (ci 0))]
 (.block 2 (.loop (sq [.q p78 (.cmp .lt q77 q76)]
 (.seq (.cond q78 (.skip) (.exit 2))
 (.seq (.block 3 (sq [.q p79 (.ixl 7 q75 q77),.q p80 (.ldn q79 7),ls p13 (.alloc [o0,e0,o0,o0,e0,o0,.nils]),ln (.st q13 q80 7)]
 (sq [mq p81 q0,.q p82 (.ldn q13 7),ks p83 (.fn 112 [q81,q82]),mq p14 q83]
 (.seq (sq [mq p84 q5,.q p85 (.cmp .ge q84 (ci 0))]
 (.cond q85 (.reg [mq p86 q0,fq p87 q3 6,lq p88 q87,.q p89 (.ixl 7 q88 (ci 0)),fq p90 q89 4,lq p91 q90,fq p92 q13 4,lq p93 q92,mq p94 q5,mq p95 q14,ks p96 (.fn 172 [q86,q91,q93,q94,q95]),mq p14 q96]) (.skip)))
 (sq [mq p97 q0,mq p98 q14,.q p99 (.build [o0,o0,o0,o0,o0,.nils] [(0,1,(ci 27)),(2,1,q98)]),ks p100 (.fn 48 [q97,q99]),mq p15 q100]
 (.seq (.regc [mq p101 q8,mq p102 q10,mq p103 q8,mq p104 q10,.q p105 (.ixl 1 q103 q104),.qr p106 (.ld q105) 0 2,mq p107 q0,.q p108 (.build [o0,o0,o0,o0,o0,.nils] [(0,1,(ci 26))]),ks p109 (.fn 48 [q107,q108]),ls p110 (.bsl 1 [o0] [(0,1,q109)]),ls p111 (.app 1 8 q106 q110),.q p112 (.ixl 1 q101 q102),ln (.st q112 q111 1)])
 (.reg [mq p113 q0,mq p114 q15,ls p115 (.bsl 1 [o0] [(0,1,q114)]),mq p116 q0,ks p117 (.fn 115 [q116]),ks p118 (.fn 114 [q113,q115,q117])])))))))
 (.reg [.q p119 (.ari .add q77 (ci 1)),mq p77 q119]))))))))))
 (.reg [.q p120 (.ari .add q60 (ci 1)),mq p60 q120])))))))
 (sq [mq p121 q0,.q p122 (.build [o0,o0,o0,o0,o0,.nils] [(0,1,(ci 26))]),ks p123 (.fn 48 [q121,q122]),mq p16 q123]
 (sq [mq p124 q0,mq p125 q4,.q p126 (.nck q124),fq p127 q126 10,ln (.st q127 q125 1)]
 (sq [mq p128 q0,ks p129 (.fn 169 [q128,(.c (.bool false))])]
 (.seq (sq [mq p130 q7,.q p131 (.len q130),.q p132 (.mv (ci 0))]
 (.block 4 (.loop (sq [.q p133 (.cmp .lt q132 q131)]
 (.seq (.cond q133 (.skip) (.exit 4))
 (.seq (.block 5 (sq [mq p134 q132,.q p135 (.ixl 7 q130 q132),.q p136 (.ldn q135 7),ls p18 (.alloc [o0,e0,o0,o0,e0,o0,.nils]),mq p17 q134,ln (.st q18 q136 7)]
 (.seq (.regc [mq p137 q0,mq p138 q8,mq p139 q17,.q p140 (.ixl 1 q138 q139),.qr p141 (.ld q140) 0 1,mq p142 q0,ks p143 (.fn 115 [q142]),ks p144 (.fn 114 [q137,q141,q143])])
 (.seq (sq [mq p145 q17,mq p146 q9,.q p147 (.eq false false .num q145 q146)]
 (.cond q147 (.reg [mq p148 q0,mq p149 q16,ls p150 (.bsl 1 [o0] [(0,1,q149)]),mq p151 q0,ks p152 (.fn 115 [q151]),ks p153 (.fn 114 [q148,q150,q152])]) (.skip)))
 (sq [fq p154 q18 6,lq p155 q154,fq p156 q18 6,lq p157 q156,.q p158 (.len q157),.q p159 (.ari .sub q158 (ci 1)),.q p160 (.ixl 7 q155 q159),.q p161 (.ldn q160 7),ls p19 (.alloc [o0,e0,o0,o0,e0,o0,.nils]),ln (.st q19 q161 7)]
 (sq [mq p162 q0,.q p163 (.ldn q19 7),ks p164 (.fn 49 [q162,q163])]
 (sq [fq p165 q19 6,lq p166 q165,.q p167 (.len q166),mq p20 q167]
 (sq [mq p168 q20,.q p169 (ef .num q168 (ci 0)),mq p170 q169,.g p170 false (fq p171 q19 6),.g p170 false (lq p172 q171),.g p170 false (mq p173 q20),.g p170 false (.q p174 (.ari .sub q173 (ci 1))),.g p170 false (.q p175 (.ixl 7 q172 q174)),.g p170 false (fq p176 q175 0),.g p170 false (lq p177 q176),.g p170 false (.q p178 (et .num q177 (ci 29))),.q p179 (.pick q170 (.c (.bool true)) q178)]
 (.cond q179 (.reg [mq p180 q0,mq p181 q0,.q p182 (.build [o0,o0,o0,o0,o0,.nils] [(0,1,(ci 26))]),ks p183 (.fn 48 [q181,q182]),ks p184 (.fn 170 [q180,q183])]) (.skip))))))))))
 (.reg [.q p185 (.ari .add q132 (ci 1)),mq p132 q185])))))))
 (.seq (sq [mq p186 q9,.q p187 (.cmp .lt q186 (ci 0))]
 (.cond q187 (.reg [mq p188 q0,mq p189 q16,ks p190 (.fn 170 [q188,q189])]) (.skip)))
 (.reg [mq p191 q0,ks p192 (.fn 171 [q191])])))))))))))))))
def f118 : Fun := .code [] (sq [ls p3 (.box q1)]
 (sq [mq p17 q0,.q p18 (.nck q17),fq p19 q18 10,lq p20 q19,mq p4 q20]
 (sq [mq p21 q0,.q p22 (.nck q21),fq p23 q22 10,ln (.st q23 (.c e0) 1)]
 (sq [.q p5 (.mv (.c .nils))]
 (.seq (sq [fq p24 q3 6,lq p25 q24,.q p26 (.len q25),.q p27 (.mv (ci 0))]
 (.block 0 (.loop (sq [.q p28 (.cmp .lt q27 q26)]
 (.seq (.cond q28 (.skip) (.exit 0))
 (.seq (.block 1 (sq [.q p29 (.ixl 7 q25 q27),.q p30 (.ldn q29 7),ls p7 (.alloc [o0,e0,o0,o0,e0,o0,.nils]),ln (.st q7 q30 7)]
 (sq [fq p31 q7 6,lq p32 q31,.q p33 (.len q32),.q p34 (.ari .sub q33 (ci 1)),mq p8 q34]
 (sq [fq p35 q7 1,lq p36 q35]
 (.block 2 (sq [.q p38 (ef .text q36 (.c (S [114,101,99,118]))),mq p37 q38]
 (.cond q37 (sq [mq p39 q0,fq p40 q7 6,lq p41 q40,mq p42 q8,.q p43 (.ari .sub q42 (ci 1)),.q p44 (.ixl 7 q41 q43),.q p45 (.ldn q44 7),ks p46 (.fn 112 [q39,q45]),mq p9 q46]
 (.reg [mq p47 q5,mq p48 q9,ls p49 (.bsl 4 [o0,o0,o0,o0] [(0,1,(ci 1)),(1,1,q48),(2,1,(ci 0)),(3,1,(ci 0))]),ls p50 (.app 1 8 q47 q49),mq p5 q50])) (sq [.q p52 (ef .text q36 (.c (S [115,101,110,100]))),mq p51 q52]
 (.cond q51 (sq [mq p53 q0,fq p54 q7 6,lq p55 q54,.q p56 (.sll 7 q55 none (some (ci 2)) none),ks p57 (.fn 163 [q53,q56]),mq p10 q57]
 (.reg [mq p58 q5,mq p59 q10,.q p60 (.ixl 1 q59 (ci 0)),lq p61 q60,mq p62 q10,.q p63 (.ixl 1 q62 (ci 1)),lq p64 q63,ls p65 (.bsl 4 [o0,o0,o0,o0] [(0,1,(ci 2)),(1,1,q61),(2,1,q64),(3,1,(ci 0))]),ls p66 (.app 1 8 q58 q65),mq p5 q66])) (.skip))))))))))
 (.reg [.q p67 (.ari .add q27 (ci 1)),mq p27 q67])))))))
 (sq [mq p68 q0,mq p69 q5,.q p70 (.build [o0,o0,o0,o0,o0,.nils] [(0,1,(ci 52)),(1,1,(.c (.int .i64 (.lit (.negSucc 0))))),(2,1,(.c (.int .i64 (.lit (.negSucc 0))))),(5,1,q69)]),ks p71 (.fn 48 [q68,q70]),mq p11 q71]
 (sq [mq p72 q0,mq p73 q4,.q p74 (.nck q72),fq p75 q74 10,ln (.st q75 q73 1)]
 (sq [mq p76 q0,ks p77 (.fn 169 [q76,(.c (.bool false))])]
 (sq [.q p12 (.mv (ci 0))]
 (.seq (sq [fq p78 q3 6,lq p79 q78,.q p80 (.len q79),.q p81 (.mv (ci 0))]
 (.block 3 (.loop (sq [.q p82 (.cmp .lt q81 q80)]
 (.seq (.cond q82 (.skip) (.exit 3))
 (.seq (.block 4 (sq [.q p83 (.ixl 7 q79 q81),.q p84 (.ldn q83 7),ls p14 (.alloc [o0,e0,o0,o0,e0,o0,.nils]),ln (.st q14 q84 7)]
 (sq [fq p85 q14 6,lq p86 q85,.q p87 (.len q86),.q p88 (.ari .sub q87 (ci 1)),mq p15 q88]
 (.seq (sq [fq p89 q14 1,lq p90 q89,.q p91 (ef .text q90 (.c (S [100,101,102,97,117,108,116])))]
 (.cond q91 (.regc [mq p92 q0,.q p93 (.nck q92),fq p94 q93 7,.qr p95 (.ld q94) 0 1,.q p96 (.nck q95),fq p97 q96 5,.qr p98 (.ld q97) 0 1,mq p99 q11,mq p100 q0,ks p101 (.fn 115 [q100]),.q p102 (.ixl 6 q98 q99),fq p103 q102 2,ln (.st q103 q101 1)]) (.seq (.regc [mq p104 q0,.q p105 (.nck q104),fq p106 q105 7,.qr p107 (.ld q106) 0 1,.q p108 (.nck q107),fq p109 q108 5,.qr p110 (.ld q109) 0 1,mq p111 q11,.q p112 (.ixl 6 q110 q111),fq p113 q112 5,.qr p114 (.ld q113) 0 1,mq p115 q12,.q p116 (.ari .mul (ci 4) q115),.q p117 (.ari .add q116 (ci 3)),mq p118 q0,ks p119 (.fn 115 [q118]),.q p120 (.ixl 1 q114 q117),ln (.st q120 q119 1)])
 (.seq (sq [fq p121 q14 1,lq p122 q121,.q p123 (ef .text q122 (.c (S [114,101,99,118])))]
 (.cond q123 (sq [mq p124 q0,fq p125 q14 6,lq p126 q125,mq p127 q15,.q p128 (.ari .sub q127 (ci 1)),.q p129 (.ixl 7 q126 q128),fq p130 q129 4,lq p131 q130,.q p132 (.sls q131 (some (ci 5)) none),ks p133 (.fn 46 [q124,q132]),mq p16 q133]
 (sq [mq p134 q0,.q p135 (.nck q134),fq p136 q135 7,lq p137 q136,.q p138 (.nck q137),fq p139 q138 5,lq p140 q139,mq p141 q11,.q p142 (.ixl 6 q140 q141),fq p143 q142 5,lq p144 q143,mq p145 q12,.q p146 (.ari .mul (ci 4) q145),.q p147 (.ari .add q146 (ci 2)),mq p148 q16,.q p149 (.ixl 1 q144 q147),ln (.st q149 q148 1)]
 (sq [mq p150 q15,.q p151 (ef .num q150 (ci 2))]
 (.cond q151 (.reg [mq p152 q0,fq p153 q14 6,lq p154 q153,.q p155 (.ixl 7 q154 (ci 0)),fq p156 q155 5,lq p157 q156,mq p158 q16,ks p159 (.fn 111 [q152,q157,q158])]) (.skip))))) (.skip)))
 (.reg [mq p160 q12,.q p161 (.ari .add q160 (ci 1)),mq p12 q161])))))
 (sq [mq p162 q0,fq p163 q14 6,lq p164 q163,mq p165 q15,.q p166 (.ixl 7 q164 q165),.q p167 (.ldn q166 7),ks p168 (.fn 49 [q162,q167])]
 (.reg [mq p169 q0,mq p170 q0,.q p171 (.build [o0,o0,o0,o0,o0,.nils] [(0,1,(ci 26))]),ks p172 (.fn 48 [q170,q171]),ks p173 (.fn 170 [q169,q172])]))))))
 (.reg [.q p174 (.ari .add q81 (ci 1)),mq p81 q174])))))))
 (.reg [mq p175 q0,ks p176 (.fn 171 [q175])])))))))))))
def f119 : Fun := .code [] (sq [ls p3 (.box q1)]
 (sq [fq p11 q3 0,lq p12 q11]
 (.block 0 (.seq (sq [.q p14 (ef .num q12 (ci 27)),mq p13 q14]
 (.cond q13 (.skip) (.reg [.q p15 (ef .num q12 (ci 28)),mq p13 q15])))
 (.cond q13 (sq [mq p16 q0,.q p17 (.build [o0,o0,o0,o0,o0,.nils] [(0,1,(ci 26))]),ks p18 (.fn 48 [q16,q17]),mq p4 q18]
 (sq [mq p19 q0,.q p20 (.nck q19),fq p21 q20 9,lq p22 q21,.q p23 (.len q22),.q p24 (.ari .sub q23 (ci 1)),mq p5 q24]
 (.block 1 (.loop (.seq (.block 2 (sq [mq p27 q0,.q p28 (.nck q27),fq p29 q28 9,lq p30 q29,mq p31 q5,.q p32 (.ixl 4 q30 q31),mq p6 q32]
 (.seq (sq [fq p33 q3 1,lq p34 q33,.q p35 (et .text q34 (.c e0)),mq p36 q35,.g p36 true (fq p37 q3 1),.g p36 true (lq p38 q37),.g p36 true (mq p39 q6),.g p36 true (.q p40 (.nck q39)),.g p36 true (fq p41 q40 0),.g p36 true (lq p42 q41),.g p36 true (.q p43 (.eq true false .text q38 q42)),.q p44 (.pick q36 q43 (.c (.bool false)))]
 (.cond q44 (.exit 2) (.skip)))
 (.seq (sq [fq p45 q3 0,lq p46 q45,.q p47 (ef .num q46 (ci 27))]
 (.cond q47 (sq [mq p48 q6,mq p49 q6,.q p50 (.nck q49),fq p51 q50 2,lq p52 q51,mq p53 q4,ls p54 (.bsl 1 [o0] [(0,1,q53)]),ls p55 (.app 1 8 q52 q54),.q p56 (.nck q48),fq p57 q56 2,ln (.st q57 q55 1)]
 (.ret)) (.skip)))
 (sq [mq p58 q6,.q p59 (.nck q58),fq p60 q59 1,lq p61 q60]
 (.cond q61 (sq [mq p62 q6,mq p63 q6,.q p64 (.nck q63),fq p65 q64 3,lq p66 q65,mq p67 q4,ls p68 (.bsl 1 [o0] [(0,1,q67)]),ls p69 (.app 1 8 q66 q68),.q p70 (.nck q62),fq p71 q70 3,ln (.st q71 q69 1)]
 (.ret)) (.skip)))))))
 (.reg [mq p25 q5,.q p26 (.ari .sub q25 (ci 1)),mq p5 q26])))))) (sq [.q p73 (ef .num q12 (ci 30)),mq p72 q73]
 (.cond q72 (sq [.q p7 (.mv (.c (.int .i64 (.lit (.negSucc 0)))))]
 (.seq (sq [fq p74 q3 6,lq p75 q74,.q p76 (.ixl 7 q75 (ci 0)),fq p77 q76 0,lq p78 q77,.q p79 (et .num q78 (ci 8))]
 (.cond q79 (.reg [mq p80 q0,fq p81 q3 6,lq p82 q81,.q p83 (.ixl 7 q82 (ci 0)),.q p84 (.ldn q83 7),ks p85 (.fn 112 [q80,q84]),mq p7 q85]) (.skip)))
 (.reg [mq p86 q0,mq p87 q7,.q p88 (.build [o0,o0,o0,o0,o0,.nils] [(0,1,(ci 48)),(1,1,q87)]),ks p89 (.fn 48 [q86,q88])]))) (.seq (sq [.q p91 (ef .num q12 (ci 31)),mq p90 q91]
 (.cond q90 (.skip) (.reg [.q p92 (ef .num q12 (ci 32)),mq p90 q92])))
 (.cond q90 (sq [mq p93 q0,fq p94 q3 6,lq p95 q94,.q p96 (.ixl 7 q95 (ci 0)),fq p97 q96 6,lq p98 q97,ks p99 (.fn 163 [q93,q98]),mq p8 q99]
 (sq [.q p9 (.mv (ci 46))]
 (.seq (sq [fq p100 q3 0,lq p101 q100,.q p102 (ef .num q101 (ci 32))]
 (.cond q102 (.reg [.q p9 (.mv (ci 47))]) (.skip)))
 (sq [mq p103 q0,mq p104 q9,mq p105 q8,.q p106 (.ixl 1 q105 (ci 0)),lq p107 q106,mq p108 q8,.q p109 (.sll 1 q108 (some (ci 1)) none none),.q p110 (.build [o0,o0,o0,o0,o0,.nils] [(0,1,q104),(2,1,q107),(5,1,q109)]),ks p111 (.fn 48 [q103,q110])]
 (sq [fq p112 q3 0,lq p113 q112,.q p114 (ef .num q113 (ci 31))]
 (.cond q114 (.reg [mq p115 q0,.q p116 (.build [o0,o0,o0,o0,o0,.nils] [(0,1,(ci 56))]),ks p117 (.fn 48 [q115,q116])]) (.skip))))))) (sq [.q p119 (ef .num q12 (ci 33)),mq p118 q119]
 (.cond q118 (sq [mq p120 q0,fq p121 q3 6,lq p122 q121,ks p123 (.fn 163 [q120,q122]),mq p10 q123]
 (.reg [mq p124 q0,mq p125 q10,.q p126 (.ixl 1 q125 (ci 0)),lq p127 q126,mq p128 q10,.q p129 (.ixl 1 q128 (ci 1)),lq p130 q129,.q p131 (.build [o0,o0,o0,o0,o0,.nils] [(0,1,(ci 49)),(1,1,q127),(2,1,q130)]),ks p132 (.fn 48 [q124,q131])])) (sq [.q p134 (ef .num q12 (ci 34)),mq p133 q134]
 (.cond q133 (.reg [mq p135 q0,fq p136 q3 6,lq p137 q136,.q p138 (.ixl 7 q137 (ci 0)),.q p139 (.ldn q138 7),ks p140 (.fn 112 [q135,q139])]) (.skip))))))))))))))
end Ds.Text
end
set_option maxRecDepth 100000
noncomputable section
namespace Ds.Text
open Ds
def f120 : Fun := .code [.t p2] (sq [.q p2 (.mv (.c .nils))]
 (sq [.q p3 (.mv (.c .nils))]
 (.seq (.block 0 (.loop (.seq (sq [mq p6 q0,.q p7 (.nck q6),fq p8 q7 2,lq p9 q8,.q p10 (.cmp .lt q9 (ci 0)),mq p11 q10,.g p11 true (mq p12 q0),.g p11 true (ks p13 (.fn 87 [q12,(.c (S [32,125,32,99,97,115,101,32,100,101,102,97,117,108,116,32]))])),.g p11 true (.q p14 (.not q13)),.q p15 (.pick q11 q14 (.c (.bool false)))]
 (.cond q15 (.skip) (.exit 0)))
 (.block 1 (sq [mq p16 q0,ks p17 (.fn 53 [q16,(.c (S [59]))]),mq p4 q17]
 (.seq (sq [mq p18 q4]
 (.cond q18 (.exit 1) (.skip)))
 (sq [mq p19 q0,ks p20 (.fn 173 [q19]),ls p5 (.alloc [o0,e0,o0,o0,e0,o0,.nils]),ln (.st q5 q20 7)]
 (sq [mq p21 q3,.q p22 (.ldn q5 7),ls p23 (.bsl 1 [o0,e0,o0,o0,e0,o0,.nils] [(0,7,q22)]),ls p24 (.app 7 88 q21 q23),mq p3 q24]
 (sq [mq p25 q0,.q p26 (.nck q25),fq p27 q26 2,lq p28 q27,.q p29 (.cmp .lt q28 (ci 0)),mq p30 q29,.g p30 true (mq p31 q0),.g p30 true (ks p32 (.fn 87 [q31,(.c (S [32,125,32,99,97,115,101,32,100,101,102,97,117,108,116,32]))])),.g p30 true (.q p33 (.not q32)),.q p34 (.pick q30 q33 (.c (.bool false)))]
 (.cond q34 (.reg [mq p35 q0,ks p36 (.fn 31 [q35,(.c (S [59]))])]) (.skip)))))))))))
 (sq [mq p37 q3,mq p2 q37]
 (.ret)))))
def f121 : Fun := .code [.t p2] (sq [ls p1 (.box q0),.q p2 (.mv (.c .nils))]
 (sq [ls p3 (.bsl 0 [] []),fq p4 q1 6,lq p5 q4,ls p6 (.app 7 88 q3 q5),mq p2 q6]
 (.ret)))
def f122 : Fun := .code [.celln p4 7] (sq [ls p3 (.box q1),ls p4 (.alloc [o0,e0,o0,o0,e0,o0,.nils])]
 (sq [mq p5 q0,ks p6 (.fn 62 [q5])]
 (sq [mq p7 q0,fq p8 q3 6,lq p9 q8,ks p10 (.fn 63 [q7,q9,(.c (.bool false))]),fq p11 q3 6,ln (.st q11 q10 1)]
 (sq [mq p12 q0,ks p13 (.fn 65 [q12])]
 (sq [.q p14 (.ldn q3 7),ln (.st q4 q14 7)]
 (.ret))))))
def f123 : Fun := .code [.celln p4 7] (sq [ls p3 (.box q1),ls p4 (.alloc [o0,e0,o0,o0,e0,o0,.nils])]
 (.seq (sq [mq p9 q0,.q p10 (.nck q9),fq p11 q10 9,lq p12 q11]
 (.cond q12 (sq [.q p13 (.ldn q3 7),ln (.st q4 q13 7)]
 (.ret)) (.skip)))
 (sq [.q p14 (.ldn q3 7),ks p15 (.fn 121 [q14]),fq p16 q3 6,ln (.st q16 q15 1)]
 (.seq (sq [fq p17 q3 0,lq p18 q17]
 (.block 0 (sq [.q p23 (ef .num q18 (ci 36)),mq p22 q23]
 (.cond q22 (.reg [fq p24 q3 4,ln (.st q24 (.c (S [105,110,116])) 1)]) (sq [.q p26 (ef .num q18 (ci 37)),mq p25 q26]
 (.cond q25 (.reg [fq p27 q3 4,ln (.st q27 (.c (S [115,116,114,105,110,103])) 1)]) (sq [.q p29 (ef .num q18 (ci 38)),mq p28 q29]
 (.cond q28 (.reg [fq p30 q3 4,ln (.st q30 (.c (S [98,111,111,108])) 1)]) (sq [.q p32 (ef .num q18 (ci 39)),mq p31 q32]
 (.cond q31 (.reg [fq p33 q3 4,ln (.st q33 (.c (S [110,105,108])) 1)]) (sq [.q p35 (ef .num q18 (ci 40)),mq p34 q35]
 (.cond q34 (sq [mq p36 q0,fq p37 q3 1,lq p38 q37,ks p39 (.fn 174 [q36,q38]),fq p40 q3 5,ln (.st q40 q39 1)]
 (.seq (sq [fq p41 q3 5,lq p42 q41,.q p43 (.cmp .gt q42 (ci 0))]
 (.cond q43 (.reg [mq p44 q0,.q p45 (.nck q44),fq p46 q45 0,fq p47 q46 1,lq p48 q47,fq p49 q3 5,lq p50 q49,.q p51 (.ari .sub q50 (ci 1)),.q p52 (.ixl 4 q48 q51),fq p53 q52 1,lq p54 q53,fq p55 q3 4,ln (.st q55 q54 1)]) (.skip)))
 (sq [fq p56 q3 5,lq p57 q56,.q p58 (.cmp .lt q57 (ci 0))]
 (.cond q58 (.reg [mq p59 q0,.q p60 (.nck q59),fq p61 q60 0,fq p62 q61 2,lq p63 q62,fq p64 q3 5,lq p65 q64,.q p66 (.neg q65),.q p67 (.ari .sub q66 (ci 1)),.q p68 (.ixl 11 q63 q67),fq p69 q68 1,lq p70 q69,fq p71 q3 4,ln (.st q71 q70 1)]) (.skip))))) (sq [.q p73 (ef .num q18 (ci 41)),mq p72 q73]
 (.cond q72 (.seq (.regc [fq p74 q3 6,.qr p75 (.ld q74) 0 1,mq p76 q0,fq p77 q3 6,lq p78 q77,.q p79 (.ixl 7 q78 (ci 0)),.q p80 (.ldn q79 7),ks p81 (.fn 123 [q76,q80]),.q p82 (.ixl 7 q75 (ci 0)),ln (.st q82 q81 7)])
 (.reg [mq p83 q0,fq p84 q3 1,lq p85 q84,fq p86 q3 6,lq p87 q86,.q p88 (.ixl 7 q87 (ci 0)),.q p89 (.ldn q88 7),ks p90 (.fn 175 [q83,q85,q89]),fq p91 q3 4,ln (.st q91 q90 1)])) (sq [.q p93 (ef .num q18 (ci 42)),mq p92 q93]
 (.cond q92 (.seq (.regc [fq p94 q3 6,.qr p95 (.ld q94) 0 1,mq p96 q0,fq p97 q3 6,lq p98 q97,.q p99 (.ixl 7 q98 (ci 0)),.q p100 (.ldn q99 7),ks p101 (.fn 123 [q96,q100]),.q p102 (.ixl 7 q95 (ci 0)),ln (.st q102 q101 7)])
 (.seq (.regc [fq p103 q3 6,.qr p104 (.ld q103) 0 1,mq p105 q0,fq p106 q3 6,lq p107 q106,.q p108 (.ixl 7 q107 (ci 1)),.q p109 (.ldn q108 7),ks p110 (.fn 123 [q105,q109]),.q p111 (.ixl 7 q104 (ci 1)),ln (.st q111 q110 7)])
 (.reg [mq p112 q0,fq p113 q3 1,lq p114 q113,fq p115 q3 6,lq p116 q115,.q p117 (.ixl 7 q116 (ci 0)),fq p118 q117 4,lq p119 q118,fq p120 q3 6,lq p121 q120,.q p122 (.ixl 7 q121 (ci 1)),fq p123 q122 4,lq p124 q123,ks p125 (.fn 176 [q112,q114,q119,q124]),fq p126 q3 4,ln (.st q126 q125 1)]))) (sq [.q p128 (ef .num q18 (ci 43)),mq p127 q128]
 (.cond q127 (.seq (.regc [fq p129 q3 6,.qr p130 (.ld q129) 0 1,mq p131 q0,fq p132 q3 6,lq p133 q132,.q p134 (.ixl 7 q133 (ci 0)),.q p135 (.ldn q134 7),ks p136 (.fn 123 [q131,q135]),.q p137 (.ixl 7 q130 (ci 0)),ln (.st q137 q136 7)])
 (sq [fq p139 q3 6,lq p140 q139,.q p141 (.ixl 7 q140 (ci 0)),fq p142 q141 4,lq p143 q142,ks p144 (.fn 177 [q143]),mq p138 q144,.q p145 (.ext q138 0),.q p146 (.ext q138 1),.q p147 (.ext q138 2),mq p5 q145,mq p6 q146,mq p7 q147]
 (sq [mq p148 q0,mq p149 q7,mq p150 q149,.g p150 true (fq p151 q3 6),.g p150 true (lq p152 q151),.g p150 true (.q p153 (.len q152)),.g p150 true (mq p154 q5),.g p150 true (.q p155 (.len q154)),.g p150 true (.q p156 (.ari .add q155 (ci 1))),.g p150 true (.q p157 (.eq false false .num q153 q156)),.q p158 (.pick q150 q157 (.c (.bool false))),ks p159 (.fn 32 [q148,q158])]
 (.seq (sq [.q p8 (.mv (ci 0))]
 (.block 1 (.loop (.seq (sq [mq p160 q8,mq p161 q5,.q p162 (.len q161),.q p163 (.cmp .lt q160 q162),mq p164 q163,.g p164 true (mq p165 q0),.g p164 true (.q p166 (.nck q165)),.g p164 true (fq p167 q166 9),.g p164 true (lq p168 q167),.g p164 true (.q p169 (.not q168)),.q p170 (.pick q164 q169 (.c (.bool false)))]
 (.cond q170 (.skip) (.exit 1)))
 (.seq (.block 2 (.regc [fq p173 q3 6,.qr p174 (.ld q173) 0 1,mq p175 q8,.q p176 (.ari .add q175 (ci 1)),mq p177 q0,fq p178 q3 6,lq p179 q178,mq p180 q8,.q p181 (.ari .add q180 (ci 1)),.q p182 (.ixl 7 q179 q181),.q p183 (.ldn q182 7),mq p184 q5,mq p185 q8,.q p186 (.ixl 1 q184 q185),lq p187 q186,ks p188 (.fn 125 [q177,q183,q187]),.q p189 (.ixl 7 q174 q176),ln (.st q189 q188 7)]))
 (.reg [mq p171 q8,.q p172 (.ari .add q171 (ci 1)),mq p8 q172]))))))
 (.reg [mq p190 q6,fq p191 q3 4,ln (.st q191 q190 1)]))))) (sq [.q p193 (ef .num q18 (ci 44)),mq p192 q193]
 (.cond q192 (sq [mq p194 q0,fq p195 q3 6,lq p196 q195,.q p197 (.len q196),.q p198 (.cmp .le q197 (ci 8)),ks p199 (.fn 32 [q194,q198])]
 (.reg [mq p200 q0,fq p201 q3 1,lq p202 q201,fq p203 q3 6,lq p204 q203,ks p205 (.fn 178 [q200,q202,q204]),fq p206 q3 4,ln (.st q206 q205 1)])) (sq [mq p19 q0,.q p20 (.ldn q3 7),ks p21 (.fn 179 [q19,q20]),ln (.st q4 q21 7)]
 (.ret))))))))))))))))))))))
 (sq [.q p207 (.ldn q3 7),ln (.st q4 q207 7)]
 (.ret))))))
def f124 : Fun := .code [.t p2] (sq [.q p2 (.mv (.c (.bool false)))]
 (sq [mq p3 q0,ks p4 (.fn 180 [q3,(ci 0)]),mq p5 q0,.q p6 (.lens q5),.q p7 (.eq false false .num q4 q6),mq p8 q7,.g p8 true (mq p9 q0),.g p8 true (.q p10 (et .text q9 (.c e0))),.q p11 (.pick q8 q10 (.c (.bool false))),mq p2 q11]
 (.ret)))
def f125 : Fun := .code [.celln p6 7] (sq [ls p4 (.box q1),ls p6 (.alloc [o0,e0,o0,o0,e0,o0,.nils])]
 (sq [mq p7 q0,.q p8 (.ldn q4 7),ks p9 (.fn 123 [q7,q8]),ln (.st q4 q9 7)]
 (sq [mq p10 q0,fq p11 q4 4,lq p12 q11,mq p13 q2,ks p14 (.fn 181 [q12,q13]),ks p15 (.fn 32 [q10,q14])]
 (sq [.q p16 (.ldn q4 7),ln (.st q6 q16 7)]
 (.ret)))))
def f126 : Fun := .code [.celln p4 7] (sq [ls p3 (.box q1),ls p4 (.alloc [o0,e0,o0,o0,e0,o0,.nils])]
 (sq [mq p5 q0,.q p6 (.ldn q3 7),ks p7 (.fn 123 [q5,q6]),ln (.st q3 q7 7)]
 (sq [mq p8 q0,fq p9 q3 4,lq p10 q9,ks p11 (.fn 124 [q10]),ks p12 (.fn 32 [q8,q11])]
 (.seq (sq [fq p13 q3 0,lq p14 q13,.q p15 (ef .num q14 (ci 40))]
 (.cond q15 (.reg [mq p16 q0,fq p17 q3 5,lq p18 q17,.q p19 (.cmp .gt q18 (ci 0)),ks p20 (.fn 32 [q16,q19])]) (.skip)))
 (.seq (sq [fq p21 q3 0,lq p22 q21,.q p23 (ef .num q22 (ci 45))]
 (.cond q23 (.reg [mq p24 q0,fq p25 q3 6,lq p26 q25,.q p27 (.ixl 7 q26 (ci 0)),fq p28 q27 4,lq p29 q28,.q p30 (et .text q29 (.c (S [115,116,114,105,110,103]))),ks p31 (.fn 32 [q24,q30])]) (.skip)))
 (sq [.q p32 (.ldn q3 7),ln (.st q4 q32 7)]
 (.ret)))))))
def f127 : Fun := .code [.celln p6 7] (sq [ls p4 (.box q1),ls p6 (.alloc [o0,e0,o0,o0,e0,o0,.nils])]
 (sq [mq p7 q0,.q p8 (.ldn q4 7),ks p9 (.fn 123 [q7,q8]),ln (.st q4 q9 7)]
 (sq [mq p10 q0,fq p11 q4 4,lq p12 q11,mq p13 q2,.q p14 (.eq false false .text q12 q13),ks p15 (.fn 32 [q10,q14])]
 (sq [.q p16 (.ldn q4 7),ln (.st q6 q16 7)]
 (.ret)))))
def f128 : Fun := .code [] (sq [mq p7 q0,ks p8 (.fn 62 [q7])]
 (.seq (sq [.q p6 (.mv (ci 0))]
 (.block 0 (.loop (.seq (sq [mq p9 q6,.q p10 (.cmp .lt q9 (ci 3))]
 (.cond q10 (.skip) (.exit 0)))
 (.seq (.block 1 (.seq (sq [mq p13 q1,mq p14 q6,.q p15 (.ixl 7 q13 q14),fq p16 q15 0,lq p17 q16,.q p18 (ef .num q17 (ci 8))]
 (.cond q18 (.exit 1) (.skip)))
 (sq [mq p19 q6]
 (.block 2 (sq [.q p30 (ef .num q19 (ci 1)),mq p29 q30]
 (.cond q29 (.reg [mq p31 q1,mq p32 q0,mq p33 q1,.q p34 (.ixl 7 q33 (ci 1)),.q p35 (.ldn q34 7),ks p36 (.fn 127 [q32,q35,(.c (S [98,111,111,108]))]),.q p37 (.ixl 7 q31 (ci 1)),ln (.st q37 q36 7)]) (sq [.q p39 (ef .num q19 (ci 2)),mq p38 q39]
 (.cond q38 (sq [mq p40 q0,ks p41 (.fn 62 [q40])]
 (sq [mq p42 q1,mq p43 q0,mq p44 q1,.q p45 (.ixl 7 q44 (ci 2)),.q p46 (.ldn q45 7),ks p47 (.fn 92 [q43,q46,(.c e0)]),.q p48 (.ixl 7 q42 (ci 2)),ln (.st q48 q47 7)]
 (.reg [mq p49 q0,ks p50 (.fn 65 [q49])]))) (.reg [mq p20 q1,mq p21 q6,mq p22 q0,mq p23 q1,mq p24 q6,.q p25 (.ixl 7 q23 q24),.q p26 (.ldn q25 7),ks p27 (.fn 92 [q22,q26,(.c e0)]),.q p28 (.ixl 7 q20 q21),ln (.st q28 q27 7)])))))))))
 (.reg [mq p11 q6,.q p12 (.ari .add q11 (ci 1)),mq p6 q12]))))))
 (sq [mq p51 q0,mq p52 q2,ks p53 (.fn 182 [q51,q52,(.c (.bool true))])]
 (sq [mq p54 q1,mq p55 q0,mq p56 q1,.q p57 (.ixl 7 q56 (ci 3)),.q p58 (.ldn q57 7),ks p59 (.fn 122 [q55,q58]),.q p60 (.ixl 7 q54 (ci 3)),ln (.st q60 q59 7)]
 (sq [mq p61 q0,ks p62 (.fn 183 [q61])]
 (.reg [mq p63 q0,ks p64 (.fn 65 [q63])]))))))
def f129 : Fun := .code [] (sq [.q p6 (.mv (.c e0))]
 (.seq (sq [mq p12 q1,.q p13 (.ixl 7 q12 (ci 0)),fq p14 q13 0,lq p15 q14,.q p16 (et .num q15 (ci 8))]
 (.cond q16 (sq [mq p17 q1,mq p18 q0,mq p19 q1,.q p20 (.ixl 7 q19 (ci 0)),.q p21 (.ldn q20 7),ks p22 (.fn 123 [q18,q21]),.q p23 (.ixl 7 q17 (ci 0)),ln (.st q23 q22 7)]
 (sq [mq p24 q1,.q p25 (.ixl 7 q24 (ci 0)),fq p26 q25 4,lq p27 q26,mq p6 q27]
 (.reg [mq p28 q0,mq p29 q6,mq p30 q6,ks p31 (.fn 184 [q29,q30]),ks p32 (.fn 32 [q28,q31])]))) (.skip)))
 (sq [mq p33 q0,mq p34 q2,ks p35 (.fn 182 [q33,q34,(.c (.bool false))])]
 (sq [.q p7 (.mv (ci 0))]
 (.seq (sq [.q p8 (.mv (ci 1))]
 (.block 0 (.loop (.seq (sq [mq p36 q8,mq p37 q1,.q p38 (.len q37),.q p39 (.cmp .lt q36 q38),mq p40 q39,.g p40 true (mq p41 q0),.g p40 true (.q p42 (.nck q41)),.g p40 true (fq p43 q42 9),.g p40 true (lq p44 q43),.g p40 true (.q p45 (.not q44)),.q p46 (.pick q40 q45 (.c (.bool false)))]
 (.cond q46 (.skip) (.exit 0)))
 (.seq (.block 1 (.seq (sq [mq p49 q1,mq p50 q8,.q p51 (.ixl 7 q49 q50),fq p52 q51 1,lq p53 q52,.q p54 (ef .text q53 (.c (S [100,101,102,97,117,108,116])))]
 (.cond q54 (.reg [mq p55 q7,.q p56 (.ari .add q55 (ci 1)),mq p7 q56]) (.skip)))
 (sq [mq p57 q1,mq p58 q8,.q p59 (.ixl 7 q57 q58),.q p60 (.ldn q59 7),ks p61 (.fn 121 [q60]),mq p9 q61]
 (.seq (sq [.q p10 (.mv (ci 0))]
 (.block 2 (.loop (.seq (sq [mq p62 q10,.q p63 (.ari .add q62 (ci 1)),mq p64 q9,.q p65 (.len q64),.q p66 (.cmp .lt q63 q65)]
 (.cond q66 (.skip) (.exit 2)))
 (.seq (.block 3 (sq [mq p69 q9,mq p70 q10,mq p71 q0,mq p72 q9,mq p73 q10,.q p74 (.ixl 7 q72 q73),.q p75 (.ldn q74 7),ks p76 (.fn 123 [q71,q75]),.q p77 (.ixl 7 q69 q70),ln (.st q77 q76 7)]
 (sq [mq p78 q6,.q p79 (ef .text q78 (.c e0))]
 (.cond q79 (.reg [mq p80 q0,mq p81 q9,mq p82 q10,.q p83 (.ixl 7 q81 q82),fq p84 q83 4,lq p85 q84,.q p86 (ef .text q85 (.c (S [98,111,111,108]))),ks p87 (.fn 32 [q80,q86])]) (.reg [mq p88 q0,mq p89 q9,mq p90 q10,.q p91 (.ixl 7 q89 q90),fq p92 q91 4,lq p93 q92,mq p94 q6,ks p95 (.fn 184 [q93,q94]),ks p96 (.fn 32 [q88,q95])])))))
 (.reg [mq p67 q10,.q p68 (.ari .add q67 (ci 1)),mq p10 q68]))))))
 (sq [mq p97 q0,ks p98 (.fn 62 [q97])]
 (sq [mq p99 q9,mq p100 q9,.q p101 (.len q100),.q p102 (.ari .sub q101 (ci 1)),.q p103 (.ixl 7 q99 q102),.q p104 (.ldn q103 7),ls p11 (.alloc [o0,e0,o0,o0,e0,o0,.nils]),ln (.st q11 q104 7)]
 (sq [mq p105 q0,fq p106 q11 6,lq p107 q106,mq p108 q8,.q p109 (.ari .add q108 (ci 1)),mq p110 q1,.q p111 (.len q110),.q p112 (.cmp .lt q109 q111),ks p113 (.fn 63 [q105,q107,q112]),fq p114 q11 6,ln (.st q114 q113 1)]
 (sq [mq p115 q0,ks p116 (.fn 65 [q115])]
 (sq [mq p117 q9,mq p118 q9,.q p119 (.len q118),.q p120 (.ari .sub q119 (ci 1)),.q p121 (.ldn q11 7),.q p122 (.ixl 7 q117 q120),ln (.st q122 q121 7)]
 (.reg [mq p123 q1,mq p124 q8,mq p125 q9,.q p126 (.ixl 7 q123 q124),fq p127 q126 6,ln (.st q127 q125 1)]))))))))))
 (.reg [mq p47 q8,.q p48 (.ari .add q47 (ci 1)),mq p8 q48]))))))
 (sq [mq p128 q0,mq p129 q7,.q p130 (.cmp .le q129 (ci 1)),ks p131 (.fn 32 [q128,q130])]
 (.reg [mq p132 q0,ks p133 (.fn 183 [q132])])))))))
def f130 : Fun := .code [] (sq [mq p12 q0,mq p13 q2,ks p14 (.fn 182 [q12,q13,(.c (.bool false))])]
 (sq [.q p6 (.mv (ci 0))]
 (.seq (sq [.q p7 (.mv (ci 0))]
 (.block 0 (.loop (.seq (sq [mq p15 q7,mq p16 q1,.q p17 (.len q16),.q p18 (.cmp .lt q15 q17),mq p19 q18,.g p19 true (mq p20 q0),.g p19 true (.q p21 (.nck q20)),.g p19 true (fq p22 q21 9),.g p19 true (lq p23 q22),.g p19 true (.q p24 (.not q23)),.q p25 (.pick q19 q24 (.c (.bool false)))]
 (.cond q25 (.skip) (.exit 0)))
 (.seq (.block 1 (.seq (sq [mq p28 q1,mq p29 q7,.q p30 (.ixl 7 q28 q29),fq p31 q30 1,lq p32 q31,.q p33 (ef .text q32 (.c (S [100,101,102,97,117,108,116])))]
 (.cond q33 (.reg [mq p34 q6,.q p35 (.ari .add q34 (ci 1)),mq p6 q35]) (.skip)))
 (sq [mq p36 q0,ks p37 (.fn 62 [q36])]
 (sq [mq p38 q1,mq p39 q7,.q p40 (.ixl 7 q38 q39),.q p41 (.ldn q40 7),ks p42 (.fn 121 [q41]),mq p8 q42]
 (sq [mq p43 q8,.q p44 (.len q43),.q p45 (.ari .sub q44 (ci 1)),mq p9 q45]
 (.seq (sq [mq p46 q1,mq p47 q7,.q p48 (.ixl 7 q46 q47),fq p49 q48 1,lq p50 q49,.q p51 (ef .text q50 (.c (S [114,101,99,118])))]
 (.cond q51 (sq [mq p52 q8,mq p53 q9,.q p54 (.ari .sub q53 (ci 1)),mq p55 q0,mq p56 q8,mq p57 q9,.q p58 (.ari .sub q57 (ci 1)),.q p59 (.ixl 7 q56 q58),.q p60 (.ldn q59 7),ks p61 (.fn 123 [q55,q60]),.q p62 (.ixl 7 q52 q54),ln (.st q62 q61 7)]
 (sq [mq p63 q0,mq p64 q8,mq p65 q9,.q p66 (.ari .sub q65 (ci 1)),.q p67 (.ixl 7 q64 q66),.q p68 (.ldn q67 7),ks p69 (.fn 185 [q63,q68]),mq p10 q69]
 (sq [mq p70 q9,.q p71 (ef .num q70 (ci 2))]
 (.cond q71 (.reg [mq p72 q8,mq p73 q0,mq p74 q8,.q p75 (.ixl 7 q74 (ci 0)),fq p76 q75 1,lq p77 q76,mq p78 q10,ks p79 (.fn 35 [q73,q77,q78]),.q p80 (.ixl 7 q72 (ci 0)),fq p81 q80 5,ln (.st q81 q79 1)]) (.skip))))) (.skip)))
 (.seq (sq [mq p82 q1,mq p83 q7,.q p84 (.ixl 7 q82 q83),fq p85 q84 1,lq p86 q85,.q p87 (ef .text q86 (.c (S [115,101,110,100])))]
 (.cond q87 (sq [mq p88 q8,mq p89 q0,mq p90 q8,.q p91 (.ixl 7 q90 (ci 0)),.q p92 (.ldn q91 7),ks p93 (.fn 123 [q89,q92]),.q p94 (.ixl 7 q88 (ci 0)),ln (.st q94 q93 7)]
 (.regc [mq p95 q8,mq p96 q0,mq p97 q8,.q p98 (.ixl 7 q97 (ci 1)),.qr p99 (.ldn q98 7) 0 1,mq p100 q0,mq p101 q8,.q p102 (.ixl 7 q101 (ci 0)),.q p103 (.ldn q102 7),ks p104 (.fn 185 [q100,q103]),ks p105 (.fn 125 [q96,q99,q104]),.q p106 (.ixl 7 q95 (ci 1)),ln (.st q106 q105 7)])) (.skip)))
 (sq [mq p107 q8,mq p108 q9,.q p109 (.ixl 7 q107 q108),.q p110 (.ldn q109 7),ls p11 (.alloc [o0,e0,o0,o0,e0,o0,.nils]),ln (.st q11 q110 7)]
 (sq [mq p111 q0,fq p112 q11 6,lq p113 q112,ks p114 (.fn 63 [q111,q113,(.c (.bool false))]),fq p115 q11 6,ln (.st q115 q114 1)]
 (sq [mq p116 q8,mq p117 q9,.q p118 (.ldn q11 7),.q p119 (.ixl 7 q116 q117),ln (.st q119 q118 7)]
 (sq [mq p120 q1,mq p121 q7,mq p122 q8,.q p123 (.ixl 7 q120 q121),fq p124 q123 6,ln (.st q124 q122 1)]
 (.reg [mq p125 q0,ks p126 (.fn 65 [q125])]))))))))))))
 (.reg [mq p26 q7,.q p27 (.ari .add q26 (ci 1)),mq p7 q27]))))))
 (sq [mq p127 q0,mq p128 q6,.q p129 (.cmp .le q128 (ci 1)),ks p130 (.fn 32 [q127,q129])]
 (.reg [mq p131 q0,ks p132 (.fn 183 [q131])])))))
def f131 : Fun := .code [] (sq [ls p4 (.box q1)]
 (sq [fq p9 q4 0,lq p10 q9]
 (.block 0 (.seq (sq [.q p12 (ef .num q10 (ci 27)),mq p11 q12]
 (.cond q11 (.skip) (.reg [.q p13 (ef .num q10 (ci 28)),mq p11 q13])))
 (.cond q11 (sq [.q p6 (.mv (.c (.bool false)))]
 (.seq (sq [.q p7 (.mv (ci 0))]
 (.block 1 (.loop (.seq (sq [mq p14 q7,mq p15 q0,.q p16 (.nck q15),fq p17 q16 8,lq p18 q17,.q p19 (.len q18),.q p20 (.cmp .lt q14 q19)]
 (.cond q20 (.skip) (.exit 1)))
 (.seq (.block 2 (sq [mq p23 q0,.q p24 (.nck q23),fq p25 q24 8,lq p26 q25,mq p27 q7,.q p28 (.ixl 2 q26 q27),.q p29 (.ldn q28 2),ls p8 (.alloc [e0,(.bool false)]),ln (.st q8 q29 2)]
 (.reg [mq p30 q6,mq p31 q30,.g p31 false (fq p32 q4 0),.g p31 false (lq p33 q32),.g p31 false (.q p34 (ef .num q33 (ci 27))),.g p31 false (mq p35 q34),.g p35 false (fq p36 q8 1),.g p35 false (lq p37 q36),.g p31 false (.q p38 (.pick q35 (.c (.bool true)) q37)),.g p31 false (mq p39 q38),.g p39 true (fq p40 q4 1),.g p39 true (lq p41 q40),.g p39 true (.q p42 (ef .text q41 (.c e0))),.g p39 true (mq p43 q42),.g p43 false (fq p44 q4 1),.g p43 false (lq p45 q44),.g p43 false (fq p46 q8 0),.g p43 false (lq p47 q46),.g p43 false (.q p48 (.eq false false .text q45 q47)),.g p39 true (.q p49 (.pick q43 (.c (.bool true)) q48)),.g p31 false (.q p50 (.pick q39 q49 (.c (.bool false)))),.q p51 (.pick q31 (.c (.bool true)) q50),mq p6 q51])))
 (.reg [mq p21 q7,.q p22 (.ari .add q21 (ci 1)),mq p7 q22]))))))
 (.reg [mq p52 q0,mq p53 q6,ks p54 (.fn 32 [q52,q53])]))) (sq [.q p56 (ef .num q10 (ci 30)),mq p55 q56]
 (.cond q55 (.seq (sq [mq p57 q2,.q p58 (.ixl 7 q57 (ci 0)),fq p59 q58 0,lq p60 q59,.q p61 (ef .num q60 (ci 8)),mq p62 q61,.g p62 false (mq p63 q0),.g p62 false (.q p64 (.nck q63)),.g p62 false (fq p65 q64 7),.g p62 false (lq p66 q65),.g p62 false (.q p67 (ef .text q66 (.c e0))),.q p68 (.pick q62 (.c (.bool true)) q67)]
 (.cond q68 (sq [mq p69 q0,mq p70 q2,.q p71 (.ixl 7 q70 (ci 0)),fq p72 q71 0,lq p73 q72,.q p74 (ef .num q73 (ci 8)),mq p75 q74,.g p75 true (mq p76 q0),.g p75 true (.q p77 (.nck q76)),.g p75 true (fq p78 q77 7),.g p75 true (lq p79 q78),.g p75 true (.q p80 (ef .text q79 (.c e0))),.q p81 (.pick q75 q80 (.c (.bool false))),ks p82 (.fn 32 [q69,q81])]
 (.ret)) (.skip)))
 (.reg [mq p83 q2,mq p84 q0,mq p85 q2,.q p86 (.ixl 7 q85 (ci 0)),.q p87 (.ldn q86 7),mq p88 q0,.q p89 (.nck q88),fq p90 q89 7,lq p91 q90,ks p92 (.fn 125 [q84,q87,q91]),.q p93 (.ixl 7 q83 (ci 0)),ln (.st q93 q92 7)])) (.seq (sq [.q p95 (ef .num q10 (ci 31)),mq p94 q95]
 (.cond q94 (.skip) (.reg [.q p96 (ef .num q10 (ci 32)),mq p94 q96])))
 (.cond q94 (sq [mq p97 q0,mq p98 q2,.q p99 (.ixl 7 q98 (ci 0)),fq p100 q99 0,lq p101 q100,.q p102 (ef .num q101 (ci 43)),ks p103 (.fn 32 [q97,q102])]
 (.reg [mq p104 q2,mq p105 q0,mq p106 q2,.q p107 (.ixl 7 q106 (ci 0)),.q p108 (.ldn q107 7),ks p109 (.fn 123 [q105,q108]),.q p110 (.ixl 7 q104 (ci 0)),ln (.st q110 q109 7)])) (sq [.q p112 (ef .num q10 (ci 33)),mq p111 q112]
 (.cond q111 (sq [mq p113 q2,mq p114 q0,mq p115 q2,.q p116 (.ixl 7 q115 (ci 0)),.q p117 (.ldn q116 7),ks p118 (.fn 123 [q114,q117]),.q p119 (.ixl 7 q113 (ci 0)),ln (.st q119 q118 7)]
 (.regc [mq p120 q2,mq p121 q0,mq p122 q2,.q p123 (.ixl 7 q122 (ci 1)),.qr p124 (.ldn q123 7) 0 1,mq p125 q0,mq p126 q2,.q p127 (.ixl 7 q126 (ci 0)),.q p128 (.ldn q127 7),ks p129 (.fn 185 [q125,q128]),ks p130 (.fn 125 [q121,q124,q129]),.q p131 (.ixl 7 q120 (ci 1)),ln (.st q131 q130 7)])) (sq [.q p133 (ef .num q10 (ci 34)),mq p132 q133]
 (.cond q132 (.seq (sq [mq p134 q2,.q p135 (.ixl 7 q134 (ci 0)),fq p136 q135 0,lq p137 q136,.q p138 (ef .num q137 (ci 44))]
 (.cond q138 (.reg [mq p139 q0,mq p140 q2,.q p141 (.ixl 7 q140 (ci 0)),fq p142 q141 1,lq p143 q142,ks p144 (.fn 52 [q143,(.c (S [32,99,108,111,115,101,32,112,97,110,105,99,32,112,114,105,110,116,32,114,101,99,111,118,101,114,32]))]),ks p145 (.fn 32 [q139,q144])]) (.skip)))
 (.reg [mq p146 q2,mq p147 q0,mq p148 q2,.q p149 (.ixl 7 q148 (ci 0)),.q p150 (.ldn q149 7),ks p151 (.fn 123 [q147,q150]),.q p152 (.ixl 7 q146 (ci 0)),ln (.st q152 q151 7)])) (.skip))))))))))))))
def f132 : Fun := .code [] (.reg [mq p4 q0,mq p5 q0,mq p6 q1,.q p7 (.nck q4),fq p8 q7 12,ln (.st q8 (ci 2) 1),.q p9 (.nck q5),fq p10 q9 13,ln (.st q10 q6 1)])
def f133 : Fun := .code [] (sq [mq p5 q0,.q p6 (.nck q5),fq p7 q6 6,lq p8 q7,ks p9 (.fn 186 [q8]),mq p4 q9,.q p10 (.ext q4 0),.q p11 (.ext q4 1),mq p2 q10,mq p3 q11]
 (.seq (sq [mq p12 q3,.q p13 (.not q12)]
 (.cond q13 (sq [mq p14 q0,ks p15 (.fn 132 [q14,(.c (S [102,97,116,97,108,58,32,97,108,108,32,103,111,114,111,117,116,105,110,101,115,32,97,114,101,32,97,115,108,101,101,112]))])]
 (.ret)) (.skip)))
 (.reg [mq p16 q0,mq p17 q2,.q p18 (.nck q16),fq p19 q18 9,ln (.st q19 q17 1)])))
def f134 : Fun := .code [.t p2] (sq [.q p2 (.mv (ci 0))]
 (.seq (sq [mq p4 q0,.q p5 (.nck q4),fq p6 q5 0,lq p7 q6,.q p8 (.len q7),.q p9 (ef .num q8 (ci 0))]
 (.cond q9 (sq [.q p2 (.mv (ci 0))]
 (.ret)) (.skip)))
 (sq [mq p10 q0,.q p11 (.nck q10),fq p12 q11 0,lq p13 q12,.q p14 (.ixl 1 q13 (ci 0)),lq p15 q14,mq p3 q15]
 (sq [mq p16 q0,mq p17 q0,.q p18 (.nck q17),fq p19 q18 0,lq p20 q19,.q p21 (.sll 1 q20 (some (ci 1)) none none),.q p22 (.nck q16),fq p23 q22 0,ln (.st q23 q21 1)]
 (sq [mq p24 q3,.q p25 (.mx (ci 0) q24),mq p2 q25]
 (.ret))))))
def f135 : Fun := .code [] (.reg [mq p4 q0,mq p5 q0,.q p6 (.nck q5),fq p7 q6 1,lq p8 q7,mq p9 q1,ls p10 (.bsl 1 [o0] [(0,1,q9)]),ls p11 (.app 1 8 q8 q10),.q p12 (.nck q4),fq p13 q12 1,ln (.st q13 q11 1)])
def f136 : Fun := .code [.t p4] (sq [.q p4 (.mv (ci 0))]
 (sq [mq p6 q0,.q p7 (.nck q6),fq p8 q7 1,lq p9 q8,mq p10 q1,.q p11 (.ixl 1 q9 q10),lq p12 q11,mq p5 q12]
 (sq [mq p13 q0,mq p14 q0,.q p15 (.nck q14),fq p16 q15 1,lq p17 q16,ks p18 (.fn 66 [q17]),mq p19 q1,mq p20 q1,.q p21 (.ari .add q20 (ci 1)),ks p22 (.fn 187 [q18,q19,q21]),.q p23 (.nck q13),fq p24 q23 1,ln (.st q24 q22 1)]
 (sq [mq p25 q5,mq p4 q25]
 (.ret)))))
def f137 : Fun := .code [.t p2] (.seq (.reg [.q p2 (.mv (.c (S [])))])
 (.seq (.reg [mq p3 q0,.k (some p4) (.fn 188 [q3]),mq p2 q4])
 (.ret)))
def f138 : Fun := .code [.t p2] (sq [.q p2 (.mv (.c e0))]
 (sq [mq p3 q0,ks p4 (.fn 189 [q3]),mq p2 q4]
 (.ret)))
def f139 : Fun := .code [] (sq [ls p4 (.box q1)]
 (sq [mq p12 q0,.q p13 (.nck q12),fq p14 q13 5,lq p15 q14,.q p16 (.ldn q4 8),ks p17 (.inv q15 11 [q16]),mq p11 q17,.q p18 (.ext q11 0),.q p19 (.ext q11 1),mq p6 q18,mq p7 q19]
 (sq [.q p8 (.mv (ci 0))]
 (.seq (sq [mq p20 q0,.q p21 (.nck q20),fq p22 q21 8,lq p23 q22,.q p24 (.len q23),.q p25 (.mv (ci 0))]
 (.block 0 (.loop (sq [.q p26 (.cmp .lt q25 q24)]
 (.seq (.cond q26 (.skip) (.exit 0))
 (.seq (.block 1 (sq [.q p27 (.ixl 1 q23 q25),lq p28 q27,mq p10 q28]
 (sq [mq p29 q10,.q p30 (.nck q29),fq p31 q30 3,lq p32 q31,.q p33 (.not q32)]
 (.cond q33 (.reg [mq p34 q8,.q p35 (.ari .add q34 (ci 1)),mq p8 q35]) (.skip)))))
 (.reg [.q p36 (.ari .add q25 (ci 1)),mq p25 q36])))))))
 (.block 2 (sq [mq p66 q6,.q p67 (ef .num q66 (ci 0)),mq p65 q67]
 (.cond q65 (.reg [mq p68 q0,ks p69 (.fn 69 [q68,(.c (S [99,97,108,108,32,111,102,32,110,105,108,32,102,117,110,99,116,105,111,110]))])]) (sq [mq p71 q8,.q p72 (.cmp .ge q71 (ci 64)),mq p70 q72]
 (.cond q70 (.reg [mq p73 q0,ks p74 (.fn 132 [q73,(.c (S [102,97,116,97,108,58,32,116,111,111,32,109,97,110,121,32,103,111,114,111,117,116,105,110,101,115]))])]) (.seq (.regc [mq p37 q0,mq p38 q0,.q p39 (.nck q38),fq p40 q39 8,.qr p41 (.ld q40) 0 4,mq p42 q0,mq p43 q6,mq p44 q7,mq p45 q2,ks p46 (.fn 39 [q42,q43,q44,q45]),ls p47 (.bsl 1 [.nilp] [(0,1,q46)]),.q p48 (.build [.nils,.nils,e0,(.bool false)] [(0,1,q47)]),ls p49 (.box q48),ls p50 (.bsl 1 [.nilp] [(0,1,q49)]),ls p51 (.app 1 8 q41 q50),.q p52 (.nck q37),fq p53 q52 8,ln (.st q53 q51 1)])
 (.reg [mq p54 q0,.q p55 (.nck q54),fq p56 q55 6,lq p57 q56,mq p58 q0,.q p59 (.nck q58),fq p60 q59 8,lq p61 q60,.q p62 (.len q61),.q p63 (.ari .sub q62 (ci 1)),ks p64 (.fn 135 [q57,q63])])))))))))))
def f140 : Fun := .code [] (sq [mq p10 q0,.q p11 (.nck q10),fq p12 q11 8,lq p13 q12,mq p14 q0,.q p15 (.nck q14),fq p16 q15 9,lq p17 q16,.q p18 (.ixl 1 q13 q17),lq p19 q18,mq p6 q19]
 (sq [mq p20 q6,.q p21 (.nck q20),fq p22 q21 0,lq p23 q22,.q p24 (.len q23),mq p7 q24]
 (sq [.q p8 (.mv (.c e0))]
 (.seq (sq [mq p25 q7,.q p26 (.cmp .ge q25 (ci 2)),mq p27 q26,.g p27 true (mq p28 q1),.g p27 true (.q p29 (.nck q28)),.g p27 true (fq p30 q29 5),.g p27 true (lq p31 q30),.q p32 (.pick q27 q31 (.c (.bool false))),mq p33 q32,.g p33 true (mq p34 q6),.g p33 true (.q p35 (.nck q34)),.g p33 true (fq p36 q35 0),.g p33 true (lq p37 q36),.g p33 true (mq p38 q7),.g p33 true (.q p39 (.ari .sub q38 (ci 2))),.g p33 true (.q p40 (.ixl 1 q37 q39)),.g p33 true (lq p41 q40),.g p33 true (.q p42 (.nck q41)),.g p33 true (fq p43 q42 6),.g p33 true (lq p44 q43),.q p45 (.pick q33 q44 (.c (.bool false)))]
 (.cond q45 (sq [mq p46 q6,.q p47 (.nck q46),fq p48 q47 0,lq p49 q48,mq p50 q7,.q p51 (.ari .sub q50 (ci 2)),.q p52 (.ixl 1 q49 q51),lq p53 q52,mq p9 q53]
 (.reg [mq p54 q9,mq p55 q9,mq p56 q9,.q p57 (.nck q56),fq p58 q57 7,lq p59 q58,mq p8 q59,.q p60 (.nck q54),fq p61 q60 7,ln (.st q61 (.c e0) 1),.q p62 (.nck q55),fq p63 q62 6,ln (.st q63 (.c (.bool false)) 1)])) (.skip)))
 (.regc [mq p64 q1,.q p65 (.nck q64),fq p66 q65 2,.qr p67 (.ld q66) 0 1,mq p68 q2,mq p69 q0,.q p70 (.nck q69),fq p71 q70 5,lq p72 q71,mq p73 q8,ks p74 (.inv q72 13 [q73]),.q p75 (.ixl 8 q67 q68),ln (.st q75 q74 8)])))))
def f141 : Fun := .code [] (sq [ls p5 (.box q2)]
 (sq [mq p9 q0,.q p10 (.nck q9),fq p11 q10 5,lq p12 q11,mq p13 q1,.q p14 (.nck q13),fq p15 q14 2,lq p16 q15,fq p17 q5 2,lq p18 q17,.q p19 (.ixl 8 q16 q18),.q p20 (.ldn q19 8),.q p21 (.nck q12),mq p22 q12,ks p23 (.inv q22 8 [q20]),mq p6 q23,.q p7 (.mv (ci 0))]
 (.seq (sq [fq p24 q5 0,lq p25 q24,.q p26 (et .num q25 (ci 11)),mq p27 q26,.g p27 true (fq p28 q5 0),.g p27 true (lq p29 q28),.g p27 true (.q p30 (et .num q29 (ci 12))),.q p31 (.pick q27 q30 (.c (.bool false)))]
 (.cond q31 (.reg [mq p32 q0,.q p33 (.nck q32),fq p34 q33 5,lq p35 q34,mq p36 q1,.q p37 (.nck q36),fq p38 q37 2,lq p39 q38,fq p40 q5 3,lq p41 q40,.q p42 (.ixl 8 q39 q41),.q p43 (.ldn q42 8),.q p44 (.nck q35),mq p45 q35,ks p46 (.inv q45 8 [q43]),mq p7 q46]) (.skip)))
 (sq [.q p8 (.mv (ci 0))]
 (.seq (sq [fq p47 q5 0,lq p48 q47]
 (.block 0 (sq [.q p63 (ef .num q48 (ci 13)),mq p62 q63]
 (.cond q62 (.reg [mq p64 q6,mq p65 q7,.q p66 (.ari .add q64 q65),mq p8 q66]) (sq [.q p68 (ef .num q48 (ci 14)),mq p67 q68]
 (.cond q67 (.reg [mq p69 q6,mq p70 q7,.q p71 (.ari .sub q69 q70),mq p8 q71]) (sq [.q p73 (ef .num q48 (ci 15)),mq p72 q73]
 (.cond q72 (.reg [mq p74 q6,mq p75 q7,.q p76 (.ari .mul q74 q75),mq p8 q76]) (sq [.q p78 (ef .num q48 (ci 11)),mq p77 q78]
 (.cond q77 (.reg [mq p79 q6,.q p80 (.neg q79),mq p8 q80]) (sq [.q p82 (ef .num q48 (ci 12)),mq p81 q82]
 (.cond q81 (.seq (.regc [mq p83 q1,.q p84 (.nck q83),fq p85 q84 2,.qr p86 (.ld q85) 0 1,fq p87 q5 1,.qr p88 (.ld q87) 0 1,mq p89 q0,mq p90 q6,.q p91 (ef .num q90 (ci 0)),ks p92 (.fn 190 [q89,q91]),.q p93 (.ixl 8 q86 q88),ln (.st q93 q92 8)])
 (.ret)) (sq [.q p95 (ef .num q48 (ci 18)),mq p94 q95]
 (.cond q94 (.seq (.regc [mq p96 q1,.q p97 (.nck q96),fq p98 q97 2,.qr p99 (.ld q98) 0 1,fq p100 q5 1,.qr p101 (.ld q100) 0 1,mq p102 q0,mq p103 q6,mq p104 q7,.q p105 (.cmp .lt q103 q104),ks p106 (.fn 190 [q102,q105]),.q p107 (.ixl 8 q99 q101),ln (.st q107 q106 8)])
 (.ret)) (sq [.q p109 (ef .num q48 (ci 19)),mq p108 q109]
 (.cond q108 (.seq (.regc [mq p110 q1,.q p111 (.nck q110),fq p112 q111 2,.qr p113 (.ld q112) 0 1,fq p114 q5 1,.qr p115 (.ld q114) 0 1,mq p116 q0,mq p117 q6,mq p118 q7,.q p119 (.cmp .le q117 q118),ks p120 (.fn 190 [q116,q119]),.q p121 (.ixl 8 q113 q115),ln (.st q121 q120 8)])
 (.ret)) (.seq (sq [mq p49 q7,.q p50 (ef .num q49 (ci 0))]
 (.cond q50 (sq [mq p51 q0,ks p52 (.fn 69 [q51,(.c (S [100,105,118,105,100,101,32,98,121,32,122,101,114,111]))])]
 (.ret)) (.skip)))
 (sq [mq p53 q6,mq p54 q7,.q p55 (.ari .quo q53 q54),mq p8 q55]
 (sq [fq p56 q5 0,lq p57 q56,.q p58 (ef .num q57 (ci 17))]
 (.cond q58 (.reg [mq p59 q6,mq p60 q7,.q p61 (.ari .rem q59 q60),mq p8 q61]) (.skip)))))))))))))))))))))
 (.regc [mq p122 q1,.q p123 (.nck q122),fq p124 q123 2,.qr p125 (.ld q124) 0 1,fq p126 q5 1,.qr p127 (.ld q126) 0 1,mq p128 q0,.q p129 (.nck q128),fq p130 q129 5,lq p131 q130,mq p132 q8,ks p133 (.inv q131 0 [q132]),.q p134 (.ixl 8 q125 q127),ln (.st q134 q133 8)]))))))
def f142 : Fun := .code [] (sq [ls p5 (.box q2)]
 (sq [mq p13 q0,.q p14 (.nck q13),fq p15 q14 5,lq p16 q15,mq p6 q16]
 (sq [fq p17 q5 0,lq p18 q17]
 (.block 0 (sq [.q p20 (ef .num q18 (ci 20)),mq p19 q20]
 (.cond q19 (.regc [mq p21 q1,.q p22 (.nck q21),fq p23 q22 2,.qr p24 (.ld q23) 0 2,fq p25 q5 1,.qr p26 (.ld q25) 0 2,mq p27 q0,mq p28 q6,mq p29 q1,.q p30 (.nck q29),fq p31 q30 2,lq p32 q31,fq p33 q5 2,lq p34 q33,.q p35 (.ixl 8 q32 q34),.q p36 (.ldn q35 8),mq p37 q1,.q p38 (.nck q37),fq p39 q38 2,lq p40 q39,fq p41 q5 3,lq p42 q41,.q p43 (.ixl 8 q40 q42),.q p44 (.ldn q43 8),.q p45 (.mkm 14 q28),.q p46 (.nck q45),mq p47 q28,ks p48 (.inv q47 14 [q36,q44]),ks p49 (.fn 190 [q27,q48]),.q p50 (.ixl 8 q24 q26),ln (.st q50 q49 8)]) (sq [.q p52 (ef .num q18 (ci 21)),mq p51 q52]
 (.cond q51 (.regc [mq p53 q1,.q p54 (.nck q53),fq p55 q54 2,.qr p56 (.ld q55) 0 2,fq p57 q5 1,.qr p58 (.ld q57) 0 2,mq p59 q0,mq p60 q6,mq p61 q1,.q p62 (.nck q61),fq p63 q62 2,lq p64 q63,fq p65 q5 2,lq p66 q65,.q p67 (.ixl 8 q64 q66),.q p68 (.ldn q67 8),mq p69 q1,.q p70 (.nck q69),fq p71 q70 2,lq p72 q71,fq p73 q5 3,lq p74 q73,.q p75 (.ixl 8 q72 q74),.q p76 (.ldn q75 8),.q p77 (.mkm 14 q60),.q p78 (.nck q77),mq p79 q60,ks p80 (.inv q79 14 [q68,q76]),.q p81 (.not q80),ks p82 (.fn 190 [q59,q81]),.q p83 (.ixl 8 q56 q58),ln (.st q83 q82 8)]) (sq [.q p85 (ef .num q18 (ci 22)),mq p84 q85]
 (.cond q84 (.seq (.seq (.regc [mq p86 q6,mq p87 q1,.q p88 (.nck q87),fq p89 q88 2,lq p90 q89,fq p91 q5 2,lq p92 q91,.q p93 (.ixl 8 q90 q92),.q p94 (.ldn q93 8),.q p95 (.mkm 12 q86),.q p96 (.nck q95),mq p97 q86,ks p98 (.inv q97 12 [q94]),.q p99 (.lens q98),mq p100 q6,mq p101 q1,.q p102 (.nck q101),fq p103 q102 2,.qr p104 (.ld q103) 0 1,fq p105 q5 3,.qr p106 (.ld q105) 0 1,.q p107 (.ixl 8 q104 q106),.qr p108 (.ldn q107 8) 0 1,.q p109 (.mkm 12 q100),.q p110 (.nck q109),mq p111 q100,ks p112 (.inv q111 12 [q108]),.q p113 (.lens q112),.q p114 (.ari .add q99 q113),.q p115 (.cmp .gt q114 (ci 16384))])
 (.cond q115 (sq [mq p116 q0,ks p117 (.fn 69 [q116,(.c (S [116,101,120,116,32,116,111,111,32,108,111,110,103]))])]
 (.ret)) (.skip)))
 (.regc [mq p118 q1,.q p119 (.nck q118),fq p120 q119 2,.qr p121 (.ld q120) 0 1,fq p122 q5 1,.qr p123 (.ld q122) 0 1,mq p124 q6,mq p125 q1,.q p126 (.nck q125),fq p127 q126 2,lq p128 q127,fq p129 q5 2,lq p130 q129,.q p131 (.ixl 8 q128 q130),.q p132 (.ldn q131 8),mq p133 q1,.q p134 (.nck q133),fq p135 q134 2,lq p136 q135,fq p137 q5 3,lq p138 q137,.q p139 (.ixl 8 q136 q138),.q p140 (.ldn q139 8),.q p141 (.mkm 15 q124),.q p142 (.nck q141),mq p143 q124,ks p144 (.inv q143 15 [q132,q140]),.q p145 (.ixl 8 q121 q123),ln (.st q145 q144 8)])) (sq [.q p147 (ef .num q18 (ci 23)),mq p146 q147]
 (.cond q146 (.regc [mq p148 q1,.q p149 (.nck q148),fq p150 q149 2,.qr p151 (.ld q150) 0 3,fq p152 q5 1,.qr p153 (.ld q152) 0 3,mq p154 q0,mq p155 q6,mq p156 q1,.q p157 (.nck q156),fq p158 q157 2,lq p159 q158,fq p160 q5 2,lq p161 q160,.q p162 (.ixl 8 q159 q161),.q p163 (.ldn q162 8),.q p164 (.mkm 12 q155),.q p165 (.nck q164),mq p166 q155,ks p167 (.inv q166 12 [q163]),mq p168 q6,mq p169 q1,.q p170 (.nck q169),fq p171 q170 2,.qr p172 (.ld q171) 0 1,fq p173 q5 3,.qr p174 (.ld q173) 0 1,.q p175 (.ixl 8 q172 q174),.qr p176 (.ldn q175 8) 0 1,.q p177 (.mkm 12 q168),.q p178 (.nck q177),mq p179 q168,ks p180 (.inv q179 12 [q176]),.q p181 (.eq false false .text q167 q180),ks p182 (.fn 190 [q154,q181]),.q p183 (.ixl 8 q151 q153),ln (.st q183 q182 8)]) (sq [.q p185 (ef .num q18 (ci 24)),mq p184 q185]
 (.cond q184 (.regc [mq p186 q1,.q p187 (.nck q186),fq p188 q187 2,.qr p189 (.ld q188) 0 3,fq p190 q5 1,.qr p191 (.ld q190) 0 3,mq p192 q0,mq p193 q6,mq p194 q1,.q p195 (.nck q194),fq p196 q195 2,lq p197 q196,fq p198 q5 2,lq p199 q198,.q p200 (.ixl 8 q197 q199),.q p201 (.ldn q200 8),.q p202 (.mkm 12 q193),.q p203 (.nck q202),mq p204 q193,ks p205 (.inv q204 12 [q201]),mq p206 q6,mq p207 q1,.q p208 (.nck q207),fq p209 q208 2,.qr p210 (.ld q209) 0 1,fq p211 q5 3,.qr p212 (.ld q211) 0 1,.q p213 (.ixl 8 q210 q212),.qr p214 (.ldn q213 8) 0 1,.q p215 (.mkm 12 q206),.q p216 (.nck q215),mq p217 q206,ks p218 (.inv q217 12 [q214]),.q p219 (.cmp .lt q205 q218),ks p220 (.fn 190 [q192,q219]),.q p221 (.ixl 8 q189 q191),ln (.st q221 q220 8)]) (sq [.q p223 (ef .num q18 (ci 25)),mq p222 q223]
 (.cond q222 (.regc [mq p224 q1,.q p225 (.nck q224),fq p226 q225 2,.qr p227 (.ld q226) 0 3,fq p228 q5 1,.qr p229 (.ld q228) 0 3,mq p230 q0,mq p231 q6,mq p232 q1,.q p233 (.nck q232),fq p234 q233 2,lq p235 q234,fq p236 q5 2,lq p237 q236,.q p238 (.ixl 8 q235 q237),.q p239 (.ldn q238 8),.q p240 (.mkm 12 q231),.q p241 (.nck q240),mq p242 q231,ks p243 (.inv q242 12 [q239]),mq p244 q6,mq p245 q1,.q p246 (.nck q245),fq p247 q246 2,.qr p248 (.ld q247) 0 1,fq p249 q5 3,.qr p250 (.ld q249) 0 1,.q p251 (.ixl 8 q248 q250),.qr p252 (.ldn q251 8) 0 1,.q p253 (.mkm 12 q244),.q p254 (.nck q253),mq p255 q244,ks p256 (.inv q255 12 [q252]),.q p257 (.cmp .le q243 q256),ks p258 (.fn 190 [q230,q257]),.q p259 (.ixl 8 q227 q229),ln (.st q259 q258 8)]) (sq [.q p261 (ef .num q18 (ci 40)),mq p260 q261]
 (.cond q260 (.regc [mq p262 q1,.q p263 (.nck q262),fq p264 q263 2,.qr p265 (.ld q264) 0 2,fq p266 q5 1,.qr p267 (.ld q266) 0 2,mq p268 q6,mq p269 q6,mq p270 q1,.q p271 (.nck q270),fq p272 q271 2,lq p273 q272,fq p274 q5 2,lq p275 q274,.q p276 (.ixl 8 q273 q275),.q p277 (.ldn q276 8),.q p278 (.mkm 12 q269),.q p279 (.nck q278),mq p280 q269,ks p281 (.inv q280 12 [q277]),.q p282 (.lens q281),.q p283 (.mkm 0 q268),.q p284 (.nck q283),mq p285 q268,ks p286 (.inv q285 0 [q282]),.q p287 (.ixl 8 q265 q267),ln (.st q287 q286 8)]) (sq [.q p289 (ef .num q18 (ci 36)),mq p288 q289]
 (.cond q288 (.seq (.regc [mq p290 q6,mq p291 q1,.q p292 (.nck q291),fq p293 q292 2,lq p294 q293,fq p295 q5 2,lq p296 q295,.q p297 (.ixl 8 q294 q296),.q p298 (.ldn q297 8),.q p299 (.mkm 12 q290),.q p300 (.nck q299),mq p301 q290,ks p302 (.inv q301 12 [q298]),mq p303 q6,mq p304 q1,.q p305 (.nck q304),fq p306 q305 2,.qr p307 (.ld q306) 0 1,fq p308 q5 3,.qr p309 (.ld q308) 0 1,.q p310 (.ixl 8 q307 q309),.qr p311 (.ldn q310 8) 0 1,.q p312 (.mkm 8 q303),.q p313 (.nck q312),mq p314 q303,ks p315 (.inv q314 8 [q311]),mq p7 q302,mq p8 q315])
 (.seq (sq [mq p316 q8,.q p317 (.cmp .lt q316 (ci 0)),mq p318 q317,.g p318 false (mq p319 q8),.g p318 false (mq p320 q7),.g p318 false (.q p321 (.lens q320)),.g p318 false (.q p322 (.cmp .ge q319 q321)),.q p323 (.pick q318 (.c (.bool true)) q322)]
 (.cond q323 (sq [mq p324 q0,ks p325 (.fn 69 [q324,(.c (S [105,110,100,101,120,32,111,117,116,32,111,102,32,114,97,110,103,101]))])]
 (.ret)) (.skip)))
 (.regc [mq p326 q1,.q p327 (.nck q326),fq p328 q327 2,.qr p329 (.ld q328) 0 1,fq p330 q5 1,.qr p331 (.ld q330) 0 1,mq p332 q6,mq p333 q7,mq p334 q8,.q p335 (.ixs q333 q334),.q p336 (.conv .i64 q335),.q p337 (.mkm 0 q332),.q p338 (.nck q337),mq p339 q332,ks p340 (.inv q339 0 [q336]),.q p341 (.ixl 8 q329 q331),ln (.st q341 q340 8)]))) (sq [.q p343 (ef .num q18 (ci 38)),mq p342 q343]
 (.cond q342 (sq [mq p344 q6,mq p345 q1,.q p346 (.nck q345),fq p347 q346 2,lq p348 q347,fq p349 q5 2,lq p350 q349,.q p351 (.ixl 8 q348 q350),.q p352 (.ldn q351 8),.q p353 (.mkm 12 q344),.q p354 (.nck q353),mq p355 q344,ks p356 (.inv q355 12 [q352]),.q p357 (.lens q356),mq p9 q357]
 (sq [mq p359 q0,mq p360 q1,.q p361 (.ldn q5 6),mq p362 q9,mq p363 q9,ks p364 (.fn 191 [q359,q360,q361,q362,q363]),mq p358 q364,.q p365 (.ext q358 0),.q p366 (.ext q358 1),.q p367 (.ext q358 2),mq p10 q365,mq p11 q366,mq p12 q367]
 (sq [mq p368 q12]
 (.cond q368 (.regc [mq p369 q1,.q p370 (.nck q369),fq p371 q370 2,.qr p372 (.ld q371) 0 1,fq p373 q5 1,.qr p374 (.ld q373) 0 1,mq p375 q6,mq p376 q1,.q p377 (.nck q376),fq p378 q377 2,lq p379 q378,fq p380 q5 2,lq p381 q380,.q p382 (.ixl 8 q379 q381),.q p383 (.ldn q382 8),mq p384 q10,mq p385 q11,.q p386 (.mkm 16 q375),.q p387 (.nck q386),mq p388 q375,ks p389 (.inv q388 16 [q383,q384,q385]),.q p390 (.ixl 8 q372 q374),ln (.st q390 q389 8)]) (.skip))))) (.skip)))))))))))))))))))))))
def f143 : Fun := .code [] (sq [ls p5 (.box q2)]
 (.seq (.regc [mq p14 q0,.q p15 (.nck q14),fq p16 q15 0,fq p17 q16 3,.qr p18 (.ld q17) 0 1,mq p19 q1,.q p20 (.nck q19),fq p21 q20 0,.qr p22 (.ld q21) 0 1,.q p23 (.ari .sub q22 (ci 1)),.q p24 (.ixl 6 q18 q23),.qr p25 (.ldn q24 6) 0 1,ls p6 (.alloc [e0,.nils,o0,o0,(.bool false),.nils]),ln (.st q6 q25 6)])
 (sq [fq p26 q5 0,lq p27 q26]
 (.block 0 (sq [.q p29 (ef .num q27 (ci 33)),mq p28 q29]
 (.cond q28 (sq [mq p30 q0,.q p31 (.nck q30),fq p32 q31 5,lq p33 q32,mq p34 q1,.q p35 (.nck q34),fq p36 q35 2,lq p37 q36,fq p38 q5 2,lq p39 q38,.q p40 (.ixl 8 q37 q39),.q p41 (.ldn q40 8),.q p42 (.nck q33),mq p43 q33,ks p44 (.inv q43 8 [q41]),mq p7 q44]
 (.seq (sq [mq p45 q7,.q p46 (.cmp .lt q45 (ci 0)),mq p47 q46,.g p47 false (mq p48 q7),.g p47 false (.q p49 (.cmp .gt q48 (ci 1024))),.q p50 (.pick q47 (.c (.bool true)) q49)]
 (.cond q50 (sq [mq p51 q0,ks p52 (.fn 69 [q51,(.c (S [98,97,100,32,108,101,110,103,116,104]))])]
 (.ret)) (.skip)))
 (.regc [mq p53 q1,.q p54 (.nck q53),fq p55 q54 2,.qr p56 (.ld q55) 0 1,fq p57 q5 1,.qr p58 (.ld q57) 0 1,mq p59 q0,.q p60 (.nck q59),fq p61 q60 5,lq p62 q61,mq p63 q7,fq p64 q5 3,lq p65 q64,.q p66 (ef .num q65 (ci 1)),ks p67 (.inv q62 17 [q63,q66]),.q p68 (.ixl 8 q56 q58),ln (.st q68 q67 8)]))) (.seq (sq [.q p70 (ef .num q27 (ci 43)),mq p69 q70]
 (.cond q69 (.skip) (.reg [.q p71 (ef .num q27 (ci 44)),mq p69 q71])))
 (.cond q69 (sq [.q p8 (.mv (ci 0)),.q p9 (.mv (ci 0))]
 (.seq (.seq (.regc [mq p72 q1,.q p73 (.nck q72),fq p74 q73 2,.qr p75 (.ld q74) 0 1,fq p76 q5 2,.qr p77 (.ld q76) 0 1,.q p78 (.ixl 8 q75 q77),.qr p79 (.ldn q78 8) 0 1,ls p10 (.alloc [o0,e0,.nilp,o0,o0,o0,.nilp,.nilp]),ln (.st q10 q79 8)])
 (sq [mq p80 q0,.q p81 (.nck q80),fq p82 q81 5,lq p83 q82,.q p84 (.ldn q10 8),ks p85 (.inv q83 18 [q84]),.q p86 (et .num q85 (ci 0))]
 (.cond q86 (.reg [mq p88 q0,.q p89 (.nck q88),fq p90 q89 5,lq p91 q90,.q p92 (.ldn q10 8),ks p93 (.inv q91 19 [q92]),mq p87 q93,.q p94 (.ext q87 0),.q p95 (.ext q87 1),mq p8 q94,mq p9 q95]) (.skip))))
 (.seq (sq [fq p96 q5 0,lq p97 q96,.q p98 (ef .num q97 (ci 44))]
 (.cond q98 (.reg [mq p99 q9,mq p8 q99]) (.skip)))
 (.regc [mq p100 q1,.q p101 (.nck q100),fq p102 q101 2,.qr p103 (.ld q102) 0 1,fq p104 q5 1,.qr p105 (.ld q104) 0 1,mq p106 q0,.q p107 (.nck q106),fq p108 q107 5,lq p109 q108,mq p110 q8,ks p111 (.inv q109 0 [q110]),.q p112 (.ixl 8 q103 q105),ln (.st q112 q111 8)])))) (sq [.q p114 (ef .num q27 (ci 51)),mq p113 q114]
 (.cond q113 (.reg [mq p115 q0,mq p116 q1,.q p117 (.nck q116),fq p118 q117 2,lq p119 q118,fq p120 q5 1,lq p121 q120,.q p122 (.ixl 8 q119 q121),.q p123 (.ldn q122 8),ks p124 (.fn 192 [q115,q123])]) (sq [.q p126 (ef .num q27 (ci 49)),mq p125 q126]
 (.cond q125 (.regc [mq p127 q0,mq p128 q1,mq p129 q1,.q p130 (.nck q129),fq p131 q130 2,.qr p132 (.ld q131) 0 1,fq p133 q5 1,.qr p134 (.ld q133) 0 1,.q p135 (.ixl 8 q132 q134),.qr p136 (.ldn q135 8) 0 1,mq p137 q1,.q p138 (.nck q137),fq p139 q138 2,.qr p140 (.ld q139) 0 1,fq p141 q5 2,.qr p142 (.ld q141) 0 1,.q p143 (.ixl 8 q140 q142),.qr p144 (.ldn q143 8) 0 1,.q p145 (.ldn q6 6),fq p146 q5 2,lq p147 q146,ks p148 (.fn 100 [q145,q147]),.q p149 (.build [o0,o0,e0,.nilp,o0,o0,o0,.nilp,.nilp,o0,e0,.nilp,o0,o0,o0,.nilp,.nilp,o0,o0,(.bool false)] [(0,1,(ci 2)),(1,8,q136),(9,8,q144),(18,1,(.c (.int .i64 (.lit (.negSucc 0))))),(19,1,q148)]),ls p150 (.bsl 1 [o0,o0,e0,.nilp,o0,o0,o0,.nilp,.nilp,o0,e0,.nilp,o0,o0,o0,.nilp,.nilp,o0,o0,(.bool false)] [(0,20,q149)]),ks p151 (.fn 193 [q127,q128,q150,(.c (.int .i64 (.lit (.negSucc 0))))])]) (sq [.q p153 (ef .num q27 (ci 50)),mq p152 q153]
 (.cond q152 (.reg [mq p154 q0,mq p155 q1,mq p156 q1,.q p157 (.nck q156),fq p158 q157 2,lq p159 q158,fq p160 q5 2,lq p161 q160,.q p162 (.ixl 8 q159 q161),.q p163 (.ldn q162 8),fq p164 q5 1,lq p165 q164,.q p166 (.build [o0,o0,e0,.nilp,o0,o0,o0,.nilp,.nilp,o0,e0,.nilp,o0,o0,o0,.nilp,.nilp,o0,o0,(.bool false)] [(0,1,(ci 1)),(1,8,q163),(17,1,q165),(18,1,(.c (.int .i64 (.lit (.negSucc 0)))))]),ls p167 (.bsl 1 [o0,o0,e0,.nilp,o0,o0,o0,.nilp,.nilp,o0,e0,.nilp,o0,o0,o0,.nilp,.nilp,o0,o0,(.bool false)] [(0,20,q166)]),ks p168 (.fn 193 [q154,q155,q167,(.c (.int .i64 (.lit (.negSucc 0))))])]) (sq [.q p170 (ef .num q27 (ci 52)),mq p169 q170]
 (.cond q169 (sq [.q p11 (.mv (.c .nils))]
 (.seq (sq [.q p12 (.mv (ci 0))]
 (.block 1 (.loop (.seq (sq [mq p171 q12,fq p172 q5 5,lq p173 q172,.q p174 (.len q173),.q p175 (.cmp .lt q171 q174)]
 (.cond q175 (.skip) (.exit 1)))
 (.seq (.block 2 (.seq (.regc [fq p178 q5 5,.qr p179 (.ld q178) 0 1,mq p180 q12,.q p181 (.ixl 1 q179 q180),.qr p182 (.ld q181) 0 1,mq p183 q1,.q p184 (.nck q183),fq p185 q184 2,.qr p186 (.ld q185) 0 1,fq p187 q5 5,.qr p188 (.ld q187) 0 1,mq p189 q12,.q p190 (.ari .add q189 (ci 1)),.q p191 (.ixl 1 q188 q190),.qr p192 (.ld q191) 0 1,.q p193 (.ixl 8 q186 q192),.qr p194 (.ldn q193 8) 0 1,fq p195 q5 5,.qr p196 (.ld q195) 0 1,mq p197 q12,.q p198 (.ari .add q197 (ci 3)),.q p199 (.ixl 1 q196 q198),.qr p200 (.ld q199) 0 1,fq p201 q5 5,.qr p202 (.ld q201) 0 1,mq p203 q12,.q p204 (.ari .add q203 (ci 2)),.q p205 (.ixl 1 q202 q204),.qr p206 (.ld q205) 0 1,.q p207 (.build [o0,o0,e0,.nilp,o0,o0,o0,.nilp,.nilp,o0,e0,.nilp,o0,o0,o0,.nilp,.nilp,o0,o0,(.bool false)] [(0,1,q182),(1,8,q194),(18,1,q200),(17,1,q206)]),ls p13 (.alloc [o0,o0,e0,.nilp,o0,o0,o0,.nilp,.nilp,o0,e0,.nilp,o0,o0,o0,.nilp,.nilp,o0,o0,(.bool false)]),ln (.st q13 q207 20)])
 (.seq (sq [fq p208 q13 0,lq p209 q208,.q p210 (ef .num q209 (ci 2))]
 (.cond q210 (.regc [mq p211 q1,.q p212 (.nck q211),fq p213 q212 2,.qr p214 (.ld q213) 0 1,fq p215 q5 5,.qr p216 (.ld q215) 0 1,mq p217 q12,.q p218 (.ari .add q217 (ci 2)),.q p219 (.ixl 1 q216 q218),.qr p220 (.ld q219) 0 1,.q p221 (.ixl 8 q214 q220),.qr p222 (.ldn q221 8) 0 1,.q p223 (.ldn q6 6),fq p224 q5 5,lq p225 q224,mq p226 q12,.q p227 (.ari .add q226 (ci 2)),.q p228 (.ixl 1 q225 q227),lq p229 q228,ks p230 (.fn 100 [q223,q229]),fq p231 q13 9,ln (.st q231 q222 8),fq p232 q13 19,ln (.st q232 q230 1)]) (.skip)))
 (.reg [mq p233 q11,.q p234 (.ldn q13 20),ls p235 (.bsl 1 [o0,o0,e0,.nilp,o0,o0,o0,.nilp,.nilp,o0,e0,.nilp,o0,o0,o0,.nilp,.nilp,o0,o0,(.bool false)] [(0,20,q234)]),ls p236 (.app 20 176 q233 q235),mq p11 q236]))))
 (.reg [mq p176 q12,.q p177 (.ari .add q176 (ci 4)),mq p12 q177]))))))
 (.reg [mq p237 q0,mq p238 q1,mq p239 q11,fq p240 q5 2,lq p241 q240,ks p242 (.fn 193 [q237,q238,q239,q241])]))) (.skip)))))))))))))))))
def f144 : Fun := .code [] (sq [ls p5 (.box q2)]
 (sq [mq p19 q0,.q p20 (.nck q19),fq p21 q20 5,lq p22 q21,mq p6 q22]
 (sq [fq p23 q5 0,lq p24 q23]
 (.block 0 (sq [.q p26 (ef .num q24 (ci 28)),mq p25 q26]
 (.cond q25 (.regc [mq p27 q1,.q p28 (.nck q27),fq p29 q28 2,.qr p30 (.ld q29) 0 1,fq p31 q5 1,.qr p32 (.ld q31) 0 1,mq p33 q6,mq p34 q0,.q p35 (.nck q34),fq p36 q35 0,fq p37 q36 2,lq p38 q37,fq p39 q5 2,lq p40 q39,.q p41 (.ixl 1 q38 q40),lq p42 q41,.q p43 (.mkm 20 q33),.q p44 (.nck q43),mq p45 q33,ks p46 (.inv q45 20 [q42]),.q p47 (.ixl 8 q30 q32),ln (.st q47 q46 8)]) (.seq (sq [.q p49 (ef .num q24 (ci 29)),mq p48 q49]
 (.cond q48 (.skip) (.reg [.q p50 (ef .num q24 (ci 30)),mq p48 q50])))
 (.cond q48 (.reg [mq p51 q0,mq p52 q1,.q p53 (.ldn q5 6),ks p54 (.fn 194 [q51,q52,q53])]) (sq [.q p56 (ef .num q24 (ci 31)),mq p55 q56]
 (.cond q55 (.regc [mq p57 q1,.q p58 (.nck q57),fq p59 q58 2,.qr p60 (.ld q59) 0 2,fq p61 q5 1,.qr p62 (.ld q61) 0 2,mq p63 q6,mq p64 q1,fq p65 q5 5,lq p66 q65,ks p67 (.fn 99 [q64,q66]),fq p68 q5 2,.qr p69 (.ld q68) 0 1,.q p70 (ef .num q69 (ci 1)),.q p71 (.mkm 21 q63),.q p72 (.nck q71),mq p73 q63,ks p74 (.inv q73 21 [q67,q70]),.q p75 (.ixl 8 q60 q62),ln (.st q75 q74 8)]) (sq [.q p77 (ef .num q24 (ci 32)),mq p76 q77]
 (.cond q76 (sq [mq p78 q6,mq p79 q1,.q p80 (.nck q79),fq p81 q80 2,lq p82 q81,fq p83 q5 2,lq p84 q83,.q p85 (.ixl 8 q82 q84),.q p86 (.ldn q85 8),.q p87 (.mkm 8 q78),.q p88 (.nck q87),mq p89 q78,ks p90 (.inv q89 8 [q86]),mq p7 q90]
 (.seq (sq [mq p91 q7,.q p92 (.cmp .lt q91 (ci 0)),mq p93 q92,.g p93 false (mq p94 q7),.g p93 false (.q p95 (.cmp .gt q94 (ci 1024))),.q p96 (.pick q93 (.c (.bool true)) q95)]
 (.cond q96 (sq [mq p97 q0,ks p98 (.fn 69 [q97,(.c (S [98,97,100,32,108,101,110,103,116,104]))])]
 (.ret)) (.skip)))
 (.regc [mq p99 q1,.q p100 (.nck q99),fq p101 q100 2,.qr p102 (.ld q101) 0 1,fq p103 q5 1,.qr p104 (.ld q103) 0 1,mq p105 q6,mq p106 q7,fq p107 q5 3,lq p108 q107,.q p109 (ef .num q108 (ci 1)),ks p110 (.inv q105 22 [q106,q109]),.q p111 (.ixl 8 q102 q104),ln (.st q111 q110 8)]))) (.seq (sq [.q p113 (ef .num q24 (ci 34)),mq p112 q113]
 (.cond q112 (.skip) (.reg [.q p114 (ef .num q24 (ci 35)),mq p112 q114])))
 (.cond q112 (.reg [mq p115 q0,mq p116 q1,.q p117 (.ldn q5 6),ks p118 (.fn 195 [q115,q116,q117])]) (sq [.q p120 (ef .num q24 (ci 37)),mq p119 q120]
 (.cond q119 (sq [mq p122 q6,mq p123 q1,.q p124 (.nck q123),fq p125 q124 2,lq p126 q125,fq p127 q5 2,lq p128 q127,.q p129 (.ixl 8 q126 q128),.q p130 (.ldn q129 8),.q p131 (.mkm 23 q122),.q p132 (.nck q131),mq p133 q122,ks p134 (.inv q133 23 [q130]),mq p121 q134,.q p135 (.ext q121 0),.q p136 (.ext q121 1),mq p8 q135,mq p9 q136]
 (sq [mq p138 q0,mq p139 q1,.q p140 (.ldn q5 6),mq p141 q8,mq p142 q9,ks p143 (.fn 191 [q138,q139,q140,q141,q142]),mq p137 q143,.q p144 (.ext q137 0),.q p145 (.ext q137 1),.q p146 (.ext q137 2),mq p10 q144,mq p11 q145,mq p12 q146]
 (sq [mq p147 q12]
 (.cond q147 (.regc [mq p148 q1,.q p149 (.nck q148),fq p150 q149 2,.qr p151 (.ld q150) 0 1,fq p152 q5 1,.qr p153 (.ld q152) 0 1,mq p154 q6,mq p155 q1,.q p156 (.nck q155),fq p157 q156 2,lq p158 q157,fq p159 q5 2,lq p160 q159,.q p161 (.ixl 8 q158 q160),.q p162 (.ldn q161 8),mq p163 q10,mq p164 q11,.q p165 (.mkm 24 q154),.q p166 (.nck q165),mq p167 q154,ks p168 (.inv q167 24 [q162,q163,q164]),.q p169 (.ixl 8 q151 q153),ln (.st q169 q168 8)]) (.skip))))) (sq [.q p171 (ef .num q24 (ci 39)),mq p170 q171]
 (.cond q170 (sq [mq p173 q6,mq p174 q1,.q p175 (.nck q174),fq p176 q175 2,lq p177 q176,fq p178 q5 2,lq p179 q178,.q p180 (.ixl 8 q177 q179),.q p181 (.ldn q180 8),.q p182 (.mkm 23 q173),.q p183 (.nck q182),mq p184 q173,ks p185 (.inv q184 23 [q181]),mq p172 q185,.q p186 (.ext q172 0),.q p187 (.ext q172 1),mq p13 q186,mq p14 q187]
 (.seq (sq [mq p188 q13,fq p189 q5 5,lq p190 q189,.q p191 (.len q190),.q p192 (.ari .add q188 q191),.q p193 (.cmp .gt q192 (ci 16384))]
 (.cond q193 (sq [mq p194 q0,ks p195 (.fn 69 [q194,(.c (S [115,108,105,99,101,32,116,111,111,32,108,111,110,103]))])]
 (.ret)) (.skip)))
 (.regc [mq p196 q1,.q p197 (.nck q196),fq p198 q197 2,.qr p199 (.ld q198) 0 2,fq p200 q5 1,.qr p201 (.ld q200) 0 2,mq p202 q6,mq p203 q1,.q p204 (.nck q203),fq p205 q204 2,.qr p206 (.ld q205) 0 1,fq p207 q5 2,.qr p208 (.ld q207) 0 1,.q p209 (.ixl 8 q206 q208),.qr p210 (.ldn q209 8) 0 1,mq p211 q1,fq p212 q5 5,lq p213 q212,ks p214 (.fn 99 [q211,q213]),fq p215 q5 3,.qr p216 (.ld q215) 0 1,.q p217 (ef .num q216 (ci 1)),.q p218 (.mkm 25 q202),.q p219 (.nck q218),mq p220 q202,ks p221 (.inv q220 25 [q210,q214,q217]),.q p222 (.ixl 8 q199 q201),ln (.st q222 q221 8)]))) (sq [.q p224 (ef .num q24 (ci 41)),mq p223 q224]
 (.cond q223 (sq [mq p226 q6,mq p227 q1,.q p228 (.nck q227),fq p229 q228 2,lq p230 q229,fq p231 q5 2,lq p232 q231,.q p233 (.ixl 8 q230 q232),.q p234 (.ldn q233 8),.q p235 (.mkm 23 q226),.q p236 (.nck q235),mq p237 q226,ks p238 (.inv q237 23 [q234]),mq p225 q238,.q p239 (.ext q225 0),.q p240 (.ext q225 1),mq p15 q239,mq p16 q240]
 (.regc [mq p241 q1,.q p242 (.nck q241),fq p243 q242 2,.qr p244 (.ld q243) 0 1,fq p245 q5 1,.qr p246 (.ld q245) 0 1,mq p247 q6,mq p248 q15,ks p249 (.inv q247 0 [q248]),.q p250 (.ixl 8 q244 q246),ln (.st q250 q249 8)])) (sq [.q p252 (ef .num q24 (ci 42)),mq p251 q252]
 (.cond q251 (sq [mq p254 q6,mq p255 q1,.q p256 (.nck q255),fq p257 q256 2,lq p258 q257,fq p259 q5 2,lq p260 q259,.q p261 (.ixl 8 q258 q260),.q p262 (.ldn q261 8),.q p263 (.mkm 23 q254),.q p264 (.nck q263),mq p265 q254,ks p266 (.inv q265 23 [q262]),mq p253 q266,.q p267 (.ext q253 0),.q p268 (.ext q253 1),mq p17 q267,mq p18 q268]
 (.regc [mq p269 q1,.q p270 (.nck q269),fq p271 q270 2,.qr p272 (.ld q271) 0 1,fq p273 q5 1,.qr p274 (.ld q273) 0 1,mq p275 q6,mq p276 q18,ks p277 (.inv q275 0 [q276]),.q p278 (.ixl 8 q272 q274),ln (.st q278 q277 8)])) (.skip)))))))))))))))))))))))
def f145 : Fun := .code [.t p4] (sq [.q p4 (.mv (ci 0))]
 (sq [mq p5 q0,mq p6 q1,ks p7 (.fn 196 [q5,q6,(.c (.bool true))]),mq p4 q7]
 (.ret)))
def f146 : Fun := .code [.t p2] (sq [.q p2 (.mv (.c (.bool false)))]
 (sq [mq p3 q0,.q p4 (.cmp .ge q3 (.c (.int .i32 (.lit (.ofNat 97))))),mq p5 q4,.g p5 true (mq p6 q0),.g p5 true (.q p7 (.cmp .le q6 (.c (.int .i32 (.lit (.ofNat 122)))))),.q p8 (.pick q5 q7 (.c (.bool false))),mq p9 q8,.g p9 false (mq p10 q0),.g p9 false (.q p11 (.cmp .ge q10 (.c (.int .i32 (.lit (.ofNat 65)))))),.g p9 false (mq p12 q11),.g p12 true (mq p13 q0),.g p12 true (.q p14 (.cmp .le q13 (.c (.int .i32 (.lit (.ofNat 90)))))),.g p9 false (.q p15 (.pick q12 q14 (.c (.bool false)))),.q p16 (.pick q9 (.c (.bool true)) q15),mq p17 q16,.g p17 false (mq p18 q0),.g p17 false (.q p19 (ef .num q18 (.c (.int .i32 (.lit (.ofNat 95)))))),.q p20 (.pick q17 (.c (.bool true)) q19),mq p21 q20,.g p21 false (mq p22 q0),.g p21 false (.q p23 (.cmp .ge q22 (.c (.int .i32 (.lit (.ofNat 48)))))),.g p21 false (mq p24 q23),.g p24 true (mq p25 q0),.g p24 true (.q p26 (.cmp .le q25 (.c (.int .i32 (.lit (.ofNat 57)))))),.g p21 false (.q p27 (.pick q24 q26 (.c (.bool false)))),.q p28 (.pick q21 (.c (.bool true)) q27),.q p29 (.not q28),mq p2 q29]
 (.ret)))
def f147 : Fun := .code [.t p2] (sq [.q p2 (.mv (.c (.bool false)))]
 (.seq (sq [mq p3 q0]
 (.block 0 (.seq (sq [.q p5 (ef .text q3 (.c (S [97,112,112,101,110,100]))),mq p4 q5]
 (.cond q4 (.skip) (sq [.q p6 (ef .text q3 (.c (S [98,111,111,108]))),mq p4 q6]
 (.cond q4 (.skip) (sq [.q p7 (ef .text q3 (.c (S [98,114,101,97,107]))),mq p4 q7]
 (.cond q4 (.skip) (sq [.q p8 (ef .text q3 (.c (S [99,97,112]))),mq p4 q8]
 (.cond q4 (.skip) (sq [.q p9 (ef .text q3 (.c (S [99,97,115,101]))),mq p4 q9]
 (.cond q4 (.skip) (sq [.q p10 (ef .text q3 (.c (S [99,104,97,110]))),mq p4 q10]
 (.cond q4 (.skip) (sq [.q p11 (ef .text q3 (.c (S [99,108,111,115,101]))),mq p4 q11]
 (.cond q4 (.skip) (sq [.q p12 (ef .text q3 (.c (S [99,111,110,116,105,110,117,101]))),mq p4 q12]
 (.cond q4 (.skip) (sq [.q p13 (ef .text q3 (.c (S [100,101,102,97,117,108,116]))),mq p4 q13]
 (.cond q4 (.skip) (sq [.q p14 (ef .text q3 (.c (S [100,101,102,101,114]))),mq p4 q14]
 (.cond q4 (.skip) (sq [.q p15 (ef .text q3 (.c (S [101,108,115,101]))),mq p4 q15]
 (.cond q4 (.skip) (sq [.q p16 (ef .text q3 (.c (S [102,97,108,108,116,104,114,111,117,103,104]))),mq p4 q16]
 (.cond q4 (.skip) (sq [.q p17 (ef .text q3 (.c (S [102,97,108,115,101]))),mq p4 q17]
 (.cond q4 (.skip) (sq [.q p18 (ef .text q3 (.c (S [102,111,114]))),mq p4 q18]
 (.cond q4 (.skip) (sq [.q p19 (ef .text q3 (.c (S [102,117,110,99]))),mq p4 q19]
 (.cond q4 (.skip) (sq [.q p20 (ef .text q3 (.c (S [103,111]))),mq p4 q20]
 (.cond q4 (.skip) (sq [.q p21 (ef .text q3 (.c (S [105,102]))),mq p4 q21]
 (.cond q4 (.skip) (sq [.q p22 (ef .text q3 (.c (S [105,110,116]))),mq p4 q22]
 (.cond q4 (.skip) (sq [.q p23 (ef .text q3 (.c (S [108,101,110]))),mq p4 q23]
 (.cond q4 (.skip) (sq [.q p24 (ef .text q3 (.c (S [109,97,107,101]))),mq p4 q24]
 (.cond q4 (.skip) (sq [.q p25 (ef .text q3 (.c (S [110,101,119]))),mq p4 q25]
 (.cond q4 (.skip) (sq [.q p26 (ef .text q3 (.c (S [110,105,108]))),mq p4 q26]
 (.cond q4 (.skip) (sq [.q p27 (ef .text q3 (.c (S [112,97,110,105,99]))),mq p4 q27]
 (.cond q4 (.skip) (sq [.q p28 (ef .text q3 (.c (S [112,114,105,110,116]))),mq p4 q28]
 (.cond q4 (.skip) (sq [.q p29 (ef .text q3 (.c (S [114,101,99,111,118,101,114]))),mq p4 q29]
 (.cond q4 (.skip) (sq [.q p30 (ef .text q3 (.c (S [114,101,116,117,114,110]))),mq p4 q30]
 (.cond q4 (.skip) (sq [.q p31 (ef .text q3 (.c (S [115,101,108,101,99,116]))),mq p4 q31]
 (.cond q4 (.skip) (sq [.q p32 (ef .text q3 (.c (S [115,116,114,105,110,103]))),mq p4 q32]
 (.cond q4 (.skip) (sq [.q p33 (ef .text q3 (.c (S [115,116,114,117,99,116]))),mq p4 q33]
 (.cond q4 (.skip) (sq [.q p34 (ef .text q3 (.c (S [115,119,105,116,99,104]))),mq p4 q34]
 (.cond q4 (.skip) (sq [.q p35 (ef .text q3 (.c (S [116,114,117,101]))),mq p4 q35]
 (.cond q4 (.skip) (sq [.q p36 (ef .text q3 (.c (S [116,121,112,101]))),mq p4 q36]
 (.cond q4 (.skip) (.reg [.q p37 (ef .text q3 (.c (S [118,97,114]))),mq p4 q37])))))))))))))))))))))))))))))))))))))))))))))))))))))))))))))))))
 (.cond q4 (sq [.q p2 (.mv (.c (.bool true)))]
 (.ret)) (.skip)))))
 (sq [.q p2 (.mv (.c (.bool false)))]
 (.ret))))
def f148 : Fun := .code [] (sq [mq p8 q1,.q p9 (.ari .add q8 (ci 1)),mq p6 q9]
 (.block 0 (.loop (.seq (sq [mq p10 q6,mq p11 q2,.q p12 (.cmp .lt q10 q11)]
 (.cond q12 (.skip) (.exit 0)))
 (.seq (.block 1 (sq [mq p15 q6,mq p7 q15]
 (.block 2 (.loop (.seq (sq [mq p16 q7,mq p17 q1,.q p18 (.cmp .gt q16 q17),mq p19 q18,.g p19 true (mq p20 q0),.g p19 true (mq p21 q7),.g p19 true (.q p22 (.ixl 1 q20 q21)),.g p19 true (lq p23 q22),.g p19 true (mq p24 q0),.g p19 true (mq p25 q7),.g p19 true (.q p26 (.ari .sub q25 (ci 1))),.g p19 true (.q p27 (.ixl 1 q24 q26)),.g p19 true (lq p28 q27),.g p19 true (ks p29 (.fn 154 [q23,q28])),.q p30 (.pick q19 q29 (.c (.bool false)))]
 (.cond q30 (.skip) (.exit 2)))
 (.seq (.block 3 (.reg [mq p33 q0,mq p34 q7,mq p35 q0,mq p36 q7,.q p37 (.ari .sub q36 (ci 1)),mq p38 q0,mq p39 q7,.q p40 (.ari .sub q39 (ci 1)),.q p41 (.ixl 1 q38 q40),lq p42 q41,mq p43 q0,mq p44 q7,.q p45 (.ixl 1 q43 q44),lq p46 q45,.q p47 (.ixl 1 q33 q34),ln (.st q47 q42 1),.q p48 (.ixl 1 q35 q37),ln (.st q48 q46 1)]))
 (.reg [mq p31 q7,.q p32 (.ari .sub q31 (ci 1)),mq p7 q32])))))))
 (.reg [mq p13 q6,.q p14 (.ari .add q13 (ci 1)),mq p6 q14]))))))
def f149 : Fun := .code [] (sq [mq p11 q1,mq p6 q11]
 (sq [.q p7 (.mv (ci 0))]
 (sq [mq p12 q2,mq p13 q1,.q p14 (.ari .sub q12 q13),mq p8 q14]
 (.seq (sq [mq p15 q8,.q p16 (.ari .sub q15 (ci 1)),.q p17 (.ari .quo q16 (ci 2)),mq p9 q17]
 (.block 0 (.loop (.seq (sq [mq p18 q9,.q p19 (.cmp .ge q18 (ci 0))]
 (.cond q19 (.skip) (.exit 0)))
 (.seq (.block 1 (.reg [mq p22 q0,mq p23 q9,mq p24 q8,mq p25 q6,ks p26 (.fn 197 [q22,q23,q24,q25])]))
 (.reg [mq p20 q9,.q p21 (.ari .sub q20 (ci 1)),mq p9 q21]))))))
 (sq [mq p27 q8,.q p28 (.ari .sub q27 (ci 1)),mq p10 q28]
 (.block 2 (.loop (.seq (sq [mq p29 q10,.q p30 (.cmp .ge q29 (ci 0))]
 (.cond q30 (.skip) (.exit 2)))
 (.seq (.block 3 (sq [mq p33 q0,mq p34 q6,mq p35 q0,mq p36 q6,mq p37 q10,.q p38 (.ari .add q36 q37),mq p39 q0,mq p40 q6,mq p41 q10,.q p42 (.ari .add q40 q41),.q p43 (.ixl 1 q39 q42),lq p44 q43,mq p45 q0,mq p46 q6,.q p47 (.ixl 1 q45 q46),lq p48 q47,.q p49 (.ixl 1 q33 q34),ln (.st q49 q44 1),.q p50 (.ixl 1 q35 q38),ln (.st q50 q48 1)]
 (.reg [mq p51 q0,mq p52 q7,mq p53 q10,mq p54 q6,ks p55 (.fn 197 [q51,q52,q53,q54])])))
 (.reg [mq p31 q10,.q p32 (.ari .sub q31 (ci 1)),mq p10 q32]))))))))))
def f150 : Fun := .code [] (sq [mq p11 q2,mq p12 q1,.q p13 (.ari .sub q11 q12),mq p6 q13]
 (sq [mq p14 q6,.q p15 (.cmp .ge q14 (ci 8))]
 (.cond q15 (sq [mq p16 q6,.q p17 (.conv .u64 q16),ls p7 (.alloc [(.int .u64 (.lit (.ofNat 0)))]),ln (.st q7 q17 1)]
 (sq [mq p18 q6,ks p19 (.fn 198 [q18]),mq p8 q19]
 (sq [mq p20 q1,mq p21 q6,.q p22 (.ari .quo q21 (ci 4)),.q p23 (.ari .mul q22 (ci 2)),.q p24 (.ari .add q20 q23),.q p25 (.ari .sub q24 (ci 1)),mq p9 q25]
 (.block 0 (.loop (.seq (sq [mq p26 q9,mq p27 q1,mq p28 q6,.q p29 (.ari .quo q28 (ci 4)),.q p30 (.ari .mul q29 (ci 2)),.q p31 (.ari .add q27 q30),.q p32 (.ari .add q31 (ci 1)),.q p33 (.cmp .le q26 q32)]
 (.cond q33 (.skip) (.exit 0)))
 (.seq (.block 1 (sq [ks p36 (.fn 199 [q7]),mq p37 q8,.q p38 (.ari .sub q37 (.c (.int .u64 (.lit (.ofNat 1))))),.q p39 (.bits .and q36 q38),.q p40 (.conv .i64 q39),mq p10 q40]
 (.seq (sq [mq p41 q10,mq p42 q6,.q p43 (.cmp .ge q41 q42)]
 (.cond q43 (.reg [mq p44 q10,mq p45 q6,.q p46 (.ari .sub q44 q45),mq p10 q46]) (.skip)))
 (.reg [mq p47 q0,mq p48 q9,mq p49 q0,mq p50 q1,mq p51 q10,.q p52 (.ari .add q50 q51),mq p53 q0,mq p54 q1,mq p55 q10,.q p56 (.ari .add q54 q55),.q p57 (.ixl 1 q53 q56),lq p58 q57,mq p59 q0,mq p60 q9,.q p61 (.ixl 1 q59 q60),lq p62 q61,.q p63 (.ixl 1 q47 q48),ln (.st q63 q58 1),.q p64 (.ixl 1 q49 q52),ln (.st q64 q62 1)]))))
 (.reg [mq p34 q9,.q p35 (.ari .add q34 (ci 1)),mq p9 q35])))))))) (.skip))))
def f151 : Fun := .code [.t p6,.t p7] (sq [.q p6 (.mv (ci 0)),.q p7 (.mv (ci 0))]
 (sq [mq p13 q2,mq p14 q1,.q p15 (.ari .sub q13 q14),mq p8 q15]
 (sq [ls p9 (.alloc [o0])]
 (sq [mq p16 q1,mq p17 q8,.q p18 (.ari .quo q17 (ci 4)),.q p19 (.ari .mul q18 (ci 1)),.q p20 (.ari .add q16 q19),mq p10 q20]
 (sq [mq p21 q1,mq p22 q8,.q p23 (.ari .quo q22 (ci 4)),.q p24 (.ari .mul q23 (ci 2)),.q p25 (.ari .add q21 q24),mq p11 q25]
 (sq [mq p26 q1,mq p27 q8,.q p28 (.ari .quo q27 (ci 4)),.q p29 (.ari .mul q28 (ci 3)),.q p30 (.ari .add q26 q29),mq p12 q30]
 (.seq (sq [mq p31 q8,.q p32 (.cmp .ge q31 (ci 8))]
 (.cond q32 (.seq (sq [mq p33 q8,.q p34 (.cmp .ge q33 (ci 50))]
 (.cond q34 (sq [mq p35 q0,mq p36 q10,ks p37 (.fn 200 [q35,q36,q9]),mq p10 q37]
 (sq [mq p38 q0,mq p39 q11,ks p40 (.fn 200 [q38,q39,q9]),mq p11 q40]
 (.reg [mq p41 q0,mq p42 q12,ks p43 (.fn 200 [q41,q42,q9]),mq p12 q43]))) (.skip)))
 (.reg [mq p44 q0,mq p45 q10,mq p46 q11,mq p47 q12,ks p48 (.fn 201 [q44,q45,q46,q47,q9]),mq p11 q48])) (.skip)))
 (sq [lq p49 q9]
 (.block 0 (sq [.q p52 (ef .num q49 (ci 0)),mq p51 q52]
 (.cond q51 (sq [mq p53 q11,mq p6 q53,.q p7 (.mv (ci 1))]
 (.ret)) (sq [.q p55 (ef .num q49 (ci 12)),mq p54 q55]
 (.cond q54 (sq [mq p56 q11,mq p6 q56,.q p7 (.mv (ci 2))]
 (.ret)) (sq [mq p50 q11,mq p6 q50,.q p7 (.mv (ci 0))]
 (.ret)))))))))))))))
def f152 : Fun := .code [] (sq [mq p8 q1,mq p6 q8]
 (sq [mq p9 q2,.q p10 (.ari .sub q9 (ci 1)),mq p7 q10]
 (.block 0 (.loop (.seq (sq [mq p11 q6,mq p12 q7,.q p13 (.cmp .lt q11 q12)]
 (.cond q13 (.skip) (.exit 0)))
 (.block 1 (sq [mq p14 q0,mq p15 q6,mq p16 q0,mq p17 q7,mq p18 q0,mq p19 q7,.q p20 (.ixl 1 q18 q19),lq p21 q20,mq p22 q0,mq p23 q6,.q p24 (.ixl 1 q22 q23),lq p25 q24,.q p26 (.ixl 1 q14 q15),ln (.st q26 q21 1),.q p27 (.ixl 1 q16 q17),ln (.st q27 q25 1)]
 (sq [mq p28 q6,.q p29 (.ari .add q28 (ci 1)),mq p6 q29]
 (.reg [mq p30 q7,.q p31 (.ari .sub q30 (ci 1)),mq p7 q31])))))))))
def f153 : Fun := .code [.t p6] (sq [.q p6 (.mv (.c (.bool false)))]
 (sq [mq p11 q1,.q p12 (.ari .add q11 (ci 1)),mq p7 q12]
 (.seq (sq [.q p8 (.mv (ci 0))]
 (.block 0 (.loop (.seq (sq [mq p13 q8,.q p14 (.cmp .lt q13 (ci 5))]
 (.cond q14 (.skip) (.exit 0)))
 (.seq (.block 1 (.seq (.block 2 (.loop (.seq (sq [mq p17 q7,mq p18 q2,.q p19 (.cmp .lt q17 q18),mq p20 q19,.g p20 true (mq p21 q0),.g p20 true (mq p22 q7),.g p20 true (.q p23 (.ixl 1 q21 q22)),.g p20 true (lq p24 q23),.g p20 true (mq p25 q0),.g p20 true (mq p26 q7),.g p20 true (.q p27 (.ari .sub q26 (ci 1))),.g p20 true (.q p28 (.ixl 1 q25 q27)),.g p20 true (lq p29 q28),.g p20 true (ks p30 (.fn 154 [q24,q29])),.g p20 true (.q p31 (.not q30)),.q p32 (.pick q20 q31 (.c (.bool false)))]
 (.cond q32 (.skip) (.exit 2)))
 (.block 3 (.reg [mq p33 q7,.q p34 (.ari .add q33 (ci 1)),mq p7 q34])))))
 (.seq (sq [mq p35 q7,mq p36 q2,.q p37 (.eq false false .num q35 q36)]
 (.cond q37 (sq [.q p6 (.mv (.c (.bool true)))]
 (.ret)) (.skip)))
 (.seq (sq [mq p38 q2,mq p39 q1,.q p40 (.ari .sub q38 q39),.q p41 (.cmp .lt q40 (ci 50))]
 (.cond q41 (sq [.q p6 (.mv (.c (.bool false)))]
 (.ret)) (.skip)))
 (sq [mq p42 q0,mq p43 q7,mq p44 q0,mq p45 q7,.q p46 (.ari .sub q45 (ci 1)),mq p47 q0,mq p48 q7,.q p49 (.ari .sub q48 (ci 1)),.q p50 (.ixl 1 q47 q49),lq p51 q50,mq p52 q0,mq p53 q7,.q p54 (.ixl 1 q52 q53),lq p55 q54,.q p56 (.ixl 1 q42 q43),ln (.st q56 q51 1),.q p57 (.ixl 1 q44 q46),ln (.st q57 q55 1)]
 (.seq (sq [mq p58 q7,mq p59 q1,.q p60 (.ari .sub q58 q59),.q p61 (.cmp .ge q60 (ci 2))]
 (.cond q61 (sq [mq p62 q7,.q p63 (.ari .sub q62 (ci 1)),mq p9 q63]
 (.block 4 (.loop (.seq (sq [mq p64 q9,.q p65 (.cmp .ge q64 (ci 1))]
 (.cond q65 (.skip) (.exit 4)))
 (.seq (.block 5 (.seq (sq [mq p68 q0,mq p69 q9,.q p70 (.ixl 1 q68 q69),lq p71 q70,mq p72 q0,mq p73 q9,.q p74 (.ari .sub q73 (ci 1)),.q p75 (.ixl 1 q72 q74),lq p76 q75,ks p77 (.fn 154 [q71,q76]),.q p78 (.not q77)]
 (.cond q78 (.exit 4) (.skip)))
 (.reg [mq p79 q0,mq p80 q9,mq p81 q0,mq p82 q9,.q p83 (.ari .sub q82 (ci 1)),mq p84 q0,mq p85 q9,.q p86 (.ari .sub q85 (ci 1)),.q p87 (.ixl 1 q84 q86),lq p88 q87,mq p89 q0,mq p90 q9,.q p91 (.ixl 1 q89 q90),lq p92 q91,.q p93 (.ixl 1 q79 q80),ln (.st q93 q88 1),.q p94 (.ixl 1 q81 q83),ln (.st q94 q92 1)])))
 (.reg [mq p66 q9,.q p67 (.ari .sub q66 (ci 1)),mq p9 q67])))))) (.skip)))
 (sq [mq p95 q2,mq p96 q7,.q p97 (.ari .sub q95 q96),.q p98 (.cmp .ge q97 (ci 2))]
 (.cond q98 (sq [mq p99 q7,.q p100 (.ari .add q99 (ci 1)),mq p10 q100]
 (.block 6 (.loop (.seq (sq [mq p101 q10,mq p102 q2,.q p103 (.cmp .lt q101 q102)]
 (.cond q103 (.skip) (.exit 6)))
 (.seq (.block 7 (.seq (sq [mq p106 q0,mq p107 q10,.q p108 (.ixl 1 q106 q107),lq p109 q108,mq p110 q0,mq p111 q10,.q p112 (.ari .sub q111 (ci 1)),.q p113 (.ixl 1 q110 q112),lq p114 q113,ks p115 (.fn 154 [q109,q114]),.q p116 (.not q115)]
 (.cond q116 (.exit 6) (.skip)))
 (.reg [mq p117 q0,mq p118 q10,mq p119 q0,mq p120 q10,.q p121 (.ari .sub q120 (ci 1)),mq p122 q0,mq p123 q10,.q p124 (.ari .sub q123 (ci 1)),.q p125 (.ixl 1 q122 q124),lq p126 q125,mq p127 q0,mq p128 q10,.q p129 (.ixl 1 q127 q128),lq p130 q129,.q p131 (.ixl 1 q117 q118),ln (.st q131 q126 1),.q p132 (.ixl 1 q119 q121),ln (.st q132 q130 1)])))
 (.reg [mq p104 q10,.q p105 (.ari .add q104 (ci 1)),mq p10 q105])))))) (.skip)))))))))
 (.reg [mq p15 q8,.q p16 (.ari .add q15 (ci 1)),mq p8 q16]))))))
 (sq [.q p6 (.mv (.c (.bool false)))]
 (.ret)))))
def f154 : Fun := .code [.t p4] (sq [.q p4 (.mv (.c (.bool false)))]
 (sq [mq p5 q0,ks p6 (.fn 202 [q5]),mq p7 q6,.g p7 true (mq p8 q1),.g p7 true (ks p9 (.fn 202 [q8])),.g p7 true (.q p10 (.not q9)),.q p11 (.pick q7 q10 (.c (.bool false))),mq p12 q11,.g p12 false (mq p13 q0),.g p12 false (mq p14 q1),.g p12 false (.q p15 (.cmp .lt q13 q14)),.q p16 (.pick q12 (.c (.bool true)) q15),mq p4 q16]
 (.ret)))
def f155 : Fun := .code [.t p8] (sq [.q p8 (.mv (ci 0))]
 (sq [mq p11 q0,mq p12 q1,mq p13 q0,mq p14 q3,mq p15 q0,mq p16 q3,.q p17 (.ixl 1 q15 q16),lq p18 q17,mq p19 q0,mq p20 q1,.q p21 (.ixl 1 q19 q20),lq p22 q21,.q p23 (.ixl 1 q11 q12),ln (.st q23 q18 1),.q p24 (.ixl 1 q13 q14),ln (.st q24 q22 1)]
 (sq [mq p25 q1,.q p26 (.ari .add q25 (ci 1)),mq p27 q2,.q p28 (.ari .sub q27 (ci 1)),mq p9 q26,mq p10 q28]
 (.seq (.block 0 (.loop (.block 1 (.seq (.block 2 (.loop (.seq (sq [mq p29 q9,mq p30 q10,.q p31 (.cmp .le q29 q30),mq p32 q31,.g p32 true (mq p33 q0),.g p32 true (mq p34 q1),.g p32 true (.q p35 (.ixl 1 q33 q34)),.g p32 true (lq p36 q35),.g p32 true (mq p37 q0),.g p32 true (mq p38 q9),.g p32 true (.q p39 (.ixl 1 q37 q38)),.g p32 true (lq p40 q39),.g p32 true (ks p41 (.fn 154 [q36,q40])),.g p32 true (.q p42 (.not q41)),.q p43 (.pick q32 q42 (.c (.bool false)))]
 (.cond q43 (.skip) (.exit 2)))
 (.block 3 (.reg [mq p44 q9,.q p45 (.ari .add q44 (ci 1)),mq p9 q45])))))
 (.seq (.block 4 (.loop (.seq (sq [mq p46 q9,mq p47 q10,.q p48 (.cmp .le q46 q47),mq p49 q48,.g p49 true (mq p50 q0),.g p49 true (mq p51 q1),.g p49 true (.q p52 (.ixl 1 q50 q51)),.g p49 true (lq p53 q52),.g p49 true (mq p54 q0),.g p49 true (mq p55 q10),.g p49 true (.q p56 (.ixl 1 q54 q55)),.g p49 true (lq p57 q56),.g p49 true (ks p58 (.fn 154 [q53,q57])),.q p59 (.pick q49 q58 (.c (.bool false)))]
 (.cond q59 (.skip) (.exit 4)))
 (.block 5 (.reg [mq p60 q10,.q p61 (.ari .sub q60 (ci 1)),mq p10 q61])))))
 (.seq (sq [mq p62 q9,mq p63 q10,.q p64 (.cmp .gt q62 q63)]
 (.cond q64 (.exit 0) (.skip)))
 (sq [mq p65 q0,mq p66 q9,mq p67 q0,mq p68 q10,mq p69 q0,mq p70 q10,.q p71 (.ixl 1 q69 q70),lq p72 q71,mq p73 q0,mq p74 q9,.q p75 (.ixl 1 q73 q74),lq p76 q75,.q p77 (.ixl 1 q65 q66),ln (.st q77 q72 1),.q p78 (.ixl 1 q67 q68),ln (.st q78 q76 1)]
 (sq [mq p79 q9,.q p80 (.ari .add q79 (ci 1)),mq p9 q80]
 (.reg [mq p81 q10,.q p82 (.ari .sub q81 (ci 1)),mq p10 q82])))))))))
 (sq [mq p83 q9,mq p8 q83]
 (.ret))))))
def f156 : Fun := .code [.t p8,.t p9] (sq [.q p8 (.mv (ci 0)),.q p9 (.mv (.c (.bool false)))]
 (sq [mq p12 q0,mq p13 q1,mq p14 q0,mq p15 q3,mq p16 q0,mq p17 q3,.q p18 (.ixl 1 q16 q17),lq p19 q18,mq p20 q0,mq p21 q1,.q p22 (.ixl 1 q20 q21),lq p23 q22,.q p24 (.ixl 1 q12 q13),ln (.st q24 q19 1),.q p25 (.ixl 1 q14 q15),ln (.st q25 q23 1)]
 (sq [mq p26 q1,.q p27 (.ari .add q26 (ci 1)),mq p28 q2,.q p29 (.ari .sub q28 (ci 1)),mq p10 q27,mq p11 q29]
 (.seq (.block 0 (.loop (.seq (sq [mq p30 q10,mq p31 q11,.q p32 (.cmp .le q30 q31),mq p33 q32,.g p33 true (mq p34 q0),.g p33 true (mq p35 q10),.g p33 true (.q p36 (.ixl 1 q34 q35)),.g p33 true (lq p37 q36),.g p33 true (mq p38 q0),.g p33 true (mq p39 q1),.g p33 true (.q p40 (.ixl 1 q38 q39)),.g p33 true (lq p41 q40),.g p33 true (ks p42 (.fn 154 [q37,q41])),.q p43 (.pick q33 q42 (.c (.bool false)))]
 (.cond q43 (.skip) (.exit 0)))
 (.block 1 (.reg [mq p44 q10,.q p45 (.ari .add q44 (ci 1)),mq p10 q45])))))
 (.seq (.block 2 (.loop (.seq (sq [mq p46 q10,mq p47 q11,.q p48 (.cmp .le q46 q47),mq p49 q48,.g p49 true (mq p50 q0),.g p49 true (mq p51 q11),.g p49 true (.q p52 (.ixl 1 q50 q51)),.g p49 true (lq p53 q52),.g p49 true (mq p54 q0),.g p49 true (mq p55 q1),.g p49 true (.q p56 (.ixl 1 q54 q55)),.g p49 true (lq p57 q56),.g p49 true (ks p58 (.fn 154 [q53,q57])),.g p49 true (.q p59 (.not q58)),.q p60 (.pick q49 q59 (.c (.bool false)))]
 (.cond q60 (.skip) (.exit 2)))
 (.block 3 (.reg [mq p61 q11,.q p62 (.ari .sub q61 (ci 1)),mq p11 q62])))))
 (.seq (sq [mq p63 q10,mq p64 q11,.q p65 (.cmp .gt q63 q64)]
 (.cond q65 (sq [mq p66 q0,mq p67 q11,mq p68 q0,mq p69 q1,mq p70 q0,mq p71 q1,.q p72 (.ixl 1 q70 q71),lq p73 q72,mq p74 q0,mq p75 q11,.q p76 (.ixl 1 q74 q75),lq p77 q76,.q p78 (.ixl 1 q66 q67),ln (.st q78 q73 1),.q p79 (.ixl 1 q68 q69),ln (.st q79 q77 1)]
 (sq [mq p80 q11,mq p8 q80,.q p9 (.mv (.c (.bool true)))]
 (.ret))) (.skip)))
 (sq [mq p81 q0,mq p82 q10,mq p83 q0,mq p84 q11,mq p85 q0,mq p86 q11,.q p87 (.ixl 1 q85 q86),lq p88 q87,mq p89 q0,mq p90 q10,.q p91 (.ixl 1 q89 q90),lq p92 q91,.q p93 (.ixl 1 q81 q82),ln (.st q93 q88 1),.q p94 (.ixl 1 q83 q84),ln (.st q94 q92 1)]
 (sq [mq p95 q10,.q p96 (.ari .add q95 (ci 1)),mq p10 q96]
 (sq [mq p97 q11,.q p98 (.ari .sub q97 (ci 1)),mq p11 q98]
 (.seq (.block 4 (.loop (.block 5 (.seq (.block 6 (.loop (.seq (sq [mq p99 q10,mq p100 q11,.q p101 (.cmp .le q99 q100),mq p102 q101,.g p102 true (mq p103 q0),.g p102 true (mq p104 q10),.g p102 true (.q p105 (.ixl 1 q103 q104)),.g p102 true (lq p106 q105),.g p102 true (mq p107 q0),.g p102 true (mq p108 q1),.g p102 true (.q p109 (.ixl 1 q107 q108)),.g p102 true (lq p110 q109),.g p102 true (ks p111 (.fn 154 [q106,q110])),.q p112 (.pick q102 q111 (.c (.bool false)))]
 (.cond q112 (.skip) (.exit 6)))
 (.block 7 (.reg [mq p113 q10,.q p114 (.ari .add q113 (ci 1)),mq p10 q114])))))
 (.seq (.block 8 (.loop (.seq (sq [mq p115 q10,mq p116 q11,.q p117 (.cmp .le q115 q116),mq p118 q117,.g p118 true (mq p119 q0),.g p118 true (mq p120 q11),.g p118 true (.q p121 (.ixl 1 q119 q120)),.g p118 true (lq p122 q121),.g p118 true (mq p123 q0),.g p118 true (mq p124 q1),.g p118 true (.q p125 (.ixl 1 q123 q124)),.g p118 true (lq p126 q125),.g p118 true (ks p127 (.fn 154 [q122,q126])),.g p118 true (.q p128 (.not q127)),.q p129 (.pick q118 q128 (.c (.bool false)))]
 (.cond q129 (.skip) (.exit 8)))
 (.block 9 (.reg [mq p130 q11,.q p131 (.ari .sub q130 (ci 1)),mq p11 q131])))))
 (.seq (sq [mq p132 q10,mq p133 q11,.q p134 (.cmp .gt q132 q133)]
 (.cond q134 (.exit 4) (.skip)))
 (sq [mq p135 q0,mq p136 q10,mq p137 q0,mq p138 q11,mq p139 q0,mq p140 q11,.q p141 (.ixl 1 q139 q140),lq p142 q141,mq p143 q0,mq p144 q10,.q p145 (.ixl 1 q143 q144),lq p146 q145,.q p147 (.ixl 1 q135 q136),ln (.st q147 q142 1),.q p148 (.ixl 1 q137 q138),ln (.st q148 q146 1)]
 (sq [mq p149 q10,.q p150 (.ari .add q149 (ci 1)),mq p10 q150]
 (.reg [mq p151 q11,.q p152 (.ari .sub q151 (ci 1)),mq p11 q152])))))))))
 (sq [mq p153 q0,mq p154 q11,mq p155 q0,mq p156 q1,mq p157 q0,mq p158 q1,.q p159 (.ixl 1 q157 q158),lq p160 q159,mq p161 q0,mq p162 q11,.q p163 (.ixl 1 q161 q162),lq p164 q163,.q p165 (.ixl 1 q153 q154),ln (.st q165 q160 1),.q p166 (.ixl 1 q155 q156),ln (.st q166 q164 1)]
 (sq [mq p167 q11,mq p8 q167,.q p9 (.mv (.c (.bool false)))]
 (.ret)))))))))))))
def f157 : Fun := .code [.t p2] (sq [.q p2 (.mv (ci 0))]
 (.seq (sq [mq p3 q0,.q p4 (.cmp .ge q3 (.c (.int .u32 (.lit (.ofNat 65536)))))]
 (.cond q4 (sq [mq p5 q0,.q p6 (.bits .shr q5 (.c (.int .u64 (.lit (.ofNat 16))))),mq p0 q6]
 (.reg [.q p2 (.mv (ci 16))])) (.skip)))
 (.seq (sq [mq p7 q0,.q p8 (.cmp .ge q7 (.c (.int .u32 (.lit (.ofNat 256)))))]
 (.cond q8 (sq [mq p9 q0,.q p10 (.bits .shr q9 (.c (.int .u64 (.lit (.ofNat 8))))),mq p0 q10]
 (.reg [mq p11 q2,.q p12 (.ari .add q11 (ci 8)),mq p2 q12])) (.skip)))
 (sq [mq p13 q2,mq p14 q0,.q p15 (.conv .u8 q14),.q p16 (.ixs (.c (S [0,1,2,2,3,3,3,3,4,4,4,4,4,4,4,4,5,5,5,5,5,5,5,5,5,5,5,5,5,5,5,5,6,6,6,6,6,6,6,6,6,6,6,6,6,6,6,6,6,6,6,6,6,6,6,6,6,6,6,6,6,6,6,6,7,7,7,7,7,7,7,7,7,7,7,7,7,7,7,7,7,7,7,7,7,7,7,7,7,7,7,7,7,7,7,7,7,7,7,7,7,7,7,7,7,7,7,7,7,7,7,7,7,7,7,7,7,7,7,7,7,7,7,7,7,7,7,7,8,8,8,8,8,8,8,8,8,8,8,8,8,8,8,8,8,8,8,8,8,8,8,8,8,8,8,8,8,8,8,8,8,8,8,8,8,8,8,8,8,8,8,8,8,8,8,8,8,8,8,8,8,8,8,8,8,8,8,8,8,8,8,8,8,8,8,8,8,8,8,8,8,8,8,8,8,8,8,8,8,8,8,8,8,8,8,8,8,8,8,8,8,8,8,8,8,8,8,8,8,8,8,8,8,8,8,8,8,8,8,8,8,8,8,8,8,8,8,8,8,8,8,8,8,8,8,8])) q15),.q p17 (.conv .i64 q16),.q p18 (.ari .add q13 q17),mq p2 q18]
 (.ret)))))
def f158 : Fun := .code [.t p2] (sq [.q p2 (.mv (ci 0))]
 (.seq (sq [mq p3 q0,.q p4 (.cmp .ge q3 (.c (.int .u64 (.lit (.ofNat 4294967296)))))]
 (.cond q4 (sq [mq p5 q0,.q p6 (.bits .shr q5 (.c (.int .u64 (.lit (.ofNat 32))))),mq p0 q6]
 (.reg [.q p2 (.mv (ci 32))])) (.skip)))
 (.seq (sq [mq p7 q0,.q p8 (.cmp .ge q7 (.c (.int .u64 (.lit (.ofNat 65536)))))]
 (.cond q8 (sq [mq p9 q0,.q p10 (.bits .shr q9 (.c (.int .u64 (.lit (.ofNat 16))))),mq p0 q10]
 (.reg [mq p11 q2,.q p12 (.ari .add q11 (ci 16)),mq p2 q12])) (.skip)))
 (.seq (sq [mq p13 q0,.q p14 (.cmp .ge q13 (.c (.int .u64 (.lit (.ofNat 256)))))]
 (.cond q14 (sq [mq p15 q0,.q p16 (.bits .shr q15 (.c (.int .u64 (.lit (.ofNat 8))))),mq p0 q16]
 (.reg [mq p17 q2,.q p18 (.ari .add q17 (ci 8)),mq p2 q18])) (.skip)))
 (sq [mq p19 q2,mq p20 q0,.q p21 (.conv .u8 q20),.q p22 (.ixs (.c (S [0,1,2,2,3,3,3,3,4,4,4,4,4,4,4,4,5,5,5,5,5,5,5,5,5,5,5,5,5,5,5,5,6,6,6,6,6,6,6,6,6,6,6,6,6,6,6,6,6,6,6,6,6,6,6,6,6,6,6,6,6,6,6,6,7,7,7,7,7,7,7,7,7,7,7,7,7,7,7,7,7,7,7,7,7,7,7,7,7,7,7,7,7,7,7,7,7,7,7,7,7,7,7,7,7,7,7,7,7,7,7,7,7,7,7,7,7,7,7,7,7,7,7,7,7,7,7,7,8,8,8,8,8,8,8,8,8,8,8,8,8,8,8,8,8,8,8,8,8,8,8,8,8,8,8,8,8,8,8,8,8,8,8,8,8,8,8,8,8,8,8,8,8,8,8,8,8,8,8,8,8,8,8,8,8,8,8,8,8,8,8,8,8,8,8,8,8,8,8,8,8,8,8,8,8,8,8,8,8,8,8,8,8,8,8,8,8,8,8,8,8,8,8,8,8,8,8,8,8,8,8,8,8,8,8,8,8,8,8,8,8,8,8,8,8,8,8,8,8,8,8,8,8,8,8,8])) q21),.q p23 (.conv .i64 q22),.q p24 (.ari .add q19 q23),mq p2 q24]
 (.ret))))))
def f159 : Fun := .code [.t p6] (sq [.q p6 (.mv (ci 0))]
 (sq [mq p8 q0,mq p9 q1,ks p10 (.fn 46 [q8,q9]),mq p7 q10]
 (sq [mq p11 q0,mq p12 q7,mq p13 q2,.q p14 (.build [o0,o0,o0,o0,o0,.nils] [(0,1,(ci 1)),(1,1,q12),(2,1,q13)]),ks p15 (.fn 48 [q11,q14])]
 (sq [mq p16 q7,mq p6 q16]
 (.ret)))))
def f160 : Fun := .code [.t p4] (sq [.q p4 (.mv (ci 0))]
 (sq [mq p8 q0,.q p9 (.nck q8),fq p10 q9 0,fq p11 q10 1,lq p12 q11,mq p13 q1,.q p14 (.ari .sub q13 (ci 1)),.q p15 (.ixl 4 q12 q14),.q p16 (.ldn q15 4),ls p5 (.alloc [e0,e0,o0,(.bool false)]),ln (.st q5 q16 4)]
 (.seq (.block 0 (sq [fq p18 q5 2,lq p19 q18,.q p20 (ef .num q19 (ci 0)),mq p17 q20]
 (.cond q17 (sq [mq p21 q0,fq p22 q5 1,lq p23 q22,ks p24 (.fn 46 [q21,q23]),mq p6 q24]
 (sq [mq p25 q0,mq p26 q6,mq p27 q0,mq p28 q1,ks p29 (.fn 203 [q27,q28]),.q p30 (.build [o0,o0,o0,o0,o0,.nils] [(0,1,(ci 6)),(1,1,q26),(2,1,q29)]),ks p31 (.fn 48 [q25,q30])]
 (sq [mq p32 q6,mq p4 q32]
 (.ret)))) (sq [fq p34 q5 3,lq p35 q34,mq p33 q35]
 (.cond q33 (sq [mq p36 q0,fq p37 q5 1,lq p38 q37,ks p39 (.fn 46 [q36,q38]),mq p7 q39]
 (sq [mq p40 q0,mq p41 q7,mq p42 q0,.q p43 (.nck q42),fq p44 q43 8,lq p45 q44,mq p46 q1,.q p47 (.look false q45 q46 o0 false),.q p48 (.build [o0,o0,o0,o0,o0,.nils] [(0,1,(ci 9)),(1,1,q41),(2,1,q47)]),ks p49 (.fn 48 [q40,q48])]
 (sq [mq p50 q7,mq p4 q50]
 (.ret)))) (.skip))))))
 (sq [mq p51 q0,.q p52 (.nck q51),fq p53 q52 8,lq p54 q53,mq p55 q1,.q p56 (.look false q54 q55 o0 false),mq p4 q56]
 (.ret)))))
def f161 : Fun := .code [.t p4] (sq [ls p3 (.box q1),.q p4 (.mv (ci 0))]
 (sq [mq p8 q0,fq p9 q3 6,lq p10 q9,.q p11 (.ixl 7 q10 (ci 0)),.q p12 (.ldn q11 7),ks p13 (.fn 112 [q8,q12]),mq p5 q13]
 (sq [.q p6 (.mv (ci 50))]
 (.seq (sq [fq p14 q3 1,lq p15 q14]
 (.block 0 (sq [.q p17 (ef .text q15 (.c (S [45]))),mq p16 q17]
 (.cond q16 (.reg [.q p6 (.mv (ci 11))]) (sq [.q p19 (ef .text q15 (.c (S [33]))),mq p18 q19]
 (.cond q18 (.reg [.q p6 (.mv (ci 12))]) (.skip)))))))
 (sq [mq p20 q0,fq p21 q3 4,lq p22 q21,ks p23 (.fn 46 [q20,q22]),mq p7 q23]
 (sq [mq p24 q0,mq p25 q6,mq p26 q7,mq p27 q5,.q p28 (.build [o0,o0,o0,o0,o0,.nils] [(0,1,q25),(1,1,q26),(2,1,q27)]),ks p29 (.fn 48 [q24,q28])]
 (sq [mq p30 q7,mq p4 q30]
 (.ret))))))))
def f162 : Fun := .code [.t p4] (sq [ls p3 (.box q1),.q p4 (.mv (ci 0))]
 (.seq (sq [fq p15 q3 1,lq p16 q15,.q p17 (ef .text q16 (.c (S [38,38]))),mq p18 q17,.g p18 false (fq p19 q3 1),.g p18 false (lq p20 q19),.g p18 false (.q p21 (ef .text q20 (.c (S [124,124])))),.q p22 (.pick q18 (.c (.bool true)) q21)]
 (.cond q22 (sq [mq p23 q0,ks p24 (.fn 46 [q23,(.c (S [98,111,111,108]))]),mq p5 q24]
 (sq [mq p25 q0,fq p26 q3 6,lq p27 q26,.q p28 (.ixl 7 q27 (ci 0)),.q p29 (.ldn q28 7),ks p30 (.fn 112 [q25,q29]),mq p6 q30]
 (sq [mq p31 q0,mq p32 q5,mq p33 q6,.q p34 (.build [o0,o0,o0,o0,o0,.nils] [(0,1,(ci 5)),(1,1,q32),(2,1,q33)]),ks p35 (.fn 48 [q31,q34])]
 (.seq (sq [fq p36 q3 1,lq p37 q36,.q p38 (ef .text q37 (.c (S [124,124])))]
 (.cond q38 (sq [mq p39 q0,ks p40 (.fn 46 [q39,(.c (S [98,111,111,108]))]),mq p7 q40]
 (sq [mq p41 q0,mq p42 q7,mq p43 q6,.q p44 (.build [o0,o0,o0,o0,o0,.nils] [(0,1,(ci 12)),(1,1,q42),(2,1,q43)]),ks p45 (.fn 48 [q41,q44])]
 (.reg [mq p46 q7,mq p6 q46]))) (.skip)))
 (sq [mq p47 q0,mq p48 q6,.q p49 (.build [o0,o0,o0,o0,o0,.nils] [(0,1,(ci 27)),(2,1,q48)]),ks p50 (.fn 48 [q47,q49]),mq p8 q50]
 (sq [mq p51 q0,mq p52 q5,mq p53 q0,fq p54 q3 6,lq p55 q54,.q p56 (.ixl 7 q55 (ci 1)),.q p57 (.ldn q56 7),ks p58 (.fn 112 [q53,q57]),.q p59 (.build [o0,o0,o0,o0,o0,.nils] [(0,1,(ci 5)),(1,1,q52),(2,1,q58)]),ks p60 (.fn 48 [q51,q59])]
 (sq [mq p61 q0,mq p62 q8,ls p63 (.bsl 1 [o0] [(0,1,q62)]),mq p64 q0,ks p65 (.fn 115 [q64]),ks p66 (.fn 114 [q61,q63,q65])]
 (sq [mq p67 q5,mq p4 q67]
 (.ret))))))))) (.skip)))
 (sq [mq p68 q0,fq p69 q3 6,lq p70 q69,ks p71 (.fn 163 [q68,q70]),mq p9 q71]
 (sq [fq p72 q3 6,lq p73 q72,.q p74 (.ixl 7 q73 (ci 0)),fq p75 q74 4,lq p76 q75,mq p10 q76]
 (.seq (sq [fq p77 q3 1,lq p78 q77]
 (.block 0 (.seq (.block 4 (.seq (.block 3 (.seq (.block 2 (.seq (.block 1 (.seq (.seq (.seq (sq [.q p80 (ef .text q78 (.c (S [61,61]))),mq p79 q80]
 (.cond q79 (.skip) (.reg [.q p81 (ef .text q78 (.c (S [33,61]))),mq p79 q81])))
 (.cond q79 (.exit 1) (.skip)))
 (.seq (.seq (sq [.q p83 (ef .text q78 (.c (S [62]))),mq p82 q83]
 (.cond q82 (.skip) (.reg [.q p84 (ef .text q78 (.c (S [62,61]))),mq p82 q84])))
 (.cond q82 (.exit 2) (.skip)))
 (.seq (.seq (sq [.q p86 (ef .text q78 (.c (S [60]))),mq p85 q86]
 (.cond q85 (.skip) (.reg [.q p87 (ef .text q78 (.c (S [60,61]))),mq p85 q87])))
 (.cond q85 (.exit 3) (.skip)))
 (sq [.q p89 (ef .text q78 (.c (S [43]))),mq p88 q89]
 (.cond q88 (.exit 4) (.skip))))))
 (.exit 0)))
 (.seq (sq [mq p90 q0,mq p91 q10,fq p92 q3 6,lq p93 q92,.q p94 (.ixl 7 q93 (ci 1)),fq p95 q94 4,lq p96 q95,mq p97 q9,.q p98 (.ixl 1 q97 (ci 0)),lq p99 q98,mq p100 q9,.q p101 (.ixl 1 q100 (ci 1)),lq p102 q101,ks p103 (.fn 172 [q90,q91,q96,q99,q102]),mq p11 q103]
 (.seq (sq [fq p104 q3 1,lq p105 q104,.q p106 (ef .text q105 (.c (S [33,61])))]
 (.cond q106 (sq [mq p107 q0,ks p108 (.fn 46 [q107,(.c (S [98,111,111,108]))]),mq p12 q108]
 (sq [mq p109 q0,mq p110 q12,mq p111 q11,.q p112 (.build [o0,o0,o0,o0,o0,.nils] [(0,1,(ci 12)),(1,1,q110),(2,1,q111)]),ks p113 (.fn 48 [q109,q112])]
 (sq [mq p114 q12,mq p4 q114]
 (.ret)))) (.skip)))
 (sq [mq p115 q11,mq p4 q115]
 (.ret))))
 (.exit 0))))
 (.reg [mq p116 q9,mq p117 q9,mq p118 q9,.q p119 (.ixl 1 q118 (ci 1)),lq p120 q119,mq p121 q9,.q p122 (.ixl 1 q121 (ci 0)),lq p123 q122,.q p124 (.ixl 1 q116 (ci 0)),ln (.st q124 q120 1),.q p125 (.ixl 1 q117 (ci 1)),ln (.st q125 q123 1)])))
 (.seq (sq [.q p13 (.mv (ci 18))]
 (.seq (sq [fq p126 q3 1,lq p127 q126,.q p128 (ef .text q127 (.c (S [60,61]))),mq p129 q128,.g p129 false (fq p130 q3 1),.g p129 false (lq p131 q130),.g p129 false (.q p132 (ef .text q131 (.c (S [62,61])))),.q p133 (.pick q129 (.c (.bool true)) q132)]
 (.cond q133 (.reg [.q p13 (.mv (ci 19))]) (.skip)))
 (.seq (sq [mq p134 q10,.q p135 (ef .text q134 (.c (S [115,116,114,105,110,103])))]
 (.cond q135 (.reg [mq p136 q13,.q p137 (.ari .add q136 (ci 6)),mq p13 q137]) (.skip)))
 (sq [mq p138 q0,mq p139 q13,mq p140 q9,.q p141 (.ixl 1 q140 (ci 0)),lq p142 q141,mq p143 q9,.q p144 (.ixl 1 q143 (ci 1)),lq p145 q144,ks p146 (.fn 167 [q138,q139,(.c (S [98,111,111,108])),q142,q145]),mq p4 q146]
 (.ret)))))
 (.exit 0))))
 (.seq (sq [mq p147 q10,.q p148 (ef .text q147 (.c (S [115,116,114,105,110,103])))]
 (.cond q148 (sq [mq p149 q0,mq p150 q10,mq p151 q9,.q p152 (.ixl 1 q151 (ci 0)),lq p153 q152,mq p154 q9,.q p155 (.ixl 1 q154 (ci 1)),lq p156 q155,ks p157 (.fn 167 [q149,(ci 22),q150,q153,q156]),mq p4 q157]
 (.ret)) (.skip)))
 (.exit 0)))))
 (sq [ls p158 (.mkmap),ln (.mup true q158 (.c (S [43])) (ci 13)),ln (.mup true q158 (.c (S [45])) (ci 14)),ln (.mup true q158 (.c (S [42])) (ci 15)),ln (.mup true q158 (.c (S [47])) (ci 16)),ln (.mup true q158 (.c (S [37])) (ci 17)),mq p159 q158,fq p160 q3 1,lq p161 q160,.q p162 (.look true q159 q161 o0 false),mq p14 q162]
 (sq [mq p163 q0,mq p164 q14,mq p165 q9,.q p166 (.ixl 1 q165 (ci 0)),lq p167 q166,mq p168 q9,.q p169 (.ixl 1 q168 (ci 1)),lq p170 q169,ks p171 (.fn 167 [q163,q164,(.c (S [105,110,116])),q167,q170]),mq p4 q171]
 (.ret))))))))
end Ds.Text
end
