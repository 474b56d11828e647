import Derived.Test.YtbgbllmhdjojkaaGreatDoorC4
set_option linter.all false
set_option maxRecDepth 1000000
namespace Go.Am.Cd
open Go Go.Proofs
noncomputable section
def x0:AV:=S 1 1 (.c (.n .u32 (.ofNat 1)) .z)
def x1:AV:=S 1 1 (.c (.n .u32 (.ofNat 5)) .z)
def x2:AV:=d2 .sz (ci 0) .z
def x3:AV:=K 1 1 (.c (.n .u32 (.ofNat 1)) .z)
def x4:AV:=d4 bf x3 bf x3 .z
def x5:AV:=K 0 0 .z
def x6:AV:=.a (d4 bf x5 bf x3 .z)
def x7:AV:=.a (d4 bt x3 bf x3 .z)
def x8:AV:=.n .i64 (.negSucc 0)
def x9:AV:=.n .u32 (.ofNat 0)
def x10:AV:=K 1 1 (d2 (.n .u32 (.ofNat 2)) x9 .z)
def x11:AV:=K 1 1 (d2 (.n .u32 (.ofNat 1)) x9 .z)
def x12:AV:=.c (ci 0) .z
def x13:AV:=K 1 1 (d2 (.n .u32 (.ofNat 3)) x9 .z)
def x14:AV:=d8 (ci 0) (ci 0) (ci 0) (ci 0) bf x3 bf x3 .z
def x15:AV:=S 1 8 x14
def x16:AV:=.a (d2 bf x3 .z)
def x17:AV:=K 1 1 (.c (.n .u32 (.ofNat 4)) .z)
def x18:AV:=.a (d2 bf x17 .z)
def x19:AV:=K 1 1 (d2 (.n .u32 (.ofNat 4)) x9 .z)
def x20:AV:=K 1 1 (.c (.n .u32 (.ofNat 2)) .z)
def x21:AV:=.a (d2 bf x20 .z)
def x22:AV:=.a (d2 bt x3 .z)
def x23:AV:=K 1 1 (.c (.n .u32 (.ofNat 8)) .z)
def x24:AV:=.a (d2 bf x23 .z)
def x25:AV:=K 1 1 (d2 (.n .u32 (.ofNat 8)) x9 .z)
def x26:AV:=K 1 1 (.c (.n .u32 (.ofNat 3)) .z)
def x27:AV:=d2 bf x26 .z
def x28:AV:=K 1 1 (d2 (.n .u32 (.ofNat 6)) x9 .z)
def x29:AV:=K 1 1 (.c (.n .u32 (.ofNat 5)) .z)
def x30:AV:=.a (d2 bf x29 .z)
def x31:AV:=K 1 1 (d2 (.n .u32 (.ofNat 5)) x9 .z)
def x32:AV:=K 1 1 (.c (.n .u32 (.ofNat 9)) .z)
def x33:AV:=.a (d2 bf x32 .z)
def x34:AV:=K 1 1 (d2 (.n .u32 (.ofNat 9)) x9 .z)
def x35:AV:=K 1 1 (.c (.n .u32 (.ofNat 10)) .z)
def x36:AV:=.a (d2 bf x35 .z)
def x37:AV:=K 1 1 (d2 (.n .u32 (.ofNat 10)) x9 .z)
def x38:AV:=K 1 1 (.c (.n .u32 (.ofNat 6)) .z)
def x39:AV:=.a (d2 bf x38 .z)
def x40:AV:=K 1 1 (.c (.n .u32 (.ofNat 27)) .z)
def x41:AV:=K 1 1 (d2 (.n .u32 (.ofNat 27)) x9 .z)
def x42:AV:=K 1 1 (.c (.n .u32 (.ofNat 16)) .z)
def x43:AV:=K 1 1 (d2 (.n .u32 (.ofNat 16)) x9 .z)
def x44:AV:=.a (d2 bf (K 1 1 (.c (.n .u32 (.ofNat 32)) .z)) .z)
def x45:AV:=K 1 1 (.c (.n .u32 (.ofNat 11)) .z)
def x46:AV:=K 1 1 (d2 (.n .u32 (.ofNat 11)) x9 .z)
def x47:AV:=K 1 1 (.c (.n .u32 (.ofNat 7)) .z)
def x48:AV:=.a (d2 bf x47 .z)
def x49:AV:=K 1 1 (d2 (.n .u32 (.ofNat 7)) x9 .z)
def x50:AV:=.a (d2 bf x5 .z)
def x51:AV:=K 1 1 (.c x9 .z)
def x52:AV:=.ia 1 (.sk .h 0 1 1)
def x53:AV:=.ia 3 (.sk .h 0 1 1)
def x54:AV:=.ia 2 (.sk .h 0 1 1)
def x55:AV:=.s [97,98,99,100,101,102,103,104,105,106,107,108,109,110,111,112,113,114,115,116,117,118,119,120,121,122]
def x56:AV:=.a (d4 (ci 2) (ci 0) (ci 0) (ci 0) .z)
def x57:AV:=.a (d4 (ci 0) (ci 0) (ci 0) (ci 0) .z)
def x58:AV:=.a (d4 (ci 1) (ci 0) (ci 0) (ci 0) .z)
def x59:AV:=ci 2147483645
def n32_1_0:MT:=.n 230 (.c (.c (.c (ci 5) .z) (.a (d2 bf x1 .z))) .z) (.n 222 (.c (.c (.c (ci 1) .z) (.a (d2 bf x0 .z))) .z) .e .e) .e
theorem wn32_1_0:Wt p32 gsz n32_1_0:=nt_of Z0 3000 100 p32 (by decide +kernel)
def n48_1_0:MT:=.n 666405 (.c (.c (.c (.a (d4 (ci 1) bf .sz bf x2)) .z) bt) .z) (.n 440795 (.c (.c (.c (.a (d4 (ci 4) bf .sz bf x2)) .z) bt) .z) (.n 215185 (.c (.c (.c (.a (d4 (ci 7) bf .sz bf x2)) .z) bt) .z) (.n 182664 (.c (.c (.c (.a (d4 (ci 3) bf .sz bf x2)) .z) bt) .z) .e .e) .e) (.n 473316 (.c (.c (.c (.a (d4 (ci 8) bf .sz bf x2)) .z) bt) .z) .e .e)) (.n 924536 (.c (.c (.c (.a (d4 (ci 2) bf .sz bf x2)) .z) bt) .z) (.n 698926 (.c (.c (.c (.a (d4 (ci 5) bf .sz bf x2)) .z) bt) .z) .e .e) (.n 957061 (.c (.c (.c (.a (d4 (ci 6) bf .sz bf (d2 .sz (ci 2) .z))) .z) bt) .z) .e .e))
theorem wn48_1_0:Wt p48 gsz n48_1_0:=nt_of Z0 3000 100 p48 (by decide +kernel)
def n60_1_0:MT:=.n 715658 (.c (.c (.c x6 .z) (ci 0)) .z) (.n 215805 (.c (.c (.c (.a x4) .z) (ci 1)) .z) .e .e) (.n 844872 (.c (.c (.c x7 .z) x8) .z) .e .e)
theorem wn60_1_0:Wt p60 gsz n60_1_0:=nt_of Z0 3000 100 p60 (by decide +kernel)
def n65_1_0:MT:=.n 224 (.c (.c (.c (ci 2) .z) (.a (d2 bf x10 .z))) .z) (.n 222 (.c (.c (.c (ci 1) .z) (.a (d2 bf x11 .z))) .z) (.n 220 (.c (.c x12 (.a (d2 bf (K 0 0 (d2 x9 x9 .z)) .z))) .z) .e .e) .e) (.n 226 (.c (.c (.c (ci 3) .z) (.a (d2 bf x13 .z))) .z) .e .e)
theorem wn65_1_0:Wt p65 gsz n65_1_0:=nt_of Z0 3000 100 p65 (by decide +kernel)
def n67_1_0:MT:=.n 658133 (.c (.c (.c (.a (d2 x15 x15 .z)) .z) (.t (d2 (.a (d4 bf (.ia 6 (.sk .h 0 1 1)) bf (.ia 5 (.sk .h 0 1 1)) .z)) bt .z))) .z) .e .e
theorem wn67_1_0:Wt p67 gsz n67_1_0:=nt_of Z0 3000 100 p67 (by decide +kernel)
def n70_1_0:MT:=.n 216766 (.c (.c (d2 x16 x22 .z) (.a (d2 bt x11 .z))) .z) (.n 215819 (.c (.c (d2 x16 x24 .z) (.a (d2 bf x25 .z))) .z) (.n 215811 (.c (.c (d2 x16 x18 .z) (.a (d2 bf x19 .z))) .z) (.n 215807 (.c (.c (d2 x16 x21 .z) (.a (d2 bf x10 .z))) .z) (.n 215805 (.c (.c (d2 x16 x16 .z) (.a (d2 bf x11 .z))) .z) .e .e) (.n 215809 (.c (.c (d2 x16 (.a x27) .z) (.a (d2 bf x13 .z))) .z) .e .e)) (.n 215815 (.c (.c (d2 x16 x39 .z) (.a (d2 bf x28 .z))) .z) (.n 215813 (.c (.c (d2 x16 x30 .z) (.a (d2 bf x31 .z))) .z) .e .e) (.n 215817 (.c (.c (d2 x16 x48 .z) (.a (d2 bf x49 .z))) .z) .e .e))) (.n 215835 (.c (.c (d2 x16 (.a (d2 bf x42 .z)) .z) (.a (d2 bf x43 .z))) .z) (.n 215823 (.c (.c (d2 x16 x36 .z) (.a (d2 bf x37 .z))) .z) (.n 215821 (.c (.c (d2 x16 x33 .z) (.a (d2 bf x34 .z))) .z) .e .e) (.n 215825 (.c (.c (d2 x16 (.a (d2 bf x45 .z)) .z) (.a (d2 bf x46 .z))) .z) .e .e)) (.n 215867 (.c (.c (d2 x16 x44 .z) (.a (d2 bf (K 1 1 (d2 (.n .u32 (.ofNat 32)) x9 .z)) .z))) .z) (.n 215857 (.c (.c (d2 x16 (.a (d2 bf x40 .z)) .z) (.a (d2 bf x41 .z))) .z) .e .e) .e))) (.n 334969 (.c (.c (d2 (.a x27) x16 .z) (.a (d2 bf x13 .z))) .z) (.n 216774 (.c (.c (d2 x16 (.a (d2 bt x29 .z)) .z) (.a (d2 bt x31 .z))) .z) (.n 216770 (.c (.c (d2 x16 (.a (d2 bt x26 .z)) .z) (.a (d2 bt x13 .z))) .z) (.n 216768 (.c (.c (d2 x16 (.a (d2 bt x20 .z)) .z) (.a (d2 bt x10 .z))) .z) .e .e) (.n 216772 (.c (.c (d2 x16 (.a (d2 bt x17 .z)) .z) (.a (d2 bt x19 .z))) .z) .e .e)) (.n 275387 (.c (.c (d2 x21 x16 .z) (.a (d2 bf x10 .z))) .z) (.n 216818 (.c (.c (d2 x16 (.a (d2 bt x40 .z)) .z) (.a (d2 bt x41 .z))) .z) .e .e) .e)) (.n 573297 (.c (.c (d2 x48 x16 .z) (.a (d2 bf x49 .z))) .z) (.n 394551 (.c (.c (d2 x18 x16 .z) (.a (d2 bf x19 .z))) .z) (.n 334971 (.c (.c (d2 (.a x27) x21 .z) (.a (d2 bf x28 .z))) .z) .e .e) (.n 454133 (.c (.c (d2 x30 x16 .z) (.a (d2 bf x31 .z))) .z) .e .e)) (.n 904454 (.c (.c (d2 (.a (d2 bt x20 .z)) x16 .z) (.a (d2 bt x10 .z))) .z) (.n 844872 (.c (.c (d2 x22 x16 .z) (.a (d2 bt x11 .z))) .z) .e .e) .e)))
theorem wn70_1_0:Wt p70 gsz n70_1_0:=nt_of Z0 3000 100 p70 (by decide +kernel)
def n109_1_0:MT:=.n 715662 (.c (.c (d2 x50 (.a x27) .z) (.a (d2 bf x13 .z))) .z) (.n 715658 (.c (.c (d2 x50 x16 .z) (.a (d2 bf x11 .z))) .z) .e .e) .e
theorem wn109_1_0:Wt p109 gsz n109_1_0:=nt_of Z0 3000 100 p109 (by decide +kernel)
def n117_1_0:MT:=.n 368707 (.c (.c (d2 (.a (d2 bf x0 .z)) (.a (d2 bf x0 .z)) .z) (.t (d2 (.a (d2 bf x0 .z)) x50 x12))) .z) .e .e
theorem wn117_1_0:Wt p117 gsz n117_1_0:=nt_of Z0 3000 100 p117 (by decide +kernel)
def n118_1_0:MT:=.n 222147 (.c (.c (d2 x3 bf .z) (.a (d2 bf x52 .z))) .z) (.n 222086 (.c (.c (d2 x51 bt .z) (.a (d2 bf (.ia 1 (.sk .h 0 0 0)) .z))) .z) (.n 222085 (.c (.c (d2 x51 bf .z) (.a (d2 bf (.ia 1 (.sk .h 0 0 0)) .z))) .z) .e .e) .e) (.n 222271 (.c (.c (d2 x26 bf .z) (.a (d2 bf x52 .z))) .z) (.n 222209 (.c (.c (d2 x20 bf .z) (.a (d2 bf x52 .z))) .z) .e .e) .e)
theorem wn118_1_0:Wt p118 gsz n118_1_0:=nt_of Z0 3000 100 p118 (by decide +kernel)
def n129_1_0:MT:=.n 428428 (.c (.c (.c x15 .z) (.t (d2 (S 1 4 (d4 bf x53 bf x54 .z)) (ci 0) (.c bt .z)))) .z) .e .e
theorem wn129_1_0:Wt p129 gsz n129_1_0:=nt_of Z0 3000 100 p129 (by decide +kernel)
def n150_1_0:MT:=.n 907018 (.c (.c (d2 (.s [41]) x55 .z) (.s [41])) .z) (.n 12369 (.c (.c (d2 (.s [120,41]) x55 .z) (.s [41])) .z) .e .e) .e
theorem wn150_1_0:Wt p150 gsz n150_1_0:=nt_of Z0 3000 100 p150 (by decide +kernel)
def n171_1_0:MT:=.n 888869 (.c (.c (d2 x20 x3 .z) x3) .z) .e .e
theorem wn171_1_0:Wt p171 gsz n171_1_0:=nt_of Z0 3000 100 p171 (by decide +kernel)
def n185_1_0:MT:=.n 616563 (.c (.c (.c x58 .z) bt) .z) (.n 557043 (.c (.c (.c (.a (d4 (ci 0) (ci 0) (ci 1) (ci 0) .z)) .z) bt) .z) (.n 556981 (.c (.c (.c x57 .z) bt) .z) .e .e) (.n 558903 (.c (.c (.c (.a (d4 (ci 0) (ci 1) (ci 0) (ci 0) .z)) .z) bt) .z) .e .e)) (.n 735727 (.c (.c (.c (.a (d4 (ci 3) (ci 0) (ci 0) (ci 0) .z)) .z) bt) .z) (.n 676145 (.c (.c (.c x56 .z) bt) .z) .e .e) .e)
theorem wn185_1_0:Wt p185 gsz n185_1_0:=nt_of Z0 3000 100 p185 (by decide +kernel)
def n215_1_0:MT:=.n 6825 (.c (.c (d2 (ci 0) (ci 1) .z) x8) .z) (.n 6823 (.c (.c (d2 (ci 0) (ci 0) .z) (ci 0)) .z) .e .e) (.n 6887 (.c (.c (d2 (ci 1) (ci 1) .z) (ci 0)) .z) .e .e)
theorem wn215_1_0:Wt p215 gsz n215_1_0:=nt_of Z0 3000 100 p215 (by decide +kernel)
def n241_1_0:MT:=.n 222 (.c (.c (.c (cu 1) .z) (ci 1)) .z) .e .e
theorem wn241_1_0:Wt p241 gsz n241_1_0:=nt_of Z0 3000 100 p241 (by decide +kernel)
def n308_1_0:MT:=.n 209937 (.c (.c (.c x16 .z) (cu 1)) .z) .e .e
theorem wn308_1_0:Wt p308 gsz n308_1_0:=nt_of Z0 3000 100 p308 (by decide +kernel)
def n309_1_0:MT:=.n 961479 (.c (.c (d2 (cu 4) x59 .z) (cu 536870912)) .z) (.n 961355 (.c (.c (d2 (cu 2) x59 .z) (cu 1073741824)) .z) (.n 961293 (.c (.c (d2 (cu 1) x59 .z) (cu 1)) .z) .e .e) (.n 961417 (.c (.c (d2 (cu 3) x59 .z) (cu 1431655765)) .z) .e .e)) (.n 961603 (.c (.c (d2 (cu 6) x59 .z) (cu 1789569706)) .z) (.n 961541 (.c (.c (d2 (cu 5) x59 .z) (cu 858993459)) .z) .e .e) .e)
theorem wn309_1_0:Wt p309 gsz n309_1_0:=nt_of Z0 3000 100 p309 (by decide +kernel)
def M32_1:MT:=.j n32_1_0 .e
def H32_1:FD:=.ms D32 M32_1 lo3 gsz G32
theorem TH32_1:Q p32 H32_1:=ms_q hlo TG32 (by decide +kernel) (show MtAll _ M32_1 from (mJ wn32_1_0 mE))
def M48_1:MT:=.j n48_1_0 .e
def H48_1:FD:=.ms D48 M48_1 lo3 gsz G48
theorem TH48_1:Q p48 H48_1:=ms_q hlo TG48 (by decide +kernel) (show MtAll _ M48_1 from (mJ wn48_1_0 mE))
def M60_1:MT:=.j n60_1_0 .e
def H60_1:FD:=.ms D60 M60_1 lo3 gsz G60
theorem TH60_1:Q p60 H60_1:=ms_q hlo TG60 (by decide +kernel) (show MtAll _ M60_1 from (mJ wn60_1_0 mE))
def M65_1:MT:=.j n65_1_0 .e
def H65_1:FD:=.ms D65 M65_1 lo3 gsz G65
theorem TH65_1:Q p65 H65_1:=ms_q hlo TG65 (by decide +kernel) (show MtAll _ M65_1 from (mJ wn65_1_0 mE))
def M67_1:MT:=.j n67_1_0 .e
def H67_1:FD:=.ms D67 M67_1 lo3 gsz G67
theorem TH67_1:Q p67 H67_1:=ms_q hlo TG67 (by decide +kernel) (show MtAll _ M67_1 from (mJ wn67_1_0 mE))
def M70_1:MT:=.j n70_1_0 .e
def H70_1:FD:=.ms D70 M70_1 lo3 gsz G70
theorem TH70_1:Q p70 H70_1:=ms_q hlo TG70 (by decide +kernel) (show MtAll _ M70_1 from (mJ wn70_1_0 mE))
def M109_1:MT:=.j n109_1_0 .e
def H109_1:FD:=.ms D109 M109_1 lo3 gsz G109
theorem TH109_1:Q p109 H109_1:=ms_q hlo TG109 (by decide +kernel) (show MtAll _ M109_1 from (mJ wn109_1_0 mE))
def M117_1:MT:=.j n117_1_0 .e
def H117_1:FD:=.ms D117 M117_1 lo3 gsz G117
theorem TH117_1:Q p117 H117_1:=ms_q hlo TG117 (by decide +kernel) (show MtAll _ M117_1 from (mJ wn117_1_0 mE))
def M118_1:MT:=.j n118_1_0 .e
def H118_1:FD:=.ms D118 M118_1 lo3 gsz G118
theorem TH118_1:Q p118 H118_1:=ms_q hlo TG118 (by decide +kernel) (show MtAll _ M118_1 from (mJ wn118_1_0 mE))
def M129_1:MT:=.j n129_1_0 .e
def H129_1:FD:=.ms D129 M129_1 lo3 gsz G129
theorem TH129_1:Q p129 H129_1:=ms_q hlo TG129 (by decide +kernel) (show MtAll _ M129_1 from (mJ wn129_1_0 mE))
def M150_1:MT:=.j n150_1_0 .e
def H150_1:FD:=.ms D150 M150_1 lo3 gsz G150
theorem TH150_1:Q p150 H150_1:=ms_q hlo TG150 (by decide +kernel) (show MtAll _ M150_1 from (mJ wn150_1_0 mE))
def M171_1:MT:=.j n171_1_0 .e
def H171_1:FD:=.ms D171 M171_1 lo3 gsz G171
theorem TH171_1:Q p171 H171_1:=ms_q hlo TG171 (by decide +kernel) (show MtAll _ M171_1 from (mJ wn171_1_0 mE))
def M185_1:MT:=.j n185_1_0 .e
def H185_1:FD:=.ms D185 M185_1 lo3 gsz G185
theorem TH185_1:Q p185 H185_1:=ms_q hlo TG185 (by decide +kernel) (show MtAll _ M185_1 from (mJ wn185_1_0 mE))
def M215_1:MT:=.j n215_1_0 .e
def H215_1:FD:=.ms D215 M215_1 lo3 gsz G215
theorem TH215_1:Q p215 H215_1:=ms_q hlo TG215 (by decide +kernel) (show MtAll _ M215_1 from (mJ wn215_1_0 mE))
def M241_1:MT:=.j n241_1_0 .e
def H241_1:FD:=.ms D241 M241_1 lo3 gsz G241
theorem TH241_1:Q p241 H241_1:=ms_q hlo TG241 (by decide +kernel) (show MtAll _ M241_1 from (mJ wn241_1_0 mE))
def M308_1:MT:=.j n308_1_0 .e
def H308_1:FD:=.ms D308 M308_1 lo3 gsz G308
theorem TH308_1:Q p308 H308_1:=ms_q hlo TG308 (by decide +kernel) (show MtAll _ M308_1 from (mJ wn308_1_0 mE))
def M309_1:MT:=.j n309_1_0 .e
def H309_1:FD:=.ms D309 M309_1 lo3 gsz G309
theorem TH309_1:Q p309 H309_1:=ms_q hlo TG309 (by decide +kernel) (show MtAll _ M309_1 from (mJ wn309_1_0 mE))
def U1_80:PT FD:=.n (.n (.n .e (.sh G279) .e) (.sh G151) .e) (.sh G87) (.n .e H215_1 .e)
theorem V1_80:tabAll (fun p=>Q (.o (.o (.o (.i (.i (.o p))))))) U1_80:=(tN (tN (tN tE (sh_q TG279) tE) (sh_q TG151) tE) (sh_q TG87) (tN tE TH215_1 tE))
def U1_81:PT FD:=.n (.n U0_5 (.sh G39) U0_6) (.sh G23) (.n U1_80 (.sh G55) U0_8)
theorem V1_81:tabAll (fun p=>Q (.o (.o (.o (.i p))))) U1_81:=(tN (tN V0_5 (sh_q TG39) V0_6) (sh_q TG23) (tN V1_80 (sh_q TG55) V0_8))
def U1_82:PT FD:=.n (.n (.n .e (.sh G259) .e) (.sh G131) .e) H67_1 (.n .e (.sh G195) .e)
theorem V1_82:tabAll (fun p=>Q (.o (.o (.i (.o (.o (.o p))))))) U1_82:=(tN (tN (tN tE (sh_q TG259) tE) (sh_q TG131) tE) TH67_1 (tN tE (sh_q TG195) tE))
def U1_83:PT FD:=.n (.n U1_82 (.sh G35) U0_11) (.sh G19) (.n U0_12 (.sh G51) U0_13)
theorem V1_83:tabAll (fun p=>Q (.o (.o (.i (.o p))))) U1_83:=(tN (tN V1_82 (sh_q TG35) V0_11) (sh_q TG19) (tN V0_12 (sh_q TG51) V0_13))
def U1_84:PT FD:=.n (.n .e H171_1 .e) (.sh G107) (.n .e (.sh G235) .e)
theorem V1_84:tabAll (fun p=>Q (.o (.o (.i (.i (.o (.i p))))))) U1_84:=(tN (tN tE TH171_1 tE) (sh_q TG107) (tN tE (sh_q TG235) tE))
def U1_85:PT FD:=.n (.n U0_15 (.sh G43) U1_84) (.sh G27) (.n U0_17 (.sh G59) U0_18)
theorem V1_85:tabAll (fun p=>Q (.o (.o (.i (.i p))))) U1_85:=(tN (tN V0_15 (sh_q TG43) V1_84) (sh_q TG27) (tN V0_17 (sh_q TG59) V0_18))
def U1_86:PT FD:=.n (.n U0_4 (.sh G7) U1_81) (.sh G3) (.n U1_83 (.sh G11) U1_85)
theorem V1_86:tabAll (fun p=>Q (.o (.o p))) U1_86:=(tN (tN V0_4 (sh_q TG7) V1_81) (sh_q TG3) (tN V1_83 (sh_q TG11) V1_85))
def U1_87:PT FD:=.n (.n (.n .e (.sh G257) .e) H129_1 .e) H65_1 (.n .e (.sh G193) .e)
theorem V1_87:tabAll (fun p=>Q (.o (.i (.o (.o (.o (.o p))))))) U1_87:=(tN (tN (tN tE (sh_q TG257) tE) TH129_1 tE) TH65_1 (tN tE (sh_q TG193) tE))
def U1_88:PT FD:=.n (.n .e (.sh G177) .e) (.sh G113) (.n .e H241_1 .e)
theorem V1_88:tabAll (fun p=>Q (.o (.i (.o (.o (.i (.i p))))))) U1_88:=(tN (tN tE (sh_q TG177) tE) (sh_q TG113) (tN tE TH241_1 tE))
def U1_89:PT FD:=.n (.n U1_87 (.sh G33) U0_22) (.sh G17) (.n (.n (.n .e (.sh G145) .e) (.sh G81) .e) (.sh G49) U1_88)
theorem V1_89:tabAll (fun p=>Q (.o (.i (.o (.o p))))) U1_89:=(tN (tN V1_87 (sh_q TG33) V0_22) (sh_q TG17) (tN (tN (tN tE (sh_q TG145) tE) (sh_q TG81) tE) (sh_q TG49) V1_88))
def U1_90:PT FD:=.n (.n (.n .e (.sh G313) .e) H185_1 .e) (.sh G121) (.n .e (.sh G249) .e)
theorem V1_90:tabAll (fun p=>Q (.o (.i (.o (.i (.i (.i p))))))) U1_90:=(tN (tN (tN tE (sh_q TG313) tE) TH185_1 tE) (sh_q TG121) (tN tE (sh_q TG249) tE))
def U1_91:PT FD:=.n (.n U0_25 (.sh G41) U0_26) (.sh G25) (.n U0_27 (.sh G57) U1_90)
theorem V1_91:tabAll (fun p=>Q (.o (.i (.o (.i p))))) U1_91:=(tN (tN V0_25 (sh_q TG41) V0_26) (sh_q TG25) (tN V0_27 (sh_q TG57) V1_90))
def U1_92:PT FD:=.n (.n (.n .e H309_1 .e) (.sh G181) .e) H117_1 .e
theorem V1_92:tabAll (fun p=>Q (.o (.i (.i (.o (.i (.i p))))))) U1_92:=(tN (tN (tN tE TH309_1 tE) (sh_q TG181) tE) TH117_1 tE)
def U1_93:PT FD:=.n (.n U0_30 (.sh G37) U0_31) (.sh G21) (.n U0_32 (.sh G53) U1_92)
theorem V1_93:tabAll (fun p=>Q (.o (.i (.i (.o p))))) U1_93:=(tN (tN V0_30 (sh_q TG37) V0_31) (sh_q TG21) (tN V0_32 (sh_q TG53) V1_92))
def U1_94:PT FD:=.n (.n .e (.sh G173) .e) H109_1 (.n .e (.sh G237) .e)
theorem V1_94:tabAll (fun p=>Q (.o (.i (.i (.i (.o (.i p))))))) U1_94:=(tN (tN tE (sh_q TG173) tE) TH109_1 (tN tE (sh_q TG237) tE))
def U1_95:PT FD:=.n (.n U0_35 (.sh G45) U1_94) (.sh G29) (.n U0_37 (.sh G61) (.n (.n .e (.sh G189) .e) (.sh G125) .e))
theorem V1_95:tabAll (fun p=>Q (.o (.i (.i (.i p))))) U1_95:=(tN (tN V0_35 (sh_q TG45) V1_94) (sh_q TG29) (tN V0_37 (sh_q TG61) (tN (tN tE (sh_q TG189) tE) (sh_q TG125) tE)))
def U1_96:PT FD:=.n (.n U1_89 (.sh G9) U1_91) (.sh G5) (.n U1_93 (.sh G13) U1_95)
theorem V1_96:tabAll (fun p=>Q (.o (.i p))) U1_96:=(tN (tN V1_89 (sh_q TG9) V1_91) (sh_q TG5) (tN V1_93 (sh_q TG13) V1_95))
def U1_97:PT FD:=.n (.n U0_40 H32_1 U0_41) (.sh G16) (.n U0_42 H48_1 (.n .e (.sh G112) (.n .e (.sh G240) .e)))
theorem V1_97:tabAll (fun p=>Q (.i (.o (.o (.o p))))) U1_97:=(tN (tN V0_40 TH32_1 V0_41) (sh_q TG16) (tN V0_42 TH48_1 (tN tE (sh_q TG112) (tN tE (sh_q TG240) tE))))
def U1_98:PT FD:=.n (.n (.n .e H308_1 .e) (.sh G180) .e) (.sh G116) .e
theorem V1_98:tabAll (fun p=>Q (.i (.o (.i (.o (.i (.i p))))))) U1_98:=(tN (tN (tN tE TH308_1 tE) (sh_q TG180) tE) (sh_q TG116) tE)
def U1_99:PT FD:=.n (.n U0_49 (.sh G36) U0_50) (.sh G20) (.n U0_51 (.sh G52) U1_98)
theorem V1_99:tabAll (fun p=>Q (.i (.o (.i (.o p))))) U1_99:=(tN (tN V0_49 (sh_q TG36) V0_50) (sh_q TG20) (tN V0_51 (sh_q TG52) V1_98))
def U1_100:PT FD:=.n (.n U0_54 (.sh G44) U0_55) (.sh G28) (.n U0_56 H60_1 U0_57)
theorem V1_100:tabAll (fun p=>Q (.i (.o (.i (.i p))))) U1_100:=(tN (tN V0_54 (sh_q TG44) V0_55) (sh_q TG28) (tN V0_56 TH60_1 V0_57))
def U1_101:PT FD:=.n (.n U1_97 (.sh G8) U0_48) (.sh G4) (.n U1_99 (.sh G12) U1_100)
theorem V1_101:tabAll (fun p=>Q (.i (.o p))) U1_101:=(tN (tN V1_97 (sh_q TG8) V0_48) (sh_q TG4) (tN V1_99 (sh_q TG12) V1_100))
def U1_102:PT FD:=.n (.n (.n .e (.sh G262) .e) (.sh G134) .e) H70_1 (.n .e (.sh G198) .e)
theorem V1_102:tabAll (fun p=>Q (.i (.i (.i (.o (.o (.o p))))))) U1_102:=(tN (tN (tN tE (sh_q TG262) tE) (sh_q TG134) tE) TH70_1 (tN tE (sh_q TG198) tE))
def U1_103:PT FD:=.n (.n .e H150_1 .e) (.sh G86) (.n .e (.sh G214) .e)
theorem V1_103:tabAll (fun p=>Q (.i (.i (.i (.o (.i (.o p))))))) U1_103:=(tN (tN tE TH150_1 tE) (sh_q TG86) (tN tE (sh_q TG214) tE))
def U1_104:PT FD:=.n (.n (.n .e (.sh G310) .e) (.sh G182) .e) H118_1 (.n .e (.sh G246) .e)
theorem V1_104:tabAll (fun p=>Q (.i (.i (.i (.o (.i (.i p))))))) U1_104:=(tN (tN (tN tE (sh_q TG310) tE) (sh_q TG182) tE) TH118_1 (tN tE (sh_q TG246) tE))
def U1_105:PT FD:=.n (.n U1_102 F38 U0_71) (.sh G22) (.n U1_103 (.sh G54) U1_104)
theorem V1_105:tabAll (fun p=>Q (.i (.i (.i (.o p))))) U1_105:=(tN (tN V1_102 TF38 V0_71) (sh_q TG22) (tN V1_103 (sh_q TG54) V1_104))
def U1_106:PT FD:=.n (.n U0_64 (.sh G10) U0_69) (.sh G6) (.n U1_105 (.sh G14) U0_78)
theorem V1_106:tabAll (fun p=>Q (.i (.i p))) U1_106:=(tN (tN V0_64 (sh_q TG10) V0_69) (sh_q TG6) (tN V1_105 (sh_q TG14) V0_78))
def TAB1:PT FD:=.n (.n U1_86 .no U1_96) .no (.n U1_101 .no U1_106)
theorem Z1:TabOK PR NG TAB1:=tab_ok (show tabAll Q TAB1 from (tN (tN V1_86 tNo V1_96) tNo (tN V1_101 tNo V1_106)))
end
end Go.Am.Cd
