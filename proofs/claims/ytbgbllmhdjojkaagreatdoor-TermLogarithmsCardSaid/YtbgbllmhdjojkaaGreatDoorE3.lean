import Derived.Test.YtbgbllmhdjojkaaGreatDoorE2
set_option linter.all false
set_option maxRecDepth 1000000
namespace Go.Am.Cd
open Go Go.Proofs
noncomputable section
def x88:AV:=d2 x3 (ci 0) .z
def x89:AV:=.a (d4 bf x17 bf x3 .z)
def x90:AV:=.a (d4 bf x29 bf x3 .z)
def x91:AV:=.a (d4 bf x20 bf x3 .z)
def x92:AV:=.a (d4 bf x26 bf x3 .z)
def x93:AV:=d8 (ci 0) (ci 0) (ci 0) (ci 0) bf x11 bf x11 .z
def x94:AV:=K 1 1 x93
def x95:AV:=K 1 1 (d8 (ci 1) (ci 0) (ci 0) (ci 0) bf x3 bf x17 .z)
def x96:AV:=K 1 1 (d8 (ci 1) (ci 0) (ci 0) (ci 0) bf x3 bf x29 .z)
def x97:AV:=K 1 1 (d8 (ci 1) (ci 0) (ci 0) (ci 0) bf x3 bf x38 .z)
def n24_3_1:MT:=.n 911573 (.c (.c (.c (S 1 6 (d4 (ci 0) bf x5 bf x88)) .z) bt) .z) .e .e
theorem wn24_3_1:Wt p24 gs2 n24_3_1:=nt_of Z2 3000 100 p24 (by decide +kernel)
def n48_3_2:MT:=.n 456184 (.c (.c (.c (.a (d4 (ci 0) bf x17 bf x88)) .z) bt) .z) (.n 303220 (.c (.c (.c (.a (d4 (ci 0) bf x29 bf x88)) .z) bt) .z) (.n 150256 (.c (.c (.c (.a (d4 (ci 0) bf x38 bf x88)) .z) bt) .z) .e .e) .e) (.n 915076 (.c (.c (.c (.a (d4 (ci 0) bf x3 bf x88)) .z) bt) .z) (.n 762112 (.c (.c (.c (.a (d4 (ci 0) bf x20 bf x88)) .z) bt) .z) .e .e) .e)
theorem wn48_3_2:Wt p48 gsz n48_3_2:=nt_of Z2 3000 100 p48 (by decide +kernel)
def n55_3_0:MT:=.n 615259 (.c (.c (d2 (.a (d4 bf x29 bf x17 .z)) (.a (d4 bt x29 bf x17 .z)) .z) (.a (d4 bf .sz bf x3 .z))) .z) (.n 360964 (.c (.c (d2 (.a (d4 bf x38 bf x29 .z)) (.a (d4 bt x38 bf x29 .z)) .z) (.a (d4 bf .sz bf x3 .z))) .z) (.n 81336 (.c (.c (d2 (.a (d4 bf x45 bf x38 .z)) (.a (d4 bt x45 bf x38 .z)) .z) (.a (d4 bf .sz bf x3 .z))) .z) .e .e) .e) (.n 848299 (.c (.c (d2 (.a (d4 bf x23 bf x29 .z)) (.a (d4 bt x23 bf x29 .z)) .z) (.a (d4 bf .sz bf x3 .z))) .z) .e .e)
theorem wn55_3_0:Wt p55 gsz n55_3_0:=nt_of Z2 3000 100 p55 (by decide +kernel)
def n56_3_1:MT:=.n 686730 (.c (.c (d2 x89 x7 .z) (.a (d4 bt x19 bf x11 .z))) .z) (.n 307392 (.c (.c (d2 (.a (d4 bf x3 bf x26 .z)) (.a (d4 bf x38 bf x3 .z)) .z) x91) .z) (.n 5416 (.c (.c (d2 (.a x4) (.a (d4 bf x3 bf x29 .z)) .z) (.a (d4 bf x11 bf x31 .z))) .z) .e .e) (.n 370814 (.c (.c (d2 x90 x7 .z) (.a (d4 bt x31 bf x11 .z))) .z) .e .e)) (.n 877210 (.c (.c (d2 (.a (d4 bf x29 bf x32 .z)) x92 .z) (.a (d4 bf x29 bf x26 .z))) .z) (.n 824955 (.c (.c (d2 (.a (d4 bf x20 bf x32 .z)) x92 .z) (.a (d4 bf x20 bf x26 .z))) .z) .e .e) .e)
theorem wn56_3_1:Wt p56 gsz n56_3_1:=nt_of Z2 3000 100 p56 (by decide +kernel)
def n61_3_0:MT:=.n 5408 (.c (.c (d2 (.a x4) (.a x4) .z) (ci 0)) .z) .e .e
theorem wn61_3_0:Wt p61 gsz n61_3_0:=nt_of Z2 3000 100 p61 (by decide +kernel)
def n69_3_1:MT:=.n 632887 (.c (.c (d2 x24 x30 .z) x16) .z) (.n 632883 (.c (.c (d2 x24 (.a x27) .z) x16) .z) (.n 454143 (.c (.c (d2 x30 x39 .z) x16) .z) .e .e) .e) (.n 632895 (.c (.c (d2 x24 x33 .z) x16) .z) .e .e)
theorem wn69_3_1:Wt p69 gsz n69_3_1:=nt_of Z2 3000 100 p69 (by decide +kernel)
def n71_3_0:MT:=.n 215813 (.c (.c (d2 x16 x30 .z) (.t (d2 (.a (d4 bf x54 bf x52 .z)) (ci 0) .z))) .z) .e .e
theorem wn71_3_0:Wt p71 gsz n71_3_0:=nt_of Z2 3000 100 p71 (by decide +kernel)
def n103_3_0:MT:=.n 573297 (.c (.c (.c (.a (d4 bf x47 bf x3 .z)) .z) bt) .z) .e .e
theorem wn103_3_0:Wt p103 gsz n103_3_0:=nt_of Z2 3000 100 p103 (by decide +kernel)
def n108_3_1:MT:=.n 454135 (.c (.c (d2 x30 x21 .z) (.a (d4 bf x54 bf x52 .z))) .z) (.n 275403 (.c (.c (d2 x21 x33 .z) (.a (d4 bf x54 bf x52 .z))) .z) (.n 215815 (.c (.c (d2 x16 x39 .z) (.a (d4 bf x54 bf x52 .z))) .z) (.n 215807 (.c (.c (d2 x16 x21 .z) (.a (d4 bf x54 bf x52 .z))) .z) (.n 215805 (.c (.c (d2 x16 x16 .z) (.a (d4 bf x54 bf x52 .z))) .z) (.n 62857 (.c (.c (d2 x44 x33 .z) (.a (d4 bf x54 bf x52 .z))) .z) .e .e) .e) (.n 215811 (.c (.c (d2 x16 x18 .z) (.a (d4 bf x54 bf x52 .z))) .z) .e .e)) (.n 275391 (.c (.c (d2 x21 (.a x27) .z) (.a (d4 bf x54 bf x52 .z))) .z) (.n 275387 (.c (.c (d2 x21 x16 .z) (.a (d4 bf x54 bf x52 .z))) .z) .e .e) (.n 275395 (.c (.c (d2 x21 x30 .z) (.a (d4 bf x54 bf x52 .z))) .z) .e .e))) (.n 334985 (.c (.c (d2 (.a x27) x33 .z) (.a (d4 bf x3 bf x26 .z))) .z) (.n 334973 (.c (.c (d2 (.a x27) (.a x27) .z) (.a x4)) .z) (.n 334971 (.c (.c (d2 (.a x27) x21 .z) (.a (d4 bf x54 bf x52 .z))) .z) .e .e) (.n 334977 (.c (.c (d2 (.a x27) x30 .z) (.a (d4 bf x54 bf x52 .z))) .z) .e .e)) (.n 394559 (.c (.c (d2 x18 x30 .z) (.a (d4 bf x54 bf x52 .z))) .z) (.n 394551 (.c (.c (d2 x18 x16 .z) (.a (d4 bf x54 bf x52 .z))) .z) .e .e) (.n 454133 (.c (.c (d2 x30 x16 .z) (.a (d4 bf x54 bf x52 .z))) .z) .e .e)))) (.n 715658 (.c (.c (d2 x50 x16 .z) (.a (d4 bf (.ia 2 (.sk .h 0 0 0)) bf x52 .z))) .z) (.n 513715 (.c (.c (d2 x39 x16 .z) (.a (d4 bf x54 bf x52 .z))) .z) (.n 454139 (.c (.c (d2 x30 x18 .z) (.a (d4 bf x54 bf x52 .z))) .z) (.n 454137 (.c (.c (d2 x30 (.a x27) .z) (.a (d4 bf x54 bf x52 .z))) .z) .e .e) (.n 454149 (.c (.c (d2 x30 x33 .z) (.a (d4 bf x54 bf x52 .z))) .z) .e .e)) (.n 573305 (.c (.c (d2 x48 x30 .z) (.a (d4 bf x54 bf x52 .z))) .z) (.n 513725 (.c (.c (d2 x39 x39 .z) (.a x4)) .z) .e .e) (.n 573307 (.c (.c (d2 x48 x39 .z) (.a (d4 bf x54 bf x52 .z))) .z) .e .e))) (.n 811635 (.c (.c (d2 (.a (d2 bf x45 .z)) x39 .z) (.a (d4 bf x54 bf x52 .z))) .z) (.n 715674 (.c (.c (d2 x50 x33 .z) (.a (d4 bf .sz bf x3 .z))) .z) (.n 715662 (.c (.c (d2 x50 (.a x27) .z) (.a (d4 bf .sz bf x3 .z))) .z) .e .e) (.n 752043 (.c (.c (d2 x36 x16 .z) (.a (d4 bf x54 bf x52 .z))) .z) .e .e)) (.n 871223 (.c (.c (d2 x80 x33 .z) (.a (d4 bf x17 bf x26 .z))) .z) (.n 844872 (.c (.c (d2 x22 x16 .z) (.a (d4 bt x54 bf x52 .z))) .z) .e .e) (.n 904454 (.c (.c (d2 (.a (d2 bt x20 .z)) x16 .z) (.a (d4 bt x54 bf x52 .z))) .z) .e .e))))
theorem wn108_3_1:Wt p108 gsz n108_3_1:=nt_of Z2 3000 100 p108 (by decide +kernel)
def n110_3_1:MT:=.n 255307 (.c (.c (.c (K 2 2 (d4 bf x5 bf x3 .z)) .z) (.a (d2 bf x73 .z))) .z) .e .e
theorem wn110_3_1:Wt p110 gsz n110_3_1:=nt_of Z2 3000 100 p110 (by decide +kernel)
def n120_3_1:MT:=.n 890791 (.c (.c (d2 x26 x3 .z) (.t (d2 x26 x51 .z))) .z) .e .e
theorem wn120_3_1:Wt p120 gsz n120_3_1:=nt_of Z2 3000 100 p120 (by decide +kernel)
def n139_3_0:MT:=.n 7 (.c (.c .z x94) .z) .e .e
theorem wn139_3_0:Wt p139 gsz n139_3_0:=nt_of Z2 3000 100 p139 (by decide +kernel)
def n169_3_1:MT:=.n 275389 (.c (.c (d2 x21 x21 .z) (.t (d2 x16 (.a (d2 bf x73 .z)) x12))) .z) .e .e
theorem wn169_3_1:Wt p169 gsz n169_3_1:=nt_of Z2 3000 100 p169 (by decide +kernel)
def n190_3_0:MT:=.n 7 (.c (.c .z x94) .z) .e .e
theorem wn190_3_0:Wt p190 gsz n190_3_0:=nt_of Z2 3000 100 p190 (by decide +kernel)
def n195_3_0:MT:=.n 475578 (.c (.c (d2 x95 x95 .z) (K 0 2 (d8 (ci 0) (ci 0) (ci 0) (ci 0) bf .sz bf .sz x75))) .z) (.n 286851 (.c (.c (d2 x97 x97 .z) (K 0 2 (d8 (ci 0) (ci 0) (ci 0) (ci 0) bf .sz bf .sz x75))) .z) .e .e) (.n 881216 (.c (.c (d2 x96 x96 .z) (K 0 2 (d8 (ci 0) (ci 0) (ci 0) (ci 0) bf .sz bf .sz x75))) .z) .e .e)
theorem wn195_3_0:Wt p195 gsz n195_3_0:=nt_of Z2 3000 100 p195 (by decide +kernel)
def M24_3:MT:=.j n24_3_1 (.j n24_2_0 .e)
def H24_3:FD:=.ms D24 M24_3 lo3 gs2 G24
theorem TH24_3:Q p24 H24_3:=ms_q hlo TG24 (by decide +kernel) (show MtAll _ M24_3 from (mJ wn24_3_1 (mJ wn24_2_0 mE)))
def M48_3:MT:=.j n48_3_2 (.j n48_2_1 (.j n48_1_0 .e))
def H48_3:FD:=.ms D48 M48_3 lo3 gsz G48
theorem TH48_3:Q p48 H48_3:=ms_q hlo TG48 (by decide +kernel) (show MtAll _ M48_3 from (mJ wn48_3_2 (mJ wn48_2_1 (mJ wn48_1_0 mE))))
def M55_3:MT:=.j n55_3_0 .e
def H55_3:FD:=.ms D55 M55_3 lo3 gsz G55
theorem TH55_3:Q p55 H55_3:=ms_q hlo TG55 (by decide +kernel) (show MtAll _ M55_3 from (mJ wn55_3_0 mE))
def M56_3:MT:=.j n56_3_1 (.j n56_2_0 .e)
def H56_3:FD:=.ms D56 M56_3 lo3 gsz G56
theorem TH56_3:Q p56 H56_3:=ms_q hlo TG56 (by decide +kernel) (show MtAll _ M56_3 from (mJ wn56_3_1 (mJ wn56_2_0 mE)))
def M61_3:MT:=.j n61_3_0 .e
def H61_3:FD:=.ms D61 M61_3 lo3 gsz G61
theorem TH61_3:Q p61 H61_3:=ms_q hlo TG61 (by decide +kernel) (show MtAll _ M61_3 from (mJ wn61_3_0 mE))
def M69_3:MT:=.j n69_3_1 (.j n69_2_0 .e)
def H69_3:FD:=.ms D69 M69_3 lo3 gsz G69
theorem TH69_3:Q p69 H69_3:=ms_q hlo TG69 (by decide +kernel) (show MtAll _ M69_3 from (mJ wn69_3_1 (mJ wn69_2_0 mE)))
def M71_3:MT:=.j n71_3_0 .e
def H71_3:FD:=.ms D71 M71_3 lo3 gsz G71
theorem TH71_3:Q p71 H71_3:=ms_q hlo TG71 (by decide +kernel) (show MtAll _ M71_3 from (mJ wn71_3_0 mE))
def M103_3:MT:=.j n103_3_0 .e
def H103_3:FD:=.ms D103 M103_3 lo3 gsz G103
theorem TH103_3:Q p103 H103_3:=ms_q hlo TG103 (by decide +kernel) (show MtAll _ M103_3 from (mJ wn103_3_0 mE))
def M108_3:MT:=.j n108_3_1 (.j n108_2_0 .e)
def H108_3:FD:=.ms D108 M108_3 lo3 gsz G108
theorem TH108_3:Q p108 H108_3:=ms_q hlo TG108 (by decide +kernel) (show MtAll _ M108_3 from (mJ wn108_3_1 (mJ wn108_2_0 mE)))
def M110_3:MT:=.j n110_3_1 (.j n110_2_0 .e)
def H110_3:FD:=.ms D110 M110_3 lo3 gsz G110
theorem TH110_3:Q p110 H110_3:=ms_q hlo TG110 (by decide +kernel) (show MtAll _ M110_3 from (mJ wn110_3_1 (mJ wn110_2_0 mE)))
def M120_3:MT:=.j n120_3_1 (.j n120_2_0 .e)
def H120_3:FD:=.ms D120 M120_3 lo3 gsz G120
theorem TH120_3:Q p120 H120_3:=ms_q hlo TG120 (by decide +kernel) (show MtAll _ M120_3 from (mJ wn120_3_1 (mJ wn120_2_0 mE)))
def M139_3:MT:=.j n139_3_0 .e
def H139_3:FD:=.ms D139 M139_3 lo3 gsz G139
theorem TH139_3:Q p139 H139_3:=ms_q hlo TG139 (by decide +kernel) (show MtAll _ M139_3 from (mJ wn139_3_0 mE))
def M169_3:MT:=.j n169_3_1 (.j n169_2_0 .e)
def H169_3:FD:=.ms D169 M169_3 lo3 gsz G169
theorem TH169_3:Q p169 H169_3:=ms_q hlo TG169 (by decide +kernel) (show MtAll _ M169_3 from (mJ wn169_3_1 (mJ wn169_2_0 mE)))
def M190_3:MT:=.j n190_3_0 .e
def H190_3:FD:=.ms D190 M190_3 lo3 gsz G190
theorem TH190_3:Q p190 H190_3:=ms_q hlo TG190 (by decide +kernel) (show MtAll _ M190_3 from (mJ wn190_3_0 mE))
def M195_3:MT:=.j n195_3_0 .e
def H195_3:FD:=.ms D195 M195_3 lo3 gsz G195
theorem TH195_3:Q p195 H195_3:=ms_q hlo TG195 (by decide +kernel) (show MtAll _ M195_3 from (mJ wn195_3_0 mE))
def U3_135:PT FD:=.n (.n (.n .e (.sh G263) .e) (.sh G135) .e) H71_3 (.n .e (.sh G199) .e)
theorem V3_135:tabAll (fun p=>Q (.o (.o (.o (.i (.o (.o p))))))) U3_135:=(tN (tN (tN tE (sh_q TG263) tE) (sh_q TG135) tE) TH71_3 (tN tE (sh_q TG199) tE))
def U3_136:PT FD:=.n (.n (.n .e (.sh G295) .e) (.sh G167) .e) H103_3 (.n .e (.sh G231) .e)
theorem V3_136:tabAll (fun p=>Q (.o (.o (.o (.i (.o (.i p))))))) U3_136:=(tN (tN (tN tE (sh_q TG295) tE) (sh_q TG167) tE) TH103_3 (tN tE (sh_q TG231) tE))
def U3_137:PT FD:=.n (.n U3_135 (.sh G39) U3_136) (.sh G23) (.n U1_80 H55_3 U0_8)
theorem V3_137:tabAll (fun p=>Q (.o (.o (.o (.i p))))) U3_137:=(tN (tN V3_135 (sh_q TG39) V3_136) (sh_q TG23) (tN V1_80 TH55_3 V0_8))
def U3_138:PT FD:=.n (.n (.n .e (.sh G259) .e) (.sh G131) .e) H67_1 (.n .e H195_3 .e)
theorem V3_138:tabAll (fun p=>Q (.o (.o (.i (.o (.o (.o p))))))) U3_138:=(tN (tN (tN tE (sh_q TG259) tE) (sh_q TG131) tE) TH67_1 (tN tE TH195_3 tE))
def U3_139:PT FD:=.n (.n U3_138 (.sh G35) U0_11) (.sh G19) (.n U0_12 (.sh G51) U0_13)
theorem V3_139:tabAll (fun p=>Q (.o (.o (.i (.o p))))) U3_139:=(tN (tN V3_138 (sh_q TG35) V0_11) (sh_q TG19) (tN V0_12 (sh_q TG51) V0_13))
def U3_140:PT FD:=.n (.n (.n .e (.sh G267) .e) H139_3 .e) (.sh G75) (.n .e (.sh G203) .e)
theorem V3_140:tabAll (fun p=>Q (.o (.o (.i (.i (.o (.o p))))))) U3_140:=(tN (tN (tN tE (sh_q TG267) tE) TH139_3 tE) (sh_q TG75) (tN tE (sh_q TG203) tE))
def U3_141:PT FD:=.n (.n U3_140 (.sh G43) U2_109) (.sh G27) (.n U0_17 (.sh G59) U0_18)
theorem V3_141:tabAll (fun p=>Q (.o (.o (.i (.i p))))) U3_141:=(tN (tN V3_140 (sh_q TG43) V2_109) (sh_q TG27) (tN V0_17 (sh_q TG59) V0_18))
def U3_142:PT FD:=.n (.n U2_108 (.sh G7) U3_137) (.sh G3) (.n U3_139 (.sh G11) U3_141)
theorem V3_142:tabAll (fun p=>Q (.o (.o p))) U3_142:=(tN (tN V2_108 (sh_q TG7) V3_137) (sh_q TG3) (tN V3_139 (sh_q TG11) V3_141))
def U3_143:PT FD:=.n (.n .e H169_3 .e) (.sh G105) (.n .e H233_2 .e)
theorem V3_143:tabAll (fun p=>Q (.o (.i (.o (.i (.o (.i p))))))) U3_143:=(tN (tN tE TH169_3 tE) (sh_q TG105) (tN tE TH233_2 tE))
def U3_144:PT FD:=.n (.n U0_25 (.sh G41) U3_143) (.sh G25) (.n U0_27 (.sh G57) U1_90)
theorem V3_144:tabAll (fun p=>Q (.o (.i (.o (.i p))))) U3_144:=(tN (tN V0_25 (sh_q TG41) V3_143) (sh_q TG25) (tN V0_27 (sh_q TG57) V1_90))
def U3_145:PT FD:=.n (.n (.n .e (.sh G261) .e) (.sh G133) .e) H69_3 (.n .e (.sh G197) .e)
theorem V3_145:tabAll (fun p=>Q (.o (.i (.i (.o (.o (.o p))))))) U3_145:=(tN (tN (tN tE (sh_q TG261) tE) (sh_q TG133) tE) TH69_3 (tN tE (sh_q TG197) tE))
def U3_146:PT FD:=.n (.n U3_145 (.sh G37) U0_31) (.sh G21) (.n U0_32 (.sh G53) U1_92)
theorem V3_146:tabAll (fun p=>Q (.o (.i (.i (.o p))))) U3_146:=(tN (tN V3_145 (sh_q TG37) V0_31) (sh_q TG21) (tN V0_32 (sh_q TG53) V1_92))
def U3_147:PT FD:=.n (.n U0_35 (.sh G45) U2_116) (.sh G29) (.n U0_37 H61_3 (.n (.n .e (.sh G189) .e) (.sh G125) .e))
theorem V3_147:tabAll (fun p=>Q (.o (.i (.i (.i p))))) U3_147:=(tN (tN V0_35 (sh_q TG45) V2_116) (sh_q TG29) (tN V0_37 TH61_3 (tN (tN tE (sh_q TG189) tE) (sh_q TG125) tE)))
def U3_148:PT FD:=.n (.n U1_89 (.sh G9) U3_144) (.sh G5) (.n U3_146 (.sh G13) U3_147)
theorem V3_148:tabAll (fun p=>Q (.o (.i p))) U3_148:=(tN (tN V1_89 (sh_q TG9) V3_144) (sh_q TG5) (tN V3_146 (sh_q TG13) V3_147))
def U3_149:PT FD:=.n (.n U0_40 H32_1 U0_41) (.sh G16) (.n U0_42 H48_3 (.n .e (.sh G112) (.n .e (.sh G240) .e)))
theorem V3_149:tabAll (fun p=>Q (.i (.o (.o (.o p))))) U3_149:=(tN (tN V0_40 TH32_1 V0_41) (sh_q TG16) (tN V0_42 TH48_3 (tN tE (sh_q TG112) (tN tE (sh_q TG240) tE))))
def U3_150:PT FD:=.n (.n (.n .e (.sh G312) .e) (.sh G184) .e) H120_3 (.n .e (.sh G248) .e)
theorem V3_150:tabAll (fun p=>Q (.i (.o (.o (.i (.i (.i p))))))) U3_150:=(tN (tN (tN tE (sh_q TG312) tE) (sh_q TG184) tE) TH120_3 (tN tE (sh_q TG248) tE))
def U3_151:PT FD:=.n (.n U0_44 (.sh G40) U2_120) H24_3 (.n U0_46 H56_3 U3_150)
theorem V3_151:tabAll (fun p=>Q (.i (.o (.o (.i p))))) U3_151:=(tN (tN V0_44 (sh_q TG40) V2_120) TH24_3 (tN V0_46 TH56_3 V3_150))
def U3_152:PT FD:=.n (.n .e (.sh G172) .e) H108_3 (.n .e (.sh G236) .e)
theorem V3_152:tabAll (fun p=>Q (.i (.o (.i (.i (.o (.i p))))))) U3_152:=(tN (tN tE (sh_q TG172) tE) TH108_3 (tN tE (sh_q TG236) tE))
def U3_153:PT FD:=.n (.n U0_54 (.sh G44) U3_152) (.sh G28) (.n U0_56 H60_1 U0_57)
theorem V3_153:tabAll (fun p=>Q (.i (.o (.i (.i p))))) U3_153:=(tN (tN V0_54 (sh_q TG44) V3_152) (sh_q TG28) (tN V0_56 TH60_1 V0_57))
def U3_154:PT FD:=.n (.n U3_149 (.sh G8) U3_151) (.sh G4) (.n U2_124 H12_2 U3_153)
theorem V3_154:tabAll (fun p=>Q (.i (.o p))) U3_154:=(tN (tN V3_149 (sh_q TG8) V3_151) (sh_q TG4) (tN V2_124 TH12_2 V3_153))
def U3_155:PT FD:=.n (.n .e H190_3 .e) (.sh G126) (.n .e (.sh G254) .e)
theorem V3_155:tabAll (fun p=>Q (.i (.i (.i (.i (.i (.i p))))))) U3_155:=(tN (tN tE TH190_3 tE) (sh_q TG126) (tN tE (sh_q TG254) tE))
def U3_156:PT FD:=.n (.n U0_75 (.sh G46) (.n .e H110_3 (.n .e (.sh G238) .e))) (.sh G30) (.n U0_76 (.sh G62) U3_155)
theorem V3_156:tabAll (fun p=>Q (.i (.i (.i (.i p))))) U3_156:=(tN (tN V0_75 (sh_q TG46) (tN tE TH110_3 (tN tE (sh_q TG238) tE))) (sh_q TG30) (tN V0_76 (sh_q TG62) V3_155))
def U3_157:PT FD:=.n (.n U2_130 (.sh G10) U0_69) H6_2 (.n U2_132 (.sh G14) U3_156)
theorem V3_157:tabAll (fun p=>Q (.i (.i p))) U3_157:=(tN (tN V2_130 (sh_q TG10) V0_69) TH6_2 (tN V2_132 (sh_q TG14) V3_156))
def TAB3:PT FD:=.n (.n U3_142 .no U3_148) .no (.n U3_154 .no U3_157)
theorem Z3:TabOK PR NG TAB3:=tab_ok (show tabAll Q TAB3 from (tN (tN V3_142 tNo V3_148) tNo (tN V3_154 tNo V3_157)))
end
end Go.Am.Cd
