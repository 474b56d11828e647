import Derived.Test.YtbgbllmhdjojkaaGreatDoorE3
set_option linter.all false
set_option maxRecDepth 1000000
namespace Go.Am.Cd
open Go Go.Proofs
noncomputable section
def x98:AV:=.a (d2 (S 1 8 (d8 (ci 1) (ci 0) (ci 0) (ci 0) bf x29 bf x26 .z)) x15 .z)
def x99:AV:=.a (d2 (S 1 8 (d8 (ci 1) (ci 0) (ci 0) (ci 0) bf x26 bf x29 .z)) x15 .z)
def x100:AV:=.a (d2 (S 1 8 (d8 (ci 1) (ci 0) (ci 0) (ci 0) bf x32 bf x29 .z)) x15 .z)
def x101:AV:=.a (d2 (S 1 8 (d8 (ci 1) (ci 0) (ci 0) (ci 0) bf x17 bf x29 .z)) x15 .z)
def x102:AV:=.a (d2 (S 1 8 (d8 (ci 1) (ci 0) (ci 0) (ci 0) bf x29 bf x38 .z)) x15 .z)
def x103:AV:=d8 (ci 1) (ci 0) (ci 0) (ci 0) bf x11 bf x11 .z
def x104:AV:=K 1 1 (d8 (ci 1) (ci 0) (ci 0) (ci 0) bf x26 bf x20 .z)
def x105:AV:=K 1 1 (d8 (ci 1) (ci 0) (ci 0) (ci 0) bf x29 bf x17 .z)
def x106:AV:=K 1 1 (d8 (ci 1) (ci 0) (ci 0) (ci 0) bf x47 bf x38 .z)
def x107:AV:=K 1 1 (d8 (ci 1) (ci 0) (ci 0) (ci 0) bf x47 bf x29 .z)
def x108:AV:=K 1 1 (d8 (ci 1) (ci 0) (ci 0) (ci 0) bf x47 bf x26 .z)
def x109:AV:=K 1 1 (d8 (ci 1) (ci 0) (ci 0) (ci 0) bf x47 bf x20 .z)
def x110:AV:=K 1 1 (d8 (ci 1) (ci 0) (ci 0) (ci 0) bf x23 bf x26 .z)
def x111:AV:=K 1 1 (d8 (ci 1) (ci 0) (ci 0) (ci 0) bf x32 bf x17 .z)
def x112:AV:=K 1 1 x14
def x113:AV:=K 1 1 (d8 (ci 1) (ci 0) (ci 0) (ci 0) bf x29 bf x20 .z)
def x114:AV:=S 1 8 x74
def x115:AV:=K 1 1 (d8 (ci 1) (ci 0) (ci 0) (ci 0) bf x45 bf x38 .z)
def x116:AV:=d8 (ci 0) (ci 1) (ci 0) (ci 0) bt x20 bf x3 .z
def x117:AV:=d8 (ci 0) (ci 1) (ci 0) (ci 0) bt x10 bf x11 .z
def x118:AV:=d8 (ci 1) (ci 0) (ci 0) (ci 0) bf x3 bf x20 .z
def x119:AV:=d8 (ci 0) (ci 0) (ci 0) (ci 0) bf x28 bf x11 .z
def x120:AV:=K 1 1 (d8 (ci 1) (ci 0) (ci 0) (ci 0) bf x3 bf x26 .z)
def n24_4_2:MT:=.n 830837 (.c (.c (.c (S 4 6 (d8 (ci 8) bf .sz bf .sz (ci 0) (ci 3) bf (d8 .sz bf .sz (ci 0) (ci 0) bf x20 bf (d8 x3 (ci 0) (ci 1) bf .sz bf .sz (ci 0) .z)))) .z) bt) .z) .e .e
theorem wn24_4_2:Wt p24 gs2 n24_4_2:=nt_of Z3 3000 100 p24 (by decide +kernel)
def n48_4_3:MT:=.n 609148 (.c (.c (.c (.a (d4 (ci 0) bf x26 bf x88)) .z) bt) .z) .e .e
theorem wn48_4_3:Wt p48 gsz n48_4_3:=nt_of Z3 3000 100 p48 (by decide +kernel)
def n55_4_1:MT:=.n 609142 (.c (.c (d2 x90 (.a (d4 bt x29 bf x3 .z)) .z) (.a (d4 bf x73 bf x11 .z))) .z) (.n 378141 (.c (.c (d2 x91 (.a (d4 bt x20 bf x3 .z)) .z) (.a (d4 bf x73 bf x11 .z))) .z) (.n 121807 (.c (.c (d2 x92 (.a (d4 bt x26 bf x3 .z)) .z) (.a (d4 bf x73 bf x11 .z))) .z) .e .e) .e) (.n 865476 (.c (.c (d2 x89 (.a (d4 bt x17 bf x3 .z)) .z) (.a (d4 bf x73 bf x11 .z))) .z) (.n 634475 (.c (.c (d2 (.a x4) x7 .z) (.a (d4 bf x73 bf x11 .z))) .z) .e .e) .e)
theorem wn55_4_1:Wt p55 gsz n55_4_1:=nt_of Z3 3000 100 p55 (by decide +kernel)
def n56_4_2:MT:=.n 128646 (.c (.c (d2 (.a (d4 bf x3 bf x26 .z)) x92 .z) (.a x4)) .z) (.n 57663 (.c (.c (d2 x89 (.a x4) .z) (.a (d4 bf x19 bf x11 .z))) .z) (.n 5408 (.c (.c (d2 (.a x4) (.a x4) .z) (.a x72)) .z) (.n 2643 (.c (.c (d2 x92 x7 .z) (.a (d4 bt x13 bf x11 .z))) .z) .e .e) (.n 48778 (.c (.c (d2 (.a (d4 bf x60 bf x0 .z)) x7 .z) (.a (d4 bt x10 bf x11 .z))) .z) .e .e)) (.n 67027 (.c (.c (d2 (.a (d4 bf x3 bf x20 .z)) x91 .z) (.a x4)) .z) (.n 64990 (.c (.c (d2 (.a x4) x91 .z) (.a (d4 bf x10 bf x11 .z))) .z) .e .e) .e)) (.n 689495 (.c (.c (d2 x91 (.a x4) .z) (.a (d4 bf x10 bf x11 .z))) .z) (.n 604163 (.c (.c (d2 x6 (.a x4) .z) (.a (d4 bf x73 bf x11 .z))) .z) (.n 184154 (.c (.c (d2 (.a x4) x89 .z) (.a (d4 bf x19 bf x11 .z))) .z) .e .e) (.n 634475 (.c (.c (d2 (.a x4) x7 .z) (.a (d4 bt x11 bf x11 .z))) .z) .e .e)) (.n 741750 (.c (.c (d2 x90 (.a x4) .z) (.a (d4 bf x31 bf x11 .z))) .z) (.n 689497 (.c (.c (d2 x91 (.a (d4 bf x3 bf x20 .z)) .z) (.a x4)) .z) .e .e) .e))
theorem wn56_4_2:Wt p56 gsz n56_4_2:=nt_of Z3 3000 100 p56 (by decide +kernel)
def n57_4_0:MT:=.n 689495 (.c (.c (d2 x91 (.a x4) .z) (.t (d2 (.a (d4 bf x10 bf x11 .z)) (ci 0) .z))) .z) (.n 57663 (.c (.c (d2 x89 (.a x4) .z) (.t (d2 (.a (d4 bf x19 bf x11 .z)) (ci 0) .z))) .z) (.n 5408 (.c (.c (d2 (.a x4) (.a x4) .z) (.t (d2 (.a x72) (ci 0) .z))) .z) .e .e) .e) (.n 741750 (.c (.c (d2 x90 (.a x4) .z) (.t (d2 (.a (d4 bf x31 bf x11 .z)) (ci 0) .z))) .z) .e .e)
theorem wn57_4_0:Wt p57 gsz n57_4_0:=nt_of Z3 3000 100 p57 (by decide +kernel)
def n66_4_0:MT:=.n 436558 (.c (.c (d2 x99 x99 .z) (.t (d2 (.a (d2 x15 x15 .z)) (ci 0) .z))) .z) (.n 59211 (.c (.c (d2 x102 x102 .z) (.t (d2 (.a (d2 x15 x15 .z)) (ci 0) .z))) .z) .e .e) .e
theorem wn66_4_0:Wt p66 gsz n66_4_0:=nt_of Z3 3000 100 p66 (by decide +kernel)
def n66_4_1:MT:=.n 759452 (.c (.c (d2 x100 x100 .z) (.t (d2 (.a (d2 x15 x15 .z)) (ci 0) .z))) .z) (.n 514143 (.c (.c (d2 x98 x98 .z) (.t (d2 (.a (d2 x15 x15 .z)) (ci 0) .z))) .z) .e .e) .e
theorem wn66_4_1:Wt p66 gsz n66_4_1:=nt_of Z3 3000 100 p66 (by decide +kernel)
def n66_4_2:MT:=.n 823708 (.c (.c (d2 x101 x101 .z) (.t (d2 (.a (d2 x15 x15 .z)) (ci 0) .z))) .z) .e .e
theorem wn66_4_2:Wt p66 gsz n66_4_2:=nt_of Z3 3000 100 p66 (by decide +kernel)
def n75_4_0:MT:=.n 220 (.c (.c x12 (.a (d2 (K 1 1 x103) x94 .z))) .z) .e .e
theorem wn75_4_0:Wt p75 gsz n75_4_0:=nt_of Z3 3000 100 p75 (by decide +kernel)
def n83_4_0:MT:=.n 22370 (.c (.c (d2 x108 x108 .z) (.t (d2 (.a (d2 x15 x15 .z)) (ci 0) .z))) .z) .e .e
theorem wn83_4_0:Wt p83 gsz n83_4_0:=nt_of Z3 3000 100 p83 (by decide +kernel)
def n83_4_1:MT:=.n 78817 (.c (.c (d2 x111 x111 .z) (.t (d2 (.a (d2 x15 x15 .z)) (ci 0) .z))) .z) .e .e
theorem wn83_4_1:Wt p83 gsz n83_4_1:=nt_of Z3 3000 100 p83 (by decide +kernel)
def n83_4_2:MT:=.n 315114 (.c (.c (d2 x104 x104 .z) (.t (d2 (.a (d2 x15 x15 .z)) (ci 0) .z))) .z) (.n 239281 (.c (.c (d2 x106 x106 .z) (.t (d2 (.a (d2 x15 x15 .z)) (ci 0) .z))) .z) .e .e) .e
theorem wn83_4_2:Wt p83 gsz n83_4_2:=nt_of Z3 3000 100 p83 (by decide +kernel)
def n83_4_3:MT:=.n 347776 (.c (.c (d2 x110 x110 .z) (.t (d2 (.a (d2 x15 x15 .z)) (ci 0) .z))) .z) .e .e
theorem wn83_4_3:Wt p83 gsz n83_4_3:=nt_of Z3 3000 100 p83 (by decide +kernel)
def n83_4_4:MT:=.n 777199 (.c (.c (d2 x105 x105 .z) (.t (d2 (.a (d2 x15 x15 .z)) (ci 0) .z))) .z) (.n 616735 (.c (.c (d2 x109 x109 .z) (.t (d2 (.a (d2 x15 x15 .z)) (ci 0) .z))) .z) .e .e) .e
theorem wn83_4_4:Wt p83 gsz n83_4_4:=nt_of Z3 3000 100 p83 (by decide +kernel)
def n83_4_5:MT:=.n 833646 (.c (.c (d2 x107 x107 .z) (.t (d2 (.a (d2 x15 x15 .z)) (ci 0) .z))) .z) .e .e
theorem wn83_4_5:Wt p83 gsz n83_4_5:=nt_of Z3 3000 100 p83 (by decide +kernel)
def n84_4_0:MT:=.n 222 (.c (.c (.c (ci 1) .z) (.a (d2 x94 x94 .z))) .z) (.n 220 (.c (.c x12 (.a (d2 .sz x94 .z))) .z) .e .e) .e
theorem wn84_4_0:Wt p84 gsz n84_4_0:=nt_of Z3 3000 100 p84 (by decide +kernel)
def n106_4_0:MT:=.n 833652 (.c (.c (d2 x112 x112 .z) bt) .z) (.n 627018 (.c (.c (d2 x112 x15 .z) bt) .z) .e .e) (.n 864767 (.c (.c (d2 x15 x112 .z) bt) .z) .e .e)
theorem wn106_4_0:Wt p106 gsz n106_4_0:=nt_of Z3 3000 100 p106 (by decide +kernel)
def n108_4_2:MT:=.n 394555 (.c (.c (d2 x18 (.a x27) .z) (.a (d4 bf x54 bf x52 .z))) .z) (.n 334969 (.c (.c (d2 (.a x27) x16 .z) (.a (d4 bf x54 bf x52 .z))) .z) (.n 215809 (.c (.c (d2 x16 (.a x27) .z) (.a (d4 bf x54 bf x52 .z))) .z) .e .e) (.n 334975 (.c (.c (d2 (.a x27) x18 .z) (.a (d4 bf x54 bf x52 .z))) .z) .e .e)) (.n 715660 (.c (.c (d2 x50 x21 .z) (.a (d4 bf .sz bf x3 .z))) .z) (.n 573303 (.c (.c (d2 x48 x18 .z) (.a (d4 bf x54 bf x52 .z))) .z) .e .e) (.n 752047 (.c (.c (d2 x36 (.a x27) .z) (.a (d4 bf x54 bf x52 .z))) .z) .e .e))
theorem wn108_4_2:Wt p108 gsz n108_4_2:=nt_of Z3 3000 100 p108 (by decide +kernel)
def n130_4_0:MT:=.n 441912 (.c (.c (.c (S 1 4 x4) .z) (.t (d2 .sz bt .z))) .z) .e .e
theorem wn130_4_0:Wt p130 gsz n130_4_0:=nt_of Z3 3000 100 p130 (by decide +kernel)
def n140_4_0:MT:=.n 965926 (.c (.c (d2 x113 x113 .z) x114) .z) (.n 540902 (.c (.c (d2 x115 x115 .z) x114) .z) .e .e) .e
theorem wn140_4_0:Wt p140 gsz n140_4_0:=nt_of Z3 3000 100 p140 (by decide +kernel)
def n141_4_0:MT:=.n 432069 (.c (.c (d2 (K 1 1 x116) x112 .z) (.t (d2 (S 1 8 x117) bt .z))) .z) (.n 162766 (.c (.c (d2 (K 1 1 (d8 (ci 0) (ci 0) (ci 0) (ci 0) bf x38 bf x3 .z)) x112 .z) (.t (d2 (S 1 8 x119) bt .z))) .z) .e .e) (.n 457669 (.c (.c (d2 (K 1 1 x118) x114 .z) (.t (d2 (S 1 8 (d8 (ci 0) (ci 0) (ci 0) (ci 0) bf x11 bf x10 .z)) bt .z))) .z) .e .e)
theorem wn141_4_0:Wt p141 gsz n141_4_0:=nt_of Z3 3000 100 p141 (by decide +kernel)
def n195_4_1:MT:=.n 69940 (.c (.c (d2 x120 x120 .z) (K 0 2 (d8 (ci 0) (ci 0) (ci 0) (ci 0) bf .sz bf .sz x75))) .z) .e .e
theorem wn195_4_1:Wt p195 gsz n195_4_1:=nt_of Z3 3000 100 p195 (by decide +kernel)
def n236_4_0:MT:=.n 604163 (.c (.c (d2 x6 (.a x4) .z) (.a (d4 bf x73 bf x11 .z))) .z) .e .e
theorem wn236_4_0:Wt p236 gsz n236_4_0:=nt_of Z3 3000 100 p236 (by decide +kernel)
def n238_4_0:MT:=.n 494792 (.c (.c (d2 x6 (.a (d4 bf .sz bf x3 .z)) .z) (.a (d4 bf x73 bf x11 .z))) .z) (.n 236409 (.c (.c (d2 x89 x89 .z) (.a (d4 bf x73 bf x11 .z))) .z) (.n 5408 (.c (.c (d2 (.a x4) (.a x4) .z) (.a (d4 bf x73 bf x11 .z))) .z) .e .e) (.n 492743 (.c (.c (d2 x92 x92 .z) (.a (d4 bf x73 bf x11 .z))) .z) .e .e)) (.n 792702 (.c (.c (d2 x6 x6 .z) (.a (d4 bf x73 bf x11 .z))) .z) (.n 749077 (.c (.c (d2 x91 x91 .z) (.a (d4 bf x73 bf x11 .z))) .z) .e .e) (.n 980078 (.c (.c (d2 x90 x90 .z) (.a (d4 bf x73 bf x11 .z))) .z) .e .e))
theorem wn238_4_0:Wt p238 gsz n238_4_0:=nt_of Z3 3000 100 p238 (by decide +kernel)
def M24_4:MT:=.j n24_4_2 (.j n24_3_1 (.j n24_2_0 .e))
def H24_4:FD:=.ms D24 M24_4 lo3 gs2 G24
theorem TH24_4:Q p24 H24_4:=ms_q hlo TG24 (by decide +kernel) (show MtAll _ M24_4 from (mJ wn24_4_2 (mJ wn24_3_1 (mJ wn24_2_0 mE))))
def M48_4:MT:=.j n48_4_3 (.j n48_3_2 (.j n48_2_1 (.j n48_1_0 .e)))
def H48_4:FD:=.ms D48 M48_4 lo3 gsz G48
theorem TH48_4:Q p48 H48_4:=ms_q hlo TG48 (by decide +kernel) (show MtAll _ M48_4 from (mJ wn48_4_3 (mJ wn48_3_2 (mJ wn48_2_1 (mJ wn48_1_0 mE)))))
def M55_4:MT:=.j n55_4_1 (.j n55_3_0 .e)
def H55_4:FD:=.ms D55 M55_4 lo3 gsz G55
theorem TH55_4:Q p55 H55_4:=ms_q hlo TG55 (by decide +kernel) (show MtAll _ M55_4 from (mJ wn55_4_1 (mJ wn55_3_0 mE)))
def M56_4:MT:=.j n56_4_2 (.j n56_3_1 (.j n56_2_0 .e))
def H56_4:FD:=.ms D56 M56_4 lo3 gsz G56
theorem TH56_4:Q p56 H56_4:=ms_q hlo TG56 (by decide +kernel) (show MtAll _ M56_4 from (mJ wn56_4_2 (mJ wn56_3_1 (mJ wn56_2_0 mE))))
def M57_4:MT:=.j n57_4_0 .e
def H57_4:FD:=.ms D57 M57_4 lo3 gsz G57
theorem TH57_4:Q p57 H57_4:=ms_q hlo TG57 (by decide +kernel) (show MtAll _ M57_4 from (mJ wn57_4_0 mE))
def M66_4:MT:=.j n66_4_2 (.j n66_4_1 (.j n66_4_0 .e))
def H66_4:FD:=.ms D66 M66_4 lo3 gsz G66
theorem TH66_4:Q p66 H66_4:=ms_q hlo TG66 (by decide +kernel) (show MtAll _ M66_4 from (mJ wn66_4_2 (mJ wn66_4_1 (mJ wn66_4_0 mE))))
def M75_4:MT:=.j n75_4_0 .e
def H75_4:FD:=.ms D75 M75_4 lo3 gsz G75
theorem TH75_4:Q p75 H75_4:=ms_q hlo TG75 (by decide +kernel) (show MtAll _ M75_4 from (mJ wn75_4_0 mE))
def M83_4:MT:=.j n83_4_5 (.j n83_4_4 (.j n83_4_3 (.j n83_4_2 (.j n83_4_1 (.j n83_4_0 .e)))))
def H83_4:FD:=.ms D83 M83_4 lo3 gsz G83
theorem TH83_4:Q p83 H83_4:=ms_q hlo TG83 (by decide +kernel) (show MtAll _ M83_4 from (mJ wn83_4_5 (mJ wn83_4_4 (mJ wn83_4_3 (mJ wn83_4_2 (mJ wn83_4_1 (mJ wn83_4_0 mE)))))))
def M84_4:MT:=.j n84_4_0 .e
def H84_4:FD:=.ms D84 M84_4 lo3 gsz G84
theorem TH84_4:Q p84 H84_4:=ms_q hlo TG84 (by decide +kernel) (show MtAll _ M84_4 from (mJ wn84_4_0 mE))
def M106_4:MT:=.j n106_4_0 .e
def H106_4:FD:=.ms D106 M106_4 lo3 gsz G106
theorem TH106_4:Q p106 H106_4:=ms_q hlo TG106 (by decide +kernel) (show MtAll _ M106_4 from (mJ wn106_4_0 mE))
def M108_4:MT:=.j n108_4_2 (.j n108_3_1 (.j n108_2_0 .e))
def H108_4:FD:=.ms D108 M108_4 lo3 gsz G108
theorem TH108_4:Q p108 H108_4:=ms_q hlo TG108 (by decide +kernel) (show MtAll _ M108_4 from (mJ wn108_4_2 (mJ wn108_3_1 (mJ wn108_2_0 mE))))
def M130_4:MT:=.j n130_4_0 .e
def H130_4:FD:=.ms D130 M130_4 lo3 gsz G130
theorem TH130_4:Q p130 H130_4:=ms_q hlo TG130 (by decide +kernel) (show MtAll _ M130_4 from (mJ wn130_4_0 mE))
def M140_4:MT:=.j n140_4_0 .e
def H140_4:FD:=.ms D140 M140_4 lo3 gsz G140
theorem TH140_4:Q p140 H140_4:=ms_q hlo TG140 (by decide +kernel) (show MtAll _ M140_4 from (mJ wn140_4_0 mE))
def M141_4:MT:=.j n141_4_0 .e
def H141_4:FD:=.ms D141 M141_4 lo3 gsz G141
theorem TH141_4:Q p141 H141_4:=ms_q hlo TG141 (by decide +kernel) (show MtAll _ M141_4 from (mJ wn141_4_0 mE))
def M195_4:MT:=.j n195_4_1 (.j n195_3_0 .e)
def H195_4:FD:=.ms D195 M195_4 lo3 gsz G195
theorem TH195_4:Q p195 H195_4:=ms_q hlo TG195 (by decide +kernel) (show MtAll _ M195_4 from (mJ wn195_4_1 (mJ wn195_3_0 mE)))
def M236_4:MT:=.j n236_4_0 .e
def H236_4:FD:=.ms D236 M236_4 lo3 gsz G236
theorem TH236_4:Q p236 H236_4:=ms_q hlo TG236 (by decide +kernel) (show MtAll _ M236_4 from (mJ wn236_4_0 mE))
def M238_4:MT:=.j n238_4_0 .e
def H238_4:FD:=.ms D238 M238_4 lo3 gsz G238
theorem TH238_4:Q p238 H238_4:=ms_q hlo TG238 (by decide +kernel) (show MtAll _ M238_4 from (mJ wn238_4_0 mE))
def U4_158:PT FD:=.n (.n U3_135 (.sh G39) U3_136) (.sh G23) (.n U1_80 H55_4 U0_8)
theorem V4_158:tabAll (fun p=>Q (.o (.o (.o (.i p))))) U4_158:=(tN (tN V3_135 (sh_q TG39) V3_136) (sh_q TG23) (tN V1_80 TH55_4 V0_8))
def U4_159:PT FD:=.n (.n (.n .e (.sh G259) .e) (.sh G131) .e) H67_1 (.n .e H195_4 .e)
theorem V4_159:tabAll (fun p=>Q (.o (.o (.i (.o (.o (.o p))))))) U4_159:=(tN (tN (tN tE (sh_q TG259) tE) (sh_q TG131) tE) TH67_1 (tN tE TH195_4 tE))
def U4_160:PT FD:=.n (.n .e (.sh G147) .e) H83_4 (.n .e (.sh G211) .e)
theorem V4_160:tabAll (fun p=>Q (.o (.o (.i (.o (.i (.o p))))))) U4_160:=(tN (tN tE (sh_q TG147) tE) TH83_4 (tN tE (sh_q TG211) tE))
def U4_161:PT FD:=.n (.n U4_159 (.sh G35) U0_11) (.sh G19) (.n U4_160 (.sh G51) U0_13)
theorem V4_161:tabAll (fun p=>Q (.o (.o (.i (.o p))))) U4_161:=(tN (tN V4_159 (sh_q TG35) V0_11) (sh_q TG19) (tN V4_160 (sh_q TG51) V0_13))
def U4_162:PT FD:=.n (.n (.n .e (.sh G267) .e) H139_3 .e) H75_4 (.n .e (.sh G203) .e)
theorem V4_162:tabAll (fun p=>Q (.o (.o (.i (.i (.o (.o p))))))) U4_162:=(tN (tN (tN tE (sh_q TG267) tE) TH139_3 tE) TH75_4 (tN tE (sh_q TG203) tE))
def U4_163:PT FD:=.n (.n U4_162 (.sh G43) U2_109) (.sh G27) (.n U0_17 (.sh G59) U0_18)
theorem V4_163:tabAll (fun p=>Q (.o (.o (.i (.i p))))) U4_163:=(tN (tN V4_162 (sh_q TG43) V2_109) (sh_q TG27) (tN V0_17 (sh_q TG59) V0_18))
def U4_164:PT FD:=.n (.n U2_108 (.sh G7) U4_158) (.sh G3) (.n U4_161 (.sh G11) U4_163)
theorem V4_164:tabAll (fun p=>Q (.o (.o p))) U4_164:=(tN (tN V2_108 (sh_q TG7) V4_158) (sh_q TG3) (tN V4_161 (sh_q TG11) V4_163))
def U4_165:PT FD:=.n (.n U0_25 (.sh G41) U3_143) (.sh G25) (.n U0_27 H57_4 U1_90)
theorem V4_165:tabAll (fun p=>Q (.o (.i (.o (.i p))))) U4_165:=(tN (tN V0_25 (sh_q TG41) V3_143) (sh_q TG25) (tN V0_27 TH57_4 V1_90))
def U4_166:PT FD:=.n (.n (.n .e (.sh G269) .e) H141_4 .e) (.sh G77) (.n .e (.sh G205) .e)
theorem V4_166:tabAll (fun p=>Q (.o (.i (.i (.i (.o (.o p))))))) U4_166:=(tN (tN (tN tE (sh_q TG269) tE) TH141_4 tE) (sh_q TG77) (tN tE (sh_q TG205) tE))
def U4_167:PT FD:=.n (.n U4_166 (.sh G45) U2_116) (.sh G29) (.n U0_37 H61_3 (.n (.n .e (.sh G189) .e) (.sh G125) .e))
theorem V4_167:tabAll (fun p=>Q (.o (.i (.i (.i p))))) U4_167:=(tN (tN V4_166 (sh_q TG45) V2_116) (sh_q TG29) (tN V0_37 TH61_3 (tN (tN tE (sh_q TG189) tE) (sh_q TG125) tE)))
def U4_168:PT FD:=.n (.n U1_89 (.sh G9) U4_165) (.sh G5) (.n U3_146 (.sh G13) U4_167)
theorem V4_168:tabAll (fun p=>Q (.o (.i p))) U4_168:=(tN (tN V1_89 (sh_q TG9) V4_165) (sh_q TG5) (tN V3_146 (sh_q TG13) V4_167))
def U4_169:PT FD:=.n (.n U0_40 H32_1 U0_41) (.sh G16) (.n U0_42 H48_4 (.n .e (.sh G112) (.n .e (.sh G240) .e)))
theorem V4_169:tabAll (fun p=>Q (.i (.o (.o (.o p))))) U4_169:=(tN (tN V0_40 TH32_1 V0_41) (sh_q TG16) (tN V0_42 TH48_4 (tN tE (sh_q TG112) (tN tE (sh_q TG240) tE))))
def U4_170:PT FD:=.n (.n U0_44 (.sh G40) U2_120) H24_4 (.n U0_46 H56_4 U3_150)
theorem V4_170:tabAll (fun p=>Q (.i (.o (.o (.i p))))) U4_170:=(tN (tN V0_44 (sh_q TG40) V2_120) TH24_4 (tN V0_46 TH56_4 V3_150))
def U4_171:PT FD:=.n (.n .e (.sh G148) .e) H84_4 (.n .e (.sh G212) .e)
theorem V4_171:tabAll (fun p=>Q (.i (.o (.i (.o (.i (.o p))))))) U4_171:=(tN (tN tE (sh_q TG148) tE) TH84_4 (tN tE (sh_q TG212) tE))
def U4_172:PT FD:=.n (.n U0_49 (.sh G36) U2_123) (.sh G20) (.n U4_171 (.sh G52) U1_98)
theorem V4_172:tabAll (fun p=>Q (.i (.o (.i (.o p))))) U4_172:=(tN (tN V0_49 (sh_q TG36) V2_123) (sh_q TG20) (tN V4_171 (sh_q TG52) V1_98))
def U4_173:PT FD:=.n (.n (.n .e (.sh G268) .e) H140_4 .e) (.sh G76) (.n .e (.sh G204) .e)
theorem V4_173:tabAll (fun p=>Q (.i (.o (.i (.i (.o (.o p))))))) U4_173:=(tN (tN (tN tE (sh_q TG268) tE) TH140_4 tE) (sh_q TG76) (tN tE (sh_q TG204) tE))
def U4_174:PT FD:=.n (.n .e (.sh G172) .e) H108_4 (.n .e H236_4 .e)
theorem V4_174:tabAll (fun p=>Q (.i (.o (.i (.i (.o (.i p))))))) U4_174:=(tN (tN tE (sh_q TG172) tE) TH108_4 (tN tE TH236_4 tE))
def U4_175:PT FD:=.n (.n U4_173 (.sh G44) U4_174) (.sh G28) (.n U0_56 H60_1 U0_57)
theorem V4_175:tabAll (fun p=>Q (.i (.o (.i (.i p))))) U4_175:=(tN (tN V4_173 (sh_q TG44) V4_174) (sh_q TG28) (tN V0_56 TH60_1 V0_57))
def U4_176:PT FD:=.n (.n U4_169 (.sh G8) U4_170) (.sh G4) (.n U4_172 H12_2 U4_175)
theorem V4_176:tabAll (fun p=>Q (.i (.o p))) U4_176:=(tN (tN V4_169 (sh_q TG8) V4_170) (sh_q TG4) (tN V4_172 TH12_2 V4_175))
def U4_177:PT FD:=.n (.n .e H130_4 .e) H66_4 (.n (.n .e (.sh G322) .e) (.sh G194) .e)
theorem V4_177:tabAll (fun p=>Q (.i (.i (.o (.o (.o (.o p))))))) U4_177:=(tN (tN tE TH130_4 tE) TH66_4 (tN (tN tE (sh_q TG322) tE) (sh_q TG194) tE))
def U4_178:PT FD:=.n (.n U4_177 (.sh G34) U0_61) (.sh G18) (.n U2_128 (.sh G50) U2_129)
theorem V4_178:tabAll (fun p=>Q (.i (.i (.o (.o p))))) U4_178:=(tN (tN V4_177 (sh_q TG34) V0_61) (sh_q TG18) (tN V2_128 (sh_q TG50) V2_129))
def U4_179:PT FD:=.n (.n .e (.sh G170) .e) H106_4 (.n .e (.sh G234) .e)
theorem V4_179:tabAll (fun p=>Q (.i (.i (.o (.i (.o (.i p))))))) U4_179:=(tN (tN tE (sh_q TG170) tE) TH106_4 (tN tE (sh_q TG234) tE))
def U4_180:PT FD:=.n (.n U0_65 (.sh G42) U4_179) (.sh G26) (.n U0_67 (.sh G58) U0_68)
theorem V4_180:tabAll (fun p=>Q (.i (.i (.o (.i p))))) U4_180:=(tN (tN V0_65 (sh_q TG42) V4_179) (sh_q TG26) (tN V0_67 (sh_q TG58) V0_68))
def U4_181:PT FD:=.n (.n U0_75 (.sh G46) (.n .e H110_3 (.n .e H238_4 .e))) (.sh G30) (.n U0_76 (.sh G62) U3_155)
theorem V4_181:tabAll (fun p=>Q (.i (.i (.i (.i p))))) U4_181:=(tN (tN V0_75 (sh_q TG46) (tN tE TH110_3 (tN tE TH238_4 tE))) (sh_q TG30) (tN V0_76 (sh_q TG62) V3_155))
def U4_182:PT FD:=.n (.n U4_178 (.sh G10) U4_180) H6_2 (.n U2_132 (.sh G14) U4_181)
theorem V4_182:tabAll (fun p=>Q (.i (.i p))) U4_182:=(tN (tN V4_178 (sh_q TG10) V4_180) TH6_2 (tN V2_132 (sh_q TG14) V4_181))
def TAB4:PT FD:=.n (.n U4_164 .no U4_168) .no (.n U4_176 .no U4_182)
theorem Z4:TabOK PR NG TAB4:=tab_ok (show tabAll Q TAB4 from (tN (tN V4_164 tNo V4_168) tNo (tN V4_176 tNo V4_182)))
end
end Go.Am.Cd
