import Derived.Test.YtbgbllmhdjojkaaGreatDoorE6x
set_option linter.all false
set_option maxRecDepth 1000000
namespace Go.Am.Cd
open Go Go.Proofs
noncomputable section
def n264_6_0:MT:=.n 6653 (.c (.c (.c (K 4 4 (d8 bf x79 bf x3 bf x17 bf x3 x223)) .z) (S 4 1 (d4 (K 4 4 (d8 bf x79 bf x17 bf x26 bf x3 .z)) (K 3 3 (d4 bf x17 bf x38 x27)) (K 2 2 (d4 bt x42 bt x3 .z)) x224 .z))) .z) .e .e
theorem wn264_6_0:Wt p264 gsz n264_6_0:=nt_of Z5 3000 100 p264 (by decide +kernel)
def n264_6_6:MT:=.n 912162 (.c (.c (.c (K 4 4 x225) .z) (S 4 1 (d4 (K 4 4 (d8 bf x20 bf x3 bf x20 bf x3 .z)) (K 3 3 (d4 bf x3 bf x17 x27)) (K 2 2 (d4 bt x23 bf x3 .z)) x224 .z))) .z) .e .e
theorem wn264_6_6:Wt p264 gsz n264_6_6:=nt_of Z5 3000 100 p264 (by decide +kernel)
def n264_6_5:MT:=.n 712306 (.c (.c (.c (K 4 4 (d8 bf x38 bf x3 bf x20 bf x3 x223)) .z) (S 4 1 (d4 (K 4 4 (d8 bf x38 bf x20 bf x26 bf x3 .z)) (K 3 3 (d4 bf x20 bf x38 x27)) (K 2 2 (d4 bt x23 bf x3 .z)) x224 .z))) .z) .e .e
theorem wn264_6_5:Wt p264 gsz n264_6_5:=nt_of Z5 3000 100 p264 (by decide +kernel)
def n264_6_3:MT:=.n 259190 (.c (.c (.c (K 4 4 (d8 bf x3 bf x3 bf x3 bf x3 x194)) .z) (S 4 1 (d4 (K 4 4 x194) (K 3 3 (d4 bf x3 bf x20 x27)) (K 2 2 (d4 bt x20 bt x3 .z)) x224 .z))) .z) .e .e
theorem wn264_6_3:Wt p264 gsz n264_6_3:=nt_of Z5 3000 100 p264 (by decide +kernel)
def n180_6_2:MT:=.n 236194 (.c (.c (.c (K 4 4 (d8 bf x5 bf x3 bf x20 bf x3 x192)) .z) (S 1 4 (d4 bf x73 bf x11 .z))) .z) .e .e
theorem wn180_6_2:Wt p180 gsz n180_6_2:=nt_of Z5 3000 100 p180 (by decide +kernel)
def n119_6_19:MT:=.n 998661 (.c (.c (d2 x180 x198 .z) (K 4 4 (d8 (ci 3) (ci 0) (ci 0) (ci 0) bf x11 bf x11 (d8 (ci 2) (ci 0) (ci 0) (ci 0) bf x31 bf x11 (d8 (ci 1) (ci 0) (ci 0) (ci 0) bf x13 bf x11 x206))))) .z) (.n 946611 (.c (.c (d2 x203 x137 .z) (K 4 4 (d8 (ci 3) (ci 0) (ci 0) (ci 0) bf x11 bf x11 (d8 (ci 2) (ci 0) (ci 0) (ci 0) bf x13 bf x11 (d8 (ci 1) (ci 0) (ci 0) (ci 0) bf x19 bf x11 x205))))) .z) .e .e) .e
theorem wn119_6_19:Wt p119 gsz n119_6_19:=nt_of Z5 3000 100 p119 (by decide +kernel)
def n179_6_3:MT:=.n 162284 (.c (.c (.c (S 4 4 x215) .z) (S 1 2 (d2 (K 4 4 (d8 bf x19 bf x11 bf x11 bf x11 x191)) (ci 1) .z))) .z) .e .e
theorem wn179_6_3:Wt p179 gsz n179_6_3:=nt_of Z5 3000 100 p179 (by decide +kernel)
def n291_6_16:MT:=.n 956017 (.c (.c (.c (K 4 4 x220) .z) (K 4 4 (d8 bf x37 bf x11 bf x10 bf x11 x209))) .z) .e .e
theorem wn291_6_16:Wt p291 gsz n291_6_16:=nt_of Z5 3000 100 p291 (by decide +kernel)
def n179_6_9:MT:=.n 569503 (.c (.c (.c (S 4 4 x214) .z) (S 1 2 (d2 (K 4 4 (d8 bf x37 bf x11 bf x31 bf x11 x208)) (ci 1) .z))) .z) .e .e
theorem wn179_6_9:Wt p179 gsz n179_6_9:=nt_of Z5 3000 100 p179 (by decide +kernel)
def n291_6_4:MT:=.n 218100 (.c (.c (.c (K 4 4 x215) .z) (K 4 4 (d8 bf x19 bf x11 bf x11 bf x11 x191))) .z) .e .e
theorem wn291_6_4:Wt p291 gsz n291_6_4:=nt_of Z5 3000 100 p291 (by decide +kernel)
def n291_6_15:MT:=.n 887405 (.c (.c (.c (K 4 4 x211) .z) (K 4 4 (d8 bf x19 bf x11 bf x19 bf x11 x185))) .z) .e .e
theorem wn291_6_15:Wt p291 gsz n291_6_15:=nt_of Z5 3000 100 p291 (by decide +kernel)
def n291_6_8:MT:=.n 450220 (.c (.c (.c (K 4 4 x217) .z) (K 4 4 (d8 bf x84 bf x11 bf x13 bf x11 x191))) .z) .e .e
theorem wn291_6_8:Wt p291 gsz n291_6_8:=nt_of Z5 3000 100 p291 (by decide +kernel)
def n179_6_7:MT:=.n 412779 (.c (.c (.c (S 4 4 x210) .z) (S 1 2 (d2 (K 4 4 (d8 bf x10 bf x11 bf x10 bf x11 x185)) (ci 1) .z))) .z) .e .e
theorem wn179_6_7:Wt p179 gsz n179_6_7:=nt_of Z5 3000 100 p179 (by decide +kernel)
def n130_6_5:MT:=.n 156175 (.c (.c (.c (S 3 4 (d8 bf x5 bf x3 bf x5 bf x3 x4)) .z) (.t (d2 (S 1 2 (d2 x186 (ci 2) .z)) bt .z))) .z) (.n 82036 (.c (.c (.c (S 2 4 x194) .z) (.t (d2 (S 1 2 (d2 (K 2 2 x185) (ci 1) .z)) bt .z))) .z) .e .e) (.n 294247 (.c (.c (.c (S 3 4 (d8 bf x26 bf x3 bf x5 bf x3 x4)) .z) (.t (d2 (S 1 2 (d2 x207 (ci 1) .z)) bt .z))) .z) .e .e)
theorem wn130_6_5:Wt p130 gsz n130_6_5:=nt_of Z5 3000 100 p130 (by decide +kernel)
def n291_6_10:MT:=.n 566280 (.c (.c (.c (K 4 4 x218) .z) (K 4 4 (d8 bf x43 bf x11 bf x19 bf x11 x191))) .z) .e .e
theorem wn291_6_10:Wt p291 gsz n291_6_10:=nt_of Z5 3000 100 p291 (by decide +kernel)
def n291_6_13:MT:=.n 682340 (.c (.c (.c (K 4 4 (d8 bf x81 bf x3 bf x29 bf x3 x190)) .z) (K 4 4 (d8 bf x87 bf x11 bf x31 bf x11 x191))) .z) .e .e
theorem wn291_6_13:Wt p291 gsz n291_6_13:=nt_of Z5 3000 100 p291 (by decide +kernel)
def n291_6_12:MT:=.n 678000 (.c (.c (.c (K 4 4 (d8 bf x26 bf x3 bf x26 bf x3 x194)) .z) (K 4 4 (d8 bf x13 bf x11 bf x13 bf x11 x185))) .z) .e .e
theorem wn291_6_12:Wt p291 gsz n291_6_12:=nt_of Z5 3000 100 p291 (by decide +kernel)
def n66_6_6:MT:=.n 43131 (.c (.c (d2 (.a (d2 (S 1 8 x196) x15 .z)) (.a (d2 (S 1 8 x196) x15 .z)) .z) (.t (d2 (.a (d2 x15 x15 .z)) (ci 0) .z))) .z) .e .e
theorem wn66_6_6:Wt p66 gsz n66_6_6:=nt_of Z5 3000 100 p66 (by decide +kernel)
end
end Go.Am.Cd
