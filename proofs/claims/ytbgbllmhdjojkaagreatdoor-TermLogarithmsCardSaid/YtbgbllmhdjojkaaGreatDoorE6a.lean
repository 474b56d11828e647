import Derived.Test.YtbgbllmhdjojkaaGreatDoorE6x
set_option linter.all false
set_option maxRecDepth 1000000
namespace Go.Am.Cd
open Go Go.Proofs
noncomputable section
def n264_6_1:MT:=.n 90449 (.c (.c (.c (K 4 4 x226) .z) (S 4 1 (d4 (K 4 4 (d8 bf x17 bf x20 bf x20 bf x3 .z)) (K 3 3 (d4 bf x20 bf x17 x27)) (K 2 2 (d4 bt x23 bt x3 .z)) x224 .z))) .z) .e .e
theorem wn264_6_1:Wt p264 gsz n264_6_1:=nt_of Z5 3000 100 p264 (by decide +kernel)
def n180_6_3:MT:=.n 767842 (.c (.c (.c (K 4 4 (d8 bf x5 bf x3 bf x17 bf x3 x192)) .z) (S 1 4 (d4 bf x73 bf x11 .z))) .z) .e .e
theorem wn180_6_3:Wt p180 gsz n180_6_3:=nt_of Z5 3000 100 p180 (by decide +kernel)
def n130_6_8:MT:=.n 934935 (.c (.c (.c (S 4 4 (d8 bf x5 bf x3 bf x3 bf x3 x192)) .z) (.t (d2 (S 2 2 (d4 x186 (ci 1) x187 (ci 1) .z)) bt .z))) .z) .e .e
theorem wn130_6_8:Wt p130 gsz n130_6_8:=nt_of Z5 3000 100 p130 (by decide +kernel)
def n264_6_4:MT:=.n 565131 (.c (.c (.c (K 4 4 (d8 bf x26 bf x3 bf x3 bf x3 x223)) .z) (S 4 1 (d4 (K 4 4 (d8 bf x26 bf x3 bf x26 bf x3 .z)) (K 3 3 (d4 bf x3 bf x38 x27)) (K 2 2 (d4 bt x20 bf x3 .z)) x224 .z))) .z) .e .e
theorem wn264_6_4:Wt p264 gsz n264_6_4:=nt_of Z5 3000 100 p264 (by decide +kernel)
def n179_6_12:MT:=.n 900201 (.c (.c (.c (S 4 4 x220) .z) (S 1 2 (d2 (K 4 4 (d8 bf x37 bf x11 bf x10 bf x11 x209)) (ci 1) .z))) .z) .e .e
theorem wn179_6_12:Wt p179 gsz n179_6_12:=nt_of Z5 3000 100 p179 (by decide +kernel)
def n179_6_10:MT:=.n 815256 (.c (.c (.c (S 4 4 x219) .z) (S 1 2 (d2 (K 4 4 (d8 bf x31 bf x11 bf x11 bf x11 x209)) (ci 1) .z))) .z) .e .e
theorem wn179_6_10:Wt p179 gsz n179_6_10:=nt_of Z5 3000 100 p179 (by decide +kernel)
def n119_6_17:MT:=.n 831213 (.c (.c (d2 x166 x198 .z) (K 4 4 (d8 (ci 3) (ci 0) (ci 0) (ci 0) bf x11 bf x11 (d8 (ci 2) (ci 0) (ci 0) (ci 0) bf x10 bf x11 (d8 (ci 1) (ci 0) (ci 0) (ci 0) bf x13 bf x11 x119))))) .z) (.n 827447 (.c (.c (d2 x203 x132 .z) (K 4 4 (d8 (ci 3) (ci 0) (ci 0) (ci 0) bf x11 bf x11 (d8 (ci 2) (ci 0) (ci 0) (ci 0) bf x13 bf x11 (d8 (ci 1) (ci 0) (ci 0) (ci 0) bf x10 bf x11 x119))))) .z) .e .e) .e
theorem wn119_6_17:Wt p119 gsz n119_6_17:=nt_of Z5 3000 100 p119 (by decide +kernel)
def n179_6_5:MT:=.n 278344 (.c (.c (.c (S 4 4 x216) .z) (S 1 2 (d2 (K 4 4 (d8 bf x25 bf x11 bf x10 bf x11 x191)) (ci 1) .z))) .z) .e .e
theorem wn179_6_5:Wt p179 gsz n179_6_5:=nt_of Z5 3000 100 p179 (by decide +kernel)
def n291_6_2:MT:=.n 125904 (.c (.c (.c (K 4 4 x222) .z) (K 4 4 (d8 bf x87 bf x11 bf x19 bf x11 x209))) .z) .e .e
theorem wn291_6_2:Wt p291 gsz n291_6_2:=nt_of Z5 3000 100 p291 (by decide +kernel)
def n291_6_14:MT:=.n 871072 (.c (.c (.c (K 4 4 x219) .z) (K 4 4 (d8 bf x31 bf x11 bf x11 bf x11 x209))) .z) .e .e
theorem wn291_6_14:Wt p291 gsz n291_6_14:=nt_of Z5 3000 100 p291 (by decide +kernel)
def n291_6_11:MT:=.n 625319 (.c (.c (.c (K 4 4 x214) .z) (K 4 4 (d8 bf x37 bf x11 bf x31 bf x11 x208))) .z) .e .e
theorem wn291_6_11:Wt p291 gsz n291_6_11:=nt_of Z5 3000 100 p291 (by decide +kernel)
def n119_6_15:MT:=.n 371011 (.c (.c (d2 x203 (S 1 8 x76) .z) (K 2 2 (d8 (ci 3) (ci 0) (ci 0) (ci 0) bf x11 bf x11 (d8 (ci 2) (ci 0) (ci 0) (ci 0) bf x13 bf x11 .z)))) .z) (.n 282481 (.c (.c (d2 x203 x203 .z) (K 3 3 (d8 (ci 2) (ci 0) (ci 0) (ci 0) bf x11 bf x11 (d8 (ci 1) (ci 0) (ci 0) (ci 0) bf x28 bf x11 x172)))) .z) (.n 89070 (.c (.c (d2 (K 2 2 x202) x171 .z) (K 4 4 (d8 (ci 3) (ci 0) (ci 0) (ci 0) bf x11 bf x11 (d8 (ci 2) (ci 0) (ci 0) (ci 0) bf x34 bf x11 (d8 (ci 1) (ci 0) (ci 0) (ci 0) bf x41 bf x11 (d8 (ci 0) (ci 0) (ci 0) (ci 0) bf x41 bf x11 .z)))))) .z) .e .e) (.n 287443 (.c (.c (d2 x112 x203 .z) (K 2 2 x204)) .z) .e .e)) (.n 590801 (.c (.c (d2 x15 x198 .z) (K 2 2 x201)) .z) (.n 439226 (.c (.c (d2 x114 x198 .z) (K 2 2 (d8 (ci 3) (ci 0) (ci 0) (ci 0) bf x11 bf x11 x199))) .z) .e .e) .e)
theorem wn119_6_15:Wt p119 gsz n119_6_15:=nt_of Z5 3000 100 p119 (by decide +kernel)
def n291_6_6:MT:=.n 334160 (.c (.c (.c (K 4 4 x216) .z) (K 4 4 (d8 bf x25 bf x11 bf x10 bf x11 x191))) .z) .e .e
theorem wn291_6_6:Wt p291 gsz n291_6_6:=nt_of Z5 3000 100 p291 (by decide +kernel)
def n179_6_4:MT:=.n 212923 (.c (.c (.c (S 4 4 x213) .z) (S 1 2 (d2 (K 4 4 (d8 bf x28 bf x11 bf x13 bf x11 x208)) (ci 1) .z))) .z) .e .e
theorem wn179_6_4:Wt p179 gsz n179_6_4:=nt_of Z5 3000 100 p179 (by decide +kernel)
def n291_6_3:MT:=.n 210849 (.c (.c (.c (K 4 4 (d8 bf x78 bf x3 bf x29 bf x3 x195)) .z) (K 4 4 (d8 bf x86 bf x11 bf x31 bf x11 x209))) .z) .e .e
theorem wn291_6_3:Wt p291 gsz n291_6_3:=nt_of Z5 3000 100 p291 (by decide +kernel)
def n291_6_5:MT:=.n 268739 (.c (.c (.c (K 4 4 x213) .z) (K 4 4 (d8 bf x28 bf x11 bf x13 bf x11 x208))) .z) .e .e
theorem wn291_6_5:Wt p291 gsz n291_6_5:=nt_of Z5 3000 100 p291 (by decide +kernel)
def n16_6_0:MT:=.n 667848 (.c (.c (.c (.s [49,47,40,120,32,45,32,120,41]) .z) (ci 3)) .z) .e .e
theorem wn16_6_0:Wt p16 gs2 n16_6_0:=nt_of Z5 3000 100 p16 (by decide +kernel)
def n232_6_1:MT:=.n 24884 (.c (.c (.c (K 2 2 x223) .z) (S 1 2 (d2 bt x26 .z))) .z) .e .e
theorem wn232_6_1:Wt p232 gsz n232_6_1:=nt_of Z5 3000 100 p232 (by decide +kernel)
def n194_6_0:MT:=.n 367949 (.c (.c (d2 x125 x15 .z) (S 1 8 x103)) .z) .e .e
theorem wn194_6_0:Wt p194 gsz n194_6_0:=nt_of Z5 3000 100 p194 (by decide +kernel)
def n127_6_1:MT:=.n 686872 (.c (.c (d2 x112 (ci 2) .z) x94) .z) .e .e
theorem wn127_6_1:Wt p127 gsz n127_6_1:=nt_of Z5 3000 100 p127 (by decide +kernel)
end
end Go.Am.Cd
