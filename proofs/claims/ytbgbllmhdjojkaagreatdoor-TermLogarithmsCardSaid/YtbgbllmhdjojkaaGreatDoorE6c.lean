import Derived.Test.YtbgbllmhdjojkaaGreatDoorE6x
set_option linter.all false
set_option maxRecDepth 1000000
namespace Go.Am.Cd
open Go Go.Proofs
noncomputable section
def n264_6_2:MT:=.n 153828 (.c (.c (.c (K 4 4 (d8 bf x83 bf x3 bf x29 bf x3 x223)) .z) (S 4 1 (d4 (K 4 4 (d8 bf x83 bf x29 bf x26 bf x3 .z)) (K 3 3 (d4 bf x29 bf x38 x27)) (K 2 2 (d4 bt x35 bt x3 .z)) x224 .z))) .z) .e .e
theorem wn264_6_2:Wt p264 gsz n264_6_2:=nt_of Z5 3000 100 p264 (by decide +kernel)
def n180_6_1:MT:=.n 33663 (.c (.c (.c (K 4 4 (d8 bf x5 bf x3 bf x29 bf x3 x192)) .z) (S 1 4 (d4 bf x73 bf x11 .z))) .z) .e .e
theorem wn180_6_1:Wt p180 gsz n180_6_1:=nt_of Z5 3000 100 p180 (by decide +kernel)
def n130_6_6:MT:=.n 466580 (.c (.c (.c (S 4 4 (d8 bf x5 bf x3 bf x26 bf x3 x192)) .z) (.t (d2 (S 2 2 (d4 x186 (ci 1) x207 (ci 1) .z)) bt .z))) .z) .e .e
theorem wn130_6_6:Wt p130 gsz n130_6_6:=nt_of Z5 3000 100 p130 (by decide +kernel)
def n180_6_4:MT:=.n 859481 (.c (.c (.c (K 4 4 (d8 bf x32 bf x3 bf x26 bf x3 x223)) .z) (S 1 4 (d4 bt x13 bf x11 .z))) .z) .e .e
theorem wn180_6_4:Wt p180 gsz n180_6_4:=nt_of Z5 3000 100 p180 (by decide +kernel)
def n179_6_2:MT:=.n 70088 (.c (.c (.c (S 4 4 x222) .z) (S 1 2 (d2 (K 4 4 (d8 bf x87 bf x11 bf x19 bf x11 x209)) (ci 1) .z))) .z) .e .e
theorem wn179_6_2:Wt p179 gsz n179_6_2:=nt_of Z5 3000 100 p179 (by decide +kernel)
def n119_6_18:MT:=.n 942845 (.c (.c (d2 x174 x198 .z) (K 4 4 (d8 (ci 3) (ci 0) (ci 0) (ci 0) bf x11 bf x11 (d8 (ci 2) (ci 0) (ci 0) (ci 0) bf x19 bf x11 (d8 (ci 1) (ci 0) (ci 0) (ci 0) bf x13 bf x11 x205))))) .z) (.n 887029 (.c (.c (d2 x203 x198 .z) (K 4 4 (d8 (ci 3) (ci 0) (ci 0) (ci 0) bf x11 bf x11 (d8 (ci 2) (ci 0) (ci 0) (ci 0) bf x13 bf x11 (d8 (ci 1) (ci 0) (ci 0) (ci 0) bf x13 bf x11 x172))))) .z) .e .e) .e
theorem wn119_6_18:Wt p119 gsz n119_6_18:=nt_of Z5 3000 100 p119 (by decide +kernel)
def n119_6_16:MT:=.n 775397 (.c (.c (d2 x147 x198 .z) (K 4 4 (d8 (ci 3) (ci 0) (ci 0) (ci 0) bf x11 bf x11 (d8 (ci 2) (ci 0) (ci 0) (ci 0) bf x11 bf x11 (d8 (ci 1) (ci 0) (ci 0) (ci 0) bf x13 bf x11 x200))))) .z) (.n 767865 (.c (.c (d2 x203 x129 .z) (K 4 4 (d8 (ci 3) (ci 0) (ci 0) (ci 0) bf x11 bf x11 (d8 (ci 2) (ci 0) (ci 0) (ci 0) bf x13 bf x11 x204)))) .z) .e .e) .e
theorem wn119_6_16:Wt p119 gsz n119_6_16:=nt_of Z5 3000 100 p119 (by decide +kernel)
def n179_6_6:MT:=.n 394404 (.c (.c (.c (S 4 4 x217) .z) (S 1 2 (d2 (K 4 4 (d8 bf x84 bf x11 bf x13 bf x11 x191)) (ci 1) .z))) .z) .e .e
theorem wn179_6_6:Wt p179 gsz n179_6_6:=nt_of Z5 3000 100 p179 (by decide +kernel)
def n179_6_11:MT:=.n 831589 (.c (.c (.c (S 4 4 x211) .z) (S 1 2 (d2 (K 4 4 (d8 bf x19 bf x11 bf x19 bf x11 x185)) (ci 1) .z))) .z) .e .e
theorem wn179_6_11:Wt p179 gsz n179_6_11:=nt_of Z5 3000 100 p179 (by decide +kernel)
def n179_6_1:MT:=.n 40991 (.c (.c (.c (S 4 4 x212) .z) (S 1 2 (d2 (K 4 4 (d8 bf x31 bf x11 bf x31 bf x11 x185)) (ci 1) .z))) .z) .e .e
theorem wn179_6_1:Wt p179 gsz n179_6_1:=nt_of Z5 3000 100 p179 (by decide +kernel)
def n179_6_13:MT:=.n 985146 (.c (.c (.c (S 4 4 x221) .z) (S 1 2 (d2 (K 4 4 (d8 bf x85 bf x11 bf x13 bf x11 x209)) (ci 1) .z))) .z) .e .e
theorem wn179_6_13:Wt p179 gsz n179_6_13:=nt_of Z5 3000 100 p179 (by decide +kernel)
def n291_6_1:MT:=.n 96807 (.c (.c (.c (K 4 4 x212) .z) (K 4 4 (d8 bf x31 bf x11 bf x31 bf x11 x185))) .z) .e .e
theorem wn291_6_1:Wt p291 gsz n291_6_1:=nt_of Z5 3000 100 p291 (by decide +kernel)
def n179_6_8:MT:=.n 510464 (.c (.c (.c (S 4 4 x218) .z) (S 1 2 (d2 (K 4 4 (d8 bf x43 bf x11 bf x19 bf x11 x191)) (ci 1) .z))) .z) .e .e
theorem wn179_6_8:Wt p179 gsz n179_6_8:=nt_of Z5 3000 100 p179 (by decide +kernel)
def n291_6_9:MT:=.n 468595 (.c (.c (.c (K 4 4 x210) .z) (K 4 4 (d8 bf x10 bf x11 bf x10 bf x11 x185))) .z) .e .e
theorem wn291_6_9:Wt p291 gsz n291_6_9:=nt_of Z5 3000 100 p291 (by decide +kernel)
def n291_6_0:MT:=.n 40959 (.c (.c (.c (K 4 4 x221) .z) (K 4 4 (d8 bf x85 bf x11 bf x13 bf x11 x209))) .z) .e .e
theorem wn291_6_0:Wt p291 gsz n291_6_0:=nt_of Z5 3000 100 p291 (by decide +kernel)
def n291_6_7:MT:=.n 447029 (.c (.c (.c (K 4 4 (d8 bf x23 bf x3 bf x17 bf x3 x193)) .z) (K 4 4 (d8 bf x25 bf x11 bf x19 bf x11 x208))) .z) .e .e
theorem wn291_6_7:Wt p291 gsz n291_6_7:=nt_of Z5 3000 100 p291 (by decide +kernel)
def n119_6_14:MT:=.n 6190 (.c (.c (d2 x203 x142 .z) (K 4 4 (d8 (ci 3) (ci 0) (ci 0) (ci 0) bf x11 bf x11 (d8 (ci 2) (ci 0) (ci 0) (ci 0) bf x13 bf x11 (d8 (ci 1) (ci 0) (ci 0) (ci 0) bf x31 bf x11 x206))))) .z) (.n 2840 (.c (.c (d2 x203 x15 .z) (K 2 2 x204)) .z) .e .e) .e
theorem wn119_6_14:Wt p119 gsz n119_6_14:=nt_of Z5 3000 100 p119 (by decide +kernel)
def n130_6_7:MT:=.n 818378 (.c (.c (.c (S 2 4 x195) .z) (.t (d2 (S 1 2 (d2 (K 2 2 x209) (ci 1) .z)) bt .z))) .z) (.n 766123 (.c (.c (.c (S 2 4 x193) .z) (.t (d2 (S 1 2 (d2 (K 2 2 x208) (ci 1) .z)) bt .z))) .z) .e .e) (.n 832442 (.c (.c (.c (S 2 4 x192) .z) (.t (d2 (S 1 2 (d2 x186 (ci 1) .z)) bt .z))) .z) .e .e)
theorem wn130_6_7:Wt p130 gsz n130_6_7:=nt_of Z5 3000 100 p130 (by decide +kernel)
def n141_6_2:MT:=.n 833652 (.c (.c (d2 x112 x112 .z) (.t (d2 x184 bt .z))) .z) (.n 106228 (.c (.c (d2 (K 1 1 x196) x112 .z) (.t (d2 (S 1 8 x199) bt .z))) .z) .e .e) (.n 864767 (.c (.c (d2 x15 x112 .z) (.t (d2 x184 bt .z))) .z) .e .e)
theorem wn141_6_2:Wt p141 gsz n141_6_2:=nt_of Z5 3000 100 p141 (by decide +kernel)
end
end Go.Am.Cd
