import Derived.Test.YtbgbllmhdjojkaaGreatDoorE7x
set_option linter.all false
set_option maxRecDepth 1000000
namespace Go.Am.Cd
open Go Go.Proofs
noncomputable section
def n130_7_9:MT:=.n 34633 (.c (.c (.c (S 4 4 x226) .z) (.t (d2 (S 2 2 (d4 (K 2 2 x208) (ci 1) x188 (ci 1) .z)) bt .z))) .z) .e .e
theorem wn130_7_9:Wt p130 gsz n130_7_9:=nt_of Z6 3000 100 p130 (by decide +kernel)
def n130_7_11:MT:=.n 856346 (.c (.c (.c (S 4 4 x225) .z) (.t (d2 (S 2 2 (d4 (K 2 2 x208) (ci 1) x187 (ci 1) .z)) bt .z))) .z) .e .e
theorem wn130_7_11:Wt p130 gsz n130_7_11:=nt_of Z6 3000 100 p130 (by decide +kernel)
def n264_7_9:MT:=.n 125904 (.c (.c (.c (K 4 4 x222) .z) (S 4 1 (d4 (K 4 4 (d8 bf x81 bf x17 bf x29 bf x3 .z)) (K 3 3 (d4 bf x17 bf x35 x27)) (K 2 2 (d4 bt x238 bf x237 .z)) x224 .z))) .z) .e .e
theorem wn264_7_9:Wt p264 gsz n264_7_9:=nt_of Z6 3000 100 p264 (by decide +kernel)
def n264_7_11:MT:=.n 218100 (.c (.c (.c (K 4 4 x215) .z) (S 4 1 (d4 (K 4 4 (d8 bf x17 bf x3 bf x17 bf x3 .z)) (K 3 3 (d4 bf x3 bf x23 x27)) (K 2 2 (d4 bt x42 bf x237 .z)) x224 .z))) .z) .e .e
theorem wn264_7_11:Wt p264 gsz n264_7_11:=nt_of Z6 3000 100 p264 (by decide +kernel)
def n264_7_18:MT:=.n 625319 (.c (.c (.c (K 4 4 x214) .z) (S 4 1 (d4 (K 4 4 (d8 bf x35 bf x29 bf x20 bf x3 .z)) (K 3 3 (d4 bf x29 bf x17 x27)) (K 2 2 (d4 bt x236 bt x45 .z)) x224 .z))) .z) .e .e
theorem wn264_7_18:Wt p264 gsz n264_7_18:=nt_of Z6 3000 100 p264 (by decide +kernel)
def n264_7_13:MT:=.n 334160 (.c (.c (.c (K 4 4 x216) .z) (S 4 1 (d4 (K 4 4 (d8 bf x23 bf x20 bf x17 bf x3 .z)) (K 3 3 (d4 bf x20 bf x23 x27)) (K 2 2 (d4 bt x42 bf x29 .z)) x224 .z))) .z) .e .e
theorem wn264_7_13:Wt p264 gsz n264_7_13:=nt_of Z6 3000 100 p264 (by decide +kernel)
def n264_7_16:MT:=.n 468595 (.c (.c (.c (K 4 4 x210) .z) (S 4 1 (d4 (K 4 4 (d8 bf x20 bf x20 bf x3 bf x3 .z)) (K 3 3 (d4 bf x20 bf x20 x27)) (K 2 2 (d4 bt x23 bt x29 .z)) x224 .z))) .z) .e .e
theorem wn264_7_16:Wt p264 gsz n264_7_16:=nt_of Z6 3000 100 p264 (by decide +kernel)
def n264_7_12:MT:=.n 268739 (.c (.c (.c (K 4 4 x213) .z) (S 4 1 (d4 (K 4 4 (d8 bf x38 bf x26 bf x20 bf x3 .z)) (K 3 3 (d4 bf x26 bf x17 x27)) (K 2 2 (d4 bt (K 1 1 (.c (.n .u32 (.ofNat 24)) .z)) bt x29 .z)) x224 .z))) .z) .e .e
theorem wn264_7_12:Wt p264 gsz n264_7_12:=nt_of Z6 3000 100 p264 (by decide +kernel)
def n180_7_5:MT:=.n 6653 (.c (.c (.c (K 4 4 (d8 bf x79 bf x3 bf x17 bf x3 x223)) .z) (S 1 4 (d4 bt x13 bf x11 .z))) .z) .e .e
theorem wn180_7_5:Wt p180 gsz n180_7_5:=nt_of Z6 3000 100 p180 (by decide +kernel)
def n264_7_17:MT:=.n 566280 (.c (.c (.c (K 4 4 x218) .z) (S 4 1 (d4 (K 4 4 (d8 bf x42 bf x17 bf x17 bf x3 .z)) (K 3 3 (d4 bf x17 bf x23 x27)) (K 2 2 (d4 bt x42 bf x3 .z)) x224 .z))) .z) .e .e
theorem wn264_7_17:Wt p264 gsz n264_7_17:=nt_of Z6 3000 100 p264 (by decide +kernel)
def n264_7_19:MT:=.n 682340 (.c (.c (.c (K 4 4 (d8 bf x81 bf x3 bf x29 bf x3 x190)) .z) (S 4 1 (d4 (K 4 4 (d8 bf x81 bf x29 bf x17 bf x3 .z)) (K 3 3 (d4 bf x29 bf x23 x27)) (K 2 2 (d4 bt x238 bf x3 .z)) x224 .z))) .z) .e .e
theorem wn264_7_19:Wt p264 gsz n264_7_19:=nt_of Z6 3000 100 p264 (by decide +kernel)
def n180_7_8:MT:=.n 712306 (.c (.c (.c (K 4 4 (d8 bf x38 bf x3 bf x20 bf x3 x223)) .z) (S 1 4 (d4 bt x13 bf x11 .z))) .z) .e .e
theorem wn180_7_8:Wt p180 gsz n180_7_8:=nt_of Z6 3000 100 p180 (by decide +kernel)
def n140_7_1:MT:=.n 258671 (.c (.c (d2 x125 x120 .z) x114) .z) (.n 258669 (.c (.c (d2 x125 (K 1 1 x118) .z) x114) .z) (.n 258667 (.c (.c (d2 x125 x125 .z) (S 1 8 x103)) .z) .e .e) .e) (.n 258675 (.c (.c (d2 x125 x96 .z) x114) .z) .e .e)
theorem wn140_7_1:Wt p140 gsz n140_7_1:=nt_of Z6 3000 100 p140 (by decide +kernel)
def n16_7_1:MT:=.n 830141 (.c (.c (.c (.s [101,120,112,40,49,41]) .z) (ci 6)) .z) .e .e
theorem wn16_7_1:Wt p16 gs2 n16_7_1:=nt_of Z6 3000 100 p16 (by decide +kernel)
def n72_7_0:MT:=.n 751885 (.c (.c (d2 (.a (d2 (K 1 1 (d8 (ci 0) (ci 0) (ci 0) (ci 0) bt x3 bf x3 .z)) x112 .z)) x227 .z) (.a (d2 (S 1 8 (d8 (ci 0) (ci 0) (ci 1) (ci 0) bt x11 bf x11 .z)) x184 .z))) .z) .e .e
theorem wn72_7_0:Wt p72 gsz n72_7_0:=nt_of Z6 3000 100 p72 (by decide +kernel)
end
end Go.Am.Cd
