import Derived.Test.YtbgbllmhdjojkaaGreatDoorE7x
set_option linter.all false
set_option maxRecDepth 1000000
namespace Go.Am.Cd
open Go Go.Proofs
noncomputable section
def n180_7_7:MT:=.n 678000 (.c (.c (.c (K 4 4 (d8 bf x26 bf x3 bf x26 bf x3 x194)) .z) (S 1 4 (d4 bt x11 bf x11 .z))) .z) .e .e
theorem wn180_7_7:Wt p180 gsz n180_7_7:=nt_of Z6 3000 100 p180 (by decide +kernel)
def n264_7_22:MT:=.n 956017 (.c (.c (.c (K 4 4 x220) .z) (S 4 1 (d4 (K 4 4 (d8 bf x35 bf x20 bf x29 bf x3 .z)) (K 3 3 (d4 bf x20 bf x35 x27)) (K 2 2 (d4 bt x236 bf (K 1 1 (.c (.n .u32 (.ofNat 19)) .z)) .z)) x224 .z))) .z) .e .e
theorem wn264_7_22:Wt p264 gsz n264_7_22:=nt_of Z6 3000 100 p264 (by decide +kernel)
def n264_7_20:MT:=.n 871072 (.c (.c (.c (K 4 4 x219) .z) (S 4 1 (d4 (K 4 4 (d8 bf x29 bf x3 bf x29 bf x3 .z)) (K 3 3 (d4 bf x3 bf x35 x27)) (K 2 2 (d4 bt x35 bf x45 .z)) x224 .z))) .z) .e .e
theorem wn264_7_20:Wt p264 gsz n264_7_20:=nt_of Z6 3000 100 p264 (by decide +kernel)
def n264_7_21:MT:=.n 887405 (.c (.c (.c (K 4 4 x211) .z) (S 4 1 (d4 (K 4 4 (d8 bf x17 bf x17 bf x3 bf x3 .z)) (K 3 3 (d4 bf x17 bf x20 x27)) (K 2 2 (d4 bt x42 bt x45 .z)) x224 .z))) .z) .e .e
theorem wn264_7_21:Wt p264 gsz n264_7_21:=nt_of Z6 3000 100 p264 (by decide +kernel)
def n264_7_15:MT:=.n 450220 (.c (.c (.c (K 4 4 x217) .z) (S 4 1 (d4 (K 4 4 (d8 bf x79 bf x26 bf x17 bf x3 .z)) (K 3 3 (d4 bf x26 bf x23 x27)) (K 2 2 (d4 bt (K 1 1 (.c (.n .u32 (.ofNat 48)) .z)) bf x47 .z)) x224 .z))) .z) .e .e
theorem wn264_7_15:Wt p264 gsz n264_7_15:=nt_of Z6 3000 100 p264 (by decide +kernel)
def n264_7_8:MT:=.n 96807 (.c (.c (.c (K 4 4 x212) .z) (S 4 1 (d4 (K 4 4 (d8 bf x29 bf x29 bf x3 bf x3 .z)) (K 3 3 (d4 bf x29 bf x20 x27)) (K 2 2 (d4 bt x35 bt x47 .z)) x224 .z))) .z) .e .e
theorem wn264_7_8:Wt p264 gsz n264_7_8:=nt_of Z6 3000 100 p264 (by decide +kernel)
def n264_7_7:MT:=.n 40959 (.c (.c (.c (K 4 4 x221) .z) (S 4 1 (d4 (K 4 4 (d8 bf x83 bf x26 bf x29 bf x3 .z)) (K 3 3 (d4 bf x26 bf x35 x27)) (K 2 2 (d4 bt x83 bf x17 .z)) x224 .z))) .z) .e .e
theorem wn264_7_7:Wt p264 gsz n264_7_7:=nt_of Z6 3000 100 p264 (by decide +kernel)
def n264_7_10:MT:=.n 210849 (.c (.c (.c (K 4 4 (d8 bf x78 bf x3 bf x29 bf x3 x195)) .z) (S 4 1 (d4 (K 4 4 (d8 bf x78 bf x29 bf x29 bf x3 .z)) (K 3 3 (d4 bf x29 bf x35 x27)) (K 2 2 (d4 bt x35 bf x3 .z)) x224 .z))) .z) .e .e
theorem wn264_7_10:Wt p264 gsz n264_7_10:=nt_of Z6 3000 100 p264 (by decide +kernel)
def n83_7_7:MT:=.n 438197 (.c (.c (d2 (K 1 1 x126) x112 .z) (.t (d2 (.a (d2 x229 x184 .z)) (ci 0) .z))) .z) (.n 227112 (.c (.c (d2 (K 2 2 (d8 (ci 1) (ci 0) (ci 0) (ci 0) bf x3 bf x3 x189)) x112 .z) (.t (d2 (.a (d2 (S 2 8 x181) x184 .z)) (ci 0) .z))) .z) (.n 163819 (.c (.c (d2 (K 2 2 (d8 (ci 1) (ci 0) (ci 0) (ci 0) bf x3 bf x3 x66)) x112 .z) (.t (d2 (.a (d2 (S 2 8 x157) x184 .z)) (ci 0) .z))) .z) (.n 143474 (.c (.c (d2 (K 1 1 (d8 (ci 0) (ci 0) (ci 1) (ci 0) bf x3 bf x3 .z)) x112 .z) (.t (d2 (.a (d2 (S 1 8 (d8 (ci 0) (ci 0) (ci 1) (ci 0) bf x11 bf x11 .z)) x184 .z)) (ci 0) .z))) .z) (.n 12244 (.c (.c (d2 (K 2 2 (d8 (ci 2) (ci 0) (ci 0) (ci 0) bf x3 bf x3 x66)) x112 .z) (.t (d2 (.a (d2 (S 2 8 x130) x184 .z)) (ci 0) .z))) .z) .e .e) .e) (.n 166245 (.c (.c (d2 (K 1 1 (d8 (ci 0) (ci 1) (ci 0) (ci 0) bt x3 bf x3 .z)) x112 .z) (.t (d2 (.a (d2 x232 x184 .z)) (ci 0) .z))) .z) .e .e)) (.n 372052 (.c (.c (d2 (K 1 1 (d8 (ci 1) (ci 0) (ci 0) (ci 0) bf x17 bf x3 .z)) x112 .z) (.t (d2 (.a (d2 (S 1 8 x138) x184 .z)) (ci 0) .z))) .z) (.n 315514 (.c (.c (d2 (K 1 1 x76) x112 .z) (.t (d2 (.a (d2 (S 1 8 x128) x184 .z)) (ci 0) .z))) .z) (.n 258673 (.c (.c (d2 x125 x95 .z) (.t (d2 (.a (d2 (S 1 8 x139) x15 .z)) (ci 0) .z))) .z) .e .e) .e) (.n 409298 (.c (.c (d2 (K 1 1 x148) x112 .z) (.t (d2 (.a (d2 (S 1 8 x150) x184 .z)) (ci 0) .z))) .z) .e .e))) (.n 704021 (.c (.c (d2 (K 1 1 x152) x112 .z) (.t (d2 (.a (d2 (S 1 8 x154) x184 .z)) (ci 0) .z))) .z) (.n 574583 (.c (.c (d2 x125 x112 .z) (.t (d2 (.a (d2 (S 1 8 x103) x184 .z)) (ci 0) .z))) .z) (.n 543892 (.c (.c (d2 (K 2 2 (d8 (ci 2) (ci 0) (ci 0) (ci 0) bf x3 bf x3 x228)) x112 .z) (.t (d2 (.a (d2 (S 2 8 x201) x184 .z)) (ci 0) .z))) .z) (.n 441507 (.c (.c (d2 (K 2 2 (d8 (ci 0) (ci 0) (ci 1) (ci 0) bt x3 bf x3 x126)) x15 .z) (.t (d2 (.a (d2 (S 2 8 (d8 (ci 0) (ci 0) (ci 1) (ci 0) bt x11 bf x11 x127)) x184 .z)) (ci 0) .z))) .z) .e .e) .e) (.n 622000 (.c (.c (d2 (K 2 2 (d8 (ci 0) (ci 0) (ci 1) (ci 0) bf x3 bf x3 x126)) x15 .z) (.t (d2 (.a (d2 x230 x184 .z)) (ci 0) .z))) .z) .e .e)) (.n 961291 (.c (.c (d2 (K 2 2 (d8 (ci 1) (ci 0) (ci 0) (ci 0) bf x3 bf x3 x233)) x112 .z) (.t (d2 (.a (d2 (S 2 8 x175) x184 .z)) (ci 0) .z))) .z) (.n 840407 (.c (.c (d2 (K 1 1 x121) x112 .z) (.t (d2 (.a (d2 (S 1 8 x133) x184 .z)) (ci 0) .z))) .z) (.n 809716 (.c (.c (d2 (K 2 2 (d8 (ci 2) (ci 0) (ci 0) (ci 0) bf x3 bf x3 x233)) x112 .z) (.t (d2 (.a (d2 (S 2 8 x140) x184 .z)) (ci 0) .z))) .z) .e .e) .e) (.n 969845 (.c (.c (d2 (K 1 1 (d8 (ci 0) (ci 1) (ci 0) (ci 0) bf x26 bf x3 .z)) x112 .z) (.t (d2 (.a (d2 x231 x184 .z)) (ci 0) .z))) .z) .e .e)))
theorem wn83_7_7:Wt p83 gsz n83_7_7:=nt_of Z6 3000 100 p83 (by decide +kernel)
def n180_7_6:MT:=.n 153828 (.c (.c (.c (K 4 4 (d8 bf x83 bf x3 bf x29 bf x3 x223)) .z) (S 1 4 (d4 bt x13 bf x11 .z))) .z) .e .e
theorem wn180_7_6:Wt p180 gsz n180_7_6:=nt_of Z6 3000 100 p180 (by decide +kernel)
def n264_7_14:MT:=.n 447029 (.c (.c (.c (K 4 4 (d8 bf x23 bf x3 bf x17 bf x3 x193)) .z) (S 4 1 (d4 (K 4 4 (d8 bf x23 bf x17 bf x20 bf x3 .z)) (K 3 3 (d4 bf x17 bf x17 x27)) (K 2 2 (d4 bt x17 bt x3 .z)) x224 .z))) .z) .e .e
theorem wn264_7_14:Wt p264 gsz n264_7_14:=nt_of Z6 3000 100 p264 (by decide +kernel)
def n86_7_0:MT:=.n 676406 (.c (.c (d2 (.a (d2 (S 2 8 x158) x15 .z)) (ci 2) x235) (.t (d2 (.a (d2 (S 2 8 x161) x184 .z)) (ci 0) .z))) .z) (.n 313476 (.c (.c (d2 (.a (d2 (S 2 8 (d8 (ci 0) (ci 0) (ci 1) (ci 0) bt x20 bf x3 x126)) x15 .z)) (ci 1) x234) (.t (d2 (.a (d2 (S 2 8 x159) x184 .z)) (ci 0) .z))) .z) (.n 33404 (.c (.c (d2 (.a (d2 (S 2 8 x160) x15 .z)) (ci 3) (.c x227 .z)) (.t (d2 (.a (d2 (S 2 8 x162) x184 .z)) (ci 0) .z))) .z) .e .e) (.n 470394 (.c (.c (d2 (.a (d2 (S 2 8 x149) x15 .z)) (ci 2) x235) (.t (d2 (.a (d2 (S 2 8 x155) x184 .z)) (ci 0) .z))) .z) .e .e)) (.n 835527 (.c (.c (d2 (.a (d2 (S 2 8 (d8 (ci 0) (ci 0) (ci 1) (ci 0) bf x20 bf x3 x126)) x15 .z)) (ci 1) x234) (.t (d2 (.a (d2 (S 2 8 x151) x184 .z)) (ci 0) .z))) .z) (.n 827395 (.c (.c (d2 (.a (d2 (S 2 8 x153) x15 .z)) (ci 3) (.c x227 .z)) (.t (d2 (.a (d2 (S 2 8 x156) x184 .z)) (ci 0) .z))) .z) .e .e) .e)
theorem wn86_7_0:Wt p86 gsz n86_7_0:=nt_of Z6 3000 100 p86 (by decide +kernel)
def n14_7_0:MT:=.n 30684 (.c (.c (.c (.s [49,47,50,32,45,32,45,120]) .z) (.s [120,32,43,32,49,47,50])) .z) .e .e
theorem wn14_7_0:Wt p14 gs2 n14_7_0:=nt_of Z6 3000 100 p14 (by decide +kernel)
def n76_7_0:MT:=.n 431701 (.c (.c (d2 (.a (d2 x125 x112 .z)) (.a (d2 (K 1 1 x228) x112 .z)) .z) (.a (d2 (S 2 8 x204) x184 .z))) .z) (.n 165877 (.c (.c (d2 (.a (d2 x125 x112 .z)) (.a (d2 (K 1 1 x65) x112 .z)) .z) (.a (d2 (S 2 8 x167) x184 .z))) .z) .e .e) (.n 736039 (.c (.c (d2 (.a (d2 (K 1 1 x76) x112 .z)) (.a (d2 (K 1 1 x65) x112 .z)) .z) (.a (d2 (S 2 8 x135) x184 .z))) .z) .e .e)
theorem wn76_7_0:Wt p76 gsz n76_7_0:=nt_of Z6 3000 100 p76 (by decide +kernel)
def n130_7_10:MT:=.n 450207 (.c (.c (.c (S 2 4 x223) .z) (.t (d2 (S 1 2 (d2 (K 2 2 (d8 bf x13 bf x11 bf x11 bf x11 .z)) (ci 1) .z)) bt .z))) .z) .e .e
theorem wn130_7_10:Wt p130 gsz n130_7_10:=nt_of Z6 3000 100 p130 (by decide +kernel)
end
end Go.Am.Cd
