import Derived.Test.YtbgbllmhdjojkaaGreatDoorE1
set_option linter.all false
set_option maxRecDepth 1000000
namespace Go.Am.Cd
open Go Go.Proofs
noncomputable section
def x60:AV:=S 1 1 (.c (.n .u32 (.ofNat 2)) .z)
def x61:AV:=d2 x0 (ci 0) .z
def x62:AV:=d4 (ci 0) bf x60 bf x61
def x63:AV:=S 1 1 (.c (.n .u32 (.ofNat 3)) .z)
def x64:AV:=S 1 1 (.c (.n .u32 (.ofNat 4)) .z)
def x65:AV:=d8 (ci 0) (ci 0) (ci 0) (ci 0) bf x60 bf x0 .z
def x66:AV:=d8 (ci 0) (ci 0) (ci 0) (ci 0) bf x0 bf x0 .z
def x67:AV:=d4 (ci 0) bf x5 bf x61
def x68:AV:=d4 (ci 0) bf x0 bf x61
def x69:AV:=d4 (ci 0) bf x63 bf x61
def x70:AV:=d4 (ci 0) bf x64 bf x61
def x71:AV:=d4 (ci 0) bf x1 bf x61
def x72:AV:=d4 bf x11 bf x11 .z
def x73:AV:=K 0 0 (.c x9 .z)
def x74:AV:=d8 (ci 1) (ci 0) (ci 0) (ci 0) bf x3 bf x3 .z
def x75:AV:=d8 (ci 0) (ci 0) (ci 0) (ci 0) bf .sz bf .sz .z
def x76:AV:=d8 (ci 2) (ci 0) (ci 0) (ci 0) bf x3 bf x3 .z
def x77:AV:=d8 (ci 1) (ci 0) (ci 0) (ci 0) bf x5 bf x3 x76
def x78:AV:=K 1 1 (.c (.n .u32 (.ofNat 25)) .z)
def x79:AV:=K 1 1 (.c (.n .u32 (.ofNat 12)) .z)
def x80:AV:=.a (d2 bf x79 .z)
def x81:AV:=K 1 1 (.c (.n .u32 (.ofNat 20)) .z)
def x82:AV:=.a (d2 bf (K 1 1 (.c (.n .u32 (.ofNat 30)) .z)) .z)
def x83:AV:=K 1 1 (.c (.n .u32 (.ofNat 15)) .z)
def x84:AV:=K 1 1 (d2 (.n .u32 (.ofNat 12)) x9 .z)
def x85:AV:=K 1 1 (d2 (.n .u32 (.ofNat 15)) x9 .z)
def x86:AV:=K 1 1 (d2 (.n .u32 (.ofNat 25)) x9 .z)
def x87:AV:=K 1 1 (d2 (.n .u32 (.ofNat 20)) x9 .z)
def n6_2_0:MT:=.n 224 (.c (.c (.c (ci 2) .z) (K 1 1 x62)) .z) .e .e
theorem wn6_2_0:Wt p6 gsz n6_2_0:=nt_of Z1 3000 100 p6 (by decide +kernel)
def n12_2_0:MT:=.n 226 (.c (.c (.c (ci 3) .z) (.a (d4 bf x63 bf x0 .z))) .z) (.n 220 (.c (.c x12 (.a (d4 bf x5 bf x0 .z))) .z) .e .e) (.n 228 (.c (.c (.c (ci 4) .z) (.a (d4 bf x64 bf x0 .z))) .z) .e .e)
theorem wn12_2_0:Wt p12 gsz n12_2_0:=nt_of Z1 3000 100 p12 (by decide +kernel)
def n22_2_0:MT:=.n 767148 (.c (.c (d2 (.a (d2 (S 1 8 x65) (S 1 8 x66) .z)) (.a (d2 (K 1 1 (d8 (ci 0) (ci 1) (ci 0) (ci 0) bf x0 bf x0 .z)) (S 1 8 x66) .z)) .z) (.a (d2 (S 1 8 (d8 (ci 0) (ci 1) (ci 0) (ci 0) bf x60 bf x0 .z)) (S 1 8 x66) .z))) .z) .e .e
theorem wn22_2_0:Wt p22 gsz n22_2_0:=nt_of Z1 3000 100 p22 (by decide +kernel)
def n24_2_0:MT:=.n 306802 (.c (.c (.c (S 2 6 (d8 (ci 8) bf .sz bf .sz (ci 0) (ci 1) bf (d4 .sz bf .sz (ci 0) .z))) .z) bt) .z) .e .e
theorem wn24_2_0:Wt p24 gs2 n24_2_0:=nt_of Z1 3000 100 p24 (by decide +kernel)
def n48_2_1:MT:=.n 502059 (.c (.c (.c (.a x62) .z) bt) .z) (.n 196131 (.c (.c (.c (.a x70) .z) bt) .z) (.n 43167 (.c (.c (.c (.a x71) .z) bt) .z) .e .e) (.n 349095 (.c (.c (.c (.a x69) .z) bt) .z) .e .e)) (.n 900355 (.c (.c (.c (.a x67) .z) bt) .z) (.n 655023 (.c (.c (.c (.a x68) .z) bt) .z) .e .e) .e)
theorem wn48_2_1:Wt p48 gsz n48_2_1:=nt_of Z1 3000 100 p48 (by decide +kernel)
def n54_2_0:MT:=.n 222 (.c (.c (.c (ci 1) .z) (.a x72)) .z) (.n 221 (.c (.c (.c x8 .z) (.a (d4 bt x11 bf x11 .z))) .z) .e .e) .e
theorem wn54_2_0:Wt p54 gsz n54_2_0:=nt_of Z1 3000 100 p54 (by decide +kernel)
def n56_2_0:MT:=.n 40492 (.c (.c (d2 (.a (d4 bf x23 bf x29 .z)) (.a (d4 bf x29 bf x23 .z)) .z) (.a x4)) .z) .e .e
theorem wn56_2_0:Wt p56 gsz n56_2_0:=nt_of Z1 3000 100 p56 (by decide +kernel)
def n69_2_0:MT:=.n 715658 (.c (.c (d2 x50 x16 .z) (.a (d2 bf x52 .z))) .z) (.n 215805 (.c (.c (d2 x16 x16 .z) (.a (d2 bf x52 .z))) .z) .e .e) .e
theorem wn69_2_0:Wt p69 gsz n69_2_0:=nt_of Z1 3000 100 p69 (by decide +kernel)
def n70_2_1:MT:=.n 748898 (.c (.c (d2 x16 x50 .z) (.a (d2 bf x73 .z))) .z) (.n 748888 (.c (.c (d2 x16 (.a (d2 bf .sz .z)) .z) (.a (d2 bf x73 .z))) .z) .e .e) .e
theorem wn70_2_1:Wt p70 gsz n70_2_1:=nt_of Z1 3000 100 p70 (by decide +kernel)
def n82_2_0:MT:=.n 465029 (.c (.c (.c (S 3 8 (d8 (ci 0) (ci 0) (ci 0) (ci 0) bf x26 bf x3 x77)) .z) (K 2 3 (d8 (ci 2) (ci 0) (ci 0) (ci 0) bf x53 bf x54 (d8 (ci 0) (ci 0) (ci 0) (ci 0) bf (.ia 7 (.sk .h 0 1 1)) bf (.ia 6 (.sk .h 0 1 1)) x75)))) .z) (.n 394153 (.c (.c (.c (S 3 8 (d8 (ci 0) (ci 0) (ci 0) (ci 0) bf x3 bf x3 x77)) .z) (K 2 3 (d8 (ci 2) (ci 0) (ci 0) (ci 0) bf x53 bf x54 (d8 (ci 0) (ci 0) (ci 0) (ci 0) bf (.ia 7 (.sk .h 0 1 1)) bf (.ia 6 (.sk .h 0 1 1)) x75)))) .z) (.n 216394 (.c (.c (.c (S 2 8 (d8 (ci 0) (ci 0) (ci 0) (ci 0) bf x26 bf x3 x74)) .z) (K 2 2 (d8 (ci 1) (ci 0) (ci 0) (ci 0) bf x53 bf x54 (d8 (ci 0) (ci 0) (ci 0) (ci 0) bf (.ia 5 (.sk .h 0 1 1)) bf (.ia 4 (.sk .h 0 1 1)) .z)))) .z) (.n 31420 (.c (.c (.c (S 2 8 (d8 (ci 0) (ci 0) (ci 0) (ci 0) bf x17 bf x3 x74)) .z) (K 2 2 (d8 (ci 1) (ci 0) (ci 0) (ci 0) bf x53 bf x54 (d8 (ci 0) (ci 0) (ci 0) (ci 0) bf (.ia 5 (.sk .h 0 1 1)) bf (.ia 4 (.sk .h 0 1 1)) .z)))) .z) .e .e) .e) (.n 429591 (.c (.c (.c (S 3 8 (d8 (ci 0) (ci 0) (ci 0) (ci 0) bf x20 bf x3 x77)) .z) (K 2 3 (d8 (ci 2) (ci 0) (ci 0) (ci 0) bf x53 bf x54 (d8 (ci 0) (ci 0) (ci 0) (ci 0) bf (.ia 7 (.sk .h 0 1 1)) bf (.ia 6 (.sk .h 0 1 1)) x75)))) .z) (.n 401368 (.c (.c (.c (S 2 8 (d8 (ci 0) (ci 0) (ci 0) (ci 0) bf x20 bf x3 x74)) .z) (K 2 2 (d8 (ci 1) (ci 0) (ci 0) (ci 0) bf x53 bf x54 (d8 (ci 0) (ci 0) (ci 0) (ci 0) bf (.ia 5 (.sk .h 0 1 1)) bf (.ia 4 (.sk .h 0 1 1)) .z)))) .z) .e .e) .e)) (.n 586342 (.c (.c (.c (S 2 8 (d8 (ci 0) (ci 0) (ci 0) (ci 0) bf x3 bf x3 x74)) .z) (K 2 2 (d8 (ci 1) (ci 0) (ci 0) (ci 0) bf x53 bf x54 (d8 (ci 0) (ci 0) (ci 0) (ci 0) bf (.ia 5 (.sk .h 0 1 1)) bf (.ia 4 (.sk .h 0 1 1)) .z)))) .z) (.n 535905 (.c (.c (.c (S 3 8 (d8 (ci 0) (ci 0) (ci 0) (ci 0) bf x29 bf x3 x77)) .z) (K 2 3 (d8 (ci 2) (ci 0) (ci 0) (ci 0) bf x53 bf x54 (d8 (ci 0) (ci 0) (ci 0) (ci 0) bf (.ia 7 (.sk .h 0 1 1)) bf (.ia 6 (.sk .h 0 1 1)) x75)))) .z) (.n 500467 (.c (.c (.c (S 3 8 (d8 (ci 0) (ci 0) (ci 0) (ci 0) bf x17 bf x3 x77)) .z) (K 2 3 (d8 (ci 2) (ci 0) (ci 0) (ci 0) bf x53 bf x54 (d8 (ci 0) (ci 0) (ci 0) (ci 0) bf (.ia 7 (.sk .h 0 1 1)) bf (.ia 6 (.sk .h 0 1 1)) x75)))) .z) .e .e) .e) (.n 846449 (.c (.c (.c (S 2 8 (d8 (ci 0) (ci 0) (ci 0) (ci 0) bf x29 bf x3 x74)) .z) (K 2 2 (d8 (ci 1) (ci 0) (ci 0) (ci 0) bf x53 bf x54 (d8 (ci 0) (ci 0) (ci 0) (ci 0) bf (.ia 5 (.sk .h 0 1 1)) bf (.ia 4 (.sk .h 0 1 1)) .z)))) .z) (.n 767955 (.c (.c (.c (S 2 8 (d8 (ci 0) (ci 0) (ci 0) (ci 0) bf x5 bf x3 x74)) .z) (K 1 2 (d8 (ci 1) (ci 0) (ci 0) (ci 0) bf x53 bf x54 x75))) .z) .e .e) .e))
theorem wn82_2_0:Wt p82 gsz n82_2_0:=nt_of Z1 3000 100 p82 (by decide +kernel)
def n95_2_0:MT:=.n 209941 (.c (.c (.c (.a x27) .z) (.s [51])) .z) (.n 209939 (.c (.c (.c x21 .z) (.s [50])) .z) (.n 209937 (.c (.c (.c x16 .z) (.s [49])) .z) .e .e) .e) (.n 209945 (.c (.c (.c x30 .z) (.s [53])) .z) (.n 209943 (.c (.c (.c x18 .z) (.s [52])) .z) .e .e) .e)
theorem wn95_2_0:Wt p95 gsz n95_2_0:=nt_of Z1 3000 100 p95 (by decide +kernel)
def n104_2_0:MT:=.n 275387 (.c (.c (d2 x21 x16 .z) (ci 1)) .z) (.n 215805 (.c (.c (d2 x16 x16 .z) (ci 0)) .z) .e .e) (.n 692461 (.c (.c (d2 x33 x16 .z) (ci 1)) .z) .e .e)
theorem wn104_2_0:Wt p104 gsz n104_2_0:=nt_of Z1 3000 100 p104 (by decide +kernel)
def n107_2_0:MT:=.n 215805 (.c (.c (.c (.a x4) .z) (K 1 1 (d8 (ci 0) (ci 0) (ci 0) (ci 0) bf x54 bf x52 .z))) .z) .e .e
theorem wn107_2_0:Wt p107 gsz n107_2_0:=nt_of Z1 3000 100 p107 (by decide +kernel)
def n108_2_0:MT:=.n 715706 (.c (.c (d2 x50 (.a (d2 bf x78 .z)) .z) (.a (d4 bf .sz bf x3 .z))) .z) (.n 454141 (.c (.c (d2 x30 x30 .z) (.a x4)) .z) (.n 394557 (.c (.c (d2 x18 x18 .z) (.a x4)) .z) (.n 347898 (.c (.c (d2 (.a (d2 bf x81 .z)) (.a (d2 bf x81 .z)) .z) (.a x4)) .z) .e .e) .e) (.n 715688 (.c (.c (d2 x50 (.a (d2 bf x42 .z)) .z) (.a (d4 bf .sz bf x3 .z))) .z) (.n 715664 (.c (.c (d2 x50 x18 .z) (.a (d4 bf .sz bf x3 .z))) .z) .e .e) .e)) (.n 752061 (.c (.c (d2 x36 x36 .z) (.a x4)) .z) (.n 715818 (.c (.c (d2 x50 (.a (d2 bf (K 1 1 (.c (.n .u32 (.ofNat 81)) .z)) .z)) .z) (.a (d4 bf .sz bf x3 .z))) .z) (.n 715728 (.c (.c (d2 x50 (.a (d2 bf (K 1 1 (.c (.n .u32 (.ofNat 36)) .z)) .z)) .z) (.a (d4 bf .sz bf x3 .z))) .z) .e .e) .e) (.n 943738 (.c (.c (d2 x82 x82 .z) (.a x4)) .z) (.n 871229 (.c (.c (d2 x80 x80 .z) (.a x4)) .z) .e .e) .e))
theorem wn108_2_0:Wt p108 gsz n108_2_0:=nt_of Z1 3000 100 p108 (by decide +kernel)
def n109_2_1:MT:=.n 716619 (.c (.c (d2 x50 x22 .z) x22) .z) (.n 514686 (.c (.c (d2 x39 (.a (d2 bt x38 .z)) .z) (.a (d2 bf x73 .z))) .z) (.n 50939 (.c (.c (d2 (.a (d2 bf x83 .z)) (.a (d2 bt x83 .z)) .z) (.a (d2 bf x73 .z))) .z) .e .e) .e) (.n 872190 (.c (.c (d2 x80 (.a (d2 bt x79 .z)) .z) (.a (d2 bf x73 .z))) .z) (.n 753022 (.c (.c (d2 x36 (.a (d2 bt x35 .z)) .z) (.a (d2 bf x73 .z))) .z) .e .e) .e)
theorem wn109_2_1:Wt p109 gsz n109_2_1:=nt_of Z1 3000 100 p109 (by decide +kernel)
def n110_2_0:MT:=.n 184255 (.c (.c (.c (K 2 2 (d4 bf x29 bt x3 .z)) .z) (.a (d2 bt x31 .z))) .z) (.n 65091 (.c (.c (.c (K 2 2 (d4 bf x26 bt x3 .z)) .z) (.a (d2 bt x13 .z))) .z) (.n 4564 (.c (.c (.c (K 2 2 (d4 bf x20 bf x32 .z)) .z) (.a (d2 bf (K 1 1 (d2 (.n .u32 (.ofNat 18)) x9 .z)) .z))) .z) (.n 4552 (.c (.c (.c (K 2 2 (d4 bf x20 bf x26 .z)) .z) (.a (d2 bf x28 .z))) .z) (.n 4550 (.c (.c (.c (K 2 2 (d4 bf x20 bf x20 .z)) .z) (.a (d2 bf x19 .z))) .z) (.n 4548 (.c (.c (.c (K 2 2 (d4 bf x20 bf x3 .z)) .z) (.a (d2 bf x10 .z))) .z) .e .e) .e) (.n 4556 (.c (.c (.c (K 2 2 (d4 bf x20 bf x29 .z)) .z) (.a (d2 bf x37 .z))) .z) .e .e)) (.n 64134 (.c (.c (.c (K 2 2 (d4 bf x26 bf x26 .z)) .z) (.a (d2 bf x34 .z))) .z) (.n 64130 (.c (.c (.c (K 2 2 (d4 bf x26 bf x3 .z)) .z) (.a (d2 bf x13 .z))) .z) (.n 5509 (.c (.c (.c (K 2 2 (d4 bf x20 bt x3 .z)) .z) (.a (d2 bt x10 .z))) .z) .e .e) .e) (.n 64146 (.c (.c (.c (K 2 2 (d4 bf x26 bf x32 .z)) .z) (.a (d2 bf x41 .z))) .z) .e .e))) (.n 123728 (.c (.c (.c (K 2 2 (d4 bf x17 bf x32 .z)) .z) (.a (d2 bf (K 1 1 (d2 (.n .u32 (.ofNat 36)) x9 .z)) .z))) .z) (.n 123712 (.c (.c (.c (K 2 2 (d4 bf x17 bf x3 .z)) .z) (.a (d2 bf x19 .z))) .z) (.n 97930 (.c (.c (.c (K 2 2 (d4 bf x0 bf x3 .z)) .z) (.a (d2 bf x11 .z))) .z) (.n 77021 (.c (.c (.c (K 2 2 (d4 bf x81 bf x3 .z)) .z) (.a (d2 bf x87 .z))) .z) .e .e) .e) (.n 123716 (.c (.c (.c (K 2 2 (d4 bf x17 bf x26 .z)) .z) (.a (d2 bf x84 .z))) .z) .e .e)) (.n 183298 (.c (.c (.c (K 2 2 (d4 bf x29 bf x26 .z)) .z) (.a (d2 bf x85 .z))) .z) (.n 183296 (.c (.c (.c (K 2 2 (d4 bf x29 bf x20 .z)) .z) (.a (d2 bf x37 .z))) .z) (.n 183294 (.c (.c (.c (K 2 2 (d4 bf x29 bf x3 .z)) .z) (.a (d2 bf x31 .z))) .z) .e .e) .e) (.n 183302 (.c (.c (.c (K 2 2 (d4 bf x29 bf x29 .z)) .z) (.a (d2 bf x86 .z))) .z) .e .e)))) (.n 838696 (.c (.c (.c (K 2 2 (d4 bf x42 bf x3 .z)) .z) (.a (d2 bf x43 .z))) .z) (.n 421622 (.c (.c (.c (K 2 2 (d4 bf x32 bf x3 .z)) .z) (.a (d2 bf x34 .z))) .z) (.n 362040 (.c (.c (.c (K 2 2 (d4 bf x23 bf x3 .z)) .z) (.a (d2 bf x25 .z))) .z) (.n 303419 (.c (.c (.c (K 2 2 (d4 bf x47 bt x3 .z)) .z) (.a (d2 bt x49 .z))) .z) (.n 242876 (.c (.c (.c (K 2 2 (d4 bf x38 bf x3 .z)) .z) (.a (d2 bf x28 .z))) .z) .e .e) .e) (.n 374931 (.c (.c (.c (K 2 2 (d4 bf x78 bf x3 .z)) .z) (.a (d2 bf x86 .z))) .z) .e .e)) (.n 600368 (.c (.c (.c (K 2 2 (d4 bf x79 bf x3 .z)) .z) (.a (d2 bf x84 .z))) .z) (.n 481204 (.c (.c (.c (K 2 2 (d4 bf x35 bf x3 .z)) .z) (.a (d2 bf x37 .z))) .z) (.n 421638 (.c (.c (.c (K 2 2 (d4 bf x32 bf x32 .z)) .z) (.a (d2 bf (K 1 1 (d2 (.n .u32 (.ofNat 81)) x9 .z)) .z))) .z) .e .e) .e) (.n 779114 (.c (.c (.c (K 2 2 (d4 bf x83 bf x3 .z)) .z) (.a (d2 bf x85 .z))) .z) .e .e))) (.n 944975 (.c (.c (.c (K 2 2 (d4 bf x3 bf x17 .z)) .z) (.a (d2 bf x19 .z))) .z) (.n 944971 (.c (.c (.c (K 2 2 (d4 bf x3 bf x20 .z)) .z) (.a (d2 bf x10 .z))) .z) (.n 944969 (.c (.c (.c (K 2 2 x4) .z) (.a (d2 bf x11 .z))) .z) (.n 944907 (.c (.c (.c (K 2 2 (d4 bf x3 bf x0 .z)) .z) (.a (d2 bf x11 .z))) .z) .e .e) .e) (.n 944973 (.c (.c (.c (K 2 2 (d4 bf x3 bf x26 .z)) .z) (.a (d2 bf x13 .z))) .z) .e .e)) (.n 944979 (.c (.c (.c (K 2 2 (d4 bf x3 bf x38 .z)) .z) (.a (d2 bf x28 .z))) .z) (.n 944977 (.c (.c (.c (K 2 2 (d4 bf x3 bf x29 .z)) .z) (.a (d2 bf x31 .z))) .z) .e .e) (.n 944985 (.c (.c (.c (K 2 2 (d4 bf x3 bf x32 .z)) .z) (.a (d2 bf x34 .z))) .z) .e .e))))
theorem wn110_2_0:Wt p110 gsz n110_2_0:=nt_of Z1 3000 100 p110 (by decide +kernel)
def n120_2_0:MT:=.n 896559 (.c (.c (d2 x38 x20 .z) (.t (d2 x26 x51 .z))) .z) (.n 892717 (.c (.c (d2 x17 x26 .z) (.t (d2 x3 x3 .z))) .z) (.n 892713 (.c (.c (d2 x17 x3 .z) (.t (d2 x17 x51 .z))) .z) (.n 890793 (.c (.c (d2 x26 x20 .z) (.t (d2 x3 x3 .z))) .z) (.n 888869 (.c (.c (d2 x20 x3 .z) (.t (d2 x20 x51 .z))) .z) .e .e) .e) (.n 892715 (.c (.c (d2 x17 x20 .z) (.t (d2 x20 x51 .z))) .z) .e .e)) (.n 894639 (.c (.c (d2 x29 x26 .z) (.t (d2 x3 x20 .z))) .z) (.n 894637 (.c (.c (d2 x29 x20 .z) (.t (d2 x20 x3 .z))) .z) (.n 894635 (.c (.c (d2 x29 x3 .z) (.t (d2 x29 x51 .z))) .z) .e .e) .e) (.n 894641 (.c (.c (d2 x29 x17 .z) (.t (d2 x3 x3 .z))) .z) .e .e))) (.n 900401 (.c (.c (d2 x23 x3 .z) (.t (d2 x23 x51 .z))) .z) (.n 898481 (.c (.c (d2 x47 x20 .z) (.t (d2 x26 x3 .z))) .z) (.n 896565 (.c (.c (d2 x38 x29 .z) (.t (d2 x3 x3 .z))) .z) (.n 896561 (.c (.c (d2 x38 x26 .z) (.t (d2 x20 x51 .z))) .z) .e .e) .e) (.n 898483 (.c (.c (d2 x47 x26 .z) (.t (d2 x20 x3 .z))) .z) .e .e)) (.n 902331 (.c (.c (d2 x32 x29 .z) (.t (d2 x3 x17 .z))) .z) (.n 902329 (.c (.c (d2 x32 x17 .z) (.t (d2 x20 x3 .z))) .z) (.n 902323 (.c (.c (d2 x32 x3 .z) (.t (d2 x32 x51 .z))) .z) .e .e) .e) (.n 913883 (.c (.c (d2 x83 x83 .z) (.t (d2 x3 x51 .z))) .z) .e .e)))
theorem wn120_2_0:Wt p120 gsz n120_2_0:=nt_of Z1 3000 100 p120 (by decide +kernel)
def n164_2_0:MT:=.n 890791 (.c (.c (d2 x26 x3 .z) (ci 1)) .z) (.n 888871 (.c (.c (d2 x20 x20 .z) (ci 0)) .z) .e .e) (.n 896557 (.c (.c (d2 x38 x3 .z) (ci 1)) .z) .e .e)
theorem wn164_2_0:Wt p164 gsz n164_2_0:=nt_of Z1 3000 100 p164 (by decide +kernel)
def n169_2_0:MT:=.n 692477 (.c (.c (d2 x33 x33 .z) (.t (d2 x16 (.a (d2 bf x73 .z)) x12))) .z) (.n 334973 (.c (.c (d2 (.a x27) (.a x27) .z) (.t (d2 x16 (.a (d2 bf x73 .z)) x12))) .z) (.n 215805 (.c (.c (d2 x16 x16 .z) (.t (d2 x16 (.a (d2 bf x73 .z)) x12))) .z) .e .e) .e) (.n 844874 (.c (.c (d2 x22 x21 .z) (.t (d2 (.a (d2 bt x11 .z)) x16 x12))) .z) (.n 764938 (.c (.c (d2 (.a (d2 bf x40 .z)) (.a x27) .z) (.t (d2 x33 (.a (d2 bf x73 .z)) x12))) .z) .e .e) .e)
theorem wn169_2_0:Wt p169 gsz n169_2_0:=nt_of Z1 3000 100 p169 (by decide +kernel)
def n178_2_0:MT:=.n 322036 (.c (.c (d2 x58 x58 .z) (ci 0)) .z) (.n 262454 (.c (.c (d2 x58 x57 .z) (ci 1)) .z) (.n 199307 (.c (.c (d2 x57 x57 .z) (ci 0)) .z) .e .e) .e) (.n 444765 (.c (.c (d2 x56 x56 .z) (ci 0)) .z) (.n 325601 (.c (.c (d2 x56 x57 .z) (ci 1)) .z) .e .e) .e)
theorem wn178_2_0:Wt p178 gsz n178_2_0:=nt_of Z1 3000 100 p178 (by decide +kernel)
def n233_2_0:MT:=.n 771146 (.c (.c (.c (S 4 4 (d8 bf x5 bf x3 bf x5 bf x3 (d8 bf x5 bf x3 bf x5 bf x3 .z))) .z) (.ia 1 (.sk .h 0 0 0))) .z) (.n 443949 (.c (.c (.c (K 1 1 x4) .z) x52) .z) .e .e) (.n 832324 (.c (.c (.c (S 2 4 (d8 bf x5 bf x3 bf x5 bf x3 .z)) .z) (.ia 1 (.sk .h 0 0 0))) .z) .e .e)
theorem wn233_2_0:Wt p233 gsz n233_2_0:=nt_of Z1 3000 100 p233 (by decide +kernel)
def M6_2:MT:=.j n6_2_0 .e
def H6_2:FD:=.ms D6 M6_2 lo3 gsz G6
theorem TH6_2:Q p6 H6_2:=ms_q hlo TG6 (by decide +kernel) (show MtAll _ M6_2 from (mJ wn6_2_0 mE))
def M12_2:MT:=.j n12_2_0 .e
def H12_2:FD:=.ms D12 M12_2 lo3 gsz G12
theorem TH12_2:Q p12 H12_2:=ms_q hlo TG12 (by decide +kernel) (show MtAll _ M12_2 from (mJ wn12_2_0 mE))
def M22_2:MT:=.j n22_2_0 .e
def H22_2:FD:=.ms D22 M22_2 lo3 gsz G22
theorem TH22_2:Q p22 H22_2:=ms_q hlo TG22 (by decide +kernel) (show MtAll _ M22_2 from (mJ wn22_2_0 mE))
def M24_2:MT:=.j n24_2_0 .e
def H24_2:FD:=.ms D24 M24_2 lo3 gs2 G24
theorem TH24_2:Q p24 H24_2:=ms_q hlo TG24 (by decide +kernel) (show MtAll _ M24_2 from (mJ wn24_2_0 mE))
def M48_2:MT:=.j n48_2_1 (.j n48_1_0 .e)
def H48_2:FD:=.ms D48 M48_2 lo3 gsz G48
theorem TH48_2:Q p48 H48_2:=ms_q hlo TG48 (by decide +kernel) (show MtAll _ M48_2 from (mJ wn48_2_1 (mJ wn48_1_0 mE)))
def M54_2:MT:=.j n54_2_0 .e
def H54_2:FD:=.ms D54 M54_2 lo3 gsz G54
theorem TH54_2:Q p54 H54_2:=ms_q hlo TG54 (by decide +kernel) (show MtAll _ M54_2 from (mJ wn54_2_0 mE))
def M56_2:MT:=.j n56_2_0 .e
def H56_2:FD:=.ms D56 M56_2 lo3 gsz G56
theorem TH56_2:Q p56 H56_2:=ms_q hlo TG56 (by decide +kernel) (show MtAll _ M56_2 from (mJ wn56_2_0 mE))
def M69_2:MT:=.j n69_2_0 .e
def H69_2:FD:=.ms D69 M69_2 lo3 gsz G69
theorem TH69_2:Q p69 H69_2:=ms_q hlo TG69 (by decide +kernel) (show MtAll _ M69_2 from (mJ wn69_2_0 mE))
def M70_2:MT:=.j n70_2_1 (.j n70_1_0 .e)
def H70_2:FD:=.ms D70 M70_2 lo3 gsz G70
theorem TH70_2:Q p70 H70_2:=ms_q hlo TG70 (by decide +kernel) (show MtAll _ M70_2 from (mJ wn70_2_1 (mJ wn70_1_0 mE)))
def M82_2:MT:=.j n82_2_0 .e
def H82_2:FD:=.ms D82 M82_2 lo3 gsz G82
theorem TH82_2:Q p82 H82_2:=ms_q hlo TG82 (by decide +kernel) (show MtAll _ M82_2 from (mJ wn82_2_0 mE))
def M95_2:MT:=.j n95_2_0 .e
def H95_2:FD:=.ms D95 M95_2 lo3 gsz G95
theorem TH95_2:Q p95 H95_2:=ms_q hlo TG95 (by decide +kernel) (show MtAll _ M95_2 from (mJ wn95_2_0 mE))
def M104_2:MT:=.j n104_2_0 .e
def H104_2:FD:=.ms D104 M104_2 lo3 gsz G104
theorem TH104_2:Q p104 H104_2:=ms_q hlo TG104 (by decide +kernel) (show MtAll _ M104_2 from (mJ wn104_2_0 mE))
def M107_2:MT:=.j n107_2_0 .e
def H107_2:FD:=.ms D107 M107_2 lo3 gsz G107
theorem TH107_2:Q p107 H107_2:=ms_q hlo TG107 (by decide +kernel) (show MtAll _ M107_2 from (mJ wn107_2_0 mE))
def M108_2:MT:=.j n108_2_0 .e
def H108_2:FD:=.ms D108 M108_2 lo3 gsz G108
theorem TH108_2:Q p108 H108_2:=ms_q hlo TG108 (by decide +kernel) (show MtAll _ M108_2 from (mJ wn108_2_0 mE))
def M109_2:MT:=.j n109_2_1 (.j n109_1_0 .e)
def H109_2:FD:=.ms D109 M109_2 lo3 gsz G109
theorem TH109_2:Q p109 H109_2:=ms_q hlo TG109 (by decide +kernel) (show MtAll _ M109_2 from (mJ wn109_2_1 (mJ wn109_1_0 mE)))
def M110_2:MT:=.j n110_2_0 .e
def H110_2:FD:=.ms D110 M110_2 lo3 gsz G110
theorem TH110_2:Q p110 H110_2:=ms_q hlo TG110 (by decide +kernel) (show MtAll _ M110_2 from (mJ wn110_2_0 mE))
def M120_2:MT:=.j n120_2_0 .e
def H120_2:FD:=.ms D120 M120_2 lo3 gsz G120
theorem TH120_2:Q p120 H120_2:=ms_q hlo TG120 (by decide +kernel) (show MtAll _ M120_2 from (mJ wn120_2_0 mE))
def M164_2:MT:=.j n164_2_0 .e
def H164_2:FD:=.ms D164 M164_2 lo3 gsz G164
theorem TH164_2:Q p164 H164_2:=ms_q hlo TG164 (by decide +kernel) (show MtAll _ M164_2 from (mJ wn164_2_0 mE))
def M169_2:MT:=.j n169_2_0 .e
def H169_2:FD:=.ms D169 M169_2 lo3 gsz G169
theorem TH169_2:Q p169 H169_2:=ms_q hlo TG169 (by decide +kernel) (show MtAll _ M169_2 from (mJ wn169_2_0 mE))
def M178_2:MT:=.j n178_2_0 .e
def H178_2:FD:=.ms D178 M178_2 lo3 gsz G178
theorem TH178_2:Q p178 H178_2:=ms_q hlo TG178 (by decide +kernel) (show MtAll _ M178_2 from (mJ wn178_2_0 mE))
def M233_2:MT:=.j n233_2_0 .e
def H233_2:FD:=.ms D233 M233_2 lo3 gsz G233
theorem TH233_2:Q p233 H233_2:=ms_q hlo TG233 (by decide +kernel) (show MtAll _ M233_2 from (mJ wn233_2_0 mE))
def U2_107:PT FD:=.n (.n .e (.sh G159) .e) H95_2 (.n .e (.sh G223) .e)
theorem V2_107:tabAll (fun p=>Q (.o (.o (.o (.o (.o (.i p))))))) U2_107:=(tN (tN tE (sh_q TG159) tE) TH95_2 (tN tE (sh_q TG223) tE))
def U2_108:PT FD:=.n (.n U0_0 (.sh G31) U2_107) (.sh G15) (.n U0_2 (.sh G47) U0_3)
theorem V2_108:tabAll (fun p=>Q (.o (.o (.o (.o p))))) U2_108:=(tN (tN V0_0 (sh_q TG31) V2_107) (sh_q TG15) (tN V0_2 (sh_q TG47) V0_3))
def U2_109:PT FD:=.n (.n .e H171_1 .e) H107_2 (.n .e (.sh G235) .e)
theorem V2_109:tabAll (fun p=>Q (.o (.o (.i (.i (.o (.i p))))))) U2_109:=(tN (tN tE TH171_1 tE) TH107_2 (tN tE (sh_q TG235) tE))
def U2_110:PT FD:=.n (.n U0_15 (.sh G43) U2_109) (.sh G27) (.n U0_17 (.sh G59) U0_18)
theorem V2_110:tabAll (fun p=>Q (.o (.o (.i (.i p))))) U2_110:=(tN (tN V0_15 (sh_q TG43) V2_109) (sh_q TG27) (tN V0_17 (sh_q TG59) V0_18))
def U2_111:PT FD:=.n (.n U2_108 (.sh G7) U1_81) (.sh G3) (.n U1_83 (.sh G11) U2_110)
theorem V2_111:tabAll (fun p=>Q (.o (.o p))) U2_111:=(tN (tN V2_108 (sh_q TG7) V1_81) (sh_q TG3) (tN V1_83 (sh_q TG11) V2_110))
def U2_112:PT FD:=.n (.n .e H169_2 .e) (.sh G105) (.n .e H233_2 .e)
theorem V2_112:tabAll (fun p=>Q (.o (.i (.o (.i (.o (.i p))))))) U2_112:=(tN (tN tE TH169_2 tE) (sh_q TG105) (tN tE TH233_2 tE))
def U2_113:PT FD:=.n (.n U0_25 (.sh G41) U2_112) (.sh G25) (.n U0_27 (.sh G57) U1_90)
theorem V2_113:tabAll (fun p=>Q (.o (.i (.o (.i p))))) U2_113:=(tN (tN V0_25 (sh_q TG41) V2_112) (sh_q TG25) (tN V0_27 (sh_q TG57) V1_90))
def U2_114:PT FD:=.n (.n (.n .e (.sh G261) .e) (.sh G133) .e) H69_2 (.n .e (.sh G197) .e)
theorem V2_114:tabAll (fun p=>Q (.o (.i (.i (.o (.o (.o p))))))) U2_114:=(tN (tN (tN tE (sh_q TG261) tE) (sh_q TG133) tE) TH69_2 (tN tE (sh_q TG197) tE))
def U2_115:PT FD:=.n (.n U2_114 (.sh G37) U0_31) (.sh G21) (.n U0_32 (.sh G53) U1_92)
theorem V2_115:tabAll (fun p=>Q (.o (.i (.i (.o p))))) U2_115:=(tN (tN V2_114 (sh_q TG37) V0_31) (sh_q TG21) (tN V0_32 (sh_q TG53) V1_92))
def U2_116:PT FD:=.n (.n .e (.sh G173) .e) H109_2 (.n .e (.sh G237) .e)
theorem V2_116:tabAll (fun p=>Q (.o (.i (.i (.i (.o (.i p))))))) U2_116:=(tN (tN tE (sh_q TG173) tE) TH109_2 (tN tE (sh_q TG237) tE))
def U2_117:PT FD:=.n (.n U0_35 (.sh G45) U2_116) (.sh G29) (.n U0_37 (.sh G61) (.n (.n .e (.sh G189) .e) (.sh G125) .e))
theorem V2_117:tabAll (fun p=>Q (.o (.i (.i (.i p))))) U2_117:=(tN (tN V0_35 (sh_q TG45) V2_116) (sh_q TG29) (tN V0_37 (sh_q TG61) (tN (tN tE (sh_q TG189) tE) (sh_q TG125) tE)))
def U2_118:PT FD:=.n (.n U1_89 (.sh G9) U2_113) (.sh G5) (.n U2_115 (.sh G13) U2_117)
theorem V2_118:tabAll (fun p=>Q (.o (.i p))) U2_118:=(tN (tN V1_89 (sh_q TG9) V2_113) (sh_q TG5) (tN V2_115 (sh_q TG13) V2_117))
def U2_119:PT FD:=.n (.n U0_40 H32_1 U0_41) (.sh G16) (.n U0_42 H48_2 (.n .e (.sh G112) (.n .e (.sh G240) .e)))
theorem V2_119:tabAll (fun p=>Q (.i (.o (.o (.o p))))) U2_119:=(tN (tN V0_40 TH32_1 V0_41) (sh_q TG16) (tN V0_42 TH48_2 (tN tE (sh_q TG112) (tN tE (sh_q TG240) tE))))
def U2_120:PT FD:=.n (.n .e (.sh G168) .e) H104_2 (.n .e (.sh G232) .e)
theorem V2_120:tabAll (fun p=>Q (.i (.o (.o (.i (.o (.i p))))))) U2_120:=(tN (tN tE (sh_q TG168) tE) TH104_2 (tN tE (sh_q TG232) tE))
def U2_121:PT FD:=.n (.n (.n .e (.sh G312) .e) (.sh G184) .e) H120_2 (.n .e (.sh G248) .e)
theorem V2_121:tabAll (fun p=>Q (.i (.o (.o (.i (.i (.i p))))))) U2_121:=(tN (tN (tN tE (sh_q TG312) tE) (sh_q TG184) tE) TH120_2 (tN tE (sh_q TG248) tE))
def U2_122:PT FD:=.n (.n U0_44 (.sh G40) U2_120) H24_2 (.n U0_46 H56_2 U2_121)
theorem V2_122:tabAll (fun p=>Q (.i (.o (.o (.i p))))) U2_122:=(tN (tN V0_44 (sh_q TG40) V2_120) TH24_2 (tN V0_46 TH56_2 V2_121))
def U2_123:PT FD:=.n (.n (.n .e (.sh G292) .e) H164_2 .e) (.sh G100) (.n .e (.sh G228) .e)
theorem V2_123:tabAll (fun p=>Q (.i (.o (.i (.o (.o (.i p))))))) U2_123:=(tN (tN (tN tE (sh_q TG292) tE) TH164_2 tE) (sh_q TG100) (tN tE (sh_q TG228) tE))
def U2_124:PT FD:=.n (.n U0_49 (.sh G36) U2_123) (.sh G20) (.n U0_51 (.sh G52) U1_98)
theorem V2_124:tabAll (fun p=>Q (.i (.o (.i (.o p))))) U2_124:=(tN (tN V0_49 (sh_q TG36) V2_123) (sh_q TG20) (tN V0_51 (sh_q TG52) V1_98))
def U2_125:PT FD:=.n (.n .e (.sh G172) .e) H108_2 (.n .e (.sh G236) .e)
theorem V2_125:tabAll (fun p=>Q (.i (.o (.i (.i (.o (.i p))))))) U2_125:=(tN (tN tE (sh_q TG172) tE) TH108_2 (tN tE (sh_q TG236) tE))
def U2_126:PT FD:=.n (.n U0_54 (.sh G44) U2_125) (.sh G28) (.n U0_56 H60_1 U0_57)
theorem V2_126:tabAll (fun p=>Q (.i (.o (.i (.i p))))) U2_126:=(tN (tN V0_54 (sh_q TG44) V2_125) (sh_q TG28) (tN V0_56 TH60_1 V0_57))
def U2_127:PT FD:=.n (.n U2_119 (.sh G8) U2_122) (.sh G4) (.n U2_124 H12_2 U2_126)
theorem V2_127:tabAll (fun p=>Q (.i (.o p))) U2_127:=(tN (tN V2_119 (sh_q TG8) V2_122) (sh_q TG4) (tN V2_124 TH12_2 V2_126))
def U2_128:PT FD:=.n (.n .e (.sh G146) .e) H82_2 (.n .e (.sh G210) .e)
theorem V2_128:tabAll (fun p=>Q (.i (.i (.o (.o (.i (.o p))))))) U2_128:=(tN (tN tE (sh_q TG146) tE) TH82_2 (tN tE (sh_q TG210) tE))
def U2_129:PT FD:=.n (.n .e H178_2 .e) (.sh G114) (.n .e (.sh G242) .e)
theorem V2_129:tabAll (fun p=>Q (.i (.i (.o (.o (.i (.i p))))))) U2_129:=(tN (tN tE TH178_2 tE) (sh_q TG114) (tN tE (sh_q TG242) tE))
def U2_130:PT FD:=.n (.n U0_60 (.sh G34) U0_61) (.sh G18) (.n U2_128 (.sh G50) U2_129)
theorem V2_130:tabAll (fun p=>Q (.i (.i (.o (.o p))))) U2_130:=(tN (tN V0_60 (sh_q TG34) V0_61) (sh_q TG18) (tN V2_128 (sh_q TG50) V2_129))
def U2_131:PT FD:=.n (.n (.n .e (.sh G262) .e) (.sh G134) .e) H70_2 (.n .e (.sh G198) .e)
theorem V2_131:tabAll (fun p=>Q (.i (.i (.i (.o (.o (.o p))))))) U2_131:=(tN (tN (tN tE (sh_q TG262) tE) (sh_q TG134) tE) TH70_2 (tN tE (sh_q TG198) tE))
def U2_132:PT FD:=.n (.n U2_131 F38 U0_71) H22_2 (.n U1_103 H54_2 U1_104)
theorem V2_132:tabAll (fun p=>Q (.i (.i (.i (.o p))))) U2_132:=(tN (tN V2_131 TF38 V0_71) TH22_2 (tN V1_103 TH54_2 V1_104))
def U2_133:PT FD:=.n (.n U0_75 (.sh G46) (.n .e H110_2 (.n .e (.sh G238) .e))) (.sh G30) (.n U0_76 (.sh G62) U0_77)
theorem V2_133:tabAll (fun p=>Q (.i (.i (.i (.i p))))) U2_133:=(tN (tN V0_75 (sh_q TG46) (tN tE TH110_2 (tN tE (sh_q TG238) tE))) (sh_q TG30) (tN V0_76 (sh_q TG62) V0_77))
def U2_134:PT FD:=.n (.n U2_130 (.sh G10) U0_69) H6_2 (.n U2_132 (.sh G14) U2_133)
theorem V2_134:tabAll (fun p=>Q (.i (.i p))) U2_134:=(tN (tN V2_130 (sh_q TG10) V0_69) TH6_2 (tN V2_132 (sh_q TG14) V2_133))
def TAB2:PT FD:=.n (.n U2_111 .no U2_118) .no (.n U2_127 .no U2_134)
theorem Z2:TabOK PR NG TAB2:=tab_ok (show tabAll Q TAB2 from (tN (tN V2_111 tNo V2_118) tNo (tN V2_127 tNo V2_134)))
end
end Go.Am.Cd
