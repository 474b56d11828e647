import Derived.Test.YtbgbllmhdjojkaaGreatDoorE4
set_option linter.all false
set_option maxRecDepth 1000000
namespace Go.Am.Cd
open Go Go.Proofs
noncomputable section
def x121:AV:=d8 (ci 1) (ci 0) (ci 0) (ci 0) bf x20 bf x3 .z
def x122:AV:=.a (d2 (S 1 8 (d8 (ci 1) (ci 0) (ci 0) (ci 0) bf x17 bf x26 .z)) x15 .z)
def x123:AV:=.a (d2 (S 1 8 (d8 (ci 1) (ci 0) (ci 0) (ci 0) bf x47 bf x17 .z)) x15 .z)
def x124:AV:=.a (d2 (S 1 8 (d8 (ci 1) (ci 0) (ci 0) (ci 0) bf x26 bf x17 .z)) x15 .z)
def x125:AV:=K 1 1 x74
def x126:AV:=d8 (ci 0) (ci 1) (ci 0) (ci 0) bf x3 bf x3 .z
def x127:AV:=d8 (ci 0) (ci 1) (ci 0) (ci 0) bf x11 bf x11 .z
def x128:AV:=d8 (ci 2) (ci 0) (ci 0) (ci 0) bf x11 bf x11 .z
def x129:AV:=S 2 8 (d8 (ci 2) (ci 0) (ci 0) (ci 0) bf x3 bf x3 x14)
def x130:AV:=d8 (ci 2) (ci 0) (ci 0) (ci 0) bf x11 bf x11 x93
def x131:AV:=d8 (ci 0) (ci 0) (ci 0) (ci 0) bf x20 bf x3 .z
def x132:AV:=S 2 8 (d8 (ci 2) (ci 0) (ci 0) (ci 0) bf x3 bf x3 x131)
def x133:AV:=d8 (ci 1) (ci 0) (ci 0) (ci 0) bf x10 bf x11 .z
def x134:AV:=d8 (ci 0) (ci 0) (ci 0) (ci 0) bf x10 bf x11 .z
def x135:AV:=d8 (ci 2) (ci 0) (ci 0) (ci 0) bf x11 bf x11 x134
def x136:AV:=d8 (ci 0) (ci 0) (ci 0) (ci 0) bf x17 bf x3 .z
def x137:AV:=S 2 8 (d8 (ci 2) (ci 0) (ci 0) (ci 0) bf x3 bf x3 x136)
def x138:AV:=d8 (ci 1) (ci 0) (ci 0) (ci 0) bf x19 bf x11 .z
def x139:AV:=d8 (ci 0) (ci 0) (ci 0) (ci 0) bf x19 bf x11 .z
def x140:AV:=d8 (ci 2) (ci 0) (ci 0) (ci 0) bf x11 bf x11 x139
def x141:AV:=d8 (ci 0) (ci 0) (ci 0) (ci 0) bf x29 bf x3 .z
def x142:AV:=S 2 8 (d8 (ci 2) (ci 0) (ci 0) (ci 0) bf x3 bf x3 x141)
def x143:AV:=d8 (ci 1) (ci 0) (ci 0) (ci 0) bf x31 bf x11 .z
def x144:AV:=d8 (ci 0) (ci 0) (ci 0) (ci 0) bf x31 bf x11 .z
def x145:AV:=d8 (ci 2) (ci 0) (ci 0) (ci 0) bf x11 bf x11 x144
def x146:AV:=d8 (ci 1) (ci 0) (ci 0) (ci 0) bf x3 bf x3 x14
def x147:AV:=S 2 8 x146
def x148:AV:=d8 (ci 0) (ci 0) (ci 1) (ci 0) bf x20 bf x3 .z
def x149:AV:=d8 (ci 0) (ci 0) (ci 0) (ci 1) bf x3 bf x3 x148
def x150:AV:=d8 (ci 0) (ci 0) (ci 1) (ci 0) bf x10 bf x11 .z
def x151:AV:=d8 (ci 0) (ci 0) (ci 0) (ci 1) bf x11 bf x11 x150
def x152:AV:=d8 (ci 0) (ci 1) (ci 0) (ci 0) bf x20 bf x3 .z
def x153:AV:=d8 (ci 0) (ci 0) (ci 0) (ci 1) bf x3 bf x3 x152
def x154:AV:=d8 (ci 0) (ci 1) (ci 0) (ci 0) bf x10 bf x11 .z
def x155:AV:=d8 (ci 0) (ci 0) (ci 0) (ci 1) bf x11 bf x11 x154
def x156:AV:=d8 (ci 0) (ci 0) (ci 1) (ci 0) bf x11 bf x11 x154
def x157:AV:=d8 (ci 1) (ci 0) (ci 0) (ci 0) bf x11 bf x11 x93
def x158:AV:=d8 (ci 0) (ci 0) (ci 0) (ci 1) bf x3 bf x3 (d8 (ci 0) (ci 0) (ci 1) (ci 0) bt x20 bf x3 .z)
def x159:AV:=d8 (ci 0) (ci 0) (ci 0) (ci 1) bf x11 bf x11 (d8 (ci 0) (ci 0) (ci 1) (ci 0) bt x10 bf x11 .z)
def x160:AV:=d8 (ci 0) (ci 0) (ci 0) (ci 1) bf x3 bf x3 x116
def x161:AV:=d8 (ci 0) (ci 0) (ci 0) (ci 1) bf x11 bf x11 x117
def x162:AV:=d8 (ci 0) (ci 0) (ci 1) (ci 0) bf x11 bf x11 x117
def x163:AV:=K 3 3 (d8 (ci 2) (ci 0) (ci 0) (ci 0) bf x3 bf x3 (d8 (ci 1) (ci 0) (ci 0) (ci 0) bf x20 bf x3 x14))
def x164:AV:=d8 (ci 2) (ci 0) (ci 0) (ci 0) bf x11 bf x11 (d8 (ci 1) (ci 0) (ci 0) (ci 0) bf x19 bf x11 x139)
def x165:AV:=d8 (ci 1) (ci 0) (ci 0) (ci 0) bf x3 bf x3 x131
def x166:AV:=S 2 8 x165
def x167:AV:=d8 (ci 1) (ci 0) (ci 0) (ci 0) bf x11 bf x11 x134
def x168:AV:=K 3 3 (d8 (ci 2) (ci 0) (ci 0) (ci 0) bf x3 bf x3 (d8 (ci 1) (ci 0) (ci 0) (ci 0) bf x17 bf x3 x136))
def x169:AV:=d8 (ci 0) (ci 0) (ci 0) (ci 0) bf x25 bf x11 .z
def x170:AV:=d8 (ci 0) (ci 0) (ci 0) (ci 0) bf x37 bf x11 .z
def x171:AV:=K 3 3 (d8 (ci 2) (ci 0) (ci 0) (ci 0) bf x3 bf x3 (d8 (ci 1) (ci 0) (ci 0) (ci 0) bf x38 bf x3 (d8 (ci 0) (ci 0) (ci 0) (ci 0) bf x32 bf x3 .z)))
def x172:AV:=d8 (ci 0) (ci 0) (ci 0) (ci 0) bf x34 bf x11 .z
def x173:AV:=d8 (ci 1) (ci 0) (ci 0) (ci 0) bf x3 bf x3 x136
def x174:AV:=S 2 8 x173
def x175:AV:=d8 (ci 1) (ci 0) (ci 0) (ci 0) bf x11 bf x11 x139
def x176:AV:=d8 (ci 0) (ci 0) (ci 0) (ci 0) bf x43 bf x11 .z
def x177:AV:=K 3 3 (d8 (ci 2) (ci 0) (ci 0) (ci 0) bf x3 bf x3 (d8 (ci 1) (ci 0) (ci 0) (ci 0) bf x23 bf x3 (d8 (ci 0) (ci 0) (ci 0) (ci 0) bf x42 bf x3 .z)))
def x178:AV:=d8 (ci 0) (ci 0) (ci 0) (ci 0) bf x87 bf x11 .z
def x179:AV:=d8 (ci 1) (ci 0) (ci 0) (ci 0) bf x3 bf x3 x141
def x180:AV:=S 2 8 x179
def x181:AV:=d8 (ci 1) (ci 0) (ci 0) (ci 0) bf x11 bf x11 x144
def x182:AV:=d8 (ci 0) (ci 0) (ci 0) (ci 0) bf x86 bf x11 .z
def x183:AV:=K 3 3 (d8 (ci 2) (ci 0) (ci 0) (ci 0) bf x3 bf x3 (d8 (ci 1) (ci 0) (ci 0) (ci 0) bf x35 bf x3 (d8 (ci 0) (ci 0) (ci 0) (ci 0) bf x78 bf x3 .z)))
def x184:AV:=S 1 8 x93
def x185:AV:=d8 bf x11 bf x11 bf x11 bf x11 .z
def x186:AV:=K 2 2 (d8 bf x73 bf x11 bf x11 bf x11 .z)
def x187:AV:=K 3 3 (d8 bf x11 bf x11 bf x73 bf x11 x72)
def x188:AV:=K 3 3 (d8 bf x10 bf x11 bf x73 bf x11 x72)
def x189:AV:=d8 (ci 0) (ci 0) (ci 0) (ci 0) bf x1 bf x0 .z
def x190:AV:=d8 bf x17 bf x3 bf x3 bf x3 .z
def x191:AV:=d8 bf x19 bf x11 bf x11 bf x11 .z
def x192:AV:=d8 bf x5 bf x3 bf x3 bf x3 .z
def x193:AV:=d8 bf x20 bf x3 bf x3 bf x3 .z
def x194:AV:=d8 bf x3 bf x3 bf x3 bf x3 .z
def x195:AV:=d8 bf x29 bf x3 bf x3 bf x3 .z
def n56_5_3:MT:=.n 373579 (.c (.c (d2 x92 (.a x4) .z) (.a (d4 bf x13 bf x11 .z))) .z) (.n 124572 (.c (.c (d2 (.a x4) x92 .z) (.a (d4 bf x13 bf x11 .z))) .z) .e .e) .e
theorem wn56_5_3:Wt p56 gsz n56_5_3:=nt_of Z4 3000 100 p56 (by decide +kernel)
def n57_5_1:MT:=.n 373579 (.c (.c (d2 x92 (.a x4) .z) (.t (d2 (.a (d4 bf x13 bf x11 .z)) (ci 0) .z))) .z) .e .e
theorem wn57_5_1:Wt p57 gsz n57_5_1:=nt_of Z4 3000 100 p57 (by decide +kernel)
def n66_5_3:MT:=.n 126993 (.c (.c (d2 x122 x122 .z) (.t (d2 (.a (d2 x15 x15 .z)) (ci 0) .z))) .z) (.n 117190 (.c (.c (d2 (.a (d2 (S 1 8 x118) x15 .z)) (.a (d2 (S 1 8 x118) x15 .z)) .z) (.t (d2 (.a (d2 x15 x15 .z)) (ci 0) .z))) .z) .e .e) .e
theorem wn66_5_3:Wt p66 gsz n66_5_3:=nt_of Z4 3000 100 p66 (by decide +kernel)
def n66_5_4:MT:=.n 588202 (.c (.c (d2 x124 x124 .z) (.t (d2 (.a (d2 x15 x15 .z)) (ci 0) .z))) .z) (.n 136796 (.c (.c (d2 x123 x123 .z) (.t (d2 (.a (d2 x15 x15 .z)) (ci 0) .z))) .z) .e .e) .e
theorem wn66_5_4:Wt p66 gsz n66_5_4:=nt_of Z4 3000 100 p66 (by decide +kernel)
def n66_5_5:MT:=.n 655984 (.c (.c (d2 (.a (d2 (S 1 8 x121) x15 .z)) (.a (d2 (S 1 8 x121) x15 .z)) .z) (.t (d2 (.a (d2 x15 x15 .z)) (ci 0) .z))) .z) .e .e
theorem wn66_5_5:Wt p66 gsz n66_5_5:=nt_of Z4 3000 100 p66 (by decide +kernel)
def n83_5_6:MT:=.n 69940 (.c (.c (d2 x120 x120 .z) (.t (d2 (.a (d2 x15 x15 .z)) (ci 0) .z))) .z) .e .e
theorem wn83_5_6:Wt p83 gsz n83_5_6:=nt_of Z4 3000 100 p83 (by decide +kernel)
def n119_5_0:MT:=.n 51685 (.c (.c (d2 x147 x147 .z) (K 3 3 (d8 (ci 2) (ci 0) (ci 0) (ci 0) bf x11 bf x11 (d8 (ci 1) (ci 0) (ci 0) (ci 0) bf x10 bf x11 x93)))) .z) (.n 2424 (.c (.c (d2 x174 x137 .z) (K 4 4 (d8 (ci 3) (ci 0) (ci 0) (ci 0) bf x11 bf x11 (d8 (ci 2) (ci 0) (ci 0) (ci 0) bf x19 bf x11 (d8 (ci 1) (ci 0) (ci 0) (ci 0) bf x19 bf x11 x176))))) .z) .e .e) .e
theorem wn119_5_0:Wt p119 gsz n119_5_0:=nt_of Z4 3000 100 p119 (by decide +kernel)
def n119_5_1:MT:=.n 94455 (.c (.c (d2 (K 2 2 (d8 (ci 0) (ci 0) (ci 1) (ci 0) bf x3 bf x3 x152)) x112 .z) (K 2 2 x156)) .z) (.n 62006 (.c (.c (d2 x174 x142 .z) (K 4 4 (d8 (ci 3) (ci 0) (ci 0) (ci 0) bf x11 bf x11 (d8 (ci 2) (ci 0) (ci 0) (ci 0) bf x19 bf x11 (d8 (ci 1) (ci 0) (ci 0) (ci 0) bf x31 bf x11 x178))))) .z) (.n 58240 (.c (.c (d2 x180 x137 .z) (K 4 4 (d8 (ci 3) (ci 0) (ci 0) (ci 0) bf x11 bf x11 (d8 (ci 2) (ci 0) (ci 0) (ci 0) bf x31 bf x11 (d8 (ci 1) (ci 0) (ci 0) (ci 0) bf x19 bf x11 x178))))) .z) .e .e) .e) (.n 105187 (.c (.c (d2 x166 (S 1 8 x76) .z) (K 2 2 (d8 (ci 3) (ci 0) (ci 0) (ci 0) bf x11 bf x11 (d8 (ci 2) (ci 0) (ci 0) (ci 0) bf x10 bf x11 .z)))) .z) .e .e)
theorem wn119_5_1:Wt p119 gsz n119_5_1:=nt_of Z4 3000 100 p119 (by decide +kernel)
def n119_5_2:MT:=.n 197536 (.c (.c (d2 x112 x168 .z) (K 3 3 x164)) .z) (.n 167083 (.c (.c (d2 x166 x166 .z) (K 3 3 x164)) .z) (.n 125498 (.c (.c (d2 x112 x171 .z) (K 3 3 (d8 (ci 2) (ci 0) (ci 0) (ci 0) bf x11 bf x11 (d8 (ci 1) (ci 0) (ci 0) (ci 0) bf x28 bf x11 x172)))) .z) (.n 117822 (.c (.c (d2 x180 x142 .z) (K 4 4 (d8 (ci 3) (ci 0) (ci 0) (ci 0) bf x11 bf x11 (d8 (ci 2) (ci 0) (ci 0) (ci 0) bf x31 bf x11 (d8 (ci 1) (ci 0) (ci 0) (ci 0) bf x31 bf x11 x182))))) .z) .e .e) .e) (.n 172624 (.c (.c (d2 x112 x177 .z) (K 3 3 (d8 (ci 2) (ci 0) (ci 0) (ci 0) bf x11 bf x11 (d8 (ci 1) (ci 0) (ci 0) (ci 0) bf x25 bf x11 x176)))) .z) (.n 168279 (.c (.c (d2 x112 x147 .z) (K 2 2 x157)) .z) .e .e) .e)) (.n 243755 (.c (.c (d2 (K 2 2 x158) x112 .z) (K 2 2 x159)) .z) (.n 232935 (.c (.c (d2 x15 (K 1 1 x76) .z) (K 1 1 x128)) .z) (.n 227861 (.c (.c (d2 x112 x166 .z) (K 2 2 x167)) .z) .e .e) .e) (.n 320062 (.c (.c (d2 x114 x129 .z) (K 2 2 (d8 (ci 3) (ci 0) (ci 0) (ci 0) bf x11 bf x11 x103))) .z) (.n 268664 (.c (.c (d2 x174 x15 .z) (K 2 2 x175)) .z) .e .e) .e))
theorem wn119_5_2:Wt p119 gsz n119_5_2:=nt_of Z4 3000 100 p119 (by decide +kernel)
def n119_5_3:MT:=.n 397879 (.c (.c (d2 x174 x174 .z) (K 3 3 (d8 (ci 2) (ci 0) (ci 0) (ci 0) bf x11 bf x11 (d8 (ci 1) (ci 0) (ci 0) (ci 0) bf x25 bf x11 x176)))) .z) (.n 367949 (.c (.c (d2 x125 x15 .z) (K 1 1 x103)) .z) (.n 347025 (.c (.c (d2 x112 x174 .z) (K 2 2 x175)) .z) (.n 338914 (.c (.c (d2 x112 x183 .z) (K 3 3 (d8 (ci 2) (ci 0) (ci 0) (ci 0) bf x11 bf x11 (d8 (ci 1) (ci 0) (ci 0) (ci 0) bf x37 bf x11 x182)))) .z) .e .e) .e) (.n 388738 (.c (.c (d2 x112 x163 .z) (K 3 3 (d8 (ci 2) (ci 0) (ci 0) (ci 0) bf x11 bf x11 (d8 (ci 1) (ci 0) (ci 0) (ci 0) bf x10 bf x11 x93)))) .z) (.n 379644 (.c (.c (d2 x114 x132 .z) (K 2 2 (d8 (ci 3) (ci 0) (ci 0) (ci 0) bf x11 bf x11 x133))) .z) .e .e) .e)) (.n 471195 (.c (.c (d2 x147 x15 .z) (K 2 2 x157)) .z) (.n 436737 (.c (.c (d2 (K 2 2 x165) x168 .z) (K 4 4 (d8 (ci 3) (ci 0) (ci 0) (ci 0) bf x11 bf x11 (d8 (ci 2) (ci 0) (ci 0) (ci 0) bf x28 bf x11 (d8 (ci 1) (ci 0) (ci 0) (ci 0) bf x84 bf x11 x169))))) .z) (.n 406607 (.c (.c (d2 x112 x180 .z) (K 2 2 x181)) .z) .e .e) .e) (.n 498808 (.c (.c (d2 x114 x137 .z) (K 2 2 (d8 (ci 3) (ci 0) (ci 0) (ci 0) bf x11 bf x11 x138))) .z) (.n 471637 (.c (.c (d2 x15 x129 .z) (K 2 2 x130)) .z) .e .e) .e))
theorem wn119_5_3:Wt p119 gsz n119_5_3:=nt_of Z4 3000 100 p119 (by decide +kernel)
def n119_5_4:MT:=.n 558390 (.c (.c (d2 x114 x142 .z) (K 2 2 (d8 (ci 3) (ci 0) (ci 0) (ci 0) bf x11 bf x11 x143))) .z) (.n 534488 (.c (.c (d2 x180 x15 .z) (K 2 2 x181)) .z) (.n 515707 (.c (.c (d2 (K 2 2 x149) x112 .z) (K 2 2 x151)) .z) (.n 513277 (.c (.c (d2 x180 x180 .z) (K 3 3 (d8 (ci 2) (ci 0) (ci 0) (ci 0) bf x11 bf x11 (d8 (ci 1) (ci 0) (ci 0) (ci 0) bf x37 bf x11 x182)))) .z) .e .e) (.n 531219 (.c (.c (d2 x15 x132 .z) (K 2 2 x135)) .z) .e .e)) (.n 548851 (.c (.c (d2 x15 x125 .z) (K 1 1 x103)) .z) (.n 538478 (.c (.c (d2 (K 2 2 x160) x112 .z) (K 2 2 x161)) .z) .e .e) .e)) (.n 656233 (.c (.c (d2 x147 x129 .z) (K 4 4 (d8 (ci 3) (ci 0) (ci 0) (ci 0) bf x11 bf x11 (d8 (ci 2) (ci 0) (ci 0) (ci 0) bf x11 bf x11 x157)))) .z) (.n 650383 (.c (.c (d2 x15 x137 .z) (K 2 2 x140)) .z) (.n 636835 (.c (.c (d2 x174 (S 1 8 x76) .z) (K 2 2 (d8 (ci 3) (ci 0) (ci 0) (ci 0) bf x11 bf x11 (d8 (ci 2) (ci 0) (ci 0) (ci 0) bf x19 bf x11 .z)))) .z) .e .e) .e) (.n 709965 (.c (.c (d2 x15 x142 .z) (K 2 2 x145)) .z) (.n 658133 (.c (.c (d2 x15 x15 .z) x94) .z) .e .e) .e))
theorem wn119_5_4:Wt p119 gsz n119_5_4:=nt_of Z4 3000 100 p119 (by decide +kernel)
def n119_5_5:MT:=.n 715815 (.c (.c (d2 x147 x132 .z) (K 4 4 (d8 (ci 3) (ci 0) (ci 0) (ci 0) bf x11 bf x11 (d8 (ci 2) (ci 0) (ci 0) (ci 0) bf x11 bf x11 (d8 (ci 1) (ci 0) (ci 0) (ci 0) bf x10 bf x11 x134))))) .z) (.n 712049 (.c (.c (d2 x166 x129 .z) (K 4 4 (d8 (ci 3) (ci 0) (ci 0) (ci 0) bf x11 bf x11 (d8 (ci 2) (ci 0) (ci 0) (ci 0) bf x10 bf x11 x167)))) .z) .e .e) (.n 737019 (.c (.c (d2 x166 x15 .z) (K 2 2 x167)) .z) .e .e)
theorem wn119_5_5:Wt p119 gsz n119_5_5:=nt_of Z4 3000 100 p119 (by decide +kernel)
def n119_5_6:MT:=.n 751231 (.c (.c (d2 (K 2 2 x179) x183 .z) (K 4 4 (d8 (ci 3) (ci 0) (ci 0) (ci 0) bf x11 bf x11 (d8 (ci 2) (ci 0) (ci 0) (ci 0) bf x85 bf x11 (d8 (ci 1) (ci 0) (ci 0) (ci 0) bf (K 1 1 (d2 (.n .u32 (.ofNat 75)) x9 .z)) bf x11 (d8 (ci 0) (ci 0) (ci 0) (ci 0) bf (K 1 1 (d2 (.n .u32 (.ofNat 125)) x9 .z)) bf x11 .z)))))) .z) .e .e
theorem wn119_5_6:Wt p119 gsz n119_5_6:=nt_of Z4 3000 100 p119 (by decide +kernel)
def n119_5_7:MT:=.n 822506 (.c (.c (d2 (K 2 2 (d8 (ci 0) (ci 0) (ci 1) (ci 0) bf x3 bf x3 x116)) x112 .z) (K 2 2 x162)) .z) (.n 791203 (.c (.c (d2 x112 (K 1 1 x126) .z) (K 1 1 x127)) .z) (.n 771631 (.c (.c (d2 x166 x132 .z) (K 4 4 (d8 (ci 3) (ci 0) (ci 0) (ci 0) bf x11 bf x11 (d8 (ci 2) (ci 0) (ci 0) (ci 0) bf x10 bf x11 (d8 (ci 1) (ci 0) (ci 0) (ci 0) bf x10 bf x11 x139))))) .z) .e .e) (.n 810430 (.c (.c (d2 (K 2 2 x153) x112 .z) (K 2 2 x155)) .z) .e .e)) (.n 833652 (.c (.c (d2 x112 x112 .z) x94) .z) (.n 823681 (.c (.c (d2 x174 x129 .z) (K 4 4 (d8 (ci 3) (ci 0) (ci 0) (ci 0) bf x11 bf x11 (d8 (ci 2) (ci 0) (ci 0) (ci 0) bf x19 bf x11 x175)))) .z) .e .e) .e)
theorem wn119_5_7:Wt p119 gsz n119_5_7:=nt_of Z4 3000 100 p119 (by decide +kernel)
def n119_5_8:MT:=.n 839366 (.c (.c (d2 x147 (S 1 8 x76) .z) (K 2 2 (d8 (ci 3) (ci 0) (ci 0) (ci 0) bf x11 bf x11 x128))) .z) (.n 834979 (.c (.c (d2 x147 x137 .z) (K 4 4 (d8 (ci 3) (ci 0) (ci 0) (ci 0) bf x11 bf x11 x164))) .z) .e .e) .e
theorem wn119_5_8:Wt p119 gsz n119_5_8:=nt_of Z4 3000 100 p119 (by decide +kernel)
def n119_5_9:MT:=.n 864767 (.c (.c (d2 x15 x112 .z) x94) .z) (.n 860570 (.c (.c (d2 (K 2 2 x173) x177 .z) (K 4 4 (d8 (ci 3) (ci 0) (ci 0) (ci 0) bf x11 bf x11 (d8 (ci 2) (ci 0) (ci 0) (ci 0) bf x84 bf x11 (d8 (ci 1) (ci 0) (ci 0) (ci 0) bf (K 1 1 (d2 (.n .u32 (.ofNat 48)) x9 .z)) bf x11 (d8 (ci 0) (ci 0) (ci 0) (ci 0) bf (K 1 1 (d2 (.n .u32 (.ofNat 64)) x9 .z)) bf x11 .z)))))) .z) .e .e) .e
theorem wn119_5_9:Wt p119 gsz n119_5_9:=nt_of Z4 3000 100 p119 (by decide +kernel)
def n119_5_10:MT:=.n 883263 (.c (.c (d2 x174 x132 .z) (K 4 4 (d8 (ci 3) (ci 0) (ci 0) (ci 0) bf x11 bf x11 (d8 (ci 2) (ci 0) (ci 0) (ci 0) bf x19 bf x11 (d8 (ci 1) (ci 0) (ci 0) (ci 0) bf x10 bf x11 x169))))) .z) (.n 879497 (.c (.c (d2 x180 x129 .z) (K 4 4 (d8 (ci 3) (ci 0) (ci 0) (ci 0) bf x11 bf x11 (d8 (ci 2) (ci 0) (ci 0) (ci 0) bf x31 bf x11 x181)))) .z) .e .e) .e
theorem wn119_5_10:Wt p119 gsz n119_5_10:=nt_of Z4 3000 100 p119 (by decide +kernel)
def n119_5_11:MT:=.n 894561 (.c (.c (d2 x147 x142 .z) (K 4 4 (d8 (ci 3) (ci 0) (ci 0) (ci 0) bf x11 bf x11 (d8 (ci 2) (ci 0) (ci 0) (ci 0) bf x11 bf x11 (d8 (ci 1) (ci 0) (ci 0) (ci 0) bf x31 bf x11 x144))))) .z) (.n 890795 (.c (.c (d2 x166 x137 .z) (K 4 4 (d8 (ci 3) (ci 0) (ci 0) (ci 0) bf x11 bf x11 (d8 (ci 2) (ci 0) (ci 0) (ci 0) bf x10 bf x11 (d8 (ci 1) (ci 0) (ci 0) (ci 0) bf x19 bf x11 x169))))) .z) .e .e) (.n 902659 (.c (.c (d2 x180 (S 1 8 x76) .z) (K 2 2 (d8 (ci 3) (ci 0) (ci 0) (ci 0) bf x11 bf x11 (d8 (ci 2) (ci 0) (ci 0) (ci 0) bf x31 bf x11 .z)))) .z) .e .e)
theorem wn119_5_11:Wt p119 gsz n119_5_11:=nt_of Z4 3000 100 p119 (by decide +kernel)
def n119_5_12:MT:=.n 903568 (.c (.c (d2 (K 2 2 x146) x163 .z) (K 4 4 (d8 (ci 3) (ci 0) (ci 0) (ci 0) bf x11 bf x11 (d8 (ci 2) (ci 0) (ci 0) (ci 0) bf x13 bf x11 (d8 (ci 1) (ci 0) (ci 0) (ci 0) bf x13 bf x11 x93))))) .z) .e .e
theorem wn119_5_12:Wt p119 gsz n119_5_12:=nt_of Z4 3000 100 p119 (by decide +kernel)
def n119_5_13:MT:=.n 950377 (.c (.c (d2 x166 x142 .z) (K 4 4 (d8 (ci 3) (ci 0) (ci 0) (ci 0) bf x11 bf x11 (d8 (ci 2) (ci 0) (ci 0) (ci 0) bf x10 bf x11 (d8 (ci 1) (ci 0) (ci 0) (ci 0) bf x31 bf x11 x170))))) .z) (.n 939079 (.c (.c (d2 x180 x132 .z) (K 4 4 (d8 (ci 3) (ci 0) (ci 0) (ci 0) bf x11 bf x11 (d8 (ci 2) (ci 0) (ci 0) (ci 0) bf x31 bf x11 (d8 (ci 1) (ci 0) (ci 0) (ci 0) bf x10 bf x11 x170))))) .z) .e .e) .e
theorem wn119_5_13:Wt p119 gsz n119_5_13:=nt_of Z4 3000 100 p119 (by decide +kernel)
def n123_5_0:MT:=.n 61284 (.c (.c (d2 x15 (.a x4) .z) x184) .z) .e .e
theorem wn123_5_0:Wt p123 gsz n123_5_0:=nt_of Z4 3000 100 p123 (by decide +kernel)
def n127_5_0:MT:=.n 893506 (.c (.c (d2 x125 (ci 2) .z) (K 1 1 x128)) .z) .e .e
theorem wn127_5_0:Wt p127 gsz n127_5_0:=nt_of Z4 3000 100 p127 (by decide +kernel)
def n130_5_1:MT:=.n 28423 (.c (.c (.c (S 3 4 (d8 bf x20 bf x3 bf x5 bf x3 x4)) .z) (.t (d2 (S 1 2 (d2 x188 (ci 1) .z)) bt .z))) .z) .e .e
theorem wn130_5_1:Wt p130 gsz n130_5_1:=nt_of Z4 3000 100 p130 (by decide +kernel)
def n130_5_2:MT:=.n 117822 (.c (.c (.c (S 3 4 (d8 bf x5 bf x3 bf x3 bf x3 x4)) .z) (.t (d2 (S 2 2 (d4 (K 2 2 x185) (ci 1) x186 (ci 1) .z)) bt .z))) .z) .e .e
theorem wn130_5_2:Wt p130 gsz n130_5_2:=nt_of Z4 3000 100 p130 (by decide +kernel)
def n130_5_3:MT:=.n 762602 (.c (.c (.c (S 3 4 (d8 bf x3 bf x3 bf x5 bf x3 x4)) .z) (.t (d2 (S 1 2 (d2 x187 (ci 1) .z)) bt .z))) .z) (.n 560071 (.c (.c (.c (S 3 4 (d8 bf x17 bf x3 bf x5 bf x3 x4)) .z) (.t (d2 (S 1 2 (d2 (K 3 3 (d8 bf x19 bf x11 bf x73 bf x11 x72)) (ci 1) .z)) bt .z))) .z) .e .e) .e
theorem wn130_5_3:Wt p130 gsz n130_5_3:=nt_of Z4 3000 100 p130 (by decide +kernel)
def n130_5_4:MT:=.n 825895 (.c (.c (.c (S 3 4 (d8 bf x29 bf x3 bf x5 bf x3 x4)) .z) (.t (d2 (S 1 2 (d2 (K 3 3 (d8 bf x31 bf x11 bf x73 bf x11 x72)) (ci 1) .z)) bt .z))) .z) .e .e
theorem wn130_5_4:Wt p130 gsz n130_5_4:=nt_of Z4 3000 100 p130 (by decide +kernel)
def n141_5_1:MT:=.n 99473 (.c (.c (d2 (K 1 1 x131) x112 .z) (.t (d2 (S 1 8 x134) bt .z))) .z) (.n 75537 (.c (.c (d2 (K 2 2 (d8 (ci 2) (ci 0) (ci 0) (ci 0) bf x3 bf x3 x189)) x112 .z) (.t (d2 (S 2 8 x145) bt .z))) .z) (.n 52033 (.c (.c (d2 x125 x114 .z) (.t (d2 x184 bt .z))) .z) .e .e) .e) (.n 637876 (.c (.c (d2 (K 1 1 (d8 (ci 1) (ci 0) (ci 0) (ci 0) bf x29 bf x3 .z)) x112 .z) (.t (d2 (S 1 8 x143) bt .z))) .z) .e .e)
theorem wn141_5_1:Wt p141 gsz n141_5_1:=nt_of Z4 3000 100 p141 (by decide +kernel)
def n179_5_0:MT:=.n 134291 (.c (.c (.c (S 2 4 x190) .z) (S 1 2 (d2 (K 2 2 x191) (ci 1) .z))) .z) .e .e
theorem wn179_5_0:Wt p179 gsz n179_5_0:=nt_of Z4 3000 100 p179 (by decide +kernel)
def n180_5_0:MT:=.n 340800 (.c (.c (.c (K 2 2 x193) .z) (S 1 4 (d4 bt x10 bf x11 .z))) .z) (.n 238075 (.c (.c (.c (K 2 2 x192) .z) (S 1 4 (d4 bf x73 bf x11 .z))) .z) .e .e) (.n 708971 (.c (.c (.c (K 2 2 x190) .z) (S 1 4 (d4 bt x19 bf x11 .z))) .z) .e .e)
theorem wn180_5_0:Wt p180 gsz n180_5_0:=nt_of Z4 3000 100 p180 (by decide +kernel)
def n232_5_0:MT:=.n 656716 (.c (.c (.c (K 2 2 x194) .z) (S 1 2 (d2 bt x11 .z))) .z) (.n 393055 (.c (.c (.c (K 2 2 x195) .z) (S 1 2 (d2 bt x29 .z))) .z) .e .e) .e
theorem wn232_5_0:Wt p232 gsz n232_5_0:=nt_of Z4 3000 100 p232 (by decide +kernel)
def n236_5_1:MT:=.n 124572 (.c (.c (d2 (.a x4) x92 .z) (.a (d4 bf x11 bf x13 .z))) .z) .e .e
theorem wn236_5_1:Wt p236 gsz n236_5_1:=nt_of Z4 3000 100 p236 (by decide +kernel)
def M56_5:MT:=.j n56_5_3 (.j n56_4_2 (.j n56_3_1 (.j n56_2_0 .e)))
def H56_5:FD:=.ms D56 M56_5 lo3 gsz G56
theorem TH56_5:Q p56 H56_5:=ms_q hlo TG56 (by decide +kernel) (show MtAll _ M56_5 from (mJ wn56_5_3 (mJ wn56_4_2 (mJ wn56_3_1 (mJ wn56_2_0 mE)))))
def M57_5:MT:=.j n57_5_1 (.j n57_4_0 .e)
def H57_5:FD:=.ms D57 M57_5 lo3 gsz G57
theorem TH57_5:Q p57 H57_5:=ms_q hlo TG57 (by decide +kernel) (show MtAll _ M57_5 from (mJ wn57_5_1 (mJ wn57_4_0 mE)))
def M66_5:MT:=.j n66_5_5 (.j n66_5_4 (.j n66_5_3 (.j n66_4_2 (.j n66_4_1 (.j n66_4_0 .e)))))
def H66_5:FD:=.ms D66 M66_5 lo3 gsz G66
theorem TH66_5:Q p66 H66_5:=ms_q hlo TG66 (by decide +kernel) (show MtAll _ M66_5 from (mJ wn66_5_5 (mJ wn66_5_4 (mJ wn66_5_3 (mJ wn66_4_2 (mJ wn66_4_1 (mJ wn66_4_0 mE)))))))
def M83_5:MT:=.j n83_5_6 (.j n83_4_5 (.j n83_4_4 (.j n83_4_3 (.j n83_4_2 (.j n83_4_1 (.j n83_4_0 .e))))))
def H83_5:FD:=.ms D83 M83_5 lo3 gsz G83
theorem TH83_5:Q p83 H83_5:=ms_q hlo TG83 (by decide +kernel) (show MtAll _ M83_5 from (mJ wn83_5_6 (mJ wn83_4_5 (mJ wn83_4_4 (mJ wn83_4_3 (mJ wn83_4_2 (mJ wn83_4_1 (mJ wn83_4_0 mE))))))))
def M119_5:MT:=.j n119_5_13 (.j n119_5_12 (.j n119_5_11 (.j n119_5_10 (.j n119_5_9 (.j n119_5_8 (.j n119_5_7 (.j n119_5_6 (.j n119_5_5 (.j n119_5_4 (.j n119_5_3 (.j n119_5_2 (.j n119_5_1 (.j n119_5_0 .e)))))))))))))
def H119_5:FD:=.ms D119 M119_5 lo3 gsz G119
theorem TH119_5:Q p119 H119_5:=ms_q hlo TG119 (by decide +kernel) (show MtAll _ M119_5 from (mJ wn119_5_13 (mJ wn119_5_12 (mJ wn119_5_11 (mJ wn119_5_10 (mJ wn119_5_9 (mJ wn119_5_8 (mJ wn119_5_7 (mJ wn119_5_6 (mJ wn119_5_5 (mJ wn119_5_4 (mJ wn119_5_3 (mJ wn119_5_2 (mJ wn119_5_1 (mJ wn119_5_0 mE)))))))))))))))
def M123_5:MT:=.j n123_5_0 .e
def H123_5:FD:=.ms D123 M123_5 lo3 gsz G123
theorem TH123_5:Q p123 H123_5:=ms_q hlo TG123 (by decide +kernel) (show MtAll _ M123_5 from (mJ wn123_5_0 mE))
def M127_5:MT:=.j n127_5_0 .e
def H127_5:FD:=.ms D127 M127_5 lo3 gsz G127
theorem TH127_5:Q p127 H127_5:=ms_q hlo TG127 (by decide +kernel) (show MtAll _ M127_5 from (mJ wn127_5_0 mE))
def M130_5:MT:=.j n130_5_4 (.j n130_5_3 (.j n130_5_2 (.j n130_5_1 (.j n130_4_0 .e))))
def H130_5:FD:=.ms D130 M130_5 lo3 gsz G130
theorem TH130_5:Q p130 H130_5:=ms_q hlo TG130 (by decide +kernel) (show MtAll _ M130_5 from (mJ wn130_5_4 (mJ wn130_5_3 (mJ wn130_5_2 (mJ wn130_5_1 (mJ wn130_4_0 mE))))))
def M141_5:MT:=.j n141_5_1 (.j n141_4_0 .e)
def H141_5:FD:=.ms D141 M141_5 lo3 gsz G141
theorem TH141_5:Q p141 H141_5:=ms_q hlo TG141 (by decide +kernel) (show MtAll _ M141_5 from (mJ wn141_5_1 (mJ wn141_4_0 mE)))
def M179_5:MT:=.j n179_5_0 .e
def H179_5:FD:=.ms D179 M179_5 lo3 gsz G179
theorem TH179_5:Q p179 H179_5:=ms_q hlo TG179 (by decide +kernel) (show MtAll _ M179_5 from (mJ wn179_5_0 mE))
def M180_5:MT:=.j n180_5_0 .e
def H180_5:FD:=.ms D180 M180_5 lo3 gsz G180
theorem TH180_5:Q p180 H180_5:=ms_q hlo TG180 (by decide +kernel) (show MtAll _ M180_5 from (mJ wn180_5_0 mE))
def M232_5:MT:=.j n232_5_0 .e
def H232_5:FD:=.ms D232 M232_5 lo3 gsz G232
theorem TH232_5:Q p232 H232_5:=ms_q hlo TG232 (by decide +kernel) (show MtAll _ M232_5 from (mJ wn232_5_0 mE))
def M236_5:MT:=.j n236_5_1 (.j n236_4_0 .e)
def H236_5:FD:=.ms D236 M236_5 lo3 gsz G236
theorem TH236_5:Q p236 H236_5:=ms_q hlo TG236 (by decide +kernel) (show MtAll _ M236_5 from (mJ wn236_5_1 (mJ wn236_4_0 mE)))
def U5_183:PT FD:=.n (.n .e H127_5 .e) (.sh G63) (.n (.n .e (.sh G319) .e) (.sh G191) .e)
theorem V5_183:tabAll (fun p=>Q (.o (.o (.o (.o (.o (.o p))))))) U5_183:=(tN (tN tE TH127_5 tE) (sh_q TG63) (tN (tN tE (sh_q TG319) tE) (sh_q TG191) tE))
def U5_184:PT FD:=.n (.n U5_183 (.sh G31) U2_107) (.sh G15) (.n U0_2 (.sh G47) U0_3)
theorem V5_184:tabAll (fun p=>Q (.o (.o (.o (.o p))))) U5_184:=(tN (tN V5_183 (sh_q TG31) V2_107) (sh_q TG15) (tN V0_2 (sh_q TG47) V0_3))
def U5_185:PT FD:=.n (.n .e (.sh G183) .e) H119_5 (.n .e (.sh G247) .e)
theorem V5_185:tabAll (fun p=>Q (.o (.o (.o (.i (.i (.i p))))))) U5_185:=(tN (tN tE (sh_q TG183) tE) TH119_5 (tN tE (sh_q TG247) tE))
def U5_186:PT FD:=.n (.n U3_135 (.sh G39) U3_136) (.sh G23) (.n U1_80 H55_4 U5_185)
theorem V5_186:tabAll (fun p=>Q (.o (.o (.o (.i p))))) U5_186:=(tN (tN V3_135 (sh_q TG39) V3_136) (sh_q TG23) (tN V1_80 TH55_4 V5_185))
def U5_187:PT FD:=.n (.n .e (.sh G147) .e) H83_5 (.n .e (.sh G211) .e)
theorem V5_187:tabAll (fun p=>Q (.o (.o (.i (.o (.i (.o p))))))) U5_187:=(tN (tN tE (sh_q TG147) tE) TH83_5 (tN tE (sh_q TG211) tE))
def U5_188:PT FD:=.n (.n .e H179_5 .e) (.sh G115) (.n .e (.sh G243) .e)
theorem V5_188:tabAll (fun p=>Q (.o (.o (.i (.o (.i (.i p))))))) U5_188:=(tN (tN tE TH179_5 tE) (sh_q TG115) (tN tE (sh_q TG243) tE))
def U5_189:PT FD:=.n (.n U4_159 (.sh G35) U0_11) (.sh G19) (.n U5_187 (.sh G51) U5_188)
theorem V5_189:tabAll (fun p=>Q (.o (.o (.i (.o p))))) U5_189:=(tN (tN V4_159 (sh_q TG35) V0_11) (sh_q TG19) (tN V5_187 (sh_q TG51) V5_188))
def U5_190:PT FD:=.n (.n .e (.sh G187) .e) H123_5 (.n .e (.sh G251) .e)
theorem V5_190:tabAll (fun p=>Q (.o (.o (.i (.i (.i (.i p))))))) U5_190:=(tN (tN tE (sh_q TG187) tE) TH123_5 (tN tE (sh_q TG251) tE))
def U5_191:PT FD:=.n (.n U4_162 (.sh G43) U2_109) (.sh G27) (.n U0_17 (.sh G59) U5_190)
theorem V5_191:tabAll (fun p=>Q (.o (.o (.i (.i p))))) U5_191:=(tN (tN V4_162 (sh_q TG43) V2_109) (sh_q TG27) (tN V0_17 (sh_q TG59) V5_190))
def U5_192:PT FD:=.n (.n U5_184 (.sh G7) U5_186) (.sh G3) (.n U5_189 (.sh G11) U5_191)
theorem V5_192:tabAll (fun p=>Q (.o (.o p))) U5_192:=(tN (tN V5_184 (sh_q TG7) V5_186) (sh_q TG3) (tN V5_189 (sh_q TG11) V5_191))
def U5_193:PT FD:=.n (.n U0_25 (.sh G41) U3_143) (.sh G25) (.n U0_27 H57_5 U1_90)
theorem V5_193:tabAll (fun p=>Q (.o (.i (.o (.i p))))) U5_193:=(tN (tN V0_25 (sh_q TG41) V3_143) (sh_q TG25) (tN V0_27 TH57_5 V1_90))
def U5_194:PT FD:=.n (.n (.n .e (.sh G269) .e) H141_5 .e) (.sh G77) (.n .e (.sh G205) .e)
theorem V5_194:tabAll (fun p=>Q (.o (.i (.i (.i (.o (.o p))))))) U5_194:=(tN (tN (tN tE (sh_q TG269) tE) TH141_5 tE) (sh_q TG77) (tN tE (sh_q TG205) tE))
def U5_195:PT FD:=.n (.n U5_194 (.sh G45) U2_116) (.sh G29) (.n U0_37 H61_3 (.n (.n .e (.sh G189) .e) (.sh G125) .e))
theorem V5_195:tabAll (fun p=>Q (.o (.i (.i (.i p))))) U5_195:=(tN (tN V5_194 (sh_q TG45) V2_116) (sh_q TG29) (tN V0_37 TH61_3 (tN (tN tE (sh_q TG189) tE) (sh_q TG125) tE)))
def U5_196:PT FD:=.n (.n U1_89 (.sh G9) U5_193) (.sh G5) (.n U3_146 (.sh G13) U5_195)
theorem V5_196:tabAll (fun p=>Q (.o (.i p))) U5_196:=(tN (tN V1_89 (sh_q TG9) V5_193) (sh_q TG5) (tN V3_146 (sh_q TG13) V5_195))
def U5_197:PT FD:=.n (.n .e (.sh G168) .e) H104_2 (.n .e H232_5 .e)
theorem V5_197:tabAll (fun p=>Q (.i (.o (.o (.i (.o (.i p))))))) U5_197:=(tN (tN tE (sh_q TG168) tE) TH104_2 (tN tE TH232_5 tE))
def U5_198:PT FD:=.n (.n U0_44 (.sh G40) U5_197) H24_4 (.n U0_46 H56_5 U3_150)
theorem V5_198:tabAll (fun p=>Q (.i (.o (.o (.i p))))) U5_198:=(tN (tN V0_44 (sh_q TG40) V5_197) TH24_4 (tN V0_46 TH56_5 V3_150))
def U5_199:PT FD:=.n (.n (.n .e H308_1 .e) H180_5 .e) (.sh G116) .e
theorem V5_199:tabAll (fun p=>Q (.i (.o (.i (.o (.i (.i p))))))) U5_199:=(tN (tN (tN tE TH308_1 tE) TH180_5 tE) (sh_q TG116) tE)
def U5_200:PT FD:=.n (.n U0_49 (.sh G36) U2_123) (.sh G20) (.n U4_171 (.sh G52) U5_199)
theorem V5_200:tabAll (fun p=>Q (.i (.o (.i (.o p))))) U5_200:=(tN (tN V0_49 (sh_q TG36) V2_123) (sh_q TG20) (tN V4_171 (sh_q TG52) V5_199))
def U5_201:PT FD:=.n (.n .e (.sh G172) .e) H108_4 (.n .e H236_5 .e)
theorem V5_201:tabAll (fun p=>Q (.i (.o (.i (.i (.o (.i p))))))) U5_201:=(tN (tN tE (sh_q TG172) tE) TH108_4 (tN tE TH236_5 tE))
def U5_202:PT FD:=.n (.n U4_173 (.sh G44) U5_201) (.sh G28) (.n U0_56 H60_1 U0_57)
theorem V5_202:tabAll (fun p=>Q (.i (.o (.i (.i p))))) U5_202:=(tN (tN V4_173 (sh_q TG44) V5_201) (sh_q TG28) (tN V0_56 TH60_1 V0_57))
def U5_203:PT FD:=.n (.n U4_169 (.sh G8) U5_198) (.sh G4) (.n U5_200 H12_2 U5_202)
theorem V5_203:tabAll (fun p=>Q (.i (.o p))) U5_203:=(tN (tN V4_169 (sh_q TG8) V5_198) (sh_q TG4) (tN V5_200 TH12_2 V5_202))
def U5_204:PT FD:=.n (.n .e H130_5 .e) H66_5 (.n (.n .e (.sh G322) .e) (.sh G194) .e)
theorem V5_204:tabAll (fun p=>Q (.i (.i (.o (.o (.o (.o p))))))) U5_204:=(tN (tN tE TH130_5 tE) TH66_5 (tN (tN tE (sh_q TG322) tE) (sh_q TG194) tE))
def U5_205:PT FD:=.n (.n U5_204 (.sh G34) U0_61) (.sh G18) (.n U2_128 (.sh G50) U2_129)
theorem V5_205:tabAll (fun p=>Q (.i (.i (.o (.o p))))) U5_205:=(tN (tN V5_204 (sh_q TG34) V0_61) (sh_q TG18) (tN V2_128 (sh_q TG50) V2_129))
def U5_206:PT FD:=.n (.n U5_205 (.sh G10) U4_180) H6_2 (.n U2_132 (.sh G14) U4_181)
theorem V5_206:tabAll (fun p=>Q (.i (.i p))) U5_206:=(tN (tN V5_205 (sh_q TG10) V4_180) TH6_2 (tN V2_132 (sh_q TG14) V4_181))
def TAB5:PT FD:=.n (.n U5_192 .no U5_196) .no (.n U5_203 .no U5_206)
theorem Z5:TabOK PR NG TAB5:=tab_ok (show tabAll Q TAB5 from (tN (tN V5_192 tNo V5_196) tNo (tN V5_203 tNo V5_206)))
end
end Go.Am.Cd
