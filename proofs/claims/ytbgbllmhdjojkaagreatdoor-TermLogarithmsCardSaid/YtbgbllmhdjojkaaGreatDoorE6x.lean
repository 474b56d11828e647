import Derived.Test.YtbgbllmhdjojkaaGreatDoorE5
set_option linter.all false
set_option maxRecDepth 1000000
namespace Go.Am.Cd
open Go Go.Proofs
noncomputable section
def x196:AV:=d8 (ci 1) (ci 0) (ci 0) (ci 0) bf x26 bf x3 .z
def x197:AV:=d8 (ci 0) (ci 0) (ci 0) (ci 0) bf x26 bf x3 .z
def x198:AV:=S 2 8 (d8 (ci 2) (ci 0) (ci 0) (ci 0) bf x3 bf x3 x197)
def x199:AV:=d8 (ci 1) (ci 0) (ci 0) (ci 0) bf x13 bf x11 .z
def x200:AV:=d8 (ci 0) (ci 0) (ci 0) (ci 0) bf x13 bf x11 .z
def x201:AV:=d8 (ci 2) (ci 0) (ci 0) (ci 0) bf x11 bf x11 x200
def x202:AV:=d8 (ci 1) (ci 0) (ci 0) (ci 0) bf x3 bf x3 x197
def x203:AV:=S 2 8 x202
def x204:AV:=d8 (ci 1) (ci 0) (ci 0) (ci 0) bf x11 bf x11 x200
def x205:AV:=d8 (ci 0) (ci 0) (ci 0) (ci 0) bf x84 bf x11 .z
def x206:AV:=d8 (ci 0) (ci 0) (ci 0) (ci 0) bf x85 bf x11 .z
def x207:AV:=K 3 3 (d8 bf x13 bf x11 bf x73 bf x11 x72)
def x208:AV:=d8 bf x10 bf x11 bf x11 bf x11 .z
def x209:AV:=d8 bf x31 bf x11 bf x11 bf x11 .z
def x210:AV:=d8 bf x20 bf x3 bf x20 bf x3 x194
def x211:AV:=d8 bf x17 bf x3 bf x17 bf x3 x194
def x212:AV:=d8 bf x29 bf x3 bf x29 bf x3 x194
def x213:AV:=d8 bf x38 bf x3 bf x26 bf x3 x193
def x214:AV:=d8 bf x35 bf x3 bf x29 bf x3 x193
def x215:AV:=d8 bf x17 bf x3 bf x3 bf x3 x190
def x216:AV:=d8 bf x23 bf x3 bf x20 bf x3 x190
def x217:AV:=d8 bf x79 bf x3 bf x26 bf x3 x190
def x218:AV:=d8 bf x42 bf x3 bf x17 bf x3 x190
def x219:AV:=d8 bf x29 bf x3 bf x3 bf x3 x195
def x220:AV:=d8 bf x35 bf x3 bf x20 bf x3 x195
def x221:AV:=d8 bf x83 bf x3 bf x26 bf x3 x195
def x222:AV:=d8 bf x81 bf x3 bf x17 bf x3 x195
def x223:AV:=d8 bf x26 bf x3 bf x3 bf x3 .z
def x224:AV:=K 1 1 (d2 bt x3 .z)
def x225:AV:=d8 bf x20 bf x3 bf x3 bf x3 x193
def x226:AV:=d8 bf x17 bf x3 bf x20 bf x3 x193
end
end Go.Am.Cd
