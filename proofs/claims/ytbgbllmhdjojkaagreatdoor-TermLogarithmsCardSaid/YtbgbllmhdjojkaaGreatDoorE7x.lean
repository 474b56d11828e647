import Derived.Test.YtbgbllmhdjojkaaGreatDoorE6
set_option linter.all false
set_option maxRecDepth 1000000
namespace Go.Am.Cd
open Go Go.Proofs
noncomputable section
def x227:AV:=.a (d2 (K 1 1 (d8 (ci 0) (ci 0) (ci 1) (ci 0) bf x3 bf x3 .z)) x112 .z)
def x228:AV:=d8 (ci 0) (ci 0) (ci 0) (ci 0) bf x63 bf x0 .z
def x229:AV:=S 1 8 x127
def x230:AV:=S 2 8 (d8 (ci 0) (ci 0) (ci 1) (ci 0) bf x11 bf x11 x127)
def x231:AV:=S 1 8 (d8 (ci 0) (ci 1) (ci 0) (ci 0) bf x13 bf x11 .z)
def x232:AV:=S 1 8 (d8 (ci 0) (ci 1) (ci 0) (ci 0) bt x11 bf x11 .z)
def x233:AV:=d8 (ci 0) (ci 0) (ci 0) (ci 0) bf x64 bf x0 .z
def x234:AV:=.c (.a (d2 (K 1 1 (d8 (ci 0) (ci 0) (ci 0) (ci 1) bf x3 bf x3 .z)) x112 .z)) .z
def x235:AV:=.c (.a (d2 (K 1 1 x126) x112 .z)) .z
def x236:AV:=K 1 1 (.c (.n .u32 (.ofNat 40)) .z)
def x237:AV:=K 1 1 (.c (.n .u32 (.ofNat 13)) .z)
def x238:AV:=K 1 1 (.c (.n .u32 (.ofNat 80)) .z)
end
end Go.Am.Cd
