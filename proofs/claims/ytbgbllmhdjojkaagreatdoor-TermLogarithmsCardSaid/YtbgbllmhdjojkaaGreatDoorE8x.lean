import Derived.Test.YtbgbllmhdjojkaaGreatDoorE7
set_option linter.all false
set_option maxRecDepth 1000000
namespace Go.Am.Cd
open Go Go.Proofs
noncomputable section
def x239:AV:=d8 .sz bf .sz (ci 0) (ci 6) bf .sz bf (d8 .sz (ci 2) (ci 1) bf .sz bf .sz (ci 0) x67)
def x240:AV:=d8 .sz bf .sz (ci 0) (ci 2) bf .sz bf (d8 .sz (ci 0) (ci 1) bf .sz bf .sz (ci 0) (d8 (ci 0) bf x5 bf x0 (ci 0) (ci 2) bf x239))
def x241:AV:=d8 .sz bf .sz (ci 0) (ci 7) bf .sz bf (d8 .sz (ci 0) (ci 2) bf .sz bf .sz (ci 0) (d8 (ci 6) bf .sz bf .sz (ci 2) (ci 1) bf (d8 .sz bf .sz (ci 0) (ci 0) bf x5 bf x61)))
def x242:AV:=.n .i64 (.negSucc 1)
def x243:AV:=d8 .sz (ci 0) (ci 1) bf .sz bf .sz (ci 0) x67
def x244:AV:=d8 x0 (ci 0) (ci 5) bf .sz bf .sz (ci 0) (d8 (ci 0) bf x60 bf x0 (ci 0) (ci 7) bf (d8 .sz bf .sz (ci 0) (ci 2) bf .sz bf x243))
def x245:AV:=d8 x0 (ci 0) (ci 1) bf .sz bf .sz (ci 0) .z
def x246:AV:=d8 .sz bf .sz (ci 0) (ci 0) bf x0 bf x245
def x247:AV:=d8 x0 (ci 0) (ci 8) bf .sz bf .sz (ci 0) (d4 (ci 1) bf .sz bf x2)
def x248:AV:=d8 .sz bf .sz (ci 0) (ci 0) bf x0 bf x247
def x249:AV:=d8 .sz bf .sz (ci 0) (ci 0) bf x60 bf x245
def x250:AV:=d8 .sz bf .sz (ci 0) (ci 0) bf x60 bf x247
def x251:AV:=d8 .sz bf .sz (ci 0) (ci 2) bf .sz bf (d8 .sz (ci 0) (ci 1) bf .sz bf .sz (ci 0) (d8 (ci 0) bf x0 bf x0 (ci 0) (ci 2) bf x239))
def x252:AV:=d8 .sz (ci 0) (ci 1) bf .sz bf .sz (ci 0) x68
def x253:AV:=d8 x0 (ci 0) (ci 5) bf .sz bf .sz (ci 0) (d8 (ci 0) bf x60 bf x0 (ci 0) (ci 7) bf (d8 .sz bf .sz (ci 0) (ci 2) bf .sz bf x252))
def x254:AV:=d8 .sz bf .sz (ci 0) (ci 2) bf .sz bf (d8 .sz (ci 0) (ci 1) bf .sz bf .sz (ci 0) (d8 (ci 0) bf x60 bf x0 (ci 0) (ci 2) bf x239))
def x255:AV:=d8 .sz bf .sz (ci 0) (ci 2) bf .sz bf (d8 .sz (ci 0) (ci 6) bf .sz bf .sz (ci 2) (d8 (ci 1) bf .sz bf .sz (ci 0) (ci 0) bf (d4 x5 bf x0 (ci 0) .z)))
def x256:AV:=d8 .sz (ci 0) (ci 1) bf .sz bf .sz (ci 0) x62
def x257:AV:=d8 x0 (ci 0) (ci 5) bf .sz bf .sz (ci 0) (d8 (ci 0) bf x60 bf x0 (ci 0) (ci 7) bf (d8 .sz bf .sz (ci 0) (ci 2) bf .sz bf x256))
def x258:AV:=S 1 1 (.c (.n .u32 (.ofNat 6)) .z)
def x259:AV:=d8 .sz bf .sz (ci 0) (ci 0) bf x258 bf x245
def x260:AV:=d8 .sz bf .sz (ci 0) (ci 0) bf x258 bf x247
def x261:AV:=d8 .sz bf .sz (ci 0) (ci 2) bf .sz bf (d8 .sz (ci 0) (ci 1) bf .sz bf .sz (ci 0) (d8 (ci 0) bf x63 bf x0 (ci 0) (ci 2) bf x239))
def x262:AV:=d8 .sz (ci 0) (ci 1) bf .sz bf .sz (ci 0) x69
def x263:AV:=d8 .sz bf .sz (ci 0) (ci 2) bf .sz bf x262
def x264:AV:=d8 x0 (ci 0) (ci 5) bf .sz bf .sz (ci 0) (d8 (ci 0) bf x60 bf x0 (ci 0) (ci 7) bf x263)
def x265:AV:=d8 .sz bf .sz (ci 0) (ci 0) bf x63 bf x245
def x266:AV:=d8 .sz bf .sz (ci 0) (ci 0) bf x63 bf x247
def x267:AV:=d8 .sz (ci 0) (ci 1) bf .sz bf .sz (ci 0) x70
def x268:AV:=d8 x0 (ci 0) (ci 5) bf .sz bf .sz (ci 0) (d8 (ci 0) bf x60 bf x0 (ci 0) (ci 7) bf (d8 .sz bf .sz (ci 0) (ci 2) bf .sz bf x267))
def x269:AV:=d8 .sz bf .sz (ci 0) (ci 0) bf x64 bf x245
def x270:AV:=d8 .sz bf .sz (ci 0) (ci 0) bf x64 bf x247
def x271:AV:=d8 .sz bf .sz (ci 0) (ci 2) bf .sz bf (d8 .sz (ci 0) (ci 1) bf .sz bf .sz (ci 0) (d8 (ci 0) bf x1 bf x0 (ci 0) (ci 2) bf x239))
def x272:AV:=d8 .sz (ci 0) (ci 1) bf .sz bf .sz (ci 0) x71
def x273:AV:=d8 x0 (ci 0) (ci 5) bf .sz bf .sz (ci 0) (d8 (ci 0) bf x60 bf x0 (ci 0) (ci 7) bf (d8 .sz bf .sz (ci 0) (ci 2) bf .sz bf x272))
def x274:AV:=.c x184 .z
def x275:AV:=d8 .sz bf .sz (ci 0) (ci 0) bf x1 bf x247
def x276:AV:=S 9 6 (d8 (ci 3) bf .sz bf .sz (ci 0) (ci 8) bf (d8 .sz bf .sz (ci 0) (ci 4) bf .sz bf (d8 .sz (ci 0) (ci 3) bf .sz bf .sz (ci 0) (d8 (ci 0) bf x64 bf x0 (ci 0) (ci 1) bf x260))))
def x277:AV:=d8 .sz bf .sz (ci 0) (ci 0) bf x1 bf x245
def x278:AV:=S 9 6 (d8 (ci 3) bf .sz bf .sz (ci 0) (ci 8) bf (d8 .sz bf .sz (ci 0) (ci 4) bf .sz bf (d8 .sz (ci 0) (ci 3) bf .sz bf .sz (ci 0) (d8 (ci 0) bf x1 bf x0 (ci 0) (ci 1) bf x260))))
def x279:AV:=d8 .sz bf .sz (ci 0) (ci 6) bf .sz bf (d8 .sz (ci 2) (ci 1) bf .sz bf .sz (ci 0) x68)
def x280:AV:=d8 .sz bf .sz (ci 0) (ci 2) bf .sz bf (d8 .sz (ci 0) (ci 1) bf .sz bf .sz (ci 0) (d8 (ci 0) bf x5 bf x0 (ci 0) (ci 2) bf x279))
def x281:AV:=d8 .sz bf .sz (ci 0) (ci 6) bf .sz bf (d8 .sz (ci 2) (ci 1) bf .sz bf .sz (ci 0) x62)
def x282:AV:=d8 .sz bf .sz (ci 0) (ci 2) bf .sz bf (d8 .sz (ci 0) (ci 1) bf .sz bf .sz (ci 0) (d8 (ci 0) bf x5 bf x0 (ci 0) (ci 2) bf x281))
def x283:AV:=d8 .sz bf .sz (ci 0) (ci 6) bf .sz bf (d8 .sz (ci 2) (ci 1) bf .sz bf .sz (ci 0) x69)
def x284:AV:=d8 .sz bf .sz (ci 0) (ci 2) bf .sz bf (d8 .sz (ci 0) (ci 1) bf .sz bf .sz (ci 0) (d8 (ci 0) bf x0 bf x0 (ci 0) (ci 2) bf x283))
def x285:AV:=S 9 6 (d8 (ci 3) bf .sz bf .sz (ci 0) (ci 8) bf (d8 .sz bf .sz (ci 0) (ci 4) bf .sz bf (d8 .sz (ci 0) (ci 3) bf .sz bf .sz (ci 0) (d8 (ci 0) bf x0 bf x0 (ci 0) (ci 1) bf x270))))
def x286:AV:=d8 .sz bf .sz (ci 0) (ci 6) bf .sz bf (d8 .sz (ci 2) (ci 1) bf .sz bf .sz (ci 0) x70)
def x287:AV:=d8 .sz bf .sz (ci 0) (ci 2) bf .sz bf (d8 .sz (ci 0) (ci 1) bf .sz bf .sz (ci 0) (d8 (ci 0) bf x0 bf x0 (ci 0) (ci 2) bf x286))
def x288:AV:=d8 .sz bf .sz (ci 0) (ci 2) bf .sz bf (d8 .sz (ci 0) (ci 1) bf .sz bf .sz (ci 0) (d8 (ci 0) bf x60 bf x0 (ci 0) (ci 2) bf x279))
def x289:AV:=d8 .sz bf .sz (ci 0) (ci 2) bf .sz bf (d8 .sz (ci 0) (ci 1) bf .sz bf .sz (ci 0) (d8 (ci 0) bf x60 bf x0 (ci 0) (ci 2) bf x281))
def x290:AV:=S 9 6 (d8 (ci 3) bf .sz bf .sz (ci 0) (ci 8) bf (d8 .sz bf .sz (ci 0) (ci 4) bf .sz bf (d8 .sz (ci 0) (ci 3) bf .sz bf .sz (ci 0) (d8 (ci 0) bf x60 bf x0 (ci 0) (ci 1) bf x266))))
def x291:AV:=S 9 6 (d8 (ci 3) bf .sz bf .sz (ci 0) (ci 8) bf (d8 .sz bf .sz (ci 0) (ci 4) bf .sz bf (d8 .sz (ci 0) (ci 3) bf .sz bf .sz (ci 0) (d8 (ci 0) bf x63 bf x0 (ci 0) (ci 1) bf x250))))
def x292:AV:=S 9 6 (d8 (ci 3) bf .sz bf .sz (ci 0) (ci 8) bf (d8 .sz bf .sz (ci 0) (ci 4) bf .sz bf (d8 .sz (ci 0) (ci 3) bf .sz bf .sz (ci 0) (d8 (ci 0) bf x63 bf x0 (ci 0) (ci 1) bf x270))))
def x293:AV:=S 8 6 (d8 (ci 8) bf .sz bf .sz (ci 0) (ci 2) bf (d8 .sz bf .sz (ci 0) (ci 4) bf .sz bf (d8 .sz (ci 0) (ci 3) bf .sz bf .sz (ci 0) (d8 (ci 0) bf x63 bf x0 (ci 0) (ci 1) bf x277))))
def x294:AV:=d8 .sz bf .sz (ci 0) (ci 6) bf .sz bf (d8 .sz (ci 2) (ci 1) bf .sz bf .sz (ci 0) x71)
def x295:AV:=d8 .sz bf .sz (ci 0) (ci 2) bf .sz bf (d8 .sz (ci 0) (ci 1) bf .sz bf .sz (ci 0) (d8 (ci 0) bf x63 bf x0 (ci 0) (ci 2) bf x294))
def x296:AV:=d8 .sz bf .sz (ci 0) (ci 2) bf .sz bf (d8 .sz (ci 0) (ci 1) bf .sz bf .sz (ci 0) (d8 (ci 0) bf x64 bf x0 (ci 0) (ci 2) bf x239))
def x297:AV:=d8 .sz bf .sz (ci 0) (ci 2) bf .sz bf (d8 .sz (ci 0) (ci 1) bf .sz bf .sz (ci 0) (d8 (ci 0) bf x64 bf x0 (ci 0) (ci 2) bf x279))
def x298:AV:=d8 .sz bf .sz (ci 0) (ci 2) bf .sz bf (d8 .sz (ci 0) (ci 1) bf .sz bf .sz (ci 0) (d8 (ci 0) bf x64 bf x0 (ci 0) (ci 2) bf x281))
def x299:AV:=S 9 6 (d8 (ci 3) bf .sz bf .sz (ci 0) (ci 8) bf (d8 .sz bf .sz (ci 0) (ci 4) bf .sz bf (d8 .sz (ci 0) (ci 3) bf .sz bf .sz (ci 0) (d8 (ci 0) bf x64 bf x0 (ci 0) (ci 1) bf x266))))
def x300:AV:=S 9 6 (d8 (ci 3) bf .sz bf .sz (ci 0) (ci 8) bf (d8 .sz bf .sz (ci 0) (ci 4) bf .sz bf (d8 .sz (ci 0) (ci 3) bf .sz bf .sz (ci 0) (d8 (ci 0) bf x64 bf x0 (ci 0) (ci 1) bf x275))))
def x301:AV:=S 9 6 (d8 (ci 3) bf .sz bf .sz (ci 0) (ci 8) bf (d8 .sz bf .sz (ci 0) (ci 4) bf .sz bf (d8 .sz (ci 0) (ci 3) bf .sz bf .sz (ci 0) (d8 (ci 0) bf x1 bf x0 (ci 0) (ci 1) bf x250))))
def x302:AV:=d8 .sz bf .sz (ci 0) (ci 2) bf .sz bf (d8 .sz (ci 0) (ci 1) bf .sz bf .sz (ci 0) (d8 (ci 0) bf x1 bf x0 (ci 0) (ci 2) bf x281))
def x303:AV:=S 9 6 (d8 (ci 3) bf .sz bf .sz (ci 0) (ci 8) bf (d8 .sz bf .sz (ci 0) (ci 4) bf .sz bf (d8 .sz (ci 0) (ci 3) bf .sz bf .sz (ci 0) (d8 (ci 0) bf x1 bf x0 (ci 0) (ci 1) bf x266))))
def x304:AV:=S 9 6 (d8 (ci 3) bf .sz bf .sz (ci 0) (ci 8) bf (d8 .sz bf .sz (ci 0) (ci 4) bf .sz bf (d8 .sz (ci 0) (ci 3) bf .sz bf .sz (ci 0) (d8 (ci 0) bf x1 bf x0 (ci 0) (ci 1) bf x270))))
end
end Go.Am.Cd
