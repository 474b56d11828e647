import Derived.Test.YtbgbllmhdjojkaaGreatDoorE10
set_option linter.all false
set_option maxRecDepth 1000000
namespace Go.Am.Cd
open Go Go.Proofs
noncomputable section
def mm:H:=mem2 (d8 (ci 0) (ci 0) (ci 2) (ci 2) (ci 2) (ci 1) (ci 1) (ci 1) (.c (ci 1) .z)) (d8 (ci 5) (ci 5) (ci 1) (ci 2) (ci 2) (ci 3) (ci 4) (ci 5) (.c (ci 5) .z))
def rr (a b n:Nat):Bool:=isT (evF TAB10 3000 100 (.fn p3) (.c (.md .u8 6 a) (.c (.md .u8 6 b) (.c (.md .u8 6 n) .z))) mm (fun v h=>.ok v h) (fun v h=>.pan v h))
theorem y0:([0,1,2,3,4,5].all fun b=>[0,1,2,3,4,5].all fun n=>rr 0 b n)=true:=by decide +kernel
theorem y1:([0,1,2,3,4,5].all fun b=>[0,1,2,3,4,5].all fun n=>rr 1 b n)=true:=by decide +kernel
theorem y2:([0,1,2,3,4,5].all fun b=>[0,1,2,3,4,5].all fun n=>rr 2 b n)=true:=by decide +kernel
theorem y3:([0,1,2,3,4,5].all fun b=>[0,1,2,3,4,5].all fun n=>rr 3 b n)=true:=by decide +kernel
theorem y4:([0,1,2,3,4,5].all fun b=>[0,1,2,3,4,5].all fun n=>rr 4 b n)=true:=by decide +kernel
theorem y5:([0,1,2,3,4,5].all fun b=>[0,1,2,3,4,5].all fun n=>rr 5 b n)=true:=by decide +kernel
end
end Go.Am.Cd
