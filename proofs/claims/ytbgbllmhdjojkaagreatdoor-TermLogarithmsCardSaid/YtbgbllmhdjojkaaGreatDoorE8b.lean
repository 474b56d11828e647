import Derived.Test.YtbgbllmhdjojkaaGreatDoorE8x
set_option linter.all false
set_option maxRecDepth 1000000
namespace Go.Am.Cd
open Go Go.Proofs
noncomputable section
def n26_8_36:MT:=.n 799938 (.c (.c (.c x293 .z) (.t (d2 (.s [101,120,112,40,56,47,53,42,120,41]) (ci 0) .z))) .z) .e .e
theorem wn26_8_36:Wt p26 gs2 n26_8_36:=nt_of Z7 3000 100 p26 (by decide +kernel)
def n26_8_32:MT:=.n 720688 (.c (.c (.c (S 9 6 (d8 (ci 3) bf .sz bf .sz (ci 0) (ci 8) bf (d8 .sz bf .sz (ci 0) (ci 4) bf .sz bf (d8 .sz (ci 0) (ci 3) bf .sz bf .sz (ci 0) (d8 (ci 0) bf x0 bf x0 (ci 0) (ci 1) bf x260))))) .z) (.t (d2 (.s [101,120,112,40,55,47,54,42,120,41]) (ci 0) .z))) .z) .e .e
theorem wn26_8_32:Wt p26 gs2 n26_8_32:=nt_of Z7 3000 100 p26 (by decide +kernel)
def n26_8_11:MT:=.n 289998 (.c (.c (.c x301 .z) (.t (d2 (.s [101,120,112,40,55,47,50,42,120,41]) (ci 0) .z))) .z) .e .e
theorem wn26_8_11:Wt p26 gs2 n26_8_11:=nt_of Z7 3000 100 p26 (by decide +kernel)
def n8_8_8:MT:=.n 239548 (.c (.c (d2 (S 8 6 (d8 (ci 8) bf .sz bf .sz (ci 0) (ci 2) bf (d8 .sz bf .sz (ci 0) (ci 4) bf .sz bf (d8 .sz (ci 0) (ci 3) bf .sz bf .sz (ci 0) (d8 (ci 0) bf x64 bf x0 (ci 0) (ci 1) bf x249))))) (S 9 6 (d8 (ci 3) bf .sz bf .sz (ci 0) (ci 8) bf (d8 .sz bf .sz (ci 0) (ci 4) bf .sz bf (d8 .sz (ci 0) (ci 3) bf .sz bf .sz (ci 0) (d8 (ci 0) bf x64 bf x0 (ci 0) (ci 1) bf x250))))) .z) bt) .z) .e .e
theorem wn8_8_8:Wt p8 gs2 n8_8_8:=nt_of Z7 3000 100 p8 (by decide +kernel)
def n8_8_23:MT:=.n 804064 (.c (.c (d2 (S 8 6 (d8 (ci 8) bf .sz bf .sz (ci 0) (ci 2) bf (d8 .sz bf .sz (ci 0) (ci 4) bf .sz bf (d8 .sz (ci 0) (ci 3) bf .sz bf .sz (ci 0) (d8 (ci 0) bf x0 bf x0 (ci 0) (ci 1) bf x249))))) (S 9 6 (d8 (ci 3) bf .sz bf .sz (ci 0) (ci 8) bf (d8 .sz bf .sz (ci 0) (ci 4) bf .sz bf (d8 .sz (ci 0) (ci 3) bf .sz bf .sz (ci 0) (d8 (ci 0) bf x0 bf x0 (ci 0) (ci 1) bf x250))))) .z) bt) .z) .e .e
theorem wn8_8_23:Wt p8 gs2 n8_8_23:=nt_of Z7 3000 100 p8 (by decide +kernel)
def n26_8_7:MT:=.n 264589 (.c (.c (.c (S 9 6 (d8 (ci 3) bf .sz bf .sz (ci 0) (ci 8) bf (d8 .sz bf .sz (ci 0) (ci 4) bf .sz bf (d8 .sz (ci 0) (ci 3) bf .sz bf .sz (ci 0) (d8 (ci 0) bf x0 bf x0 (ci 0) (ci 1) bf x275))))) .z) (.t (d2 (.s [101,120,112,40,54,47,53,42,120,41]) (ci 0) .z))) .z) .e .e
theorem wn26_8_7:Wt p26 gs2 n26_8_7:=nt_of Z7 3000 100 p26 (by decide +kernel)
def n26_8_39:MT:=.n 870594 (.c (.c (.c (S 5 6 (d8 (ci 7) bf .sz bf .sz (ci 0) (ci 6) bf (d8 .sz bf .sz (ci 3) (ci 2) bf .sz bf x256))) .z) (.t (d2 (.s [51,42,108,111,103,40,120,32,43,32,50,41]) (ci 0) .z))) .z) (.n 859300 (.c (.c (.c (S 9 6 (d8 (ci 7) bf .sz bf .sz (ci 0) (ci 4) bf x280)) .z) (.t (d2 (.s [45,108,111,103,40,120,94,50,32,43,32,49,41,32,43,32,108,111,103,40,120,41]) (ci 0) .z))) .z) .e .e) .e
theorem wn26_8_39:Wt p26 gs2 n26_8_39:=nt_of Z7 3000 100 p26 (by decide +kernel)
def n26_8_2:MT:=.n 64766 (.c (.c (.c (S 9 6 (d8 (ci 7) bf .sz bf .sz (ci 0) (ci 3) bf x296)) .z) (.t (d2 (.s [108,111,103,40,120,32,43,32,52,41,32,43,32,50,42,108,111,103,40,120,41]) (ci 0) .z))) .z) .e .e
theorem wn26_8_2:Wt p26 gs2 n26_8_2:=nt_of Z7 3000 100 p26 (by decide +kernel)
def n8_8_15:MT:=.n 628433 (.c (.c (d2 (S 9 6 (d8 (ci 7) bf .sz bf .sz (ci 0) (ci 4) bf x251)) (S 11 6 (d8 (ci 2) bf .sz bf .sz (ci 0) (ci 7) bf (d8 .sz bf .sz (ci 0) (ci 2) bf .sz bf (d8 .sz (ci 0) (ci 1) bf .sz bf .sz (ci 0) (d8 (ci 0) bf x0 bf x0 (ci 0) (ci 5) bf x241))))) .z) bt) .z) .e .e
theorem wn8_8_15:Wt p8 gs2 n8_8_15:=nt_of Z7 3000 100 p8 (by decide +kernel)
def n26_8_43:MT:=.n 933026 (.c (.c (.c (S 9 6 (d8 (ci 3) bf .sz bf .sz (ci 0) (ci 2) bf (d8 .sz bf .sz (ci 0) (ci 0) bf x1 bf x253))) .z) (.t (d2 (.s [51,42,108,111,103,40,120,32,43,32,49,41]) (ci 0) .z))) .z) (.n 929840 (.c (.c (.c (S 5 6 (d8 (ci 7) bf .sz bf .sz (ci 0) (ci 6) bf (d8 .sz bf .sz (ci 1) (ci 2) bf .sz bf x272))) .z) (.t (d2 (.s [108,111,103,40,120,32,43,32,53,41]) (ci 0) .z))) .z) (.n 917589 (.c (.c (.c (S 8 6 (d8 (ci 8) bf .sz bf .sz (ci 0) (ci 2) bf (d8 .sz bf .sz (ci 0) (ci 4) bf .sz bf (d8 .sz (ci 0) (ci 3) bf .sz bf .sz (ci 0) (d8 (ci 0) bf x60 bf x0 (ci 0) (ci 1) bf x246))))) .z) (.t (d2 (.s [101,120,112,40,51,42,120,41]) (ci 0) .z))) .z) .e .e) .e) (.n 941581 (.c (.c (.c (S 9 6 (d8 (ci 3) bf .sz bf .sz (ci 0) (ci 2) bf (d8 .sz bf .sz (ci 0) (ci 0) bf x1 bf x244))) .z) (.t (d2 (.s [51,42,108,111,103,40,120,41]) (ci 0) .z))) .z) .e .e)
theorem wn26_8_43:Wt p26 gs2 n26_8_43:=nt_of Z7 3000 100 p26 (by decide +kernel)
def n8_8_22:MT:=.n 801302 (.c (.c (d2 (S 8 6 (d8 (ci 8) bf .sz bf .sz (ci 0) (ci 2) bf (d8 .sz bf .sz (ci 0) (ci 4) bf .sz bf (d8 .sz (ci 0) (ci 3) bf .sz bf .sz (ci 0) (d8 (ci 0) bf x64 bf x0 (ci 0) (ci 1) bf x269))))) (S 9 6 (d8 (ci 3) bf .sz bf .sz (ci 0) (ci 8) bf (d8 .sz bf .sz (ci 0) (ci 4) bf .sz bf (d8 .sz (ci 0) (ci 3) bf .sz bf .sz (ci 0) (d8 (ci 0) bf x64 bf x0 (ci 0) (ci 1) bf x270))))) .z) bt) .z) .e .e
theorem wn8_8_22:Wt p8 gs2 n8_8_22:=nt_of Z7 3000 100 p8 (by decide +kernel)
def n26_8_20:MT:=.n 521626 (.c (.c (.c (S 9 6 (d8 (ci 7) bf .sz bf .sz (ci 0) (ci 4) bf x284)) .z) (.t (d2 (.s [45,108,111,103,40,120,94,50,32,43,32,51,41,32,43,32,108,111,103,40,120,32,43,32,49,41]) (ci 0) .z))) .z) (.n 515371 (.c (.c (.c (S 10 6 (d8 (ci 2) bf .sz bf .sz (ci 0) (ci 7) bf (d8 .sz bf .sz (ci 0) (ci 2) bf .sz bf (d8 .sz (ci 0) (ci 1) bf .sz bf .sz (ci 0) (d8 (ci 0) bf x0 bf x0 (ci 0) (ci 7) bf x255))))) .z) (.t (d2 (.s [108,111,103,40,120,32,43,32,49,41,32,43,32,50,42,108,111,103,40,120,41]) (ci 0) .z))) .z) .e .e) .e
theorem wn26_8_20:Wt p26 gs2 n26_8_20:=nt_of Z7 3000 100 p26 (by decide +kernel)
def n8_8_14:MT:=.n 615892 (.c (.c (d2 (S 8 6 (d8 (ci 8) bf .sz bf .sz (ci 0) (ci 2) bf (d8 .sz bf .sz (ci 0) (ci 4) bf .sz bf (d8 .sz (ci 0) (ci 3) bf .sz bf .sz (ci 0) (d8 (ci 0) bf x60 bf x0 (ci 0) (ci 1) bf x249))))) (S 9 6 (d8 (ci 3) bf .sz bf .sz (ci 0) (ci 8) bf (d8 .sz bf .sz (ci 0) (ci 4) bf .sz bf (d8 .sz (ci 0) (ci 3) bf .sz bf .sz (ci 0) (d8 (ci 0) bf x60 bf x0 (ci 0) (ci 1) bf x250))))) .z) bt) .z) .e .e
theorem wn8_8_14:Wt p8 gs2 n8_8_14:=nt_of Z7 3000 100 p8 (by decide +kernel)
def n26_8_6:MT:=.n 262606 (.c (.c (.c (S 10 6 (d8 (ci 2) bf .sz bf .sz (ci 0) (ci 7) bf (d8 .sz bf .sz (ci 0) (ci 2) bf .sz bf (d8 .sz (ci 0) (ci 1) bf .sz bf .sz (ci 0) (d8 (ci 0) bf x5 bf x0 (ci 0) (ci 7) bf x255))))) .z) (.t (d2 (.s [51,42,108,111,103,40,120,41]) (ci 0) .z))) .z) (.n 219865 (.c (.c (.c (S 9 6 (d8 (ci 7) bf .sz bf .sz (ci 0) (ci 4) bf x298)) .z) (.t (d2 (.s [45,108,111,103,40,120,94,50,32,43,32,50,41,32,43,32,108,111,103,40,120,32,43,32,52,41]) (ci 0) .z))) .z) .e .e) .e
theorem wn26_8_6:Wt p26 gs2 n26_8_6:=nt_of Z7 3000 100 p26 (by decide +kernel)
def n8_8_21:MT:=.n 794890 (.c (.c (d2 (S 5 6 (d8 (ci 7) bf .sz bf .sz (ci 0) (ci 6) bf (d8 .sz bf .sz x242 (ci 2) bf .sz bf x256))) (S 9 6 (d8 (ci 3) bf .sz bf .sz (ci 0) (ci 2) bf (d8 .sz bf .sz (ci 0) (ci 0) bf x5 bf x257))) .z) bt) .z) .e .e
theorem wn8_8_21:Wt p8 gs2 n8_8_21:=nt_of Z7 3000 100 p8 (by decide +kernel)
def n26_8_10:MT:=.n 288624 (.c (.c (.c (S 9 6 (d8 (ci 3) bf .sz bf .sz (ci 0) (ci 8) bf (d8 .sz bf .sz (ci 0) (ci 4) bf .sz bf (d8 .sz (ci 0) (ci 3) bf .sz bf .sz (ci 0) (d8 (ci 0) bf x60 bf x0 (ci 0) (ci 1) bf x248))))) .z) (.t (d2 (.s [101,120,112,40,51,42,120,41]) (ci 0) .z))) .z) .e .e
theorem wn26_8_10:Wt p26 gs2 n26_8_10:=nt_of Z7 3000 100 p26 (by decide +kernel)
def n8_8_6:MT:=.n 195442 (.c (.c (d2 (S 9 6 (d8 (ci 7) bf .sz bf .sz (ci 0) (ci 4) bf x240)) (S 11 6 (d8 (ci 2) bf .sz bf .sz (ci 0) (ci 7) bf (d8 .sz bf .sz (ci 0) (ci 2) bf .sz bf (d8 .sz (ci 0) (ci 1) bf .sz bf .sz (ci 0) (d8 (ci 0) bf x5 bf x0 (ci 0) (ci 5) bf x241))))) .z) bt) .z) .e .e
theorem wn8_8_6:Wt p8 gs2 n8_8_6:=nt_of Z7 3000 100 p8 (by decide +kernel)
def n8_8_0:MT:=.n 15574 (.c (.c (d2 (S 5 6 (d8 (ci 7) bf .sz bf .sz (ci 0) (ci 6) bf (d8 .sz bf .sz x8 (ci 2) bf .sz bf x243))) (S 9 6 (d8 (ci 3) bf .sz bf .sz (ci 0) (ci 2) bf (d8 .sz bf .sz (ci 0) (ci 0) bf x0 bf x244))) .z) bt) .z) .e .e
theorem wn8_8_0:Wt p8 gs2 n8_8_0:=nt_of Z7 3000 100 p8 (by decide +kernel)
end
end Go.Am.Cd
