import Derived.Test.YtbgbllmhdjojkaaGreatDoorE8x
set_option linter.all false
set_option maxRecDepth 1000000
namespace Go.Am.Cd
open Go Go.Proofs
noncomputable section
def n8_8_3:MT:=.n 146843 (.c (.c (d2 (S 8 6 (d8 (ci 8) bf .sz bf .sz (ci 0) (ci 2) bf (d8 .sz bf .sz (ci 0) (ci 4) bf .sz bf (d8 .sz (ci 0) (ci 3) bf .sz bf .sz (ci 0) (d8 (ci 0) bf x63 bf x0 (ci 0) (ci 1) bf x246))))) (S 9 6 (d8 (ci 3) bf .sz bf .sz (ci 0) (ci 8) bf (d8 .sz bf .sz (ci 0) (ci 4) bf .sz bf (d8 .sz (ci 0) (ci 3) bf .sz bf .sz (ci 0) (d8 (ci 0) bf x63 bf x0 (ci 0) (ci 1) bf x248))))) .z) bt) .z) .e .e
theorem wn8_8_3:Wt p8 gs2 n8_8_3:=nt_of Z7 3000 100 p8 (by decide +kernel)
def n26_8_28:MT:=.n 688306 (.c (.c (.c (S 8 6 (d8 (ci 8) bf .sz bf .sz (ci 0) (ci 2) bf (d8 .sz bf .sz (ci 0) (ci 4) bf .sz bf (d8 .sz (ci 0) (ci 3) bf .sz bf .sz (ci 0) (d8 (ci 0) bf x0 bf x0 (ci 0) (ci 1) bf x277))))) .z) (.t (d2 (.s [101,120,112,40,54,47,53,42,120,41]) (ci 0) .z))) .z) .e .e
theorem wn26_8_28:Wt p26 gs2 n26_8_28:=nt_of Z7 3000 100 p26 (by decide +kernel)
def n26_8_34:MT:=.n 746097 (.c (.c (.c x303 .z) (.t (d2 (.s [101,120,112,40,56,47,51,42,120,41]) (ci 0) .z))) .z) .e .e
theorem wn26_8_34:Wt p26 gs2 n26_8_34:=nt_of Z7 3000 100 p26 (by decide +kernel)
def n26_8_5:MT:=.n 202193 (.c (.c (.c x304 .z) (.t (d2 (.s [101,120,112,40,57,47,52,42,120,41]) (ci 0) .z))) .z) .e .e
theorem wn26_8_5:Wt p26 gs2 n26_8_5:=nt_of Z7 3000 100 p26 (by decide +kernel)
def n14_8_3:MT:=.n 732949 (.c (.c (.c (.s [101,120,112,40,45,120,41]) .z) (.s [49,47,101,120,112,40,120,41])) .z) .e .e
theorem wn14_8_3:Wt p14 gs2 n14_8_3:=nt_of Z7 3000 100 p14 (by decide +kernel)
def n26_8_23:MT:=.n 593148 (.c (.c (.c x291 .z) (.t (d2 (.s [101,120,112,40,53,47,50,42,120,41]) (ci 0) .z))) .z) .e .e
theorem wn26_8_23:Wt p26 gs2 n26_8_23:=nt_of Z7 3000 100 p26 (by decide +kernel)
def n8_8_27:MT:=.n 955279 (.c (.c (d2 (S 5 6 (d8 (ci 7) bf .sz bf .sz (ci 0) (ci 6) bf (d8 .sz bf .sz (ci 2) (ci 2) bf .sz bf x262))) (S 9 6 (d8 (ci 3) bf .sz bf .sz (ci 0) (ci 2) bf (d8 .sz bf .sz (ci 0) (ci 0) bf x64 bf x264))) .z) bt) .z) (.n 925064 (.c (.c (d2 (S 5 6 (d8 (ci 7) bf .sz bf .sz (ci 0) (ci 6) bf (d8 .sz bf .sz (ci 1) (ci 2) bf .sz bf x252))) (S 9 6 (d8 (ci 3) bf .sz bf .sz (ci 0) (ci 2) bf (d8 .sz bf .sz (ci 0) (ci 0) bf x63 bf x253))) .z) bt) .z) .e .e) .e
theorem wn8_8_27:Wt p8 gs2 n8_8_27:=nt_of Z7 3000 100 p8 (by decide +kernel)
def n13_8_7:MT:=.n 658292 (.c (.c (.c (S 9 6 (d8 (ci 3) bf .sz bf .sz (ci 0) (ci 8) bf (d8 .sz bf .sz (ci 0) (ci 4) bf .sz bf (d8 .sz (ci 0) (ci 3) bf .sz bf .sz (ci 0) (d8 (ci 0) bf x1 bf x0 (ci 0) (ci 1) bf x275))))) .z) (.t (d2 (.a (d2 (K 1 1 (d2 (ci 2) (S 1 8 x133) x274)) x229 x274)) (ci 0) .z))) .z) (.n 434913 (.c (.c (.c (S 9 6 (d8 (ci 7) bf .sz bf .sz (ci 0) (ci 3) bf x240)) .z) (.t (d2 (.a (d2 (S 1 3 (d2 (ci 1) (K 1 2 (d8 (ci 1) (ci 0) (ci 0) (ci 0) bf x11 bf x11 x75)) (.c x94 .z))) x231 x274)) (ci 0) .z))) .z) .e .e) (.n 702020 (.c (.c (.c (S 9 6 (d8 (ci 3) bf .sz bf .sz (ci 0) (ci 2) bf (d8 .sz bf .sz (ci 0) (ci 0) bf x60 bf x268))) .z) (.t (d2 (.a (d2 .sz .sz (.c x94 .z))) (ci 0) .z))) .z) .e .e)
theorem wn13_8_7:Wt p13 gs2 n13_8_7:=nt_of Z7 3000 100 p13 (by decide +kernel)
def n8_8_18:MT:=.n 731158 (.c (.c (d2 (S 9 6 (d8 (ci 7) bf .sz bf .sz (ci 0) (ci 4) bf x261)) (S 11 6 (d8 (ci 2) bf .sz bf .sz (ci 0) (ci 7) bf (d8 .sz bf .sz (ci 0) (ci 2) bf .sz bf (d8 .sz (ci 0) (ci 1) bf .sz bf .sz (ci 0) (d8 (ci 0) bf x63 bf x0 (ci 0) (ci 5) bf x241))))) .z) bt) .z) .e .e
theorem wn8_8_18:Wt p8 gs2 n8_8_18:=nt_of Z7 3000 100 p8 (by decide +kernel)
def n13_8_9:MT:=.n 833902 (.c (.c (.c (S 9 6 (d8 (ci 3) bf .sz bf .sz (ci 0) (ci 8) bf (d8 .sz bf .sz (ci 0) (ci 4) bf .sz bf (d8 .sz (ci 0) (ci 3) bf .sz bf .sz (ci 0) (d8 (ci 0) bf x1 bf x0 (ci 0) (ci 1) bf x248))))) .z) (.t (d2 (.a (d2 (K 1 1 (d2 (ci 2) (S 1 8 (d8 (ci 1) (ci 0) (ci 0) (ci 0) bf x28 bf x11 .z)) x274)) x229 x274)) (ci 0) .z))) .z) .e .e
theorem wn13_8_9:Wt p13 gs2 n13_8_9:=nt_of Z7 3000 100 p13 (by decide +kernel)
def n26_8_16:MT:=.n 411702 (.c (.c (.c (S 5 6 (d8 (ci 7) bf .sz bf .sz (ci 0) (ci 6) bf (d8 .sz bf .sz (ci 3) (ci 2) bf .sz bf x272))) .z) (.t (d2 (.s [51,42,108,111,103,40,120,32,43,32,53,41]) (ci 0) .z))) .z) .e .e
theorem wn26_8_16:Wt p26 gs2 n26_8_16:=nt_of Z7 3000 100 p26 (by decide +kernel)
def n26_8_24:MT:=.n 596039 (.c (.c (.c (S 9 6 (d8 (ci 7) bf .sz bf .sz (ci 0) (ci 4) bf x271)) .z) (.t (d2 (.s [108,111,103,40,120,32,43,32,53,41,32,45,32,50,42,108,111,103,40,120,41]) (ci 0) .z))) .z) (.n 593725 (.c (.c (.c (S 9 6 (d8 (ci 3) bf .sz bf .sz (ci 0) (ci 8) bf (d8 .sz bf .sz (ci 0) (ci 4) bf .sz bf (d8 .sz (ci 0) (ci 3) bf .sz bf .sz (ci 0) (d8 (ci 0) bf x5 bf x0 (ci 0) (ci 1) bf x275))))) .z) (.t (d2 (.s [101,120,112,40,120,41]) (ci 0) .z))) .z) .e .e) .e
theorem wn26_8_24:Wt p26 gs2 n26_8_24:=nt_of Z7 3000 100 p26 (by decide +kernel)
def n180_8_10:MT:=.n 447029 (.c (.c (.c (K 4 4 (d8 bf x23 bf x3 bf x17 bf x3 x193)) .z) (S 1 4 (d4 bt x10 bf x11 .z))) .z) .e .e
theorem wn180_8_10:Wt p180 gsz n180_8_10:=nt_of Z7 3000 100 p180 (by decide +kernel)
def n26_8_3:MT:=.n 166784 (.c (.c (.c (S 8 6 (d8 (ci 8) bf .sz bf .sz (ci 0) (ci 2) bf (d8 .sz bf .sz (ci 0) (ci 4) bf .sz bf (d8 .sz (ci 0) (ci 3) bf .sz bf .sz (ci 0) (d8 (ci 0) bf x5 bf x0 (ci 0) (ci 1) bf x265))))) .z) (.t (d2 (.s [101,120,112,40,120,41]) (ci 0) .z))) .z) (.n 68290 (.c (.c (.c (S 9 6 (d8 (ci 7) bf .sz bf .sz (ci 0) (ci 4) bf x302)) .z) (.t (d2 (.s [45,108,111,103,40,120,94,50,32,43,32,50,41,32,43,32,108,111,103,40,120,32,43,32,53,41]) (ci 0) .z))) .z) .e .e) .e
theorem wn26_8_3:Wt p26 gs2 n26_8_3:=nt_of Z7 3000 100 p26 (by decide +kernel)
def n13_8_0:MT:=.n 49821 (.c (.c (.c (S 9 6 (d8 (ci 3) bf .sz bf .sz (ci 0) (ci 8) bf (d8 .sz bf .sz (ci 0) (ci 4) bf .sz bf (d8 .sz (ci 0) (ci 3) bf .sz bf .sz (ci 0) (d8 (ci 0) bf x5 bf x0 (ci 0) (ci 1) bf x260))))) .z) (.t (d2 (.a (d2 (K 1 1 (d2 (ci 2) (S 1 8 x103) x274)) x229 x274)) (ci 0) .z))) .z) (.n 6569 (.c (.c (.c (S 8 6 (d8 (ci 8) bf .sz bf .sz (ci 0) (ci 2) bf (d8 .sz bf .sz (ci 0) (ci 4) bf .sz bf (d8 .sz (ci 0) (ci 3) bf .sz bf .sz (ci 0) (d8 (ci 0) bf x63 bf x0 (ci 0) (ci 1) bf x259))))) .z) (.t (d2 (.a (d2 (K 1 1 (d2 (ci 2) (S 1 8 (d8 (ci 1) (ci 0) (ci 0) (ci 0) bf x13 bf x10 .z)) x274)) x229 x274)) (ci 0) .z))) .z) .e .e) .e
theorem wn13_8_0:Wt p13 gs2 n13_8_0:=nt_of Z7 3000 100 p13 (by decide +kernel)
def n26_8_30:MT:=.n 712337 (.c (.c (.c (S 5 6 (d8 (ci 7) bf .sz bf .sz (ci 0) (ci 6) bf (d8 .sz bf .sz x8 (ci 2) bf .sz bf x267))) .z) (.t (d2 (.s [45,108,111,103,40,120,32,43,32,52,41]) (ci 0) .z))) .z) (.n 706336 (.c (.c (.c (S 9 6 (d8 (ci 7) bf .sz bf .sz (ci 0) (ci 4) bf x282)) .z) (.t (d2 (.s [45,108,111,103,40,120,94,50,32,43,32,50,41,32,43,32,108,111,103,40,120,41]) (ci 0) .z))) .z) .e .e) .e
theorem wn26_8_30:Wt p26 gs2 n26_8_30:=nt_of Z7 3000 100 p26 (by decide +kernel)
def n8_8_24:MT:=.n 811115 (.c (.c (d2 (S 8 6 (d8 (ci 8) bf .sz bf .sz (ci 0) (ci 2) bf (d8 .sz bf .sz (ci 0) (ci 4) bf .sz bf (d8 .sz (ci 0) (ci 3) bf .sz bf .sz (ci 0) (d8 (ci 0) bf x5 bf x0 (ci 0) (ci 1) bf x249))))) (S 9 6 (d8 (ci 3) bf .sz bf .sz (ci 0) (ci 8) bf (d8 .sz bf .sz (ci 0) (ci 4) bf .sz bf (d8 .sz (ci 0) (ci 3) bf .sz bf .sz (ci 0) (d8 (ci 0) bf x5 bf x0 (ci 0) (ci 1) bf x250))))) .z) bt) .z) .e .e
theorem wn8_8_24:Wt p8 gs2 n8_8_24:=nt_of Z7 3000 100 p8 (by decide +kernel)
def n26_8_22:MT:=.n 580052 (.c (.c (.c (S 8 6 (d8 (ci 8) bf .sz bf .sz (ci 0) (ci 2) bf (d8 .sz bf .sz (ci 0) (ci 4) bf .sz bf (d8 .sz (ci 0) (ci 3) bf .sz bf .sz (ci 0) (d8 (ci 0) bf x5 bf x0 (ci 0) (ci 1) bf x277))))) .z) (.t (d2 (.s [101,120,112,40,120,41]) (ci 0) .z))) .z) (.n 549056 (.c (.c (.c (S 9 6 (d8 (ci 3) bf .sz bf .sz (ci 0) (ci 2) bf (d8 .sz bf .sz (ci 0) (ci 0) bf x60 bf x273))) .z) (.t (d2 (.s [48]) (ci 0) .z))) .z) .e .e) .e
theorem wn26_8_22:Wt p26 gs2 n26_8_22:=nt_of Z7 3000 100 p26 (by decide +kernel)
def n8_8_4:MT:=.n 169674 (.c (.c (d2 (S 5 6 (d8 (ci 7) bf .sz bf .sz (ci 0) (ci 6) bf (d8 .sz bf .sz (ci 1) (ci 2) bf .sz bf x262))) (S 9 6 (d8 (ci 3) bf .sz bf .sz (ci 0) (ci 2) bf (d8 .sz bf .sz (ci 0) (ci 0) bf x63 bf x264))) .z) bt) .z) .e .e
theorem wn8_8_4:Wt p8 gs2 n8_8_4:=nt_of Z7 3000 100 p8 (by decide +kernel)
end
end Go.Am.Cd
