import Derived.Test.YtbgbllmhdjojkaaGreatDoorE9x
set_option linter.all false
set_option maxRecDepth 1000000
namespace Go.Am.Cd
open Go Go.Proofs
noncomputable section
def n8_9_59:MT:=.n 753231 (.c (.c (d2 (S 9 6 (d8 (ci 7) bf .sz bf .sz (ci 0) (ci 3) bf x284)) (S 10 6 (d8 (ci 2) bf .sz bf .sz (ci 0) (ci 7) bf (d8 .sz bf .sz (ci 0) (ci 2) bf .sz bf (d8 .sz (ci 0) (ci 1) bf .sz bf .sz (ci 0) (d8 (ci 0) bf x0 bf x0 (ci 0) (ci 7) bf x317))))) .z) bt) .z) .e .e
theorem wn8_9_59:Wt p8 gs2 n8_9_59:=nt_of Z8 3000 100 p8 (by decide +kernel)
def n26_9_71:MT:=.n 988414 (.c (.c (.c x345 .z) (.t (d2 (.s [108,111,103,40,120,94,50,32,43,32,53,41,32,43,32,108,111,103,40,120,32,43,32,53,41]) (ci 0) .z))) .z) .e .e
theorem wn26_9_71:Wt p26 gs2 n26_9_71:=nt_of Z8 3000 100 p26 (by decide +kernel)
def n26_9_48:MT:=.n 206564 (.c (.c (.c x336 .z) (.t (d2 (.s [108,111,103,40,120,94,50,32,43,32,49,41,32,43,32,108,111,103,40,120,32,43,32,49,41]) (ci 0) .z))) .z) .e .e
theorem wn26_9_48:Wt p26 gs2 n26_9_48:=nt_of Z8 3000 100 p26 (by decide +kernel)
def n26_9_56:MT:=.n 443136 (.c (.c (.c (S 9 6 (d8 (ci 7) bf .sz bf .sz (ci 0) (ci 3) bf x323)) .z) (.t (d2 (.s [108,111,103,40,120,94,50,32,43,32,53,41,32,43,32,108,111,103,40,120,32,43,32,50,41]) (ci 0) .z))) .z) .e .e
theorem wn26_9_56:Wt p26 gs2 n26_9_56:=nt_of Z8 3000 100 p26 (by decide +kernel)
def n26_9_63:MT:=.n 598878 (.c (.c (.c x340 .z) (.t (d2 (.s [108,111,103,40,120,94,50,32,43,32,50,41,32,43,32,108,111,103,40,120,32,43,32,52,41]) (ci 0) .z))) .z) .e .e
theorem wn26_9_63:Wt p26 gs2 n26_9_63:=nt_of Z8 3000 100 p26 (by decide +kernel)
def n26_9_57:MT:=.n 444525 (.c (.c (.c x338 .z) (.t (d2 (.s [108,111,103,40,120,94,50,32,43,32,52,41,32,43,32,108,111,103,40,120,32,43,32,51,41]) (ci 0) .z))) .z) .e .e
theorem wn26_9_57:Wt p26 gs2 n26_9_57:=nt_of Z8 3000 100 p26 (by decide +kernel)
def n8_9_34:MT:=.n 101633 (.c (.c (d2 (S 9 6 (d8 (ci 7) bf .sz bf .sz (ci 0) (ci 3) bf x308)) (S 10 6 (d8 (ci 2) bf .sz bf .sz (ci 0) (ci 7) bf (d8 .sz bf .sz (ci 0) (ci 2) bf .sz bf (d8 .sz (ci 0) (ci 1) bf .sz bf .sz (ci 0) (d8 (ci 0) bf x5 bf x0 (ci 0) (ci 7) bf x309))))) .z) bt) .z) .e .e
theorem wn8_9_34:Wt p8 gs2 n8_9_34:=nt_of Z8 3000 100 p8 (by decide +kernel)
def n14_9_4:MT:=.n 135070 (.c (.c (.c (.s [108,111,103,40,108,111,103,40,120,94,50,41,47,50,41]) .z) (.s [108,111,103,40,108,111,103,40,120,41,41])) .z) .e .e
theorem wn14_9_4:Wt p14 gs2 n14_9_4:=nt_of Z8 3000 100 p14 (by decide +kernel)
def n26_9_49:MT:=.n 226363 (.c (.c (.c (S 9 6 (d8 (ci 7) bf .sz bf .sz (ci 0) (ci 3) bf x280)) .z) (.t (d2 (.s [108,111,103,40,120,94,50,32,43,32,49,41,32,43,32,108,111,103,40,120,41]) (ci 0) .z))) .z) (.n 219991 (.c (.c (.c (S 11 6 (d8 (ci 2) bf .sz bf .sz (ci 0) (ci 7) bf (d8 .sz bf .sz (ci 0) (ci 2) bf .sz bf (d8 .sz (ci 0) (ci 1) bf .sz bf .sz (ci 0) (d8 (ci 0) bf x5 bf x0 (ci 0) (ci 5) bf x316))))) .z) (.t (d2 (.s [45,108,111,103,40,120,94,50,32,43,32,50,41,32,43,32,108,111,103,40,120,41]) (ci 0) .z))) .z) .e .e) (.n 230025 (.c (.c (.c (S 10 6 (d8 (ci 2) bf .sz bf .sz (ci 0) (ci 7) bf (d8 .sz bf .sz (ci 0) (ci 2) bf .sz bf (d8 .sz (ci 0) (ci 1) bf .sz bf .sz (ci 0) (d8 (ci 0) bf x60 bf x0 (ci 0) (ci 7) bf x319))))) .z) (.t (d2 (.s [108,111,103,40,120,94,50,32,43,32,53,41,32,43,32,108,111,103,40,120,32,43,32,50,41]) (ci 0) .z))) .z) .e .e)
theorem wn26_9_49:Wt p26 gs2 n26_9_49:=nt_of Z8 3000 100 p26 (by decide +kernel)
def n8_9_58:MT:=.n 706268 (.c (.c (d2 (S 9 6 (d8 (ci 7) bf .sz bf .sz (ci 0) (ci 4) bf x329)) (S 11 6 (d8 (ci 2) bf .sz bf .sz (ci 0) (ci 7) bf (d8 .sz bf .sz (ci 0) (ci 2) bf .sz bf (d8 .sz (ci 0) (ci 1) bf .sz bf .sz (ci 0) (d8 (ci 0) bf x64 bf x0 (ci 0) (ci 5) bf x310))))) .z) bt) .z) .e .e
theorem wn8_9_58:Wt p8 gs2 n8_9_58:=nt_of Z8 3000 100 p8 (by decide +kernel)
def n8_9_48:MT:=.n 460673 (.c (.c (d2 (S 9 6 (d8 (ci 7) bf .sz bf .sz (ci 0) (ci 4) bf x333)) (S 11 6 (d8 (ci 2) bf .sz bf .sz (ci 0) (ci 7) bf (d8 .sz bf .sz (ci 0) (ci 2) bf .sz bf (d8 .sz (ci 0) (ci 1) bf .sz bf .sz (ci 0) (d8 (ci 0) bf x1 bf x0 (ci 0) (ci 5) bf x310))))) .z) bt) .z) .e .e
theorem wn8_9_48:Wt p8 gs2 n8_9_48:=nt_of Z8 3000 100 p8 (by decide +kernel)
def n8_9_67:MT:=.n 951863 (.c (.c (d2 (S 9 6 (d8 (ci 7) bf .sz bf .sz (ci 0) (ci 4) bf x327)) (S 11 6 (d8 (ci 2) bf .sz bf .sz (ci 0) (ci 7) bf (d8 .sz bf .sz (ci 0) (ci 2) bf .sz bf (d8 .sz (ci 0) (ci 1) bf .sz bf .sz (ci 0) (d8 (ci 0) bf x63 bf x0 (ci 0) (ci 5) bf x310))))) .z) bt) .z) .e .e
theorem wn8_9_67:Wt p8 gs2 n8_9_67:=nt_of Z8 3000 100 p8 (by decide +kernel)
def n8_9_61:MT:=.n 799968 (.c (.c (d2 (S 9 6 (d8 (ci 7) bf .sz bf .sz (ci 0) (ci 4) bf x324)) (S 11 6 (d8 (ci 2) bf .sz bf .sz (ci 0) (ci 7) bf (d8 .sz bf .sz (ci 0) (ci 2) bf .sz bf (d8 .sz (ci 0) (ci 1) bf .sz bf .sz (ci 0) (d8 (ci 0) bf x63 bf x0 (ci 0) (ci 5) bf x314))))) .z) bt) .z) .e .e
theorem wn8_9_61:Wt p8 gs2 n8_9_61:=nt_of Z8 3000 100 p8 (by decide +kernel)
def n8_9_49:MT:=.n 483951 (.c (.c (d2 (S 9 6 (d8 (ci 7) bf .sz bf .sz (ci 0) (ci 4) bf x311)) (S 11 6 (d8 (ci 2) bf .sz bf .sz (ci 0) (ci 7) bf (d8 .sz bf .sz (ci 0) (ci 2) bf .sz bf (d8 .sz (ci 0) (ci 1) bf .sz bf .sz (ci 0) (d8 (ci 0) bf x5 bf x0 (ci 0) (ci 5) bf x312))))) .z) bt) .z) .e .e
theorem wn8_9_49:Wt p8 gs2 n8_9_49:=nt_of Z8 3000 100 p8 (by decide +kernel)
def n8_9_47:MT:=.n 427720 (.c (.c (d2 (S 8 6 (d8 (ci 8) bf .sz bf .sz (ci 0) (ci 2) bf (d8 .sz bf .sz (ci 0) (ci 4) bf .sz bf (d8 .sz (ci 0) (ci 3) bf .sz bf .sz (ci 0) (d8 (ci 0) bf x63 bf x0 (ci 0) (ci 1) bf x249))))) x291 .z) bt) .z) .e .e
theorem wn8_9_47:Wt p8 gs2 n8_9_47:=nt_of Z8 3000 100 p8 (by decide +kernel)
def n8_9_60:MT:=.n 780494 (.c (.c (d2 (S 9 6 (d8 (ci 7) bf .sz bf .sz (ci 0) (ci 3) bf x288)) (S 10 6 (d8 (ci 2) bf .sz bf .sz (ci 0) (ci 7) bf (d8 .sz bf .sz (ci 0) (ci 2) bf .sz bf (d8 .sz (ci 0) (ci 1) bf .sz bf .sz (ci 0) (d8 (ci 0) bf x60 bf x0 (ci 0) (ci 7) bf x320))))) .z) bt) .z) .e .e
theorem wn8_9_60:Wt p8 gs2 n8_9_60:=nt_of Z8 3000 100 p8 (by decide +kernel)
def n8_9_66:MT:=.n 896769 (.c (.c (d2 (S 8 6 (d8 (ci 8) bf .sz bf .sz (ci 0) (ci 2) bf (d8 .sz bf .sz (ci 0) (ci 4) bf .sz bf (d8 .sz (ci 0) (ci 3) bf .sz bf .sz (ci 0) (d8 (ci 0) bf x60 bf x0 (ci 0) (ci 1) bf x265))))) x290 .z) bt) .z) .e .e
theorem wn8_9_66:Wt p8 gs2 n8_9_66:=nt_of Z8 3000 100 p8 (by decide +kernel)
def n26_9_47:MT:=.n 205856 (.c (.c (.c (S 10 6 (d8 (ci 2) bf .sz bf .sz (ci 0) (ci 7) bf (d8 .sz bf .sz (ci 0) (ci 2) bf .sz bf (d8 .sz (ci 0) (ci 1) bf .sz bf .sz (ci 0) (d8 (ci 0) bf x1 bf x0 (ci 0) (ci 7) bf x320))))) .z) (.t (d2 (.s [108,111,103,40,120,94,50,32,43,32,49,41,32,43,32,108,111,103,40,120,32,43,32,53,41]) (ci 0) .z))) .z) .e .e
theorem wn26_9_47:Wt p26 gs2 n26_9_47:=nt_of Z8 3000 100 p26 (by decide +kernel)
end
end Go.Am.Cd
