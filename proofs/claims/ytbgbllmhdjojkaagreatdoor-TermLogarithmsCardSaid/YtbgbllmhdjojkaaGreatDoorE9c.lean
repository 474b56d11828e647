import Derived.Test.YtbgbllmhdjojkaaGreatDoorE9x
set_option linter.all false
set_option maxRecDepth 1000000
namespace Go.Am.Cd
open Go Go.Proofs
noncomputable section
def n13_9_12:MT:=.n 903417 (.c (.c (.c (S 9 6 (d8 (ci 7) bf .sz bf .sz (ci 0) (ci 3) bf x324)) .z) (.t (d2 (.a (d2 (S 2 3 (d4 (ci 1) (K 2 2 x204) x94 (ci 1) (d2 (K 2 3 (d8 (ci 2) (ci 0) (ci 0) (ci 0) bf x11 bf x11 (d8 (ci 0) (ci 0) (ci 0) (ci 0) bf x11 bf x11 x75))) x94 .z))) x230 x274)) (ci 0) .z))) .z) .e .e
theorem wn13_9_12:Wt p13 gs2 n13_9_12:=nt_of Z8 3000 100 p13 (by decide +kernel)
def n26_9_53:MT:=.n 294339 (.c (.c (.c x344 .z) (.t (d2 (.s [108,111,103,40,120,94,50,32,43,32,51,41,32,43,32,108,111,103,40,120,32,43,32,53,41]) (ci 0) .z))) .z) .e .e
theorem wn26_9_53:Wt p26 gs2 n26_9_53:=nt_of Z8 3000 100 p26 (by decide +kernel)
def n26_9_52:MT:=.n 292950 (.c (.c (.c x342 .z) (.t (d2 (.s [108,111,103,40,120,94,50,32,43,32,52,41,32,43,32,108,111,103,40,120,32,43,32,52,41]) (ci 0) .z))) .z) .e .e
theorem wn26_9_52:Wt p26 gs2 n26_9_52:=nt_of Z8 3000 100 p26 (by decide +kernel)
def n26_9_46:MT:=.n 139986 (.c (.c (.c x343 .z) (.t (d2 (.s [108,111,103,40,120,94,50,32,43,32,53,41,32,43,32,108,111,103,40,120,32,43,32,52,41]) (ci 0) .z))) .z) .e .e
theorem wn26_9_46:Wt p26 gs2 n26_9_46:=nt_of Z8 3000 100 p26 (by decide +kernel)
def n26_9_62:MT:=.n 596100 (.c (.c (.c (S 9 6 (d8 (ci 7) bf .sz bf .sz (ci 0) (ci 3) bf x322)) .z) (.t (d2 (.s [108,111,103,40,120,94,50,32,43,32,52,41,32,43,32,108,111,103,40,120,32,43,32,50,41]) (ci 0) .z))) .z) .e .e
theorem wn26_9_62:Wt p26 gs2 n26_9_62:=nt_of Z8 3000 100 p26 (by decide +kernel)
def n26_9_64:MT:=.n 600267 (.c (.c (.c (S 9 6 (d8 (ci 7) bf .sz bf .sz (ci 0) (ci 3) bf x331)) .z) (.t (d2 (.s [108,111,103,40,120,94,50,32,43,32,49,41,32,43,32,108,111,103,40,120,32,43,32,53,41]) (ci 0) .z))) .z) .e .e
theorem wn26_9_64:Wt p26 gs2 n26_9_64:=nt_of Z8 3000 100 p26 (by decide +kernel)
def n26_9_65:MT:=.n 614510 (.c (.c (.c (S 9 6 (d8 (ci 7) bf .sz bf .sz (ci 0) (ci 3) bf x311)) .z) (.t (d2 (.s [108,111,103,40,120,94,50,32,43,32,53,41,32,43,32,108,111,103,40,120,41]) (ci 0) .z))) .z) (.n 606900 (.c (.c (.c (S 11 6 (d8 (ci 2) bf .sz bf .sz (ci 0) (ci 7) bf (d8 .sz bf .sz (ci 0) (ci 2) bf .sz bf (d8 .sz (ci 0) (ci 1) bf .sz bf .sz (ci 0) (d8 (ci 0) bf x64 bf x0 (ci 0) (ci 5) bf x314))))) .z) (.t (d2 (.s [45,108,111,103,40,120,94,50,32,43,32,49,41,32,43,32,108,111,103,40,120,32,43,32,52,41]) (ci 0) .z))) .z) .e .e) .e
theorem wn26_9_65:Wt p26 gs2 n26_9_65:=nt_of Z8 3000 100 p26 (by decide +kernel)
def n26_9_69:MT:=.n 884864 (.c (.c (.c (S 10 6 (d8 (ci 2) bf .sz bf .sz (ci 0) (ci 7) bf (d8 .sz bf .sz (ci 0) (ci 2) bf .sz bf (d8 .sz (ci 0) (ci 1) bf .sz bf .sz (ci 0) (d8 (ci 0) bf x5 bf x0 (ci 0) (ci 7) bf x320))))) .z) (.t (d2 (.s [108,111,103,40,120,94,50,32,43,32,49,41,32,43,32,108,111,103,40,120,41]) (ci 0) .z))) .z) (.n 810243 (.c (.c (.c (S 10 6 (d8 (ci 2) bf .sz bf .sz (ci 0) (ci 7) bf (d8 .sz bf .sz (ci 0) (ci 2) bf .sz bf (d8 .sz (ci 0) (ci 1) bf .sz bf .sz (ci 0) (d8 (ci 0) bf x63 bf x0 (ci 0) (ci 7) bf x305))))) .z) (.t (d2 (.s [108,111,103,40,120,94,50,32,43,32,50,41,32,43,32,108,111,103,40,120,32,43,32,51,41]) (ci 0) .z))) .z) .e .e) (.n 902028 (.c (.c (.c (S 9 6 (d8 (ci 7) bf .sz bf .sz (ci 0) (ci 3) bf x289)) .z) (.t (d2 (.s [108,111,103,40,120,94,50,32,43,32,50,41,32,43,32,108,111,103,40,120,32,43,32,50,41]) (ci 0) .z))) .z) .e .e)
theorem wn26_9_69:Wt p26 gs2 n26_9_69:=nt_of Z8 3000 100 p26 (by decide +kernel)
def n8_9_39:MT:=.n 289833 (.c (.c (d2 (S 9 6 (d8 (ci 7) bf .sz bf .sz (ci 0) (ci 3) bf x282)) (S 10 6 (d8 (ci 2) bf .sz bf .sz (ci 0) (ci 7) bf (d8 .sz bf .sz (ci 0) (ci 2) bf .sz bf (d8 .sz (ci 0) (ci 1) bf .sz bf .sz (ci 0) (d8 (ci 0) bf x5 bf x0 (ci 0) (ci 7) bf x305))))) .z) bt) .z) .e .e
theorem wn8_9_39:Wt p8 gs2 n8_9_39:=nt_of Z8 3000 100 p8 (by decide +kernel)
def n8_9_64:MT:=.n 844639 (.c (.c (d2 (S 9 6 (d8 (ci 7) bf .sz bf .sz (ci 0) (ci 4) bf x334)) (S 11 6 (d8 (ci 2) bf .sz bf .sz (ci 0) (ci 7) bf (d8 .sz bf .sz (ci 0) (ci 2) bf .sz bf (d8 .sz (ci 0) (ci 1) bf .sz bf .sz (ci 0) (d8 (ci 0) bf x1 bf x0 (ci 0) (ci 5) bf x312))))) .z) bt) .z) .e .e
theorem wn8_9_64:Wt p8 gs2 n8_9_64:=nt_of Z8 3000 100 p8 (by decide +kernel)
def n8_9_53:MT:=.n 567897 (.c (.c (d2 (S 9 6 (d8 (ci 7) bf .sz bf .sz (ci 0) (ci 4) bf x326)) (S 11 6 (d8 (ci 2) bf .sz bf .sz (ci 0) (ci 7) bf (d8 .sz bf .sz (ci 0) (ci 2) bf .sz bf (d8 .sz (ci 0) (ci 1) bf .sz bf .sz (ci 0) (d8 (ci 0) bf x63 bf x0 (ci 0) (ci 5) bf x307))))) .z) bt) .z) .e .e
theorem wn8_9_53:Wt p8 gs2 n8_9_53:=nt_of Z8 3000 100 p8 (by decide +kernel)
def n8_9_41:MT:=.n 308778 (.c (.c (d2 (S 9 6 (d8 (ci 7) bf .sz bf .sz (ci 0) (ci 4) bf x331)) (S 11 6 (d8 (ci 2) bf .sz bf .sz (ci 0) (ci 7) bf (d8 .sz bf .sz (ci 0) (ci 2) bf .sz bf (d8 .sz (ci 0) (ci 1) bf .sz bf .sz (ci 0) (d8 (ci 0) bf x1 bf x0 (ci 0) (ci 5) bf x314))))) .z) bt) .z) .e .e
theorem wn8_9_41:Wt p8 gs2 n8_9_41:=nt_of Z8 3000 100 p8 (by decide +kernel)
def n8_9_40:MT:=.n 291155 (.c (.c (d2 (S 9 6 (d8 (ci 7) bf .sz bf .sz (ci 0) (ci 4) bf x313)) (S 11 6 (d8 (ci 2) bf .sz bf .sz (ci 0) (ci 7) bf (d8 .sz bf .sz (ci 0) (ci 2) bf .sz bf (d8 .sz (ci 0) (ci 1) bf .sz bf .sz (ci 0) (d8 (ci 0) bf x0 bf x0 (ci 0) (ci 5) bf x314))))) .z) bt) .z) .e .e
theorem wn8_9_40:Wt p8 gs2 n8_9_40:=nt_of Z8 3000 100 p8 (by decide +kernel)
def n8_9_31:MT:=.n 82176 (.c (.c (d2 (S 8 6 (d8 (ci 8) bf .sz bf .sz (ci 0) (ci 2) bf (d8 .sz bf .sz (ci 0) (ci 4) bf .sz bf (d8 .sz (ci 0) (ci 3) bf .sz bf .sz (ci 0) (d8 (ci 0) bf x64 bf x0 (ci 0) (ci 1) bf x277))))) x300 .z) bt) .z) .e .e
theorem wn8_9_31:Wt p8 gs2 n8_9_31:=nt_of Z8 3000 100 p8 (by decide +kernel)
def n8_9_28:MT:=.n 51376 (.c (.c (d2 (S 8 6 (d8 (ci 8) bf .sz bf .sz (ci 0) (ci 2) bf (d8 .sz bf .sz (ci 0) (ci 4) bf .sz bf (d8 .sz (ci 0) (ci 3) bf .sz bf .sz (ci 0) (d8 (ci 0) bf x1 bf x0 (ci 0) (ci 1) bf x249))))) x301 .z) bt) .z) .e .e
theorem wn8_9_28:Wt p8 gs2 n8_9_28:=nt_of Z8 3000 100 p8 (by decide +kernel)
def n26_9_55:MT:=.n 437528 (.c (.c (.c (S 11 6 (d8 (ci 2) bf .sz bf .sz (ci 0) (ci 7) bf (d8 .sz bf .sz (ci 0) (ci 2) bf .sz bf (d8 .sz (ci 0) (ci 1) bf .sz bf .sz (ci 0) (d8 (ci 0) bf x0 bf x0 (ci 0) (ci 5) bf x310))))) .z) (.t (d2 (.s [45,108,111,103,40,120,94,50,32,43,32,52,41,32,43,32,108,111,103,40,120,32,43,32,49,41]) (ci 0) .z))) .z) (.n 424885 (.c (.c (.c (S 11 6 (d8 (ci 2) bf .sz bf .sz (ci 0) (ci 7) bf (d8 .sz bf .sz (ci 0) (ci 2) bf .sz bf (d8 .sz (ci 0) (ci 1) bf .sz bf .sz (ci 0) (d8 (ci 0) bf x63 bf x0 (ci 0) (ci 5) bf x312))))) .z) (.t (d2 (.s [45,108,111,103,40,120,94,50,32,43,32,53,41,32,43,32,108,111,103,40,120,32,43,32,51,41]) (ci 0) .z))) .z) .e .e) .e
theorem wn26_9_55:Wt p26 gs2 n26_9_55:=nt_of Z8 3000 100 p26 (by decide +kernel)
def n26_9_45:MT:=.n 52892 (.c (.c (.c (S 10 6 (d8 (ci 2) bf .sz bf .sz (ci 0) (ci 7) bf (d8 .sz bf .sz (ci 0) (ci 2) bf .sz bf (d8 .sz (ci 0) (ci 1) bf .sz bf .sz (ci 0) (d8 (ci 0) bf x1 bf x0 (ci 0) (ci 7) bf x305))))) .z) (.t (d2 (.s [108,111,103,40,120,94,50,32,43,32,50,41,32,43,32,108,111,103,40,120,32,43,32,53,41]) (ci 0) .z))) .z) (.n 24095 (.c (.c (.c (S 11 6 (d8 (ci 2) bf .sz bf .sz (ci 0) (ci 7) bf (d8 .sz bf .sz (ci 0) (ci 2) bf .sz bf (d8 .sz (ci 0) (ci 1) bf .sz bf .sz (ci 0) (d8 (ci 0) bf x1 bf x0 (ci 0) (ci 5) bf x316))))) .z) (.t (d2 (.s [45,108,111,103,40,120,94,50,32,43,32,50,41,32,43,32,108,111,103,40,120,32,43,32,53,41]) (ci 0) .z))) .z) .e .e) .e
theorem wn26_9_45:Wt p26 gs2 n26_9_45:=nt_of Z8 3000 100 p26 (by decide +kernel)
def n26_9_50:MT:=.n 273008 (.c (.c (.c (S 10 6 (d8 (ci 2) bf .sz bf .sz (ci 0) (ci 7) bf (d8 .sz bf .sz (ci 0) (ci 2) bf .sz bf (d8 .sz (ci 0) (ci 1) bf .sz bf .sz (ci 0) (d8 (ci 0) bf x5 bf x0 (ci 0) (ci 7) bf x319))))) .z) (.t (d2 (.s [108,111,103,40,120,94,50,32,43,32,53,41,32,43,32,108,111,103,40,120,41]) (ci 0) .z))) .z) .e .e
theorem wn26_9_50:Wt p26 gs2 n26_9_50:=nt_of Z8 3000 100 p26 (by decide +kernel)
end
end Go.Am.Cd
