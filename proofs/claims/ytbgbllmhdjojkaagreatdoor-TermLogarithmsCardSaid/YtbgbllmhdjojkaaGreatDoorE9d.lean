import Derived.Test.YtbgbllmhdjojkaaGreatDoorE9x
set_option linter.all false
set_option maxRecDepth 1000000
namespace Go.Am.Cd
open Go Go.Proofs
noncomputable section
def n8_9_46:MT:=.n 425045 (.c (.c (d2 (S 9 6 (d8 (ci 7) bf .sz bf .sz (ci 0) (ci 3) bf x287)) (S 10 6 (d8 (ci 2) bf .sz bf .sz (ci 0) (ci 7) bf (d8 .sz bf .sz (ci 0) (ci 2) bf .sz bf (d8 .sz (ci 0) (ci 1) bf .sz bf .sz (ci 0) (d8 (ci 0) bf x0 bf x0 (ci 0) (ci 7) bf x309))))) .z) bt) .z) .e .e
theorem wn8_9_46:Wt p8 gs2 n8_9_46:=nt_of Z8 3000 100 p8 (by decide +kernel)
def n13_9_11:MT:=.n 141375 (.c (.c (.c x335 .z) (.t (d2 (.a (d2 (S 2 3 (d4 (ci 1) (K 2 2 x181) x94 (ci 1) (d2 (K 2 3 (d8 (ci 2) (ci 0) (ci 0) (ci 0) bf x11 bf x11 (d8 (ci 0) (ci 0) (ci 0) (ci 0) bf x19 bf x11 x75))) x94 .z))) x230 x274)) (ci 0) .z))) .z) .e .e
theorem wn13_9_11:Wt p13 gs2 n13_9_11:=nt_of Z8 3000 100 p13 (by decide +kernel)
def n26_9_59:MT:=.n 447303 (.c (.c (.c (S 9 6 (d8 (ci 7) bf .sz bf .sz (ci 0) (ci 3) bf x302)) .z) (.t (d2 (.s [108,111,103,40,120,94,50,32,43,32,50,41,32,43,32,108,111,103,40,120,32,43,32,53,41]) (ci 0) .z))) .z) .e .e
theorem wn26_9_59:Wt p26 gs2 n26_9_59:=nt_of Z8 3000 100 p26 (by decide +kernel)
def n8_9_30:MT:=.n 81414 (.c (.c (d2 (S 9 6 (d8 (ci 7) bf .sz bf .sz (ci 0) (ci 3) bf x315)) (S 10 6 (d8 (ci 2) bf .sz bf .sz (ci 0) (ci 7) bf (d8 .sz bf .sz (ci 0) (ci 2) bf .sz bf (d8 .sz (ci 0) (ci 1) bf .sz bf .sz (ci 0) (d8 (ci 0) bf x0 bf x0 (ci 0) (ci 7) bf x305))))) .z) bt) .z) .e .e
theorem wn8_9_30:Wt p8 gs2 n8_9_30:=nt_of Z8 3000 100 p8 (by decide +kernel)
def n8_9_38:MT:=.n 270348 (.c (.c (d2 x293 (S 9 6 (d8 (ci 3) bf .sz bf .sz (ci 0) (ci 8) bf (d8 .sz bf .sz (ci 0) (ci 4) bf .sz bf (d8 .sz (ci 0) (ci 3) bf .sz bf .sz (ci 0) (d8 (ci 0) bf x63 bf x0 (ci 0) (ci 1) bf x275))))) .z) bt) .z) .e .e
theorem wn8_9_38:Wt p8 gs2 n8_9_38:=nt_of Z8 3000 100 p8 (by decide +kernel)
def n8_9_50:MT:=.n 495016 (.c (.c (d2 (S 9 6 (d8 (ci 7) bf .sz bf .sz (ci 0) (ci 3) bf x326)) (S 10 6 (d8 (ci 2) bf .sz bf .sz (ci 0) (ci 7) bf (d8 .sz bf .sz (ci 0) (ci 2) bf .sz bf (d8 .sz (ci 0) (ci 1) bf .sz bf .sz (ci 0) (d8 (ci 0) bf x63 bf x0 (ci 0) (ci 7) bf x317))))) .z) bt) .z) .e .e
theorem wn8_9_50:Wt p8 gs2 n8_9_50:=nt_of Z8 3000 100 p8 (by decide +kernel)
def n26_9_68:MT:=.n 750453 (.c (.c (.c (S 9 6 (d8 (ci 7) bf .sz bf .sz (ci 0) (ci 3) bf x325)) .z) (.t (d2 (.s [108,111,103,40,120,94,50,32,43,32,50,41,32,43,32,108,111,103,40,120,32,43,32,51,41]) (ci 0) .z))) .z) .e .e
theorem wn26_9_68:Wt p26 gs2 n26_9_68:=nt_of Z8 3000 100 p26 (by decide +kernel)
def n26_9_54:MT:=.n 372955 (.c (.c (.c (S 11 6 (d8 (ci 2) bf .sz bf .sz (ci 0) (ci 7) bf (d8 .sz bf .sz (ci 0) (ci 2) bf .sz bf (d8 .sz (ci 0) (ci 1) bf .sz bf .sz (ci 0) (d8 (ci 0) bf x5 bf x0 (ci 0) (ci 5) bf x314))))) .z) (.t (d2 (.s [45,108,111,103,40,120,94,50,32,43,32,49,41,32,43,32,108,111,103,40,120,41]) (ci 0) .z))) .z) (.n 313615 (.c (.c (.c (S 11 6 (d8 (ci 2) bf .sz bf .sz (ci 0) (ci 7) bf (d8 .sz bf .sz (ci 0) (ci 2) bf .sz bf (d8 .sz (ci 0) (ci 1) bf .sz bf .sz (ci 0) (d8 (ci 0) bf x60 bf x0 (ci 0) (ci 5) bf x316))))) .z) (.t (d2 (.s [45,108,111,103,40,120,94,50,32,43,32,50,41,32,43,32,108,111,103,40,120,32,43,32,50,41]) (ci 0) .z))) .z) .e .e) (.n 382989 (.c (.c (.c (S 10 6 (d8 (ci 2) bf .sz bf .sz (ci 0) (ci 7) bf (d8 .sz bf .sz (ci 0) (ci 2) bf .sz bf (d8 .sz (ci 0) (ci 1) bf .sz bf .sz (ci 0) (d8 (ci 0) bf x60 bf x0 (ci 0) (ci 7) bf x309))))) .z) (.t (d2 (.s [108,111,103,40,120,94,50,32,43,32,52,41,32,43,32,108,111,103,40,120,32,43,32,50,41]) (ci 0) .z))) .z) .e .e)
theorem wn26_9_54:Wt p26 gs2 n26_9_54:=nt_of Z8 3000 100 p26 (by decide +kernel)
def n8_9_32:MT:=.n 90231 (.c (.c (d2 (S 9 6 (d8 (ci 7) bf .sz bf .sz (ci 0) (ci 4) bf x330)) (S 11 6 (d8 (ci 2) bf .sz bf .sz (ci 0) (ci 7) bf (d8 .sz bf .sz (ci 0) (ci 2) bf .sz bf (d8 .sz (ci 0) (ci 1) bf .sz bf .sz (ci 0) (d8 (ci 0) bf x64 bf x0 (ci 0) (ci 5) bf x312))))) .z) bt) .z) .e .e
theorem wn8_9_32:Wt p8 gs2 n8_9_32:=nt_of Z8 3000 100 p8 (by decide +kernel)
def n8_9_29:MT:=.n 76707 (.c (.c (d2 (S 9 6 (d8 (ci 7) bf .sz bf .sz (ci 0) (ci 4) bf x332)) (S 11 6 (d8 (ci 2) bf .sz bf .sz (ci 0) (ci 7) bf (d8 .sz bf .sz (ci 0) (ci 2) bf .sz bf (d8 .sz (ci 0) (ci 1) bf .sz bf .sz (ci 0) (d8 (ci 0) bf x1 bf x0 (ci 0) (ci 5) bf x307))))) .z) bt) .z) .e .e
theorem wn8_9_29:Wt p8 gs2 n8_9_29:=nt_of Z8 3000 100 p8 (by decide +kernel)
def n8_9_37:MT:=.n 197455 (.c (.c (d2 (S 9 6 (d8 (ci 7) bf .sz bf .sz (ci 0) (ci 4) bf x322)) (S 11 6 (d8 (ci 2) bf .sz bf .sz (ci 0) (ci 7) bf (d8 .sz bf .sz (ci 0) (ci 2) bf .sz bf (d8 .sz (ci 0) (ci 1) bf .sz bf .sz (ci 0) (d8 (ci 0) bf x60 bf x0 (ci 0) (ci 5) bf x310))))) .z) bt) .z) .e .e
theorem wn8_9_37:Wt p8 gs2 n8_9_37:=nt_of Z8 3000 100 p8 (by decide +kernel)
def n8_9_36:MT:=.n 183931 (.c (.c (d2 (S 9 6 (d8 (ci 7) bf .sz bf .sz (ci 0) (ci 4) bf x325)) (S 11 6 (d8 (ci 2) bf .sz bf .sz (ci 0) (ci 7) bf (d8 .sz bf .sz (ci 0) (ci 2) bf .sz bf (d8 .sz (ci 0) (ci 1) bf .sz bf .sz (ci 0) (d8 (ci 0) bf x63 bf x0 (ci 0) (ci 5) bf x316))))) .z) bt) .z) .e .e
theorem wn8_9_36:Wt p8 gs2 n8_9_36:=nt_of Z8 3000 100 p8 (by decide +kernel)
def n8_9_55:MT:=.n 613130 (.c (.c (d2 (S 8 6 (d8 (ci 8) bf .sz bf .sz (ci 0) (ci 2) bf (d8 .sz bf .sz (ci 0) (ci 4) bf .sz bf (d8 .sz (ci 0) (ci 3) bf .sz bf .sz (ci 0) (d8 (ci 0) bf x1 bf x0 (ci 0) (ci 1) bf x269))))) x304 .z) bt) .z) .e .e
theorem wn8_9_55:Wt p8 gs2 n8_9_55:=nt_of Z8 3000 100 p8 (by decide +kernel)
def n8_9_51:MT:=.n 520425 (.c (.c (d2 (S 8 6 (d8 (ci 8) bf .sz bf .sz (ci 0) (ci 2) bf (d8 .sz bf .sz (ci 0) (ci 4) bf .sz bf (d8 .sz (ci 0) (ci 3) bf .sz bf .sz (ci 0) (d8 (ci 0) bf x64 bf x0 (ci 0) (ci 1) bf x265))))) x299 .z) bt) .z) .e .e
theorem wn8_9_51:Wt p8 gs2 n8_9_51:=nt_of Z8 3000 100 p8 (by decide +kernel)
def n8_9_57:MT:=.n 684111 (.c (.c (d2 (S 9 6 (d8 (ci 7) bf .sz bf .sz (ci 0) (ci 4) bf x308)) (S 11 6 (d8 (ci 2) bf .sz bf .sz (ci 0) (ci 7) bf (d8 .sz bf .sz (ci 0) (ci 2) bf .sz bf (d8 .sz (ci 0) (ci 1) bf .sz bf .sz (ci 0) (d8 (ci 0) bf x5 bf x0 (ci 0) (ci 5) bf x310))))) .z) bt) .z) .e .e
theorem wn8_9_57:Wt p8 gs2 n8_9_57:=nt_of Z8 3000 100 p8 (by decide +kernel)
def n8_9_68:MT:=.n 989474 (.c (.c (d2 (S 8 6 (d8 (ci 8) bf .sz bf .sz (ci 0) (ci 2) bf (d8 .sz bf .sz (ci 0) (ci 4) bf .sz bf (d8 .sz (ci 0) (ci 3) bf .sz bf .sz (ci 0) (d8 (ci 0) bf x63 bf x0 (ci 0) (ci 1) bf x269))))) x292 .z) bt) .z) .e .e
theorem wn8_9_68:Wt p8 gs2 n8_9_68:=nt_of Z8 3000 100 p8 (by decide +kernel)
def n8_9_45:MT:=.n 365815 (.c (.c (d2 (S 8 6 (d8 (ci 8) bf .sz bf .sz (ci 0) (ci 2) bf (d8 .sz bf .sz (ci 0) (ci 4) bf .sz bf (d8 .sz (ci 0) (ci 3) bf .sz bf .sz (ci 0) (d8 (ci 0) bf x0 bf x0 (ci 0) (ci 1) bf x269))))) x285 .z) bt) .z) .e .e
theorem wn8_9_45:Wt p8 gs2 n8_9_45:=nt_of Z8 3000 100 p8 (by decide +kernel)
def n26_9_61:MT:=.n 590492 (.c (.c (.c (S 11 6 (d8 (ci 2) bf .sz bf .sz (ci 0) (ci 7) bf (d8 .sz bf .sz (ci 0) (ci 2) bf .sz bf (d8 .sz (ci 0) (ci 1) bf .sz bf .sz (ci 0) (d8 (ci 0) bf x0 bf x0 (ci 0) (ci 5) bf x307))))) .z) (.t (d2 (.s [45,108,111,103,40,120,94,50,32,43,32,51,41,32,43,32,108,111,103,40,120,32,43,32,49,41]) (ci 0) .z))) .z) .e .e
theorem wn26_9_61:Wt p26 gs2 n26_9_61:=nt_of Z8 3000 100 p26 (by decide +kernel)
end
end Go.Am.Cd
