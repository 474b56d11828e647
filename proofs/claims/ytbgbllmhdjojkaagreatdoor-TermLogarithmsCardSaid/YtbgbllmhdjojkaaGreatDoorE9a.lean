import Derived.Test.YtbgbllmhdjojkaaGreatDoorE9x
set_option linter.all false
set_option maxRecDepth 1000000
namespace Go.Am.Cd
open Go Go.Proofs
noncomputable section
def n8_9_33:MT:=.n 96859 (.c (.c (d2 (S 9 6 (d8 (ci 7) bf .sz bf .sz (ci 0) (ci 3) bf x318)) (S 10 6 (d8 (ci 2) bf .sz bf .sz (ci 0) (ci 7) bf (d8 .sz bf .sz (ci 0) (ci 2) bf .sz bf (d8 .sz (ci 0) (ci 1) bf .sz bf .sz (ci 0) (d8 (ci 0) bf x0 bf x0 (ci 0) (ci 7) bf x319))))) .z) bt) .z) .e .e
theorem wn8_9_33:Wt p8 gs2 n8_9_33:=nt_of Z8 3000 100 p8 (by decide +kernel)
def n26_9_58:MT:=.n 445914 (.c (.c (.c x341 .z) (.t (d2 (.s [108,111,103,40,120,94,50,32,43,32,51,41,32,43,32,108,111,103,40,120,32,43,32,52,41]) (ci 0) .z))) .z) .e .e
theorem wn26_9_58:Wt p26 gs2 n26_9_58:=nt_of Z8 3000 100 p26 (by decide +kernel)
def n14_9_5:MT:=.n 783636 (.c (.c (.c (.s [108,111,103,40,120,94,50,32,43,32,120,41,32,45,32,108,111,103,40,120,41]) .z) (.s [108,111,103,40,120,32,43,32,49,41])) .z) .e .e
theorem wn14_9_5:Wt p14 gs2 n14_9_5:=nt_of Z8 3000 100 p14 (by decide +kernel)
def n8_9_52:MT:=.n 522279 (.c (.c (d2 (S 9 6 (d8 (ci 7) bf .sz bf .sz (ci 0) (ci 3) bf x297)) (S 10 6 (d8 (ci 2) bf .sz bf .sz (ci 0) (ci 7) bf (d8 .sz bf .sz (ci 0) (ci 2) bf .sz bf (d8 .sz (ci 0) (ci 1) bf .sz bf .sz (ci 0) (d8 (ci 0) bf x64 bf x0 (ci 0) (ci 7) bf x320))))) .z) bt) .z) .e .e
theorem wn8_9_52:Wt p8 gs2 n8_9_52:=nt_of Z8 3000 100 p8 (by decide +kernel)
def n26_9_67:MT:=.n 749064 (.c (.c (.c x337 .z) (.t (d2 (.s [108,111,103,40,120,94,50,32,43,32,51,41,32,43,32,108,111,103,40,120,32,43,32,50,41]) (ci 0) .z))) .z) .e .e
theorem wn26_9_67:Wt p26 gs2 n26_9_67:=nt_of Z8 3000 100 p26 (by decide +kernel)
def n26_9_51:MT:=.n 291561 (.c (.c (.c x339 .z) (.t (d2 (.s [108,111,103,40,120,94,50,32,43,32,53,41,32,43,32,108,111,103,40,120,32,43,32,51,41]) (ci 0) .z))) .z) .e .e
theorem wn26_9_51:Wt p26 gs2 n26_9_51:=nt_of Z8 3000 100 p26 (by decide +kernel)
def n8_9_35:MT:=.n 174881 (.c (.c (d2 (S 8 6 (d8 (ci 8) bf .sz bf .sz (ci 0) (ci 2) bf (d8 .sz bf .sz (ci 0) (ci 4) bf .sz bf (d8 .sz (ci 0) (ci 3) bf .sz bf .sz (ci 0) (d8 (ci 0) bf x1 bf x0 (ci 0) (ci 1) bf x259))))) x278 .z) bt) .z) .e .e
theorem wn8_9_35:Wt p8 gs2 n8_9_35:=nt_of Z8 3000 100 p8 (by decide +kernel)
def n26_9_60:MT:=.n 466579 (.c (.c (.c (S 11 6 (d8 (ci 2) bf .sz bf .sz (ci 0) (ci 7) bf (d8 .sz bf .sz (ci 0) (ci 2) bf .sz bf (d8 .sz (ci 0) (ci 1) bf .sz bf .sz (ci 0) (d8 (ci 0) bf x60 bf x0 (ci 0) (ci 5) bf x314))))) .z) (.t (d2 (.s [45,108,111,103,40,120,94,50,32,43,32,49,41,32,43,32,108,111,103,40,120,32,43,32,50,41]) (ci 0) .z))) .z) (.n 453936 (.c (.c (.c (S 11 6 (d8 (ci 2) bf .sz bf .sz (ci 0) (ci 7) bf (d8 .sz bf .sz (ci 0) (ci 2) bf .sz bf (d8 .sz (ci 0) (ci 1) bf .sz bf .sz (ci 0) (d8 (ci 0) bf x64 bf x0 (ci 0) (ci 5) bf x316))))) .z) (.t (d2 (.s [45,108,111,103,40,120,94,50,32,43,32,50,41,32,43,32,108,111,103,40,120,32,43,32,52,41]) (ci 0) .z))) .z) .e .e) (.n 578936 (.c (.c (.c (S 10 6 (d8 (ci 2) bf .sz bf .sz (ci 0) (ci 7) bf (d8 .sz bf .sz (ci 0) (ci 2) bf .sz bf (d8 .sz (ci 0) (ci 1) bf .sz bf .sz (ci 0) (d8 (ci 0) bf x5 bf x0 (ci 0) (ci 7) bf x317))))) .z) (.t (d2 (.s [108,111,103,40,120,94,50,32,43,32,51,41,32,43,32,108,111,103,40,120,41]) (ci 0) .z))) .z) .e .e)
theorem wn26_9_60:Wt p26 gs2 n26_9_60:=nt_of Z8 3000 100 p26 (by decide +kernel)
def n8_9_42:MT:=.n 322302 (.c (.c (d2 (S 9 6 (d8 (ci 7) bf .sz bf .sz (ci 0) (ci 4) bf x328)) (S 11 6 (d8 (ci 2) bf .sz bf .sz (ci 0) (ci 7) bf (d8 .sz bf .sz (ci 0) (ci 2) bf .sz bf (d8 .sz (ci 0) (ci 1) bf .sz bf .sz (ci 0) (d8 (ci 0) bf x64 bf x0 (ci 0) (ci 5) bf x307))))) .z) bt) .z) .e .e
theorem wn8_9_42:Wt p8 gs2 n8_9_42:=nt_of Z8 3000 100 p8 (by decide +kernel)
def n8_9_54:MT:=.n 581421 (.c (.c (d2 (S 9 6 (d8 (ci 7) bf .sz bf .sz (ci 0) (ci 4) bf x323)) (S 11 6 (d8 (ci 2) bf .sz bf .sz (ci 0) (ci 7) bf (d8 .sz bf .sz (ci 0) (ci 2) bf .sz bf (d8 .sz (ci 0) (ci 1) bf .sz bf .sz (ci 0) (d8 (ci 0) bf x60 bf x0 (ci 0) (ci 5) bf x312))))) .z) bt) .z) .e .e
theorem wn8_9_54:Wt p8 gs2 n8_9_54:=nt_of Z8 3000 100 p8 (by decide +kernel)
def n8_9_62:MT:=.n 813492 (.c (.c (d2 (S 9 6 (d8 (ci 7) bf .sz bf .sz (ci 0) (ci 4) bf x321)) (S 11 6 (d8 (ci 2) bf .sz bf .sz (ci 0) (ci 7) bf (d8 .sz bf .sz (ci 0) (ci 2) bf .sz bf (d8 .sz (ci 0) (ci 1) bf .sz bf .sz (ci 0) (d8 (ci 0) bf x60 bf x0 (ci 0) (ci 5) bf x307))))) .z) bt) .z) .e .e
theorem wn8_9_62:Wt p8 gs2 n8_9_62:=nt_of Z8 3000 100 p8 (by decide +kernel)
def n8_9_63:MT:=.n 827016 (.c (.c (d2 (S 9 6 (d8 (ci 7) bf .sz bf .sz (ci 0) (ci 4) bf x318)) (S 11 6 (d8 (ci 2) bf .sz bf .sz (ci 0) (ci 7) bf (d8 .sz bf .sz (ci 0) (ci 2) bf .sz bf (d8 .sz (ci 0) (ci 1) bf .sz bf .sz (ci 0) (d8 (ci 0) bf x0 bf x0 (ci 0) (ci 5) bf x312))))) .z) bt) .z) .e .e
theorem wn8_9_63:Wt p8 gs2 n8_9_63:=nt_of Z8 3000 100 p8 (by decide +kernel)
def n8_9_56:MT:=.n 675121 (.c (.c (d2 (S 9 6 (d8 (ci 7) bf .sz bf .sz (ci 0) (ci 4) bf x315)) (S 11 6 (d8 (ci 2) bf .sz bf .sz (ci 0) (ci 7) bf (d8 .sz bf .sz (ci 0) (ci 2) bf .sz bf (d8 .sz (ci 0) (ci 1) bf .sz bf .sz (ci 0) (d8 (ci 0) bf x0 bf x0 (ci 0) (ci 5) bf x316))))) .z) bt) .z) .e .e
theorem wn8_9_56:Wt p8 gs2 n8_9_56:=nt_of Z8 3000 100 p8 (by decide +kernel)
def n8_9_43:MT:=.n 332253 (.c (.c (d2 (S 8 6 (d8 (ci 8) bf .sz bf .sz (ci 0) (ci 2) bf (d8 .sz bf .sz (ci 0) (ci 4) bf .sz bf (d8 .sz (ci 0) (ci 3) bf .sz bf .sz (ci 0) (d8 (ci 0) bf x1 bf x0 (ci 0) (ci 1) bf x265))))) x303 .z) bt) .z) .e .e
theorem wn8_9_43:Wt p8 gs2 n8_9_43:=nt_of Z8 3000 100 p8 (by decide +kernel)
def n8_9_65:MT:=.n 884271 (.c (.c (d2 (S 9 6 (d8 (ci 7) bf .sz bf .sz (ci 0) (ci 4) bf x306)) (S 11 6 (d8 (ci 2) bf .sz bf .sz (ci 0) (ci 7) bf (d8 .sz bf .sz (ci 0) (ci 2) bf .sz bf (d8 .sz (ci 0) (ci 1) bf .sz bf .sz (ci 0) (d8 (ci 0) bf x5 bf x0 (ci 0) (ci 5) bf x307))))) .z) bt) .z) .e .e
theorem wn8_9_65:Wt p8 gs2 n8_9_65:=nt_of Z8 3000 100 p8 (by decide +kernel)
def n8_9_44:MT:=.n 363053 (.c (.c (d2 (S 8 6 (d8 (ci 8) bf .sz bf .sz (ci 0) (ci 2) bf (d8 .sz bf .sz (ci 0) (ci 4) bf .sz bf (d8 .sz (ci 0) (ci 3) bf .sz bf .sz (ci 0) (d8 (ci 0) bf x64 bf x0 (ci 0) (ci 1) bf x259))))) x276 .z) bt) .z) .e .e
theorem wn8_9_44:Wt p8 gs2 n8_9_44:=nt_of Z8 3000 100 p8 (by decide +kernel)
def n26_9_70:MT:=.n 963207 (.c (.c (.c (S 10 6 (d8 (ci 2) bf .sz bf .sz (ci 0) (ci 7) bf (d8 .sz bf .sz (ci 0) (ci 2) bf .sz bf (d8 .sz (ci 0) (ci 1) bf .sz bf .sz (ci 0) (d8 (ci 0) bf x63 bf x0 (ci 0) (ci 7) bf x320))))) .z) (.t (d2 (.s [108,111,103,40,120,94,50,32,43,32,49,41,32,43,32,108,111,103,40,120,32,43,32,51,41]) (ci 0) .z))) .z) (.n 920438 (.c (.c (.c (S 9 6 (d8 (ci 7) bf .sz bf .sz (ci 0) (ci 3) bf x306)) .z) (.t (d2 (.s [108,111,103,40,120,94,50,32,43,32,51,41,32,43,32,108,111,103,40,120,41]) (ci 0) .z))) .z) .e .e) .e
theorem wn26_9_70:Wt p26 gs2 n26_9_70:=nt_of Z8 3000 100 p26 (by decide +kernel)
def n26_9_66:MT:=.n 688917 (.c (.c (.c (S 10 6 (d8 (ci 2) bf .sz bf .sz (ci 0) (ci 7) bf (d8 .sz bf .sz (ci 0) (ci 2) bf .sz bf (d8 .sz (ci 0) (ci 1) bf .sz bf .sz (ci 0) (d8 (ci 0) bf x60 bf x0 (ci 0) (ci 7) bf x305))))) .z) (.t (d2 (.s [108,111,103,40,120,94,50,32,43,32,50,41,32,43,32,108,111,103,40,120,32,43,32,50,41]) (ci 0) .z))) .z) .e .e
theorem wn26_9_66:Wt p26 gs2 n26_9_66:=nt_of Z8 3000 100 p26 (by decide +kernel)
end
end Go.Am.Cd
