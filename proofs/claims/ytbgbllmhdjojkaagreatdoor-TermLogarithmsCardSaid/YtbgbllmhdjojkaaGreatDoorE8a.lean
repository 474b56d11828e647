import Derived.Test.YtbgbllmhdjojkaaGreatDoorE8x
set_option linter.all false
set_option maxRecDepth 1000000
namespace Go.Am.Cd
open Go Go.Proofs
noncomputable section
def n26_8_4:MT:=.n 200819 (.c (.c (.c x290 .z) (.t (d2 (.s [101,120,112,40,53,47,51,42,120,41]) (ci 0) .z))) .z) .e .e
theorem wn26_8_4:Wt p26 gs2 n26_8_4:=nt_of Z7 3000 100 p26 (by decide +kernel)
def n26_8_38:MT:=.n 809867 (.c (.c (.c x300 .z) (.t (d2 (.s [101,120,112,40,57,47,53,42,120,41]) (ci 0) .z))) .z) .e .e
theorem wn26_8_38:Wt p26 gs2 n26_8_38:=nt_of Z7 3000 100 p26 (by decide +kernel)
def n26_8_19:MT:=.n 505343 (.c (.c (.c x292 .z) (.t (d2 (.s [101,120,112,40,55,47,52,42,120,41]) (ci 0) .z))) .z) .e .e
theorem wn26_8_19:Wt p26 gs2 n26_8_19:=nt_of Z7 3000 100 p26 (by decide +kernel)
def n26_8_41:MT:=.n 897672 (.c (.c (.c x299 .z) (.t (d2 (.s [101,120,112,40,55,47,51,42,120,41]) (ci 0) .z))) .z) .e .e
theorem wn26_8_41:Wt p26 gs2 n26_8_41:=nt_of Z7 3000 100 p26 (by decide +kernel)
def n26_8_44:MT:=.n 994752 (.c (.c (.c (S 9 6 (d8 (ci 3) bf .sz bf .sz (ci 0) (ci 2) bf (d8 .sz bf .sz (ci 0) (ci 0) bf x5 bf x253))) .z) (.t (d2 (.s [45,40,50,42,108,111,103,40,120,32,43,32,49,41,41]) (ci 0) .z))) .z) (.n 985477 (.c (.c (.c (S 9 6 (d8 (ci 3) bf .sz bf .sz (ci 0) (ci 8) bf (d8 .sz bf .sz (ci 0) (ci 4) bf .sz bf (d8 .sz (ci 0) (ci 3) bf .sz bf .sz (ci 0) (d8 (ci 0) bf x64 bf x0 (ci 0) (ci 1) bf x248))))) .z) (.t (d2 (.s [101,120,112,40,53,42,120,41]) (ci 0) .z))) .z) .e .e) .e
theorem wn26_8_44:Wt p26 gs2 n26_8_44:=nt_of Z7 3000 100 p26 (by decide +kernel)
def n8_8_11:MT:=.n 363186 (.c (.c (d2 (S 5 6 (d8 (ci 7) bf .sz bf .sz (ci 0) (ci 6) bf (d8 .sz bf .sz (ci 3) (ci 2) bf .sz bf x267))) (S 9 6 (d8 (ci 3) bf .sz bf .sz (ci 0) (ci 2) bf (d8 .sz bf .sz (ci 0) (ci 0) bf x1 bf x268))) .z) bt) .z) .e .e
theorem wn8_8_11:Wt p8 gs2 n8_8_11:=nt_of Z7 3000 100 p8 (by decide +kernel)
def n26_8_37:MT:=.n 808493 (.c (.c (.c x285 .z) (.t (d2 (.s [101,120,112,40,53,47,52,42,120,41]) (ci 0) .z))) .z) .e .e
theorem wn26_8_37:Wt p26 gs2 n26_8_37:=nt_of Z7 3000 100 p26 (by decide +kernel)
def n180_8_9:MT:=.n 210849 (.c (.c (.c (K 4 4 (d8 bf x78 bf x3 bf x29 bf x3 x195)) .z) (S 1 4 (d4 bt x31 bf x11 .z))) .z) .e .e
theorem wn180_8_9:Wt p180 gsz n180_8_9:=nt_of Z7 3000 100 p180 (by decide +kernel)
def n8_8_5:MT:=.n 179794 (.c (.c (d2 (S 9 6 (d8 (ci 7) bf .sz bf .sz (ci 0) (ci 4) bf x254)) (S 11 6 (d8 (ci 2) bf .sz bf .sz (ci 0) (ci 7) bf (d8 .sz bf .sz (ci 0) (ci 2) bf .sz bf (d8 .sz (ci 0) (ci 1) bf .sz bf .sz (ci 0) (d8 (ci 0) bf x60 bf x0 (ci 0) (ci 5) bf x241))))) .z) bt) .z) .e .e
theorem wn8_8_5:Wt p8 gs2 n8_8_5:=nt_of Z7 3000 100 p8 (by decide +kernel)
def n8_8_25:MT:=.n 829303 (.c (.c (d2 (S 5 6 (d8 (ci 7) bf .sz bf .sz (ci 0) (ci 6) bf (d8 .sz bf .sz x242 (ci 2) bf .sz bf x267))) (S 9 6 (d8 (ci 3) bf .sz bf .sz (ci 0) (ci 2) bf (d8 .sz bf .sz (ci 0) (ci 0) bf x5 bf x268))) .z) bt) .z) .e .e
theorem wn8_8_25:Wt p8 gs2 n8_8_25:=nt_of Z7 3000 100 p8 (by decide +kernel)
def n8_8_16:MT:=.n 635429 (.c (.c (d2 (S 5 6 (d8 (ci 7) bf .sz bf .sz (ci 0) (ci 6) bf (d8 .sz bf .sz x8 (ci 2) bf .sz bf x272))) (S 9 6 (d8 (ci 3) bf .sz bf .sz (ci 0) (ci 2) bf (d8 .sz bf .sz (ci 0) (ci 0) bf x0 bf x273))) .z) bt) .z) (.n 634436 (.c (.c (d2 (S 5 6 (d8 (ci 7) bf .sz bf .sz (ci 0) (ci 6) bf (d8 .sz bf .sz x242 (ci 2) bf .sz bf x243))) (S 9 6 (d8 (ci 3) bf .sz bf .sz (ci 0) (ci 2) bf (d8 .sz bf .sz (ci 0) (ci 0) bf x5 bf x244))) .z) bt) .z) .e .e) .e
theorem wn8_8_16:Wt p8 gs2 n8_8_16:=nt_of Z7 3000 100 p8 (by decide +kernel)
def n26_8_14:MT:=.n 369758 (.c (.c (.c (S 9 6 (d8 (ci 7) bf .sz bf .sz (ci 0) (ci 3) bf x251)) .z) (.t (d2 (.s [108,111,103,40,120,32,43,32,49,41,32,43,32,50,42,108,111,103,40,120,41]) (ci 0) .z))) .z) .e .e
theorem wn26_8_14:Wt p26 gs2 n26_8_14:=nt_of Z7 3000 100 p26 (by decide +kernel)
def n13_8_6:MT:=.n 373418 (.c (.c (.c (S 8 6 (d8 (ci 8) bf .sz bf .sz (ci 0) (ci 2) bf (d8 .sz bf .sz (ci 0) (ci 4) bf .sz bf (d8 .sz (ci 0) (ci 3) bf .sz bf .sz (ci 0) (d8 (ci 0) bf x5 bf x0 (ci 0) (ci 1) bf x269))))) .z) (.t (d2 (.a (d2 (K 1 1 (d2 (ci 2) (S 1 8 x103) x274)) x229 x274)) (ci 0) .z))) .z) (.n 352394 (.c (.c (.c (S 9 6 (d8 (ci 3) bf .sz bf .sz (ci 0) (ci 8) bf (d8 .sz bf .sz (ci 0) (ci 4) bf .sz bf (d8 .sz (ci 0) (ci 3) bf .sz bf .sz (ci 0) (d8 (ci 0) bf x0 bf x0 (ci 0) (ci 1) bf x266))))) .z) (.t (d2 (.a (d2 (K 1 1 (d2 (ci 2) (S 1 8 (d8 (ci 1) (ci 0) (ci 0) (ci 0) bf x19 bf x13 .z)) x274)) x229 x274)) (ci 0) .z))) .z) .e .e) .e
theorem wn13_8_6:Wt p13 gs2 n13_8_6:=nt_of Z7 3000 100 p13 (by decide +kernel)
def n26_8_15:MT:=.n 382896 (.c (.c (.c (S 9 6 (d8 (ci 3) bf .sz bf .sz (ci 0) (ci 2) bf (d8 .sz bf .sz (ci 0) (ci 0) bf x5 bf x273))) .z) (.t (d2 (.s [45,40,50,42,108,111,103,40,120,32,43,32,53,41,41]) (ci 0) .z))) .z) (.n 372829 (.c (.c (.c (S 9 6 (d8 (ci 7) bf .sz bf .sz (ci 0) (ci 4) bf x297)) .z) (.t (d2 (.s [45,108,111,103,40,120,94,50,32,43,32,49,41,32,43,32,108,111,103,40,120,32,43,32,52,41]) (ci 0) .z))) .z) .e .e) .e
theorem wn26_8_15:Wt p26 gs2 n26_8_15:=nt_of Z7 3000 100 p26 (by decide +kernel)
def n8_8_7:MT:=.n 199889 (.c (.c (d2 (S 5 6 (d8 (ci 7) bf .sz bf .sz (ci 0) (ci 6) bf (d8 .sz bf .sz (ci 2) (ci 2) bf .sz bf x272))) (S 9 6 (d8 (ci 3) bf .sz bf .sz (ci 0) (ci 2) bf (d8 .sz bf .sz (ci 0) (ci 0) bf x64 bf x273))) .z) bt) .z) .e .e
theorem wn8_8_7:Wt p8 gs2 n8_8_7:=nt_of Z7 3000 100 p8 (by decide +kernel)
def n8_8_13:MT:=.n 577584 (.c (.c (d2 (S 5 6 (d8 (ci 7) bf .sz bf .sz (ci 0) (ci 6) bf (d8 .sz bf .sz (ci 2) (ci 2) bf .sz bf x267))) (S 9 6 (d8 (ci 3) bf .sz bf .sz (ci 0) (ci 2) bf (d8 .sz bf .sz (ci 0) (ci 0) bf x64 bf x268))) .z) bt) .z) .e .e
theorem wn8_8_13:Wt p8 gs2 n8_8_13:=nt_of Z7 3000 100 p8 (by decide +kernel)
def n16_8_2:MT:=.n 348107 (.c (.c (.c (.s [108,111,103,40,50,42,120,41]) .z) (ci 6)) .z) .e .e
theorem wn16_8_2:Wt p16 gs2 n16_8_2:=nt_of Z7 3000 100 p16 (by decide +kernel)
def n8_8_2:MT:=.n 146203 (.c (.c (d2 (S 5 6 (d8 (ci 7) bf .sz bf .sz (ci 0) (ci 6) bf (d8 .sz bf .sz x8 (ci 2) bf .sz bf x252))) (S 9 6 (d8 (ci 3) bf .sz bf .sz (ci 0) (ci 2) bf (d8 .sz bf .sz (ci 0) (ci 0) bf x0 bf x253))) .z) bt) .z) .e .e
theorem wn8_8_2:Wt p8 gs2 n8_8_2:=nt_of Z7 3000 100 p8 (by decide +kernel)
def n26_8_18:MT:=.n 473094 (.c (.c (.c (S 9 6 (d8 (ci 3) bf .sz bf .sz (ci 0) (ci 2) bf (d8 .sz bf .sz (ci 0) (ci 0) bf x63 bf x273))) .z) (.t (d2 (.s [108,111,103,40,120,32,43,32,53,41]) (ci 0) .z))) .z) .e .e
theorem wn26_8_18:Wt p26 gs2 n26_8_18:=nt_of Z7 3000 100 p26 (by decide +kernel)
end
end Go.Am.Cd
