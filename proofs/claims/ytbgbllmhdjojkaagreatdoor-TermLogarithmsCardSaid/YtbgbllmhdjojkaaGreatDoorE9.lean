import Derived.Test.YtbgbllmhdjojkaaGreatDoorE9a
import Derived.Test.YtbgbllmhdjojkaaGreatDoorE9b
import Derived.Test.YtbgbllmhdjojkaaGreatDoorE9c
import Derived.Test.YtbgbllmhdjojkaaGreatDoorE9d
set_option linter.all false
set_option maxRecDepth 1000000
namespace Go.Am.Cd
open Go Go.Proofs
noncomputable section
def M8_9:MT:=.j n8_9_68 (.j n8_9_67 (.j n8_9_66 (.j n8_9_65 (.j n8_9_64 (.j n8_9_63 (.j n8_9_62 (.j n8_9_61 (.j n8_9_60 (.j n8_9_59 (.j n8_9_58 (.j n8_9_57 (.j n8_9_56 (.j n8_9_55 (.j n8_9_54 (.j n8_9_53 (.j n8_9_52 (.j n8_9_51 (.j n8_9_50 (.j n8_9_49 (.j n8_9_48 (.j n8_9_47 (.j n8_9_46 (.j n8_9_45 (.j n8_9_44 (.j n8_9_43 (.j n8_9_42 (.j n8_9_41 (.j n8_9_40 (.j n8_9_39 (.j n8_9_38 (.j n8_9_37 (.j n8_9_36 (.j n8_9_35 (.j n8_9_34 (.j n8_9_33 (.j n8_9_32 (.j n8_9_31 (.j n8_9_30 (.j n8_9_29 (.j n8_9_28 (.j n8_8_27 (.j n8_8_26 (.j n8_8_25 (.j n8_8_24 (.j n8_8_23 (.j n8_8_22 (.j n8_8_21 (.j n8_8_20 (.j n8_8_19 (.j n8_8_18 (.j n8_8_17 (.j n8_8_16 (.j n8_8_15 (.j n8_8_14 (.j n8_8_13 (.j n8_8_12 (.j n8_8_11 (.j n8_8_10 (.j n8_8_9 (.j n8_8_8 (.j n8_8_7 (.j n8_8_6 (.j n8_8_5 (.j n8_8_4 (.j n8_8_3 (.j n8_8_2 (.j n8_8_1 (.j n8_8_0 .e))))))))))))))))))))))))))))))))))))))))))))))))))))))))))))))))))))
def H8_9:FD:=.ms D8 M8_9 lo3 gs2 G8
theorem TH8_9:Q p8 H8_9:=ms_q hlo TG8 (by decide +kernel) (show MtAll _ M8_9 from (mJ wn8_9_68 (mJ wn8_9_67 (mJ wn8_9_66 (mJ wn8_9_65 (mJ wn8_9_64 (mJ wn8_9_63 (mJ wn8_9_62 (mJ wn8_9_61 (mJ wn8_9_60 (mJ wn8_9_59 (mJ wn8_9_58 (mJ wn8_9_57 (mJ wn8_9_56 (mJ wn8_9_55 (mJ wn8_9_54 (mJ wn8_9_53 (mJ wn8_9_52 (mJ wn8_9_51 (mJ wn8_9_50 (mJ wn8_9_49 (mJ wn8_9_48 (mJ wn8_9_47 (mJ wn8_9_46 (mJ wn8_9_45 (mJ wn8_9_44 (mJ wn8_9_43 (mJ wn8_9_42 (mJ wn8_9_41 (mJ wn8_9_40 (mJ wn8_9_39 (mJ wn8_9_38 (mJ wn8_9_37 (mJ wn8_9_36 (mJ wn8_9_35 (mJ wn8_9_34 (mJ wn8_9_33 (mJ wn8_9_32 (mJ wn8_9_31 (mJ wn8_9_30 (mJ wn8_9_29 (mJ wn8_9_28 (mJ wn8_8_27 (mJ wn8_8_26 (mJ wn8_8_25 (mJ wn8_8_24 (mJ wn8_8_23 (mJ wn8_8_22 (mJ wn8_8_21 (mJ wn8_8_20 (mJ wn8_8_19 (mJ wn8_8_18 (mJ wn8_8_17 (mJ wn8_8_16 (mJ wn8_8_15 (mJ wn8_8_14 (mJ wn8_8_13 (mJ wn8_8_12 (mJ wn8_8_11 (mJ wn8_8_10 (mJ wn8_8_9 (mJ wn8_8_8 (mJ wn8_8_7 (mJ wn8_8_6 (mJ wn8_8_5 (mJ wn8_8_4 (mJ wn8_8_3 (mJ wn8_8_2 (mJ wn8_8_1 (mJ wn8_8_0 mE))))))))))))))))))))))))))))))))))))))))))))))))))))))))))))))))))))))
def M13_9:MT:=.j n13_9_12 (.j n13_9_11 (.j n13_8_10 (.j n13_8_9 (.j n13_8_8 (.j n13_8_7 (.j n13_8_6 (.j n13_8_5 (.j n13_8_4 (.j n13_8_3 (.j n13_8_2 (.j n13_8_1 (.j n13_8_0 .e))))))))))))
def H13_9:FD:=.ms D13 M13_9 lo3 gs2 G13
theorem TH13_9:Q p13 H13_9:=ms_q hlo TG13 (by decide +kernel) (show MtAll _ M13_9 from (mJ wn13_9_12 (mJ wn13_9_11 (mJ wn13_8_10 (mJ wn13_8_9 (mJ wn13_8_8 (mJ wn13_8_7 (mJ wn13_8_6 (mJ wn13_8_5 (mJ wn13_8_4 (mJ wn13_8_3 (mJ wn13_8_2 (mJ wn13_8_1 (mJ wn13_8_0 mE))))))))))))))
def M14_9:MT:=.j n14_9_5 (.j n14_9_4 (.j n14_8_3 (.j n14_8_2 (.j n14_8_1 (.j n14_7_0 .e)))))
def H14_9:FD:=.ms D14 M14_9 lo3 gs2 G14
theorem TH14_9:Q p14 H14_9:=ms_q hlo TG14 (by decide +kernel) (show MtAll _ M14_9 from (mJ wn14_9_5 (mJ wn14_9_4 (mJ wn14_8_3 (mJ wn14_8_2 (mJ wn14_8_1 (mJ wn14_7_0 mE)))))))
def M26_9:MT:=.j n26_9_71 (.j n26_9_70 (.j n26_9_69 (.j n26_9_68 (.j n26_9_67 (.j n26_9_66 (.j n26_9_65 (.j n26_9_64 (.j n26_9_63 (.j n26_9_62 (.j n26_9_61 (.j n26_9_60 (.j n26_9_59 (.j n26_9_58 (.j n26_9_57 (.j n26_9_56 (.j n26_9_55 (.j n26_9_54 (.j n26_9_53 (.j n26_9_52 (.j n26_9_51 (.j n26_9_50 (.j n26_9_49 (.j n26_9_48 (.j n26_9_47 (.j n26_9_46 (.j n26_9_45 (.j n26_8_44 (.j n26_8_43 (.j n26_8_42 (.j n26_8_41 (.j n26_8_40 (.j n26_8_39 (.j n26_8_38 (.j n26_8_37 (.j n26_8_36 (.j n26_8_35 (.j n26_8_34 (.j n26_8_33 (.j n26_8_32 (.j n26_8_31 (.j n26_8_30 (.j n26_8_29 (.j n26_8_28 (.j n26_8_27 (.j n26_8_26 (.j n26_8_25 (.j n26_8_24 (.j n26_8_23 (.j n26_8_22 (.j n26_8_21 (.j n26_8_20 (.j n26_8_19 (.j n26_8_18 (.j n26_8_17 (.j n26_8_16 (.j n26_8_15 (.j n26_8_14 (.j n26_8_13 (.j n26_8_12 (.j n26_8_11 (.j n26_8_10 (.j n26_8_9 (.j n26_8_8 (.j n26_8_7 (.j n26_8_6 (.j n26_8_5 (.j n26_8_4 (.j n26_8_3 (.j n26_8_2 (.j n26_8_1 (.j n26_8_0 .e)))))))))))))))))))))))))))))))))))))))))))))))))))))))))))))))))))))))
def H26_9:FD:=.ms D26 M26_9 lo3 gs2 G26
theorem TH26_9:Q p26 H26_9:=ms_q hlo TG26 (by decide +kernel) (show MtAll _ M26_9 from (mJ wn26_9_71 (mJ wn26_9_70 (mJ wn26_9_69 (mJ wn26_9_68 (mJ wn26_9_67 (mJ wn26_9_66 (mJ wn26_9_65 (mJ wn26_9_64 (mJ wn26_9_63 (mJ wn26_9_62 (mJ wn26_9_61 (mJ wn26_9_60 (mJ wn26_9_59 (mJ wn26_9_58 (mJ wn26_9_57 (mJ wn26_9_56 (mJ wn26_9_55 (mJ wn26_9_54 (mJ wn26_9_53 (mJ wn26_9_52 (mJ wn26_9_51 (mJ wn26_9_50 (mJ wn26_9_49 (mJ wn26_9_48 (mJ wn26_9_47 (mJ wn26_9_46 (mJ wn26_9_45 (mJ wn26_8_44 (mJ wn26_8_43 (mJ wn26_8_42 (mJ wn26_8_41 (mJ wn26_8_40 (mJ wn26_8_39 (mJ wn26_8_38 (mJ wn26_8_37 (mJ wn26_8_36 (mJ wn26_8_35 (mJ wn26_8_34 (mJ wn26_8_33 (mJ wn26_8_32 (mJ wn26_8_31 (mJ wn26_8_30 (mJ wn26_8_29 (mJ wn26_8_28 (mJ wn26_8_27 (mJ wn26_8_26 (mJ wn26_8_25 (mJ wn26_8_24 (mJ wn26_8_23 (mJ wn26_8_22 (mJ wn26_8_21 (mJ wn26_8_20 (mJ wn26_8_19 (mJ wn26_8_18 (mJ wn26_8_17 (mJ wn26_8_16 (mJ wn26_8_15 (mJ wn26_8_14 (mJ wn26_8_13 (mJ wn26_8_12 (mJ wn26_8_11 (mJ wn26_8_10 (mJ wn26_8_9 (mJ wn26_8_8 (mJ wn26_8_7 (mJ wn26_8_6 (mJ wn26_8_5 (mJ wn26_8_4 (mJ wn26_8_3 (mJ wn26_8_2 (mJ wn26_8_1 (mJ wn26_8_0 mE)))))))))))))))))))))))))))))))))))))))))))))))))))))))))))))))))))))))))
def U9_253:PT FD:=.n (.n U1_89 (.sh G9) U5_193) (.sh G5) (.n U3_146 H13_9 U6_216)
theorem V9_253:tabAll (fun p=>Q (.o (.i p))) U9_253:=(tN (tN V1_89 (sh_q TG9) V5_193) (sh_q TG5) (tN V3_146 TH13_9 V6_216))
def U9_254:PT FD:=.n (.n U8_245 H8_9 U8_247) (.sh G4) (.n U8_249 H12_2 U7_237)
theorem V9_254:tabAll (fun p=>Q (.i (.o p))) U9_254:=(tN (tN V8_245 TH8_9 V8_247) (sh_q TG4) (tN V8_249 TH12_2 V7_237))
def U9_255:PT FD:=.n (.n U0_65 (.sh G42) U4_179) H26_9 (.n U0_67 (.sh G58) U0_68)
theorem V9_255:tabAll (fun p=>Q (.i (.i (.o (.i p))))) U9_255:=(tN (tN V0_65 (sh_q TG42) V4_179) TH26_9 (tN V0_67 (sh_q TG58) V0_68))
def U9_256:PT FD:=.n (.n U7_240 (.sh G10) U9_255) H6_2 (.n U7_242 H14_9 U4_181)
theorem V9_256:tabAll (fun p=>Q (.i (.i p))) U9_256:=(tN (tN V7_240 (sh_q TG10) V9_255) TH6_2 (tN V7_242 TH14_9 V4_181))
def TAB9:PT FD:=.n (.n U7_230 .no U9_253) .no (.n U9_254 .no U9_256)
theorem Z9:TabOK PR NG TAB9:=tab_ok (show tabAll Q TAB9 from (tN (tN V7_230 tNo V9_253) tNo (tN V9_254 tNo V9_256)))
end
end Go.Am.Cd
