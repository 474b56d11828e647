import Derived.Test.YtbgbllmhdjojkaaGreatDoorE8a
import Derived.Test.YtbgbllmhdjojkaaGreatDoorE8b
import Derived.Test.YtbgbllmhdjojkaaGreatDoorE8c
import Derived.Test.YtbgbllmhdjojkaaGreatDoorE8d
import Derived.Test.YtbgbllmhdjojkaaGreatDoorE8e
set_option linter.all false
set_option maxRecDepth 1000000
namespace Go.Am.Cd
open Go Go.Proofs
noncomputable section
def M8_8:MT:=.j n8_8_27 (.j n8_8_26 (.j n8_8_25 (.j n8_8_24 (.j n8_8_23 (.j n8_8_22 (.j n8_8_21 (.j n8_8_20 (.j n8_8_19 (.j n8_8_18 (.j n8_8_17 (.j n8_8_16 (.j n8_8_15 (.j n8_8_14 (.j n8_8_13 (.j n8_8_12 (.j n8_8_11 (.j n8_8_10 (.j n8_8_9 (.j n8_8_8 (.j n8_8_7 (.j n8_8_6 (.j n8_8_5 (.j n8_8_4 (.j n8_8_3 (.j n8_8_2 (.j n8_8_1 (.j n8_8_0 .e)))))))))))))))))))))))))))
def H8_8:FD:=.ms D8 M8_8 lo3 gs2 G8
theorem TH8_8:Q p8 H8_8:=ms_q hlo TG8 (by decide +kernel) (show MtAll _ M8_8 from (mJ wn8_8_27 (mJ wn8_8_26 (mJ wn8_8_25 (mJ wn8_8_24 (mJ wn8_8_23 (mJ wn8_8_22 (mJ wn8_8_21 (mJ wn8_8_20 (mJ wn8_8_19 (mJ wn8_8_18 (mJ wn8_8_17 (mJ wn8_8_16 (mJ wn8_8_15 (mJ wn8_8_14 (mJ wn8_8_13 (mJ wn8_8_12 (mJ wn8_8_11 (mJ wn8_8_10 (mJ wn8_8_9 (mJ wn8_8_8 (mJ wn8_8_7 (mJ wn8_8_6 (mJ wn8_8_5 (mJ wn8_8_4 (mJ wn8_8_3 (mJ wn8_8_2 (mJ wn8_8_1 (mJ wn8_8_0 mE)))))))))))))))))))))))))))))
def M13_8:MT:=.j n13_8_10 (.j n13_8_9 (.j n13_8_8 (.j n13_8_7 (.j n13_8_6 (.j n13_8_5 (.j n13_8_4 (.j n13_8_3 (.j n13_8_2 (.j n13_8_1 (.j n13_8_0 .e))))))))))
def H13_8:FD:=.ms D13 M13_8 lo3 gs2 G13
theorem TH13_8:Q p13 H13_8:=ms_q hlo TG13 (by decide +kernel) (show MtAll _ M13_8 from (mJ wn13_8_10 (mJ wn13_8_9 (mJ wn13_8_8 (mJ wn13_8_7 (mJ wn13_8_6 (mJ wn13_8_5 (mJ wn13_8_4 (mJ wn13_8_3 (mJ wn13_8_2 (mJ wn13_8_1 (mJ wn13_8_0 mE))))))))))))
def M14_8:MT:=.j n14_8_3 (.j n14_8_2 (.j n14_8_1 (.j n14_7_0 .e)))
def H14_8:FD:=.ms D14 M14_8 lo3 gs2 G14
theorem TH14_8:Q p14 H14_8:=ms_q hlo TG14 (by decide +kernel) (show MtAll _ M14_8 from (mJ wn14_8_3 (mJ wn14_8_2 (mJ wn14_8_1 (mJ wn14_7_0 mE)))))
def M16_8:MT:=.j n16_8_3 (.j n16_8_2 (.j n16_7_1 (.j n16_6_0 .e)))
def H16_8:FD:=.ms D16 M16_8 lo3 gs2 G16
theorem TH16_8:Q p16 H16_8:=ms_q hlo TG16 (by decide +kernel) (show MtAll _ M16_8 from (mJ wn16_8_3 (mJ wn16_8_2 (mJ wn16_7_1 (mJ wn16_6_0 mE)))))
def M26_8:MT:=.j n26_8_44 (.j n26_8_43 (.j n26_8_42 (.j n26_8_41 (.j n26_8_40 (.j n26_8_39 (.j n26_8_38 (.j n26_8_37 (.j n26_8_36 (.j n26_8_35 (.j n26_8_34 (.j n26_8_33 (.j n26_8_32 (.j n26_8_31 (.j n26_8_30 (.j n26_8_29 (.j n26_8_28 (.j n26_8_27 (.j n26_8_26 (.j n26_8_25 (.j n26_8_24 (.j n26_8_23 (.j n26_8_22 (.j n26_8_21 (.j n26_8_20 (.j n26_8_19 (.j n26_8_18 (.j n26_8_17 (.j n26_8_16 (.j n26_8_15 (.j n26_8_14 (.j n26_8_13 (.j n26_8_12 (.j n26_8_11 (.j n26_8_10 (.j n26_8_9 (.j n26_8_8 (.j n26_8_7 (.j n26_8_6 (.j n26_8_5 (.j n26_8_4 (.j n26_8_3 (.j n26_8_2 (.j n26_8_1 (.j n26_8_0 .e))))))))))))))))))))))))))))))))))))))))))))
def H26_8:FD:=.ms D26 M26_8 lo3 gs2 G26
theorem TH26_8:Q p26 H26_8:=ms_q hlo TG26 (by decide +kernel) (show MtAll _ M26_8 from (mJ wn26_8_44 (mJ wn26_8_43 (mJ wn26_8_42 (mJ wn26_8_41 (mJ wn26_8_40 (mJ wn26_8_39 (mJ wn26_8_38 (mJ wn26_8_37 (mJ wn26_8_36 (mJ wn26_8_35 (mJ wn26_8_34 (mJ wn26_8_33 (mJ wn26_8_32 (mJ wn26_8_31 (mJ wn26_8_30 (mJ wn26_8_29 (mJ wn26_8_28 (mJ wn26_8_27 (mJ wn26_8_26 (mJ wn26_8_25 (mJ wn26_8_24 (mJ wn26_8_23 (mJ wn26_8_22 (mJ wn26_8_21 (mJ wn26_8_20 (mJ wn26_8_19 (mJ wn26_8_18 (mJ wn26_8_17 (mJ wn26_8_16 (mJ wn26_8_15 (mJ wn26_8_14 (mJ wn26_8_13 (mJ wn26_8_12 (mJ wn26_8_11 (mJ wn26_8_10 (mJ wn26_8_9 (mJ wn26_8_8 (mJ wn26_8_7 (mJ wn26_8_6 (mJ wn26_8_5 (mJ wn26_8_4 (mJ wn26_8_3 (mJ wn26_8_2 (mJ wn26_8_1 (mJ wn26_8_0 mE))))))))))))))))))))))))))))))))))))))))))))))
def M72_8:MT:=.j n72_8_1 (.j n72_7_0 .e)
def H72_8:FD:=.ms D72 M72_8 lo3 gsz G72
theorem TH72_8:Q p72 H72_8:=ms_q hlo TG72 (by decide +kernel) (show MtAll _ M72_8 from (mJ wn72_8_1 (mJ wn72_7_0 mE)))
def M180_8:MT:=.j n180_8_11 (.j n180_8_10 (.j n180_8_9 (.j n180_7_8 (.j n180_7_7 (.j n180_7_6 (.j n180_7_5 (.j n180_6_4 (.j n180_6_3 (.j n180_6_2 (.j n180_6_1 (.j n180_5_0 .e)))))))))))
def H180_8:FD:=.ms D180 M180_8 lo3 gsz G180
theorem TH180_8:Q p180 H180_8:=ms_q hlo TG180 (by decide +kernel) (show MtAll _ M180_8 from (mJ wn180_8_11 (mJ wn180_8_10 (mJ wn180_8_9 (mJ wn180_7_8 (mJ wn180_7_7 (mJ wn180_7_6 (mJ wn180_7_5 (mJ wn180_6_4 (mJ wn180_6_3 (mJ wn180_6_2 (mJ wn180_6_1 (mJ wn180_5_0 mE)))))))))))))
def U8_244:PT FD:=.n (.n U1_89 (.sh G9) U5_193) (.sh G5) (.n U3_146 H13_8 U6_216)
theorem V8_244:tabAll (fun p=>Q (.o (.i p))) U8_244:=(tN (tN V1_89 (sh_q TG9) V5_193) (sh_q TG5) (tN V3_146 TH13_8 V6_216))
def U8_245:PT FD:=.n (.n U0_40 H32_1 U0_41) H16_8 (.n U0_42 H48_4 (.n .e (.sh G112) (.n .e (.sh G240) .e)))
theorem V8_245:tabAll (fun p=>Q (.i (.o (.o (.o p))))) U8_245:=(tN (tN V0_40 TH32_1 V0_41) TH16_8 (tN V0_42 TH48_4 (tN tE (sh_q TG112) (tN tE (sh_q TG240) tE))))
def U8_246:PT FD:=.n (.n (.n .e H264_7 .e) (.sh G136) .e) H72_8 (.n .e (.sh G200) .e)
theorem V8_246:tabAll (fun p=>Q (.i (.o (.o (.i (.o (.o p))))))) U8_246:=(tN (tN (tN tE TH264_7 tE) (sh_q TG136) tE) TH72_8 (tN tE (sh_q TG200) tE))
def U8_247:PT FD:=.n (.n U8_246 (.sh G40) U6_220) H24_4 (.n U0_46 H56_5 U3_150)
theorem V8_247:tabAll (fun p=>Q (.i (.o (.o (.i p))))) U8_247:=(tN (tN V8_246 (sh_q TG40) V6_220) TH24_4 (tN V0_46 TH56_5 V3_150))
def U8_248:PT FD:=.n (.n (.n .e H308_1 .e) H180_8 .e) (.sh G116) .e
theorem V8_248:tabAll (fun p=>Q (.i (.o (.i (.o (.i (.i p))))))) U8_248:=(tN (tN (tN tE TH308_1 tE) TH180_8 tE) (sh_q TG116) tE)
def U8_249:PT FD:=.n (.n U0_49 (.sh G36) U2_123) (.sh G20) (.n U4_171 (.sh G52) U8_248)
theorem V8_249:tabAll (fun p=>Q (.i (.o (.i (.o p))))) U8_249:=(tN (tN V0_49 (sh_q TG36) V2_123) (sh_q TG20) (tN V4_171 (sh_q TG52) V8_248))
def U8_250:PT FD:=.n (.n U8_245 H8_8 U8_247) (.sh G4) (.n U8_249 H12_2 U7_237)
theorem V8_250:tabAll (fun p=>Q (.i (.o p))) U8_250:=(tN (tN V8_245 TH8_8 V8_247) (sh_q TG4) (tN V8_249 TH12_2 V7_237))
def U8_251:PT FD:=.n (.n U0_65 (.sh G42) U4_179) H26_8 (.n U0_67 (.sh G58) U0_68)
theorem V8_251:tabAll (fun p=>Q (.i (.i (.o (.i p))))) U8_251:=(tN (tN V0_65 (sh_q TG42) V4_179) TH26_8 (tN V0_67 (sh_q TG58) V0_68))
def U8_252:PT FD:=.n (.n U7_240 (.sh G10) U8_251) H6_2 (.n U7_242 H14_8 U4_181)
theorem V8_252:tabAll (fun p=>Q (.i (.i p))) U8_252:=(tN (tN V7_240 (sh_q TG10) V8_251) TH6_2 (tN V7_242 TH14_8 V4_181))
def TAB8:PT FD:=.n (.n U7_230 .no U8_244) .no (.n U8_250 .no U8_252)
theorem Z8:TabOK PR NG TAB8:=tab_ok (show tabAll Q TAB8 from (tN (tN V7_230 tNo V8_244) tNo (tN V8_250 tNo V8_252)))
end
end Go.Am.Cd
