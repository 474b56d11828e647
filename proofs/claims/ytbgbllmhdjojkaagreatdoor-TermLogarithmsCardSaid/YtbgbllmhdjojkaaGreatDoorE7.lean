import Derived.Test.YtbgbllmhdjojkaaGreatDoorE7a
import Derived.Test.YtbgbllmhdjojkaaGreatDoorE7b
set_option linter.all false
set_option maxRecDepth 1000000
namespace Go.Am.Cd
open Go Go.Proofs
noncomputable section
def M14_7:MT:=.j n14_7_0 .e
def H14_7:FD:=.ms D14 M14_7 lo3 gs2 G14
theorem TH14_7:Q p14 H14_7:=ms_q hlo TG14 (by decide +kernel) (show MtAll _ M14_7 from (mJ wn14_7_0 mE))
def M16_7:MT:=.j n16_7_1 (.j n16_6_0 .e)
def H16_7:FD:=.ms D16 M16_7 lo3 gs2 G16
theorem TH16_7:Q p16 H16_7:=ms_q hlo TG16 (by decide +kernel) (show MtAll _ M16_7 from (mJ wn16_7_1 (mJ wn16_6_0 mE)))
def M72_7:MT:=.j n72_7_0 .e
def H72_7:FD:=.ms D72 M72_7 lo3 gsz G72
theorem TH72_7:Q p72 H72_7:=ms_q hlo TG72 (by decide +kernel) (show MtAll _ M72_7 from (mJ wn72_7_0 mE))
def M76_7:MT:=.j n76_7_0 .e
def H76_7:FD:=.ms D76 M76_7 lo3 gsz G76
theorem TH76_7:Q p76 H76_7:=ms_q hlo TG76 (by decide +kernel) (show MtAll _ M76_7 from (mJ wn76_7_0 mE))
def M83_7:MT:=.j n83_7_7 (.j n83_5_6 (.j n83_4_5 (.j n83_4_4 (.j n83_4_3 (.j n83_4_2 (.j n83_4_1 (.j n83_4_0 .e)))))))
def H83_7:FD:=.ms D83 M83_7 lo3 gsz G83
theorem TH83_7:Q p83 H83_7:=ms_q hlo TG83 (by decide +kernel) (show MtAll _ M83_7 from (mJ wn83_7_7 (mJ wn83_5_6 (mJ wn83_4_5 (mJ wn83_4_4 (mJ wn83_4_3 (mJ wn83_4_2 (mJ wn83_4_1 (mJ wn83_4_0 mE)))))))))
def M86_7:MT:=.j n86_7_0 .e
def H86_7:FD:=.ms D86 M86_7 lo3 gsz G86
theorem TH86_7:Q p86 H86_7:=ms_q hlo TG86 (by decide +kernel) (show MtAll _ M86_7 from (mJ wn86_7_0 mE))
def M130_7:MT:=.j n130_7_11 (.j n130_7_10 (.j n130_7_9 (.j n130_6_8 (.j n130_6_7 (.j n130_6_6 (.j n130_6_5 (.j n130_5_4 (.j n130_5_3 (.j n130_5_2 (.j n130_5_1 (.j n130_4_0 .e)))))))))))
def H130_7:FD:=.ms D130 M130_7 lo3 gsz G130
theorem TH130_7:Q p130 H130_7:=ms_q hlo TG130 (by decide +kernel) (show MtAll _ M130_7 from (mJ wn130_7_11 (mJ wn130_7_10 (mJ wn130_7_9 (mJ wn130_6_8 (mJ wn130_6_7 (mJ wn130_6_6 (mJ wn130_6_5 (mJ wn130_5_4 (mJ wn130_5_3 (mJ wn130_5_2 (mJ wn130_5_1 (mJ wn130_4_0 mE)))))))))))))
def M140_7:MT:=.j n140_7_1 (.j n140_4_0 .e)
def H140_7:FD:=.ms D140 M140_7 lo3 gsz G140
theorem TH140_7:Q p140 H140_7:=ms_q hlo TG140 (by decide +kernel) (show MtAll _ M140_7 from (mJ wn140_7_1 (mJ wn140_4_0 mE)))
def M180_7:MT:=.j n180_7_8 (.j n180_7_7 (.j n180_7_6 (.j n180_7_5 (.j n180_6_4 (.j n180_6_3 (.j n180_6_2 (.j n180_6_1 (.j n180_5_0 .e))))))))
def H180_7:FD:=.ms D180 M180_7 lo3 gsz G180
theorem TH180_7:Q p180 H180_7:=ms_q hlo TG180 (by decide +kernel) (show MtAll _ M180_7 from (mJ wn180_7_8 (mJ wn180_7_7 (mJ wn180_7_6 (mJ wn180_7_5 (mJ wn180_6_4 (mJ wn180_6_3 (mJ wn180_6_2 (mJ wn180_6_1 (mJ wn180_5_0 mE))))))))))
def M264_7:MT:=.j n264_7_22 (.j n264_7_21 (.j n264_7_20 (.j n264_7_19 (.j n264_7_18 (.j n264_7_17 (.j n264_7_16 (.j n264_7_15 (.j n264_7_14 (.j n264_7_13 (.j n264_7_12 (.j n264_7_11 (.j n264_7_10 (.j n264_7_9 (.j n264_7_8 (.j n264_7_7 (.j n264_6_6 (.j n264_6_5 (.j n264_6_4 (.j n264_6_3 (.j n264_6_2 (.j n264_6_1 (.j n264_6_0 .e))))))))))))))))))))))
def H264_7:FD:=.ms D264 M264_7 lo3 gsz G264
theorem TH264_7:Q p264 H264_7:=ms_q hlo TG264 (by decide +kernel) (show MtAll _ M264_7 from (mJ wn264_7_22 (mJ wn264_7_21 (mJ wn264_7_20 (mJ wn264_7_19 (mJ wn264_7_18 (mJ wn264_7_17 (mJ wn264_7_16 (mJ wn264_7_15 (mJ wn264_7_14 (mJ wn264_7_13 (mJ wn264_7_12 (mJ wn264_7_11 (mJ wn264_7_10 (mJ wn264_7_9 (mJ wn264_7_8 (mJ wn264_7_7 (mJ wn264_6_6 (mJ wn264_6_5 (mJ wn264_6_4 (mJ wn264_6_3 (mJ wn264_6_2 (mJ wn264_6_1 (mJ wn264_6_0 mE))))))))))))))))))))))))
def U7_228:PT FD:=.n (.n .e (.sh G147) .e) H83_7 (.n .e (.sh G211) .e)
theorem V7_228:tabAll (fun p=>Q (.o (.o (.i (.o (.i (.o p))))))) U7_228:=(tN (tN tE (sh_q TG147) tE) TH83_7 (tN tE (sh_q TG211) tE))
def U7_229:PT FD:=.n (.n U4_159 (.sh G35) U6_211) (.sh G19) (.n U7_228 (.sh G51) U6_212)
theorem V7_229:tabAll (fun p=>Q (.o (.o (.i (.o p))))) U7_229:=(tN (tN V4_159 (sh_q TG35) V6_211) (sh_q TG19) (tN V7_228 (sh_q TG51) V6_212))
def U7_230:PT FD:=.n (.n U6_208 (.sh G7) U6_210) (.sh G3) (.n U7_229 (.sh G11) U5_191)
theorem V7_230:tabAll (fun p=>Q (.o (.o p))) U7_230:=(tN (tN V6_208 (sh_q TG7) V6_210) (sh_q TG3) (tN V7_229 (sh_q TG11) V5_191))
def U7_231:PT FD:=.n (.n U0_40 H32_1 U0_41) H16_7 (.n U0_42 H48_4 (.n .e (.sh G112) (.n .e (.sh G240) .e)))
theorem V7_231:tabAll (fun p=>Q (.i (.o (.o (.o p))))) U7_231:=(tN (tN V0_40 TH32_1 V0_41) TH16_7 (tN V0_42 TH48_4 (tN tE (sh_q TG112) (tN tE (sh_q TG240) tE))))
def U7_232:PT FD:=.n (.n (.n .e H264_7 .e) (.sh G136) .e) H72_7 (.n .e (.sh G200) .e)
theorem V7_232:tabAll (fun p=>Q (.i (.o (.o (.i (.o (.o p))))))) U7_232:=(tN (tN (tN tE TH264_7 tE) (sh_q TG136) tE) TH72_7 (tN tE (sh_q TG200) tE))
def U7_233:PT FD:=.n (.n U7_232 (.sh G40) U6_220) H24_4 (.n U0_46 H56_5 U3_150)
theorem V7_233:tabAll (fun p=>Q (.i (.o (.o (.i p))))) U7_233:=(tN (tN V7_232 (sh_q TG40) V6_220) TH24_4 (tN V0_46 TH56_5 V3_150))
def U7_234:PT FD:=.n (.n (.n .e H308_1 .e) H180_7 .e) (.sh G116) .e
theorem V7_234:tabAll (fun p=>Q (.i (.o (.i (.o (.i (.i p))))))) U7_234:=(tN (tN (tN tE TH308_1 tE) TH180_7 tE) (sh_q TG116) tE)
def U7_235:PT FD:=.n (.n U0_49 (.sh G36) U2_123) (.sh G20) (.n U4_171 (.sh G52) U7_234)
theorem V7_235:tabAll (fun p=>Q (.i (.o (.i (.o p))))) U7_235:=(tN (tN V0_49 (sh_q TG36) V2_123) (sh_q TG20) (tN V4_171 (sh_q TG52) V7_234))
def U7_236:PT FD:=.n (.n (.n .e (.sh G268) .e) H140_7 .e) H76_7 (.n .e (.sh G204) .e)
theorem V7_236:tabAll (fun p=>Q (.i (.o (.i (.i (.o (.o p))))))) U7_236:=(tN (tN (tN tE (sh_q TG268) tE) TH140_7 tE) TH76_7 (tN tE (sh_q TG204) tE))
def U7_237:PT FD:=.n (.n U7_236 (.sh G44) U5_201) (.sh G28) (.n U0_56 H60_1 U0_57)
theorem V7_237:tabAll (fun p=>Q (.i (.o (.i (.i p))))) U7_237:=(tN (tN V7_236 (sh_q TG44) V5_201) (sh_q TG28) (tN V0_56 TH60_1 V0_57))
def U7_238:PT FD:=.n (.n U7_231 (.sh G8) U7_233) (.sh G4) (.n U7_235 H12_2 U7_237)
theorem V7_238:tabAll (fun p=>Q (.i (.o p))) U7_238:=(tN (tN V7_231 (sh_q TG8) V7_233) (sh_q TG4) (tN V7_235 TH12_2 V7_237))
def U7_239:PT FD:=.n (.n .e H130_7 .e) H66_6 (.n (.n .e (.sh G322) .e) H194_6 .e)
theorem V7_239:tabAll (fun p=>Q (.i (.i (.o (.o (.o (.o p))))))) U7_239:=(tN (tN tE TH130_7 tE) TH66_6 (tN (tN tE (sh_q TG322) tE) TH194_6 tE))
def U7_240:PT FD:=.n (.n U7_239 (.sh G34) U0_61) (.sh G18) (.n U2_128 (.sh G50) U2_129)
theorem V7_240:tabAll (fun p=>Q (.i (.i (.o (.o p))))) U7_240:=(tN (tN V7_239 (sh_q TG34) V0_61) (sh_q TG18) (tN V2_128 (sh_q TG50) V2_129))
def U7_241:PT FD:=.n (.n .e H150_1 .e) H86_7 (.n .e (.sh G214) .e)
theorem V7_241:tabAll (fun p=>Q (.i (.i (.i (.o (.i (.o p))))))) U7_241:=(tN (tN tE TH150_1 tE) TH86_7 (tN tE (sh_q TG214) tE))
def U7_242:PT FD:=.n (.n U2_131 F38 U0_71) H22_2 (.n U7_241 H54_2 U1_104)
theorem V7_242:tabAll (fun p=>Q (.i (.i (.i (.o p))))) U7_242:=(tN (tN V2_131 TF38 V0_71) TH22_2 (tN V7_241 TH54_2 V1_104))
def U7_243:PT FD:=.n (.n U7_240 (.sh G10) U4_180) H6_2 (.n U7_242 H14_7 U4_181)
theorem V7_243:tabAll (fun p=>Q (.i (.i p))) U7_243:=(tN (tN V7_240 (sh_q TG10) V4_180) TH6_2 (tN V7_242 TH14_7 V4_181))
def TAB7:PT FD:=.n (.n U7_230 .no U6_217) .no (.n U7_238 .no U7_243)
theorem Z7:TabOK PR NG TAB7:=tab_ok (show tabAll Q TAB7 from (tN (tN V7_230 tNo V6_217) tNo (tN V7_238 tNo V7_243)))
end
end Go.Am.Cd
