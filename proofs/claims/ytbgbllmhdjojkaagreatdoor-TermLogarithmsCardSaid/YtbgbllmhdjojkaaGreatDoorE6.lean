import Derived.Test.YtbgbllmhdjojkaaGreatDoorE6a
import Derived.Test.YtbgbllmhdjojkaaGreatDoorE6b
import Derived.Test.YtbgbllmhdjojkaaGreatDoorE6c
set_option linter.all false
set_option maxRecDepth 1000000
namespace Go.Am.Cd
open Go Go.Proofs
noncomputable section
def M16_6:MT:=.j n16_6_0 .e
def H16_6:FD:=.ms D16 M16_6 lo3 gs2 G16
theorem TH16_6:Q p16 H16_6:=ms_q hlo TG16 (by decide +kernel) (show MtAll _ M16_6 from (mJ wn16_6_0 mE))
def M66_6:MT:=.j n66_6_6 (.j n66_5_5 (.j n66_5_4 (.j n66_5_3 (.j n66_4_2 (.j n66_4_1 (.j n66_4_0 .e))))))
def H66_6:FD:=.ms D66 M66_6 lo3 gsz G66
theorem TH66_6:Q p66 H66_6:=ms_q hlo TG66 (by decide +kernel) (show MtAll _ M66_6 from (mJ wn66_6_6 (mJ wn66_5_5 (mJ wn66_5_4 (mJ wn66_5_3 (mJ wn66_4_2 (mJ wn66_4_1 (mJ wn66_4_0 mE))))))))
def M119_6:MT:=.j n119_6_19 (.j n119_6_18 (.j n119_6_17 (.j n119_6_16 (.j n119_6_15 (.j n119_6_14 (.j n119_5_13 (.j n119_5_12 (.j n119_5_11 (.j n119_5_10 (.j n119_5_9 (.j n119_5_8 (.j n119_5_7 (.j n119_5_6 (.j n119_5_5 (.j n119_5_4 (.j n119_5_3 (.j n119_5_2 (.j n119_5_1 (.j n119_5_0 .e)))))))))))))))))))
def H119_6:FD:=.ms D119 M119_6 lo3 gsz G119
theorem TH119_6:Q p119 H119_6:=ms_q hlo TG119 (by decide +kernel) (show MtAll _ M119_6 from (mJ wn119_6_19 (mJ wn119_6_18 (mJ wn119_6_17 (mJ wn119_6_16 (mJ wn119_6_15 (mJ wn119_6_14 (mJ wn119_5_13 (mJ wn119_5_12 (mJ wn119_5_11 (mJ wn119_5_10 (mJ wn119_5_9 (mJ wn119_5_8 (mJ wn119_5_7 (mJ wn119_5_6 (mJ wn119_5_5 (mJ wn119_5_4 (mJ wn119_5_3 (mJ wn119_5_2 (mJ wn119_5_1 (mJ wn119_5_0 mE)))))))))))))))))))))
def M127_6:MT:=.j n127_6_1 (.j n127_5_0 .e)
def H127_6:FD:=.ms D127 M127_6 lo3 gsz G127
theorem TH127_6:Q p127 H127_6:=ms_q hlo TG127 (by decide +kernel) (show MtAll _ M127_6 from (mJ wn127_6_1 (mJ wn127_5_0 mE)))
def M130_6:MT:=.j n130_6_8 (.j n130_6_7 (.j n130_6_6 (.j n130_6_5 (.j n130_5_4 (.j n130_5_3 (.j n130_5_2 (.j n130_5_1 (.j n130_4_0 .e))))))))
def H130_6:FD:=.ms D130 M130_6 lo3 gsz G130
theorem TH130_6:Q p130 H130_6:=ms_q hlo TG130 (by decide +kernel) (show MtAll _ M130_6 from (mJ wn130_6_8 (mJ wn130_6_7 (mJ wn130_6_6 (mJ wn130_6_5 (mJ wn130_5_4 (mJ wn130_5_3 (mJ wn130_5_2 (mJ wn130_5_1 (mJ wn130_4_0 mE))))))))))
def M141_6:MT:=.j n141_6_2 (.j n141_5_1 (.j n141_4_0 .e))
def H141_6:FD:=.ms D141 M141_6 lo3 gsz G141
theorem TH141_6:Q p141 H141_6:=ms_q hlo TG141 (by decide +kernel) (show MtAll _ M141_6 from (mJ wn141_6_2 (mJ wn141_5_1 (mJ wn141_4_0 mE))))
def M179_6:MT:=.j n179_6_13 (.j n179_6_12 (.j n179_6_11 (.j n179_6_10 (.j n179_6_9 (.j n179_6_8 (.j n179_6_7 (.j n179_6_6 (.j n179_6_5 (.j n179_6_4 (.j n179_6_3 (.j n179_6_2 (.j n179_6_1 (.j n179_5_0 .e)))))))))))))
def H179_6:FD:=.ms D179 M179_6 lo3 gsz G179
theorem TH179_6:Q p179 H179_6:=ms_q hlo TG179 (by decide +kernel) (show MtAll _ M179_6 from (mJ wn179_6_13 (mJ wn179_6_12 (mJ wn179_6_11 (mJ wn179_6_10 (mJ wn179_6_9 (mJ wn179_6_8 (mJ wn179_6_7 (mJ wn179_6_6 (mJ wn179_6_5 (mJ wn179_6_4 (mJ wn179_6_3 (mJ wn179_6_2 (mJ wn179_6_1 (mJ wn179_5_0 mE)))))))))))))))
def M180_6:MT:=.j n180_6_4 (.j n180_6_3 (.j n180_6_2 (.j n180_6_1 (.j n180_5_0 .e))))
def H180_6:FD:=.ms D180 M180_6 lo3 gsz G180
theorem TH180_6:Q p180 H180_6:=ms_q hlo TG180 (by decide +kernel) (show MtAll _ M180_6 from (mJ wn180_6_4 (mJ wn180_6_3 (mJ wn180_6_2 (mJ wn180_6_1 (mJ wn180_5_0 mE))))))
def M194_6:MT:=.j n194_6_0 .e
def H194_6:FD:=.ms D194 M194_6 lo3 gsz G194
theorem TH194_6:Q p194 H194_6:=ms_q hlo TG194 (by decide +kernel) (show MtAll _ M194_6 from (mJ wn194_6_0 mE))
def M232_6:MT:=.j n232_6_1 (.j n232_5_0 .e)
def H232_6:FD:=.ms D232 M232_6 lo3 gsz G232
theorem TH232_6:Q p232 H232_6:=ms_q hlo TG232 (by decide +kernel) (show MtAll _ M232_6 from (mJ wn232_6_1 (mJ wn232_5_0 mE)))
def M264_6:MT:=.j n264_6_6 (.j n264_6_5 (.j n264_6_4 (.j n264_6_3 (.j n264_6_2 (.j n264_6_1 (.j n264_6_0 .e))))))
def H264_6:FD:=.ms D264 M264_6 lo3 gsz G264
theorem TH264_6:Q p264 H264_6:=ms_q hlo TG264 (by decide +kernel) (show MtAll _ M264_6 from (mJ wn264_6_6 (mJ wn264_6_5 (mJ wn264_6_4 (mJ wn264_6_3 (mJ wn264_6_2 (mJ wn264_6_1 (mJ wn264_6_0 mE))))))))
def M291_6:MT:=.j n291_6_16 (.j n291_6_15 (.j n291_6_14 (.j n291_6_13 (.j n291_6_12 (.j n291_6_11 (.j n291_6_10 (.j n291_6_9 (.j n291_6_8 (.j n291_6_7 (.j n291_6_6 (.j n291_6_5 (.j n291_6_4 (.j n291_6_3 (.j n291_6_2 (.j n291_6_1 (.j n291_6_0 .e))))))))))))))))
def H291_6:FD:=.ms D291 M291_6 lo3 gsz G291
theorem TH291_6:Q p291 H291_6:=ms_q hlo TG291 (by decide +kernel) (show MtAll _ M291_6 from (mJ wn291_6_16 (mJ wn291_6_15 (mJ wn291_6_14 (mJ wn291_6_13 (mJ wn291_6_12 (mJ wn291_6_11 (mJ wn291_6_10 (mJ wn291_6_9 (mJ wn291_6_8 (mJ wn291_6_7 (mJ wn291_6_6 (mJ wn291_6_5 (mJ wn291_6_4 (mJ wn291_6_3 (mJ wn291_6_2 (mJ wn291_6_1 (mJ wn291_6_0 mE))))))))))))))))))
def U6_207:PT FD:=.n (.n .e H127_6 .e) (.sh G63) (.n (.n .e (.sh G319) .e) (.sh G191) .e)
theorem V6_207:tabAll (fun p=>Q (.o (.o (.o (.o (.o (.o p))))))) U6_207:=(tN (tN tE TH127_6 tE) (sh_q TG63) (tN (tN tE (sh_q TG319) tE) (sh_q TG191) tE))
def U6_208:PT FD:=.n (.n U6_207 (.sh G31) U2_107) (.sh G15) (.n U0_2 (.sh G47) U0_3)
theorem V6_208:tabAll (fun p=>Q (.o (.o (.o (.o p))))) U6_208:=(tN (tN V6_207 (sh_q TG31) V2_107) (sh_q TG15) (tN V0_2 (sh_q TG47) V0_3))
def U6_209:PT FD:=.n (.n .e (.sh G183) .e) H119_6 (.n .e (.sh G247) .e)
theorem V6_209:tabAll (fun p=>Q (.o (.o (.o (.i (.i (.i p))))))) U6_209:=(tN (tN tE (sh_q TG183) tE) TH119_6 (tN tE (sh_q TG247) tE))
def U6_210:PT FD:=.n (.n U3_135 (.sh G39) U3_136) (.sh G23) (.n U1_80 H55_4 U6_209)
theorem V6_210:tabAll (fun p=>Q (.o (.o (.o (.i p))))) U6_210:=(tN (tN V3_135 (sh_q TG39) V3_136) (sh_q TG23) (tN V1_80 TH55_4 V6_209))
def U6_211:PT FD:=.n (.n (.n .e H291_6 .e) (.sh G163) .e) (.sh G99) (.n .e (.sh G227) .e)
theorem V6_211:tabAll (fun p=>Q (.o (.o (.i (.o (.o (.i p))))))) U6_211:=(tN (tN (tN tE TH291_6 tE) (sh_q TG163) tE) (sh_q TG99) (tN tE (sh_q TG227) tE))
def U6_212:PT FD:=.n (.n .e H179_6 .e) (.sh G115) (.n .e (.sh G243) .e)
theorem V6_212:tabAll (fun p=>Q (.o (.o (.i (.o (.i (.i p))))))) U6_212:=(tN (tN tE TH179_6 tE) (sh_q TG115) (tN tE (sh_q TG243) tE))
def U6_213:PT FD:=.n (.n U4_159 (.sh G35) U6_211) (.sh G19) (.n U5_187 (.sh G51) U6_212)
theorem V6_213:tabAll (fun p=>Q (.o (.o (.i (.o p))))) U6_213:=(tN (tN V4_159 (sh_q TG35) V6_211) (sh_q TG19) (tN V5_187 (sh_q TG51) V6_212))
def U6_214:PT FD:=.n (.n U6_208 (.sh G7) U6_210) (.sh G3) (.n U6_213 (.sh G11) U5_191)
theorem V6_214:tabAll (fun p=>Q (.o (.o p))) U6_214:=(tN (tN V6_208 (sh_q TG7) V6_210) (sh_q TG3) (tN V6_213 (sh_q TG11) V5_191))
def U6_215:PT FD:=.n (.n (.n .e (.sh G269) .e) H141_6 .e) (.sh G77) (.n .e (.sh G205) .e)
theorem V6_215:tabAll (fun p=>Q (.o (.i (.i (.i (.o (.o p))))))) U6_215:=(tN (tN (tN tE (sh_q TG269) tE) TH141_6 tE) (sh_q TG77) (tN tE (sh_q TG205) tE))
def U6_216:PT FD:=.n (.n U6_215 (.sh G45) U2_116) (.sh G29) (.n U0_37 H61_3 (.n (.n .e (.sh G189) .e) (.sh G125) .e))
theorem V6_216:tabAll (fun p=>Q (.o (.i (.i (.i p))))) U6_216:=(tN (tN V6_215 (sh_q TG45) V2_116) (sh_q TG29) (tN V0_37 TH61_3 (tN (tN tE (sh_q TG189) tE) (sh_q TG125) tE)))
def U6_217:PT FD:=.n (.n U1_89 (.sh G9) U5_193) (.sh G5) (.n U3_146 (.sh G13) U6_216)
theorem V6_217:tabAll (fun p=>Q (.o (.i p))) U6_217:=(tN (tN V1_89 (sh_q TG9) V5_193) (sh_q TG5) (tN V3_146 (sh_q TG13) V6_216))
def U6_218:PT FD:=.n (.n U0_40 H32_1 U0_41) H16_6 (.n U0_42 H48_4 (.n .e (.sh G112) (.n .e (.sh G240) .e)))
theorem V6_218:tabAll (fun p=>Q (.i (.o (.o (.o p))))) U6_218:=(tN (tN V0_40 TH32_1 V0_41) TH16_6 (tN V0_42 TH48_4 (tN tE (sh_q TG112) (tN tE (sh_q TG240) tE))))
def U6_219:PT FD:=.n (.n (.n .e H264_6 .e) (.sh G136) .e) (.sh G72) (.n .e (.sh G200) .e)
theorem V6_219:tabAll (fun p=>Q (.i (.o (.o (.i (.o (.o p))))))) U6_219:=(tN (tN (tN tE TH264_6 tE) (sh_q TG136) tE) (sh_q TG72) (tN tE (sh_q TG200) tE))
def U6_220:PT FD:=.n (.n .e (.sh G168) .e) H104_2 (.n .e H232_6 .e)
theorem V6_220:tabAll (fun p=>Q (.i (.o (.o (.i (.o (.i p))))))) U6_220:=(tN (tN tE (sh_q TG168) tE) TH104_2 (tN tE TH232_6 tE))
def U6_221:PT FD:=.n (.n U6_219 (.sh G40) U6_220) H24_4 (.n U0_46 H56_5 U3_150)
theorem V6_221:tabAll (fun p=>Q (.i (.o (.o (.i p))))) U6_221:=(tN (tN V6_219 (sh_q TG40) V6_220) TH24_4 (tN V0_46 TH56_5 V3_150))
def U6_222:PT FD:=.n (.n (.n .e H308_1 .e) H180_6 .e) (.sh G116) .e
theorem V6_222:tabAll (fun p=>Q (.i (.o (.i (.o (.i (.i p))))))) U6_222:=(tN (tN (tN tE TH308_1 tE) TH180_6 tE) (sh_q TG116) tE)
def U6_223:PT FD:=.n (.n U0_49 (.sh G36) U2_123) (.sh G20) (.n U4_171 (.sh G52) U6_222)
theorem V6_223:tabAll (fun p=>Q (.i (.o (.i (.o p))))) U6_223:=(tN (tN V0_49 (sh_q TG36) V2_123) (sh_q TG20) (tN V4_171 (sh_q TG52) V6_222))
def U6_224:PT FD:=.n (.n U6_218 (.sh G8) U6_221) (.sh G4) (.n U6_223 H12_2 U5_202)
theorem V6_224:tabAll (fun p=>Q (.i (.o p))) U6_224:=(tN (tN V6_218 (sh_q TG8) V6_221) (sh_q TG4) (tN V6_223 TH12_2 V5_202))
def U6_225:PT FD:=.n (.n .e H130_6 .e) H66_6 (.n (.n .e (.sh G322) .e) H194_6 .e)
theorem V6_225:tabAll (fun p=>Q (.i (.i (.o (.o (.o (.o p))))))) U6_225:=(tN (tN tE TH130_6 tE) TH66_6 (tN (tN tE (sh_q TG322) tE) TH194_6 tE))
def U6_226:PT FD:=.n (.n U6_225 (.sh G34) U0_61) (.sh G18) (.n U2_128 (.sh G50) U2_129)
theorem V6_226:tabAll (fun p=>Q (.i (.i (.o (.o p))))) U6_226:=(tN (tN V6_225 (sh_q TG34) V0_61) (sh_q TG18) (tN V2_128 (sh_q TG50) V2_129))
def U6_227:PT FD:=.n (.n U6_226 (.sh G10) U4_180) H6_2 (.n U2_132 (.sh G14) U4_181)
theorem V6_227:tabAll (fun p=>Q (.i (.i p))) U6_227:=(tN (tN V6_226 (sh_q TG10) V4_180) TH6_2 (tN V2_132 (sh_q TG14) V4_181))
def TAB6:PT FD:=.n (.n U6_214 .no U6_217) .no (.n U6_224 .no U6_227)
theorem Z6:TabOK PR NG TAB6:=tab_ok (show tabAll Q TAB6 from (tN (tN V6_214 tNo V6_217) tNo (tN V6_224 tNo V6_227)))
end
end Go.Am.Cd
