import Derived.Test.YtbgbllmhdjojkaaGreatDoorA2
import Derived.Test.YtbgbllmhdjojkaaGreatDoorRows
import Derived.Test.YtbgbllmhdjojkaaGreatDoorTie
import Derived.Test.YtbgbllmhdjojkaaGreatDoorCards
import Derived.ProofKit
import Derived.LaidMore
import Derived.SevenTiedAt
set_option linter.all false
set_option maxRecDepth 1000000
namespace Go.Proofs.YtbgbllmhdjojkaaGreatDoor
open Go.ChangeShapes Go.WideShapes Go.ChangeAt Go.RowKit
open Go.Am
theorem own:ownKnob Tryz.prog.godebug=none:=by kernel_rfl
def laid2 : List (String × DataW Unit) := [("quadrature/term.operands", Rows.laid_quadrature_term_operands), ("quadrature/term.strength", Rows.laid_quadrature_term_strength)]
def ops9:List Int:=[0,0,2,2,2,1,1,1,1]
def str9:List Int:=[5,5,1,2,2,3,4,5,5]
theorem g0 : Tryz.prog.globalNamed "quadrature/term.operands" = some 0 := by kernel_rfl
theorem g1 : Tryz.prog.globalNamed "quadrature/term.strength" = some 1 := by kernel_rfl
theorem door_met (os:Os) (args:Array Value):laidMetH Tryz.prog laid2 ((World.doorLaid Tryz.prog 400 os).forCall (fun _ _=>0) ⟨#[],args,[]⟩).memory:=
 laidMetH_of_parts3 (fuel:=8) (laidMet_of_run' 8 (by kernel_rfl) (by kernel_rfl)) (by kernel_rfl) (by kernel_rfl)
theorem of_laid {W:World} (h:laidMetH Tryz.prog laid2 W):RowAt W (0,0,9) (intsV ops9)∧RowAt W (1,0,9) (intsV str9):=by
 rw [MakeChecks.laidMetH_plain _ _ _ (by kernel_rfl)] at h
 obtain ⟨ps,⟨g0',t0,cs0,f0,p0,q0,hg0,ht0,hv0,hd0,⟨g1',t1,cs1,f1,p1,q1,hg1,ht1,hv1,hd1,hq1,hps1⟩,hps⟩,_,hfr⟩:=h
 obtain rfl:=Option.some.inj (g0.symm.trans hg0)
 obtain rfl:=Option.some.inj (g1.symm.trans hg1)
 obtain rfl:=Option.some.inj ((show (Tryz.prog.globals[0]?).map (·.type)=some 102 by kernel_rfl).symm.trans ht0)
 obtain rfl:=Option.some.inj ((show (Tryz.prog.globals[1]?).map (·.type)=some 102 by kernel_rfl).symm.trans ht1)
 have u:Tryz.prog.underlying 102=some (.array 9 3):=by kernel_rfl
 have u3:Tryz.prog.underlying 3=some (.int .i64):=by kernel_rfl
 have c3:Tryz.prog.cellsOf 3=1:=by kernel_rfl
 have c:Tryz.prog.cellsOf 102=9:=by kernel_rfl
 have hfr':∀ b off,MemPlace.cell b off∈ps→(∃ c t,W.heap[b]?=some (.cells c t (0,0))):=fun b off hb=>(hfr b off hb).1
 refine ⟨laid_row (l:=ops9) (ps:=ps) hg0 hv0 u u3 c3 c hd0 (by decide) (fun x hx=>?_) hfr',laid_row (l:=str9) (ps:=ps) hg1 hv1 u u3 c3 c hd1 (by decide) (fun x hx=>?_) hfr'⟩
 ·rw [hps]; simp only [List.mem_append]; exact .inl (.inl hx)
 ·rw [hps,hps1]; simp only [List.mem_append]; exact .inr (.inl (.inl hx))
def Same (W w':World):Prop:=w'.os=W.os∧w'.output=W.output∧W.heap.size≤w'.heap.size∧∀ b,b < W.heap.size→w'.heap[b]?=W.heap[b]?
theorem Same.kept {W w':World} (h:Same W w') (may:MemPlace→Prop):W.keptBut w' may:=
 ⟨h.1,h.2.1,fun i hi=>by rw [h.2.2.2 i hi]; exact (World.keptBut_refl W may).2.2 i hi⟩
theorem f_lifted
  (hrun:∀ (W:World) (a b n:Nat),a < 256→b < 256→n < 256→RowAt W (0,0,9) (intsV ops9)→RowAt W (1,0,9) (intsV str9)→Calls Tryz.prog 3 #[.int .u8 a,.int .u8 b,.int .u8 n] W fun e w'=>e=.returned (.bool true)∧Same W w')
  (os:Os) (started:os.Started) (H:Type) (enc:TypeId × Value→H) :
  ReturnsInHanded {} Tryz.checked os 3 .any (fun w args=>(Rows.termLogarithmsSpec.pre enc Tryz.prog Tryz.f3 [] false w args∧laidMetH Tryz.prog laid2 w)∧sizedMet enc Tryz.prog Tryz.f3 (OpenSpec.ofChange Rows.termLogarithmsSpec) false w args)
   (Rows.termLogarithmsSpec.post enc Tryz.prog Tryz.f3 false true false false):=by
 refine returnsInHanded_of_change_and (C:=Tryz.checked) (X:=fun w _=>laidMetH Tryz.prog laid2 w) (fun _ _ _ hh h=>h.of_heap hh) own started (by kernel_rfl) Tryz.func3
  (ChangeSpec.witness_shaped (enc:=enc) (C:=Tryz.checked) (os:=os) (X:=fun w _=>laidMetH Tryz.prog laid2 w) false (World.doorLaid Tryz.prog 400 os) #[.int .u8 0,.int .u8 0,.int .u8 0] 8 rfl (World.shaped_of_RefB (by kernel_rfl) (by kernel_rfl)) (by kernel_rfl) (by kernel_rfl) (by kernel_rfl) (door_met os _)) ?_
 intro W base args ds gs before hval0 hW _ _ hL _
 have hval:∀ (j:Nat) t v,Tryz.f3.params[j]?=some t→args[j]?=some v→Value.okWide Tryz.prog W .any base t v:=hval0
 have hW':=hW
 obtain ⟨p,q,hA0,hV,rfl,hfz,hnd⟩:=hW
 have hA:DataW.TrodAll enc Tryz.prog W 0 (fun _=>true) true Tryz.f3.params.toList args.toList ds p:=hA0
 have hpar:Tryz.f3.params=#[5,5,5]:=by kernel_rfl
 rw [hpar] at hA hval
 obtain ⟨v0,v1,v2,d0,d1,d2,p0,p1,p2,rfl,rfl,rfl,h0,h1,h2⟩:=trodAll_three hA
 obtain ⟨rfl,rfl⟩:=trodVars_none hV
 have u5:Tryz.prog.underlying 5=some (.int .u8):=by kernel_rfl
 obtain ⟨a,rfl,rfl,rfl,wa⟩:=open_int u5 (hval 0 5 v0 rfl rfl) h0
 obtain ⟨b,rfl,rfl,rfl,wb⟩:=open_int u5 (hval 1 5 v1 rfl rfl) h1
 obtain ⟨n,rfl,rfl,rfl,wn⟩:=open_int u5 (hval 2 5 v2 rfl rfl) h2
 obtain ⟨r0,r1⟩:=of_laid hL
 have nat:∀ {x:Int},(Lit.int .u8 x).wf=true→∃ m:Nat,x=m∧m < 256:=fun {x} h=>by
  have hh:IntKind.u8.min≤x∧x≤IntKind.u8.max:=by simpa [Lit.wf] using h
  have e1:IntKind.u8.min=0:=by decide
  have e2:IntKind.u8.max=255:=by decide
  exact ⟨x.toNat,by omega,by omega⟩
 obtain ⟨a,rfl,la⟩:=nat wa
 obtain ⟨b,rfl,lb⟩:=nat wb
 obtain ⟨n,rfl,ln⟩:=nat wn
 refine (hrun W a b n la lb ln r0 r1).mono fun e W' ⟨he,hw⟩=>?_
 subst he
 refine ⟨_,rfl,_,_,_,[],[],[],hW',trodAll_mk1 (shut_bool (by kernel_rfl) _),trodAll_mk3 (shut_int u5 wa) (shut_int u5 wb) (shut_int u5 wn),rfl,hw.kept _,fun h=>by cases h⟩
theorem fnamed:Tryz.pinned.checked.prog.funcNamed Rows.termLogarithmsRow.func=some 3:=by kernel_rfl
theorem fjoined:joinedFacts Tryz.pinned.checked.prog 3 Tryz.f3 Rows.termLogarithmsSpec Rows.termLogarithmsRow=true:=by kernel_rfl
theorem finst:Tryz.f3.isInstance Tryz.pinned.checked.prog Rows.termLogarithmsRow.origin Rows.termLogarithmsRow.targs:=of_decide_eq_true (by kernel_rfl)
theorem fwrap:Tryz.f3.isWrapper Tryz.pinned.checked.prog Rows.termLogarithmsRow.wrapper Rows.termLogarithmsRow.mainSum:=by unfold Func.isWrapper; first | (rw [if_pos (by decide +kernel)]; kernel_rfl) | (rw [if_neg (by decide +kernel)]; exact ⟨rfl,rfl⟩)
theorem f_holds
  (hrun:∀ (W:World) (a b n:Nat),a < 256→b < 256→n < 256→RowAt W (0,0,9) (intsV ops9)→RowAt W (1,0,9) (intsV str9)→Calls Tryz.prog 3 #[.int .u8 a,.int .u8 b,.int .u8 n] W fun e w'=>e=.returned (.bool true)∧Same W w'):Rows.TermLogarithmsSaid:=
 OpenClaim.holds_of_wide 3 Tryz.f3 rfl rfl rfl rfl rfl rfl rfl ⟨rfl,rfl,rfl,rfl,rfl⟩ rfl rfl rfl rfl rfl fnamed Tryz.func3 fjoined finst fwrap
  (fun os started H enc _=>f_lifted hrun os started H enc)
theorem card
  (hrun:∀ (W:World) (a b n:Nat),a < 256→b < 256→n < 256→RowAt W (0,0,9) (intsV ops9)→RowAt W (1,0,9) (intsV str9)→Calls Tryz.prog 3 #[.int .u8 a,.int .u8 b,.int .u8 n] W fun e w'=>e=.returned (.bool true)∧Same W w'):Rows.TermLogarithmsCardSaid:=
 Claim7.holds_tied_plain_at .later [] [.data,.data] true _ true
  (f_holds hrun) (fun _ h=>by cases h) (by kernel_rfl) (fun _ h=>by cases h) termLogarithms_row_tie rfl ⟨rfl,rfl⟩ (by kernel_rfl) rfl
  (fun f fn hf hfn=>by
   obtain rfl : f = 3 := Option.some.inj ((show Tryz.prog.funcNamed "quadrature/quadraturelaw32.TermLogarithms" = some 3 by kernel_rfl).symm.trans hf) |>.symm
   obtain rfl:fn=Tryz.f3:=(Option.some.inj (Tryz.func3.symm.trans hfn)).symm
   exact ⟨by kernel_rfl,fun j t ht=>by
    rw [show Tryz.f3.params=#[5,5,5] by kernel_rfl] at ht
    have hm:t∈[5,5,5]:=by simpa using Array.mem_of_getElem? ht
    have hall:([5,5,5].all fun u=>!Tryz.prog.wantsStandIn u)=true:=by kernel_rfl
    exact (show Tryz.prog.wantsStandIn t=false by simpa using List.all_eq_true.1 hall t hm)⟩)
  (by kernel_rfl)
end Go.Proofs.YtbgbllmhdjojkaaGreatDoor
