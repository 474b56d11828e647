import Derived.Test.YtbgbllmhdjojkaaGreatDoorA1
import Derived.OpenShut
import Derived.LaidMore
import GoSem.ClaimJoined
set_option linter.all false
namespace Go.Am
section
variable (P:Program) (ng nt:Nat)
def bConv (s d:TypeId) (x:Operand) (a:AO):Bool:=match a with
 | .cv k b=>arB ng nt x b && ((match P.underlying s with | some (.int _)=>true | _=>false) && (match P.underlying d with | some (.int k')=>decide (k'=k) | _=>false))
 | .csb b=>arB ng nt x b && ((match P.underlying s with | some .string=>true | _=>false) && (match P.underlying d with | some (.slice e)=>(match P.underlying e with | some (.int .u8)=>true | _=>false) | _=>false))
 | .cbs b=>arB ng nt x b && ((match P.underlying d with | some .string=>true | _=>false) && (match P.underlying s with | some (.slice e)=>(match P.underlying e with | some (.int .u8)=>true | _=>false) | _=>false))
 | _=>false
def notI (t:TypeId):Bool:=match P.underlying t with | some (.interface _)=>false | some _=>true | none=>false
def bMi (t:TypeId) (x:Operand) (a:AO):Bool:=match a with | .mi t' b=>t' == t && (arB ng nt x b && notI P t) | _=>false
def bTa (t:TypeId) (x:Operand) (ok:Bool) (a:AO):Bool:=match a with | .ta t' zs b=>ok && (t' == t && (arB ng nt x b && (notI P t && zvB P t zs))) | _=>false
def bMu (t:TypeId) (m k x:Operand) (a:AO):Bool:=match a with
 | .mu s b c d=>arB ng nt m b && (arB ng nt k c && (arB ng nt x d && (match P.underlying t with | some (.map kt _)=>shB P kt s | _=>false)))
 | _=>false
def bLk (t:TypeId) (m k:Operand) (ok:Bool) (a:AO):Bool:=match a with
 | .lk s b c zs=>ok && (arB ng nt m b && (arB ng nt k c && (match P.underlying t with | some (.map kt et)=>shB P kt s && zvB P et zs | _=>false)))
 | _=>false
def bMs (t:TypeId) (l c:Operand) (a:AO):Bool:=match a with
 | .ms zs s b d=>arB ng nt l b && (arB ng nt c d && (match P.underlying t with | some (.slice e)=>szB P e s && (decide (0 < s) && (byB P e && (znB P e s && zcB P e zs))) | _=>false))
 | _=>false
def bSl (t:TypeId) (x:Operand) (lo hi mx:Option Operand) (a:AO):Bool:=match a with
 | .slS b c d=>arB ng nt x b && (aroB ng nt lo c && (aroB ng nt hi d && (mx.isNone && (match P.underlying t with | some .string=>true | _=>false))))
 | .sl s b c d=>arB ng nt x b && (aroB ng nt lo c && (aroB ng nt hi d && (mx.isNone && (match P.underlying t with | some (.slice e)=>szB P e s | _=>false))))
 | .slA n s b c d=>arB ng nt x b && (aroB ng nt lo c && (aroB ng nt hi d && (mx.isNone && (match P.underlying t with | some (.array m e)=>m == n && szB P e s | _=>false))))
 | .sl3 s b c d f=>arB ng nt x b && (aroB ng nt lo c && ((match hi,mx with | some hi,some mx=>arB ng nt hi d && arB ng nt mx f | _,_=>false) && (match P.underlying t with | some (.slice e)=>szB P e s | _=>false)))
 | _=>false
def nzB (t:TypeId):Bool:=match P.info? t with | some i=>i.size != 0 | none=>false
def bFa (t:TypeId) (x:Operand) (f:Nat) (a:AO):Bool:=match a with
 | .fa b o=>arB ng nt x b && (match P.underlying t with | some (.struct fs)=>(match fs[f]? with | some fd=>fd.offset == o && nzB P fd.type | none=>false) | _=>false)
 | _=>false
def bFd (t:TypeId) (x:Operand) (f:Nat) (a:AO):Bool:=match a with
 | .fd1 b o=>arB ng nt x b && (match P.underlying t with | some (.struct fs)=>(match fs[f]? with | some fd=>fd.offset == o && agB P fd.type false | none=>false) | _=>false)
 | .fdn b o n=>arB ng nt x b && (match P.underlying t with | some (.struct fs)=>(match fs[f]? with | some fd=>fd.offset == o && (agB P fd.type true && szB P fd.type n) | none=>false) | _=>false)
 | _=>false
def bIa (t:TypeId) (x i:Operand) (a:AO):Bool:=match a with
 | .ix s b c=>arB ng nt x b && (arB ng nt i c && (match P.underlying t with | some (.slice e)=>szB P e s | _=>false))
 | .ixA n s b c=>arB ng nt x b && (arB ng nt i c && (match P.underlying t with | some (.array m e)=>m == n && szB P e s | _=>false))
 | _=>false
def bIx (t:TypeId) (x i:Operand) (a:AO):Bool:=match a with
 | .ixS b c=>arB ng nt x b && (arB ng nt i c && (match P.underlying t with | some .string=>true | _=>false))
 | .ixV n s b c=>arB ng nt x b && (arB ng nt i c && (match P.underlying t with | some (.array m e)=>m == n && (szB P e s && agB P e false) | _=>false))
 | .ixW n s b c=>arB ng nt x b && (arB ng nt i c && (match P.underlying t with | some (.array m e)=>m == n && (szB P e s && agB P e true) | _=>false))
 | _=>false
def bEx (x:Operand) (i:Nat) (a:AO):Bool:=match a with | .ex b j=>j == i && arB ng nt x b | _=>false
def bBu (b:Builtin) (xs:List Operand) (tys:Array TypeId) (a:AO):Bool:=match a with
 | .lens p=>(match b,xs,tys[0]? with | .len,[x],some t=>arB ng nt x p && (match P.underlying t with | some .string=>true | _=>false) | _,_,_=>false)
 | .lenl p=>(match b,xs,tys[0]? with | .len,[x],some t=>arB ng nt x p && (match P.underlying t with | some (.slice _)=>true | _=>false) | _,_,_=>false)
 | .lenm p=>(match b,xs,tys[0]? with | .len,[x],some t=>arB ng nt x p && (match P.underlying t with | some (.map _ _)=>true | _=>false) | _,_,_=>false)
 | .lenK n=>(match b,xs,tys[0]? with | .len,[_],some t=>(match P.underlying t with | some (.array m _)=>m == n | _=>false) | _,_,_=>false)
 | .cap p=>(match b,xs,tys[0]? with | .cap,[x],some t=>arB ng nt x p && (match P.underlying t with | some (.slice _)=>true | _=>false) | _,_,_=>false)
 | .ap s p q=>(match b,xs,tys[0]?,tys[1]? with
  | .append,[x,y],some t,some u=>arB ng nt x p && (arB ng nt y q && ((match P.underlying t with | some (.slice e)=>szB P e s && (decide (0 < s) && (byB P e && znB P e s)) | _=>false) && (match P.underlying u with | some (.int _)=>false | some _=>true | none=>false)))
  | _,_,_,_=>false)
 | .apz zs s p q=>(match b,xs,tys[0]?,tys[1]? with
  | .append,[x,y],some t,some u=>arB ng nt x p && (arB ng nt y q && ((match P.underlying t with | some (.slice e)=>szB P e s && (decide (0 < s) && (byB P e && (znB P e s && zcB P e zs))) | _=>false) && (match P.underlying u with | some (.int _)=>true | _=>false)))
  | _,_,_,_=>false)
 | .cp s p q=>(match b,xs,tys[0]? with | .copy,[x,y],some t=>arB ng nt x p && (arB ng nt y q && (match P.underlying t with | some (.slice e)=>szB P e s && decide (0 < s) | _=>false)) | _,_,_=>false)
 | .mx l=>(match b with | .max=>arlB ng nt xs l | _=>false)
 | .mn l=>(match b with | .min=>arlB ng nt xs l | _=>false)
 | _=>false
def bCall (c:Call) (a:AO):Bool:=match c.callee with
 | .builtin b=>bBu P ng nt b c.args.toList c.argTypes a
 | .value x=>(match a with
  | .cf p l=>(match x with | .func f=>decide (p.val=f + 1) && arlB ng nt c.args.toList l | _=>false)
  | .cd b l=>arB ng nt x b && arlB ng nt c.args.toList l
  | _=>false)
 | _=>false
def opB (o:Op) (a:AO):Bool:=match o with
 | .move x | .assign x=>bMove ng nt x a
 | .pick x y z=>bPick ng nt x y z a
 | .alloc t=>bAlloc P t a
 | .box _ x=>bBox ng nt x a
 | .build t ps=>bBuild P ng nt t ps a
 | .buildSlice t n ps=>bBuildSlice P ng nt t n ps a
 | .load t x=>bLoad P ng nt t x a
 | .store t x y=>bStore P ng nt t x y a
 | .nilCheck x=>bNil ng nt x a
 | .binOp b t x y _=>bBin P ng nt b t x y a
 | .unOp u _ x=>(match a with | .un u' b=>decide (u'=u) && arB ng nt x b | _=>false)
 | .convert s d x=>bConv P ng nt s d x a
 | .makeInterface t x=>bMi P ng nt t x a
 | .typeAssert x _ t ok=>bTa P ng nt t x ok a
 | .makeFunc fn xs ys=>(match fn,a with | .func i,.mf (.func j) b c=>i == j && (arlB ng nt xs.toList b && arlB ng nt ys.toList c) | _,_=>false)
 | .makeMap _ r=>(match a with | .mm=>r.isNone | _=>false)
 | .mapUpdate t m k x | .insert t m k x=>bMu P ng nt t m k x a
 | .lookup t m k ok=>bLk P ng nt t m k ok a
 | .makeSlice t l c=>bMs P ng nt t l c a
 | .slice t x lo hi mx=>bSl P ng nt t x lo hi mx a
 | .fieldAddr t x f=>bFa P ng nt t x f a
 | .field t x f=>bFd P ng nt t x f a
 | .indexAddr t x i=>bIa P ng nt t x i a
 | .index t x i=>bIx P ng nt t x i a
 | .extract x i=>bEx ng nt x i a
 | .call c=>bCall P ng nt c a
 | .panic x=>(match a with | .pa b=>arB ng nt x b | _=>false)
 | .range t x=>(match a with | .rg b=>arB ng nt x b && (match P.underlying t with | some .string=>true | _=>false) | .rm b=>arB ng nt x b && (match P.underlying t with | some (.map _ _)=>true | _=>false) | _=>false)
 | .next x s=>(match a with | .nx b=>s && arB ng nt x b | .nm b=>!s && arB ng nt x b | _=>false)
 | .entry x=>(match a with | .en b=>arB ng nt x b | _=>false)
 | _=>false
variable {P} {ng nt}
theorem bConv_ok {s d:TypeId} {x:Operand} {a:AO} (h:bConv P ng nt s d x a=true):OpOK P ng nt (.convert s d x) a:=by
 cases a<;>first | (cases h; done) | skip
 ·simp only [bConv,Bool.and_eq_true] at h
  obtain ⟨h1,h2,h3⟩:=h
  split at h2<;>first | (cases h2; done) | skip
  rename_i k' hk'
  split at h3<;>first | (cases h3; done) | skip
  rename_i k hk
  have h3:=of_decide_eq_true h3
  subst h3
  exact .conv _ _ _ _ _ k' (arB_ok h1) hk' hk
 ·simp only [bConv,Bool.and_eq_true] at h
  obtain ⟨h1,h2,h3⟩:=h
  split at h2<;>first | (cases h2; done) | skip
  rename_i hs
  split at h3<;>first | (cases h3; done) | skip
  rename_i e he
  split at h3<;>first | (cases h3; done) | skip
  rename_i hu
  exact .convSB _ _ _ _ e (arB_ok h1) hs he hu
 ·simp only [bConv,Bool.and_eq_true] at h
  obtain ⟨h1,h2,h3⟩:=h
  split at h2<;>first | (cases h2; done) | skip
  rename_i hs
  split at h3<;>first | (cases h3; done) | skip
  rename_i e he
  split at h3<;>first | (cases h3; done) | skip
  rename_i hu
  exact .convBS _ _ _ _ e (arB_ok h1) he hs hu
theorem notI_ok {t:TypeId} (h:notI P t=true):∃ d,P.underlying t=some d∧∀ m,d≠.interface m:=by
 unfold notI at h
 split at h<;>first | (cases h; done) | skip
 rename_i d hne hd
 exact ⟨d,hd,fun m hm=>hne m hm⟩
theorem bMi_ok {t:TypeId} {x:Operand} {a:AO} (h:bMi P ng nt t x a=true):OpOK P ng nt (.makeInterface t x) a:=by
 cases a<;>first | (cases h; done) | skip
 simp only [bMi,Bool.and_eq_true,beq_iff_eq] at h
 obtain ⟨rfl,h1,h2⟩:=h
 obtain ⟨d,h3,h4⟩:=notI_ok h2
 exact .mkIface _ _ _ d (arB_ok h1) h3 h4
theorem bTa_ok {t s:TypeId} {x:Operand} {ok:Bool} {a:AO} (h:bTa P ng nt t x ok a=true):OpOK P ng nt (.typeAssert x s t ok) a:=by
 cases a<;>first | (cases h; done) | skip
 simp only [bTa,Bool.and_eq_true,beq_iff_eq] at h
 obtain ⟨rfl,rfl,h1,h2,h3⟩:=h
 obtain ⟨d,h4,h5⟩:=notI_ok h2
 obtain ⟨v,h6,h7⟩:=zvB_ok h3
 exact .assert _ _ _ _ d v _ (arB_ok h1) h4 h5 h6 h7
theorem bMu_ok {t:TypeId} {m k x:Operand} {a:AO} (h:bMu P ng nt t m k x a=true):OpOK P ng nt (.mapUpdate t m k x) a∧OpOK P ng nt (.insert t m k x) a:=by
 cases a<;>first | (cases h; done) | skip
 simp only [bMu,Bool.and_eq_true] at h
 obtain ⟨h1,h2,h3,h4⟩:=h
 split at h4<;>first | (cases h4; done) | skip
 rename_i kt et hu
 exact ⟨.mapUpdate _ _ _ _ _ _ _ kt et (arB_ok h1) (arB_ok h2) (arB_ok h3) hu _ (shB_ok h4),.insert _ _ _ _ _ _ _ kt et (arB_ok h1) (arB_ok h2) (arB_ok h3) hu _ (shB_ok h4)⟩
theorem bLk_ok {t:TypeId} {m k:Operand} {ok:Bool} {a:AO} (h:bLk P ng nt t m k ok a=true):OpOK P ng nt (.lookup t m k ok) a:=by
 cases a<;>first | (cases h; done) | skip
 simp only [bLk,Bool.and_eq_true] at h
 obtain ⟨rfl,h1,h2,h4⟩:=h
 split at h4<;>first | (cases h4; done) | skip
 rename_i kt et hu
 simp only [Bool.and_eq_true] at h4
 obtain ⟨v,h6,h7⟩:=zvB_ok h4.2
 exact .lookup _ _ _ _ _ kt et v _ (arB_ok h1) (arB_ok h2) hu _ (shB_ok h4.1) h6 h7
theorem bMs_ok {t:TypeId} {l c:Operand} {a:AO} (h:bMs P ng nt t l c a=true):OpOK P ng nt (.makeSlice t l c) a:=by
 cases a<;>first | (cases h; done) | skip
 simp only [bMs,Bool.and_eq_true] at h
 obtain ⟨h1,h2,h4⟩:=h
 split at h4<;>first | (cases h4; done) | skip
 rename_i e hu
 simp only [Bool.and_eq_true,decide_eq_true_eq] at h4
 obtain ⟨h5,h6,h7,h8,h9⟩:=h4
 obtain ⟨v,hv1,hv2⟩:=znB_ok h8
 obtain ⟨u,hu1,hu2⟩:=zcB_ok h9
 cases zero_inj hv1 hu1
 exact .makeSlice _ _ _ _ _ e _ v _ (arB_ok h1) (arB_ok h2) hu (szB_ok h5) h6 (byB_ok h7) hv1 hv2 hu2
theorem bSl_ok {t:TypeId} {x:Operand} {lo hi mx:Option Operand} {a:AO} (h:bSl P ng nt t x lo hi mx a=true):OpOK P ng nt (.slice t x lo hi mx) a:=by
 cases a<;>first | (cases h; done) | skip
 ·simp only [bSl,Bool.and_eq_true,Option.isNone_iff_eq_none] at h
  obtain ⟨h1,h2,h3,rfl,h4⟩:=h
  split at h4<;>first | (cases h4; done) | skip
  rename_i hu
  exact .sliceS _ _ _ _ _ _ _ (arB_ok h1) (aroB_ok h2) (aroB_ok h3) hu
 ·simp only [bSl,Bool.and_eq_true,Option.isNone_iff_eq_none] at h
  obtain ⟨h1,h2,h3,rfl,h4⟩:=h
  split at h4<;>first | (cases h4; done) | skip
  rename_i e hu
  exact .slice _ _ _ _ _ _ _ e _ (arB_ok h1) (aroB_ok h2) (aroB_ok h3) hu (szB_ok h4)
 ·simp only [bSl,Bool.and_eq_true] at h
  obtain ⟨h1,h2,h3,h4⟩:=h
  split at h3<;>first | (cases h3; done) | skip
  simp only [Bool.and_eq_true] at h3
  split at h4<;>first | (cases h4; done) | skip
  rename_i e hu
  exact .slice3 _ _ _ _ _ _ _ _ _ e _ (arB_ok h1) (aroB_ok h2) (arB_ok h3.1) (arB_ok h3.2) hu (szB_ok h4)
 ·simp only [bSl,Bool.and_eq_true,Option.isNone_iff_eq_none] at h
  obtain ⟨h1,h2,h3,rfl,h4⟩:=h
  split at h4<;>first | (cases h4; done) | skip
  rename_i m e hu
  simp only [Bool.and_eq_true,beq_iff_eq] at h4
  obtain ⟨rfl,h5⟩:=h4
  exact .sliceA _ _ _ _ _ _ _ _ e _ (arB_ok h1) (aroB_ok h2) (aroB_ok h3) hu (szB_ok h5)
theorem nzB_ok {t:TypeId} (h:nzB P t=true):∃ n,sizeIs P t n∧n≠0:=by
 unfold nzB at h
 split at h<;>first | (cases h; done) | skip
 rename_i i hi
 exact ⟨i.size,by simp [sizeIs,hi],by simpa using h⟩
theorem bFa_ok {t:TypeId} {x:Operand} {f:Nat} {a:AO} (h:bFa P ng nt t x f a=true):OpOK P ng nt (.fieldAddr t x f) a:=by
 cases a<;>first | (cases h; done) | skip
 simp only [bFa,Bool.and_eq_true] at h
 obtain ⟨h1,h2⟩:=h
 split at h2<;>first | (cases h2; done) | skip
 rename_i fs hu
 split at h2<;>first | (cases h2; done) | skip
 rename_i fd hf
 simp only [Bool.and_eq_true,beq_iff_eq] at h2
 obtain ⟨rfl,h3⟩:=h2
 obtain ⟨n,h4,h5⟩:=nzB_ok h3
 exact .fieldAddr _ _ _ _ fs fd (arB_ok h1) hu hf n h4 h5
theorem bFd_ok {t:TypeId} {x:Operand} {f:Nat} {a:AO} (h:bFd P ng nt t x f a=true):OpOK P ng nt (.field t x f) a:=by
 cases a<;>first | (cases h; done) | skip
 ·simp only [bFd,Bool.and_eq_true] at h
  obtain ⟨h1,h2⟩:=h
  split at h2<;>first | (cases h2; done) | skip
  rename_i fs hu
  split at h2<;>first | (cases h2; done) | skip
  rename_i fd hf
  simp only [Bool.and_eq_true,beq_iff_eq] at h2
  obtain ⟨rfl,h3⟩:=h2
  exact .field1 _ _ _ _ fs fd (arB_ok h1) hu hf (agB_ok h3)
 ·simp only [bFd,Bool.and_eq_true] at h
  obtain ⟨h1,h2⟩:=h
  split at h2<;>first | (cases h2; done) | skip
  rename_i fs hu
  split at h2<;>first | (cases h2; done) | skip
  rename_i fd hf
  simp only [Bool.and_eq_true,beq_iff_eq] at h2
  obtain ⟨rfl,h3,h4⟩:=h2
  exact .fieldn _ _ _ _ fs fd _ (arB_ok h1) hu hf (agB_ok h3) (szB_ok h4)
theorem bIa_ok {t:TypeId} {x i:Operand} {a:AO} (h:bIa P ng nt t x i a=true):OpOK P ng nt (.indexAddr t x i) a:=by
 cases a<;>first | (cases h; done) | skip
 ·simp only [bIa,Bool.and_eq_true] at h
  obtain ⟨h1,h2,h3⟩:=h
  split at h3<;>first | (cases h3; done) | skip
  rename_i e hu
  exact .indexAddr _ _ _ _ _ e _ (arB_ok h1) (arB_ok h2) hu (szB_ok h3)
 ·simp only [bIa,Bool.and_eq_true] at h
  obtain ⟨h1,h2,h3⟩:=h
  split at h3<;>first | (cases h3; done) | skip
  rename_i m e hu
  simp only [Bool.and_eq_true,beq_iff_eq] at h3
  obtain ⟨rfl,h4⟩:=h3
  exact .indexAddrA _ _ _ _ _ _ e _ (arB_ok h1) (arB_ok h2) hu (szB_ok h4)
theorem bIx_ok {t:TypeId} {x i:Operand} {a:AO} (h:bIx P ng nt t x i a=true):OpOK P ng nt (.index t x i) a:=by
 cases a<;>first | (cases h; done) | skip
 ·simp only [bIx,Bool.and_eq_true] at h
  obtain ⟨h1,h2,h3⟩:=h
  split at h3<;>first | (cases h3; done) | skip
  rename_i hu
  exact .indexS _ _ _ _ _ (arB_ok h1) (arB_ok h2) hu
 ·simp only [bIx,Bool.and_eq_true] at h
  obtain ⟨h1,h2,h3⟩:=h
  split at h3<;>first | (cases h3; done) | skip
  rename_i m e hu
  simp only [Bool.and_eq_true,beq_iff_eq] at h3
  obtain ⟨rfl,h4,h5⟩:=h3
  exact .indexV _ _ _ _ _ _ e _ (arB_ok h1) (arB_ok h2) hu (szB_ok h4) (agB_ok h5)
 ·simp only [bIx,Bool.and_eq_true] at h
  obtain ⟨h1,h2,h3⟩:=h
  split at h3<;>first | (cases h3; done) | skip
  rename_i m e hu
  simp only [Bool.and_eq_true,beq_iff_eq] at h3
  obtain ⟨rfl,h4,h5⟩:=h3
  exact .indexW _ _ _ _ _ _ e _ (arB_ok h1) (arB_ok h2) hu (szB_ok h4) (agB_ok h5)
theorem bEx_ok {x:Operand} {i:Nat} {a:AO} (h:bEx ng nt x i a=true):OpOK P ng nt (.extract x i) a:=by
 cases a<;>first | (cases h; done) | skip
 simp only [bEx,Bool.and_eq_true,beq_iff_eq] at h
 obtain ⟨rfl,h1⟩:=h
 exact .extract _ _ _ (arB_ok h1)
end
end Go.Am
namespace Go.Am
section
variable {P:Program} {ng nt:Nat}
theorem args1 {xs:Array Operand} {x:Operand} (h:xs.toList=[x]):xs=#[x]:=Array.ext' (by simpa using h)
theorem args2 {xs:Array Operand} {x y:Operand} (h:xs.toList=[x,y]):xs=#[x,y]:=Array.ext' (by simpa using h)
theorem bBu_ok {b:Builtin} {xs:Array Operand} {tys:Array TypeId} {a:AO} (h:bBu P ng nt b xs.toList tys a=true):OpOK P ng nt (.call ⟨.builtin b,xs,tys⟩) a:=by
 generalize hl:xs.toList=l at h
 cases a<;>first | (cases h; done) | skip
 ·simp only [bBu] at h
  split at h<;>first | (cases h; done) | skip
  rename_i x t ht
  rw [args1 hl]
  simp only [Bool.and_eq_true] at h
  obtain ⟨h1,h2⟩:=h
  split at h2<;>first | (cases h2; done) | skip
  rename_i hu
  exact .lenS _ _ _ t (arB_ok h1) ht hu
 ·simp only [bBu] at h
  split at h<;>first | (cases h; done) | skip
  rename_i x t ht
  rw [args1 hl]
  simp only [Bool.and_eq_true] at h
  obtain ⟨h1,h2⟩:=h
  split at h2<;>first | (cases h2; done) | skip
  rename_i e hu
  exact .lenL _ _ _ t e (arB_ok h1) ht hu
 ·simp only [bBu] at h
  split at h<;>first | (cases h; done) | skip
  rename_i x t ht
  rw [args1 hl]
  simp only [Bool.and_eq_true] at h
  obtain ⟨h1,h2⟩:=h
  split at h2<;>first | (cases h2; done) | skip
  rename_i e e' hu
  exact .lenM _ _ _ t e e' (arB_ok h1) ht hu
 ·simp only [bBu] at h
  split at h<;>first | (cases h; done) | skip
  rename_i x t ht
  rw [args1 hl]
  split at h<;>first | (cases h; done) | skip
  rename_i m e hu
  have h:=eq_of_beq h
  subst h
  exact .lenA _ _ t _ e ht hu
 ·simp only [bBu] at h
  split at h<;>first | (cases h; done) | skip
  rename_i x t ht
  rw [args1 hl]
  simp only [Bool.and_eq_true] at h
  obtain ⟨h1,h2⟩:=h
  split at h2<;>first | (cases h2; done) | skip
  rename_i e hu
  exact .cap _ _ _ t e (arB_ok h1) ht hu
 ·simp only [bBu] at h
  split at h<;>first | (cases h; done) | skip
  rename_i x y t u ht hu'
  rw [args2 hl]
  simp only [Bool.and_eq_true] at h
  obtain ⟨h1,h2,h3,h4⟩:=h
  split at h3<;>first | (cases h3; done) | skip
  rename_i e he
  simp only [Bool.and_eq_true,decide_eq_true_eq] at h3
  obtain ⟨h5,h6,h7,h8⟩:=h3
  obtain ⟨v,h9,h10⟩:=znB_ok h8
  split at h4<;>first | (cases h4; done) | skip
  rename_i d hne hd
  exact .append _ _ _ _ _ t e _ u d (arB_ok h1) (arB_ok h2) ht he (szB_ok h5) h6 (byB_ok h7) hu' hd (fun k hk=>hne k hk) v h9 h10
 ·simp only [bBu] at h
  split at h<;>first | (cases h; done) | skip
  rename_i x y t u ht hu'
  rw [args2 hl]
  simp only [Bool.and_eq_true] at h
  obtain ⟨h1,h2,h3,h4⟩:=h
  split at h3<;>first | (cases h3; done) | skip
  rename_i e he
  simp only [Bool.and_eq_true,decide_eq_true_eq] at h3
  obtain ⟨h5,h6,h7,h8,h8'⟩:=h3
  obtain ⟨v,h9,h10⟩:=znB_ok h8
  obtain ⟨u',h11,h12⟩:=zcB_ok h8'
  cases zero_inj h9 h11
  split at h4<;>first | (cases h4; done) | skip
  rename_i k hk
  exact .appendZ _ _ _ _ _ t e _ u k v _ (arB_ok h1) (arB_ok h2) ht he (szB_ok h5) h6 (byB_ok h7) hu' hk h9 h10 h12
 ·simp only [bBu] at h
  split at h<;>first | (cases h; done) | skip
  rename_i x y t ht
  rw [args2 hl]
  simp only [Bool.and_eq_true] at h
  obtain ⟨h1,h2,h3⟩:=h
  split at h3<;>first | (cases h3; done) | skip
  rename_i e he
  simp only [Bool.and_eq_true,decide_eq_true_eq] at h3
  exact .copy _ _ _ _ _ t e _ (arB_ok h1) (arB_ok h2) ht he (szB_ok h3.1) h3.2
 ·simp only [bBu] at h
  split at h<;>first | (cases h; done) | skip
  exact .max _ _ _ (arlB_ok (by rw [hl]; exact h))
 ·simp only [bBu] at h
  split at h<;>first | (cases h; done) | skip
  exact .min _ _ _ (arlB_ok (by rw [hl]; exact h))
theorem bCall_ok {c:Call} {a:AO} (h:bCall P ng nt c a=true):OpOK P ng nt (.call c) a:=by
 obtain ⟨callee,args,tys⟩:=c
 unfold bCall at h
 cases callee with
 | builtin b=>exact bBu_ok h
 | value x=>
  cases a<;>first | (cases h; done) | skip
  ·cases x<;>first | (cases h; done) | skip
   simp only [Bool.and_eq_true,decide_eq_true_eq] at h
   exact .callF _ _ _ _ _ h.1 (arlB_ok h.2)
  ·simp only [Bool.and_eq_true] at h
   exact .callD _ _ _ _ _ (arB_ok h.1) (arlB_ok h.2)
 | invoke=>cases h
theorem opB_ok {o:Op} {a:AO} (h:opB P ng nt o a=true):OpOK P ng nt o a:=by
 unfold opB at h
 cases o<;>first | (cases h; done) | skip
 case move x=>exact (bMove_ok h).1
 case assign x=>exact (bMove_ok h).2
 case pick=>exact bPick_ok h
 case alloc=>exact bAlloc_ok h
 case box=>exact bBox_ok h
 case build=>exact bBuild_ok h
 case buildSlice=>exact bBuildSlice_ok h
 case load=>exact bLoad_ok h
 case store=>exact bStore_ok h
 case nilCheck=>exact bNil_ok h
 case binOp=>exact bBin_ok h
 case unOp=>
  cases a<;>first | (cases h; done) | skip
  simp only [Bool.and_eq_true,decide_eq_true_eq] at h
  obtain ⟨rfl,h1⟩:=h
  exact .un _ _ _ _ (arB_ok h1)
 case convert=>exact bConv_ok h
 case makeInterface=>exact bMi_ok h
 case typeAssert=>exact bTa_ok h
 case makeFunc fn xs ys=>
  cases fn<;>first | (cases h; done) | skip
  cases a<;>first | (cases h; done) | skip
  rename_i i g b c
  cases g<;>first | (cases h; done) | skip
  simp only [Bool.and_eq_true,beq_iff_eq] at h
  obtain ⟨rfl,h1,h2⟩:=h
  exact .mkFunc _ _ _ _ _ (arlB_ok h1) (arlB_ok h2)
 case makeMap t r=>
  cases a<;>first | (cases h; done) | skip
  cases r with
  | none=>exact .mkMap _
  | some _=>cases h
 case mapUpdate=>exact (bMu_ok h).1
 case insert=>exact (bMu_ok h).2
 case lookup=>exact bLk_ok h
 case makeSlice=>exact bMs_ok h
 case slice=>exact bSl_ok h
 case fieldAddr=>exact bFa_ok h
 case field=>exact bFd_ok h
 case indexAddr=>exact bIa_ok h
 case index=>exact bIx_ok h
 case extract=>exact bEx_ok h
 case call=>exact bCall_ok h
 case panic=>
  cases a<;>first | (cases h; done) | skip
  exact .panic _ _ (arB_ok h)
 case range=>
  cases a<;>first | (cases h; done) | skip
  ·simp only [Bool.and_eq_true] at h
   obtain ⟨h1,h2⟩:=h
   split at h2<;>first | (cases h2; done) | skip
   rename_i hu
   exact .range _ _ _ (arB_ok h1) hu
  ·simp only [Bool.and_eq_true] at h
   obtain ⟨h1,h2⟩:=h
   split at h2<;>first | (cases h2; done) | skip
   rename_i hu
   exact .rangeM _ _ _ _ _ (arB_ok h1) hu
 case next=>
  cases a<;>first | (cases h; done) | skip
  ·simp only [Bool.and_eq_true] at h
   obtain ⟨rfl,h1⟩:=h
   exact .next _ _ (arB_ok h1)
  ·simp only [Bool.and_eq_true,Bool.not_eq_true'] at h
   obtain ⟨rfl,h1⟩:=h
   exact .nextM _ _ (arB_ok h1)
 case entry=>
  cases a<;>first | (cases h; done) | skip
  exact .entry _ _ (arB_ok h)
end
end Go.Am
namespace Go.Am
def setb (m i:Nat):Nat:=m ||| (1 <<< i)
theorem setb_bit (m i j:Nat):(setb m i).testBit j=(m.testBit j || decide (i=j)):=by
 unfold setb
 rw [Nat.testBit_or,Nat.one_shiftLeft,Nat.testBit_two_pow]
section
variable (P:Program) (ng nt:Nat)
def dsB (d:Option Tmp) (a:Ds):Bool:=match d,a with
 | none,.no=>true
 | some t,.to p=>decide (p.val=t + 1) && decide (t < nt)
 | _,_=>false
def gdB (os:Array Oper) (g:Option (Nat × Bool)) (a:Gd):Bool:=match g,a with
 | none,.no=>true
 | some (j,b),.on p b'=>b == b' && (match os[j]? with | some o=>(match o.dst with | some t=>decide (p.val=t + 1) && decide (t < nt) | none=>false) | none=>false)
 | _,_=>false
def operB (os:Array Oper) (o:Oper) (g:Gd) (d:Ds) (a:AO):Bool:=opB P ng nt o.op a && (dsB nt o.dst d && gdB nt os o.guard g)
def alB (o:Op) (ak:AK):Bool:=match o,ak with
 | .alloc t,.a cs=>bAlloc P t (.al cs)
 | .buildSlice t n ps,.s m zs l=>(match P.underlying t with
  | some (.slice e)=>bBuildSlice P ng nt t n ps (.bs zs m (((P.info? e).map (·.size)).getD 0) l)
  | _=>false)
 | _,_=>false
def alItB (os:Array Oper) (o:Oper) (g:Gd) (p:Pos) (ak:AK):Bool:=gdB nt os o.guard g && (dsB nt o.dst (.to p) && alB P ng nt o.op ak)
variable {P} {ng nt}
theorem dsB_ok {d:Option Tmp} {a:Ds} (h:dsB nt d a=true):DsOK nt d a:=by
 cases d<;>cases a<;>first | (cases h; done) | exact .no | skip
 simp only [dsB,Bool.and_eq_true,decide_eq_true_eq] at h
 exact .to _ _ h.1 h.2
theorem gdB_ok {os:Array Oper} {g:Option (Nat × Bool)} {a:Gd} (h:gdB nt os g a=true):GdOK nt os g a:=by
 cases g<;>cases a<;>first | (cases h; done) | exact .no | skip
 rename_i jb p b'
 obtain ⟨j,b⟩:=jb
 simp only [gdB,Bool.and_eq_true,beq_iff_eq] at h
 obtain ⟨rfl,h1⟩:=h
 split at h1<;>first | (cases h1; done) | skip
 rename_i o ho
 split at h1<;>first | (cases h1; done) | skip
 rename_i t ht
 simp only [Bool.and_eq_true,decide_eq_true_eq] at h1
 exact .on j b o t p ho ht h1.1 h1.2
theorem operB_ok {os:Array Oper} {o:Oper} {g:Gd} {d:Ds} {a:AO} (h:operB P ng nt os o g d a=true):OperOK P ng nt os o g d a:=by
 simp only [operB,Bool.and_eq_true] at h
 exact ⟨opB_ok h.1,dsB_ok h.2.1,gdB_ok h.2.2⟩
theorem alB_ok {o:Op} {ak:AK} (h:alB P ng nt o ak=true):AlOK P ng nt o ak:=by
 cases o<;>first | (cases h; done) | skip
 case alloc t=>
  cases ak<;>first | (cases h; done) | skip
  rename_i cs
  have h1:OpOK P ng nt (.alloc t) (.al cs):=bAlloc_ok h
  cases h1 with
  | alloc _ v _ hz hc=>exact .al _ v _ hz hc
 case buildSlice t n ps=>
  cases ak<;>first | (cases h; done) | skip
  rename_i m zs l
  simp only [alB] at h
  split at h
  ·have h1:=bBuildSlice_ok h
   cases h1 with
   | buildSlice _ _ _ e s v _ _ hu hs hn hz hv hs0 hc hp=>exact .bs _ _ _ e _ v _ _ hu hs hn hz hv hc hp
  ·cases h
theorem alItB_ok {os:Array Oper} {o:Oper} {g:Gd} {p:Pos} {ak:AK} (h:alItB P ng nt os o g p ak=true):AlItem P ng nt os o g p ak:=by
 simp only [alItB,Bool.and_eq_true] at h
 refine ⟨gdB_ok h.1,?_,alB_ok h.2.2⟩
 have h1:=h.2.1
 cases hd:o.dst with
 | none=>rw [hd] at h1; cases h1
 | some tt=>
  rw [hd] at h1
  simp only [dsB,Bool.and_eq_true,decide_eq_true_eq] at h1
  exact ⟨tt,rfl,h1.1,h1.2⟩
end
section
variable (os:Array Oper)
def deps (i:Nat):List Nat:=match os[i]? with
 | some o=>o.after.toList.filterMap fun e=>if Region.binds .any e then some e.on else none
 | none=>[]
def look:List (Nat × Nat)→Nat→Nat
 | [],_=>0
 | (j,m) :: l,i=>if j == i then m else look l i
def orAll (tab:List (Nat × Nat)):List Nat→Nat
 | []=>0
 | j :: l=>setb (look tab j) j ||| orAll tab l
def ordD:DL→List Nat
 | .z=>[]
 | .q i _ _ _ l | .l i _ _ _ l | .rs i _ _ _ l=>i :: ordD l
 | .ck _ _ _ _ l | .pt _ _ _ _ l=>ordD l
def ancs:List Nat→List (Nat × Nat)→List (Nat × Nat)
 | [],tab=>tab
 | i :: l,tab=>ancs l ((i,orAll tab (deps os i)) :: tab)
def TabSound (tab:List (Nat × Nat)):Prop:=∀ y x,(look tab y).testBit x=true→Bef os x y
variable {os}
theorem deps_bef {i j:Nat} (h:j∈deps os i):Bef os j i:=by
 unfold deps at h
 split at h
 ·rename_i o ho
  obtain ⟨e,he,hb⟩:=List.mem_filterMap.1 h
  split at hb
  ·rename_i hbi
   cases hb
   exact .edge i o e ho (by simpa using he) hbi
  ·cases hb
 ·cases h
theorem mem_deps {i:Nat} {o:Oper} {e:Edge} (ho:os[i]?=some o) (he:e∈o.after) (hb:Region.binds .any e=true):e.on∈deps os i:=by
 unfold deps
 rw [ho]
 exact List.mem_filterMap.2 ⟨e,by simpa using he,by rw [if_pos hb]⟩
theorem orAll_bit {tab:List (Nat × Nat)} {x:Nat}:∀ {l:List Nat},(orAll tab l).testBit x=true→∃ j∈l,x=j∨(look tab j).testBit x=true
 | [],h=>by simp [orAll] at h
 | j :: l,h=>by
  simp only [orAll,Nat.testBit_or,setb_bit,Bool.or_eq_true,decide_eq_true_eq] at h
  rcases h with (h | h) | h
  ·exact ⟨j,List.mem_cons_self,.inr h⟩
  ·exact ⟨j,List.mem_cons_self,.inl h.symm⟩
  ·obtain ⟨k,h1,h2⟩:=orAll_bit h
   exact ⟨k,List.mem_cons_of_mem _ h1,h2⟩
theorem ancs_sound:∀ {l:List Nat} {tab:List (Nat × Nat)},TabSound os tab→TabSound os (ancs os l tab)
 | [],_,h=>h
 | i :: l,tab,h=>ancs_sound (l:=l) fun y x hx=>by
  simp only [look] at hx
  split at hx
  ·rename_i he
   have he:i=y:=by simpa using he
   subst he
   obtain ⟨j,h1,h2⟩:=orAll_bit hx
   rcases h2 with rfl | h2
   ·exact deps_bef h1
   ·exact .trans x j i (h j x h2) (deps_bef h1)
  ·exact h y x hx
end
section
variable (os:Array Oper) (al:Nat→Gd × Pos × AK) (A:Nat→Nat)
def isWB (j v:Nat):Bool:=match os[j]? with
 | some o=>(match o.dst with | some tt=>v == tt + 1 | none=>false)
 | none=>false
structure St where
 d:Nat
 q:Nat
 r:Nat
 p:Nat
 f:Nat
 l:List Nat
def readsB (s:St) (i:Nat) (ps:List Pos):Bool:=ps.all fun p=>(List.range os.size).all fun j=>!isWB os j p.val || ((A i).testBit j || (!s.d.testBit j && (j != i && (A j).testBit i)))
def edgesB (s:St) (i:Nat):Bool:=(deps os i).all fun j=>s.d.testBit j
def freshB (s:St):Bool:=(List.range os.size).all fun i=>!s.q.testBit i || (s.f.testBit i || s.l.any fun n=>(A n).testBit i)
def putsOnlyB:DL→Bool
 | .z | .l ..=>true
 | .pt _ _ _ _ l=>putsOnlyB l
 | _=>false
def statB:St→DL→Bool
 | s,.z=>(List.range os.size).all (fun i=>s.d.testBit i) && freshB os A s
 | s,.q i g _ ao l=>!s.d.testBit i && (edgesB os s i && (readsB os A s i (gdT g ++ opT ao) && statB ⟨setb s.d i,setb s.q i,s.r,s.p,setb s.f i,s.l⟩ l))
 | s,.l n g _ ao l=>!s.d.testBit n && (edgesB os s n && ((List.range os.size).all (fun i=>s.d.testBit i || (i == n || (A i).testBit n)) && (freshB os A s && (readsB os A s n (gdT g ++ opT ao) && statB ⟨setb s.d n,s.q,s.r,s.p,0,n :: s.l⟩ l))))
 | s,.ck i g _ ao l=>s.q.testBit i && (readsB os A s i (gdT g ++ opT ao) && statB ⟨s.d,s.q,s.r,s.p,setb s.f i,s.l⟩ l)
 | s,.rs i g p ak l=>!s.d.testBit i && (edgesB os s i && (decide (al i=(g,p,ak)) && (readsB os A s i (gdT g ++ akT ak) && statB ⟨setb s.d i,s.q,setb s.r i,s.p,0,s.l⟩ l)))
 | s,.pt i g p ak l=>s.r.testBit i && (!s.p.testBit i && (decide (al i=(g,p,ak)) && (readsB os A s i (gdT g ++ akT ak) && ((match nextL l with | none=>true | some n=>(A n).testBit i) && (putsOnlyB l && statB ⟨s.d,s.q,s.r,setb s.p i,s.f,s.l⟩ l)))))
structure StOK (s:St) (pre:Its):Prop where
 d:∀ i,s.d.testBit i=true↔inD pre i
 q:∀ i,s.q.testBit i=true↔(IK.q,i)∈pre
 r:∀ i,s.r.testBit i=true↔(IK.r,i)∈pre
 p:∀ i,s.p.testBit i=true↔(IK.p,i)∈pre
 f:∀ i,s.f.testBit i=true→i∈freshQ pre
 l:∀ n∈s.l,(IK.l,n)∈pre
 anc:∀ i,inD pre i→∀ x,Bef os x i→inD pre x
 lt:∀ i,(IK.q,i)∈pre→i < os.size
variable {os al A}
theorem isWB_of {j:Nat} {p:Pos} (h:isW os j p):isWB os j p.val=true:=by
 obtain ⟨o,tt,h1,h2,h3⟩:=h
 simp [isWB,h1,h2,h3]
theorem isW_lt {j:Nat} {p:Pos} (h:isW os j p):j < os.size:=by
 obtain ⟨o,tt,h1,h2,h3⟩:=h
 exact (Array.getElem?_eq_some_iff.1 h1).1
theorem readsB_ok {s:St} {pre:Its} (hA:∀ y x,(A y).testBit x=true→Bef os x y) (hs:StOK os s pre) {i:Nat} {ps:List Pos} (h:readsB os A s i ps=true):ReadsOK os pre i ps:=by
 intro p hp j hj
 have h1:=List.all_eq_true.1 (List.all_eq_true.1 h p hp) j (List.mem_range.2 (isW_lt hj))
 rw [isWB_of hj] at h1
 simp only [Bool.not_true,Bool.false_or,Bool.or_eq_true,Bool.and_eq_true,Bool.not_eq_true',bne_iff_ne,ne_eq] at h1
 rcases h1 with h1 | ⟨h1,h2,h3⟩
 ·exact .inl (hA _ _ h1)
 ·refine .inr ⟨fun hd=>?_,h2,hA _ _ h3⟩
  rw [(hs.d j).2 hd] at h1; cases h1
theorem edgesB_ok {s:St} {pre:Its} (hs:StOK os s pre) {i:Nat} (h:edgesB os s i=true):∀ x,Bef os x i→inD pre x:=by
 have key:∀ x y,Bef os x y→y=i→inD pre x:=by
  intro x y hb
  induction hb with
  | edge y o e hy he hb=>
   intro hyi; subst hyi
   exact (hs.d _).1 (List.all_eq_true.1 h _ (mem_deps hy he hb))
  | trans x y z _ _ ih1 ih2=>
   intro hzi
   exact hs.anc y (ih2 hzi) x (by assumption)
 exact fun x hx=>key x i hx rfl
theorem freshB_ok {s:St} {pre:Its} (hA:∀ y x,(A y).testBit x=true→Bef os x y) (hs:StOK os s pre) (h:freshB os A s=true):FreshOK os pre:=by
 intro i hi
 have h1:=List.all_eq_true.1 h i (List.mem_range.2 (hs.lt i hi))
 rw [(hs.q i).2 hi] at h1
 simp only [Bool.not_true,Bool.false_or,Bool.or_eq_true] at h1
 rcases h1 with h1 | h1
 ·exact .inl (hs.f i h1)
 ·obtain ⟨n,hn,hb⟩:=List.any_eq_true.1 h1
  exact .inr ⟨n,hs.l n hn,hA _ _ hb⟩
theorem putsOnlyB_ok:∀ {l:DL},putsOnlyB l=true→putsOnly l
 | .z,_=>trivial
 | .l ..,_=>trivial
 | .pt _ _ _ _ l,h=>putsOnlyB_ok (l:=l) h
 | .q ..,h=>by cases h
 | .ck ..,h=>by cases h
 | .rs ..,h=>by cases h
theorem StOK.anc' {s:St} {pre:Its} {k:IK} (hs:StOK os s pre) {i:Nat} (h:edgesB os s i=true) (hD:∀ j,inD ((k,i) :: pre) j↔j=i∨inD pre j):∀ j,inD ((k,i) :: pre) j→∀ x,Bef os x j→inD ((k,i) :: pre) x:=by
 intro j hj x hx
 rcases (hD j).1 hj with rfl | hj
 ·exact (hD x).2 (.inr (edgesB_ok hs h x hx))
 ·exact (hD x).2 (.inr (hs.anc j hj x hx))
theorem bitsD {m:Nat} {i:Nat} {Q:Nat→Prop} (hm:∀ j,m.testBit j=true↔Q j):∀ j,(setb m i).testBit j=true↔j=i∨Q j:=fun j=>by
 rw [setb_bit,Bool.or_eq_true,decide_eq_true_eq,hm]
 constructor
 ·rintro (h | h)
  ·exact .inr h
  ·exact .inl h.symm
 ·rintro (h | h)
  ·exact .inr h.symm
  ·exact .inl h
theorem statB_ok {P:Program} {ng nt:Nat} (hA:∀ y x,(A y).testBit x=true→Bef os x y):∀ {dl:DL} {s:St} {pre:Its} {its:Its},StOK os s pre→DOK P ng nt os its dl→statB os al A s dl=true→Stat os al pre dl:=by
 intro dl
 induction dl with
 | z=>
  intro s pre its hs _ h
  simp only [statB,Bool.and_eq_true] at h
  exact .z pre (fun i hi=>(hs.d i).1 (List.all_eq_true.1 h.1 i (List.mem_range.2 hi))) (freshB_ok hA hs h.2)
 | q i g d ao l ih=>
  intro s pre its hs hd h
  cases hd with | q _ o l' _ _ _ _ ho hop hqu hdl=>
  simp only [statB,Bool.and_eq_true,Bool.not_eq_true'] at h
  obtain ⟨h1,h2,h3,h4⟩:=h
  refine .q pre i g d ao l (fun hh=>by rw [(hs.d i).2 hh] at h1; cases h1) (edgesB_ok hs h2) (readsB_ok hA hs h3) (ih ?_ hdl h4)
  refine ⟨fun j=>(bitsD hs.d j).trans inD_q.symm,fun j=>(bitsD hs.q j).trans (by simp),fun j=>(hs.r j).trans (by simp),fun j=>(hs.p j).trans (by simp),fun j hj=>?_,fun n hn=>List.mem_cons_of_mem _ (hs.l n hn),hs.anc' h2 fun j=>inD_q,fun j hj=>?_⟩
  ·rw [setb_bit,Bool.or_eq_true,decide_eq_true_eq] at hj
   rcases hj with hj | hj
   ·exact List.mem_cons_of_mem _ (hs.f j hj)
   ·subst hj; exact List.mem_cons_self
  ·rcases List.mem_cons.1 hj with hj | hj
   ·cases hj; exact (Array.getElem?_eq_some_iff.1 ho).1
   ·exact hs.lt j hj
 | l n g d ao l ih=>
  intro s pre its hs hd h
  cases hd with | l _ o l' _ _ _ _ ho hop hdl=>
  simp only [statB,Bool.and_eq_true,Bool.not_eq_true'] at h
  obtain ⟨h1,h2,h3,h4,h5,h6⟩:=h
  refine .l pre n g d ao l (fun hh=>by rw [(hs.d n).2 hh] at h1; cases h1) (fun i hi hn=>?_) (freshB_ok hA hs h4) (readsB_ok hA hs h5) (ih ?_ hdl h6)
  ·have:=List.all_eq_true.1 h3 i (List.mem_range.2 hi)
   simp only [Bool.or_eq_true,beq_iff_eq] at this
   rcases this with h | h | h
   ·exact absurd ((hs.d i).1 h) hn
   ·exact .inl h
   ·exact .inr (hA _ _ h)
  ·refine ⟨fun j=>(bitsD hs.d j).trans inD_l.symm,fun j=>(hs.q j).trans (by simp),fun j=>(hs.r j).trans (by simp),fun j=>(hs.p j).trans (by simp),fun j hj=>by simp at hj,fun m hm=>?_,hs.anc' h2 fun j=>inD_l,fun j hj=>hs.lt j (by simpa using hj)⟩
   rcases List.mem_cons.1 hm with rfl | hm
   ·exact List.mem_cons_self
   ·exact List.mem_cons_of_mem _ (hs.l m hm)
 | ck i g d ao l ih=>
  intro s pre its hs hd h
  cases hd with | c _ o l' _ _ _ _ ho hop hqu hdl=>
  simp only [statB,Bool.and_eq_true] at h
  obtain ⟨h1,h2,h3⟩:=h
  refine .c pre i g d ao l ((hs.q i).1 h1) (readsB_ok hA hs h2) (ih ?_ hdl h3)
  refine ⟨fun j=>(hs.d j).trans inD_c.symm,fun j=>(hs.q j).trans (by simp),fun j=>(hs.r j).trans (by simp),fun j=>(hs.p j).trans (by simp),fun j hj=>?_,fun n hn=>List.mem_cons_of_mem _ (hs.l n hn),fun j hj x hx=>inD_c.2 (hs.anc j (inD_c.1 hj) x hx),fun j hj=>hs.lt j (by simpa using hj)⟩
  rw [setb_bit,Bool.or_eq_true,decide_eq_true_eq] at hj
  rcases hj with hj | hj
  ·exact List.mem_cons_of_mem _ (hs.f j hj)
  ·subst hj; exact List.mem_cons_self
 | rs i g p ak l ih=>
  intro s pre its hs hd h
  cases hd with | r _ o l' _ _ _ _ ho hal hdl=>
  simp only [statB,Bool.and_eq_true,Bool.not_eq_true',decide_eq_true_eq] at h
  obtain ⟨h1,h2,h3,h4,h5⟩:=h
  refine .r pre i g p ak l (fun hh=>by rw [(hs.d i).2 hh] at h1; cases h1) (edgesB_ok hs h2) h3 (readsB_ok hA hs h4) (ih ?_ hdl h5)
  exact ⟨fun j=>(bitsD hs.d j).trans inD_r.symm,fun j=>(hs.q j).trans (by simp),fun j=>(bitsD hs.r j).trans (by simp),fun j=>(hs.p j).trans (by simp),fun j hj=>by simp at hj,fun n hn=>List.mem_cons_of_mem _ (hs.l n hn),hs.anc' h2 fun j=>inD_r,fun j hj=>hs.lt j (by simpa using hj)⟩
 | pt i g p ak l ih=>
  intro s pre its hs hd h
  cases hd with | p _ o l' _ _ _ _ ho hal hdl=>
  simp only [statB,Bool.and_eq_true,Bool.not_eq_true',decide_eq_true_eq] at h
  obtain ⟨h1,h2,h3,h4,h5,h6,h7⟩:=h
  refine .p pre i g p ak l ((hs.r i).1 h1) (fun hh=>by rw [(hs.p i).2 hh] at h2; cases h2) h3 (readsB_ok hA hs h4) (fun n hn=>?_) (putsOnlyB_ok h6) (ih ?_ hdl h7)
  ·rw [hn] at h5; exact hA _ _ h5
  ·exact ⟨fun j=>(hs.d j).trans inD_p.symm,fun j=>(hs.q j).trans (by simp),fun j=>(hs.r j).trans (by simp),fun j=>(bitsD hs.p j).trans (by simp),fun j hj=>hs.f j hj,fun n hn=>List.mem_cons_of_mem _ (hs.l n hn),fun j hj x hx=>inD_p.2 (hs.anc j (inD_p.1 hj) x hx),fun j hj=>hs.lt j (by simpa using hj)⟩
end
section
variable (P:Program) (ng nt:Nat) (os:Array Oper)
def dokB:DL→Bool
 | .z=>true
 | .q i g d ao l=>(match os[i]? with | some o=>operB P ng nt os o g d ao && quiet ao | none=>false) && dokB l
 | .l i g d ao l=>(match os[i]? with | some o=>operB P ng nt os o g d ao | none=>false) && dokB l
 | .ck i g d ao l=>(match os[i]? with | some o=>operB P ng nt os o g d ao && quiet ao | none=>false) && dokB l
 | .rs i g p ak l=>(match os[i]? with | some o=>alItB P ng nt os o g p ak | none=>false) && dokB l
 | .pt i g p ak l=>(match os[i]? with | some o=>alItB P ng nt os o g p ak | none=>false) && dokB l
def alOf:DL→Nat→Gd × Pos × AK
 | .z,_=>(.no,.h,.a .z)
 | .rs j g p ak l,i=>if j == i then (g,p,ak) else alOf l i
 | .q _ _ _ _ l,i | .l _ _ _ _ l,i | .ck _ _ _ _ l,i | .pt _ _ _ _ l,i=>alOf l i
def dstB (i:Nat):Option Tmp:=(os[i]?).bind (·.dst)
def oneB:Bool:=(List.range os.size).all fun i=>(List.range i).all fun j=>match dstB os i,dstB os j with | some a,some b=>a != b | _,_=>true
def rkOf (l:List Nat) (i:Nat):Nat:=l.idxOf i
def rankB (l:List Nat):Bool:=(List.range os.size).all fun y=>(deps os y).all fun x=>decide (x < os.size) && decide (rkOf l x < rkOf l y)
def ktB (kt:List Pos):Bool:=kt.all fun p=>(List.range os.size).all fun j=>!isWB os j p.val
def drB (kt:List Pos) (x:DL):Bool:=
 dokB P ng nt os x && (statB os (alOf x) (look (ancs os (ordD x) [])) ⟨0,0,0,0,0,[]⟩ x && (oneB os && (rankB os (ordD x) && ktB os kt)))
variable {P} {ng nt} {os}
theorem dokB_ok:∀ {x:DL},dokB P ng nt os x=true→∃ its,DOK P ng nt os its x:=by
 intro x
 induction x with
 | z=>intro _; exact ⟨[],.z⟩
 | q i g d ao l ih=>
  intro h
  simp only [dokB,Bool.and_eq_true] at h
  obtain ⟨its,hi⟩:=ih h.2
  have h1:=h.1
  split at h1
  ·rename_i o ho
   simp only [Bool.and_eq_true] at h1
   exact ⟨_,.q i o its g d ao l ho (operB_ok h1.1) h1.2 hi⟩
  ·cases h1
 | l i g d ao l ih=>
  intro h
  simp only [dokB,Bool.and_eq_true] at h
  obtain ⟨its,hi⟩:=ih h.2
  have h1:=h.1
  split at h1
  ·rename_i o ho
   exact ⟨_,.l i o its g d ao l ho (operB_ok h1) hi⟩
  ·cases h1
 | ck i g d ao l ih=>
  intro h
  simp only [dokB,Bool.and_eq_true] at h
  obtain ⟨its,hi⟩:=ih h.2
  have h1:=h.1
  split at h1
  ·rename_i o ho
   simp only [Bool.and_eq_true] at h1
   exact ⟨_,.c i o its g d ao l ho (operB_ok h1.1) h1.2 hi⟩
  ·cases h1
 | rs i g p ak l ih=>
  intro h
  simp only [dokB,Bool.and_eq_true] at h
  obtain ⟨its,hi⟩:=ih h.2
  have h1:=h.1
  split at h1
  ·rename_i o ho
   exact ⟨_,.r i o its g p ak l ho (alItB_ok h1) hi⟩
  ·cases h1
 | pt i g p ak l ih=>
  intro h
  simp only [dokB,Bool.and_eq_true] at h
  obtain ⟨its,hi⟩:=ih h.2
  have h1:=h.1
  split at h1
  ·rename_i o ho
   exact ⟨_,.p i o its g p ak l ho (alItB_ok h1) hi⟩
  ·cases h1
theorem oneB_ok (h:oneB os=true):OneW os:=by
 have key:∀ i j p,isW os i p→isW os j p→j < i→False:=by
  intro i j p hi hj hlt
  have h1:=List.all_eq_true.1 (List.all_eq_true.1 h i (List.mem_range.2 (isW_lt hi))) j (List.mem_range.2 hlt)
  obtain ⟨o,tt,a1,a2,a3⟩:=hi
  obtain ⟨o',tt',b1,b2,b3⟩:=hj
  simp [dstB,a1,a2,b1,b2] at h1
  exact h1 (Nat.succ.inj (a3.symm.trans b3))
 intro i j p hi hj
 rcases Nat.lt_trichotomy i j with hlt | heq | hlt
 ·exact (key j i p hj hi hlt).elim
 ·exact heq
 ·exact (key i j p hi hj hlt).elim
theorem rankB_ok {l:List Nat} (h:rankB os l=true):RankOK os (rkOf l):=by
 intro y o e hy he hb
 have h1:=List.all_eq_true.1 (List.all_eq_true.1 h y (List.mem_range.2 (Array.getElem?_eq_some_iff.1 hy).1)) _ (mem_deps hy he hb)
 simpa using h1
theorem ktB_ok {kt:List Pos} (h:ktB os kt=true):∀ p,p∈kt→¬ ∃ i,isW os i p:=by
 rintro p hp ⟨j,hj⟩
 have h1:=List.all_eq_true.1 (List.all_eq_true.1 h p hp) j (List.mem_range.2 (isW_lt hj))
 rw [isWB_of hj] at h1
 cases h1
theorem drB_ok {kt:List Pos} {x:DL} {rd:Bool} {id:Nat} (hm:P.follows .mixedOrders=true) (h:drB P ng nt os kt x=true):CodeOK P ng nt (fun p=>p∈kt) rd (.region id os true) (.dr x):=by
 simp only [drB,Bool.and_eq_true] at h
 obtain ⟨h1,h2,h3,h4,h5⟩:=h
 obtain ⟨its,hd⟩:=dokB_ok h1
 have hA:∀ y x',(look (ancs os (ordD x) []) y).testBit x'=true→Bef os x' y:=ancs_sound (l:=ordD x) (tab:=[]) fun y x hx=>by simp [look] at hx
 refine .drawn _ _ id os x _ its _ hd (statB_ok hA ?_ hd h2) (oneB_ok h3) (rankB_ok h4) (ktB_ok h5) hm
 exact ⟨(fun i=>by simp [inD]),(fun i=>by simp),(fun i=>by simp),(fun i=>by simp),(fun i hi=>by simp at hi),(fun n hn=>by simp at hn),(fun i hi=>by simp [inD] at hi),(fun i hi=>by simp at hi)⟩
end
end Go.Am
namespace Go.Am
section
variable (P:Program) (ng nt:Nat)
def opsB (os:Array Oper):List Oper→OL→Bool
 | [],.z=>true
 | o :: l,.c g d a b=>operB P ng nt os o g d a && opsB os l b
 | _,_=>false
def plB:List Tmp→PL→Bool
 | [],.z=>true
 | t :: l,.c p pl=>decide (p.val=t + 1) && (decide (t < nt) && plB l pl)
 | _,_=>false
def codB:List Pos→Bool→Code→AC→Bool
 | kt,rd,.scope a,x=>codB kt rd a x
 | _,_,.skip,.sk=>true
 | _,_,.label _,.sk=>true
 | _,_,.region _ os drawn,.rg l=>!drawn && opsB P ng nt os os.toList l
 | kt,_,.region _ os drawn,.dr x=>drawn && drB P ng nt os kt x
 | kt,rd,.seq a b,.sq x y=>codB kt rd a x && codB kt rd b y
 | kt,rd,.cond c a b,.cd z x y=>arB ng nt c z && (codB kt rd a x && codB kt rd b y)
 | kt,rd,.block id a,.bl id' x=>id == id' && codB kt rd a x
 | kt,rd,.loop a,.lp x=>codB kt rd a x
 | _,_,.exit id,.ex id'=>id == id'
 | _,_,.ret,.rt=>true
 | _,rd,.rangeFunc f ps as bd,.rf z pl x y=>rd && (arB ng nt f z && (plB nt ps.toList pl && (codB [] false as x && codB [] false bd y)))
 | _,_,_,_=>false
def psB:Nat→PL→Bool
 | _,.z=>true
 | i,.c p l=>decide (p.val=i + 1) && psB (i + 1) l
def rsB (x:ResultVar) (r:RS):Bool:=match x,r with
 | .tmp t,.t p=>decide (p.val=t + 1) && decide (t < nt)
 | .cell t ty,.c1 p=>decide (p.val=t + 1) && (decide (t < nt) && agB P ty false)
 | .cell t ty,.cn p n=>decide (p.val=t + 1) && (decide (t < nt) && (agB P ty true && szB P ty n))
 | _,_=>false
def rlB:List ResultVar→RL→Bool
 | [],.z=>true
 | x :: l,.c r rl=>rsB P nt x r && rlB l rl
 | _,_=>false
variable {P} {ng nt}
theorem opsB_ok {os:Array Oper}:∀ {l:List Oper} {ol:OL},opsB P ng nt os l ol=true→OpsOK P ng nt os l ol
 | [],.z,_=>.z
 | o :: l,.c g d a b,h=>by
  simp only [opsB,Bool.and_eq_true] at h
  exact .c o l g d a b (operB_ok h.1) (opsB_ok h.2)
theorem plB_ok:∀ {l:List Tmp} {pl:PL},plB nt l pl=true→PlOK nt l pl
 | [],.z,_=>.z
 | t :: l,.c p pl,h=>by
  simp only [plB,Bool.and_eq_true,decide_eq_true_eq] at h
  exact .c t p l pl h.1 h.2.1 (plB_ok h.2.2)
theorem kt_nil:(fun p:Pos=>p∈([]:List Pos))=fun _=>False:=by funext p; simp
theorem codB_ok (hm:P.follows .mixedOrders=true):∀ {c:Code} {kt:List Pos} {rd:Bool} {x:AC},codB P ng nt kt rd c x=true→CodeOK P ng nt (fun p=>p∈kt) rd c x:=by
 intro c
 induction c with
 | skip=>intro kt rd x h; cases x<;>first | (cases h; done) | exact .skip _ _
 | label l=>intro kt rd x h; cases x<;>first | (cases h; done) | exact .label _ _ l
 | region id os drawn=>
  intro kt rd x h
  cases x<;>first | (cases h; done) | skip
  ·simp only [codB,Bool.and_eq_true] at h
   obtain ⟨rfl,h1⟩:=h
   exact drB_ok hm h1
  ·simp only [codB,Bool.and_eq_true,Bool.not_eq_true'] at h
   obtain ⟨rfl,h1⟩:=h
   exact .region _ _ _ _ _ (opsB_ok h1)
 | seq a b ih1 ih2=>
  intro kt rd x h
  cases x<;>first | (cases h; done) | skip
  simp only [codB,Bool.and_eq_true] at h
  exact .seq _ _ _ _ _ _ (ih1 h.1) (ih2 h.2)
 | cond z a b ih1 ih2=>
  intro kt rd x h
  cases x<;>first | (cases h; done) | skip
  simp only [codB,Bool.and_eq_true] at h
  exact .cond _ _ _ _ _ _ _ _ (arB_ok h.1) (ih1 h.2.1) (ih2 h.2.2)
 | block id a ih=>
  intro kt rd x h
  cases x<;>first | (cases h; done) | skip
  simp only [codB,Bool.and_eq_true,beq_iff_eq] at h
  obtain ⟨rfl,h1⟩:=h
  exact .block _ _ _ _ _ (ih h1)
 | loop a ih=>
  intro kt rd x h
  cases x<;>first | (cases h; done) | skip
  exact .loop _ _ _ _ (ih h)
 | scope a ih=>intro kt rd x h; exact .scope _ _ _ _ (ih (by simpa only [codB] using h))
 | exit id=>
  intro kt rd x h
  cases x<;>first | (cases h; done) | skip
  have h:=eq_of_beq (show (id == _)=true from h)
  subst h
  exact .exit _ _ _
 | ret=>intro kt rd x h; cases x<;>first | (cases h; done) | exact .ret _ _
 | rangeFunc f ps as bd ih1 ih2=>
  intro kt rd x h
  cases x<;>first | (cases h; done) | skip
  simp only [codB,Bool.and_eq_true] at h
  obtain ⟨rfl,h1,h2,h3,h4⟩:=h
  have k1:=ih1 h3
  have k2:=ih2 h4
  rw [kt_nil] at k1 k2
  exact .rangeF _ _ _ _ _ _ _ _ _ (arB_ok h1) (plB_ok h2) k1 k2
 | _=>intro kt rd x h; cases x<;>cases h
theorem psB_ok:∀ {l:PL} {i:Nat},psB i l=true→PsOK i l:=by
 intro l
 induction l with
 | z=>intro i _; exact .z i
 | c p l ih=>
  intro i h
  simp only [psB,Bool.and_eq_true,decide_eq_true_eq] at h
  exact .c i p l h.1 (ih h.2)
theorem rsB_ok {x:ResultVar} {r:RS} (h:rsB P nt x r=true):RsOK P nt x r:=by
 cases x<;>cases r<;>first | (cases h; done) | skip
 ·simp only [rsB,Bool.and_eq_true,decide_eq_true_eq] at h
  exact .t _ _ h.1 h.2
 ·simp only [rsB,Bool.and_eq_true,decide_eq_true_eq] at h
  exact .c1 _ _ _ h.1 h.2.1 (agB_ok h.2.2)
 ·simp only [rsB,Bool.and_eq_true,decide_eq_true_eq] at h
  exact .cn _ _ _ _ h.1 h.2.1 (agB_ok h.2.2.1) (szB_ok h.2.2.2)
theorem rlB_ok:∀ {l:List ResultVar} {rl:RL},rlB P nt l rl=true→RlOK P nt l rl
 | [],.z,_=>.z
 | x :: l,.c r rl,h=>by
  simp only [rlB,Bool.and_eq_true] at h
  exact .c x l r rl (rsB_ok h.1) (rlB_ok h.2)
end
def fnB (P:Program) (ng f:Nat) (d:FD):Bool:=match d with
 | .mk ps rs one body=>match P.funcs[f]? with
  | some fn=>(match fn.body with
   | some c => (fn.name != "runtime.NumGoroutine") && (codB P ng fn.ntmps [] true c body && (psB 0 ps && (rlB P fn.ntmps fn.results.toList rs && (one == (fn.results.size == 1)))))
   | none=>false)
  | none=>false
 | _=>false
theorem fnB_ok {P:Program} {ng f:Nat} {d:FD} (hm:P.follows .mixedOrders=true) (h:fnB P ng f d=true):FdOK P ng f d:=by
 cases d<;>first | (cases h; done) | skip
 simp only [fnB] at h
 split at h<;>first | (cases h; done) | skip
 rename_i fn hf
 split at h<;>first | (cases h; done) | skip
 rename_i c hc
 simp only [Bool.and_eq_true,bne_iff_ne,ne_eq,beq_iff_eq] at h
 obtain ⟨h1,h2,h3,h4,h5⟩:=h
 exact ⟨fn,c,hf,hc,h1,kt_nil▸codB_ok hm h2,psB_ok h3,rlB_ok h4,h5⟩
end Go.Am
namespace Go.Am
section
variable (P:Program) (ng nt:Nat)
def dfB (g:Nat) (q:Pos) (cap:ArL) (os:Array Oper):Bool:=match os.toList with
 | [o1,o2]=>(match o1.op,o1.dst,o2.op with
  | .makeFunc (.func g') fs caps,some tt,.defer call=>(g' == g && (fs.isEmpty && (o1.guard.isNone && (o2.dst.isNone && o2.guard.isNone)))) && ((match call.callee with | .value (.tmp t')=>t' == tt | _=>false) && (call.args.isEmpty && (decide (q.val=tt + 1) && (decide (tt < nt) && arlB ng nt caps.toList cap))))
  | _,_,_=>false)
 | _=>false
def rcB (g:Nat) (ps:PL) (p6 p3:Pos) (body:AC):Bool:=match P.funcs[g]? with
 | some fn=>(match fn.body with
  | some (.seq (.region _ os false) rest)=>(match os.toList with
   | [o1,o2]=>(match o1.op,o1.dst,o2.dst with
    | .call call,some t6,some t3=>((match call.callee with | .builtin .recover=>true | _=>false) && (call.args.isEmpty && (o1.guard.isNone && o2.guard.isNone))) &&
     (((match o2.op with | .assign (.tmp t)=>t == t6 | .move (.tmp t)=>t == t6 | _=>false) && (decide (p6.val=t6 + 1) && (decide (t6 < fn.ntmps) && (decide (p3.val=t3 + 1) && decide (t3 < fn.ntmps))))) &&
     (codB P ng fn.ntmps [] false rest body && (psB 0 ps && (fn.results.isEmpty && fn.name != "runtime.NumGoroutine"))))
    | _,_,_=>false)
   | _=>false)
  | _=>false)
 | none=>false
def rpB (g:Nat) (ps:PL) (body:AC):Bool:=match P.funcs[g]? with
 | some fn=>(match fn.body with
  | some c => codB P ng fn.ntmps [] false c body && (psB 0 ps && (fn.results.isEmpty && fn.name != "runtime.NumGoroutine"))
  | none=>false)
 | none=>false
def dcB (kt:List Pos):Code→DC→Bool
 | .seq c d,.st x l=>codB P ng nt [] false c x && dcB kt d l
 | .seq (.region _ os false) rest,.df g q cap ps p6 p3 body x=>rcB P ng g ps p6 p3 body && (dfB ng nt g q cap os && codB P ng nt kt true rest x)
 | .seq (.region _ os false) rest,.dp g q cap ps body x=>rpB P ng g ps body && (dfB ng nt g q cap os && codB P ng nt kt true rest x)
 | _,_=>false
variable {P} {ng nt}
theorem dfB_ok {g:Nat} {q:Pos} {cap:ArL} {os:Array Oper} (h:dfB ng nt g q cap os=true):DfOK ng nt g q cap os:=by
 unfold dfB at h
 split at h<;>first | (cases h; done) | skip
 rename_i o1 o2 hos
 split at h<;>first | (cases h; done) | skip
 rename_i g' fs caps tt call h1 h2 h3
 simp only [Bool.and_eq_true,beq_iff_eq,Array.isEmpty_iff,Option.isNone_iff_eq_none,decide_eq_true_eq] at h
 obtain ⟨⟨rfl,rfl,h4,h5,h6⟩,h7,h8,h9,h10,h11⟩:=h
 split at h7<;>first | (cases h7; done) | skip
 rename_i t' hc
 have h7:=eq_of_beq h7
 subst h7
 exact ⟨o1,o2,caps,_,call,hos,h1,h2,h4,h3,h5,h6,hc,h8,h9,h10,arlB_ok h11⟩
theorem rcB_ok (hm:P.follows .mixedOrders=true) {g:Nat} {ps:PL} {p6 p3:Pos} {body:AC} (h:rcB P ng g ps p6 p3 body=true):RcOK P ng g ps p6 p3 body:=by
 unfold rcB at h
 split at h<;>first | (cases h; done) | skip
 rename_i fn hf
 split at h<;>first | (cases h; done) | skip
 rename_i id os rest hb
 split at h<;>first | (cases h; done) | skip
 rename_i o1 o2 hos
 split at h<;>first | (cases h; done) | skip
 rename_i call t6 t3 h1 h2 h3
 simp only [Bool.and_eq_true,Array.isEmpty_iff,Option.isNone_iff_eq_none,decide_eq_true_eq,bne_iff_ne,ne_eq] at h
 obtain ⟨⟨k1,k2,k3,k4⟩,⟨k5,k6,k7,k8,k9⟩,k10,k11,k12,k13⟩:=h
 split at k1<;>first | (cases k1; done) | skip
 rename_i hcal
 have hcall:call={ callee:=.builtin .recover,args:=#[],argTypes:=call.argTypes }:=by
  obtain ⟨c1,c2,c3⟩:=call
  simp only at hcal k2
  subst hcal; subst k2; rfl
 have hop:o2.op=.assign (.tmp t6)∨o2.op=.move (.tmp t6):=by
  split at k5
  ·rename_i t ho; have:=eq_of_beq k5; subst this; exact .inl ho
  ·rename_i t ho; have:=eq_of_beq k5; subst this; exact .inr ho
  ·cases k5
 exact ⟨fn,id,os,rest,o1,o2,t6,t3,call.argTypes,hf,hb,hos,by rw [h1,← hcall],h2,k3,hop,h3,k4,k6,k7,k8,k9,kt_nil▸codB_ok hm k10,psB_ok k11,k12,k13⟩
theorem rpB_ok (hm:P.follows .mixedOrders=true) {g:Nat} {ps:PL} {body:AC} (h:rpB P ng g ps body=true):RpOK P ng g ps body:=by
 unfold rpB at h
 split at h<;>first | (cases h; done) | skip
 rename_i fn hf
 split at h<;>first | (cases h; done) | skip
 rename_i c hb
 simp only [Bool.and_eq_true,Array.isEmpty_iff,bne_iff_ne,ne_eq] at h
 exact ⟨fn,c,hf,hb,kt_nil▸codB_ok hm h.1,psB_ok h.2.1,h.2.2.1,h.2.2.2⟩
theorem dcB_ok (hm:P.follows .mixedOrders=true) {kt:List Pos}:∀ {dc:DC} {c:Code},dcB P ng nt kt c dc=true→DcOK P ng nt (fun p=>p∈kt) c dc:=by
 intro dc
 induction dc with
 | st x l ih=>
  intro c h
  cases c<;>first | (cases h; done) | skip
  simp only [dcB,Bool.and_eq_true] at h
  exact .st _ _ _ _ (kt_nil▸codB_ok hm h.1) (ih h.2)
 | df g q cap ps p6 p3 body rest=>
  intro c h
  cases c<;>first | (cases h; done) | skip
  rename_i a b
  cases a<;>first | (cases h; done) | skip
  rename_i id os dr
  cases dr<;>first | (cases h; done) | skip
  simp only [dcB,Bool.and_eq_true] at h
  exact .df _ _ _ _ _ _ _ _ _ _ _ (rcB_ok hm h.1) (dfB_ok h.2.1) (codB_ok hm h.2.2)
 | dp g q cap ps body rest=>
  intro c h
  cases c<;>first | (cases h; done) | skip
  rename_i a b
  cases a<;>first | (cases h; done) | skip
  rename_i id os dr
  cases dr<;>first | (cases h; done) | skip
  simp only [dcB,Bool.and_eq_true] at h
  exact .dp _ _ _ _ _ _ _ _ _ (rpB_ok hm h.1) (dfB_ok h.2.1) (codB_ok hm h.2.2)
end
def dmB (P:Program) (ng f:Nat) (d:FD):Bool:=match d with
 | .dm ps rs one dc=>(match P.funcs[f]? with
  | some fn=>(match fn.body with
   | some c => (fn.name != "runtime.NumGoroutine") && (dcB P ng fn.ntmps (rlT rs) c dc && (psB 0 ps && (rlB P fn.ntmps fn.results.toList rs && (one == (fn.results.size == 1)))))
   | none=>false)
  | none=>false)
 | _=>false
theorem dmB_ok {P:Program} {ng f:Nat} {d:FD} (hm:P.follows .mixedOrders=true) (h:dmB P ng f d=true):FdOK P ng f d:=by
 cases d<;>first | (cases h; done) | skip
 simp only [dmB] at h
 split at h<;>first | (cases h; done) | skip
 rename_i fn hf
 split at h<;>first | (cases h; done) | skip
 rename_i c hc
 simp only [Bool.and_eq_true,bne_iff_ne,ne_eq,beq_iff_eq] at h
 obtain ⟨h1,h2,h3,h4,h5⟩:=h
 exact dm_ok ⟨fn,c,hf,hc,h1,dcB_ok hm h2,psB_ok h3,rlB_ok h4,h5⟩
end Go.Am
namespace Go.Am
def intsV (l:List Int):List Value:=l.map fun n=>.int .i64 n
def intsD (l:List Int):DataW Unit:=.agg (l.map fun n=>.lit (.int .i64 n))
def intsA:List Int→AV
 | []=>.z
 | n :: l=>.c (.n .i64 n) (intsA l)
theorem intsA_ok {φ:Ph}:∀ l:List Int,LR φ (intsA l) (intsV l)
 | []=>rfl
 | _ :: l=>⟨_,_,rfl,rfl,intsA_ok l⟩
section
variable {P:Program} {W:World}
theorem arr_cells {enc:TypeId × Value→Unit} {sp:Nat→Bool} {held:Bool} {base fuel:Nat} {t e:TypeId} {cs:List Value} {l:List Int} {p:List MemPlace} (ht:P.underlying t=some (.array l.length e)) (he:P.underlying e=some (.int .i64)) (hc:P.cellsOf e=1) (hct:P.cellsOf t=l.length)
  (h:DataW.trod enc P W base sp held fuel t cs=some (intsD l,p)):cs=intsV l:=by
 obtain ⟨xs,m,rfl,hx,hlen,hn,hel⟩:=DataW.trod_array ht h
 have hx1:xs.map (·.1)=l.map fun n=>DataW.lit (.int .i64 n):=by
  have:=congrArg Prod.fst hx
  simp only [intsD,DataW.agg.injEq] at this
  exact this.symm
 refine List.ext_getElem? fun i=>?_
 rw [hct] at hlen
 by_cases hi:i < l.length
 ·have h1:=hel i hi
  rw [hc,Nat.mul_one] at h1
  have hxi:i < xs.length:=by omega
  rw [List.getElem?_eq_getElem hxi] at h1
  obtain ⟨k,h2,h3,_⟩:=DataW.trod_int he h1
  have h4:(xs.map (·.1))[i]?=(l.map fun n=>DataW.lit (.int .i64 n))[i]?:=by rw [hx1]
  rw [List.getElem?_map,List.getElem?_map,List.getElem?_eq_getElem hxi,List.getElem?_eq_getElem hi,h3] at h4
  have h5:k=l[i]:=by simpa using h4
  have h6:cs[i]?=some (.int .i64 k):=by
   have:=congrArg List.head? h2
   rw [List.head?_take,if_neg (by omega),List.head?_drop] at this
   simpa using this
  rw [h6,intsV,List.getElem?_map,List.getElem?_eq_getElem hi,h5]; rfl
 ·rw [List.getElem?_eq_none (by omega),List.getElem?_eq_none (by simp [intsV]; omega)]
theorem laid_row {n:String} {g:Nat} {t e:TypeId} {cs:Array Value} {l:List Int} {fuel:Nat} {p ps:List MemPlace} {enc:TypeId × Value→Unit} {sp:Nat→Bool} {held:Bool} {base:Nat}
  (hg:P.globalNamed n=some g) (hv:W.var? P n=some cs) (ht:P.underlying t=some (.array l.length e)) (he:P.underlying e=some (.int .i64)) (hc:P.cellsOf e=1) (hct:P.cellsOf t=l.length)
  (hd:DataW.trod enc P W base sp held fuel t cs.toList=some (intsD l,p)) (hpos:0 < l.length) (hsub:∀ x∈MemPlace.row ⟨g,0,none⟩ cs.size,x∈ps)
  (hfr:∀ b off,MemPlace.cell b off∈ps→(∃ c t,W.heap[b]?=some (.cells c t (0,0)))):RowAt W (g,0,l.length) (intsV l):=by
 have hcs:=arr_cells ht he hc hct hd
 have hsz:cs.size=l.length:=by rw [← Array.length_toList,hcs]; simp [intsV]
 have hmem:MemPlace.cell g 0∈MemPlace.row ⟨g,0,none⟩ cs.size:=by
  unfold MemPlace.row
  simp
  omega
 obtain ⟨c,ty,hh⟩:=hfr g 0 (hsub _ hmem)
 have hce:c=cs:=by
  unfold World.var? at hv
  rw [hg] at hv
  simp only [Option.bind_some,hh] at hv
  exact Option.some.inj hv
 subst hce
 refine ⟨c,ty,(0,0),hh,hsz,by simp [intsV],fun i v hv=>?_,.inl (Nat.le_refl _)⟩
 rw [← hcs] at hv
 simpa using hv
def ph2 (n1 n2:Nat):Ph:=fun r=>if r.val=1 then some (0,0,n1) else if r.val=2 then some (1,0,n2) else none
def mem2 (a b:AV):H:=⟨.i .h,.n (.n .e (.ro b) .e) (.ro a) .e⟩
theorem mem2_get (a b:AV) (r:Pos):(mem2 a b).get r=if r.val=1 then .ro a else if r.val=2 then .ro b else .dead:=by
 match r with
 | .h=>rfl
 | .o .h=>rfl
 | .o (.o p)=>
  have:=p.val_pos
  have h1:(Pos.o (.o p)).val≠1:=by simp [Pos.val]; omega
  have h2:(Pos.o (.o p)).val≠2:=by simp [Pos.val]; omega
  rw [if_neg h1,if_neg h2]; exact PT.get_e _ _
 | .o (.i p)=>
  have:=p.val_pos
  have h1:(Pos.o (.i p)).val≠1:=by simp [Pos.val]; omega
  have h2:(Pos.o (.i p)).val≠2:=by simp [Pos.val]; omega
  rw [if_neg h1,if_neg h2]; exact PT.get_e _ _
 | .i p=>
  have:=p.val_pos
  have h1:(Pos.i p).val≠1:=by simp [Pos.val]; omega
  have h2:(Pos.i p).val≠2:=by simp [Pos.val]; omega
  rw [if_neg h1,if_neg h2]; exact PT.get_e _ _
theorem start2 {a b:List Int} (h0:RowAt W (0,0,a.length) (intsV a)) (h1:RowAt W (1,0,b.length) (intsV b)):HR P 2 (ph2 a.length b.length) (mem2 (intsA a) (intsA b)) W:=by
 have hp:∀ {r x},ph2 a.length b.length r=some x→(r.val=1∧x=(0,0,a.length))∨(r.val=2∧x=(1,0,b.length)):=fun {r x} h=>by
  unfold ph2 at h
  split at h
  ·cases h; exact .inl ⟨by assumption,rfl⟩
  ·split at h
   ·cases h; exact .inr ⟨by assumption,rfl⟩
   ·cases h
 have hlt:∀ {x:Nat × Nat × Nat} {vs:List Value},RowAt W x vs→x.1 < W.heap.size:=fun ⟨cs,e,fr,hh,_⟩=>(Array.getElem?_eq_some_iff.1 hh).1
 refine ⟨fun r hr=>?_,fun r q x y hm=>?_,fun r x hx=>?_,fun r x hx=>?_,fun r hr=>?_,(show 2 < 3 by decide)⟩
 ·rw [mem2_get] at hr ⊢
  by_cases e1:r.val=1
  ·rw [if_pos e1]
   exact ⟨(0,0,a.length),by unfold ph2; rw [if_pos e1],_,intsA_ok a,h0⟩
  ·by_cases e2:r.val=2
   ·rw [if_neg e1,if_pos e2]
    exact ⟨(1,0,b.length),by unfold ph2; rw [if_neg e1,if_pos e2],_,intsA_ok b,h1⟩
   ·rw [if_neg e1,if_neg e2] at hr; exact absurd rfl hr
 ·rw [mem2_get] at hm
  split at hm
  ·exact hm.elim
  ·split at hm
   ·exact hm.elim
   ·exact hm.elim
 ·rcases hp hx with ⟨e,_⟩ | ⟨e,_⟩<;>(show r.val < 3; omega)
 ·rcases hp hx with ⟨_,rfl⟩ | ⟨_,rfl⟩
  ·exact hlt h0
  ·exact hlt h1
 ·have:=r.val_pos
  by_cases e1:r.val=1
  ·exact ⟨a.length,by unfold ph2; rw [if_pos e1,e1]⟩
  ·have e2:r.val=2:=by omega
   exact ⟨b.length,by unfold ph2; rw [if_neg e1,if_pos e2,e2]⟩
theorem mem2_still (a b:AV):∀ r,¬ ((mem2 a b).get r).mine:=fun r hm=>by
 rw [mem2_get] at hm
 split at hm
 ·exact hm
 ·split at hm<;>exact hm
theorem run2 {f:FuncId} {run:AV→H→K→K→R} (hev:EvFn P 2 f run) {a b:List Int} (h0:RowAt W (0,0,a.length) (intsV a)) (h1:RowAt W (1,0,b.length) (intsV b)) {args:AV} {vs:Array Value} (hl:∀ φ,LR φ args vs.toList) {g:H}
  (e:run args (mem2 (intsA a) (intsA b)) (fun v h=>.ok v h) (fun v h=>.pan v h)=.ok (.b true) g):Calls P f vs W fun e w'=>e=.returned (.bool true)∧w'.tape=W.tape∧w'.os=W.os∧w'.output=W.output∧W.heap.size≤w'.heap.size∧∀ b,b < W.heap.size→w'.heap[b]?=W.heap[b]?:=by
 refine (hev args _ _ _ _ _ W vs.toList e trivial (start2 h0 h1) (hl _)).mono fun e w' ⟨ψ,g',h2,h3,h4⟩=>?_
 refine ⟨?_,h3.tape,h3.os,h3.output,h3.size,fun b hb=>h3.keep b hb fun ⟨r,x,_,_,hm⟩=>mem2_still _ _ r hm⟩
 cases e with
 | outgrown=>exact h4.elim
 | panicked ch=>obtain ⟨c,y,_,_,h5⟩:=h4; cases h5
 | returned v=>
  obtain ⟨y,hy,h5⟩:=h4
  cases h5
  rw [show v=.bool true from hy]
end
end Go.Am
namespace Go.Am
def tabAll (Q:Pos→FD→Prop):PT FD→Prop
 | .e=>True
 | .n l v r=>Q .h v∧tabAll (fun p=>Q (.o p)) l∧tabAll (fun p=>Q (.i p)) r
theorem tE {Q:Pos→FD→Prop}:tabAll Q .e:=trivial
theorem tN {Q:Pos→FD→Prop} {l r:PT FD} {v:FD} (hl:tabAll (fun p=>Q (.o p)) l) (h:Q .h v) (hr:tabAll (fun p=>Q (.i p)) r):tabAll Q (.n l v r):=⟨h,hl,hr⟩
theorem tab_get:∀ {t:PT FD} {Q:Pos→FD→Prop},(∀ p,Q p .no)→tabAll Q t→∀ p,Q p (t.get .no p)
 | .e,_,h0,_,p=>by rw [PT.get_e]; exact h0 p
 | .n _ _ _,_,_,h,.h=>h.1
 | .n _ _ _,_,h0,h,.o p=>tab_get (fun q=>h0 (.o q)) h.2.1 p
 | .n _ _ _,_,h0,h,.i p=>tab_get (fun q=>h0 (.i q)) h.2.2 p
def Qd (P:Program) (ng:Nat) (p:Pos) (d:FD):Prop:=FdOK P ng (p.val - 1) d
def Go' (P:Program) (ng f:Nat) (g:SF):Prop:=Enters P f∧∀ fuel ev,EvOK P ng ev→EvFn P ng f (g ev fuel)
section
variable {P:Program} {ng:Nat}
theorem tab_ok {t:PT FD} (h:tabAll (Qd P ng) t):TabOK P ng t:=tab_get (fun _=>trivial) h
theorem tNo {p:Pos}:Qd P ng p .no:=trivial
theorem mE {Q:AV→AV→Prop}:MtAll Q .e:=trivial
theorem mJ {Q:AV→AV→Prop} {a b:MT} (ha:MtAll Q a) (hb:MtAll Q b):MtAll Q (.j a b):=⟨ha,hb⟩
theorem ms_q {lo:Pos} (hlo:lo.val=ng + 1) {p:Pos} {td:TD} {m:MT} {gs:AV} {g:SF} (hF:Go' P ng (p.val - 1) g) (hg:gsB gs=true) (hm:MtAll (Ent P ng (p.val - 1) lo gs) m):Qd P ng p (.ms td m lo gs g):=ms_ok hF.1 hF.2 hlo hg hm
theorem sh_q {p:Pos} {g:SF} (hF:Go' P ng (p.val - 1) g):Qd P ng p (.sh g):=sh_fd hF.1 hF.2
def WT (P:Program) (ng:Nat) (lo p:Pos) (gs:AV) (m:MT):Prop:=MtAll (Ent P ng (p.val - 1) lo gs) m
theorem nt_of {lo:Pos} {tab:PT FD} (ht:TabOK P ng tab) (fuel depth:Nat) (p:Pos) {gs:AV} {m:MT} (h:mtB (evF tab fuel depth (.fn p)) lo gs m=true):WT P ng lo p gs m:=mtB_ok ((evF_ok ht fuel depth).calls p) h
end
def gsz:AV:=.z
noncomputable def isT (x:R):Bool:=R.rec (motive:=fun _=>Bool) (fun _=>false) (fun v _=>eqA v (.b true)) (fun _ _=>false) x
theorem isT_ok {x:R} (h:isT x=true):∃ g,x=.ok (.b true) g:=by
 cases x with
 | ok v g=>exact ⟨g,by rw [eqA_ok (x:=v) (y:=.b true) h]⟩
 | fail=>cases h
 | pan=>cases h
def ntB (P:Program) (f:Nat):Bool:=match P.funcs[f]? with
 | some fn => fn.body.isSome && fn.name != "runtime.NumGoroutine"
 | none=>false
theorem ntB_ok {P:Program} {f:Nat} (h:ntB P f=true):Enters P f:=by
 unfold ntB at h
 split at h
 ·rename_i fn hf
  obtain ⟨h1, h2⟩ : fn.body.isSome = true ∧ (fn.name != "runtime.NumGoroutine") = true := by simpa using h
  obtain ⟨c,hc⟩:=Option.isSome_iff_exists.1 h1
  exact ⟨fn,c,hf,hc,by simpa using h2⟩
 ·cases h
end Go.Am
namespace Go.Am
noncomputable abbrev bf' {α:Type} (b:Bool) (x y:α):α:=Bool.rec (motive:=fun _=>α) y x b
inductive SG where
 | z | c (p:Pos) (v:AV) (l:SG)
noncomputable abbrev SG.fnd (p:Pos):SG→AV
 | .z=>.u
 | .c q v l=>bf' (posq p q) v (SG.fnd p l)
noncomputable abbrev SG.has (p:Pos):SG→Bool
 | .z=>false
 | .c q _ l=>bf' (posq p q) true (SG.has p l)
noncomputable abbrev SG.val (s:SG):Ar→AV
 | .t p=>s.fnd p
 | .k v=>v
noncomputable abbrev SG.vals (s:SG):ArL→AV
 | .z=>.z
 | .c x l=>.c (s.val x) (s.vals l)
noncomputable abbrev SG.subP (s:SG):PaL→PaL
 | .z=>.z
 | .c o n x l=>.c o n (.k (s.val x)) (s.subP l)
abbrev arLs:ArL→List Ar
 | .z=>[]
 | .c x l=>x :: arLs l
abbrev paLs:PaL→List Ar
 | .z=>[]
 | .c _ _ x l=>x :: paLs l
theorem posq_refl:∀ p:Pos,posq p p=true
 | .h=>rfl
 | .o p=>posq_refl p
 | .i p=>posq_refl p
theorem posq_iff {p q:Pos}:posq p q=true↔p=q:=⟨posq_ok,fun h=>h▸posq_refl p⟩
def bdA (s:SG) (t:T) (x:Ar):Prop:=∀ p,x=.t p→s.fnd p=t.get .u p
section
variable {s:SG} {t:T}
theorem aval_w {x:Ar} (h:bdA s t x) (k:AV→R):aval x t k=k (s.val x):=by
 cases x with
 | k v=>rfl
 | t p=>show getK .u p t k=k (s.fnd p); rw [getK_eq,← h p rfl]
theorem avals_w:∀ {l:ArL},(∀ x∈arLs l,bdA s t x)→∀ k:AV→R,avals l t k=k (s.vals l)
 | .z,_,_=>rfl
 | .c x l,h,k=>by
  show aval x t (fun v=>avals l t fun r=>k (.c v r))=_
  rw [aval_w (h x (by simp [arLs])),avals_w (fun y hy=>h y (by simp [arLs,hy]))]
theorem fill_w:∀ {ps:PaL},(∀ x∈paLs ps,bdA s t x)→∀ (cs:AV) (k:AV→R),fill ps t cs k=fill (s.subP ps) .e cs k
 | .z,_,_,_=>rfl
 | .c o n x l,h,cs,k=>by
  show aval x t (fun v=>vcells v fun c=>lng c fun m=>kif (Nat.beq m n) (spl o c cs fun cs=>fill l t cs k) (.fail 60))=vcells (s.val x) fun c=>lng c fun m=>kif (Nat.beq m n) (spl o c cs fun cs=>fill (s.subP l) .e cs k) (.fail 60)
  rw [aval_w (h x (by simp [paLs]))]
  congr; funext c; congr; funext m; congr; funext cs
  exact fill_w (fun y hy=>h y (by simp [paLs,hy])) cs k
end
abbrev opsOf:AO→List Ar
 | .mv a0=>[a0]
 | .pick a0 a1 a2=>[a0] ++ [a1] ++ [a2]
 | .al _=>[]
 | .bx a0=>[a0]
 | .bd _ a1=>paLs a1
 | .bs _ _ _ a3=>paLs a3
 | .l1 a0=>[a0]
 | .ln a0 _=>[a0]
 | .s1 a0 a1=>[a0] ++ [a1]
 | .sn a0 a1 _=>[a0] ++ [a1]
 | .nk a0=>[a0]
 | .bi _ a1 a2=>[a1] ++ [a2]
 | .bst _ a1 a2=>[a1] ++ [a2]
 | .bb _ a1 a2=>[a1] ++ [a2]
 | .bzp _ a1=>[a1]
 | .bzs _ a1=>[a1]
 | .bzm _ a1=>[a1]
 | .bzf _ a1=>[a1]
 | .bzi _ a1=>[a1]
 | .ba _ _ a2 a3=>[a2] ++ [a3]
 | .un _ a1=>[a1]
 | .cv _ a1=>[a1]
 | .csb a0=>[a0]
 | .cbs a0=>[a0]
 | .mi _ a1=>[a1]
 | .ta _ _ a2=>[a2]
 | .mf _ a1 a2=>arLs a1 ++ arLs a2
 | .mm=>[]
 | .mu _ a1 a2 a3=>[a1] ++ [a2] ++ [a3]
 | .lk _ a1 a2 _=>[a1] ++ [a2]
 | .ms _ _ a2 a3=>[a2] ++ [a3]
 | .slS a0 a1 a2=>[a0] ++ [a1] ++ [a2]
 | .sl _ a1 a2 a3=>[a1] ++ [a2] ++ [a3]
 | .sl3 _ a1 a2 a3 a4=>[a1] ++ [a2] ++ [a3] ++ [a4]
 | .slA _ _ a2 a3 a4=>[a2] ++ [a3] ++ [a4]
 | .fa a0 _=>[a0]
 | .ix _ a1 a2=>[a1] ++ [a2]
 | .ixA _ _ a2 a3=>[a2] ++ [a3]
 | .ixS a0 a1=>[a0] ++ [a1]
 | .ixV _ _ a2 a3=>[a2] ++ [a3]
 | .ixW _ _ a2 a3=>[a2] ++ [a3]
 | .fd1 a0 _=>[a0]
 | .fdn a0 _ _=>[a0]
 | .ex a0 _=>[a0]
 | .cf _ a1=>arLs a1
 | .cd a0 a1=>[a0] ++ arLs a1
 | .lens a0=>[a0]
 | .lenl a0=>[a0]
 | .lenm a0=>[a0]
 | .lenK _=>[]
 | .cap a0=>[a0]
 | .ap _ a1 a2=>[a1] ++ [a2]
 | .apz _ _ a2 a3=>[a2] ++ [a3]
 | .cp _ a1 a2=>[a1] ++ [a2]
 | .mx a0=>arLs a0
 | .mn a0=>arLs a0
 | .pa a0=>[a0]
 | .rg a0=>[a0]
 | .nx a0=>[a0]
 | .rm a0=>[a0]
 | .nm a0=>[a0]
 | .en a0=>[a0]
noncomputable abbrev opw (ev:EV) (kp:K) (o:AO) (s:SG) (h:H) (k:K):R:=match o with
 | .mv a0=>vmv (s.val a0) h k
 | .pick a0 a1 a2=>vpick (s.val a0) (s.val a1) (s.val a2) h k
 | .al a0=>val a0 h k
 | .bx a0=>vbx (s.val a0) h k
 | .bd a0 a1=>vbd a0 (s.subP a1) h k
 | .bs a0 a1 a2 a3=>vbs a0 a1 a2 (s.subP a3) h k
 | .l1 a0=>vl1 (s.val a0) h k
 | .ln a0 a1=>vln (s.val a0) a1 h k
 | .s1 a0 a1=>vs1 (s.val a0) (s.val a1) h k
 | .sn a0 a1 a2=>vsn (s.val a0) (s.val a1) a2 h k
 | .nk a0=>vnk (s.val a0) h k
 | .bi a0 a1 a2=>vbi a0 (s.val a1) (s.val a2) h k
 | .bst a0 a1 a2=>vbst a0 (s.val a1) (s.val a2) h k
 | .bb a0 a1 a2=>vbb a0 (s.val a1) (s.val a2) h k
 | .bzp a0 a1=>vbzp a0 (s.val a1) h k
 | .bzs a0 a1=>vbzs a0 (s.val a1) h k
 | .bzm a0 a1=>vbzm a0 (s.val a1) h k
 | .bzf a0 a1=>vbzf a0 (s.val a1) h k
 | .bzi a0 a1=>vbzi a0 (s.val a1) h k
 | .ba a0 a1 a2 a3=>vba a0 a1 (s.val a2) (s.val a3) h k
 | .un a0 a1=>vun a0 (s.val a1) h k
 | .cv a0 a1=>vcv a0 (s.val a1) h k
 | .csb a0=>vcsb (s.val a0) h k
 | .cbs a0=>vcbs (s.val a0) h k
 | .mi a0 a1=>vmi a0 (s.val a1) h k
 | .ta a0 a1 a2=>vta a0 a1 (s.val a2) h k
 | .mf a0 a1 a2=>vmf a0 (s.vals a1) (s.vals a2) h k
 | .mm=>vmm h k
 | .mu a0 a1 a2 a3=>vmu a0 (s.val a1) (s.val a2) (s.val a3) h k
 | .lk a0 a1 a2 a3=>vlk a0 (s.val a1) (s.val a2) a3 h k
 | .ms a0 a1 a2 a3=>vms a0 a1 (s.val a2) (s.val a3) h k
 | .slS a0 a1 a2=>vslS (s.val a0) (s.val a1) (s.val a2) h k
 | .sl a0 a1 a2 a3=>vsl a0 (s.val a1) (s.val a2) (s.val a3) h k
 | .sl3 a0 a1 a2 a3 a4=>vsl3 a0 (s.val a1) (s.val a2) (s.val a3) (s.val a4) h k
 | .slA a0 a1 a2 a3 a4=>vslA a0 a1 (s.val a2) (s.val a3) (s.val a4) h k
 | .fa a0 a1=>vfa (s.val a0) a1 h k
 | .ix a0 a1 a2=>vix a0 (s.val a1) (s.val a2) h k
 | .ixA a0 a1 a2 a3=>vixA a0 a1 (s.val a2) (s.val a3) h k
 | .ixS a0 a1=>vixS (s.val a0) (s.val a1) h k
 | .ixV a0 a1 a2 a3=>vixV a0 a1 (s.val a2) (s.val a3) h k
 | .ixW a0 a1 a2 a3=>vixW a0 a1 (s.val a2) (s.val a3) h k
 | .fd1 a0 a1=>vfd1 (s.val a0) a1 h k
 | .fdn a0 a1 a2=>vfdn (s.val a0) a1 a2 h k
 | .ex a0 a1=>vex (s.val a0) a1 h k
 | .cf a0 a1=>vcf ev kp a0 (s.vals a1) h k
 | .cd a0 a1=>vcd ev kp (s.val a0) (s.vals a1) h k
 | .lens a0=>vlens (s.val a0) h k
 | .lenl a0=>vlenl (s.val a0) h k
 | .lenm a0=>vlenm (s.val a0) h k
 | .lenK a0=>vlenK a0 h k
 | .cap a0=>vcap (s.val a0) h k
 | .ap a0 a1 a2=>vap a0 (s.val a1) (s.val a2) h k
 | .apz a0 a1 a2 a3=>vapz a0 a1 (s.val a2) (s.val a3) h k
 | .cp a0 a1 a2=>vcp a0 (s.val a1) (s.val a2) h k
 | .mx a0=>vmx (s.vals a0) h k
 | .mn a0=>vmn (s.vals a0) h k
 | .pa a0=>vpa kp (s.val a0) h
 | .rg a0=>vrg (s.val a0) h k
 | .nx a0=>vnx (s.val a0) h k
 | .rm a0=>vrm (s.val a0) h k
 | .nm a0=>vnm (s.val a0) h k
 | .en a0=>ven (s.val a0) h k
theorem op_w {s:SG} {t:T} (ev:EV):∀ {o:AO},(∀ x∈opsOf o,bdA s t x)→∀ (h:H) (k kp:K),op ev o t h k kp=opw ev kp o s h k
 | .mv a0,hb,h,k,kp=>by
  show o_mv a0 ev t h k kp=opw ev kp (.mv a0) s h k
  simp only [o_mv,opw,vmv,aval_w (hb a0 (by simp [opsOf]))]
 | .pick a0 a1 a2,hb,h,k,kp=>by
  show o_pick a0 a1 a2 ev t h k kp=opw ev kp (.pick a0 a1 a2) s h k
  simp only [o_pick,opw,vpick,aval_w (hb a0 (by simp [opsOf])),aval_w (hb a1 (by simp [opsOf])),aval_w (hb a2 (by simp [opsOf]))]
 | .al a0,_,h,k,kp=>by
  show o_al a0 ev t h k kp=opw ev kp (.al a0) s h k
  rfl
 | .bx a0,hb,h,k,kp=>by
  show o_bx a0 ev t h k kp=opw ev kp (.bx a0) s h k
  simp only [o_bx,opw,vbx,aval_w (hb a0 (by simp [opsOf]))]
 | .bd a0 a1,hb,h,k,kp=>by
  show o_bd a0 a1 ev t h k kp=opw ev kp (.bd a0 a1) s h k
  simp only [o_bd,opw,vbd,fill_w (ps:=a1) (fun x hx=>hb x (by simp [opsOf,hx]))]
 | .bs a0 a1 a2 a3,hb,h,k,kp=>by
  show o_bs a0 a1 a2 a3 ev t h k kp=opw ev kp (.bs a0 a1 a2 a3) s h k
  simp only [o_bs,opw,vbs,fill_w (ps:=a3) (fun x hx=>hb x (by simp [opsOf,hx]))]
 | .l1 a0,hb,h,k,kp=>by
  show o_l1 a0 ev t h k kp=opw ev kp (.l1 a0) s h k
  simp only [o_l1,opw,vl1,aval_w (hb a0 (by simp [opsOf]))]
 | .ln a0 a1,hb,h,k,kp=>by
  show o_ln a0 a1 ev t h k kp=opw ev kp (.ln a0 a1) s h k
  simp only [o_ln,opw,vln,aval_w (hb a0 (by simp [opsOf]))]
 | .s1 a0 a1,hb,h,k,kp=>by
  show o_s1 a0 a1 ev t h k kp=opw ev kp (.s1 a0 a1) s h k
  simp only [o_s1,opw,vs1,aval_w (hb a0 (by simp [opsOf])),aval_w (hb a1 (by simp [opsOf]))]
 | .sn a0 a1 a2,hb,h,k,kp=>by
  show o_sn a0 a1 a2 ev t h k kp=opw ev kp (.sn a0 a1 a2) s h k
  simp only [o_sn,opw,vsn,aval_w (hb a0 (by simp [opsOf])),aval_w (hb a1 (by simp [opsOf]))]
 | .nk a0,hb,h,k,kp=>by
  show o_nk a0 ev t h k kp=opw ev kp (.nk a0) s h k
  simp only [o_nk,opw,vnk,aval_w (hb a0 (by simp [opsOf]))]
 | .bi a0 a1 a2,hb,h,k,kp=>by
  show o_bi a0 a1 a2 ev t h k kp=opw ev kp (.bi a0 a1 a2) s h k
  simp only [o_bi,opw,vbi,aval_w (hb a1 (by simp [opsOf])),aval_w (hb a2 (by simp [opsOf]))]
 | .bst a0 a1 a2,hb,h,k,kp=>by
  show o_bst a0 a1 a2 ev t h k kp=opw ev kp (.bst a0 a1 a2) s h k
  simp only [o_bst,opw,vbst,aval_w (hb a1 (by simp [opsOf])),aval_w (hb a2 (by simp [opsOf]))]
 | .bb a0 a1 a2,hb,h,k,kp=>by
  show o_bb a0 a1 a2 ev t h k kp=opw ev kp (.bb a0 a1 a2) s h k
  simp only [o_bb,opw,vbb,aval_w (hb a1 (by simp [opsOf])),aval_w (hb a2 (by simp [opsOf]))]
 | .bzp a0 a1,hb,h,k,kp=>by
  show o_bzp a0 a1 ev t h k kp=opw ev kp (.bzp a0 a1) s h k
  simp only [o_bzp,opw,vbzp,aval_w (hb a1 (by simp [opsOf]))]
 | .bzs a0 a1,hb,h,k,kp=>by
  show o_bzs a0 a1 ev t h k kp=opw ev kp (.bzs a0 a1) s h k
  simp only [o_bzs,opw,vbzs,aval_w (hb a1 (by simp [opsOf]))]
 | .bzm a0 a1,hb,h,k,kp=>by
  show o_bzm a0 a1 ev t h k kp=opw ev kp (.bzm a0 a1) s h k
  simp only [o_bzm,opw,vbzm,aval_w (hb a1 (by simp [opsOf]))]
 | .bzf a0 a1,hb,h,k,kp=>by
  show o_bzf a0 a1 ev t h k kp=opw ev kp (.bzf a0 a1) s h k
  simp only [o_bzf,opw,vbzf,aval_w (hb a1 (by simp [opsOf]))]
 | .bzi a0 a1,hb,h,k,kp=>by
  show o_bzi a0 a1 ev t h k kp=opw ev kp (.bzi a0 a1) s h k
  simp only [o_bzi,opw,vbzi,aval_w (hb a1 (by simp [opsOf]))]
 | .ba a0 a1 a2 a3,hb,h,k,kp=>by
  show o_ba a0 a1 a2 a3 ev t h k kp=opw ev kp (.ba a0 a1 a2 a3) s h k
  simp only [o_ba,opw,vba,aval_w (hb a2 (by simp [opsOf])),aval_w (hb a3 (by simp [opsOf]))]
 | .un a0 a1,hb,h,k,kp=>by
  show o_un a0 a1 ev t h k kp=opw ev kp (.un a0 a1) s h k
  simp only [o_un,opw,vun,aval_w (hb a1 (by simp [opsOf]))]
 | .cv a0 a1,hb,h,k,kp=>by
  show o_cv a0 a1 ev t h k kp=opw ev kp (.cv a0 a1) s h k
  simp only [o_cv,opw,vcv,aval_w (hb a1 (by simp [opsOf]))]
 | .csb a0,hb,h,k,kp=>by
  show o_csb a0 ev t h k kp=opw ev kp (.csb a0) s h k
  simp only [o_csb,opw,vcsb,aval_w (hb a0 (by simp [opsOf]))]
 | .cbs a0,hb,h,k,kp=>by
  show o_cbs a0 ev t h k kp=opw ev kp (.cbs a0) s h k
  simp only [o_cbs,opw,vcbs,aval_w (hb a0 (by simp [opsOf]))]
 | .mi a0 a1,hb,h,k,kp=>by
  show o_mi a0 a1 ev t h k kp=opw ev kp (.mi a0 a1) s h k
  simp only [o_mi,opw,vmi,aval_w (hb a1 (by simp [opsOf]))]
 | .ta a0 a1 a2,hb,h,k,kp=>by
  show o_ta a0 a1 a2 ev t h k kp=opw ev kp (.ta a0 a1 a2) s h k
  simp only [o_ta,opw,vta,aval_w (hb a2 (by simp [opsOf]))]
 | .mf a0 a1 a2,hb,h,k,kp=>by
  show o_mf a0 a1 a2 ev t h k kp=opw ev kp (.mf a0 a1 a2) s h k
  simp only [o_mf,opw,vmf,avals_w (l:=a1) (fun x hx=>hb x (by simp [opsOf,hx])),avals_w (l:=a2) (fun x hx=>hb x (by simp [opsOf,hx]))]
 | .mm ,_,h,k,kp=>by
  show o_mm ev t h k kp=opw ev kp (.mm ) s h k
  rfl
 | .mu a0 a1 a2 a3,hb,h,k,kp=>by
  show o_mu a0 a1 a2 a3 ev t h k kp=opw ev kp (.mu a0 a1 a2 a3) s h k
  simp only [o_mu,opw,vmu,aval_w (hb a1 (by simp [opsOf])),aval_w (hb a2 (by simp [opsOf])),aval_w (hb a3 (by simp [opsOf]))]
 | .lk a0 a1 a2 a3,hb,h,k,kp=>by
  show o_lk a0 a1 a2 a3 ev t h k kp=opw ev kp (.lk a0 a1 a2 a3) s h k
  simp only [o_lk,opw,vlk,aval_w (hb a1 (by simp [opsOf])),aval_w (hb a2 (by simp [opsOf]))]
 | .ms a0 a1 a2 a3,hb,h,k,kp=>by
  show o_ms a0 a1 a2 a3 ev t h k kp=opw ev kp (.ms a0 a1 a2 a3) s h k
  simp only [o_ms,opw,vms,aval_w (hb a2 (by simp [opsOf])),aval_w (hb a3 (by simp [opsOf]))]
 | .slS a0 a1 a2,hb,h,k,kp=>by
  show o_slS a0 a1 a2 ev t h k kp=opw ev kp (.slS a0 a1 a2) s h k
  simp only [o_slS,opw,vslS,aval_w (hb a0 (by simp [opsOf])),aval_w (hb a1 (by simp [opsOf])),aval_w (hb a2 (by simp [opsOf]))]
 | .sl a0 a1 a2 a3,hb,h,k,kp=>by
  show o_sl a0 a1 a2 a3 ev t h k kp=opw ev kp (.sl a0 a1 a2 a3) s h k
  simp only [o_sl,opw,vsl,aval_w (hb a1 (by simp [opsOf])),aval_w (hb a2 (by simp [opsOf])),aval_w (hb a3 (by simp [opsOf]))]
 | .sl3 a0 a1 a2 a3 a4,hb,h,k,kp=>by
  show o_sl3 a0 a1 a2 a3 a4 ev t h k kp=opw ev kp (.sl3 a0 a1 a2 a3 a4) s h k
  simp only [o_sl3,opw,vsl3,aval_w (hb a1 (by simp [opsOf])),aval_w (hb a2 (by simp [opsOf])),aval_w (hb a3 (by simp [opsOf])),aval_w (hb a4 (by simp [opsOf]))]
 | .slA a0 a1 a2 a3 a4,hb,h,k,kp=>by
  show o_slA a0 a1 a2 a3 a4 ev t h k kp=opw ev kp (.slA a0 a1 a2 a3 a4) s h k
  simp only [o_slA,opw,vslA,aval_w (hb a2 (by simp [opsOf])),aval_w (hb a3 (by simp [opsOf])),aval_w (hb a4 (by simp [opsOf]))]
 | .fa a0 a1,hb,h,k,kp=>by
  show o_fa a0 a1 ev t h k kp=opw ev kp (.fa a0 a1) s h k
  simp only [o_fa,opw,vfa,aval_w (hb a0 (by simp [opsOf]))]
 | .ix a0 a1 a2,hb,h,k,kp=>by
  show o_ix a0 a1 a2 ev t h k kp=opw ev kp (.ix a0 a1 a2) s h k
  simp only [o_ix,opw,vix,aval_w (hb a1 (by simp [opsOf])),aval_w (hb a2 (by simp [opsOf]))]
 | .ixA a0 a1 a2 a3,hb,h,k,kp=>by
  show o_ixA a0 a1 a2 a3 ev t h k kp=opw ev kp (.ixA a0 a1 a2 a3) s h k
  simp only [o_ixA,opw,vixA,aval_w (hb a2 (by simp [opsOf])),aval_w (hb a3 (by simp [opsOf]))]
 | .ixS a0 a1,hb,h,k,kp=>by
  show o_ixS a0 a1 ev t h k kp=opw ev kp (.ixS a0 a1) s h k
  simp only [o_ixS,opw,vixS,aval_w (hb a0 (by simp [opsOf])),aval_w (hb a1 (by simp [opsOf]))]
 | .ixV a0 a1 a2 a3,hb,h,k,kp=>by
  show o_ixV a0 a1 a2 a3 ev t h k kp=opw ev kp (.ixV a0 a1 a2 a3) s h k
  simp only [o_ixV,opw,vixV,aval_w (hb a2 (by simp [opsOf])),aval_w (hb a3 (by simp [opsOf]))]
 | .ixW a0 a1 a2 a3,hb,h,k,kp=>by
  show o_ixW a0 a1 a2 a3 ev t h k kp=opw ev kp (.ixW a0 a1 a2 a3) s h k
  simp only [o_ixW,opw,vixW,aval_w (hb a2 (by simp [opsOf])),aval_w (hb a3 (by simp [opsOf]))]
 | .fd1 a0 a1,hb,h,k,kp=>by
  show o_fd1 a0 a1 ev t h k kp=opw ev kp (.fd1 a0 a1) s h k
  simp only [o_fd1,opw,vfd1,aval_w (hb a0 (by simp [opsOf]))]
 | .fdn a0 a1 a2,hb,h,k,kp=>by
  show o_fdn a0 a1 a2 ev t h k kp=opw ev kp (.fdn a0 a1 a2) s h k
  simp only [o_fdn,opw,vfdn,aval_w (hb a0 (by simp [opsOf]))]
 | .ex a0 a1,hb,h,k,kp=>by
  show o_ex a0 a1 ev t h k kp=opw ev kp (.ex a0 a1) s h k
  simp only [o_ex,opw,vex,aval_w (hb a0 (by simp [opsOf]))]
 | .cf a0 a1,hb,h,k,kp=>by
  show o_cf a0 a1 ev t h k kp=opw ev kp (.cf a0 a1) s h k
  simp only [o_cf,opw,vcf,avals_w (l:=a1) (fun x hx=>hb x (by simp [opsOf,hx]))]
 | .cd a0 a1,hb,h,k,kp=>by
  show o_cd a0 a1 ev t h k kp=opw ev kp (.cd a0 a1) s h k
  simp only [o_cd,opw,vcd,aval_w (hb a0 (by simp [opsOf])),avals_w (l:=a1) (fun x hx=>hb x (by simp [opsOf,hx]))]
 | .lens a0,hb,h,k,kp=>by
  show o_lens a0 ev t h k kp=opw ev kp (.lens a0) s h k
  simp only [o_lens,opw,vlens,aval_w (hb a0 (by simp [opsOf]))]
 | .lenl a0,hb,h,k,kp=>by
  show o_lenl a0 ev t h k kp=opw ev kp (.lenl a0) s h k
  simp only [o_lenl,opw,vlenl,aval_w (hb a0 (by simp [opsOf]))]
 | .lenm a0,hb,h,k,kp=>by
  show o_lenm a0 ev t h k kp=opw ev kp (.lenm a0) s h k
  simp only [o_lenm,opw,vlenm,aval_w (hb a0 (by simp [opsOf]))]
 | .lenK a0,_,h,k,kp=>by
  show o_lenK a0 ev t h k kp=opw ev kp (.lenK a0) s h k
  rfl
 | .cap a0,hb,h,k,kp=>by
  show o_cap a0 ev t h k kp=opw ev kp (.cap a0) s h k
  simp only [o_cap,opw,vcap,aval_w (hb a0 (by simp [opsOf]))]
 | .ap a0 a1 a2,hb,h,k,kp=>by
  show o_ap a0 a1 a2 ev t h k kp=opw ev kp (.ap a0 a1 a2) s h k
  simp only [o_ap,opw,vap,aval_w (hb a1 (by simp [opsOf])),aval_w (hb a2 (by simp [opsOf]))]
 | .apz a0 a1 a2 a3,hb,h,k,kp=>by
  show o_apz a0 a1 a2 a3 ev t h k kp=opw ev kp (.apz a0 a1 a2 a3) s h k
  simp only [o_apz,opw,vapz,aval_w (hb a2 (by simp [opsOf])),aval_w (hb a3 (by simp [opsOf]))]
 | .cp a0 a1 a2,hb,h,k,kp=>by
  show o_cp a0 a1 a2 ev t h k kp=opw ev kp (.cp a0 a1 a2) s h k
  simp only [o_cp,opw,vcp,aval_w (hb a1 (by simp [opsOf])),aval_w (hb a2 (by simp [opsOf]))]
 | .mx a0,hb,h,k,kp=>by
  show o_mx a0 ev t h k kp=opw ev kp (.mx a0) s h k
  simp only [o_mx,opw,vmx,avals_w (l:=a0) (fun x hx=>hb x (by simp [opsOf,hx]))]
 | .mn a0,hb,h,k,kp=>by
  show o_mn a0 ev t h k kp=opw ev kp (.mn a0) s h k
  simp only [o_mn,opw,vmn,avals_w (l:=a0) (fun x hx=>hb x (by simp [opsOf,hx]))]
 | .pa a0,hb,h,k,kp=>by
  show o_pa a0 ev t h k kp=opw ev kp (.pa a0) s h k
  simp only [o_pa,opw,vpa,aval_w (hb a0 (by simp [opsOf]))]
 | .rg a0,hb,h,k,kp=>by
  show o_rg a0 ev t h k kp=opw ev kp (.rg a0) s h k
  simp only [o_rg,opw,vrg,aval_w (hb a0 (by simp [opsOf]))]
 | .nx a0,hb,h,k,kp=>by
  show o_nx a0 ev t h k kp=opw ev kp (.nx a0) s h k
  simp only [o_nx,opw,vnx,aval_w (hb a0 (by simp [opsOf]))]
 | .rm a0,hb,h,k,kp=>by
  show o_rm a0 ev t h k kp=opw ev kp (.rm a0) s h k
  simp only [o_rm,opw,vrm,aval_w (hb a0 (by simp [opsOf]))]
 | .nm a0,hb,h,k,kp=>by
  show o_nm a0 ev t h k kp=opw ev kp (.nm a0) s h k
  simp only [o_nm,opw,vnm,aval_w (hb a0 (by simp [opsOf]))]
 | .en a0,hb,h,k,kp=>by
  show o_en a0 ev t h k kp=opw ev kp (.en a0) s h k
  simp only [o_en,opw,ven,aval_w (hb a0 (by simp [opsOf]))]
end Go.Am
namespace Go.Am
noncomputable section
abbrev SG.drop (w:List Pos):SG→SG
 | .z=>.z
 | .c q v l=>bf' (w.any (posq q)) (SG.drop w l) (.c q v (SG.drop w l))
abbrev dsW:Ds→List Pos
 | .no=>[]
 | .to p=>[p]
abbrev olW:OL→List Pos
 | .z=>[]
 | .c _ d _ l=>dsW d ++ olW l
abbrev dlW:DL→List Pos
 | .z=>[]
 | .q _ _ d _ l | .l _ _ d _ l=>dsW d ++ dlW l
 | .ck _ _ _ _ l | .pt _ _ _ _ l=>dlW l
 | .rs _ _ p _ l=>p :: dlW l
abbrev acW:AC→List Pos
 | .dr l=>dlW l
 | .rg l=>olW l
 | .sq a b | .cd _ a b=>acW a ++ acW b
 | .bl _ b | .lp b=>acW b
 | _=>[]
abbrev nrm:AC→Bool
 | .sk | .rg _ | .dr _ | .bl _ _=>true
 | .sq a b=>nrm a && nrm b
 | .cd _ a b=>nrm a || nrm b
 | _=>false
abbrev DK:=SG→T→H→R
abbrev JM:=Nat→T→H→R
abbrev jset (id:Nat) (j:T→H→R) (jm:JM):JM:=fun i t h=>kif (Nat.beq i id) (j t h) (jm i t h)
abbrev rdA (x:Ar) (s:SG) (t:T) (k:SG→R):R:=match x with
 | .k _=>k s
 | .t p=>bf' (s.has p) (k s) (getK .u p t fun v=>k (.c p v s))
abbrev rdL:List Ar→SG→T→(SG→R)→R
 | [],s,_,k=>k s
 | x :: l,s,t,k=>rdA x s t fun s=>rdL l s t k
abbrev wrA (M:Pos→Bool) (d:Ds) (y:AV) (s:SG) (t:T) (k:SG→T→R):R:=match d with
 | .no=>k s t
 | .to p=>bf' (M p) (setK .u y p t fun t=>k (.c p y s) t) (k (.c p y s) t)
abbrev isMv:AO→Option Ar
 | .mv x=>some x
 | _=>none
abbrev dOp (M:Pos→Bool) (ev:EV) (kp:K) (g:Gd) (d:Ds) (o:AO) (s:SG) (t:T) (h:H) (k:DK):R:=match g with
 | .no=>match isMv o with
  | some x=>rdA x s t fun s=>wrA M d (s.val x) s t fun s t=>k s t h
  | none=>rdL (opsOf o) s t fun s=>opw ev kp o s h fun y h=>wrA M d y s t fun s t=>k s t h
 | .on p b=>rdA (.t p) s t fun s=>joinV (fun j=>isB (s.fnd p) b (rdL (opsOf o) s t fun s=>opw ev kp o s h j) (j .u h)) fun y h=>wrA M d y s t fun s t=>k s t h
abbrev dRg (M:Pos→Bool) (ev:EV) (kp:K):OL→SG→T→H→DK→R
 | .z,s,t,h,k=>k s t h
 | .c g d o l,s,t,h,k=>dOp M ev kp g d o s t h fun s t h=>dRg M ev kp l s t h k
abbrev dQ (M:Pos→Bool) (ev:EV) (g:Gd) (d:Ds) (o:AO) (s:SG) (t:T) (h:H) (k:DK):R:=match g with
 | .no=>match isMv o with
  | some x=>rdA x s t fun s=>wrA M d (s.val x) s t fun s t=>k s t h
  | none=>rdL (opsOf o) s t fun s=>onR (opw ev .pan o s h .ok) fun y=>wrA M d y s t fun s t=>k s t h
 | .on p b=>rdA (.t p) s t fun s=>joinV (fun j=>isB (s.fnd p) b (rdL (opsOf o) s t fun s=>onR (opw ev .pan o s h .ok) fun y=>j y h) (j .u h)) fun y h=>wrA M d y s t fun s t=>k s t h
abbrev dC (ev:EV) (g:Gd) (d:Ds) (o:AO) (s:SG) (t:T) (h:H) (k:DK):R:=match d with
 | .no=>match g with
  | .no=>rdL (opsOf o) s t fun s=>onR (opw ev .pan o s h .ok) fun _=>k s t h
  | .on p b=>rdA (.t p) s t fun s=>joinV (fun j=>isB (s.fnd p) b (rdL (opsOf o) s t fun s=>onR (opw ev .pan o s h .ok) fun _=>j .u h) (j .u h)) fun _ h=>k s t h
 | .to d=>match g with
  | .no=>match isMv o with
   | some x=>rdA (.t d) s t fun s=>rdA x s t fun s=>aeq (s.val x) (s.fnd d) (k s t h)
   | none=>rdA (.t d) s t fun s=>rdL (opsOf o) s t fun s=>onR (opw ev .pan o s h .ok) fun y=>aeq y (s.fnd d) (k s t h)
  | .on p b=>rdA (.t p) s t fun s=>rdA (.t d) s t fun s=>joinV (fun j=>isB (s.fnd p) b (rdL (opsOf o) s t fun s=>onR (opw ev .pan o s h .ok) fun y=>aeq y (s.fnd d) (j .u h)) (aeq .u (s.fnd d) (j .u h))) fun _ h=>k s t h
abbrev akA:AK→List Ar
 | .a _=>[]
 | .s _ _ ps=>paLs ps
abbrev rsW (o:AK) (s:SG) (h:H) (k:K):R:=match o with
 | .a _=>vra h k
 | .s n zs ps=>vrs n zs (s.subP ps) h k
abbrev ptW (o:AK) (s:SG) (y:AV) (h:H) (k:H→R):R:=match o with
 | .a cs=>vpt cs y h k
 | .s _ zs ps=>vps zs (s.subP ps) y h k
abbrev dRs (M:Pos→Bool) (g:Gd) (p:Pos) (o:AK) (s:SG) (t:T) (h:H) (k:DK):R:=match g with
 | .no=>rdL (akA o) s t fun s=>rsW o s h fun y h=>wrA M (.to p) y s t fun s t=>k s t h
 | .on q b=>rdA (.t q) s t fun s=>joinV (fun j=>isB (s.fnd q) b (rdL (akA o) s t fun s=>rsW o s h j) (j .u h)) fun y h=>wrA M (.to p) y s t fun s t=>k s t h
abbrev dPt (g:Gd) (p:Pos) (o:AK) (s:SG) (t:T) (h:H) (k:DK):R:=match g with
 | .no=>rdA (.t p) s t fun s=>rdL (akA o) s t fun s=>ptW o s (s.fnd p) h fun h=>k s t h
 | .on q b=>rdA (.t q) s t fun s=>rdA (.t p) s t fun s=>joinV (fun j=>isB (s.fnd q) b (rdL (akA o) s t fun s=>ptW o s (s.fnd p) h fun h=>j .u h) (j .u h)) fun _ h=>k s t h
abbrev dDr (M:Pos→Bool) (ev:EV) (kp:K):DL→SG→T→H→DK→R
 | .z,s,t,h,k=>k s t h
 | .q _ g d o l,s,t,h,k=>dQ M ev g d o s t h fun s t h=>dDr M ev kp l s t h k
 | .l _ g d o l,s,t,h,k=>dOp M ev kp g d o s t h fun s t h=>dDr M ev kp l s t h k
 | .ck _ g d o l,s,t,h,k=>dC ev g d o s t h fun s t h=>dDr M ev kp l s t h k
 | .rs _ g p o l,s,t,h,k=>dRs M g p o s t h fun s t h=>dDr M ev kp l s t h k
 | .pt _ g p o l,s,t,h,k=>dPt g p o s t h fun s t h=>dDr M ev kp l s t h k
abbrev den (M:Pos→Bool) (ev:EV) (n:Nat) (kp:K) (ret:DK):AC→JM→SG→T→H→DK→R
 | .dr l,_,s,t,h,k=>dDr M ev kp l s t h k
 | .rg l,_,s,t,h,k=>dRg M ev kp l s t h k
 | .sk,_,s,t,h,k=>k s t h
 | .sq a b,jm,s,t,h,k=>den M ev n kp ret a jm s t h fun s t h=>den M ev n kp ret b jm s t h k
 | .cd x a b,jm,s,t,h,k=>rdA x s t fun s=>bf' (nrm a && nrm b)
   (join (fun j=>cnd (s.val x) (den M ev n kp ret a jm s t h fun _ t h=>j t h) (den M ev n kp ret b jm s t h fun _ t h=>j t h)) fun t h=>k (s.drop (acW a ++ acW b)) t h)
   (cnd (s.val x) (den M ev n kp ret a jm s t h k) (den M ev n kp ret b jm s t h k))
 | .bl id b,jm,s,t,h,k=>join (fun j=>den M ev n kp ret b (jset id j jm) s t h fun _ t h=>j t h) fun t h=>k (s.drop (acW b)) t h
 | .lp b,jm,s,t,h,_=>loopS n (fun a t h=>den M ev n kp ret b jm (s.drop (acW b)) t h fun _ t h=>a t h) t h
 | .ex id,jm,_,t,h,_=>jm id t h
 | .rt,_,s,t,h,_=>ret s t h
 | .rf ..,_,_,_,_,_=>.fail 0
abbrev rtV (r:RS) (s:SG) (t:T) (h:H) (k:SG→AV→R):R:=match r with
 | .t p=>rdA (.t p) s t fun s=>k s (s.fnd p)
 | .c1 p=>rdA (.t p) s t fun s=>asP (s.fnd p) fun r o=>ld1 r o h fun v=>k s v
 | .cn p n=>rdA (.t p) s t fun s=>asP (s.fnd p) fun r o=>ldn r o n h fun l=>k s (.a l)
abbrev rtL:RL→SG→T→H→(AV→R)→R
 | .z,_,_,_,k=>k .z
 | .c r l,s,t,h,k=>rtV r s t h fun s v=>rtL l s t h fun l=>k (.c v l)
abbrev retW (rs:RL) (one:Bool) (k:K) (s:SG) (t:T) (h:H):R:=rtL rs s t h fun l=>bf' one (onC l (.fail 163) fun x _=>k x h) (k (.t l) h)
abbrev bndS:PL→AV→SG→(SG→R)→R
 | .z,a,s,k=>onC a (k s) fun _ _=>.fail 161
 | .c p l,a,s,k=>onC a (.fail 162) fun x r=>bndS l r (.c p x s) k
abbrev setps (M:Pos→Bool):PL→SG→T→(T→R)→R
 | .z,_,t,k=>k t
 | .c p l,s,t,k=>bf' (M p) (setK .u (s.fnd p) p t fun t=>setps M l s t k) (setps M l s t k)
abbrev denF (ps:PL) (rs:RL) (one:Bool) (body:AC) (M:Pos→Bool):SF:=fun ev n a h k kp=>
 bndS ps a .z fun s=>setps M ps s .e fun t=>den M ev n kp (retW rs one k) body (fun _ _ _=>.fail 164) s t h (retW rs one k)
end
end Go.Am
namespace Go.Am
section
variable {M:Pos→Bool} {s:SG} {t t':T} {h:H} {dom:List Pos}
theorem fnd_c (p q:Pos) (v:AV) (s:SG):(SG.c q v s).fnd p=if p=q then v else s.fnd p:=by
 show (bf' (posq p q) (v) (s.fnd p))=_
 by_cases e:p=q
 ·rw [if_pos e,posq_iff.2 e]
 ·rw [if_neg e,show posq p q=false from Bool.eq_false_iff.2 fun h=>e (posq_iff.1 h)]
theorem has_c (p q:Pos) (v:AV) (s:SG):(SG.c q v s).has p=(decide (p=q) || s.has p):=by
 show (bf' (posq p q) (true) (s.has p))=_
 by_cases e:p=q
 ·rw [posq_iff.2 e]; simp [e]
 ·rw [show posq p q=false from Bool.eq_false_iff.2 fun h=>e (posq_iff.1 h)]; simp [e]
theorem any_posq {p:Pos} {w:List Pos}:w.any (posq p)=true↔p∈w:=by
 simp only [List.any_eq_true,posq_iff]
 exact ⟨fun ⟨x,h,e⟩=>e▸h,fun h=>⟨p,h,rfl⟩⟩
theorem has_drop {w:List Pos} {p:Pos}:∀ {s:SG},(s.drop w).has p=true↔s.has p=true∧p∉w
 | .z=>by simp [SG.drop,SG.has]
 | .c q v l=>by
  show (bf' (w.any (posq q)) (l.drop w) (.c q v (l.drop w))).has p=true↔_
  by_cases hq:q∈w
  ·rw [any_posq.2 hq]
   show (l.drop w).has p=true↔_
   rw [has_drop,has_c]
   simp only [Bool.or_eq_true,decide_eq_true_eq]
   exact ⟨fun ⟨a,b⟩=>⟨.inr a,b⟩,fun ⟨a,b⟩=>⟨a.resolve_left fun e=>b (e▸hq),b⟩⟩
  ·rw [show w.any (posq q)=false from Bool.eq_false_iff.2 fun h=>hq (any_posq.1 h)]
   show (SG.c q v (l.drop w)).has p=true↔_
   rw [has_c,has_c]
   simp only [Bool.or_eq_true,decide_eq_true_eq,has_drop]
   exact ⟨fun a=>a.elim (fun e=>⟨.inl e,e▸hq⟩) fun ⟨a,b⟩=>⟨.inr a,b⟩,fun ⟨a,b⟩=>a.imp id fun a=>⟨a,b⟩⟩
theorem fnd_drop {w:List Pos} {p:Pos} (hp:p∉w):∀ {s:SG},(s.drop w).fnd p=s.fnd p
 | .z=>rfl
 | .c q v l=>by
  show (bf' (w.any (posq q)) (l.drop w) (.c q v (l.drop w))).fnd p=_
  by_cases hq:q∈w
  ·rw [any_posq.2 hq]
   show (l.drop w).fnd p=_
   rw [fnd_drop hp,fnd_c,if_neg (fun e:p=q=>hp (e▸hq))]
  ·rw [show w.any (posq q)=false from Bool.eq_false_iff.2 fun h=>hq (any_posq.1 h)]
   show (SG.c q v (l.drop w)).fnd p=_
   rw [fnd_c,fnd_c,fnd_drop hp]
structure Sim (M:Pos→Bool) (s:SG) (t t':T):Prop where
 m:∀ p,M p=true→t.get .u p=t'.get .u p
 s:∀ p,s.has p=true→s.fnd p=t.get .u p
def Dm (dom:List Pos) (s:SG):Prop:=∀ p∈dom,s.has p=true
def Fr (w:List Pos) (t t1:T):Prop:=∀ p,p∉w→t1.get .u p=t.get .u p
theorem Fr.refl (w:List Pos) (t:T):Fr w t t:=fun _ _=>rfl
theorem Fr.trans {w v u:List Pos} {t t1 t2:T} (a:Fr w t t1) (b:Fr v t1 t2) (hw:∀ p∈w,p∈u) (hv:∀ p∈v,p∈u):Fr u t t2:=
 fun p hp=>(b p fun h=>hp (hv p h)).trans (a p fun h=>hp (hw p h))
theorem Fr.mono {w u:List Pos} {t t1:T} (a:Fr w t t1) (hw:∀ p∈w,p∈u):Fr u t t1:=fun p hp=>a p fun h=>hp (hw p h)
theorem Sim.drop {w:List Pos} (k:Sim M s t t') {t1 t1':T} (hm:∀ p,M p=true→t1.get .u p=t1'.get .u p) (f:Fr w t t1):Sim M (s.drop w) t1 t1':=
 ⟨hm,fun p hp=>by
  obtain ⟨h1,h2⟩:=has_drop.1 hp
  rw [fnd_drop h2,k.s p h1,f p h2]⟩
noncomputable def okA (M:Pos→Bool) (dom:List Pos):Ar→Bool
 | .k _=>true
 | .t p=>dom.any (posq p) || M p
def rdD (dom:List Pos):Ar→List Pos
 | .k _=>dom
 | .t p=>p :: dom
def rdDL (dom:List Pos):List Ar→List Pos
 | []=>dom
 | x :: l=>rdDL (rdD dom x) l
def wrD (dom:List Pos):Ds→List Pos
 | .no=>dom
 | .to p=>p :: dom
theorem dset_fr (d:Ds) (y:AV) (t:T):Fr (dsW d) t (dset d y t):=fun p hp=>by
 cases d with
 | no=>rfl
 | to q=>
  show (t.set .u y q).get .u p=_
  rw [PT.get_set,if_neg (fun e:p=q=>hp (by simp [dsW,e]))]
def rdy (s:SG) (x:Ar):Prop:=∀ p,x=.t p→s.has p=true
theorem Sim.bd (k:Sim M s t t') {x:Ar} (h:rdy s x):bdA s t x:=fun p e=>k.s p (h p e)
theorem okA_mono {dom2:List Pos} (hd:∀ p∈dom,p∈dom2) {x:Ar} (h:okA M dom x=true):okA M dom2 x=true:=by
 cases x with
 | k=>rfl
 | t p=>
  simp only [okA,Bool.or_eq_true,any_posq] at h ⊢
  exact h.imp (hd p) id
theorem rdA_ok {x:Ar} (ho:okA M dom x=true) (hd:Dm dom s) (k:Sim M s t t'):∃ s',(∀ f:SG→R,rdA x s t' f=f s')∧Sim M s' t t'∧Dm (rdD dom x) s'∧rdy s' x∧(∀ p,s.has p=true→s'.has p=true):=by
 cases x with
 | k v=>exact ⟨s,fun _=>rfl,k,hd,(fun _ e=>by cases e),fun _ h=>h⟩
 | t p=>
  by_cases hp:s.has p=true
  ·refine ⟨s,fun f=>?_,k,fun q hq=>?_,fun q e=>by cases e; exact hp,fun _ h=>h⟩
   ·show (bf' (s.has p) (f s) (_))=_
    rw [hp]
   ·rcases List.mem_cons.1 hq with rfl | hq
    ·exact hp
    ·exact hd q hq
  ·have hM:M p=true:=by
    simp only [okA,Bool.or_eq_true,any_posq] at ho
    exact ho.resolve_left fun h=>hp (hd p h)
   refine ⟨.c p (t'.get .u p) s,fun f=>?_,⟨k.m,fun q hq=>?_⟩,fun q hq=>?_,fun q e=>by cases e; rw [has_c]; simp,fun q h=>by rw [has_c,h]; simp⟩
   ·show (bf' (s.has p) (f s) (getK .u p t' fun v=>f (.c p v s)))=_
    rw [Bool.eq_false_iff.2 hp]
    show getK .u p t' (fun v=>f (.c p v s))=_
    rw [getK_eq]
   ·rw [fnd_c]
    by_cases e:q=p
    ·rw [if_pos e,e,k.m p hM]
    ·rw [if_neg e]
     rw [has_c] at hq
     exact k.s q (by simpa [e] using hq)
   ·rw [has_c]
    rcases List.mem_cons.1 hq with rfl | hq
    ·simp
    ·rw [hd q hq]; simp
theorem rdL_ok:∀ {l:List Ar} {dom:List Pos} {s:SG},l.all (okA M dom)=true→Dm dom s→Sim M s t t'→∃ s',(∀ f:SG→R,rdL l s t' f=f s')∧Sim M s' t t'∧Dm (rdDL dom l) s'∧(∀ x∈l,rdy s' x)∧(∀ p,s.has p=true→s'.has p=true)
 | [],_,s,_,hd,k=>⟨s,fun _=>rfl,k,hd,(fun _ h=>by cases h),fun _ h=>h⟩
 | x :: l,dom,s,ho,hd,k=>by
  obtain ⟨h1,h2⟩:okA M dom x=true∧l.all (okA M dom)=true:=by simpa using ho
  obtain ⟨s1,a1,a2,a3,a4,a5⟩:=rdA_ok h1 hd k
  have h2':l.all (okA M (rdD dom x))=true:=List.all_eq_true.2 fun y hy=>okA_mono (fun p hp=>by cases x<;>simp [rdD,hp]) (List.all_eq_true.1 h2 y hy)
  obtain ⟨s2,b1,b2,b3,b4,b5⟩:=rdL_ok h2' a3 a2
  refine ⟨s2,fun f=>?_,b2,b3,fun y hy=>?_,fun p h=>b5 p (a5 p h)⟩
  ·show rdA x s t' (fun s=>rdL l s t' f)=_
   rw [a1,b1]
  ·rcases List.mem_cons.1 hy with rfl | hy
   ·exact fun p e=>b5 p (a4 p e)
   ·exact b4 y hy
theorem wrA_ok (d:Ds) (y:AV) (hd:Dm dom s) (k:Sim M s t t'):∃ s' t1',(∀ f:SG→T→R,wrA M d y s t' f=f s' t1')∧Sim M s' (dset d y t) t1'∧Dm (wrD dom d) s':=by
 cases d with
 | no=>exact ⟨s,t',fun _=>rfl,k,hd⟩
 | to p=>
  have hs:∀ q,(SG.c p y s).has q=true→(SG.c p y s).fnd q=(t.set .u y p).get .u q:=fun q hq=>by
   rw [fnd_c,PT.get_set]
   by_cases e:q=p
   ·rw [if_pos e,if_pos e]
   ·rw [if_neg e,if_neg e]
    rw [has_c] at hq
    exact k.s q (by simpa [e] using hq)
  have hd':Dm (p :: dom) (.c p y s):=fun q hq=>by
   rw [has_c]
   rcases List.mem_cons.1 hq with rfl | hq
   ·simp
   ·rw [hd q hq]; simp
  by_cases hM:M p=true
  ·refine ⟨.c p y s,t'.set .u y p,fun f=>?_,⟨fun q hq=>?_,hs⟩,hd'⟩
   ·show (bf' (M p) (setK .u y p t' fun t=>f (.c p y s) t) (_))=_
    rw [hM]
    exact setK_eq _ _ _ _ _
   ·show (t.set .u y p).get .u q=_
    rw [PT.get_set,PT.get_set,k.m q hq]
  ·refine ⟨.c p y s,t',fun f=>?_,⟨fun q hq=>?_,hs⟩,hd'⟩
   ·show (bf' (M p) (_) (f (.c p y s) t'))=_
    rw [Bool.eq_false_iff.2 hM]
   ·show (t.set .u y p).get .u q=_
    rw [PT.get_set,if_neg (fun e:q=p=>hM (e▸hq)),k.m q hq]
theorem isMv_ok {o:AO} {x:Ar} (h:isMv o=some x):o=.mv x:=by
 cases o with
 | mv y=>cases h; rfl
 | _=>cases h
noncomputable def okOp (M:Pos→Bool) (dom:List Pos) (g:Gd) (d:Ds) (o:AO):Option (List Pos):=match g with
 | .no=>bif (opsOf o).all (okA M dom) then some (wrD (rdDL dom (opsOf o)) d) else none
 | .on p _=>bif okA M dom (.t p) && (opsOf o).all (okA M (p :: dom)) then some (wrD (p :: dom) d) else none
theorem wantK_on (p:Pos) (b:Bool) (t:T) (x y:R):wantK (.on p b) t x y=isB (t.get .u p) b x y:=getK_eq _ _ _ _
theorem bif_some {α:Type} {b:Bool} {x y:α} (h:(bif b then some x else none)=some y):b=true∧x=y:=by
 cases b with
 | true=>exact ⟨rfl,by cases h; rfl⟩
 | false=>cases h
variable {ev:EV} {kp:K} {KP:AV→T→H→R}
theorem dOp_ok {g:Gd} {d:Ds} {o:AO} {dom':List Pos} {KA:T→H→R} {k:DK} (ho:okOp M dom g d o=some dom') (hd:Dm dom s) (hs:Sim M s t t') (hp:∀ v t h,KP v t h=kp v h)
  (hk:∀ s1 t1 t1' h1,Sim M s1 t1 t1'→Dm dom' s1→Fr (dsW d) t t1→KA t1 h1=k s1 t1' h1) :
  wantK g t (op ev o t h (fun v h=>putK d v t fun t=>KA t h) fun v h=>KP v t h) (putK d .u t fun t=>KA t h)=dOp M ev kp g d o s t' h k:=by
 have hkp:(fun v h=>KP v t h)=kp:=by funext v h; exact hp v t h
 have cont:∀ {s1:SG} {dm:List Pos},wrD dm d=dom'→Dm dm s1→Sim M s1 t t'→∀ y h1,(putK d y t fun t=>KA t h1)=wrA M d y s1 t' fun s t=>k s t h1:=fun {s1 dm} e hd1 hs1 y h1=>by
  obtain ⟨s2,t2,b1,b2,b3⟩:=wrA_ok d y hd1 hs1
  rw [putK_eq,b1]
  exact hk _ _ _ _ b2 (e▸b3) (dset_fr d y t)
 cases g with
 | no=>
  obtain ⟨h1,h2⟩:=bif_some ho
  obtain ⟨s1,a1,a2,a3,a4,_⟩:=rdL_ok h1 hd hs
  show op ev o t h (fun v h=>putK d v t fun t=>KA t h) (fun v h=>KP v t h)=_
  cases hm:isMv o with
  | some x=>
   obtain rfl:=isMv_ok hm
   show aval x t (fun v=>putK d v t fun t=>KA t h)=rdA x s t' fun s=>wrA M d (s.val x) s t' fun s t=>k s t h
   have a1':∀ f:SG→R,rdA x s t' f=f s1:=fun f=>a1 f
   rw [a1',aval_w (a2.bd (a4 x (by simp [opsOf]))),cont h2 a3 a2]
  | none=>
   have e:dOp M ev kp .no d o s t' h k=rdL (opsOf o) s t' fun s=>opw ev kp o s h fun y h=>wrA M d y s t' fun s t=>k s t h:=by simp only [dOp,hm]
   rw [e,a1,op_w ev (fun x hx=>a2.bd (a4 x hx)),hkp]
   congr 1
   funext y h1
   exact cont h2 a3 a2 y h1
 | on p b=>
  obtain ⟨h1,h2⟩:=bif_some ho
  obtain ⟨h1,h3⟩:okA M dom (.t p)=true∧(opsOf o).all (okA M (p :: dom))=true:=by simpa using h1
  obtain ⟨s1,a1,a2,a3,a4,_⟩:=rdA_ok h1 hd hs
  obtain ⟨s2,b1,b2,b3,b4,_⟩:=rdL_ok h3 a3 a2
  rw [wantK_on]
  show _=rdA (.t p) s t' fun s=>joinV (fun j=>isB (s.fnd p) b (rdL (opsOf o) s t' fun s=>opw ev kp o s h j) (j .u h)) fun y h=>wrA M d y s t' fun s t=>k s t h
  rw [a1,a2.s p (a4 p rfl),cont h2 a3 a2,op_w ev (fun x hx=>b2.bd (b4 x hx)),hkp]
  show _=isB (t.get .u p) b (rdL (opsOf o) s1 t' fun s=>opw ev kp o s h fun y h=>wrA M d y s1 t' fun s t=>k s t h) (wrA M d .u s1 t' fun s t=>k s t h)
  rw [b1]
  congr 2
  funext y h1
  exact cont h2 a3 a2 y h1
noncomputable def okRg (M:Pos→Bool):OL→List Pos→Option (List Pos)
 | .z,dom=>some dom
 | .c g d o l,dom=>match okOp M dom g d o with
  | some dom=>okRg M l dom
  | none=>none
theorem dRg_ok {KA:T→H→R} {k:DK} (hp:∀ v t h,KP v t h=kp v h):∀ {l:OL} {dom dom':List Pos} {s:SG} {t t':T} {h:H},okRg M l dom=some dom'→Dm dom s→Sim M s t t' →
  (∀ s1 t1 t1' h1,Sim M s1 t1 t1'→Dm dom' s1→Fr (olW l) t t1→KA t1 h1=k s1 t1' h1)→ops ev l t h KA KP=dRg M ev kp l s t' h k
 | .z,_,_,s,t,t',h,ho,hd,hs,hk=>hk s t t' h hs (by cases ho; exact hd) (Fr.refl _ _)
 | .c g d o l,dom,dom',s,t,t',h,ho,hd,hs,hk=>by
  simp only [okRg] at ho
  split at ho
  ·rename_i dom1 h1
   show wantK g t (op ev o t h (fun v h=>putK d v t fun t=>ops ev l t h KA KP) fun v h=>KP v t h) (putK d .u t fun t=>ops ev l t h KA KP)=_
   exact dOp_ok h1 hd hs hp fun s1 t1 t1' h1 i1 i2 i3=>dRg_ok hp ho i2 i1 fun s2 t2 t2' h2 j1 j2 j3=>hk s2 t2 t2' h2 j1 j2 (i3.trans j3 (fun p hp=>by simp [olW,hp]) fun p hp=>by simp [olW,hp])
  ·cases ho
end
end Go.Am
namespace Go.Am
noncomputable section
variable {M:Pos→Bool} {s:SG} {t t':T} {h:H} {dom:List Pos} {ev:EV} {kp:K} {KP:AV→T→H→R}
theorem dQ_ok {g:Gd} {d:Ds} {o:AO} {dom':List Pos} {KA:T→H→R} {k:DK} (ho:okOp M dom g d o=some dom') (hd:Dm dom s) (hs:Sim M s t t')
  (hk:∀ s1 t1 t1' h1,Sim M s1 t1 t1'→Dm dom' s1→Fr (dsW d) t t1→KA t1 h1=k s1 t1' h1) :
  wantK g t (onR (op ev o t h .ok .pan) fun y=>putK d y t fun t=>KA t h) (putK d .u t fun t=>KA t h)=dQ M ev g d o s t' h k:=by
 have cont:∀ {s1:SG} {dm:List Pos},wrD dm d=dom'→Dm dm s1→Sim M s1 t t'→∀ y h1,(putK d y t fun t=>KA t h1)=wrA M d y s1 t' fun s t=>k s t h1:=fun {s1 dm} e hd1 hs1 y h1=>by
  obtain ⟨s2,t2,b1,b2,b3⟩:=wrA_ok d y hd1 hs1
  rw [putK_eq,b1]
  exact hk _ _ _ _ b2 (e▸b3) (dset_fr d y t)
 cases g with
 | no=>
  obtain ⟨h1,h2⟩:=bif_some ho
  obtain ⟨s1,a1,a2,a3,a4,_⟩:=rdL_ok h1 hd hs
  show onR (op ev o t h .ok .pan) (fun y=>putK d y t fun t=>KA t h)=_
  cases hm:isMv o with
  | some x=>
   obtain rfl:=isMv_ok hm
   have a1':∀ f:SG→R,rdA x s t' f=f s1:=fun f=>a1 f
   show onR (aval x t fun v=>.ok v h) (fun y=>putK d y t fun t=>KA t h)=rdA x s t' fun s=>wrA M d (s.val x) s t' fun s t=>k s t h
   rw [a1',aval_w (a2.bd (a4 x (by simp [opsOf])))]
   exact cont h2 a3 a2 _ h
  | none=>
   have e:dQ M ev .no d o s t' h k=rdL (opsOf o) s t' fun s=>onR (opw ev .pan o s h .ok) fun y=>wrA M d y s t' fun s t=>k s t h:=by simp only [dQ,hm]
   rw [e,a1,op_w ev (fun x hx=>a2.bd (a4 x hx))]
   congr 1
   funext y
   exact cont h2 a3 a2 y h
 | on p b=>
  obtain ⟨h1,h2⟩:=bif_some ho
  obtain ⟨h1,h3⟩:okA M dom (.t p)=true∧(opsOf o).all (okA M (p :: dom))=true:=by simpa using h1
  obtain ⟨s1,a1,a2,a3,a4,_⟩:=rdA_ok h1 hd hs
  obtain ⟨s2,b1,b2,b3,b4,_⟩:=rdL_ok h3 a3 a2
  rw [wantK_on]
  show _=rdA (.t p) s t' fun s=>joinV (fun j=>isB (s.fnd p) b (rdL (opsOf o) s t' fun s=>onR (opw ev .pan o s h .ok) fun y=>j y h) (j .u h)) fun y h=>wrA M d y s t' fun s t=>k s t h
  rw [a1,a2.s p (a4 p rfl),cont h2 a3 a2,op_w ev (fun x hx=>b2.bd (b4 x hx))]
  show _=isB (t.get .u p) b (rdL (opsOf o) s1 t' fun s=>onR (opw ev .pan o s h .ok) fun y=>wrA M d y s1 t' fun s t=>k s t h) (wrA M d .u s1 t' fun s t=>k s t h)
  rw [b1]
  congr 2
  funext y
  exact cont h2 a3 a2 y h
def okCk (M:Pos→Bool) (dom:List Pos) (g:Gd) (d:Ds) (o:AO):Option (List Pos):=match d,g with
 | .no,.no=>bif (opsOf o).all (okA M dom) then some dom else none
 | .no,.on p _=>bif okA M dom (.t p) && (opsOf o).all (okA M (p :: dom)) then some (p :: dom) else none
 | .to d,.no=>bif okA M dom (.t d) && (opsOf o).all (okA M (d :: dom)) then some (d :: dom) else none
 | .to d,.on p _=>bif okA M dom (.t p) && okA M (p :: dom) (.t d) && (opsOf o).all (okA M (d :: p :: dom)) then some (d :: p :: dom) else none
theorem Dm.sub {d1 d2:List Pos} (h:Dm d2 s) (hs:∀ p∈d1,p∈d2):Dm d1 s:=fun p hp=>h p (hs p hp)
theorem dC_ok {g:Gd} {d:Ds} {o:AO} {dom':List Pos} {KA:T→H→R} {k:DK} (ho:okCk M dom g d o=some dom') (hd:Dm dom s) (hs:Sim M s t t')
  (hk:∀ s1,Sim M s1 t t'→Dm dom' s1→∀ h1,KA t h1=k s1 t' h1) :
  wantK g t (onR (op ev o t h .ok .pan) fun y=>dck d y t (KA t h)) (dck d .u t (KA t h))=dC ev g d o s t' h k:=by
 cases d with
 | no=>
  cases g with
  | no=>
   obtain ⟨h1,rfl⟩:=bif_some ho
   obtain ⟨s1,a1,a2,a3,a4,a5⟩:=rdL_ok h1 hd hs
   show onR (op ev o t h .ok .pan) (fun _=>KA t h)=rdL (opsOf o) s t' fun s=>onR (opw ev .pan o s h .ok) fun _=>k s t' h
   rw [a1,op_w ev (fun x hx=>a2.bd (a4 x hx)),hk s1 a2 (fun p hp=>a5 p (hd p hp))]
  | on p b=>
   obtain ⟨h1,rfl⟩:=bif_some ho
   obtain ⟨h1,h3⟩:okA M dom (.t p)=true∧(opsOf o).all (okA M (p :: dom))=true:=by simpa using h1
   obtain ⟨s1,a1,a2,a3,a4,_⟩:=rdA_ok h1 hd hs
   obtain ⟨s2,b1,b2,b3,b4,_⟩:=rdL_ok h3 a3 a2
   rw [wantK_on]
   show isB _ b (onR (op ev o t h .ok .pan) fun _=>KA t h) (KA t h)=rdA (.t p) s t' fun s=>joinV (fun j=>isB (s.fnd p) b (rdL (opsOf o) s t' fun s=>onR (opw ev .pan o s h .ok) fun _=>j .u h) (j .u h)) fun _ h=>k s t' h
   rw [a1,a2.s p (a4 p rfl),op_w ev (fun x hx=>b2.bd (b4 x hx)),hk s1 a2 a3]
   show _=isB (t.get .u p) b (rdL (opsOf o) s1 t' fun s=>onR (opw ev .pan o s h .ok) fun _=>k s1 t' h) (k s1 t' h)
   rw [b1]
 | to d=>
  cases g with
  | no=>
   obtain ⟨h1,rfl⟩:=bif_some ho
   obtain ⟨h1,h3⟩:okA M dom (.t d)=true∧(opsOf o).all (okA M (d :: dom))=true:=by simpa using h1
   obtain ⟨s1,a1,a2,a3,a4,a5⟩:=rdA_ok h1 hd hs
   obtain ⟨s2,b1,b2,b3,b4,b5⟩:=rdL_ok h3 a3 a2
   have hd2:Dm (d :: dom) s2:=fun p hp=>b5 p (a3 p hp)
   show onR (op ev o t h .ok .pan) (fun y=>getK .u d t fun y'=>aeq y y' (KA t h))=_
   cases hm:isMv o with
   | some x=>
    obtain rfl:=isMv_ok hm
    have b1':∀ f:SG→R,rdA x s1 t' f=f s2:=fun f=>b1 f
    show onR (aval x t fun v=>.ok v h) (fun y=>getK .u d t fun y'=>aeq y y' (KA t h))=rdA (.t d) s t' fun s=>rdA x s t' fun s=>aeq (s.val x) (s.fnd d) (k s t' h)
    rw [a1,b1',aval_w (b2.bd (b4 x (by simp [opsOf]))),b2.s d (b5 d (a4 d rfl)),hk s2 b2 hd2]
    exact getK_eq _ _ _ _
   | none=>
    have e:dC ev .no (.to d) o s t' h k=rdA (.t d) s t' fun s=>rdL (opsOf o) s t' fun s=>onR (opw ev .pan o s h .ok) fun y=>aeq y (s.fnd d) (k s t' h):=by simp only [dC,hm]
    rw [e,a1,b1,op_w ev (fun x hx=>b2.bd (b4 x hx)),b2.s d (b5 d (a4 d rfl)),hk s2 b2 hd2]
    congr 1
    funext y
    exact getK_eq _ _ _ _
  | on p b=>
   obtain ⟨h1,rfl⟩:=bif_some ho
   obtain ⟨⟨h1,h2⟩,h3⟩:(okA M dom (.t p)=true∧okA M (p :: dom) (.t d)=true)∧(opsOf o).all (okA M (d :: p :: dom))=true:=by simpa using h1
   obtain ⟨s1,a1,a2,a3,a4,a5⟩:=rdA_ok h1 hd hs
   obtain ⟨s2,b1,b2,b3,b4,b5⟩:=rdA_ok h2 a3 a2
   obtain ⟨s3,c1,c2,c3,c4,c5⟩:=rdL_ok h3 b3 b2
   rw [wantK_on]
   show isB _ b (onR (op ev o t h .ok .pan) fun y=>getK .u d t fun y'=>aeq y y' (KA t h)) (getK .u d t fun y'=>aeq .u y' (KA t h))=rdA (.t p) s t' fun s=>rdA (.t d) s t' fun s=>joinV (fun j=>isB (s.fnd p) b (rdL (opsOf o) s t' fun s=>onR (opw ev .pan o s h .ok) fun y=>aeq y (s.fnd d) (j .u h)) (aeq .u (s.fnd d) (j .u h))) fun _ h=>k s t' h
   rw [a1,b1,b2.s p (b5 p (a4 p rfl)),op_w ev (fun x hx=>c2.bd (c4 x hx)),hk s2 b2 b3]
   show _=isB (t.get .u p) b (rdL (opsOf o) s2 t' fun s=>onR (opw ev .pan o s h .ok) fun y=>aeq y (s.fnd d) (k s2 t' h)) (aeq .u (s2.fnd d) (k s2 t' h))
   rw [c1,c2.s d (c5 d (b4 d rfl)),b2.s d (b4 d rfl)]
   congr 1
   ·congr 1; funext y; exact getK_eq _ _ _ _
   ·exact getK_eq _ _ _ _
def okRs (M:Pos→Bool) (dom:List Pos) (g:Gd) (p:Pos) (o:AK):Option (List Pos):=match g with
 | .no=>bif (akA o).all (okA M dom) then some (p :: rdDL dom (akA o)) else none
 | .on q _=>bif okA M dom (.t q) && (akA o).all (okA M (q :: dom)) then some (p :: q :: dom) else none
theorem resv_w {o:AK} (hb:∀ x∈akA o,bdA s t x) (h:H) (k:K):resv o t h k=rsW o s h k:=by
 cases o with
 | a cs=>rfl
 | s n zs ps=>
  show onR (fill ps t zs fun cs=>.ok cs h) (fun _=>rsv h fun r h=>k (.sk r 0 n n) h)=onR (fill (s.subP ps) .e zs fun cs=>.ok cs h) fun _=>rsv h fun r h=>k (.sk r 0 n n) h
  rw [fill_w (ps:=ps) hb]
theorem putO_w {o:AK} (hb:∀ x∈akA o,bdA s t x) (y:AV) (h:H) (k:H→R):putO o y t h k=ptW o s y h k:=by
 cases o with
 | a cs=>rfl
 | s n zs ps=>
  show asSk y (fun r _ _ _=>onR (fill ps t zs fun cs=>.ok cs h) fun cs=>hset r (.row cs) h k)=asSk y fun r _ _ _=>onR (fill (s.subP ps) .e zs fun cs=>.ok cs h) fun cs=>hset r (.row cs) h k
  rw [fill_w (ps:=ps) hb]
theorem dRs_ok {g:Gd} {p:Pos} {o:AK} {dom':List Pos} {KA:T→H→R} {k:DK} (ho:okRs M dom g p o=some dom') (hd:Dm dom s) (hs:Sim M s t t')
  (hk:∀ s1 t1 t1' h1,Sim M s1 t1 t1'→Dm dom' s1→Fr [p] t t1→KA t1 h1=k s1 t1' h1) :
  wantK g t (resv o t h fun y h=>setK .u y p t fun t=>KA t h) (setK .u .u p t fun t=>KA t h)=dRs M g p o s t' h k:=by
 have cont:∀ {s1:SG} {dm:List Pos},p :: dm=dom'→Dm dm s1→Sim M s1 t t'→∀ y h1,(setK .u y p t fun t=>KA t h1)=wrA M (.to p) y s1 t' fun s t=>k s t h1:=fun {s1 dm} e hd1 hs1 y h1=>by
  obtain ⟨s2,t2,b1,b2,b3⟩:=wrA_ok (.to p) y hd1 hs1
  rw [setK_eq,b1]
  exact hk _ _ _ _ b2 (e▸b3) (dset_fr (.to p) y t)
 cases g with
 | no=>
  obtain ⟨h1,h2⟩:=bif_some ho
  obtain ⟨s1,a1,a2,a3,a4,_⟩:=rdL_ok h1 hd hs
  show resv o t h (fun y h=>setK .u y p t fun t=>KA t h)=rdL (akA o) s t' fun s=>rsW o s h fun y h=>wrA M (.to p) y s t' fun s t=>k s t h
  rw [a1,resv_w (fun x hx=>a2.bd (a4 x hx))]
  congr 1
  funext y h1
  exact cont h2 a3 a2 y h1
 | on q b=>
  obtain ⟨h1,h2⟩:=bif_some ho
  obtain ⟨h1,h3⟩:okA M dom (.t q)=true∧(akA o).all (okA M (q :: dom))=true:=by simpa using h1
  obtain ⟨s1,a1,a2,a3,a4,_⟩:=rdA_ok h1 hd hs
  obtain ⟨s2,b1,b2,b3,b4,_⟩:=rdL_ok h3 a3 a2
  rw [wantK_on]
  show _=rdA (.t q) s t' fun s=>joinV (fun j=>isB (s.fnd q) b (rdL (akA o) s t' fun s=>rsW o s h j) (j .u h)) fun y h=>wrA M (.to p) y s t' fun s t=>k s t h
  rw [a1,a2.s q (a4 q rfl),cont h2 a3 a2,resv_w (fun x hx=>b2.bd (b4 x hx))]
  show _=isB (t.get .u q) b (rdL (akA o) s1 t' fun s=>rsW o s h fun y h=>wrA M (.to p) y s1 t' fun s t=>k s t h) (wrA M (.to p) .u s1 t' fun s t=>k s t h)
  rw [b1]
  congr 2
  funext y h1
  exact cont h2 a3 a2 y h1
def okPt (M:Pos→Bool) (dom:List Pos) (g:Gd) (p:Pos) (o:AK):Option (List Pos):=match g with
 | .no=>bif okA M dom (.t p) && (akA o).all (okA M (p :: dom)) then some (p :: dom) else none
 | .on q _=>bif okA M dom (.t q) && okA M (q :: dom) (.t p) && (akA o).all (okA M (p :: q :: dom)) then some (p :: q :: dom) else none
theorem dPt_ok {g:Gd} {p:Pos} {o:AK} {dom':List Pos} {KA:T→H→R} {k:DK} (ho:okPt M dom g p o=some dom') (hd:Dm dom s) (hs:Sim M s t t')
  (hk:∀ s1,Sim M s1 t t'→Dm dom' s1→∀ h1,KA t h1=k s1 t' h1) :
  wantK g t (getK .u p t fun y=>putO o y t h fun h=>KA t h) (KA t h)=dPt g p o s t' h k:=by
 cases g with
 | no=>
  obtain ⟨h1,rfl⟩:=bif_some ho
  obtain ⟨h1,h3⟩:okA M dom (.t p)=true∧(akA o).all (okA M (p :: dom))=true:=by simpa using h1
  obtain ⟨s1,a1,a2,a3,a4,a5⟩:=rdA_ok h1 hd hs
  obtain ⟨s2,b1,b2,b3,b4,b5⟩:=rdL_ok h3 a3 a2
  show getK .u p t (fun y=>putO o y t h fun h=>KA t h)=rdA (.t p) s t' fun s=>rdL (akA o) s t' fun s=>ptW o s (s.fnd p) h fun h=>k s t' h
  rw [a1,b1,getK_eq,putO_w (fun x hx=>b2.bd (b4 x hx)),b2.s p (b5 p (a4 p rfl))]
  congr 1
  funext h1
  exact hk s2 b2 (fun q hq=>b5 q (a3 q hq)) h1
 | on q b=>
  obtain ⟨h1,rfl⟩:=bif_some ho
  obtain ⟨⟨h1,h2⟩,h3⟩:(okA M dom (.t q)=true∧okA M (q :: dom) (.t p)=true)∧(akA o).all (okA M (p :: q :: dom))=true:=by simpa using h1
  obtain ⟨s1,a1,a2,a3,a4,a5⟩:=rdA_ok h1 hd hs
  obtain ⟨s2,b1,b2,b3,b4,b5⟩:=rdA_ok h2 a3 a2
  obtain ⟨s3,c1,c2,c3,c4,c5⟩:=rdL_ok h3 b3 b2
  rw [wantK_on]
  show _=rdA (.t q) s t' fun s=>rdA (.t p) s t' fun s=>joinV (fun j=>isB (s.fnd q) b (rdL (akA o) s t' fun s=>ptW o s (s.fnd p) h fun h=>j .u h) (j .u h)) fun _ h=>k s t' h
  rw [a1,b1,b2.s q (b5 q (a4 q rfl)),getK_eq,putO_w (fun x hx=>c2.bd (c4 x hx)),hk s2 b2 b3]
  show _=isB (t.get .u q) b (rdL (akA o) s2 t' fun s=>ptW o s (s.fnd p) h fun h=>k s2 t' h) (k s2 t' h)
  rw [c1,c2.s p (c5 p (b4 p rfl))]
  congr 2
  funext h1
  exact hk s2 b2 b3 h1
def okDr (M:Pos→Bool):DL→List Pos→Option (List Pos)
 | .z,dom=>some dom
 | .q _ g d o l,dom | .l _ g d o l,dom=>match okOp M dom g d o with
  | some dom=>okDr M l dom
  | none=>none
 | .ck _ g d o l,dom=>match okCk M dom g d o with
  | some dom=>okDr M l dom
  | none=>none
 | .rs _ g p o l,dom=>match okRs M dom g p o with
  | some dom=>okDr M l dom
  | none=>none
 | .pt _ g p o l,dom=>match okPt M dom g p o with
  | some dom=>okDr M l dom
  | none=>none
theorem dDr_ok {KA:T→H→R} {k:DK} (hp:∀ v t h,KP v t h=kp v h):∀ {l:DL} {dom dom':List Pos} {s:SG} {t t':T} {h:H},okDr M l dom=some dom'→Dm dom s→Sim M s t t' →
  (∀ s1 t1 t1' h1,Sim M s1 t1 t1'→Dm dom' s1→Fr (dlW l) t t1→KA t1 h1=k s1 t1' h1)→dops ev l t h KA KP=dDr M ev kp l s t' h k
 | .z,_,_,s,t,t',h,ho,hd,hs,hk=>hk s t t' h hs (by cases ho; exact hd) (Fr.refl _ _)
 | .q i g d o l,dom,dom',s,t,t',h,ho,hd,hs,hk=>by
  simp only [okDr] at ho
  split at ho
  ·rename_i dom1 h1
   show wantK g t (onR (op ev o t h .ok .pan) fun y=>putK d y t fun t=>dops ev l t h KA KP) (putK d .u t fun t=>dops ev l t h KA KP)=_
   exact dQ_ok h1 hd hs fun s1 t1 t1' h1 i1 i2 i3=>dDr_ok hp ho i2 i1 fun s2 t2 t2' h2 j1 j2 j3=>hk s2 t2 t2' h2 j1 j2 (i3.trans j3 (fun p hp=>by simp [dlW,hp]) fun p hp=>by simp [dlW,hp])
  ·cases ho
 | .l i g d o l,dom,dom',s,t,t',h,ho,hd,hs,hk=>by
  simp only [okDr] at ho
  split at ho
  ·rename_i dom1 h1
   show wantK g t (op ev o t h (fun v h=>putK d v t fun t=>dops ev l t h KA KP) fun v h=>KP v t h) (putK d .u t fun t=>dops ev l t h KA KP)=_
   exact dOp_ok h1 hd hs hp fun s1 t1 t1' h1 i1 i2 i3=>dDr_ok hp ho i2 i1 fun s2 t2 t2' h2 j1 j2 j3=>hk s2 t2 t2' h2 j1 j2 (i3.trans j3 (fun p hp=>by simp [dlW,hp]) fun p hp=>by simp [dlW,hp])
  ·cases ho
 | .ck i g d o l,dom,dom',s,t,t',h,ho,hd,hs,hk=>by
  simp only [okDr] at ho
  split at ho
  ·rename_i dom1 h1
   show wantK g t (onR (op ev o t h .ok .pan) fun y=>dck d y t (dops ev l t h KA KP)) (dck d .u t (dops ev l t h KA KP))=_
   exact dC_ok (KA:=fun t h=>dops ev l t h KA KP) h1 hd hs fun s1 i1 i2 h1=>dDr_ok hp ho i2 i1 hk
  ·cases ho
 | .rs i g p o l,dom,dom',s,t,t',h,ho,hd,hs,hk=>by
  simp only [okDr] at ho
  split at ho
  ·rename_i dom1 h1
   show wantK g t (resv o t h fun y h=>setK .u y p t fun t=>dops ev l t h KA KP) (setK .u .u p t fun t=>dops ev l t h KA KP)=_
   exact dRs_ok (KA:=fun t h=>dops ev l t h KA KP) h1 hd hs fun s1 t1 t1' h1 i1 i2 i3=>dDr_ok hp ho i2 i1 fun s2 t2 t2' h2 j1 j2 j3=>hk s2 t2 t2' h2 j1 j2 (i3.trans j3 (fun p hp=>by simp at hp; simp [dlW,hp]) fun p hp=>by simp [dlW,hp])
  ·cases ho
 | .pt i g p o l,dom,dom',s,t,t',h,ho,hd,hs,hk=>by
  simp only [okDr] at ho
  split at ho
  ·rename_i dom1 h1
   show wantK g t (getK .u p t fun y=>putO o y t h fun h=>dops ev l t h KA KP) (dops ev l t h KA KP)=_
   exact dPt_ok (KA:=fun t h=>dops ev l t h KA KP) h1 hd hs fun s1 i1 i2 h1=>dDr_ok hp ho i2 i1 hk
  ·cases ho
end
end Go.Am
namespace Go.Am
noncomputable section
variable {M:Pos→Bool} {ev:EV} {kp:K} {ret:DK} {n:Nat}
def okRl (M:Pos→Bool):RL→List Pos→Bool
 | .z,_=>true
 | .c r l,dom=>okA M dom (.t (rsT r)) && okRl M l (rsT r :: dom)
def drpD (dom w:List Pos):List Pos:=dom.filter fun p=>!w.any (posq p)
def okC (M:Pos→Bool) (rs:RL):AC→List Pos→Option (Option (List Pos))
 | .dr l,dom=>(okDr M l dom).map some
 | .rg l,dom=>(okRg M l dom).map some
 | .sk,dom=>some (some dom)
 | .sq a b,dom=>match okC M rs a dom with
  | some (some d)=>okC M rs b d
  | some none=>some none
  | none=>none
 | .cd x a b,dom=>bif okA M dom x then match okC M rs a (rdD dom x),okC M rs b (rdD dom x) with
   | some oa,some ob=>bif nrm a && nrm b then some (some (drpD (rdD dom x) (acW a ++ acW b))) else match oa,ob with
    | some d,none=>some (some d)
    | none,some d=>some (some d)
    | none,none=>some none
    | some _,some _=>none
   | _,_=>none
  else none
 | .bl _ b,dom=>match okC M rs b dom with
  | some _=>some (some (drpD dom (acW b)))
  | none=>none
 | .lp b,dom=>match okC M rs b (drpD dom (acW b)) with
  | some _=>some none
  | none=>none
 | .ex _,_=>some none
 | .rt,dom=>bif okRl M rs dom then some none else none
 | .rf ..,_=>none
theorem Dm_drop {s:SG} {dom w:List Pos} (hd:Dm dom s):Dm (drpD dom w) (s.drop w):=fun p hp=>by
 simp only [drpD,List.mem_filter,Bool.not_eq_true',← Bool.not_eq_true,any_posq] at hp
 exact has_drop.2 ⟨hd p hp.1,hp.2⟩
theorem cnd_eq (v:AV) (x y:R):cnd v x y=asB v fun b=>kif b x y:=rfl
theorem den_ok {rs:RL}:∀ {c:AC} {dom:List Pos} {out:Option (List Pos)} {jm:JM} {s:SG} {t t':T} {h:H} {k:DK} {KK:KC},okC M rs c dom=some out→Dm dom s→Sim M s t t' →
  (∀ d,out=some d→∀ s1 t1 t1' h1,Sim M s1 t1 t1'→Dm d s1→Fr (acW c) t t1→KK .nm t1 h1=k s1 t1' h1) →
  (∀ id t1 t1' h1,(∀ p,M p=true→t1.get .u p=t1'.get .u p)→Fr (acW c) t t1→KK (.ex id) t1 h1=jm id t1' h1) →
  (∀ s1 t1 t1' h1 d,Sim M s1 t1 t1'→Dm d s1→okRl M rs d=true→KK .rt t1 h1=ret s1 t1' h1) →
  (∀ v t1 h1,KK (.pn v) t1 h1=kp v h1)→cod ev n c KK t h=den M ev n kp ret c jm s t' h k:=by
 intro c
 induction c with
 | dr l=>
  intro dom out jm s t t' h k KK ho hd hs hn hj hr hp
  obtain ⟨d,h1,rfl⟩:=Option.map_eq_some_iff.1 ho
  exact dDr_ok (fun v t h=>hp v t h) h1 hd hs (hn d rfl)
 | sk=>intro dom out jm s t t' h k KK ho hd hs hn hj hr hp; cases ho; exact hn dom rfl s t t' h hs hd (Fr.refl _ _)
 | rg l=>
  intro dom out jm s t t' h k KK ho hd hs hn hj hr hp
  obtain ⟨d,h1,rfl⟩:=Option.map_eq_some_iff.1 ho
  exact dRg_ok (fun v t h=>hp v t h) h1 hd hs (hn d rfl)
 | sq a b iha ihb=>
  intro dom out jm s t t' h k KK ho hd hs hn hj hr hp
  have sa:∀ p∈acW a,p∈acW (.sq a b):=fun p hp=>by simp [acW,hp]
  have sb:∀ p∈acW b,p∈acW (.sq a b):=fun p hp=>by simp [acW,hp]
  show cod ev n a (seqK (cod ev n b) KK |> fun f=>seqK (cod ev n b) KK) t h=den M ev n kp ret a jm s t' h fun s t h=>den M ev n kp ret b jm s t h k
  simp only [okC] at ho
  split at ho
  ·rename_i d h1
   refine iha h1 hd hs (fun d' e s1 t1 t1' h1 i1 i2 i3=>?_) (fun id t1 t1' h1 i1 i2=>hj id t1 t1' h1 i1 (i2.mono sa)) hr hp
   cases e
   exact ihb ho i2 i1 (fun d2 e2 s2 t2 t2' h2 j1 j2 j3=>hn d2 e2 s2 t2 t2' h2 j1 j2 (i3.trans j3 sa sb)) (fun id t2 t2' h2 j1 j2=>hj id t2 t2' h2 j1 (i3.trans j2 sa sb)) hr hp
  ·rename_i h1
   exact iha h1 hd hs (fun d' e=>by cases e) (fun id t1 t1' h1 i1 i2=>hj id t1 t1' h1 i1 (i2.mono sa)) hr hp
  ·cases ho
 | cd x a b iha ihb=>
  intro dom out jm s t t' h k KK ho hd hs hn hj hr hp
  have sa:∀ p∈acW a,p∈acW (.cd x a b):=fun p hp=>by simp [acW,hp]
  have sb:∀ p∈acW b,p∈acW (.cd x a b):=fun p hp=>by simp [acW,hp]
  cases hx:okA M dom x with
  | false=>simp [okC,hx] at ho
  | true=>
   obtain ⟨s1,a1,a2,a3,a4,a5⟩:=rdA_ok hx hd hs
   simp only [okC,hx,cond_true] at ho
   split at ho
   ·rename_i oa ob ha hb
    show aval x t (fun v=>asB v fun v=>kif v (cod ev n a KK t h) (cod ev n b KK t h))=rdA x s t' fun s=>bf' (nrm a && nrm b)
     (join (fun j=>cnd (s.val x) (den M ev n kp ret a jm s t' h fun _ t h=>j t h) (den M ev n kp ret b jm s t' h fun _ t h=>j t h)) fun t h=>k (s.drop (acW a ++ acW b)) t h)
     (cnd (s.val x) (den M ev n kp ret a jm s t' h k) (den M ev n kp ret b jm s t' h k))
    rw [a1,aval_w (a2.bd a4)]
    cases hq:nrm a && nrm b with
    | true=>
     rw [hq] at ho
     cases ho
     have hc:∀ s2 t2 t2' h2,Sim M s2 t2 t2'→Fr (acW a ++ acW b) t t2→KK .nm t2 h2=k (s1.drop (acW a ++ acW b)) t2' h2:=fun s2 t2 t2' h2 i1 i2=>
      hn _ rfl _ t2 t2' h2 (a2.drop i1.m i2) (Dm_drop a3) i2
     show asB (s1.val x) (fun v=>kif v _ _)=asB (s1.val x) fun v=>kif v (den M ev n kp ret a jm s1 t' h fun _ t h=>k (s1.drop (acW a ++ acW b)) t h) (den M ev n kp ret b jm s1 t' h fun _ t h=>k (s1.drop (acW a ++ acW b)) t h)
     rw [iha (jm:=jm) (k:=fun _ t h=>k (s1.drop (acW a ++ acW b)) t h) ha a3 a2 (fun d _ s2 t2 t2' h2 i1 _ i3=>hc s2 t2 t2' h2 i1 (i3.mono sa)) (fun id t1 t1' h1 i1 i2=>hj id t1 t1' h1 i1 (i2.mono sa)) hr hp,
      ihb (jm:=jm) (k:=fun _ t h=>k (s1.drop (acW a ++ acW b)) t h) hb a3 a2 (fun d _ s2 t2 t2' h2 i1 _ i3=>hc s2 t2 t2' h2 i1 (i3.mono sb)) (fun id t1 t1' h1 i1 i2=>hj id t1 t1' h1 i1 (i2.mono sb)) hr hp]
    | false=>
     rw [hq] at ho
     simp only [cond_false] at ho
     have ha':∀ d,oa=some d→out=some d:=fun d e=>by
      subst e
      cases ob with
      | none=>cases ho; rfl
      | some _=>cases ho
     have hb':∀ d,ob=some d→out=some d:=fun d e=>by
      subst e
      cases oa with
      | none=>cases ho; rfl
      | some _=>cases ho
     show asB (s1.val x) (fun v=>kif v _ _)=asB (s1.val x) fun v=>kif v (den M ev n kp ret a jm s1 t' h k) (den M ev n kp ret b jm s1 t' h k)
     rw [iha (jm:=jm) (k:=k) ha a3 a2 (fun d e s2 t2 t2' h2 i1 i2 i3=>hn d (ha' d e) s2 t2 t2' h2 i1 i2 (i3.mono sa)) (fun id t1 t1' h1 i1 i2=>hj id t1 t1' h1 i1 (i2.mono sa)) hr hp,
      ihb (jm:=jm) (k:=k) hb a3 a2 (fun d e s2 t2 t2' h2 i1 i2 i3=>hn d (hb' d e) s2 t2 t2' h2 i1 i2 (i3.mono sb)) (fun id t1 t1' h1 i1 i2=>hj id t1 t1' h1 i1 (i2.mono sb)) hr hp]
   ·cases ho
 | bl id b ih=>
  intro dom out jm s t t' h k KK ho hd hs hn hj hr hp
  simp only [okC] at ho
  split at ho
  ·rename_i ob hb
   cases ho
   have hc:∀ t2 t2' h2,(∀ p,M p=true→t2.get .u p=t2'.get .u p)→Fr (acW b) t t2→KK .nm t2 h2=k (s.drop (acW b)) t2' h2:=fun t2 t2' h2 i1 i2=>
    hn _ rfl _ t2 t2' h2 (hs.drop i1 i2) (Dm_drop hd) i2
   show cod ev n b (blkK id KK) t h=den M ev n kp ret b (jset id (fun t h=>k (s.drop (acW b)) t h) jm) s t' h fun _ t h=>k (s.drop (acW b)) t h
   refine ih hb hd hs (fun d e s1 t1 t1' h1 i1 i2 i3=>hc t1 t1' h1 i1.m i3) (fun i t1 t1' h1 i1 i2=>?_) hr hp
   show kif (Nat.beq i id) (KK .nm t1 h1) (KK (.ex i) t1 h1)=kif (Nat.beq i id) (k (s.drop (acW b)) t1' h1) (jm i t1' h1)
   rw [hc t1 t1' h1 i1 i2,hj i t1 t1' h1 i1 i2]
  ·cases ho
 | lp b ih=>
  intro dom out jm s t t' h k KK ho hd hs hn hj hr hp
  simp only [okC] at ho
  split at ho
  ·rename_i ob hb
   cases ho
   show lop n (cod ev n b) KK t h=loopS n (fun a t h=>den M ev n kp ret b jm (s.drop (acW b)) t h fun _ t h=>a t h) t' h
   have loop:∀ (m:Nat) t1 t1' h1,(∀ p,M p=true→t1.get .u p=t1'.get .u p)→Fr (acW b) t t1→lop m (cod ev n b) KK t1 h1=loopS m (fun a t h=>den M ev n kp ret b jm (s.drop (acW b)) t h fun _ t h=>a t h) t1' h1:=by
    intro m
    induction m with
    | zero=>intro t1 t1' h1 _ _; rfl
    | succ m ihm=>
     intro t1 t1' h1 i1 i2
     show cod ev n b (lpK (lop m (cod ev n b) KK) KK) t1 h1=den M ev n kp ret b jm (s.drop (acW b)) t1' h1 fun _ t h=>loopS m (fun a t h=>den M ev n kp ret b jm (s.drop (acW b)) t h fun _ t h=>a t h) t h
     exact ih hb (Dm_drop hd) (hs.drop i1 i2) (fun d e s2 t2 t2' h2 j1 _ j3=>ihm t2 t2' h2 j1.m (i2.trans j3 (fun _ h=>h) fun _ h=>h)) (fun id t2 t2' h2 j1 j2=>hj id t2 t2' h2 j1 (i2.trans j2 (fun _ h=>h) fun _ h=>h)) hr hp
   exact loop n t t' h hs.m (Fr.refl _ _)
  ·cases ho
 | ex id=>intro dom out jm s t t' h k KK ho hd hs hn hj hr hp; exact hj id t t' h hs.m (Fr.refl _ _)
 | rt=>
  intro dom out jm s t t' h k KK ho hd hs hn hj hr hp
  cases hb:okRl M rs dom with
  | false=>simp [okC,hb] at ho
  | true=>exact hr s t t' h dom hs hd hb
 | rf=>intro dom out jm s t t' h k KK ho; cases ho
theorem rtL_ok:∀ {rs:RL} {dom:List Pos} {s:SG} {t t':T} {h:H} {f:AV→R},okRl M rs dom=true→Dm dom s→Sim M s t t'→resL rs t h f=rtL rs s t' h f
 | .z,_,_,_,_,_,_,_,_,_=>rfl
 | .c r l,dom,s,t,t',h,f,ho,hd,hs=>by
  obtain ⟨h1,h2⟩:okA M dom (.t (rsT r))=true∧okRl M l (rsT r :: dom)=true:=by simpa [okRl] using ho
  obtain ⟨s1,a1,a2,a3,a4,a5⟩:=rdA_ok h1 hd hs
  show resV r t h (fun v=>resL l t h fun l=>f (.c v l))=rtV r s t' h fun s v=>rtL l s t' h fun l=>f (.c v l)
  have go:∀ v,(resL l t h fun l=>f (.c v l))=rtL l s1 t' h fun l=>f (.c v l):=fun v=>rtL_ok h2 a3 a2
  have hv:=a2.s (rsT r) (a4 _ rfl)
  cases r with
  | t p=>
   show getK .u p t (fun v=>resL l t h fun l=>f (.c v l))=rdA (.t p) s t' fun s=>rtL l s t' h fun l=>f (.c (s.fnd p) l)
   have a1':∀ f:SG→R,rdA (.t p) s t' f=f s1:=a1
   rw [getK_eq,a1',go]
   exact congrArg (fun v=>rtL l s1 t' h fun l=>f (.c v l)) hv.symm
  | c1 p=>
   show getK .u p t (fun v=>asP v fun r o=>ld1 r o h fun v=>resL l t h fun l=>f (.c v l))=rdA (.t p) s t' fun s=>asP (s.fnd p) fun r o=>ld1 r o h fun v=>rtL l s t' h fun l=>f (.c v l)
   have a1':∀ f:SG→R,rdA (.t p) s t' f=f s1:=a1
   rw [getK_eq,a1',show s1.fnd p=t.get .u p from hv]
   congr; funext r o; congr; funext v; exact go v
  | cn p m=>
   show getK .u p t (fun v=>asP v fun r o=>ldn r o m h fun v=>resL l t h fun l=>f (.c (.a v) l))=rdA (.t p) s t' fun s=>asP (s.fnd p) fun r o=>ldn r o m h fun v=>rtL l s t' h fun l=>f (.c (.a v) l)
   have a1':∀ f:SG→R,rdA (.t p) s t' f=f s1:=a1
   rw [getK_eq,a1',show s1.fnd p=t.get .u p from hv]
   congr; funext r o; congr; funext v; exact go (.a v)
theorem ret_w {rs:RL} {one:Bool} {dom:List Pos} {s:SG} {t t':T} {h:H} {k:K} (ho:okRl M rs dom=true) (hd:Dm dom s) (hs:Sim M s t t'):Go.Am.ret rs one t h k=retW rs one k s t' h:=by
 show resL rs t h (fun l=>kif one (onC l (.fail 163) fun x _=>k x h) (k (.t l) h))=_
 rw [rtL_ok ho hd hs]
 refine congrArg (rtL rs s t' h) (funext fun l=>?_)
 cases one<;>rfl
def plL:PL→List Pos
 | .z=>[]
 | .c p l=>p :: plL l
def args?:PL→AV→Option (List AV)
 | .z,.z=>some []
 | .c _ l,.c x a=>(args? l a).map (x :: ·)
 | _,_=>none
def setT:PL→List AV→T→T
 | .c p l,x :: xs,t=>setT l xs (t.set .u x p)
 | _,_,t=>t
def addS:PL→List AV→SG→SG
 | .c p l,x :: xs,s=>addS l xs (.c p x s)
 | _,_,s=>s
theorem bind_w:∀ {ps:PL} {a:AV} {t:T} {s:SG} {f:T→R} {g:SG→R},(∀ xs,args? ps a=some xs→f (setT ps xs t)=g (addS ps xs s))→bindA ps a t f=bndS ps a s g
 | .z,a,t,s,f,g,hh=>by
  show onC a (f t) (fun _ _=>.fail 161)=onC a (g s) fun _ _=>.fail 161
  cases a with
  | z=>exact hh [] rfl
  | _=>rfl
 | .c p l,a,t,s,f,g,hh=>by
  show onC a (.fail 162) (fun x r=>setK .u x p t fun t=>bindA l r t f)=onC a (.fail 162) fun x r=>bndS l r (.c p x s) g
  cases a with
  | c x r=>
   show setK .u x p t (fun t=>bindA l r t f)=bndS l r (.c p x s) g
   rw [setK_eq]
   exact bind_w fun xs hx=>hh (x :: xs) (by simp [args?,hx])
  | _=>rfl
theorem sim_add:∀ {ps:PL} {a:AV} {xs:List AV} {s:SG} {t:T},args? ps a=some xs→(∀ p,s.has p=true→s.fnd p=t.get .u p) →
  (∀ p,(addS ps xs s).has p=true→(addS ps xs s).fnd p=(setT ps xs t).get .u p)∧(∀ p,(addS ps xs s).has p=true↔p∈plL ps∨s.has p=true)∧(∀ p,p∉plL ps→(setT ps xs t).get .u p=t.get .u p)
 | .z,a,xs,s,t,hx,hs=>by
  cases a<;>cases hx
  exact ⟨hs,fun p=>by simp [addS,plL],fun _ _=>rfl⟩
 | .c p l,a,xs,s,t,hx,hs=>by
  cases a with
  | c x r=>
   obtain ⟨ys,hy,rfl⟩:=Option.map_eq_some_iff.1 hx
   obtain ⟨i1,i2,i3⟩:=sim_add (s:=.c p x s) (t:=t.set .u x p) hy fun q hq=>by
    rw [fnd_c,PT.get_set]
    by_cases e:q=p
    ·rw [if_pos e,if_pos e]
    ·rw [if_neg e,if_neg e]
     rw [has_c] at hq
     exact hs q (by simpa [e] using hq)
   refine ⟨i1,fun q=>?_,fun q hq=>?_⟩
   ·show (addS l ys (.c p x s)).has q=true↔_
    rw [i2,has_c]; simp [plL,or_assoc,or_left_comm]
   ·show (setT l ys (t.set .u x p)).get .u q=_
    rw [i3 q (fun h=>hq (by simp [plL,h])),PT.get_set,if_neg (fun e=>hq (by simp [plL,e]))]
  | _=>cases hx
theorem setps_ok {s:SG}:∀ {ps:PL} {t:T},∃ t',(∀ f:T→R,setps M ps s t f=f t')∧∀ p,t'.get .u p=if M p=true∧p∈plL ps then s.fnd p else t.get .u p
 | .z,t=>⟨t,fun _=>rfl,fun p=>by simp [plL]⟩
 | .c q l,t=>by
  by_cases hM:M q=true
  ·obtain ⟨t',h1,h2⟩:=setps_ok (s:=s) (ps:=l) (t:=t.set .u (s.fnd q) q)
   refine ⟨t',fun f=>?_,fun p=>?_⟩
   ·show (bf' (M q) (setK .u (s.fnd q) q t fun t=>setps M l s t f) (_))=_
    rw [hM]
    show setK .u (s.fnd q) q t (fun t=>setps M l s t f)=_
    rw [setK_eq,h1]
   ·rw [h2,PT.get_set]
    by_cases e:p=q
    ·subst e; simp [hM,plL]
    ·simp [plL,e]
  ·obtain ⟨t',h1,h2⟩:=setps_ok (s:=s) (ps:=l) (t:=t)
   refine ⟨t',fun f=>?_,fun p=>?_⟩
   ·show (bf' (M q) (_) (setps M l s t f))=_
    rw [Bool.eq_false_iff.2 hM]
    exact h1 f
   ·rw [h2]
    by_cases e:p=q
    ·subst e; simp [hM]
    ·simp [plL,e]
def okF (M:Pos→Bool) (ps:PL) (rs:RL) (body:AC):Bool:=match okC M rs body (plL ps) with
 | some none=>true
 | some (some d)=>okRl M rs d
 | none=>false
theorem denF_ok {ps:PL} {rs:RL} {one:Bool} {body:AC} (ho:okF M ps rs body=true) (ev:EV) (n:Nat) (a:AV) (h:H) (k kp:K) :
  denF ps rs one body M ev n a h k kp=runF n ev (.mk ps rs one body) a h k kp:=by
 show bndS ps a .z (fun s=>setps M ps s .e fun t=>den M ev n kp (retW rs one k) body (fun _ _ _=>.fail 164) s t h (retW rs one k))=bindA ps a .e fun t=>cod ev n body (endF rs one k kp) t h
 refine (bind_w fun xs hx=>?_).symm
 obtain ⟨i1,i2,i3⟩:=sim_add (s:=.z) (t:=.e) hx (fun p hp=>by cases hp)
 obtain ⟨t',j1,j2⟩:=setps_ok (M:=M) (s:=addS ps xs .z) (ps:=ps) (t:=.e)
 rw [j1]
 have hs:Sim M (addS ps xs .z) (setT ps xs .e) t':=⟨fun p hM=>by
  rw [j2]
  by_cases hp:p∈plL ps
  ·rw [if_pos ⟨hM,hp⟩,i1 p ((i2 p).2 (.inl hp))]
  ·rw [if_neg (fun h=>hp h.2),i3 p hp],i1⟩
 have hd:Dm (plL ps) (addS ps xs .z):=fun p hp=>(i2 p).2 (.inl hp)
 unfold okF at ho
 have fin:∀ (s1:SG) t1 t1' h1 d,Sim M s1 t1 t1'→Dm d s1→okRl M rs d=true→Go.Am.ret rs one t1 h1 k=retW rs one k s1 t1' h1:=fun s1 t1 t1' h1 d a b c=>ret_w c b a
 split at ho
 ·rename_i hc
  exact den_ok hc hd hs (fun d e=>by cases e) (fun _ _ _ _ _ _=>rfl) fin fun _ _ _=>rfl
 ·rename_i d hc
  exact den_ok hc hd hs (fun d' e s1 t1 t1' h1 a b _=>by cases e; exact fin s1 t1 t1' h1 d a b ho) (fun _ _ _ _ _ _=>rfl) fin fun _ _ _=>rfl
 ·cases ho
end
end Go.Am
namespace Go.Am.Tr
noncomputable section
def ps':Nat→Nat→Pos
 | 0,_=>.h
 | f + 1,n=>bif Nat.ble n 1 then .h else bif Nat.beq (n % 2) 0 then .o (ps' f (n / 2)) else .i (ps' f (n / 2))
def q (t:Nat):Pos:=ps' 24 (t + 1)
def lS:List AV→AV
 | []=>.z
 | x :: l=>.c x (lS l)
def av:Nat→Value→AV
 | 0,_=>.u
 | n + 1,v=>match v with
  | .bool b=>.b b
  | .int k n=>.n k n
  | .string s=>.s (s.data.toList.map (·.toNat))
  | .pointer none=>.pz
  | .slice none _ _=>.sz
  | .map none=>.mz
  | .nilFunc=>.fz
  | .nilIface=>.iz
  | .agg cs=>.a (lS (cs.toList.map (av n)))
  | .tuple cs=>match cs.toList with
   | []=>.u
   | l=>.t (lS (l.map (av n)))
  | .iface t v=>.ia t (av n v)
  | .func (.func f) a b=>.f (.func f) (lS (a.toList.map (av n))) (lS (b.toList.map (av n)))
  | _=>.u
def cellsA (v:Value):AV:=match v with
 | .agg cs=>lS (cs.toList.map (av 8))
 | v=>.c (av 8 v) .z
def opd:Operand→Ar
 | .tmp t=>.t (q t)
 | .const v=>.k (av 8 v)
 | .global g=>.k (.p (q g) 0)
 | .func f=>.k (.f (.func f) .z .z)
def opdo (x:Option Operand):Ar:=match x with
 | some x=>opd x
 | none=>.k .z
def arL:List Operand→ArL
 | []=>.z
 | x :: l=>.c (opd x) (arL l)
section
variable (p:Program)
def isAgg (t:Nat):Bool:=match p.underlying t with
 | some (.struct _) | some (.array ..)=>true
 | _=>false
def shpS (t:Nat):Nat:=match p.underlying t with
 | some .string=>1
 | some (.array n _)=>n + 2
 | _=>0
def bad:AO:=.ex (.k .u) 0
def zeroOf (t:Nat):Value:=((p.info? t).bind (·.zero)).getD (.tuple #[])
def paS:List (Nat × Nat × Operand)→PaL
 | []=>.z
 | (o,n,x) :: r=>.c o n (opd x) (paS r)
def repl:Nat→AV→AV→AV
 | 0,_,l=>l
 | n + 1,cs,l=>repl n cs (apd cs l)
where apd:AV→AV→AV
 | .c x r,l=>.c x (apd r l)
 | _,l=>l
def isNilC:Operand→Bool
 | .const (.pointer none) | .const (.slice none ..) | .const (.map none) | .const .nilFunc | .const .nilIface=>true
 | _=>false
def opS (o:Op):AO:=
 match o with
 | .move x | .assign x=>.mv (opd x)
 | .pick c a b=>.pick (opd c) (opd a) (opd b)
 | .alloc t=>.al (cellsA (zeroOf p t))
 | .box _ x=>.bx (opd x)
 | .build t ps=>match p.underlying t with
  | some (.struct fs)=>.bd (cellsA (zeroOf p t)) (paS (ps.toList.map fun (i,x)=>((fs.getD i default).offset,p.cellsOf (fs.getD i default).type,x)))
  | some (.array _ e)=>.bd (cellsA (zeroOf p t)) (paS (ps.toList.map fun (i,x)=>(i * p.cellsOf e,p.cellsOf e,x)))
  | _=>bad
 | .buildSlice t n ps=>match p.underlying t with
  | some (.slice e)=>.bs (repl n (cellsA (zeroOf p e)) .z) n (p.cellsOf e) (paS (ps.toList.map fun (i,x)=>(i * p.cellsOf e,p.cellsOf e,x)))
  | _=>bad
 | .load t x=>bif isAgg p t then .ln (opd x) (p.cellsOf t) else .l1 (opd x)
 | .store t x v=>bif isAgg p t then .sn (opd x) (opd v) (p.cellsOf t) else .s1 (opd x) (opd v)
 | .nilCheck x=>.nk (opd x)
 | .binOp b t x y _=>match p.underlying t with
  | some (.int _)=>.bi b (opd x) (opd y)
  | some .string=>.bst b (opd x) (opd y)
  | some .bool=>.bb (match b with | .neq=>true | _=>false) (opd x) (opd y)
  | some (.array n _)=>.ba (match b with | .neq=>true | _=>false) n (opd x) (opd y)
  | some (.pointer _)=>bif isNilC y then .bzp (match b with | .neq=>true | _=>false) (opd x) else bad
  | some (.slice _)=>bif isNilC y then .bzs (match b with | .neq=>true | _=>false) (opd x) else bad
  | some (.map ..)=>bif isNilC y then .bzm (match b with | .neq=>true | _=>false) (opd x) else bad
  | some (.func ..)=>bif isNilC y then .bzf (match b with | .neq=>true | _=>false) (opd x) else bad
  | some (.interface _)=>bif isNilC y then .bzi (match b with | .neq=>true | _=>false) (opd x) else bad
  | _=>bad
 | .unOp u _ x=>.un u (opd x)
 | .convert s d x=>match p.underlying s,p.underlying d with
  | some (.int _),some (.int k)=>.cv k (opd x)
  | some .string,some (.slice _)=>.csb (opd x)
  | some (.slice _),some .string=>.cbs (opd x)
  | some .string,some .string=>.mv (opd x)
  | _,_=>bad
 | .makeInterface t x=>.mi t (opd x)
 | .typeAssert x _ t true=>match p.underlying t with
  | some (.interface _)=>bad
  | _=>.ta t (av 8 (zeroOf p t)) (opd x)
 | .makeFunc fn a b=>match fn with
  | .func f=>.mf (.func f) (arL a.toList) (arL b.toList)
  | _=>bad
 | .makeMap _ none=>.mm
 | .insert t m k v | .mapUpdate t m k v=>match p.underlying t with
  | some (.map kt _)=>.mu (shpS p kt) (opd m) (opd k) (opd v)
  | _=>bad
 | .lookup t m k true=>match p.underlying t with
  | some (.map kt e)=>.lk (shpS p kt) (opd m) (opd k) (av 8 (zeroOf p e))
  | _=>bad
 | .makeSlice t l c=>match p.underlying t with
  | some (.slice e)=>.ms (cellsA (zeroOf p e)) (p.cellsOf e) (opd l) (opd c)
  | _=>bad
 | .slice t x lo hi mx=>match p.underlying t,mx with
  | some .string,none=>.slS (opd x) (opdo lo) (opdo hi)
  | some (.slice e),none=>.sl (p.cellsOf e) (opd x) (opdo lo) (opdo hi)
  | some (.slice e),some m=>.sl3 (p.cellsOf e) (opd x) (opdo lo) (opdo hi) (opd m)
  | some (.array n e),none=>.slA n (p.cellsOf e) (opd x) (opdo lo) (opdo hi)
  | _,_=>bad
 | .fieldAddr t x f=>match p.underlying t with
  | some (.struct fs)=>.fa (opd x) (fs.getD f default).offset
  | _=>bad
 | .field t x f=>match p.underlying t with
  | some (.struct fs)=>bif isAgg p (fs.getD f default).type then .fdn (opd x) (fs.getD f default).offset (p.cellsOf (fs.getD f default).type) else .fd1 (opd x) (fs.getD f default).offset
  | _=>bad
 | .indexAddr t x i=>match p.underlying t with
  | some (.slice e)=>.ix (p.cellsOf e) (opd x) (opd i)
  | some (.array n e)=>.ixA n (p.cellsOf e) (opd x) (opd i)
  | _=>bad
 | .index t x i=>match p.underlying t with
  | some .string=>.ixS (opd x) (opd i)
  | some (.array n e)=>bif isAgg p e then .ixW n (p.cellsOf e) (opd x) (opd i) else .ixV n (p.cellsOf e) (opd x) (opd i)
  | _=>bad
 | .extract x i=>.ex (opd x) i
 | .call c=>match c.callee with
  | .value (.func f)=>.cf (q f) (arL c.args.toList)
  | .value f=>.cd (opd f) (arL c.args.toList)
  | .invoke ..=>bad
  | .builtin b=>match b,c.args.toList with
   | .len,[x]=>match p.underlying (c.argTypes.getD 0 0) with
    | some (.array n _)=>.lenK n
    | some .string=>.lens (opd x)
    | some (.slice _)=>.lenl (opd x)
    | some (.map ..)=>.lenm (opd x)
    | _=>bad
   | .cap,[x]=>.cap (opd x)
   | .append,[x,y]=>match p.underlying (c.argTypes.getD 0 0) with
    | some (.slice e)=>match p.underlying (c.argTypes.getD 1 0) with
     | some (.int _)=>.apz (cellsA (zeroOf p e)) (p.cellsOf e) (opd x) (opd y)
     | _=>.ap (p.cellsOf e) (opd x) (opd y)
    | _=>bad
   | .copy,[x,y]=>match p.underlying (c.argTypes.getD 0 0) with
    | some (.slice e)=>.cp (p.cellsOf e) (opd x) (opd y)
    | _=>bad
   | .max,l=>.mx (arL l)
   | .min,l=>.mn (arL l)
   | _,_=>bad
 | .panic x=>.pa (opd x)
 | .range t x=>match p.underlying t with
  | some .string=>.rg (opd x)
  | some (.map ..)=>.rm (opd x)
  | _=>bad
 | .next x true=>.nx (opd x)
 | .next x false=>.nm (opd x)
 | .entry x=>.en (opd x)
 | _=>bad
def gdS (os:Array Oper) (g:Option (Nat × Bool)):Gd:=match g with
 | none=>.no
 | some (j,b)=>match (os[j]?).bind (·.dst) with
  | some d=>.on (q d) b
  | none=>.no
def dsS (d:Option Nat):Ds:=match d with
 | some d=>.to (q d)
 | none=>.no
def regS (os:Array Oper):List Oper→OL
 | []=>.z
 | o :: l=>.c (gdS os o.guard) (dsS o.dst) (opS p o.op) (regS os l)
def akS (o:Op):AK:=match o with
 | .alloc t=>.a (cellsA (zeroOf p t))
 | .buildSlice t n ps=>match p.underlying t with
  | some (.slice e)=>.s n (repl n (cellsA (zeroOf p e)) .z) (paS (ps.toList.map fun (i,x)=>(i * p.cellsOf e,p.cellsOf e,x)))
  | _=>.a .z
 | _=>.a .z
def drS (os:Array Oper):List Nat→DL
 | []=>.z
 | c :: l=>match os[c / 5]? with
  | none=>.z
  | some o=>match c % 5 with
   | 0=>.q (c / 5) (gdS os o.guard) (dsS o.dst) (opS p o.op) (drS os l)
   | 1=>.l (c / 5) (gdS os o.guard) (dsS o.dst) (opS p o.op) (drS os l)
   | 2=>.ck (c / 5) (gdS os o.guard) (dsS o.dst) (opS p o.op) (drS os l)
   | 3=>.rs (c / 5) (gdS os o.guard) (q (o.dst.getD 0)) (akS p o.op) (drS os l)
   | _=>.pt (c / 5) (gdS os o.guard) (q (o.dst.getD 0)) (akS p o.op) (drS os l)
def find (id:Nat):List (Nat × List Nat)→List Nat
 | []=>[]
 | (i,l) :: r=>bif Nat.beq i id then l else find id r
def plS:List Nat→PL
 | []=>.z
 | t :: l=>.c (q t) (plS l)
def cod (S:List (Nat × List Nat)):Code→AC
 | .skip | .label _=>.sk
 | .region id ops true=>.dr (drS p ops (find id S))
 | .region _ ops false=>.rg (regS p ops ops.toList)
 | .seq a b=>.sq (cod S a) (cod S b)
 | .cond c a b=>.cd (opd c) (cod S a) (cod S b)
 | .block id b=>.bl id (cod S b)
 | .loop b=>.lp (cod S b)
 | .exit id=>.ex id
 | .ret=>.rt
 | .scope b=>cod S b
 | .rangeFunc f ps a b=>.rf (opd f) (plS ps.toList) (cod S a) (cod S b)
 | .goto _ | .refuse _=>.ex 99999
def rlS:List ResultVar→RL
 | []=>.z
 | .tmp t :: l=>.c (.t (q t)) (rlS l)
 | .cell a t :: l=>.c (bif isAgg p t then .cn (q a) (p.cellsOf t) else .c1 (q a)) (rlS l)
def psL (fn:Func):PL:=plS (List.range (fn.params.size + fn.nfree))
def fd (S:List (Nat × List Nat)) (fn:Func):FD:=match fn.body with
 | some c=>.mk (psL fn) (rlS p fn.results.toList) (fn.results.size == 1) (cod p S c)
 | none=>.no
end
end
end Tr
noncomputable section
def inM (M:List Nat) (p:Pos):Bool:=M.any fun n=>Nat.beq (posv p) (n + 1)
def shD (P:Program) (f:Nat) (S:List (Nat × List Nat)):FD:=match P.funcs[f]? with
 | some fn=>Tr.fd P S fn
 | none=>.no
def shF (P:Program) (f:Nat) (M:List Nat) (S:List (Nat × List Nat)):SF:=match shD P f S with
 | .mk ps rs one body=>denF ps rs one body (inM M)
 | _=>fun _ _ _ _ _ _=>.fail 0
def shlB (P:Program) (ng f:Nat) (M:List Nat) (S:List (Nat × List Nat)):Bool:=match shD P f S with
 | .mk ps rs one body=>fnB P ng f (.mk ps rs one body) && okF (inM M) ps rs body
 | _=>false
theorem sh_go {P:Program} {ng f:Nat} {M:List Nat} {S:List (Nat × List Nat)} (hm:P.follows .mixedOrders=true) (hb:shlB P ng f M S=true) :
  Enters P f∧∀ fuel ev,EvOK P ng ev→EvFn P ng f (shF P f M S ev fuel):=by
 unfold shlB at hb
 unfold shF
 split at hb
 ·rename_i ps rs one body hd
  simp only [Bool.and_eq_true] at hb
  obtain ⟨fn,c,hf⟩:=fnB_ok (d:=.mk ps rs one body) hm hb.1
  rw [hd]
  exact ⟨⟨fn,c,hf.func,hf.hasBody,hf.name⟩,deep_go hf fun ev n a h k kp=>denF_ok hb.2 ev n a h k kp⟩
 ·cases hb
theorem sh_of {P:Program} {ng f:Nat} {g:SF} {M:List Nat} {S:List (Nat × List Nat)} (hm:P.follows .mixedOrders=true) (hb:shlB P ng f M S=true) (he:g=shF P f M S):Go' P ng f g:=he▸sh_go hm hb
theorem deep_of {P:Program} {ng f:Nat} {ps:PL} {rs:RL} {one:Bool} {body:AC} (h:FdOK P ng f (.mk ps rs one body)):Go' P ng f (fun ev n a h k kp=>runF n ev (.mk ps rs one body) a h k kp):=by
 obtain ⟨fn,c,hf⟩:=h
 exact ⟨⟨fn,c,hf.func,hf.hasBody,hf.name⟩,deep_go hf fun _ _ _ _ _ _=>rfl⟩
end
end Go.Am
