import Derived.Test.YtbgbllmhdjojkaaGreatDoorA0
import Derived.Lib.ConvBytes
import Derived.Laws.BytesString
import Derived.Maps.RangeRun
import Derived.RangeFuncRecord
import Derived.OrdersIn
import Derived.Orders
import Derived.Lib.Bytealg
import Derived.RecoverIn
set_option linter.all false
namespace Go.Am
section
variable {P:Program} {ng nt:Nat} {φ:Ph} {h:H} {w:World} {t:T} {a:Act} {k:K} {r:R}
def CmpKey (P:Program) (w:World) (kt:TypeId) (kv:Value):Nat→Value→Bool→Prop
 | 0,e,b=>∀ kk,P.underlying kt=some (.int kk)→Instr.sameNow (.int kk) kv e=some b
 | 1,e,b=>Instr.sameNow .string kv e=some b
 | _ + 2,e,b=>(Op.equal kt kv e).run P w=.ok b w
theorem shp_ok {sh:Nat} {key:AV} {kv:Value} {x:R} (e:shp sh key x=r) (g:r.good) (hk:VR φ key kv) :
  ((sh=0∧∃ kd n,key=.n kd n∧kv=.int kd n)∨(sh=1∧∃ l,key=.s l∧(∀ b∈l,b < 256)∧kv=.string (strOf l))∨∃ n l cs,sh=n + 2∧key=.a l∧kv=.agg cs∧LR φ l cs.toList∧cs.size=n)∧x=r:=by
 rcases onNat_ok (n:=sh) e with ⟨rfl,e1⟩ | ⟨m,rfl,e1⟩
 ·obtain ⟨kd,n,rfl,e2⟩:=asN_ok (x:=key) e1 g
  exact ⟨.inl ⟨rfl,kd,n,rfl,hk⟩,e2⟩
 ·rcases onNat_ok (n:=m) e1 with ⟨rfl,e2⟩ | ⟨m,rfl,e2⟩
  ·obtain ⟨l,rfl,e3⟩:=asS_ok (x:=key) e2 g
   exact ⟨.inr (.inl ⟨rfl,l,rfl,hk.1,hk.2⟩),e3⟩
  ·obtain ⟨l,rfl,e3⟩:=asA_ok (x:=key) e2 g
   obtain ⟨cs,hv,hl⟩:=hk
   have e4:=lng_ok e3 g hl
   obtain ⟨h1,e5⟩:=kif_t e4 g
   have h1:cs.toList.length=m:=Nat.eq_of_beq_eq_true h1
   exact ⟨.inr (.inr ⟨m,l,cs,rfl,rfl,hv,hl,by simpa using h1⟩),e5⟩
theorem strOf_inj {l m:List Nat} (hl:∀ b∈l,b < 256) (hm:∀ b∈m,b < 256) (h:strOf l=strOf m):l.map UInt8.ofNat=m.map UInt8.ofNat:=by
 have _:=hl; have _:=hm
 have:(strOf l).data.toList=(strOf m).data.toList:=by rw [h]
 simpa [strOf] using this
def Flat (kv:Value):Prop:=∀ cs,kv=.agg cs→∀ v∈cs.toList,∃ k a,v=.int k a
theorem keyq_ok {kt:TypeId} {sh:Nat} {key y:AV} {kv e:Value} {f:Bool→R} (hsh:keyShape P kt sh) (hk:(sh=0∧∃ kd n,key=.n kd n∧kv=.int kd n)∨(sh=1∧∃ l,key=.s l∧(∀ b∈l,b < 256)∧kv=.string (strOf l))∨∃ n l cs,sh=n + 2∧key=.a l∧kv=.agg cs∧LR φ l cs.toList∧cs.size=n)
  (e1:keyq key y f=r) (g:r.good) (hy:VR φ y e):∃ b,f b=r∧CmpKey P w kt kv sh e b∧(b=true↔kv=e)∧(b=true→Flat kv):=by
 rcases hk with ⟨rfl,kd,n,rfl,rfl⟩ | ⟨rfl,l,rfl,hl,rfl⟩ | ⟨n,l,cs,rfl,rfl,rfl,hl,hn⟩
 ·obtain ⟨kd',n',rfl,e2⟩:=asN_ok (x:=y) e1 g
  obtain ⟨h1,e3⟩:=kif_t e2 g
  have h1:=ksame_t h1
  subst h1
  cases hy
  rw [fB_eq,keq_eq] at e3
  refine ⟨_,e3,fun kk _=>?_,by simp,fun _ _ q=>by cases q⟩
  simp only [Instr.sameNow,if_true]
  congr 1
 ·obtain ⟨l',rfl,e2⟩:=asS_ok (x:=y) e1 g
  obtain ⟨hl',rfl⟩:=hy
  rw [fB_eq,leq_eq hl hl'] at e2
  refine ⟨_,e2,?_,?_,fun _ _ q=>by cases q⟩
  ·simp only [CmpKey,Instr.sameNow]
   congr 1
   apply Bool.eq_iff_iff.2
   rw [MapKept.bytes_beq,beq_iff_eq]
   exact ⟨strOf_inj hl hl',fun q=>by simp only [strOf]; rw [q]⟩
  ·rw [beq_iff_eq]
   constructor
   ·intro q; simp only [strOf]; rw [q]
   ·intro q; injection q with q; exact strOf_inj hl hl' q
 ·obtain ⟨l',rfl,e2⟩:=asA_ok (x:=y) e1 g
  obtain ⟨cs',rfl,hl'⟩:=hy
  obtain ⟨el,kk,hu,he,hs⟩:=hsh
  obtain ⟨b,h1,h2,h3,h4⟩:=flat_array (w:=w) hu he hs e2 g hl hl' hn 9998
  exact ⟨b,h1,h2,by rw [h3]; simp,fun q cs' hcs=>by injection hcs with hcs; subst hcs; exact h4 q⟩
def Search (P:Program) (w:World) (kt:TypeId) (kv:Value) (sh:Nat) (l:List MapEntry) (j:Option Nat):Prop:=
 match j with
 | none=>∀ x∈l,CmpKey P w kt kv sh x.key false∧x.key≠kv
 | some j=>∃ e,l[j]?=some e∧CmpKey P w kt kv sh e.key true∧e.key=kv∧Flat kv∧∀ i x,i < j→l[i]?=some x→CmpKey P w kt kv sh x.key false
theorem Search.cons_none {kt:TypeId} {kv:Value} {sh:Nat} {l:List MapEntry} {e:MapEntry} (h:Search P w kt kv sh l none) (h1:CmpKey P w kt kv sh e.key false) (h2:e.key≠kv):Search P w kt kv sh (e :: l) none:=by
 intro x hx
 cases hx with
 | head=>exact ⟨h1,h2⟩
 | tail _ hx=>exact h x hx
theorem Search.cons_some {kt:TypeId} {kv:Value} {sh j:Nat} {l:List MapEntry} {e:MapEntry} (h:Search P w kt kv sh l (some j)) (h1:CmpKey P w kt kv sh e.key false):Search P w kt kv sh (e :: l) (some (j + 1)):=by
 obtain ⟨e',h2,h3,h4,hf,h5⟩:=h
 refine ⟨e',h2,h3,h4,hf,fun i x hi hx=>?_⟩
 cases i with
 | zero=>simp at hx; subst hx; exact h1
 | succ i=>exact h5 i x (by omega) hx
theorem Search.head {kt:TypeId} {kv:Value} {sh:Nat} {l:List MapEntry} {e:MapEntry} (h1:CmpKey P w kt kv sh e.key true) (h2:e.key=kv) (hf:Flat kv):Search P w kt kv sh (e :: l) (some 0):=
 ⟨e,rfl,h1,h2,hf,fun i _ hi _=>absurd hi (Nat.not_lt_zero _)⟩
section
variable {kt:TypeId} {sh:Nat} {key:AV} {kv:Value} (hsh:keyShape P kt sh)
 (hk:(sh=0∧∃ kd n,key=.n kd n∧kv=.int kd n)∨(sh=1∧∃ l,key=.s l∧(∀ b∈l,b < 256)∧kv=.string (strOf l))∨∃ n l cs,sh=n + 2∧key=.a l∧kv=.agg cs∧LR φ l cs.toList∧cs.size=n)
include hsh hk
theorem find_ok {kn:R} {ky:AV→R}:∀ {es:AV} {l:List MapEntry},find es key kn ky=r→r.good→ER φ es l→(Search P w kt kv sh l none∧kn=r)∨∃ j e y,Search P w kt kv sh l (some j)∧l[j]?=some e∧VR φ y e.val∧ky y=r:=by
 intro es
 induction es with
 | z=>intro l e g hl; cases hl; exact .inl ⟨fun _ hx=>(by cases hx),e⟩
 | c x es _ ih=>
  intro l e g hl
  cases x<;>first | exact hl.elim | skip
  rename_i ka va _
  obtain ⟨y,l',rfl,hka,hva,hl'⟩:=hl
  obtain ⟨b,e1,h1,h2,hf⟩:=keyq_ok (w:=w) hsh hk (y:=ka) (f:=fun b=>kif b (ky va) (find es key kn ky)) e g hka
  cases b with
  | true=>exact .inr ⟨0,y,va,.head h1 (h2.1 rfl).symm (hf rfl),rfl,hva,e1⟩
  | false=>
   have hne:y.key≠kv:=fun q=>by have:=h2.2 q.symm; cases this
   rcases ih e1 g hl' with ⟨h3,e2⟩ | ⟨j,e',y',h3,h4,h5,e2⟩
   ·exact .inl ⟨h3.cons_none h1 hne,e2⟩
   ·exact .inr ⟨j + 1,e',y',h3.cons_some h1,h4,h5,e2⟩
 | _=>intro l _ _ hl; exact hl.elim
theorem put_ok {val:AV} {vv:Value} (hv:VR φ val vv) (hkv:VR φ key kv):∀ {es:AV} {l:List MapEntry} {f:AV→R},put es key val f=r→r.good→ER φ es l →
  (Search P w kt kv sh l none∧∃ es',(∀ born,ER φ es' (l ++ [{ key:=kv,val:=vv,born }]))∧f es'=r)∨∃ j e es',Search P w kt kv sh l (some j)∧l[j]?=some e∧ER φ es' (l.set j { e with key:=kv,val:=vv })∧f es'=r:=by
 intro es
 induction es with
 | z=>intro l f e g hl; cases hl; exact .inl ⟨fun _ hx=>(by cases hx),.c (.c key val) .z,fun born=>⟨_,_,rfl,hkv,hv,rfl⟩,e⟩
 | c x es _ ih=>
  intro l f e g hl
  cases x<;>first | exact hl.elim | skip
  rename_i ka va _
  obtain ⟨y,l',rfl,hka,hva,hl'⟩:=hl
  obtain ⟨b,e1,h1,h2,hf⟩:=keyq_ok (w:=w) hsh hk (y:=ka) (f:=fun b=>kif b (f (.c (.c key val) es)) (put es key val fun r=>f (.c (.c ka va) r))) e g hka
  cases b with
  | true=>exact .inr ⟨0,y,.c (.c key val) es,.head h1 (h2.1 rfl).symm (hf rfl),rfl,⟨_,_,rfl,hkv,hv,hl'⟩,e1⟩
  | false=>
   have hne:y.key≠kv:=fun q=>by have:=h2.2 q.symm; cases this
   rcases ih (f:=fun r=>f (.c (.c ka va) r)) e1 g hl' with ⟨h3,es',h4,e2⟩ | ⟨j,e',es',h3,h4,h5,e2⟩
   ·exact .inl ⟨h3.cons_none h1 hne,.c (.c ka va) es',fun born=>⟨_,_,rfl,hka,hva,h4 born⟩,e2⟩
   ·exact .inr ⟨j + 1,e',.c (.c ka va) es',h3.cons_some h1,h4,⟨_,_,rfl,hka,hva,h5⟩,e2⟩
 | _=>intro l _ _ _ hl; exact hl.elim
omit hk in
theorem run_findKey {l:List MapEntry} {j:Option Nat} (hs:Search P w kt kv sh l j):(Instr.findKey kt kv l).run P w=.ok (j.bind fun j=>(l[j]?).map fun e=>(j,e.val)) w:=by
 have now:∀ {d:TypeDesc} (l:List MapEntry) (j:Option Nat) (i:Nat),P.underlying kt=some d→(match j with | none=>∀ x∈l,Instr.sameNow d kv x.key=some false | some j=>∃ e,l[j]?=some e∧Instr.sameNow d kv e.key=some true∧∀ i x,i < j→l[i]?=some x→Instr.sameNow d kv x.key=some false) →
   Instr.findNow d kv l i=some (j.bind fun j=>(l[j]?).map fun e=>(i + j,e.val)):=by
  intro d l
  induction l with
  | nil=>intro j i _ hj; cases j with
   | none=>rfl
   | some j=>obtain ⟨e,he,_⟩:=hj; cases he
  | cons x l ih=>
   intro j i hd hj
   cases j with
   | none=>
    have h1:=hj x (.head _)
    have h2:=ih none (i + 1) hd fun y hy=>hj y (.tail _ hy)
    simp only [Instr.findNow,h1,h2]; rfl
   | some j=>
    obtain ⟨e,he,h1,h2⟩:=hj
    cases j with
    | zero=>simp at he; subst he; simp [Instr.findNow,h1]
    | succ j=>
     have h3:=h2 0 x (by omega) rfl
     have h4:=ih (some j) (i + 1) hd ⟨e,he,h1,fun i' y hi hy=>h2 (i' + 1) y (by omega) hy⟩
     have he':l[j]?=some e:=he
     simp only [Instr.findNow,h3,h4,Option.bind_some,List.getElem?_cons_succ,he',Option.map_some]
     congr 3; omega
 have ask:∀ (l:List MapEntry) (j:Option Nat) (i:Nat),(match j with | none=>∀ x∈l,(Op.equal kt kv x.key).run P w=.ok false w | some j=>∃ e,l[j]?=some e∧(Op.equal kt kv e.key).run P w=.ok true w∧∀ i x,i < j→l[i]?=some x→(Op.equal kt kv x.key).run P w=.ok false w) →
   (Instr.findAsking kt kv l i).run P w=.ok (j.bind fun j=>(l[j]?).map fun e=>(i + j,e.val)) w:=by
  intro l
  induction l with
  | nil=>intro j i hj; cases j with
   | none=>rfl
   | some j=>obtain ⟨e,he,_⟩:=hj; cases he
  | cons x l ih=>
   intro j i hj
   cases j with
   | none=>
    have h1:=hj x (.head _)
    have h2:=ih none (i + 1) fun y hy=>hj y (.tail _ hy)
    simp only [Instr.findAsking,Sem.run_bind,h1,Result.andThen_ok]
    simpa using h2
   | some j=>
    obtain ⟨e,he,h1,h2⟩:=hj
    cases j with
    | zero=>simp at he; subst he; simp [Instr.findAsking,h1]
    | succ j=>
     have h3:=h2 0 x (by omega) rfl
     have h4:=ih (some j) (i + 1) ⟨e,he,h1,fun i' y hi hy=>h2 (i' + 1) y (by omega) hy⟩
     have he':l[j]?=some e:=he
     simp only [Instr.findAsking,Sem.run_bind,h3,Result.andThen_ok]
     simp only [Bool.false_eq_true,if_false,h4,Option.bind_some,List.getElem?_cons_succ,he',Option.map_some]
     congr 3; omega
 match sh,hsh with
 | 0,⟨kk,hu⟩=>
  have:=now (d:=.int kk) l j 0 hu (by
   cases j with
   | none=>exact fun x hx=>(hs x hx).1 kk hu
   | some j=>obtain ⟨e,h1,h2,_,_,h3⟩:=hs; exact ⟨e,h1,h2 kk hu,fun i x hi hx=>h3 i x hi hx kk hu⟩)
  simp only [Nat.zero_add] at this
  exact MapKept.run_findKey hu this
 | 1,hu=>
  have:=now (d:=.string) l j 0 hu (by
   cases j with
   | none=>exact fun x hx=>(hs x hx).1
   | some j=>obtain ⟨e,h1,h2,_,_,h3⟩:=hs; exact ⟨e,h1,h2,fun i x hi hx=>h3 i x hi hx⟩)
  simp only [Nat.zero_add] at this
  exact MapKept.run_findKey hu this
 | n + 2,⟨el,kk,hu,he,hs'⟩=>
  rw [run_findKey_eq w (by rw [hu])]
  have:=ask l j 0 (by
   cases j with
   | none=>exact fun x hx=>(hs x hx).1
   | some j=>obtain ⟨e,h1,h2,_,_,h3⟩:=hs; exact ⟨e,h1,h2,fun i x hi hx=>h3 i x hi hx⟩)
  simp only [Nat.zero_add] at this
  exact this
omit hsh in
theorem run_checkKeyOK (hsh:keyShape P kt sh) (em:Bool):(Instr.checkKey em 10000 kt kv).run P w=.ok () w:=by
 rcases hk with ⟨rfl,kd,n,rfl,rfl⟩ | ⟨rfl,l,rfl,hl,rfl⟩ | ⟨n,l,cs,rfl,rfl,rfl,hl,hn⟩
 ·obtain ⟨kk,hu⟩:=hsh
  unfold Instr.checkKey
  simp [run_underlying' hu]
 ·have hu:P.underlying kt=some .string:=hsh
  unfold Instr.checkKey
  simp [run_underlying' hu]
 ·obtain ⟨el,kk,hu,he,hs⟩:=hsh
  unfold Instr.checkKey
  simp only [Sem.run_bind,run_underlying' hu,Result.andThen_ok]
  have item:∀ i,i < n→∃ v,(part el cs (i * 1)).run P w=.ok v w:=fun i hi=>by
   have hag:(isAgg el).run P w=.ok false w:=run_isAgg' (b:=false) ⟨_,he,rfl⟩ w
   have:i < cs.size:=by omega
   exact ⟨cs[i],by simp [part,hag,this]⟩
  have one:∀ v,(Instr.checkKey em 9999 el v).run P w=.ok () w:=fun v=>by
   unfold Instr.checkKey
   simp [run_underlying' he]
  simp only [Std.Legacy.Range.forIn_eq_forIn_range',Std.Legacy.Range.size,Nat.sub_zero,Nat.add_one_sub_one,Nat.div_one]
  have loop:∀ (is:List Nat),(∀ i∈is,i < n)→(forIn is PUnit.unit fun i _=>(do Instr.checkKey em 9999 el (← part el cs (i * (← sizeOf el))); pure (ForInStep.yield PUnit.unit):Sem (ForInStep PUnit))).run P w=.ok PUnit.unit w:=by
   intro is
   induction is with
   | nil=>intro _; simp
   | cons i is ih=>
    intro hi
    obtain ⟨v,hv⟩:=item i (hi i (.head _))
    simp only [List.forIn_cons,Sem.run_bind,run_sizeOf' hs,Result.andThen_ok,hv,one,Sem.run_pure]
    exact ih fun i' hi'=>hi i' (.tail _ hi')
  have:=loop (List.range' 0 n) (fun i hi=>by simpa using hi)
  rw [this]; rfl
end
end
end Go.Am
namespace Go.Am
section
variable {P:Program} {ng nt:Nat} {φ:Ph} {h:H} {w:World} {t:T} {a:Act} {k:K} {r:R}
theorem op_mm {o:Oper} {ty:TypeId} (ho:o.op=.makeMap ty none) (hr:HR P ng φ h w) {ev:EV} {kp:K} (e:op ev .mm t h k kp=r):Fine P ng (execOp a.eval o) φ h w k r:=by
 have e1:hnew (.mp .z) h (fun r h=>k (.m r) h)=r:=e
 rw [hnew_eq] at e1
 obtain ⟨h1,h2⟩:=hr.made (o:=.mp .z) (b:=.map #[] 0) (s:=0) (n:=0) (w':={ w with heap:=w.heap.push (.map #[] 0) }) rfl ⟨#[],0,by simp,⟨MapKept.stamped_empty 0,rfl,by simp⟩,rfl⟩
 refine ⟨_,_,_,.m h.nx,.map (some w.heap.size),.value _ _ ?_,⟨w.heap.size,0,0,Ph.add_same _ _ _,rfl⟩,h1,h2,e1⟩
 simp [execOp,ho,Instr.makeMap]
theorem sameBits_ints:∀ (l:List Value) (n:Nat),(∀ v∈l,∃ k a,v=.int k a)→((l.zip l).all fun (x,y)=>Instr.sameBits n x y)=true
 | [],_,_=>rfl
 | v :: l,n,h=>by
  obtain ⟨k,a,rfl⟩:=h v (.head _)
  simp only [List.zip_cons_cons,List.all_cons,sameBits_ints l n fun u hu=>h u (.tail _ hu),Bool.and_true]
  cases n<;>simp [Instr.sameBits]
theorem run_stays {sh:Nat} {key:AV} {kv:Value} (hk:(sh=0∧∃ kd n,key=.n kd n∧kv=.int kd n)∨(sh=1∧∃ l,key=.s l∧(∀ b∈l,b < 256)∧kv=.string (strOf l))∨∃ n l cs,sh=n + 2∧key=.a l∧kv=.agg cs∧LR φ l cs.toList∧cs.size=n) (hf:Flat kv) (w:World) :
  (Instr.keyThatStays kv kv).run P w=.ok kv w:=by
 rcases hk with ⟨_,kd,n,_,rfl⟩ | ⟨_,l,_,_,rfl⟩ | ⟨n,l,cs,_,_,rfl,_,_⟩
 ·simp [Instr.keyThatStays,Instr.sameBits]
 ·simp [Instr.keyThatStays,Instr.sameBits,MapKept.bytes_beq]
 ·have:=sameBits_ints cs.toList 9999 (hf cs rfl)
  have h1:Instr.sameBits 10000 (.agg cs) (.agg cs)=true:=by
   show (cs.size == cs.size && (cs.toList.zip cs.toList).all fun (x,y)=>Instr.sameBits 9999 x y)=true
   rw [this]; simp
  simp [Instr.keyThatStays,h1]
theorem op_lk {o:Oper} {ty kt et:TypeId} {m x:Operand} {b c:Ar} {sh:Nat} {v:Value} {zs:AV} (ho:o.op=.lookup ty m x true) (hm:ArOK ng nt m b) (hx:ArOK ng nt x c) (hu:P.underlying ty=some (.map kt et)) (hsh:keyShape P kt sh) (hz:zeroIs P et v) (hc:CR zs v)
  (hr:HR P ng φ h w) (ht:TR φ t a.tmps) (hn:nt≤a.tmps.size) {ev:EV} {kp:K} (e:op ev (.lk sh b c zs) t h k kp=r) (g:r.good):Still P (execOp a.eval o) φ h w k r:=by
 obtain ⟨m0,hm0,e1⟩:=hm.val hr ht hn (f:=fun m=>aval c t fun key=>shp sh key (mapEs m h fun es=>find es key (k (.t (.c zs (.c (.b false) .z))) h) fun v=>k (.t (.c v (.c (.b true) .z))) h)) e
 obtain ⟨x0,hx0,e2⟩:=hx.val hr ht hn (f:=fun key=>shp sh key (mapEs m0 h fun es=>find es key (k (.t (.c zs (.c (.b false) .z))) h) fun v=>k (.t (.c v (.c (.b true) .z))) h)) e1
 obtain ⟨hk,e3⟩:=shp_ok e2 g hx0
 obtain ⟨es,l,hl,hget,e4⟩:∃ es:AV,∃ l:Array MapEntry,ER φ es l.toList∧(m0=.mz∧a.eval m=.map none∧l=#[]∨∃ bl clock,a.eval m=.map (some bl)∧w.heap[bl]?=some (.map l clock))∧find es x0 (k (.t (.c zs (.c (.b false) .z))) h) (fun v=>k (.t (.c v (.c (.b true) .z))) h)=r:=by
  cases m0
  case mz=>exact ⟨.z,#[],rfl,.inl ⟨rfl,hm0,rfl⟩,e3⟩
  case m q=>
   obtain ⟨bl,st,tt,hq,hv⟩:=hm0
   have e4:hget q h (fun o=>obMap o fun es=>find es x0 (k (.t (.c zs (.c (.b false) .z))) h) fun v=>k (.t (.c v (.c (.b true) .z))) h)=r:=e3
   rw [hget_eq] at e4
   obtain ⟨es,hes,e5⟩:=obMap_ok e4 g
   obtain ⟨y,hy,oy⟩:=hr.obj q (by rw [hes]; simp)
   rw [hq] at hy; cases hy
   rw [hes] at oy
   obtain ⟨l,clock,hw,_,hl⟩:=oy
   exact ⟨es,l,hl,.inr ⟨bl,clock,hv,hw⟩,e5⟩
  all_goals exact (show False from (by subst e3; exact g)).elim
 have hrun:∀ (res:Option (Nat × Value)),(Instr.findKey kt (a.eval x) l.toList).run P w=.ok res w→(execOp a.eval o).run P w=.ok (.value (.tuple (match res with | some (_,u)=>#[u,.bool true] | none=>#[v,.bool false]))) w:=by
  intro res hres
  have hck:=run_checkKeyOK (P:=P) (w:=w) hk hsh l.isEmpty
  rcases hget with ⟨_,hv,rfl⟩ | ⟨bl,clock,hv,hw⟩
  ·cases res with
   | none=>simp [execOp,ho,Instr.lookup,run_underlying' hu,hv,hres,run_zeroValue' hz] at hck ⊢; simp [hck,hres,run_zeroValue' hz]
   | some p=>simp [execOp,ho,Instr.lookup,run_underlying' hu,hv,hres] at hck ⊢; simp [hck,hres]
  ·cases res with
   | none=>simp only [execOp,ho,Instr.lookup,Sem.run_bind,run_underlying' hu,Result.andThen_ok,hv,MapKept.run_getObj_map hw,Sem.run_pure,hck,hres,run_zeroValue' hz,if_true]
   | some p=>simp only [execOp,ho,Instr.lookup,Sem.run_bind,run_underlying' hu,Result.andThen_ok,hv,MapKept.run_getObj_map hw,Sem.run_pure,hck,hres,if_true]
 rcases find_ok (w:=w) hsh hk e4 g hl with ⟨h1,e5⟩ | ⟨j,en,y,h1,h2,h3,e5⟩
 ·have hf:=run_findKey hsh h1
  exact .still hr (y:=.t (.c zs (.c (.b false) .z))) (c:=.tuple #[v,.bool false]) (hrun _ hf) ⟨_,rfl,_,_,rfl,hc φ,_,_,rfl,rfl,rfl⟩ e5
 ·have hf:=run_findKey hsh h1
  simp only [Option.bind_some,h2,Option.map_some] at hf
  exact .still hr (y:=.t (.c y (.c (.b true) .z))) (c:=.tuple #[en.val,.bool true]) (hrun _ hf) ⟨_,rfl,_,_,rfl,h3,_,_,rfl,rfl,rfl⟩ e5
theorem Born.push {l:Array MapEntry} {clock:Nat} (h:Born l clock) (kv vv:Value):Born (l.push { key:=kv,val:=vv,born:=clock }) (clock + 1):=by
 refine ⟨by simp [h.1],fun i e he=>?_⟩
 rw [Array.getElem?_push] at he
 split at he
 ·rename_i hi; cases he; rw [hi]; exact h.1
 ·exact h.2 i e he
theorem Born.modify {l:Array MapEntry} {clock:Nat} (h:Born l clock) (j:Nat) (kv vv:Value):Born (l.modify j fun e=>{ e with key:=kv,val:=vv }) clock:=by
 refine ⟨by simp [h.1],fun i e he=>?_⟩
 rw [Array.getElem?_modify] at he
 split at he
 ·rename_i hij
  subst hij
  cases hl:l[j]? with
  | none=>rw [hl] at he; cases he
  | some e'=>rw [hl] at he; cases he; exact h.2 j e' hl
 ·exact h.2 i e he
theorem op_mu {o:Oper} {ty kt et:TypeId} {m x y:Operand} {b c d:Ar} {sh:Nat} (ho:o.op=.mapUpdate ty m x y∨o.op=.insert ty m x y) (hm:ArOK ng nt m b) (hx:ArOK ng nt x c) (hy:ArOK ng nt y d) (hu:P.underlying ty=some (.map kt et)) (hsh:keyShape P kt sh)
  (hr:HR P ng φ h w) (ht:TR φ t a.tmps) (hn:nt≤a.tmps.size) {ev:EV} {kp:K} (e:op ev (.mu sh b c d) t h k kp=r) (g:r.good):Fine P ng (execOp a.eval o) φ h w k r:=by
 obtain ⟨m0,hm0,e1⟩:=hm.val hr ht hn (f:=fun m=>asM m fun r=>aval c t fun key=>aval d t fun x=>shp sh key (hget r h fun o=>obMap o fun es=>put es key x fun es=>hset r (.mp es) h fun h=>k .u h)) e
 obtain ⟨q,rfl,e2⟩:=asM_ok (x:=m0) e1 g
 obtain ⟨bl,st,tt,hq,hv⟩:=hm0
 obtain ⟨x0,hx0,e3⟩:=hx.val hr ht hn (f:=fun key=>aval d t fun x=>shp sh key (hget q h fun o=>obMap o fun es=>put es key x fun es=>hset q (.mp es) h fun h=>k .u h)) e2
 obtain ⟨y0,hy0,e4⟩:=hy.val hr ht hn (f:=fun x=>shp sh x0 (hget q h fun o=>obMap o fun es=>put es x0 x fun es=>hset q (.mp es) h fun h=>k .u h)) e3
 obtain ⟨hk,e5⟩:=shp_ok e4 g hx0
 rw [hget_eq] at e5
 obtain ⟨es,hes,e6⟩:=obMap_ok e5 g
 obtain ⟨z,hz,oy⟩:=hr.obj q (by rw [hes]; simp)
 rw [hq] at hz; cases hz
 rw [hes] at oy
 obtain ⟨l,clock,hw,⟨hst,hbn⟩,hl⟩:=oy
 simp only at hw
 have hck:=run_checkKeyOK (P:=P) (w:=w) hk hsh false
 have hlt:bl < w.heap.size:=hr.bnd q _ hq
 have hexec:∀ {w'},(Instr.mapUpdate ty (.map (some bl)) (a.eval x) (a.eval y)).run P w=.ok () w'→(execOp a.eval o).run P w=.ok .skip w':=by
  intro w' hmu
  rcases ho with ho | ho<;>simp [execOp,ho,hv,hmu]
 have fin:∀ (l':Array MapEntry) (clock':Nat) (es':AV),(Instr.mapUpdate ty (.map (some bl)) (a.eval x) (a.eval y)).run P w=.ok () { w with heap:=w.heap.setIfInBounds bl (.map l' clock') }→MapKept.Stamped l' clock'→Born l' clock'→ER φ es' l'.toList→k .u (h.put q (.mp es'))=r→Fine P ng (execOp a.eval o) φ h w k r:=by
  intro l' clock' es' h1 h2 hbo h3 e7
  have hself:(w.heap.setIfInBounds bl (.map l' clock'))[bl]?=some (.map l' clock'):=by simp [hlt]
  obtain ⟨h4,h5⟩:=hr.turn (w':={ w with heap:=w.heap.setIfInBounds bl (.map l' clock') }) hq (by rw [hes]; trivial) (o:=.mp es') (.inr ⟨trivial,l',clock',hself,⟨h2,hbo⟩,h3⟩) (by simp) (fun b hb=>by simp [Ne.symm hb]) rfl rfl rfl
  exact ⟨_,_,_,.u,_,.skip _ (hexec h1),rfl,h4,h5,e7⟩
 rcases put_ok (w:=w) hsh hk hy0 hx0 e6 g hl with ⟨h1,es',h2,e7⟩ | ⟨j,en,es',h1,h2,h3,e7⟩
 ·rw [hset_eq] at e7
  have hf:=run_findKey hsh h1
  simp only [Option.bind_none] at hf
  refine fin (l.push { key:=a.eval x,val:=a.eval y,born:=clock }) (clock + 1) es' ?_ (MapKept.stamped_push hst fun u hu'=>(h1 u hu').2) (hbn.push _ _) (by simpa using h2 clock) e7
  simp only [Instr.mapUpdate,Sem.run_bind,run_underlying' hu,Result.andThen_ok,MapKept.run_getObj_map hw,hck,hf,MapKept.run_setObj_map _ hw]
 ·rw [hset_eq] at e7
  have hf:=run_findKey hsh h1
  simp only [Option.bind_some,h2,Option.map_some] at hf
  obtain ⟨en',h4,_,h5,h6,_⟩:=h1
  rw [h2] at h4; cases h4
  have h7:l[j]?=some en:=by simpa using h2
  refine fin (l.modify j fun e=>{ e with key:=a.eval x,val:=a.eval y }) clock es' ?_ (MapKept.stamped_modify hst j _ (fun _ _=>rfl) fun e' _ he'=>by rw [h7] at he'; cases he'; exact h5.symm) (hbn.modify _ _ _) ?_ e7
  ·simp only [Instr.mapUpdate,Sem.run_bind,run_underlying' hu,Result.andThen_ok,MapKept.run_getObj_map hw,hck,hf,h7,Option.map_some,Option.getD_some,h5,run_stays hk h6,MapKept.run_setObj_map _ hw]
  ·have:(l.modify j fun e=>{ e with key:=a.eval x,val:=a.eval y }).toList=l.toList.set j { en with key:=a.eval x,val:=a.eval y }:=by
    apply List.ext_getElem?
    intro i
    simp only [Array.getElem?_toList,Array.getElem?_modify,List.getElem?_set]
    have hj:j < l.size:=(Array.getElem?_eq_some_iff.1 h7).1
    by_cases hij:j=i
    ·subst hij; rw [if_pos rfl,if_pos rfl,if_pos (by simpa using hj),h7]; rfl
    ·rw [if_neg hij,if_neg hij]
   rw [this]; exact h3
end
end Go.Am
namespace Go.Am
section
variable {P:Program} {ng nt:Nat} {φ:Ph} {h:H} {w:World} {t:T} {a:Act} {k:K} {r:R}
theorem bytesWorld_eq (w:World) (e:TypeId) (s:ByteArray):Lib.bytesWorld w e s={ w with drawn:=w.drawn + 1,heap:=w.heap.push (.cells (Lib.bytesCells w e s) e ((Lib.bytesCells w e s).size,(Lib.bytesCells w e s).size + 1)) }:=by
 have hh:(Lib.bytesWorld w e s).heap=w.heap.push (.cells (Lib.bytesCells w e s) e ((Lib.bytesCells w e s).size,(Lib.bytesCells w e s).size + 1)):=by
  apply Array.ext_getElem?
  intro i
  rw [Array.getElem?_push]
  by_cases h1:i < w.heap.size
  ·rw [Lib.bytesWorld_at_old w e s i h1,if_neg (by omega)]
  ·by_cases h2:i=w.heap.size
   ·subst h2; rw [if_pos rfl,Lib.bytesWorld_at_new]
   ·rw [if_neg h2,Array.getElem?_eq_none (by rw [Lib.bytesWorld_size]; omega),Array.getElem?_eq_none (by omega)]
 have:Lib.bytesWorld w e s={ w with drawn:=w.drawn + 1,heap:=(Lib.bytesWorld w e s).heap }:=rfl
 rw [this,hh]
theorem grownCap_ge (w:World) (n:Nat) (e:TypeId):n≤grownCap w n 0 e:=by
 show n≤n + _; omega
theorem op_csb {o:Oper} {s d el:TypeId} {x:Operand} {b:Ar} (ho:o.op=.convert s d x) (hx:ArOK ng nt x b) (hs:P.underlying s=some .string) (hd:P.underlying d=some (.slice el)) (he:P.underlying el=some (.int .u8))
  (hr:HR P ng φ h w) (ht:TR φ t a.tmps) (hn:nt≤a.tmps.size) {ev:EV} {kp:K} (e:op ev (.csb b) t h k kp=r) (g:r.good):Fine P ng (execOp a.eval o) φ h w k r:=by
 obtain ⟨x0,hx0,e1⟩:=hx.val hr ht hn (f:=fun v=>asS v fun l=>bytesA l fun cs=>hnew (.row cs) h fun r h=>llen l fun n=>k (.sl r 0 n 1) h) e
 obtain ⟨l,rfl,e2⟩:=asS_ok (x:=x0) e1 g
 obtain ⟨hl,hv⟩:=hx0
 obtain ⟨m,hm,e3⟩:=bytesA_eq (φ:=φ) l fun cs=>hnew (.row cs) h fun r h=>llen l fun n=>k (.sl r 0 n 1) h
 rw [e3,hnew_eq,llen_eq] at e2
 have hrun:=Lib.run_convert_string_bytes (P:=P) w s d el (strOf l) hs hd he
 rw [bytesWorld_eq] at hrun
 have hr1:HR P ng φ h { w with drawn:=w.drawn + 1 }:=hr.drew
 have hsize:(strOf l).size=l.length:=str_size l
 have hge:=grownCap_ge w l.length el
 rw [hsize] at hrun
 have hcsz:(Lib.bytesCells w el (strOf l)).size=grownCap w l.length 0 el:=by
  unfold Lib.bytesCells
  rw [str_cells hl]
  simp [hsize]
  omega
 obtain ⟨h1,h2⟩:=hr1.made (o:=.row m) (b:=.cells (Lib.bytesCells w el (strOf l)) el ((Lib.bytesCells w el (strOf l)).size,(Lib.bytesCells w el (strOf l)).size + 1)) (s:=0) (n:=(Lib.bytesCells w el (strOf l)).size) rfl
  ⟨l.map fun b=>.int .u8 (b:Nat),hm.mono (hr1.le_add _),Lib.bytesCells w el (strOf l),el,_,by simp; rfl,rfl,by rw [hcsz]; simpa using hge,fun i v hv=>by
   rw [Nat.zero_add]
   unfold Lib.bytesCells
   rw [str_cells hl]
   have hi:i < (l.map fun b=>Value.int .u8 (b:Nat)).length:=(List.getElem?_eq_some_iff.1 hv).1
   rw [Array.getElem?_append_left (by simpa using hi)]
   simpa using hv,.inr (Nat.le_refl _)⟩
 refine ⟨_,_,_,.sl h.nx 0 l.length 1,_,.value _ _ (by simp only [execOp,ho,hv,Sem.run_bind,hrun,Result.andThen_ok,Sem.run_pure]),⟨w.heap.size,0,_,grownCap w l.length 0 el,Ph.add_same _ _ _,rfl,by rw [hcsz]; omega,hge⟩,h1,(Ext.drew _ _ _).trans h2,e2⟩
theorem abytes_ok:∀ {cs:AV} {vs:List Value} {f:List Nat→R},abytes cs f=r→r.good→LR φ cs vs→∃ l:List Nat,vs=l.map (fun b=>Value.int .u8 (b:Nat))∧(∀ b∈l,b < 256)∧f l=r:=by
 intro cs
 induction cs with
 | z=>intro vs f e g hl; cases LR_z_inv hl; exact ⟨[],rfl,fun _ hb=>(by cases hb),e⟩
 | c x cs _ ih=>
  intro vs f e g hl
  obtain ⟨v,vs',rfl,hx,hl'⟩:=LR_c_inv hl
  obtain ⟨kd,n,rfl,e1⟩:=asN_ok (x:=x) e g
  obtain ⟨h1,e2⟩:=kif_t e1 g
  have h1:=ksame_t h1
  subst h1
  rcases onI_ok e2 with ⟨b,rfl,e3⟩ | ⟨b,rfl,e3⟩
  ·obtain ⟨h2,e4⟩:=kif_t e3 g
   have h2:=ble_t h2
   obtain ⟨l,rfl,h3,e5⟩:=ih e4 g hl'
   exact ⟨b :: l,by cases hx; rfl,fun c hc=>by
    cases hc with
    | head=>exact h2
    | tail _ hc=>exact h3 c hc,e5⟩
  ·exact (show False from (by subst e3; exact g)).elim
 | _=>intro vs f _ _ hl; exact hl.elim
theorem push_bytes:∀ (l:List Nat) (s:ByteArray),(l.map fun (b:Nat)=>(b:Int)).foldl (fun (r:ByteArray) n=>r.push (UInt8.ofNat n.toNat)) s=⟨s.data ++ (l.map UInt8.ofNat).toArray⟩
 | [],s=>by simp
 | b :: l,s=>by
  simp only [List.map_cons,List.foldl_cons,Int.toNat_natCast]
  rw [push_bytes l]
  apply ByteArray.ext
  simp [ByteArray.data_push]
theorem op_cbs {o:Oper} {s d el:TypeId} {x:Operand} {b:Ar} (ho:o.op=.convert s d x) (hx:ArOK ng nt x b) (hs:P.underlying s=some (.slice el)) (hd:P.underlying d=some .string) (he:P.underlying el=some (.int .u8))
  (hr:HR P ng φ h w) (ht:TR φ t a.tmps) (hn:nt≤a.tmps.size) {ev:EV} {kp:K} (e:op ev (.cbs b) t h k kp=r) (g:r.good):Still P (execOp a.eval o) φ h w k r:=by
 obtain ⟨x0,hx0,e1⟩:=hx.val hr ht hn (f:=fun v=>isSl v (slCells v 1 h fun _ cs=>abytes cs fun l=>k (.s l) h)) e
 have hsl:(∃ ad n c,a.eval x=.slice ad n c)∧(slCells x0 1 h fun _ cs=>abytes cs fun l=>k (.s l) h)=r:=by
  cases x0
  case sz=>exact ⟨⟨_,_,_,hx0⟩,e1⟩
  case se=>obtain ⟨_,_,hv⟩:=hx0; exact ⟨⟨_,_,_,hv⟩,e1⟩
  case sl=>obtain ⟨_,_,_,_,_,hv,_⟩:=hx0; exact ⟨⟨_,_,_,hv⟩,e1⟩
  case sk=>obtain ⟨_,_,_,_,hv,_⟩:=hx0; exact ⟨⟨_,_,_,hv⟩,e1⟩
  all_goals exact (show False from (by subst e1; exact g)).elim
 obtain ⟨⟨ad,n,c,hv⟩,e2⟩:=hsl
 obtain ⟨n',l,vs,hl,hlen,hlo,hf,_,e3⟩:=slCells_ok (P:=P) (y:=x0) e2 g hr hx0
 obtain ⟨bs,rfl,h1,e4⟩:=abytes_ok e3 g hl
 rw [hv] at hlo hf
 have hn':n=n':=by simp [Builtin.lenOf] at hlo; exact hlo
 subst hn'
 refine .still hr (y:=.s bs) (c:=.string (strOf bs)) ?_ ⟨h1,rfl⟩ e4
 have hconv:(convert s d (.slice ad n c)).run P w=.ok (.string (strOf bs)) w:=by
  rw [run_convert_bytes_string w s d el ad n c hs he hd]
  cases ad with
  | none=>
   have:bs=[]:=by
    simp [Builtin.firstCells] at hf
    exact hf
   subst this
   rfl
  | some ad=>
   have hload:(loadCells ad n).run P w=.ok ((bs.map fun (b:Nat)=>(b:Int)).map (Value.int .u8)).toArray w:=by
    simp only [Builtin.firstCells,Nat.mul_one] at hf
    rw [hf]; simp
   rw [run_bytesToString w ad n c _ hload,push_bytes]
   congr 2
   apply ByteArray.ext
   simp [strOf]
 simp only [execOp,ho,hv,Sem.run_bind,hconv,Result.andThen_ok,Sem.run_pure]
theorem op_ta {o:Oper} {s ty:TypeId} {x:Operand} {b:Ar} {d:TypeDesc} {v:Value} {zs:AV} (ho:o.op=.typeAssert x s ty true) (hx:ArOK ng nt x b) (hu:P.underlying ty=some d) (hd:∀ m,d≠.interface m) (hz:zeroIs P ty v) (hc:CR zs v)
  (hr:HR P ng φ h w) (ht:TR φ t a.tmps) (hn:nt≤a.tmps.size) {ev:EV} {kp:K} (e:op ev (.ta ty zs b) t h k kp=r) (g:r.good):Still P (execOp a.eval o) φ h w k r:=by
 obtain ⟨x0,hx0,e1⟩:=hx.val hr ht hn (f:=fun v=>taK v ty zs h k) e
 have no:∀ {v0:Value},a.eval x=v0→(v0=.nilIface∨∃ t' u,v0=.iface t' u∧t'≠ty)→(execOp a.eval o).run P w=.ok (.value (.tuple #[v,.bool false])) w:=by
  intro v0 hv hv0
  rcases hv0 with rfl | ⟨t',u,rfl,hne⟩
  ·simp only [execOp,ho,hv,Instr.typeAssert,Sem.run_bind,run_underlying' hu,Result.andThen_ok]
   cases d<;>first | exact absurd rfl (hd _) | simp [run_zeroValue' hz]
  ·simp only [execOp,ho,hv,Instr.typeAssert,Sem.run_bind,run_underlying' hu,Result.andThen_ok]
   cases d<;>first | exact absurd rfl (hd _) | simp [run_zeroValue' hz,hne]
 cases x0
 case ia t' y=>
  obtain ⟨c',hv,hy⟩:=hx0
  rcases kif_ok e1 with ⟨hb,e2⟩ | ⟨hb,e2⟩
  ·have hb:t'=ty:=Nat.eq_of_beq_eq_true hb
   subst hb
   refine .still hr (y:=.t (.c y (.c (.b true) .z))) (c:=.tuple #[c',.bool true]) ?_ ⟨_,rfl,_,_,rfl,hy,_,_,rfl,rfl,rfl⟩ e2
   simp only [execOp,ho,hv,Instr.typeAssert,Sem.run_bind,run_underlying' hu,Result.andThen_ok]
   cases d<;>first | exact absurd rfl (hd _) | simp
  ·have hb:t'≠ty:=fun q=>by subst q; rw [Nat.beq_refl] at hb; cases hb
   exact .still hr (y:=.t (.c zs (.c (.b false) .z))) (c:=.tuple #[v,.bool false]) (no hv (.inr ⟨_,_,rfl,hb⟩)) ⟨_,rfl,_,_,rfl,hc φ,_,_,rfl,rfl,rfl⟩ e2
 case iz=>
  have hv:a.eval x=_:=hx0
  exact .still hr (y:=.t (.c zs (.c (.b false) .z))) (c:=.tuple #[v,.bool false]) (no hv (.inl rfl)) ⟨_,rfl,_,_,rfl,hc φ,_,_,rfl,rfl,rfl⟩ e1
 all_goals exact (show False from (by subst e1; exact g)).elim
theorem op_rg {o:Oper} {ty:TypeId} {x:Operand} {b:Ar} (ho:o.op=.range ty x) (hx:ArOK ng nt x b) (hu:P.underlying ty=some .string)
  (hr:HR P ng φ h w) (ht:TR φ t a.tmps) (hn:nt≤a.tmps.size) {ev:EV} {kp:K} (e:op ev (.rg b) t h k kp=r) (g:r.good):Fine P ng (execOp a.eval o) φ h w k r:=by
 obtain ⟨x0,hx0,e1⟩:=hx.val hr ht hn (f:=fun v=>asS v fun l=>hnew (.si l 0) h fun r h=>k (.p r 0) h) e
 obtain ⟨l,rfl,e2⟩:=asS_ok (x:=x0) e1 g
 obtain ⟨hl,hv⟩:=hx0
 rw [hnew_eq] at e2
 obtain ⟨h1,h2⟩:=hr.made (o:=.si l 0) (b:=.stringIter (strOf l) 0) (s:=0) (n:=0) (w':={ w with heap:=w.heap.push (.stringIter (strOf l) 0) }) rfl ⟨rfl,strOf l,by simp,Nat.zero_le _,hl,by simp [strOf]⟩
 refine ⟨_,_,_,.p h.nx 0,.pointer (some ⟨w.heap.size,0,none⟩),.value _ _ ?_,⟨w.heap.size,0,0,Ph.add_same _ _ _,rfl⟩,h1,h2,e2⟩
 simp [execOp,ho,hv,Instr.range,run_underlying' hu]
theorem decode_low (s:ByteArray) (i:Nat) (b:UInt8) (h:s.data.toList[i]?=some b) (hb:b.toNat < 128):Utf8.decode s i=(b.toNat,1):=by
 have hg:s.get! (i + 0)=b:=by
  have:(s.data[i]?:Option UInt8)=some b:=by simpa using h
  simp [ByteArray.get!,getElem!_def,this]
 simp only [Utf8.decode,hg]
 rw [if_pos (by exact hb)]
theorem op_nx {o:Oper} {x:Operand} {b:Ar} (ho:o.op=.next x true) (hx:ArOK ng nt x b)
  (hr:HR P ng φ h w) (ht:TR φ t a.tmps) (hn:nt≤a.tmps.size) {ev:EV} {kp:K} (e:op ev (.nx b) t h k kp=r) (g:r.good):Fine P ng (execOp a.eval o) φ h w k r:=by
 obtain ⟨x0,hx0,e1⟩:=hx.val hr ht hn (f:=fun v=>asP v fun r o=>onNat o (nextS r h k) fun _=>.fail 184) e
 obtain ⟨q,i,rfl,e2⟩:=asP_ok (x:=x0) e1 g
 obtain ⟨bl,st,m,hq,hv⟩:=hx0
 obtain ⟨rfl,e3⟩:i=0∧nextS q h k=r:=by
  rcases onNat_ok e2 with ⟨rfl,e3⟩ | ⟨j,rfl,e3⟩
  ·exact ⟨rfl,e3⟩
  ·exact (show False from (by subst e3; exact g)).elim
 have e4:hget q h (fun o=>obSi o fun l pos=>onL l (k (.t (.c (.b false) .z)) h) fun a t=>kif (Nat.ble (Nat.succ a) 128) (hset q (.si t (Nat.succ pos)) h fun h=>k (.t (.c (.b true) (.c (.n .i64 (.ofNat pos)) (.c (.n .i32 (.ofNat a)) .z)))) h) (.fail 149))=r:=e3
 rw [hget_eq] at e4
 obtain ⟨l,pos,hob,e5⟩:=obSi_ok e4 g
 obtain ⟨z,hz,oy⟩:=hr.obj q (by rw [hob]; simp)
 rw [hq] at hz; cases hz
 rw [hob] at oy
 obtain ⟨h0,s,hw,hpos,hl,hdrop⟩:=oy
 simp only at h0 hw
 subst h0
 have hgo:(getObj bl).run P w=.ok (.stringIter s pos) w:=by simp [getObj,Sem.run,hw]
 cases l with
 | nil=>
  have hend:¬ pos < s.size:=by
   have:=congrArg List.length hdrop
   simp at this
   have hs:s.size=s.data.size:=rfl
   omega
  refine (Still.still hr (y:=.t (.c (.b false) .z)) (c:=.tuple #[.bool false]) ?_ ⟨_,rfl,_,_,rfl,rfl,rfl⟩ e5).fine hr
  simp only [execOp,ho,hv,Instr.next,Nat.add_zero,Sem.run_bind,hgo,Result.andThen_ok,if_neg hend,Sem.run_pure]
 | cons b l=>
  obtain ⟨h1,e6⟩:=kif_t e5 g
  have h1:=ble_t h1
  rw [hset_eq] at e6
  have hlt:pos < s.size:=by
   have:=congrArg List.length hdrop
   simp at this
   have hs:s.size=s.data.size:=rfl
   omega
  have hat:s.data.toList[pos]?=some (UInt8.ofNat b):=by
   have:=congrArg List.head? hdrop
   rw [List.head?_drop] at this
   simpa using this.symm
  have hb:(UInt8.ofNat b).toNat=b:=by simp [UInt8.toNat_ofNat',Nat.mod_eq_of_lt (show b < 256 by omega)]
  have hdec:=decode_low s pos _ hat (by rw [hb]; omega)
  rw [hb] at hdec
  have hbl:bl < w.heap.size:=hr.bnd q _ hq
  obtain ⟨h4,h5⟩:=hr.turn (w':={ w with heap:=w.heap.setIfInBounds bl (.stringIter s (pos + 1)) }) hq (by rw [hob]; trivial) (o:=.si l (pos + 1)) (.inr ⟨trivial,rfl,s,by simp [hbl],by omega,fun c hc=>hl c (.tail _ hc),by
   rw [← List.drop_drop,← hdrop]; rfl⟩) (by simp) (fun c hc=>by simp [Ne.symm hc]) rfl rfl rfl
  refine ⟨_,_,_,.t (.c (.b true) (.c (.n .i64 (.ofNat pos)) (.c (.n .i32 (.ofNat b)) .z))),.tuple #[.bool true,goInt pos,.int .i32 (b:Nat)],.value _ { w with heap:=w.heap.setIfInBounds bl (.stringIter s (pos + 1)) } ?_,⟨_,rfl,_,_,rfl,rfl,_,_,rfl,rfl,_,_,rfl,rfl,rfl⟩,h4,h5,e6⟩
  have hso:(setObj bl (.stringIter s (pos + 1))).run P w=.ok () { w with heap:=w.heap.setIfInBounds bl (.stringIter s (pos + 1)) }:=by simp [setObj,Sem.run,hw]
  simp only [execOp,ho,hv,Instr.next,Nat.add_zero,Sem.run_bind,hgo,Result.andThen_ok,if_pos hlt,hdec,hso,Sem.run_pure]
theorem op_pa {o:Oper} {x:Operand} {b:Ar} (ho:o.op=.panic x) (hx:ArOK ng nt x b) (hr:HR P ng φ h w) (ht:TR φ t a.tmps) (hn:nt≤a.tmps.size) {ev:EV} {kp:K} (e:op ev (.pa b) t h k kp=r) (g:r.good) :
  ∃ y c,(execOp a.eval o).run P w=.halt (.panic c) w∧VR φ y c∧kp y h=r:=by
 obtain ⟨x0,hx0,e1⟩:=hx.val hr ht hn (f:=fun v=>isIa v (kp v h)) e
 cases x0
 case ia t' y=>
  refine ⟨_,_,?_,hx0,e1⟩
  obtain ⟨c,hv,_⟩:=hx0
  simp [execOp,ho,hv,Instr.panic]
 all_goals exact (show False from (by subst e1; exact g)).elim
theorem mxF_ok (le:Bool) (f:Value→Value→Sem Value) (hf:∀ kd a b,(f (.int kd a) (.int kd b)).run P w=.ok (.int kd (if kle a b=le then a else b)) w):∀ {l:AV} {vs:List Value} {kd:IntKind} {i:Int},mxF l le kd i h k=r→r.good→LR φ l vs →
  ∃ j,(vs.foldlM f (.int kd i)).run P w=.ok (.int kd j) w∧k (.n kd j) h=r:=by
 intro l
 induction l with
 | z=>intro vs kd i e g hl; cases LR_z_inv hl; exact ⟨i,rfl,e⟩
 | c x l _ ih=>
  intro vs kd i e g hl
  obtain ⟨v,vs',rfl,hx,hl'⟩:=LR_c_inv hl
  obtain ⟨kd',j,rfl,e1⟩:=asN_ok (x:=x) e g
  obtain ⟨h1,e2⟩:=kif_t e1 g
  have h1:=ksame_t h1
  subst h1
  cases hx
  have hbeq:∀ a b:Bool,beqB a b=(a == b):=fun a b=>by cases a<;>cases b<;>rfl
  rcases kif_ok e2 with ⟨hb,e3⟩ | ⟨hb,e3⟩
  ·rw [hbeq] at hb
   have hb:le=kle i j:=by simpa using hb
   obtain ⟨m,h2,h3⟩:=ih e3 g hl'
   exact ⟨m,by simp only [List.foldlM_cons,Sem.run_bind,hf,Result.andThen_ok,hb,if_true]; exact h2,h3⟩
  ·rw [hbeq] at hb
   have hb:¬ le=kle i j:=by simpa using hb
   obtain ⟨m,h2,h3⟩:=ih e3 g hl'
   exact ⟨m,by simp only [List.foldlM_cons,Sem.run_bind,hf,Result.andThen_ok,if_neg (fun q:kle i j=le=>hb q.symm)]; exact h2,h3⟩
 | _=>intro vs kd i _ _ hl; exact hl.elim
theorem max2_int (kd:IntKind) (a b:Int):(Builtin.max2 (.int kd a) (.int kd b)).run P w=.ok (.int kd (if kle a b=false then a else b)) w:=by
 simp only [Builtin.max2,Sem.run_pure,kle_eq]
 congr 2
 by_cases h:a≤b<;>simp [h]<;>omega
theorem min2_int (kd:IntKind) (a b:Int):(Builtin.min2 (.int kd a) (.int kd b)).run P w=.ok (.int kd (if kle a b=true then a else b)) w:=by
 simp only [Builtin.min2,Sem.run_pure,kle_eq]
 congr 2
 by_cases h:a≤b<;>simp [h]<;>omega
theorem op_mx {o:Oper} {args:Array Operand} {tys:Array TypeId} {l:ArL} (ho:o.op=.call ⟨.builtin .max,args,tys⟩) (hx:ArLOK ng nt args.toList l) (hr:HR P ng φ h w) (ht:TR φ t a.tmps) (hn:nt≤a.tmps.size) {ev:EV} {kp:K} (e:op ev (.mx l) t h k kp=r) (g:r.good):Still P (execOp a.eval o) φ h w k r:=by
 obtain ⟨m,hm,e1⟩:=hx.vals hr ht hn (f:=fun l=>mxs false l h k) e
 obtain ⟨x,tl,rfl,e2⟩:=onC_c (x:=m) e1 g
 obtain ⟨kd,i,rfl,e3⟩:=asN_ok (x:=x) e2 g
 obtain ⟨v,vs,hvs,hx0,hl⟩:=LR_c_inv hm
 cases hx0
 obtain ⟨j,h1,e4⟩:=mxF_ok (P:=P) (w:=w) false Builtin.max2 max2_int e3 g hl
 refine .still hr (y:=.n kd j) (c:=.int kd j) ?_ rfl e4
 simp [execOp,ho,resolve,invoke,builtin,Builtin.max_,hvs,h1]
theorem op_mn {o:Oper} {args:Array Operand} {tys:Array TypeId} {l:ArL} (ho:o.op=.call ⟨.builtin .min,args,tys⟩) (hx:ArLOK ng nt args.toList l) (hr:HR P ng φ h w) (ht:TR φ t a.tmps) (hn:nt≤a.tmps.size) {ev:EV} {kp:K} (e:op ev (.mn l) t h k kp=r) (g:r.good):Still P (execOp a.eval o) φ h w k r:=by
 obtain ⟨m,hm,e1⟩:=hx.vals hr ht hn (f:=fun l=>mxs true l h k) e
 obtain ⟨x,tl,rfl,e2⟩:=onC_c (x:=m) e1 g
 obtain ⟨kd,i,rfl,e3⟩:=asN_ok (x:=x) e2 g
 obtain ⟨v,vs,hvs,hx0,hl⟩:=LR_c_inv hm
 cases hx0
 obtain ⟨j,h1,e4⟩:=mxF_ok (P:=P) (w:=w) true Builtin.min2 min2_int e3 g hl
 refine .still hr (y:=.n kd j) (c:=.int kd j) ?_ rfl e4
 simp [execOp,ho,resolve,invoke,builtin,Builtin.min_,hvs,h1]
end
end Go.Am
namespace Go.Am
open Go.ChangeMaps (setBlock)
theorem obMi_ok {o:Ob} {r:R} {k:Pos→Nat→List Nat→R} (e:obMi o k=r) (g:r.good):∃ m c l,o=.mi m c l∧k m c l=r:=by
 cases o<;>first | exact ⟨_,_,_,rfl,e⟩ | (subst e; exact g.elim)
theorem memN_eq:∀ {l:List Nat} {i:Nat},memN i l=l.contains i
 | [],_=>rfl
 | a :: l,i=>by
  have h:memN i (a :: l)=bor (Nat.beq a i) (memN i l):=rfl
  rw [h,memN_eq]
  have hb:∀ x y:Bool,bor x y=(x || y):=fun x y=>by cases x<;>cases y<;>rfl
  rw [hb,List.contains_cons]
  congr 1
  rw [Bool.eq_iff_iff,beq_iff_eq]
  exact ⟨fun h=>(Nat.eq_of_beq_eq_true h).symm,fun h=>by rw [h]; exact Nat.beq_refl a⟩
theorem zH_ok {h:H} {k r:R} (e:zH h k=r) (g:r.good):h=⟨.h,.e⟩∧k=r:=by
 obtain ⟨nx,t⟩:=h
 cases nx<;>cases t<;>first | exact ⟨rfl,e⟩ | (subst e; exact g.elim)
theorem posq_ok:∀ {p q:Pos},posq p q=true→p=q
 | .h,.h,_=>rfl
 | .o p,.o q,h=>congrArg _ (posq_ok (p:=p) (q:=q) h)
 | .i p,.i q,h=>congrArg _ (posq_ok (p:=p) (q:=q) h)
 | .h,.o _,h | .h,.i _,h | .o _,.h,h | .o _,.i _,h | .i _,.h,h | .i _,.o _,h=>by cases h
theorem asZ_ok {v:AV} {c:Nat} {k r:R} (e:asZ v c k=r) (g:r.good):((v=.u∧c=0)∨(v=.pz∧c=1)∨(v=.sz∧c=2)∨(v=.se∧c=3)∨(v=.mz∧c=4)∨(v=.fz∧c=5)∨(v=.iz∧c=6)∨(v=.z∧c=7))∧k=r:=by
 cases v
 case u=>obtain ⟨h1,e1⟩:=kif_t (n:=190) e g; have h1:=Nat.eq_of_beq_eq_true h1; subst h1; exact ⟨by simp,e1⟩
 case pz=>obtain ⟨h1,e1⟩:=kif_t (n:=190) e g; have h1:=Nat.eq_of_beq_eq_true h1; subst h1; exact ⟨by simp,e1⟩
 case sz=>obtain ⟨h1,e1⟩:=kif_t (n:=190) e g; have h1:=Nat.eq_of_beq_eq_true h1; subst h1; exact ⟨by simp,e1⟩
 case se=>obtain ⟨h1,e1⟩:=kif_t (n:=190) e g; have h1:=Nat.eq_of_beq_eq_true h1; subst h1; exact ⟨by simp,e1⟩
 case mz=>obtain ⟨h1,e1⟩:=kif_t (n:=190) e g; have h1:=Nat.eq_of_beq_eq_true h1; subst h1; exact ⟨by simp,e1⟩
 case fz=>obtain ⟨h1,e1⟩:=kif_t (n:=190) e g; have h1:=Nat.eq_of_beq_eq_true h1; subst h1; exact ⟨by simp,e1⟩
 case iz=>obtain ⟨h1,e1⟩:=kif_t (n:=190) e g; have h1:=Nat.eq_of_beq_eq_true h1; subst h1; exact ⟨by simp,e1⟩
 case z=>obtain ⟨h1,e1⟩:=kif_t (n:=190) e g; have h1:=Nat.eq_of_beq_eq_true h1; subst h1; exact ⟨by simp,e1⟩
 all_goals exact (show False from (by subst e; exact g)).elim
theorem leq_true:∀ {x y:List Nat},leq x y=true→x=y
 | [],[],_=>rfl
 | [],_ :: _,h=>by cases h
 | _ :: _,[],h=>by cases h
 | a :: x,b :: y,h=>by
  have h':band (Nat.beq a b) (leq x y)=true:=h
  obtain ⟨h1,h2⟩:=band_t h'
  rw [Nat.eq_of_beq_eq_true h1,leq_true h2]
theorem beqB_true {a b:Bool} (h:beqB a b=true):a=b:=by cases a<;>cases b<;>first | rfl | cases h
theorem aeq_ok:∀ {x y:AV} {k r:R},aeq x y k=r→r.good→x=y∧k=r:=by
 intro x
 induction x with
 | u=>intro y k r e g; obtain ⟨h,e1⟩:=asZ_ok e g; simp at h; exact ⟨h.symm,e1⟩
 | pz=>intro y k r e g; obtain ⟨h,e1⟩:=asZ_ok e g; simp at h; exact ⟨h.symm,e1⟩
 | sz=>intro y k r e g; obtain ⟨h,e1⟩:=asZ_ok e g; simp at h; exact ⟨h.symm,e1⟩
 | se=>intro y k r e g; obtain ⟨h,e1⟩:=asZ_ok e g; simp at h; exact ⟨h.symm,e1⟩
 | mz=>intro y k r e g; obtain ⟨h,e1⟩:=asZ_ok e g; simp at h; exact ⟨h.symm,e1⟩
 | fz=>intro y k r e g; obtain ⟨h,e1⟩:=asZ_ok e g; simp at h; exact ⟨h.symm,e1⟩
 | iz=>intro y k r e g; obtain ⟨h,e1⟩:=asZ_ok e g; simp at h; exact ⟨h.symm,e1⟩
 | z=>intro y k r e g; obtain ⟨h,e1⟩:=asZ_ok e g; simp at h; exact ⟨h.symm,e1⟩
 | b a=>
  intro y k r e g
  obtain ⟨b,rfl,e1⟩:=asB_ok (x:=y) (k:=fun b=>kif (beqB a b) k (.fail 195)) e g
  obtain ⟨h1,e2⟩:=kif_t e1 g
  exact ⟨by rw [beqB_true h1],e2⟩
 | n kd a=>
  intro y k r e g
  obtain ⟨kd',b,rfl,e1⟩:=asN_ok (x:=y) (k:=fun kd' b=>kif (ksame kd kd') (kif (keq a b) k (.fail 195)) (.fail 195)) e g
  obtain ⟨h1,e2⟩:=kif_t e1 g
  obtain ⟨h2,e3⟩:=kif_t e2 g
  rw [keq_eq] at h2
  exact ⟨by rw [ksame_t h1,of_decide_eq_true h2],e3⟩
 | s a=>
  intro y k r e g
  obtain ⟨b,rfl,e1⟩:=asS_ok (x:=y) (k:=fun b=>kif (leq a b) k (.fail 195)) e g
  obtain ⟨h1,e2⟩:=kif_t e1 g
  exact ⟨by rw [leq_true h1],e2⟩
 | p q o=>
  intro y k r e g
  obtain ⟨q',o',rfl,e1⟩:=asP_ok (x:=y) (k:=fun r' o'=>kif (posq q r') (kif (Nat.beq o o') k (.fail 195)) (.fail 195)) e g
  obtain ⟨h1,e2⟩:=kif_t e1 g
  obtain ⟨h2,e3⟩:=kif_t e2 g
  exact ⟨by rw [posq_ok h1,Nat.eq_of_beq_eq_true h2],e3⟩
 | sl q o n e'=>
  intro y k r e g
  cases y
  case sl q' o' n' e''=>
   obtain ⟨h1,e2⟩:=kif_t (b:=posq q q') (n:=195) (x:=kif (Nat.beq o o') (kif (Nat.beq n n') (kif (Nat.beq e' e'') k (.fail 195)) (.fail 195)) (.fail 195)) e g
   obtain ⟨h2,e3⟩:=kif_t e2 g
   obtain ⟨h3,e4⟩:=kif_t e3 g
   obtain ⟨h4,e5⟩:=kif_t e4 g
   exact ⟨by rw [posq_ok h1,Nat.eq_of_beq_eq_true h2,Nat.eq_of_beq_eq_true h3,Nat.eq_of_beq_eq_true h4],e5⟩
  all_goals exact (show False from (by subst e; exact g)).elim
 | sk q o n e'=>
  intro y k r e g
  cases y
  case sk q' o' n' e''=>
   obtain ⟨h1,e2⟩:=kif_t (b:=posq q q') (n:=195) (x:=kif (Nat.beq o o') (kif (Nat.beq n n') (kif (Nat.beq e' e'') k (.fail 195)) (.fail 195)) (.fail 195)) e g
   obtain ⟨h2,e3⟩:=kif_t e2 g
   obtain ⟨h3,e4⟩:=kif_t e3 g
   obtain ⟨h4,e5⟩:=kif_t e4 g
   exact ⟨by rw [posq_ok h1,Nat.eq_of_beq_eq_true h2,Nat.eq_of_beq_eq_true h3,Nat.eq_of_beq_eq_true h4],e5⟩
  all_goals exact (show False from (by subst e; exact g)).elim
 | m q=>
  intro y k r e g
  obtain ⟨q',rfl,e1⟩:=asM_ok (x:=y) (k:=fun r'=>kif (posq q r') k (.fail 195)) e g
  obtain ⟨h1,e2⟩:=kif_t e1 g
  exact ⟨by rw [posq_ok h1],e2⟩
 | ia t v ih=>
  intro y k r e g
  cases y
  case ia t' v'=>
   obtain ⟨h1,e2⟩:=kif_t (b:=Nat.beq t t') (n:=195) (x:=aeq v v' k) e g
   obtain ⟨h2,e3⟩:=ih e2 g
   exact ⟨by rw [Nat.eq_of_beq_eq_true h1,h2],e3⟩
  all_goals exact (show False from (by subst e; exact g)).elim
 | a l ih=>
  intro y k r e g
  obtain ⟨m,rfl,e1⟩:=asA_ok (x:=y) (k:=fun m=>aeq l m k) e g
  obtain ⟨h2,e3⟩:=ih e1 g
  exact ⟨by rw [h2],e3⟩
 | t l ih=>
  intro y k r e g
  obtain ⟨m,rfl,e1⟩:=asT_ok (x:=y) (k:=fun m=>aeq l m k) e g
  obtain ⟨h2,e3⟩:=ih e1 g
  exact ⟨by rw [h2],e3⟩
 | c x l ih ih'=>
  intro y k r e g
  obtain ⟨x',l',rfl,e1⟩:=onC_c (x:=y) (n:=195) (kc:=fun x' l'=>aeq x x' (aeq l l' k)) e g
  obtain ⟨h1,e2⟩:=ih e1 g
  obtain ⟨h2,e3⟩:=ih' e2 g
  exact ⟨by rw [h1,h2],e3⟩
 | md kd m x=>
  intro y k r e g
  cases y
  case md kd' m' x'=>
   obtain ⟨h1,e2⟩:=kif_t (b:=ksame kd kd') (n:=195) (x:=kif (Nat.beq m m') (kif (Nat.beq x x') k (.fail 195)) (.fail 195)) e g
   obtain ⟨h2,e3⟩:=kif_t e2 g
   obtain ⟨h3,e4⟩:=kif_t e3 g
   exact ⟨by rw [ksame_t h1,Nat.eq_of_beq_eq_true h2,Nat.eq_of_beq_eq_true h3],e4⟩
  all_goals exact (show False from (by subst e; exact g)).elim
 | y q=>
  intro y k r e g
  cases y
  case y q'=>
   obtain ⟨h1,e2⟩:=kif_t (b:=posq q q') (n:=195) (x:=k) e g
   exact ⟨by rw [posq_ok h1],e2⟩
  all_goals exact (show False from (by subst e; exact g)).elim
 | f fn a c ih ih'=>
  intro y k r e g
  cases y
  case f fn' a' c'=>
   obtain ⟨i,rfl,e2⟩:=fnId_ok (f:=fun i=>fnId fn' fun j=>kif (Nat.beq i j) (aeq a a' (aeq c c' k)) (.fail 195)) e g
   obtain ⟨j,rfl,e3⟩:=fnId_ok (f:=fun j=>kif (Nat.beq i j) (aeq a a' (aeq c c' k)) (.fail 195)) e2 g
   obtain ⟨h1,e4⟩:=kif_t e3 g
   obtain ⟨h2,e5⟩:=ih e4 g
   obtain ⟨h3,e6⟩:=ih' e5 g
   exact ⟨by rw [Nat.eq_of_beq_eq_true h1,h2,h3],e6⟩
  all_goals exact (show False from (by subst e; exact g)).elim
theorem al2_ok {x y r:R} (e:al2 x y=r) (g:r.good):x=r∧y=r:=by
 cases x with
 | fail n=>exact (show False from (by subst e; exact g)).elim
 | pan v h=>exact (show False from (by subst e; exact g)).elim
 | ok v h=>
  cases y with
  | fail n=>exact (show False from (by subst e; exact g)).elim
  | pan v h=>exact (show False from (by subst e; exact g)).elim
  | ok v' h'=>
   have e1:aeq v v' (zH h (zH h' (.ok v ⟨.h,.e⟩)))=r:=e
   obtain ⟨rfl,e2⟩:=aeq_ok e1 g
   obtain ⟨rfl,e3⟩:=zH_ok e2 g
   obtain ⟨rfl,e4⟩:=zH_ok e3 g
   exact ⟨e4,e4⟩
def InC (e:AV):AV→Prop
 | .c x l=>x=e∨InC e l
 | _=>False
theorem altK_ok:∀ {l:AV} {go:AV→R} {r:R},altK l go=r→r.good→∀ e,InC e l→go e=r:=by
 intro l
 induction l with
 | c x l _ ih=>
  intro go r e1 g e he
  have e2:onC l (go x) (fun _ _=>al2 (go x) (altK l go))=r:=e1
  rcases onC_ok e2 g with ⟨rfl,e3⟩ | ⟨y,l',rfl,e3⟩
  ·rcases he with rfl | he
   ·exact e3
   ·exact he.elim
  ·obtain ⟨e4,e5⟩:=al2_ok e3 g
   rcases he with rfl | he
   ·exact e4
   ·exact ih e5 g e he
 | _=>intro go r _ _ e he; exact he.elim
section
variable {φ:Ph} {r:R}
theorem lngE_ok:∀ {es:AV} {l:List MapEntry} {n:Nat} {k:Nat→R},lngF es n k=r→ER φ es l→k (n + l.length)=r:=by
 intro es
 induction es with
 | z=>intro l n k e hl; cases hl; exact e
 | c x es _ ih=>
  intro l n k e hl
  cases x<;>first | exact hl.elim | skip
  obtain ⟨y,l',rfl,_,_,hl'⟩:=hl
  have h':lngF es (Nat.succ n) k=r:=(fN_eq n _).symm.trans e
  have:=ih h' hl'
  rw [List.length_cons,show n + (l'.length + 1)=n.succ + l'.length by omega]
  exact this
 | _=>intro l n k _ hl; exact hl.elim
theorem lngE {es:AV} {l:List MapEntry} {k:Nat→R} (e:lng es k=r) (hl:ER φ es l):k l.length=r:=by
 have:=lngE_ok e hl
 simpa [fN_eq] using this
theorem candK_ok:∀ {es:AV} {l:List MapEntry} {i:Nat} {seen:List Nat} {k:AV→R},candK es i seen k=r→ER φ es l →
  ∃ cl,k cl=r∧((∀ j e,l[j]?=some e→seen.contains (i + j)=true)→cl=.z)∧(∀ j e,l[j]?=some e→seen.contains (i + j)=false→∃ a b,VR φ a e.key∧VR φ b e.val∧InC (.c (.n .u64 (.ofNat (i + j))) (.c a b)) cl):=by
 intro es
 induction es with
 | z=>intro l i seen k e hl; cases hl; exact ⟨.z,e,fun _=>rfl,fun j e he=>by cases he⟩
 | c x es _ ih=>
  intro l i seen k e hl
  cases x<;>first | exact hl.elim | skip
  rename_i ka va _
  obtain ⟨y,l',rfl,hka,hva,hl'⟩:=hl
  have e0:fN i (fun i=>kif (memN i seen) (candK es (Nat.succ i) seen k) (candK es (Nat.succ i) seen fun l=>k (.c (.c (.n .u64 (.ofNat i)) (.c ka va)) l)))=r:=e
  rw [fN_eq,memN_eq] at e0
  rcases kif_ok e0 with ⟨hb,e1⟩ | ⟨hb,e1⟩
  ·obtain ⟨cl,h1,h2,h3⟩:=ih e1 hl'
   refine ⟨cl,h1,fun hall=>h2 fun j e he=>?_,fun j e he hs=>?_⟩
   ·have:=hall (j + 1) e he
    rwa [show i + (j + 1)=i.succ + j by omega] at this
   ·cases j with
    | zero=>rw [Nat.add_zero,hb] at hs; cases hs
    | succ j=>
     obtain ⟨a,b,h4,h5,h6⟩:=h3 j e he (by rwa [show i.succ + j=i + (j + 1) by omega])
     exact ⟨a,b,h4,h5,by rwa [show i.succ + j=i + (j + 1) by omega] at h6⟩
  ·obtain ⟨cl,h1,h2,h3⟩:=ih (k:=fun l=>k (.c (.c (.n .u64 (.ofNat i)) (.c ka va)) l)) e1 hl'
   refine ⟨_,h1,fun hall=>?_,fun j e he hs=>?_⟩
   ·have:=hall 0 y rfl
    rw [Nat.add_zero,hb] at this; cases this
   ·cases j with
    | zero=>cases he; exact ⟨ka,va,hka,hva,.inl rfl⟩
    | succ j=>
     obtain ⟨a,b,h4,h5,h6⟩:=h3 j e he (by rwa [show i.succ + j=i + (j + 1) by omega])
     exact ⟨a,b,h4,h5,.inr (by rwa [show i.succ + j=i + (j + 1) by omega] at h6)⟩
 | _=>intro l i seen k _ hl; exact hl.elim
theorem nthE_ok:∀ {i:Nat} {es:AV} {l:List MapEntry} {k:AV→R},nth i es k=r→r.good→ER φ es l→∃ e a b,l[i]?=some e∧VR φ a e.key∧VR φ b e.val∧k (.c a b)=r
 | 0,es,l,k,e,g,hl=>by
  obtain ⟨y,t,rfl,e1⟩:=onC_c (x:=es) e g
  cases y<;>first | exact hl.elim | skip
  obtain ⟨en,l',rfl,h1,h2,_⟩:=hl
  exact ⟨en,_,_,rfl,h1,h2,e1⟩
 | i + 1,es,l,k,e,g,hl=>by
  obtain ⟨y,t,rfl,e1⟩:=onC_c (x:=es) e g
  cases y<;>first | exact hl.elim | skip
  obtain ⟨en,l',rfl,h1,h2,hl'⟩:=hl
  obtain ⟨e',a,b,h3,h4⟩:=nthE_ok (i:=i) e1 g hl'
  exact ⟨e',a,b,by simpa using h3,h4⟩
end
section
variable {P:Program} {ng nt:Nat} {φ:Ph} {h:H} {w:World} {t:T} {a:Act} {k:K} {r:R}
theorem op_rm {o:Oper} {ty kt et:TypeId} {x:Operand} {b:Ar} (ho:o.op=.range ty x) (hx:ArOK ng nt x b) (hu:P.underlying ty=some (.map kt et))
  (hr:HR P ng φ h w) (ht:TR φ t a.tmps) (hn:nt≤a.tmps.size) {ev:EV} {kp:K} (e:op ev (.rm b) t h k kp=r) (g:r.good):Fine P ng (execOp a.eval o) φ h w k r:=by
 obtain ⟨x0,hx0,e1⟩:=hx.val hr ht hn (f:=fun v=>asM v fun m=>hget m h fun o=>obMap o fun es=>lng es fun n=>hnew (.mi m n []) h fun r h=>k (.p r 0) h) e
 obtain ⟨q,rfl,e2⟩:=asM_ok (x:=x0) e1 g
 obtain ⟨bl,st,m,hq,hv⟩:=hx0
 rw [hget_eq] at e2
 obtain ⟨es,hes,e3⟩:=obMap_ok e2 g
 obtain ⟨z,hz,oy⟩:=hr.obj q (by rw [hes]; simp)
 rw [hq] at hz; cases hz
 rw [hes] at oy
 obtain ⟨l,clock,hw,⟨hst,hbn⟩,hl⟩:=oy
 simp only at hw
 have e4:=lngE e3 hl
 rw [hnew_eq] at e4
 have hc:l.toList.length=clock:=by rw [hbn.1]; simp
 rw [hc] at e4
 obtain ⟨h1,h2⟩:=hr.made (o:=.mi q clock []) (b:=.mapIter (some bl) clock #[] clock) (s:=0) (n:=0) (w':={ w with heap:=w.heap.push (.mapIter (some bl) clock #[] clock) }) rfl ⟨rfl,bl,st,m,#[],hr.le_add _ _ _ hq,by simp,rfl⟩
 refine ⟨_,_,_,.p h.nx 0,.pointer (some ⟨w.heap.size,0,none⟩),.value _ _ ?_,⟨w.heap.size,0,0,Ph.add_same _ _ _,rfl⟩,h1,h2,e4⟩
 simp [execOp,ho,hv,Instr.range,run_underlying' hu,MapKept.run_getObj_map hw]
theorem op_nm {o:Oper} {x:Operand} {b:Ar} (ho:o.op=.next x false) (hx:ArOK ng nt x b)
  (hr:HR P ng φ h w) (ht:TR φ t a.tmps) (hn:nt≤a.tmps.size) {ev:EV} {kp:K} (e:op ev (.nm b) t h k kp=r) (g:r.good):Fine P ng (execOp a.eval o) φ h w k r:=by
 obtain ⟨x0,hx0,e1⟩:=hx.val hr ht hn (f:=fun v=>asP v fun r o=>onNat o (nextM r h k) fun _=>.fail 197) e
 obtain ⟨q,i,rfl,e2⟩:=asP_ok (x:=x0) e1 g
 obtain ⟨bl,st,m,hq,hv⟩:=hx0
 obtain ⟨rfl,e3⟩:i=0∧nextM q h k=r:=by
  rcases onNat_ok e2 with ⟨rfl,e3⟩ | ⟨j,rfl,e3⟩
  ·exact ⟨rfl,e3⟩
  ·exact (show False from (by subst e3; exact g)).elim
 have e4:hget q h (fun o=>obMi o fun m c seen=>hget m h fun o=>obMap o fun es=>lng es fun n=>kif (Nat.beq n c) (candK es 0 seen fun l=>onC l (k (.t (.c (.b false) .z)) h) fun _ _=>altK l fun e=>onC e (.fail 197) fun i kv=>asNat i fun i=>onC kv (.fail 197) fun key v=>hset q (.mi m c (i :: seen)) h fun h=>k (.t (.c (.b true) (.c key (.c v .z)))) h) (.fail 197))=r:=e3
 rw [hget_eq] at e4
 obtain ⟨mq,c,seen,hob,e5⟩:=obMi_ok e4 g
 obtain ⟨z,hz,oy⟩:=hr.obj q (by rw [hob]; simp)
 rw [hq] at hz; cases hz
 rw [hob] at oy
 obtain ⟨h0,mb,ms,mn,sa,hmq,hwi,hsa⟩:=oy
 simp only at h0 hwi
 subst h0
 rw [hget_eq] at e5
 obtain ⟨es,hes,e6⟩:=obMap_ok e5 g
 obtain ⟨z,hz,oy⟩:=hr.obj mq (by rw [hes]; simp)
 rw [hmq] at hz; cases hz
 rw [hes] at oy
 obtain ⟨l,clock,hw,⟨hst,hbn⟩,hl⟩:=oy
 simp only at hw
 have e7:=lngE e6 hl
 obtain ⟨hb,e8⟩:=kif_t e7 g
 have hc:clock=c:=by
  have:=Nat.eq_of_beq_eq_true hb
  rw [hbn.1]; simpa using this
 subst hc
 obtain ⟨cl,e9,hz1,hz2⟩:=candK_ok e8 hl
 have hold:∀ x∈l.toList,x.born < clock:=fun x hx=>by
  obtain ⟨j,hj⟩:=List.getElem?_of_mem hx
  have hj':l[j]?=some x:=by simpa using hj
  rw [hbn.2 j x hj',hbn.1]
  exact (Array.getElem?_eq_some_iff.1 hj').1
 have hcon:∀ j,sa.contains j=seen.contains j:=fun j=>by
  rw [← Array.contains_toList,hsa,List.contains_reverse]
 have hmine:(h.get q).mine:=by rw [hob]; trivial
 have hlt:bl < w.heap.size:=hr.bnd q _ hq
 rcases run_next_at (P:=P) w o.type bl mb clock clock sa l clock hwi hw hold (Nat.le_refl _) with ⟨hsz,hrun⟩ | ⟨en,hen,w1,hw1,hrun⟩
 ·-- nothing is left
  have hcl:cl=.z:=hz1 fun j e' he'=>by
   have hj:l[j]?=some e':=by simpa using he'
   rw [Nat.zero_add]
   cases hs:seen.contains j with
   | true=>rfl
   | false=>
    have hm:e'∈(leftOf l sa).toList:=by
     unfold leftOf
     simp only [Array.toList_filter,List.mem_filter]
     refine ⟨List.mem_of_getElem? he',?_⟩
     rw [hbn.2 j e' hj,hcon,hs]; rfl
    have:(leftOf l sa).toList=[]:=by
     rw [← List.length_eq_zero_iff]; simpa using hsz
    rw [this] at hm; cases hm
  subst hcl
  have e10:k (.t (.c (.b false) .z)) h=r:=e9
  refine ⟨φ,h,w,.t (.c (.b false) .z),.tuple #[.bool false],.value _ _ ?_,⟨_,rfl,_,_,rfl,rfl,rfl⟩,hr,.refl _ _ _,e10⟩
  simp only [execOp,ho,hv,Nat.zero_add,Nat.add_zero,Sem.run_bind,hrun,Result.andThen_ok,Sem.run_pure]
 ·have hen':en∈l.toList∧(!sa.contains en.born)=true:=by
   unfold leftOf at hen
   simpa using hen
  obtain ⟨j,hj⟩:=List.getElem?_of_mem hen'.1
  have hj':l[j]?=some en:=by simpa using hj
  have hbj:=hbn.2 j en hj'
  have hs:seen.contains (0 + j)=false:=by
   have:=hen'.2
   rw [hbj,hcon] at this
   rw [Nat.zero_add]; simpa using this
  obtain ⟨ka,va,hka,hva,hin⟩:=hz2 j en hj hs
  have e10:altK cl (fun e=>onC e (.fail 197) fun i kv=>asNat i fun i=>onC kv (.fail 197) fun key v=>hset q (.mi mq clock (i :: seen)) h fun h=>k (.t (.c (.b true) (.c key (.c v .z)))) h)=r:=by
   cases cl with
   | c x y=>exact e9
   | _=>exact hin.elim
  have e11:=altK_ok e10 g _ hin
  have e12:hset q (.mi mq clock ((0 + j) :: seen)) h (fun h=>k (.t (.c (.b true) (.c ka (.c va .z)))) h)=r:=e11
  rw [hset_eq,Nat.zero_add] at e12
  have step:∀ (w1:World),HR P ng φ h w1→Ext φ h w φ h w1→w1.heap=w.heap→HR P ng φ (h.put q (.mi mq clock (j :: seen))) (setBlock w1 bl (.mapIter (some mb) clock (sa.push en.born) clock))∧Ext φ h w φ (h.put q (.mi mq clock (j :: seen))) (setBlock w1 bl (.mapIter (some mb) clock (sa.push en.born) clock)):=by
   intro w1 hr1 hx1 hh
   have hself:(setBlock w1 bl (.mapIter (some mb) clock (sa.push en.born) clock)).heap[bl]?=some (.mapIter (some mb) clock (sa.push en.born) clock):=by
    simp [setBlock,hh,hlt]
   obtain ⟨h4,h5⟩:=hr1.turn (w':=setBlock w1 bl (.mapIter (some mb) clock (sa.push en.born) clock)) hq hmine (o:=.mi mq clock (j :: seen)) (.inr ⟨trivial,rfl,mb,ms,mn,sa.push en.born,hmq,hself,by simp [hsa,hbj]⟩) (by simp [setBlock]) (fun b hb=>by simp [setBlock,Ne.symm hb]) rfl rfl rfl
   exact ⟨h4,hx1.trans h5⟩
  have hres:VR φ (.t (.c (.b true) (.c ka (.c va .z)))) (.tuple #[.bool true,en.key,en.val]):=⟨_,rfl,_,_,rfl,rfl,_,_,rfl,hka,_,_,rfl,hva,rfl⟩
  have hexec:(execOp a.eval o).run P w=.ok (.value (.tuple #[.bool true,en.key,en.val])) (setBlock w1 bl (.mapIter (some mb) clock (sa.push en.born) clock)):=by
   simp only [execOp,ho,hv,Nat.zero_add,Nat.add_zero,Sem.run_bind,hrun,Result.andThen_ok,Sem.run_pure]
  rcases hw1 with rfl | rfl
  ·obtain ⟨h4,h5⟩:=step w1 hr (.refl _ _ _) rfl
   exact ⟨_,_,_,_,_,.value _ _ hexec,hres,h4,h5,e12⟩
  ·obtain ⟨h4,h5⟩:=step w.drew hr.drew (.drew _ _ _) rfl
   exact ⟨_,_,_,_,_,.value _ _ hexec,hres,h4,h5,e12⟩
theorem op_en {o:Oper} {x:Operand} {b:Ar} (ho:o.op=.entry x) (hx:ArOK ng nt x b)
  (hr:HR P ng φ h w) (ht:TR φ t a.tmps) (hn:nt≤a.tmps.size) {ev:EV} {kp:K} (e:op ev (.en b) t h k kp=r) (g:r.good):Fine P ng (execOp a.eval o) φ h w k r:=by
 obtain ⟨x0,hx0,e1⟩:=hx.val hr ht hn (f:=fun v=>asP v fun r o=>onNat o (entM r h k) fun _=>.fail 198) e
 obtain ⟨q,i,rfl,e2⟩:=asP_ok (x:=x0) e1 g
 obtain ⟨bl,st,m,hq,hv⟩:=hx0
 obtain ⟨rfl,e3⟩:i=0∧entM q h k=r:=by
  rcases onNat_ok e2 with ⟨rfl,e3⟩ | ⟨j,rfl,e3⟩
  ·exact ⟨rfl,e3⟩
  ·exact (show False from (by subst e3; exact g)).elim
 have e4:hget q h (fun o=>obMi o fun m c seen=>onL seen (.fail 198) fun i _=>hget m h fun o=>obMap o fun es=>lng es fun n=>kif (Nat.beq n c) (nth i es fun kv=>onC kv (.fail 198) fun key v=>k (.t (.c key (.c v .z))) h) (.fail 198))=r:=e3
 rw [hget_eq] at e4
 obtain ⟨mq,c,seen,hob,e5⟩:=obMi_ok e4 g
 obtain ⟨z,hz,oy⟩:=hr.obj q (by rw [hob]; simp)
 rw [hq] at hz; cases hz
 rw [hob] at oy
 obtain ⟨h0,mb,ms,mn,sa,hmq,hwi,hsa⟩:=oy
 simp only at h0 hwi
 subst h0
 cases seen with
 | nil=>exact (show False from (by subst e5; exact g)).elim
 | cons i seen=>
  have e5:hget mq h (fun o=>obMap o fun es=>lng es fun n=>kif (Nat.beq n c) (nth i es fun kv=>onC kv (.fail 198) fun key v=>k (.t (.c key (.c v .z))) h) (.fail 198))=r:=e5
  rw [hget_eq] at e5
  obtain ⟨es,hes,e6⟩:=obMap_ok e5 g
  obtain ⟨z,hz,oy⟩:=hr.obj mq (by rw [hes]; simp)
  rw [hmq] at hz; cases hz
  rw [hes] at oy
  obtain ⟨l,clock,hw,⟨hst,hbn⟩,hl⟩:=oy
  simp only at hw
  have e7:=lngE e6 hl
  obtain ⟨hb,e8⟩:=kif_t e7 g
  have hc:clock=c:=by
   have:=Nat.eq_of_beq_eq_true hb
   rw [hbn.1]; simpa using this
  subst hc
  obtain ⟨en,ka,va,hj,hka,hva,e9⟩:=nthE_ok e8 g hl
  have e10:k (.t (.c ka (.c va .z))) h=r:=e9
  have hj':l[i]?=some en:=by simpa using hj
  have hbi:=hbn.2 i en hj'
  have hsa':sa=(seen.reverse.toArray).push en.born:=by
   apply Array.ext'
   rw [hsa,hbi]; simp
  rw [hsa'] at hwi
  have hrun:=run_entry_at (P:=P) w bl mb clock seen.reverse.toArray l clock en hwi hw (List.mem_of_getElem? hj) (((MapKept.stamped_iff _ _).1 hst).2.1)
  refine ⟨φ,h,w,.t (.c ka (.c va .z)),.tuple #[en.key,en.val],.value _ _ ?_,⟨_,rfl,_,_,rfl,hka,_,_,rfl,hva,rfl⟩,hr,.refl _ _ _,e10⟩
  simp only [execOp,ho,hv,Nat.zero_add,Nat.add_zero,Sem.run_bind,hrun,Result.andThen_ok,Sem.run_pure]
end
end Go.Am
namespace Go.Am
def EvFn (P:Program) (ng:Nat) (f:FuncId) (run:AV→H→K→K→R):Prop:=
 ∀ (args:AV) (h:H) (k kp:K) (r:R) (φ:Ph) (w:World) (vs:List Value),run args h k kp=r→r.good→HR P ng φ h w→LR φ args vs →
  Calls P f vs.toArray w fun e w'=>∃ ψ g,HR P ng ψ g w'∧Ext φ h w ψ g w'∧match e with
   | .returned v=>∃ y,VR ψ y v∧k y g=r
   | .panicked ch=>∃ c y,ch=[{ v:=c,recovered:=false }]∧VR ψ y c∧kp y g=r
   | .outgrown=>False
def Enters (P : Program) (f : FuncId) : Prop := ∃ fn c, P.funcs[f]? = some fn ∧ fn.body = some c ∧ fn.name ≠ "runtime.NumGoroutine"
def fen (ro:Option Nat):Fence:={ Fence.wide with round:=ro }
theorem fen_round (ro:Option Nat):(fen ro).round=ro:=rfl
theorem fenced_fen (P:Program) (ro:Option Nat) (m:Machine):m.fenced P (fen ro):=fenced_wide P m
theorem room_fen (ro:Option Nat) (n:Nat):(fen ro).room n:=fun _ h=>(by cases h)
theorem callsIn_fen {P:Program} {ro:Option Nat} {n:Nat} {f:FuncId} {args:Array Value} {w:World} {R:Ending→World→Prop} (h:Calls P f args w R):CallsIn (fen ro) n P f args w R:=
 ⟨trivial,(callsIn_wide (n:=n).2 h).2⟩
def YdFn (P:Program) (ng:Nat) (p:Pos) (run:AV→H→K→K→R):Prop:=
 ∀ (args:AV) (h:H) (k kp:K) (r:R) (φ:Ph) (w:World) (vs:List Value),run args h k kp=r→r.good→HR P ng φ h w→LR φ args vs→∀ b s n,φ p=some (b,s,n) →
  ∃ f tmps as bd,(Instr.yield b vs.toArray).run P w=.ok (.round b f tmps as bd) w∧RoundIn (fen none) 0 P b f tmps as bd w fun e w'=>∃ ψ g,HR P ng ψ g w'∧Ext φ h w ψ g w'∧match e with
   | .returned v=>∃ y,VR ψ y v∧k y g=r
   | _=>False
structure EvOK (P:Program) (ng:Nat) (ev:EV):Prop where
 fn:∀ q:Pos,(∃ (args:AV) (h:H) (k kp:K),(ev (.fn q) args h k kp).good)→Enters P (q.val - 1)
 calls:∀ q:Pos,EvFn P ng (q.val - 1) (ev (.fn q))
 yd:∀ p:Pos,YdFn P ng p (ev (.yd p))
section
variable {P:Program} {ng nt:Nat} {φ:Ph} {h:H} {w:World} {t:T} {a:Act} {k kp:K} {r:R} {ev:EV}
def OpDone (P:Program) (ng:Nat) (o:Oper) (a:Act) (φ:Ph) (h:H) (w:World) (k kp:K) (r:R):Prop:=
 ∀ (ro:Option Nat) (next:Act→World→Prop) (Q:Exit→Act→World→Prop),
  (∀ ψ g v y c,VR ψ y c→HR P ng ψ g v→Ext φ h w ψ g v→k y g=r→next (a.put o.dst c) v) →
  (∀ ψ g v y c,VR ψ y c→HR P ng ψ g v→Ext φ h w ψ g v→kp y g=r→Q (.panic [{ v:=c,recovered:=false }]) a v)→o.wpIn (fen ro) 0 P a w next Q
theorem wpIn_of_run {o:Oper} (hnd:∀ c,o.op≠.defer c) {ro:Option Nat} {next:Act→World→Prop} {Q:Exit→Act→World→Prop} (h:o.uponIn (fen ro) 0 P a next Q ((execOp a.eval o).run P w)):o.wpIn (fen ro) 0 P a w next Q:=
 ⟨fun _ _=>trivial,by rw [fen_round,Oper.semAt_eq _ _ _ hnd]; exact h⟩
theorem Fine.opDone {o:Oper} (hnd:∀ c,o.op≠.defer c) (hf:Fine P ng (execOp a.eval o) φ h w k r):OpDone P ng o a φ h w k kp r:=by
 obtain ⟨ψ,g,v,y,c,hd,h1,h2,h3,h4⟩:=hf
 intro ro next Q hn _
 refine wpIn_of_run hnd ?_
 cases hd with
 | value c v hrun=>rw [hrun]; exact hn ψ g v y c h1 h2 h3 h4
 | skip v hrun=>rw [hrun]; exact hn ψ g v y undef h1 h2 h3 h4
theorem run_callFunc' {f:FuncId} {args:Array Value} (he:Enters P f) (w:World):(callFunc f args).run P w=.ok (.enter f args) w:=by
 obtain ⟨fn,c,h1,h2,h3⟩:=he
 simp [callFunc,run_program,h1,h2,h3]
theorem call_done {o:Oper} (hnd:∀ c,o.op≠.defer c) {f:FuncId} {vs:List Value} {run:AV→H→K→K→R} {args:AV} (hexec:(execOp a.eval o).run P w=.ok (.enter f vs.toArray) w) (hf:EvFn P ng f run) (e:run args h k kp=r) (g:r.good) (hr:HR P ng φ h w) (hl:LR φ args vs):OpDone P ng o a φ h w k kp r:=by
 intro ro next Q hn hp
 refine wpIn_of_run hnd ?_
 rw [hexec,Oper.uponIn_enter]
 refine ⟨fun h=>(by cases h),callsIn_fen (Calls.mono (hf _ _ _ _ _ _ _ _ e g hr hl) fun en w' he=>?_)⟩
 obtain ⟨ψ,g',h1,h2,h3⟩:=he
 cases en with
 | returned v=>obtain ⟨y,h4,h5⟩:=h3; exact hn ψ g' w' y v h4 h1 h2 h5
 | panicked ch=>obtain ⟨c,y,rfl,h4,h5⟩:=h3; exact hp ψ g' w' y c h4 h1 h2 h5
 | outgrown=>exact h3.elim
theorem op_cf {o:Oper} {f:Nat} {args:Array Operand} {tys:Array TypeId} {p:Pos} {l:ArL} (ho:o.op=.call ⟨.value (.func f),args,tys⟩) (hp:p.val=f + 1) (hx:ArLOK ng nt args.toList l) (hev:EvOK P ng ev)
  (hr:HR P ng φ h w) (ht:TR φ t a.tmps) (hn:nt≤a.tmps.size) (e:op ev (.cf p l) t h k kp=r) (g:r.good):OpDone P ng o a φ h w k kp r:=by
 obtain ⟨m,hm,e1⟩:=hx.vals hr ht hn (f:=fun a=>ev (.fn p) a h k kp) e
 have hf:p.val - 1=f:=by omega
 have hen:=hev.fn p ⟨m,h,k,kp,by rw [e1]; exact g⟩
 rw [hf] at hen
 have hc:=hev.calls p
 rw [hf] at hc
 refine call_done (by rw [ho]; intro c hc; cases hc) (vs:=args.toList.map a.eval) ?_ hc e1 g hr hm
 have:(args.map a.eval)=(args.toList.map a.eval).toArray:=Array.ext' (by rw [Array.toList_map])
 simp only [execOp,ho,resolve,Act.eval,Deferred.ofValue,Sem.run_bind,Sem.run_pure,Result.andThen_ok,invoke,run_callFunc' hen,Array.empty_append,Array.append_empty,this]
theorem posN_ok {f:Pos→R} {n:Nat} (e:posN n f=r) (g:r.good):∃ q:Pos,q.val=n∧f q=r:=by
 have key:∀ (m n:Nat) (f:Pos→R),(Nat.rec (motive:=fun _=>Nat→(Pos→R)→R) (fun _ _=>.fail 140) (fun _ ih n k=>kif (Nat.beq n 1) (k .h) (fN (n / 2) fun q=>kif (Nat.beq (n % 2) 0) (ih q fun p=>k (.o p)) (ih q fun p=>k (.i p)))) m n f:R)=r→∃ q:Pos,q.val=n∧f q=r:=by
  intro m
  induction m with
  | zero=>intro n f e; exact (show False from (by subst e; exact g)).elim
  | succ m ih=>
   intro n f e
   rcases kif_ok e with ⟨hb,e1⟩ | ⟨hb,e1⟩
   ·exact ⟨.h,(Nat.eq_of_beq_eq_true hb).symm,e1⟩
   ·rw [fN_eq] at e1
    rcases kif_ok e1 with ⟨hb',e2⟩ | ⟨hb',e2⟩
    ·obtain ⟨q,h1,h2⟩:=ih _ _ e2
     have:=Nat.eq_of_beq_eq_true hb'
     exact ⟨.o q,by show 2 * q.val=n; omega,h2⟩
    ·obtain ⟨q,h1,h2⟩:=ih _ _ e2
     have:n % 2≠0:=fun h=>by rw [h,Nat.beq_refl] at hb'; cases hb'
     exact ⟨.i q,by show 2 * q.val + 1=n; omega,h2⟩
 exact key 20 n f e
theorem op_cd {o:Oper} {x:Operand} {args:Array Operand} {tys:Array TypeId} {b:Ar} {l:ArL} (ho:o.op=.call ⟨.value x,args,tys⟩) (hx:ArOK ng nt x b) (hl:ArLOK ng nt args.toList l) (hev:EvOK P ng ev)
  (hr:HR P ng φ h w) (ht:TR φ t a.tmps) (hn:nt≤a.tmps.size) (e:op ev (.cd b l) t h k kp=r) (g:r.good):OpDone P ng o a φ h w k kp r:=by
 obtain ⟨x0,hx0,e1⟩:=hx.val hr ht hn (f:=fun f=>avals l t fun a=>cdyn f ev a h k kp) e
 obtain ⟨m,hm,e2⟩:=hl.vals hr ht hn (f:=fun a=>cdyn x0 ev a h k kp) e1
 cases x0
 case f fn first cap=>
  obtain ⟨ca,cc,hv,hfi,hca⟩:=hx0
  obtain ⟨n,rfl,e3⟩:=fnId_ok (f:=fun n=>posN (n + 1) fun q=>app first m fun a=>app a cap fun a=>ev (.fn q) a h k kp) e2 g
  obtain ⟨q,hq,e4⟩:=posN_ok e3 g
  obtain ⟨m1,h1,e5⟩:=app_ok e4 g hfi hm
  obtain ⟨m2,h2,e6⟩:=app_ok e5 g h1 hca
  have hf:q.val - 1=n:=by omega
  have hen:=hev.fn q ⟨m2,h,k,kp,by rw [e6]; exact g⟩
  rw [hf] at hen
  have hc:=hev.calls q
  rw [hf] at hc
  refine call_done (by rw [ho]; intro c hc; cases hc) (vs:=(ca.toList ++ args.toList.map a.eval) ++ cc.toList) ?_ hc e6 g hr h2
  have:(ca ++ args.map a.eval) ++ cc=((ca.toList ++ args.toList.map a.eval) ++ cc.toList).toArray:=Array.ext' (by simp)
  simp only [execOp,ho,resolve,hv,Deferred.ofValue,Sem.run_bind,Sem.run_pure,Result.andThen_ok,invoke,run_callFunc' hen,this]
 case y q=>
  obtain ⟨bl,s,n,hq,hv⟩:=hx0
  obtain ⟨f,tmps,as,bd,h1,h2⟩:=hev.yd q m h k kp r φ w _ e2 g hr hm bl s n hq
  intro ro next Q hnx hp
  refine wpIn_of_run (by rw [ho]; intro c hc; cases hc) ?_
  have hargs:(args.map a.eval)=(args.toList.map a.eval).toArray:=Array.ext' (by rw [Array.toList_map])
  have hexec:(execOp a.eval o).run P w=.ok (.round bl f tmps as bd) w:=by
   simp only [execOp,ho,resolve,hv,Deferred.ofValue,Sem.run_bind,Sem.run_pure,Result.andThen_ok,invoke,Array.empty_append,Array.append_empty,hargs]
   exact h1
  rw [hexec,Oper.uponIn_round]
  refine ⟨fun h=>(by cases h),RoundIn.mono (R:=_) (show RoundIn (fen ro) 0 P bl f tmps as bd w _ from h2) fun en w' he=>?_⟩
  obtain ⟨ψ,g',h3,h4,h5⟩:=he
  cases en with
  | returned v=>obtain ⟨y,h6,h7⟩:=h5; exact hnx ψ g' w' y v h6 h3 h4 h7
  | panicked ch=>exact h5.elim
  | outgrown=>exact h5.elim
 all_goals exact (show False from (by subst e2; exact g)).elim
theorem OpOK.nd {x:Op} {ao:AO} (h:OpOK P ng nt x ao):∀ c,x≠.defer c:=by
 intro c e; subst e; cases h
theorem op_done {o:Oper} {ao:AO} (hop:OpOK P ng nt o.op ao) (hev:EvOK P ng ev) (hr:HR P ng φ h w) (ht:TR φ t a.tmps) (hn:nt≤a.tmps.size) (e:op ev ao t h k kp=r) (g:r.good):OpDone P ng o a φ h w k kp r:=by
 have hnd:∀ c,o.op≠.defer c:=hop.nd
 generalize ho:o.op=q at hop
 cases hop with
 | move x b hx=>exact ((op_mv (.inl ho) hx hr ht hn e).fine hr).opDone hnd
 | assign x b hx=>exact ((op_mv (.inr ho) hx hr ht hn e).fine hr).opDone hnd
 | pick x y z b c d hx hy hz=>exact ((op_pick ho hx hy hz hr ht hn e g).fine hr).opDone hnd
 | alloc ty v cs hz hc=>exact (op_al ho hz hc hr e).opDone hnd
 | box ty x b hx=>exact (op_bx ho hx hr ht hn e g).opDone hnd
 | buildS ty ps v cs fs l hz hc hu hs hp=>exact ((op_bd ho hz hc hp (fun us hus=>run_buildS hz hu hs (by rw [Array.toList_map]; exact hus)) hr ht hn e g).fine hr).opDone hnd
 | buildA ty ps v cs n el s l hz hc hu hs hp=>exact ((op_bd ho hz hc hp (fun us hus=>run_buildA hz hu hs (by rw [Array.toList_map]; exact hus)) hr ht hn e g).fine hr).opDone hnd
 | buildSlice ty n ps el s v cs l hu hs hns hz hv hs0 hc hp=>exact (op_bs ho hu hs hns hz hv hc hp hr ht hn e g).opDone hnd
 | load1 ty x b hx ha=>exact ((op_l1 ho hx ha hr ht hn e g).fine hr).opDone hnd
 | loadn ty x b n hx ha hs=>exact ((op_ln ho hx ha hs hr ht hn e g).fine hr).opDone hnd
 | store1 ty x y b c hx hy hs=>exact (op_s1 ho hx hy hs hr ht hn e g).opDone hnd
 | storen ty x y b c n hx hy hs=>exact (op_sn ho hx hy hs hr ht hn e g).opDone hnd
 | nilCheck x b hx=>exact ((op_nk ho hx hr ht hn e g).fine hr).opDone hnd
 | bin b ty x y u c d hx hy=>exact ((op_bi ho hx hy hr ht hn e g).fine hr).opDone hnd
 | str b ty x y u c d hx hy=>exact ((op_bst ho hx hy hr ht hn e g).fine hr).opDone hnd
 | boolE ty x y u c d hx hy hu=>exact ((op_bb ho (.inl ⟨rfl,rfl⟩) hx hy hu hr ht hn e g).fine hr).opDone hnd
 | boolN ty x y u c d hx hy hu=>exact ((op_bb ho (.inr ⟨rfl,rfl⟩) hx hy hu hr ht hn e g).fine hr).opDone hnd
 | nilpE ty x u b d hx hu=>exact ((op_bzp ho (.inl ⟨rfl,rfl⟩) hx hu hr ht hn e g).fine hr).opDone hnd
 | nilpN ty x u b d hx hu=>exact ((op_bzp ho (.inr ⟨rfl,rfl⟩) hx hu hr ht hn e g).fine hr).opDone hnd
 | nilsE ty x u b d hx hu=>exact ((op_bzs ho (.inl ⟨rfl,rfl⟩) hx hu hr ht hn e g).fine hr).opDone hnd
 | nilsN ty x u b d hx hu=>exact ((op_bzs ho (.inr ⟨rfl,rfl⟩) hx hu hr ht hn e g).fine hr).opDone hnd
 | nilmE ty x u b d d' hx hu=>exact ((op_bzm ho (.inl ⟨rfl,rfl⟩) hx hu hr ht hn e g).fine hr).opDone hnd
 | nilmN ty x u b d d' hx hu=>exact ((op_bzm ho (.inr ⟨rfl,rfl⟩) hx hu hr ht hn e g).fine hr).opDone hnd
 | nilfE ty x u b d d' d'' hx hu=>exact ((op_bzf ho (.inl ⟨rfl,rfl⟩) hx hu hr ht hn e g).fine hr).opDone hnd
 | nilfN ty x u b d d' d'' hx hu=>exact ((op_bzf ho (.inr ⟨rfl,rfl⟩) hx hu hr ht hn e g).fine hr).opDone hnd
 | niliE ty x u b d hx hu=>exact ((op_bzi ho (.inl ⟨rfl,rfl⟩) hx hu hr ht hn e g).fine hr).opDone hnd
 | niliN ty x u b d hx hu=>exact ((op_bzi ho (.inr ⟨rfl,rfl⟩) hx hu hr ht hn e g).fine hr).opDone hnd
 | arrE ty x y u b c n el kk hx hy hu he hs hg=>exact ((op_baE ho hx hy hu he hs hg hr ht hn e g).fine hr).opDone hnd
 | arrN ty x y u b c n el kk hx hy hu he hs hg=>exact ((op_baN ho hx hy hu he hs hg hr ht hn e g).fine hr).opDone hnd
 | un u ty x b hx=>exact ((op_un ho hx hr ht hn e g).fine hr).opDone hnd
 | conv s d x b kk kk' hx hs hd=>exact ((op_cv ho hx hs hd hr ht hn e g).fine hr).opDone hnd
 | convSB s d x b el hx hs hd he=>exact (op_csb ho hx hs hd he hr ht hn e g).opDone hnd
 | convBS s d x b el hx hs hd he=>exact ((op_cbs ho hx hs hd he hr ht hn e g).fine hr).opDone hnd
 | mkIface ty x b d hx hu hd=>exact ((op_mi ho hx hu hd hr ht hn e).fine hr).opDone hnd
 | assert x s ty b d v zs hx hu hd hz hc=>exact ((op_ta ho hx hu hd hz hc hr ht hn e g).fine hr).opDone hnd
 | mkFunc fn xs ys b c hx hy=>exact ((op_mf ho hx hy hr ht hn e).fine hr).opDone hnd
 | mkMap ty=>exact (op_mm ho hr e).opDone hnd
 | mapUpdate ty m x y b c d kt et hm hx hy hu sh hsh=>exact (op_mu (.inl ho) hm hx hy hu hsh hr ht hn e g).opDone hnd
 | insert ty m x y b c d kt et hm hx hy hu sh hsh=>exact (op_mu (.inr ho) hm hx hy hu hsh hr ht hn e g).opDone hnd
 | lookup ty m x b c kt et v zs hm hx hu sh hsh hz hc=>exact ((op_lk ho hm hx hu hsh hz hc hr ht hn e g).fine hr).opDone hnd
 | makeSlice ty l c b d el s v zs hl hc hu hs hs0 hb hz hv hcl=>exact (op_ms ho hl hc hu hs hs0 hb hz hv hcl hr ht hn e g).opDone hnd
 | sliceS ty x lo hi b c d hx hl hh hu=>exact ((op_slS ho hx hl hh hu hr ht hn e g).fine hr).opDone hnd
 | slice ty x lo hi b c d el s hx hl hh hu hs=>exact ((op_sl ho hx hl hh hu hs hr ht hn e g).fine hr).opDone hnd
 | slice3 ty x lo hi mx b c d f el s hx hl hh hm hu hs=>exact ((op_sl3 ho hx hl hh hm hu hs hr ht hn e g).fine hr).opDone hnd
 | sliceA ty x lo hi b c d n el s hx hl hh hu hs=>exact ((op_slA ho hx hl hh hu hs hr ht hn e g).fine hr).opDone hnd
 | fieldAddr s x f b fs fd hx hu hf n hs hn0=>exact ((op_fa ho hx hu hf hs hn0 hr ht hn e g).fine hr).opDone hnd
 | field1 s x f b fs fd hx hu hf ha=>exact ((op_fd1 ho hx hu hf ha hr ht hn e g).fine hr).opDone hnd
 | fieldn s x f b fs fd n hx hu hf ha hs=>exact ((op_fdn ho hx hu hf ha hs hr ht hn e g).fine hr).opDone hnd
 | indexAddr ty x i b c el s hx hi hu hs=>exact ((op_ix ho hx hi hu hs hr ht hn e g).fine hr).opDone hnd
 | indexAddrA ty x i b c n el s hx hi hu hs=>exact ((op_ixA ho hx hi hu hs hr ht hn e g).fine hr).opDone hnd
 | indexS ty x i b c hx hi hu=>exact ((op_ixS ho hx hi hu hr ht hn e g).fine hr).opDone hnd
 | indexV ty x i b c n el s hx hi hu hs ha=>exact ((op_ixV ho hx hi hu hs ha hr ht hn e g).fine hr).opDone hnd
 | indexW ty x i b c n el s hx hi hu hs ha=>exact ((op_ixW ho hx hi hu hs ha hr ht hn e g).fine hr).opDone hnd
 | extract x i b hx=>exact ((op_ex ho hx hr ht hn e g).fine hr).opDone hnd
 | callF f args tys p l he hx=>exact op_cf ho he hx hev hr ht hn e g
 | callD x args tys b l hx hl=>exact op_cd ho hx hl hev hr ht hn e g
 | lenS x tys b ty hx hty hu=>exact ((op_lenS ho hx hty hu hr ht hn e g).fine hr).opDone hnd
 | lenL x tys b ty el hx hty hu=>exact ((op_lenL ho hx hty hu hr ht hn e g).fine hr).opDone hnd
 | lenM x tys b ty kt et hx hty hu=>exact ((op_lenM ho hx hty hu hr ht hn e g).fine hr).opDone hnd
 | lenA x tys ty n el hty hu=>exact ((op_lenK ho hty hu hr e).fine hr).opDone hnd
 | cap x tys b ty el hx hty hu=>exact ((op_cap ho hx hty hu hr ht hn e g).fine hr).opDone hnd
 | append x y tys b c ty el s u d hx hy hty hu hs hs0 hb hty' hu' hd v hz hv=>exact (op_ap ho hx hy hty hu hs hs0 hb hty' hu' hd hz hv hr ht hn e g).opDone hnd
 | appendZ x y tys b c ty el s u kk v zs hx hy hty hu hs hs0 hb hty' hu' hz hv hc=>exact (op_apz ho hx hy hty hu hs hs0 hb hty' hu' hz hv hc hr ht hn e g).opDone hnd
 | copy x y tys b c ty el s hx hy hty hu hs hs0=>exact (op_cp ho hx hy hty hu hs hr ht hn e g).opDone hnd
 | max args tys l hx=>exact ((op_mx ho hx hr ht hn e g).fine hr).opDone hnd
 | min args tys l hx=>exact ((op_mn ho hx hr ht hn e g).fine hr).opDone hnd
 | panic x b hx=>
  obtain ⟨y,c,h1,h2,h3⟩:=op_pa ho hx hr ht hn e g
  intro ro next Q _ hp
  refine wpIn_of_run hnd ?_
  rw [h1,Oper.uponIn_panic]
  exact hp φ h w y c h2 hr (.refl _ _ _) h3
 | range ty x b hx hu=>exact (op_rg ho hx hu hr ht hn e g).opDone hnd
 | next x b hx=>exact (op_nx ho hx hr ht hn e g).opDone hnd
 | rangeM ty x b kt et hx hu=>exact (op_rm ho hx hu hr ht hn e g).opDone hnd
 | nextM x b hx=>exact (op_nm ho hx hr ht hn e g).opDone hnd
 | entry x b hx=>exact (op_en ho hx hr ht hn e g).opDone hnd
end
end Go.Am
namespace Go.Am
def TRk (φ:Ph) (t:T) (tm:Array Value) (kt:Pos→Prop):Prop:=∀ p:Pos,kt p→p.val≤tm.size→VR φ (t.get .u p) (tm.getD (p.val - 1) undef)
theorem TR.k {φ:Ph} {t:T} {tm:Array Value} {kt:Pos→Prop} (h:TR φ t tm):TRk φ t tm kt:=fun p _ hp=>h.val p hp
def mkD (D:Nat):Deferred:={ target:=.collected D,args:=#[] }
def MarksOK (lo:Nat) (φ:Ph) (h:H) (w:World) (Ds:List Nat):Prop:=Ds.Nodup∧∀ D∈Ds,lo≤D∧w.heap[D]?=some (.deferred (some []))∧¬ lives φ h D
theorem MarksOK.nil {lo:Nat} {φ:Ph} {h:H} {w:World}:MarksOK lo φ h w []:=⟨List.nodup_nil,fun _ h=>by cases h⟩
theorem MarksOK.ext {lo:Nat} {φ ψ:Ph} {h g:H} {w v:World} {Ds:List Nat} (m:MarksOK lo φ h w Ds) (hx:Ext φ h w ψ g v):MarksOK lo ψ g v Ds:=
 ⟨m.1,fun D hD=>by
  obtain ⟨h1,h2,h3⟩:=m.2 D hD
  have hlt:D < w.heap.size:=(Array.getElem?_eq_some_iff.1 h2).1
  exact ⟨h1,(hx.keep D hlt fun ⟨r,x,a,b,c⟩=>h3 ⟨r,x,a,b,Ob.mine_lives c⟩).trans h2,fun hl=>h3 (hx.live D hlt hl)⟩⟩
theorem MarksOK.app {lo mid:Nat} {φ:Ph} {h:H} {w:World} {Ds Es:List Nat} (m:MarksOK lo φ h w Ds) (n:MarksOK mid φ h w Es) (hlo:lo≤mid) (hlt:∀ D∈Ds,D < mid):MarksOK lo φ h w (Es ++ Ds):=
 ⟨List.nodup_append.2 ⟨n.1,m.1,fun a ha b hb e=>by have:=(n.2 a ha).1; have:=hlt b hb; omega⟩,fun D hD=>by
  rcases List.mem_append.1 hD with hD | hD
  ·obtain ⟨h1,h2⟩:=n.2 D hD; exact ⟨by omega,h2⟩
  ·exact m.2 D hD⟩
def QN (P:Program) (ng nt:Nat) (kt:Pos→Prop) (rd:Bool) (ds:List Deferred) (φ:Ph) (h:H) (w:World) (k:KC) (r:R) (e:Exit) (a:Act) (v:World):Prop:=
 ∃ ψ g t Ds,HR P ng ψ g v∧Ext φ h w ψ g v∧TRk ψ t a.tmps kt∧nt≤a.tmps.size∧(a.defers=Ds.map mkD ++ ds∧MarksOK w.heap.size ψ g v Ds∧(rd=false→Ds=[]))∧match e with
  | .normal=>TR ψ t a.tmps∧k .nm t g=r
  | .exit id=>TR ψ t a.tmps∧k (.ex id) t g=r
  | .ret=>TR ψ t a.tmps∧k .rt t g=r
  | .panic ch=>∃ c y,ch=[{ v:=c,recovered:=false }]∧VR ψ y c∧k (.pn y) t g=r
  | _=>False
section
variable {P:Program} {ng nt:Nat} {φ:Ph} {h:H} {w:World} {t:T} {a:Act} {r:R} {ev:EV} {kt:Pos→Prop}
theorem isB_ok {y:AV} {c:Value} {b:Bool} {ky kn:R} (e:isB y b ky kn=r) (hv:VR φ y c):(c=.bool b∧ky=r)∨((∀ b',c=.bool b'→b'≠b)∧kn=r):=by
 cases y
 case b b'=>
  cases hv
  have hbeq:∀ a b:Bool,beqB a b=(a == b):=fun a b=>by cases a<;>cases b<;>rfl
  rcases kif_ok e with ⟨hb,e1⟩ | ⟨hb,e1⟩
  ·rw [hbeq] at hb
   have hb:b'=b:=by simpa using hb
   subst hb; exact .inl ⟨rfl,e1⟩
  ·rw [hbeq] at hb
   have hb:b'≠b:=by simpa using hb
   exact .inr ⟨fun b'' h=>by cases h; exact hb,e1⟩
 case z=>exact hv.elim
 case c=>exact hv.elim
 case s=>exact .inr ⟨fun _ h=>(by have:=hv.2; rw [h] at this; cases this),e⟩
 case p=>obtain ⟨_,_,_,_,hv⟩:=hv; exact .inr ⟨fun _ h=>(by rw [h] at hv; cases hv),e⟩
 case se=>obtain ⟨_,_,hv⟩:=hv; exact .inr ⟨fun _ h=>(by rw [h] at hv; cases hv),e⟩
 case sl=>obtain ⟨_,_,_,_,_,hv,_⟩:=hv; exact .inr ⟨fun _ h=>(by rw [h] at hv; cases hv),e⟩
 case sk=>obtain ⟨_,_,_,_,hv,_⟩:=hv; exact .inr ⟨fun _ h=>(by rw [h] at hv; cases hv),e⟩
 case m=>obtain ⟨_,_,_,_,hv⟩:=hv; exact .inr ⟨fun _ h=>(by rw [h] at hv; cases hv),e⟩
 case f=>obtain ⟨_,_,hv,_⟩:=hv; exact .inr ⟨fun _ h=>(by rw [h] at hv; cases hv),e⟩
 case ia=>obtain ⟨_,hv,_⟩:=hv; exact .inr ⟨fun _ h=>(by rw [h] at hv; cases hv),e⟩
 case a=>obtain ⟨_,hv,_⟩:=hv; exact .inr ⟨fun _ h=>(by rw [h] at hv; cases hv),e⟩
 case t=>obtain ⟨_,hv,_⟩:=hv; exact .inr ⟨fun _ h=>(by rw [h] at hv; cases hv),e⟩
 case y=>obtain ⟨_,_,_,_,hv⟩:=hv; exact .inr ⟨fun _ h=>(by rw [h] at hv; cases hv),e⟩
 case md=>obtain ⟨_,hv,_⟩:=hv; exact .inr ⟨fun _ h=>(by rw [h] at hv; cases hv),e⟩
 all_goals (cases hv; exact .inr ⟨fun _ h=>(by cases h),e⟩)
theorem wantK_ok {os:Array Oper} {o:Oper} {d:Gd} {ky kn:R} (hg:GdOK nt os o.guard d) (ht:TR φ t a.tmps) (hn:nt≤a.tmps.size) (e:wantK d t ky kn=r):(Region.wanted o (yielded os a.tmps)=true∧ky=r)∨(Region.wanted o (yielded os a.tmps)=false∧kn=r):=by
 unfold Region.wanted
 generalize hgd:o.guard=q at hg
 cases hg with
 | no=>exact .inl ⟨rfl,e⟩
 | on j b o' t' p hj ht' hp hlt=>
  have e1:isB (t.get .u p) b ky kn=r:=(getK_eq _ _ _ _).symm.trans e
  have hv:=ht.val p (by omega)
  rw [hp,Nat.add_sub_cancel] at hv
  have hy:yielded os a.tmps j=(match a.tmps.getD t' undef with | .bool b=>some b | _=>none):=by
   have hs:t' < a.tmps.size:=by omega
   simp [yielded,hj,ht',hs]
   generalize a.tmps[t']=v
   cases v<;>rfl
  rcases isB_ok e1 hv with ⟨h1,e2⟩ | ⟨h1,e2⟩
  ·exact .inl ⟨by simp [hy,h1],e2⟩
  ·refine .inr ⟨?_,e2⟩
   simp only [hy]
   split
   ·rename_i b' hb'
    have:=h1 b' hb'
    simpa using this
   ·rfl
theorem putK_ok {od:Option Tmp} {d:Ds} {y:AV} {c:Value} {f:T→R} (hd:DsOK nt od d) (ht:TR φ t a.tmps) (hn:nt≤a.tmps.size) (hv:VR φ y c) (e:putK d y t f=r):∃ t',TR φ t' (a.put od c).tmps∧nt≤(a.put od c).tmps.size∧(a.put od c).defers=a.defers∧f t'=r:=by
 cases hd with
 | no=>exact ⟨t,ht,hn,rfl,e⟩
 | to n p hp hlt=>
  have e1:f (t.set .u y p)=r:=(setK_eq _ _ _ _ _).symm.trans e
  exact ⟨_,ht.set hv hp (by omega),by simpa [Act.put] using hn,rfl,e1⟩
theorem ops_ok {os:Array Oper} (hev:EvOK P ng ev):∀ {l:List Oper} {ol:OL},OpsOK P ng nt os l ol→∀ (i:Nat),os.toList.drop i=l→∀ (k:T→H→R) (kp:AV→T→H→R) (ro:Option Nat) (Q:Exit→Act→World→Prop) (φ:Ph) (h:H) (w:World) (t:T) (a:Act),
  Am.ops ev ol t h k kp=r→r.good→HR P ng φ h w→TR φ t a.tmps→nt≤a.tmps.size →
  (∀ ψ g v t' a',HR P ng ψ g v→Ext φ h w ψ g v→TR ψ t' a'.tmps→nt≤a'.tmps.size→a'.defers=a.defers→k t' g=r→Q .normal a' v) →
  (∀ ψ g v t' a' c y,HR P ng ψ g v→Ext φ h w ψ g v→TR ψ t' a'.tmps→nt≤a'.tmps.size→a'.defers=a.defers→VR ψ y c→kp y t' g=r→Q (.panic [{ v:=c,recovered:=false }]) a' v) →
  wpOpsIn (fen ro) 0 P os Q (List.range' i l.length) a w
 | [],_,.z,i,_,k,kp,ro,Q,φ,h,w,t,a,e,g,hr,ht,hn,hN,_=>hN φ h w t a hr (.refl _ _ _) ht hn rfl e
 | o :: l,_,.c _ _ d ds ao ol hop hl,i,hi,k,kp,ro,Q,φ,h,w,t,a,e,g,hr,ht,hn,hN,hP=>by
  have hat:os[i]?=some o:=by
   have:=congrArg List.head? hi
   rw [List.head?_drop] at this
   simpa using this
  have hi':os.toList.drop (i + 1)=l:=by rw [← List.drop_drop,hi]; rfl
  rw [List.length_cons,List.range'_succ]
  unfold wpOpsIn
  simp only [hat]
  have e1:wantK d t (op ev ao t h (fun v h=>putK ds v t fun t=>Am.ops ev ol t h k kp) fun v h=>kp v t h) (putK ds .u t fun t=>Am.ops ev ol t h k kp)=r:=e
  rcases wantK_ok hop.guard ht hn e1 with ⟨hw,e2⟩ | ⟨hw,e2⟩
  ·rw [if_pos hw]
   refine op_done hop.op hev hr ht hn e2 g ro _ _ (fun ψ g' v y c hv hr' hx e3=>?_) (fun ψ g' v y c hv hr' hx e3=>?_)
   ·obtain ⟨t',ht',hn',hd',e4⟩:=putK_ok hop.dst (ht.mono hx.mono) hn hv e3
    refine ops_ok hev hl (i + 1) hi' k kp ro Q ψ g' v t' (a.put o.dst c) e4 g hr' ht' hn' (fun χ f u t'' a'' h1 h2 h3 h4 h5 h6=>?_) (fun χ f u t'' a'' c y h1 h2 h3 h4 h5 h6 h7=>?_)
    ·exact hN χ f u t'' a'' h1 (hx.trans h2) h3 h4 (h5.trans hd') h6
    ·exact hP χ f u t'' a'' c y h1 (hx.trans h2) h3 h4 (h5.trans hd') h6 h7
   ·exact hP ψ g' v t a c y hr' hx (ht.mono hx.mono) hn rfl hv e3
  ·rw [if_neg (by rw [hw]; simp)]
   obtain ⟨t',ht',hn',hd',e4⟩:=putK_ok (y:=.u) (c:=undef) hop.dst ht hn rfl e2
   refine ⟨fun _ _=>trivial,?_⟩
   refine ops_ok hev hl (i + 1) hi' k kp ro Q φ h w t' (a.put o.dst undef) e4 g hr ht' hn' (fun χ f u t'' a'' h1 h2 h3 h4 h5 h6=>?_) (fun χ f u t'' a'' c y h1 h2 h3 h4 h5 h6 h7=>?_)
   ·exact hN χ f u t'' a'' h1 h2 h3 h4 (h5.trans hd') h6
   ·exact hP χ f u t'' a'' c y h1 h2 h3 h4 (h5.trans hd') h6 h7
end
end Go.Am
namespace Go.Am
def Agree (l:List Pos) (t t':T):Prop:=∀ p∈l,t.get .u p=t'.get .u p
theorem Agree.left {l m:List Pos} {t t':T} (h:Agree (l ++ m) t t'):Agree l t t':=fun p hp=>h p (List.mem_append_left _ hp)
theorem Agree.right {l m:List Pos} {t t':T} (h:Agree (l ++ m) t t'):Agree m t t':=fun p hp=>h p (List.mem_append_right _ hp)
theorem aval_congr {x:Ar} {t t':T} (h:Agree (arT x) t t'):aval x t=aval x t':=by
 funext f
 cases x with
 | t p=>
  show getK .u p t f=getK .u p t' f
  rw [getK_eq,getK_eq,h p (by simp [arT])]
 | k v=>rfl
theorem avals_congr:∀ {x:ArL} {t t':T},Agree (arlT x) t t'→avals x t=avals x t'
 | .z,_,_,_=>rfl
 | .c x l,t,t',h=>by
  funext f
  show (aval x t fun v=>avals l t fun r=>f (.c v r))=(aval x t' fun v=>avals l t' fun r=>f (.c v r))
  rw [aval_congr h.left,avals_congr h.right]
theorem fill_congr:∀ {x:PaL} {t t':T},Agree (palT x) t t'→fill x t=fill x t'
 | .z,_,_,_=>rfl
 | .c o n x l,t,t',h=>by
  funext cs f
  show (aval x t fun v=>vcells v fun l'=>lng l' fun m=>kif (Nat.beq m n) (spl o l' cs fun cs=>fill l t cs f) (.fail 60))=(aval x t' fun v=>vcells v fun l'=>lng l' fun m=>kif (Nat.beq m n) (spl o l' cs fun cs=>fill l t' cs f) (.fail 60))
  rw [aval_congr h.left,fill_congr h.right]
theorem op_congr {ao:AO} {t t':T} (h:Agree (opT ao) t t') (ev:EV) (hp:H) (k kp:K):op ev ao t hp k kp=op ev ao t' hp k kp:=by
 cases ao with
 | mv a_x=>show o_mv a_x ev t hp k kp=o_mv a_x ev t' hp k kp; unfold o_mv; rw [aval_congr h]
 | bx a_x=>show o_bx a_x ev t hp k kp=o_bx a_x ev t' hp k kp; unfold o_bx; rw [aval_congr h]
 | l1 a_x=>show o_l1 a_x ev t hp k kp=o_l1 a_x ev t' hp k kp; unfold o_l1; rw [aval_congr h]
 | ln a_x a_n=>show o_ln a_x a_n ev t hp k kp=o_ln a_x a_n ev t' hp k kp; unfold o_ln; rw [aval_congr h]
 | nk a_x=>show o_nk a_x ev t hp k kp=o_nk a_x ev t' hp k kp; unfold o_nk; rw [aval_congr h]
 | bzp a_b a_x=>show o_bzp a_b a_x ev t hp k kp=o_bzp a_b a_x ev t' hp k kp; unfold o_bzp; rw [aval_congr h]
 | bzs a_b a_x=>show o_bzs a_b a_x ev t hp k kp=o_bzs a_b a_x ev t' hp k kp; unfold o_bzs; rw [aval_congr h]
 | bzm a_b a_x=>show o_bzm a_b a_x ev t hp k kp=o_bzm a_b a_x ev t' hp k kp; unfold o_bzm; rw [aval_congr h]
 | bzf a_b a_x=>show o_bzf a_b a_x ev t hp k kp=o_bzf a_b a_x ev t' hp k kp; unfold o_bzf; rw [aval_congr h]
 | bzi a_b a_x=>show o_bzi a_b a_x ev t hp k kp=o_bzi a_b a_x ev t' hp k kp; unfold o_bzi; rw [aval_congr h]
 | un a_u a_x=>show o_un a_u a_x ev t hp k kp=o_un a_u a_x ev t' hp k kp; unfold o_un; rw [aval_congr h]
 | cv a_c a_x=>show o_cv a_c a_x ev t hp k kp=o_cv a_c a_x ev t' hp k kp; unfold o_cv; rw [aval_congr h]
 | csb a_x=>show o_csb a_x ev t hp k kp=o_csb a_x ev t' hp k kp; unfold o_csb; rw [aval_congr h]
 | cbs a_x=>show o_cbs a_x ev t hp k kp=o_cbs a_x ev t' hp k kp; unfold o_cbs; rw [aval_congr h]
 | mi a_i a_x=>show o_mi a_i a_x ev t hp k kp=o_mi a_i a_x ev t' hp k kp; unfold o_mi; rw [aval_congr h]
 | ta a_i a_z a_x=>show o_ta a_i a_z a_x ev t hp k kp=o_ta a_i a_z a_x ev t' hp k kp; unfold o_ta; rw [aval_congr h]
 | fa a_x a_o=>show o_fa a_x a_o ev t hp k kp=o_fa a_x a_o ev t' hp k kp; unfold o_fa; rw [aval_congr h]
 | fd1 a_x a_o=>show o_fd1 a_x a_o ev t hp k kp=o_fd1 a_x a_o ev t' hp k kp; unfold o_fd1; rw [aval_congr h]
 | fdn a_x a_o a_n=>show o_fdn a_x a_o a_n ev t hp k kp=o_fdn a_x a_o a_n ev t' hp k kp; unfold o_fdn; rw [aval_congr h]
 | ex a_x a_i=>show o_ex a_x a_i ev t hp k kp=o_ex a_x a_i ev t' hp k kp; unfold o_ex; rw [aval_congr h]
 | lens a_x=>show o_lens a_x ev t hp k kp=o_lens a_x ev t' hp k kp; unfold o_lens; rw [aval_congr h]
 | lenl a_x=>show o_lenl a_x ev t hp k kp=o_lenl a_x ev t' hp k kp; unfold o_lenl; rw [aval_congr h]
 | lenm a_x=>show o_lenm a_x ev t hp k kp=o_lenm a_x ev t' hp k kp; unfold o_lenm; rw [aval_congr h]
 | cap a_x=>show o_cap a_x ev t hp k kp=o_cap a_x ev t' hp k kp; unfold o_cap; rw [aval_congr h]
 | pa a_x=>show o_pa a_x ev t hp k kp=o_pa a_x ev t' hp k kp; unfold o_pa; rw [aval_congr h]
 | rg a_x=>show o_rg a_x ev t hp k kp=o_rg a_x ev t' hp k kp; unfold o_rg; rw [aval_congr h]
 | nx a_x=>show o_nx a_x ev t hp k kp=o_nx a_x ev t' hp k kp; unfold o_nx; rw [aval_congr h]
 | rm a_x=>show o_rm a_x ev t hp k kp=o_rm a_x ev t' hp k kp; unfold o_rm; rw [aval_congr h]
 | nm a_x=>show o_nm a_x ev t hp k kp=o_nm a_x ev t' hp k kp; unfold o_nm; rw [aval_congr h]
 | en a_x=>show o_en a_x ev t hp k kp=o_en a_x ev t' hp k kp; unfold o_en; rw [aval_congr h]
 | s1 a_x a_v=>show o_s1 a_x a_v ev t hp k kp=o_s1 a_x a_v ev t' hp k kp; unfold o_s1; rw [aval_congr h.left,aval_congr h.right]
 | sn a_x a_v a_n=>show o_sn a_x a_v a_n ev t hp k kp=o_sn a_x a_v a_n ev t' hp k kp; unfold o_sn; rw [aval_congr h.left,aval_congr h.right]
 | bi a_b a_x a_v=>show o_bi a_b a_x a_v ev t hp k kp=o_bi a_b a_x a_v ev t' hp k kp; unfold o_bi; rw [aval_congr h.left,aval_congr h.right]
 | bst a_b a_x a_v=>show o_bst a_b a_x a_v ev t hp k kp=o_bst a_b a_x a_v ev t' hp k kp; unfold o_bst; rw [aval_congr h.left,aval_congr h.right]
 | bb a_b a_x a_v=>show o_bb a_b a_x a_v ev t hp k kp=o_bb a_b a_x a_v ev t' hp k kp; unfold o_bb; rw [aval_congr h.left,aval_congr h.right]
 | ba a_b a_n a_x a_v=>show o_ba a_b a_n a_x a_v ev t hp k kp=o_ba a_b a_n a_x a_v ev t' hp k kp; unfold o_ba; rw [aval_congr h.left,aval_congr h.right]
 | ix a_e a_x a_v=>show o_ix a_e a_x a_v ev t hp k kp=o_ix a_e a_x a_v ev t' hp k kp; unfold o_ix; rw [aval_congr h.left,aval_congr h.right]
 | ixA a_n a_e a_x a_v=>show o_ixA a_n a_e a_x a_v ev t hp k kp=o_ixA a_n a_e a_x a_v ev t' hp k kp; unfold o_ixA; rw [aval_congr h.left,aval_congr h.right]
 | ixS a_x a_v=>show o_ixS a_x a_v ev t hp k kp=o_ixS a_x a_v ev t' hp k kp; unfold o_ixS; rw [aval_congr h.left,aval_congr h.right]
 | ixV a_n a_e a_x a_v=>show o_ixV a_n a_e a_x a_v ev t hp k kp=o_ixV a_n a_e a_x a_v ev t' hp k kp; unfold o_ixV; rw [aval_congr h.left,aval_congr h.right]
 | ixW a_n a_e a_x a_v=>show o_ixW a_n a_e a_x a_v ev t hp k kp=o_ixW a_n a_e a_x a_v ev t' hp k kp; unfold o_ixW; rw [aval_congr h.left,aval_congr h.right]
 | ap a_e a_x a_v=>show o_ap a_e a_x a_v ev t hp k kp=o_ap a_e a_x a_v ev t' hp k kp; unfold o_ap; rw [aval_congr h.left,aval_congr h.right]
 | apz a_z a_e a_x a_v=>show o_apz a_z a_e a_x a_v ev t hp k kp=o_apz a_z a_e a_x a_v ev t' hp k kp; unfold o_apz; rw [aval_congr h.left,aval_congr h.right]
 | cp a_e a_x a_v=>show o_cp a_e a_x a_v ev t hp k kp=o_cp a_e a_x a_v ev t' hp k kp; unfold o_cp; rw [aval_congr h.left,aval_congr h.right]
 | ms a_z a_e a_x a_v=>show o_ms a_z a_e a_x a_v ev t hp k kp=o_ms a_z a_e a_x a_v ev t' hp k kp; unfold o_ms; rw [aval_congr h.left,aval_congr h.right]
 | lk a_s a_x a_v a_z=>show o_lk a_s a_x a_v a_z ev t hp k kp=o_lk a_s a_x a_v a_z ev t' hp k kp; unfold o_lk; rw [aval_congr h.left,aval_congr h.right]
 | pick a_c a_x a_v=>show o_pick a_c a_x a_v ev t hp k kp=o_pick a_c a_x a_v ev t' hp k kp; unfold o_pick; rw [aval_congr h.left,aval_congr h.right.left,aval_congr h.right.right]
 | mu a_s a_c a_x a_v=>show o_mu a_s a_c a_x a_v ev t hp k kp=o_mu a_s a_c a_x a_v ev t' hp k kp; unfold o_mu; rw [aval_congr h.left,aval_congr h.right.left,aval_congr h.right.right]
 | slS a_c a_x a_v=>show o_slS a_c a_x a_v ev t hp k kp=o_slS a_c a_x a_v ev t' hp k kp; unfold o_slS; rw [aval_congr h.left,aval_congr h.right.left,aval_congr h.right.right]
 | sl a_e a_c a_x a_v=>show o_sl a_e a_c a_x a_v ev t hp k kp=o_sl a_e a_c a_x a_v ev t' hp k kp; unfold o_sl; rw [aval_congr h.left,aval_congr h.right.left,aval_congr h.right.right]
 | slA a_n a_e a_c a_x a_v=>show o_slA a_n a_e a_c a_x a_v ev t hp k kp=o_slA a_n a_e a_c a_x a_v ev t' hp k kp; unfold o_slA; rw [aval_congr h.left,aval_congr h.right.left,aval_congr h.right.right]
 | sl3 a_e a_x a_lo a_hi a_mx=>show o_sl3 a_e a_x a_lo a_hi a_mx ev t hp k kp=o_sl3 a_e a_x a_lo a_hi a_mx ev t' hp k kp; unfold o_sl3; rw [aval_congr h.left,aval_congr h.right.left,aval_congr h.right.right.left,aval_congr h.right.right.right]
 | al a_c=>rfl
 | mm=>rfl
 | lenK a_n=>rfl
 | bd a_z a_ps=>show o_bd a_z a_ps ev t hp k kp=o_bd a_z a_ps ev t' hp k kp; unfold o_bd; rw [fill_congr h]
 | bs a_z a_n a_e a_ps=>show o_bs a_z a_n a_e a_ps ev t hp k kp=o_bs a_z a_n a_e a_ps ev t' hp k kp; unfold o_bs; rw [fill_congr h]
 | mf a_fn a_a a_b=>show o_mf a_fn a_a a_b ev t hp k kp=o_mf a_fn a_a a_b ev t' hp k kp; unfold o_mf; rw [avals_congr h.left,avals_congr h.right]
 | cf a_f a_l=>show o_cf a_f a_l ev t hp k kp=o_cf a_f a_l ev t' hp k kp; unfold o_cf; rw [avals_congr h]
 | mx a_l=>show o_mx a_l ev t hp k kp=o_mx a_l ev t' hp k kp; unfold o_mx; rw [avals_congr h]
 | mn a_l=>show o_mn a_l ev t hp k kp=o_mn a_l ev t' hp k kp; unfold o_mn; rw [avals_congr h]
 | cd a_f a_l=>show o_cd a_f a_l ev t hp k kp=o_cd a_f a_l ev t' hp k kp; unfold o_cd; rw [aval_congr h.left,avals_congr h.right]
section
variable {P:Program} {ng nt:Nat} {φ:Ph} {h:H} {w:World} {t:T} {a:Act} {k kp:K} {r:R} {ev:EV}
theorem op_still {o:Oper} {ao:AO} (hop:OpOK P ng nt o.op ao) (hq:quiet ao=true) (hr:HR P ng φ h w) (ht:TR φ t a.tmps) (hn:nt≤a.tmps.size) (e:op ev ao t h k kp=r) (g:r.good):Still P (execOp a.eval o) φ h w k r:=by
 generalize ho:o.op=q at hop
 cases hop with
 | move x b hx=>exact op_mv (.inl ho) hx hr ht hn e
 | assign x b hx=>exact op_mv (.inr ho) hx hr ht hn e
 | pick x y z b c d hx hy hz=>exact op_pick ho hx hy hz hr ht hn e g
 | alloc=>cases hq
 | box=>cases hq
 | buildS ty ps v cs fs l hz hc hu hs hp=>exact op_bd ho hz hc hp (fun us hus=>run_buildS hz hu hs (by rw [Array.toList_map]; exact hus)) hr ht hn e g
 | buildA ty ps v cs n el s l hz hc hu hs hp=>exact op_bd ho hz hc hp (fun us hus=>run_buildA hz hu hs (by rw [Array.toList_map]; exact hus)) hr ht hn e g
 | buildSlice=>cases hq
 | load1 ty x b hx ha=>exact op_l1 ho hx ha hr ht hn e g
 | loadn ty x b n hx ha hs=>exact op_ln ho hx ha hs hr ht hn e g
 | store1=>cases hq
 | storen=>cases hq
 | nilCheck x b hx=>exact op_nk ho hx hr ht hn e g
 | bin b ty x y u c d hx hy=>exact op_bi ho hx hy hr ht hn e g
 | str b ty x y u c d hx hy=>exact op_bst ho hx hy hr ht hn e g
 | boolE ty x y u c d hx hy hu=>exact op_bb ho (.inl ⟨rfl,rfl⟩) hx hy hu hr ht hn e g
 | boolN ty x y u c d hx hy hu=>exact op_bb ho (.inr ⟨rfl,rfl⟩) hx hy hu hr ht hn e g
 | nilpE ty x u b d hx hu=>exact op_bzp ho (.inl ⟨rfl,rfl⟩) hx hu hr ht hn e g
 | nilpN ty x u b d hx hu=>exact op_bzp ho (.inr ⟨rfl,rfl⟩) hx hu hr ht hn e g
 | nilsE ty x u b d hx hu=>exact op_bzs ho (.inl ⟨rfl,rfl⟩) hx hu hr ht hn e g
 | nilsN ty x u b d hx hu=>exact op_bzs ho (.inr ⟨rfl,rfl⟩) hx hu hr ht hn e g
 | nilmE ty x u b d d' hx hu=>exact op_bzm ho (.inl ⟨rfl,rfl⟩) hx hu hr ht hn e g
 | nilmN ty x u b d d' hx hu=>exact op_bzm ho (.inr ⟨rfl,rfl⟩) hx hu hr ht hn e g
 | nilfE ty x u b d d' d'' hx hu=>exact op_bzf ho (.inl ⟨rfl,rfl⟩) hx hu hr ht hn e g
 | nilfN ty x u b d d' d'' hx hu=>exact op_bzf ho (.inr ⟨rfl,rfl⟩) hx hu hr ht hn e g
 | niliE ty x u b d hx hu=>exact op_bzi ho (.inl ⟨rfl,rfl⟩) hx hu hr ht hn e g
 | niliN ty x u b d hx hu=>exact op_bzi ho (.inr ⟨rfl,rfl⟩) hx hu hr ht hn e g
 | arrE ty x y u b c n el kk hx hy hu he hs hg=>exact op_baE ho hx hy hu he hs hg hr ht hn e g
 | arrN ty x y u b c n el kk hx hy hu he hs hg=>exact op_baN ho hx hy hu he hs hg hr ht hn e g
 | un u ty x b hx=>exact op_un ho hx hr ht hn e g
 | conv s d x b kk kk' hx hs hd=>exact op_cv ho hx hs hd hr ht hn e g
 | convSB=>cases hq
 | convBS s d x b el hx hs hd he=>exact op_cbs ho hx hs hd he hr ht hn e g
 | mkIface ty x b d hx hu hd=>exact op_mi ho hx hu hd hr ht hn e
 | assert x s ty b d v zs hx hu hd hz hc=>exact op_ta ho hx hu hd hz hc hr ht hn e g
 | mkFunc fn xs ys b c hx hy=>exact op_mf ho hx hy hr ht hn e
 | mkMap=>cases hq
 | mapUpdate=>cases hq
 | insert=>cases hq
 | lookup ty m x b c kt et v zs hm hx hu sh hsh hz hc=>exact op_lk ho hm hx hu hsh hz hc hr ht hn e g
 | makeSlice=>cases hq
 | sliceS ty x lo hi b c d hx hl hh hu=>exact op_slS ho hx hl hh hu hr ht hn e g
 | slice ty x lo hi b c d el s hx hl hh hu hs=>exact op_sl ho hx hl hh hu hs hr ht hn e g
 | slice3 ty x lo hi mx b c d f el s hx hl hh hm hu hs=>exact op_sl3 ho hx hl hh hm hu hs hr ht hn e g
 | sliceA ty x lo hi b c d n el s hx hl hh hu hs=>exact op_slA ho hx hl hh hu hs hr ht hn e g
 | fieldAddr s x f b fs fd hx hu hf n hs hn0=>exact op_fa ho hx hu hf hs hn0 hr ht hn e g
 | field1 s x f b fs fd hx hu hf ha=>exact op_fd1 ho hx hu hf ha hr ht hn e g
 | fieldn s x f b fs fd n hx hu hf ha hs=>exact op_fdn ho hx hu hf ha hs hr ht hn e g
 | indexAddr ty x i b c el s hx hi hu hs=>exact op_ix ho hx hi hu hs hr ht hn e g
 | indexAddrA ty x i b c n el s hx hi hu hs=>exact op_ixA ho hx hi hu hs hr ht hn e g
 | indexS ty x i b c hx hi hu=>exact op_ixS ho hx hi hu hr ht hn e g
 | indexV ty x i b c n el s hx hi hu hs ha=>exact op_ixV ho hx hi hu hs ha hr ht hn e g
 | indexW ty x i b c n el s hx hi hu hs ha=>exact op_ixW ho hx hi hu hs ha hr ht hn e g
 | extract x i b hx=>exact op_ex ho hx hr ht hn e g
 | callF=>cases hq
 | callD=>cases hq
 | lenS x tys b ty hx hty hu=>exact op_lenS ho hx hty hu hr ht hn e g
 | lenL x tys b ty el hx hty hu=>exact op_lenL ho hx hty hu hr ht hn e g
 | lenM x tys b ty kt et hx hty hu=>exact op_lenM ho hx hty hu hr ht hn e g
 | lenA x tys ty n el hty hu=>exact op_lenK ho hty hu hr e
 | cap x tys b ty el hx hty hu=>exact op_cap ho hx hty hu hr ht hn e g
 | append=>cases hq
 | appendZ=>cases hq
 | copy=>cases hq
 | max args tys l hx=>exact op_mx ho hx hr ht hn e g
 | min args tys l hx=>exact op_mn ho hx hr ht hn e g
 | panic=>cases hq
 | range=>cases hq
 | next=>cases hq
 | rangeM=>cases hq
 | nextM=>cases hq
 | entry=>cases hq
theorem onR_ok {x:R} {f:AV→R} (e:onR x f=r) (g:r.good):∃ y g',x=.ok y g'∧f y=r:=by
 cases x with
 | fail n=>exact (show False from (by subst e; exact g)).elim
 | ok v h=>exact ⟨v,h,rfl,e⟩
 | pan v h=>exact (show False from (by subst e; exact g)).elim
end
end Go.Am
namespace Go.Am
section
variable {P:Program} {ng nt:Nat} {φ φ0:Ph} {h h0:H} {w w0 w':World} {t:T} {a:Act} {r:R}
def H.skip (h:H):H:=⟨h.nx.suc,h.t⟩
theorem rsv_eq (h:H) (k:Pos→H→R):rsv h k=k h.nx h.skip:=by
 show sucK h.nx _=_
 rw [sucK_eq]; rfl
theorem H.get_skip (h:H) (q:Pos):h.skip.get q=h.get q:=rfl
theorem HR.next_dead (k:HR P ng φ h w):h.get h.nx=.dead:=Classical.byContradiction fun hd=>by
 obtain ⟨y,hy,_⟩:=k.obj _ hd
 rw [k.fresh] at hy; cases hy
theorem HR.skip (k:HR P ng φ h w):HR P ng φ h.skip w:=
 ⟨k.obj,k.inj,fun q x hx=>by
  have:=k.dom q x hx
  show q.val < h.nx.suc.val
  rw [Pos.suc_val]; omega,k.bnd,k.glob,by
  have:=k.gone
  show ng < h.nx.suc.val
  rw [Pos.suc_val]; omega⟩
theorem Ext.skip (k:Ext φ0 h0 w0 φ h w):Ext φ0 h0 w0 φ h.skip w:=
 ⟨k.mono,k.size,k.tape,k.os,k.output,k.own,k.keep,by
  have:=k.nx
  show h0.nx.val≤h.nx.suc.val
  rw [Pos.suc_val]; omega,k.old,k.live⟩
theorem Ph.add_ne {q r:Pos} {x:Nat × Nat × Nat} (h:r≠q):φ.add q x r=φ r:=by unfold Ph.add; rw [if_neg h]
theorem Ph.le_add_none {q:Pos} {x:Nat × Nat × Nat} (h:φ q=none):φ.le (φ.add q x):=fun r y hy=>by
 by_cases e:r=q
 ·subst e; rw [h] at hy; cases hy
 ·rw [Ph.add_ne e]; exact hy
theorem HR.mark (k:HR P ng φ h w) {q:Pos} {s n:Nat} {b:Obj} (hq:q.val < h.nx.val) (hn:φ q=none) (hd:h.get q=.dead):HR P ng (φ.add q (w.heap.size,s,n)) h { w with heap:=w.heap.push b }:=by
 have hold:∀ c,c < w.heap.size→(w.heap.push b)[c]?=w.heap[c]?:=fun c hc=>by rw [Array.getElem?_push,if_neg (by omega)]
 refine ⟨fun r hr=>?_,fun r p y z hrm hpd hy hz e=>?_,fun r y hy=>?_,fun r y hy=>?_,fun r hr=>?_,k.gone⟩
 ·obtain ⟨y,hy,oy⟩:=k.obj r hr
  refine ⟨y,Ph.le_add_none hn _ _ hy,(oy.mono (Ph.le_add_none hn)).same (hold _ (k.bnd _ _ hy))⟩
 ·have h1:r≠q:=fun e'=>by subst e'; rw [hd] at hrm; exact hrm
  have h2:p≠q:=fun e'=>by subst e'; exact hpd hd
  rw [Ph.add_ne h1] at hy
  rw [Ph.add_ne h2] at hz
  exact k.inj r p y z hrm hpd hy hz e
 ·by_cases e:r=q
  ·subst e; exact hq
  ·rw [Ph.add_ne e] at hy; exact k.dom r y hy
 ·show y.1 < (w.heap.push b).size
  by_cases e:r=q
  ·subst e; rw [Ph.add_same] at hy; cases hy; simp
  ·rw [Ph.add_ne e] at hy; have:=k.bnd r y hy; simp; omega
 ·obtain ⟨m,hm⟩:=k.glob r hr
  exact ⟨m,Ph.le_add_none hn _ _ hm⟩
theorem Ext.mark (k:Ext φ0 h0 w0 φ h w) {q:Pos} {s n:Nat} {b:Obj} (hq:h0.nx.val≤q.val) (hn:φ q=none) (hd:h.get q=.dead):Ext φ0 h0 w0 (φ.add q (w.heap.size,s,n)) h { w with heap:=w.heap.push b }:=by
 have hsz:=k.size
 refine ⟨Ph.le_trans k.mono (Ph.le_add_none hn),by simp; omega,k.tape,k.os,k.output,fun c hc ⟨r,y,hy,e,hm⟩=>?_,fun c hc hno=>?_,k.nx,fun r hr=>?_,fun c hc ⟨r,y,hy,e,hm⟩=>?_⟩
 ·have h1:r≠q:=fun e'=>by subst e'; rw [hd] at hm; exact hm
  rw [Ph.add_ne h1] at hy
  exact k.own c hc ⟨r,y,hy,e,hm⟩
 ·show (w.heap.push b)[c]?=_
  rw [Array.getElem?_push,if_neg (by omega)]
  exact k.keep c hc hno
 ·rw [Ph.add_ne fun e=>by subst e; omega]
  exact k.old r hr
 ·have h1:r≠q:=fun e'=>by subst e'; exact hm hd
  rw [Ph.add_ne h1] at hy
  exact k.live c hc ⟨r,y,hy,e,hm⟩
theorem HR.back (k:HR P ng φ h w) {q:Pos} {b s n:Nat} {cs:AV} {vs:List Value} (hq:φ q=some (b,s,n)) (hd:h.get q=.dead) (hrow:RowAt w (b,s,n) vs) (hl:LR φ cs vs) (hno:¬ lives φ h b):HR P ng φ (h.put q (.row cs)) w:=by
 have _:=hd
 refine ⟨fun r hr=>?_,fun r p y z hrm hpd hy hz e=>?_,k.dom,k.bnd,k.glob,k.gone⟩
 ·rw [H.get_put] at hr ⊢
  by_cases e:r=q
  ·subst e; rw [if_pos rfl]; exact ⟨_,hq,vs,hl,hrow⟩
  ·rw [if_neg e] at hr ⊢; exact k.obj r hr
 ·rw [H.get_put] at hrm hpd
  by_cases e1:r=q
  ·by_cases e2:p=q
   ·rw [e1,e2]
   ·rw [if_neg e2] at hpd
    subst e1
    rw [hq] at hy; cases hy
    exact absurd ⟨p,z,hz,e.symm,hpd⟩ hno
  ·rw [if_neg e1] at hrm
   by_cases e2:p=q
   ·subst e2
    rw [hq] at hz; cases hz
    exact absurd ⟨r,y,hy,e,Ob.mine_lives hrm⟩ hno
   ·rw [if_neg e2] at hpd
    exact k.inj r p y z hrm hpd hy hz e
theorem Ext.back (k:Ext φ0 h0 w0 φ h w) {q:Pos} {b s n:Nat} {cs:AV} (hq:φ q=some (b,s,n)) (hb:w0.heap.size≤b):Ext φ0 h0 w0 φ (h.put q (.row cs)) w:=by
 refine ⟨k.mono,k.size,k.tape,k.os,k.output,fun c hc ⟨r,y,hy,e,hm⟩=>?_,k.keep,k.nx,k.old,fun c hc ⟨r,y,hy,e,hm⟩=>?_⟩
 ·rw [H.get_put] at hm
  split at hm
  ·rename_i e'; subst e'; rw [hq] at hy; cases hy; change b=c at e; omega
  ·exact k.own c hc ⟨r,y,hy,e,hm⟩
 ·rw [H.get_put] at hm
  split at hm
  ·rename_i e'; subst e'; rw [hq] at hy; cases hy; change b=c at e; omega
  ·exact k.live c hc ⟨r,y,hy,e,hm⟩
theorem Ext.row (k:Ext φ0 h0 w0 φ h w) {x:Nat × Nat × Nat} {vs:List Value} (hno:¬ lives φ0 h0 x.1) (hlt:x.1 < w0.heap.size) (hrow:RowAt w0 x vs):RowAt w x vs∧¬ lives φ h x.1:=by
 refine ⟨?_,fun hl=>hno (k.live _ hlt hl)⟩
 have:=k.keep x.1 hlt fun ⟨r,y,hy,e,hm⟩=>hno ⟨r,y,hy,e,Ob.mine_lives hm⟩
 unfold RowAt at *
 rw [this]; exact hrow
theorem trie_back (t t0:T):∀ (ps:List Pos),∃ t':T,∀ p,t'.get .u p=if p∈ps then t0.get .u p else t.get .u p
 | []=>⟨t,fun p=>by simp⟩
 | q :: ps=>by
  obtain ⟨t',ht⟩:=trie_back t t0 ps
  refine ⟨t'.set .u (t0.get .u q) q,fun p=>?_⟩
  rw [PT.get_set,ht]
  by_cases e:p=q
  ·subst e; simp
  ·simp [e]
end
end Go.Am
namespace Go.Am
def Closed (os:Array Oper) (L:Array Bool):Prop:=∀ x y,L.getD y false=true→Bef os x y→L.getD x false=true
theorem ready_bef {os:Array Oper} {L:Array Bool} {i:Nat} (hc:Closed os L) (hi:i∈Region.ready .any os L):∀ x,Bef os x i→L.getD x false=true:=by
 intro x hb
 obtain ⟨_,o,ho,hall⟩:=mem_ready.1 hi
 have key:∀ x y,Bef os x y→y=i→L.getD x false=true:=by
  intro x y hb
  induction hb with
  | edge y o' e hy he hbi=>intro hyi; subst hyi; rw [ho] at hy; cases hy; exact hall e he hbi
  | trans x y z h k _ ih2=>intro hz; exact hc x y (ih2 hz) h
 exact key x i hb rfl
theorem Closed.add {os:Array Oper} {L:Array Bool} {i:Nat} (hc:Closed os L) (hi:i∈Region.ready .any os L):Closed os (L.setIfInBounds i true):=by
 intro x y hy hb
 by_cases h:i=y
 ·subst h
  exact getD_set_true (ready_bef hc hi x hb)
 ·rw [getD_set_ne false h] at hy
  exact getD_set_true (hc x y hy hb)
section
variable {P:Program} {ng nt:Nat} {φ:Ph} {h:H} {w:World} {t:T} {a:Act} {r:R} {ev:EV}
theorem quiet_step {o:Oper} {ao:AO} {y:AV} {g':H} (hop:OpOK P ng nt o.op ao) (hq:quiet ao=true) (hr:HR P ng φ h w) (ht:TR φ t a.tmps) (hn:nt≤a.tmps.size) (e:op ev ao t h .ok .pan=.ok y g') :
  ∃ c,(execOp a.eval o).run P w=.ok (.value c) w∧VR φ y c:=by
 obtain ⟨y',c,h1,h2,h3⟩:=op_still (kp:=.pan) hop hq hr ht hn e trivial
 cases h3
 exact ⟨c,h1,h2⟩
def akV:AK→Pos→AV
 | .a _,q=>.p q 0
 | .s n _ _,q=>.sk q 0 n n
def akC (ak:AK) (t:T) (cs:AV):Prop:=match ak with
 | .a c=>cs=c
 | .s _ zq ps=>∀ h,fill ps t zq (fun cs=>.ok cs h)=.ok cs h
theorem alloc_step {o:Oper} {ak:AK} {cs:AV} {q:Pos} (hop:AlOK P ng nt o.op ak) (hr:HR P ng φ h w) (ht:TR φ t a.tmps) (hn:nt≤a.tmps.size) (hc:akC ak t cs) :
  ∃ c b n vs,(execOp a.eval o).run P w=.ok (.value c) { w with heap:=w.heap.push b }∧VR (φ.add q (w.heap.size,0,n)) (akV ak q) c∧LR φ cs vs∧RowAt { w with heap:=w.heap.push b } (w.heap.size,0,n) vs:=by
 have row:∀ (vs:List Value) (e:TypeId),RowAt { w with heap:=w.heap.push (.cells vs.toArray e) } (w.heap.size,0,vs.length) vs:=fun vs e=>
  ⟨vs.toArray,e,(0,0),by simp,by simp,by simp,fun i v hv=>by simpa using hv,.inl (Nat.le_refl _)⟩
 generalize ho:o.op=oo at hop
 cases hop with
 | al ty v c hz hcl=>
  have hcs:cs=c:=hc
  subst hcs
  refine ⟨.pointer (some ⟨w.heap.size,0,none⟩),.cells v.cells ty,v.cells.toList.length,v.cells.toList,?_,⟨w.heap.size,0,_,Ph.add_same _ _ _,rfl⟩,hcl φ,row v.cells.toList ty⟩
  simp [execOp,ho,Instr.alloc,run_zeroValue' hz,newVar,newRow]
 | bs ty n ps el s v c l hu hs hns hz hv hcl hp=>
  obtain ⟨cs',us,h1,h2,e1⟩:=fill_ok hp hr ht hn (f:=fun cs=>.ok cs h) (hc h) trivial (vs:=(List.replicate n v.cells.toList).flatten.toArray) (hcl φ)
  cases e1
  exact ⟨.slice (some ⟨w.heap.size,0,none⟩) n n,.cells us el,us.toList.length,us.toList,run_bs ho hu hs hns hz hv h1,⟨w.heap.size,0,_,Ph.add_same _ _ _,rfl,Nat.le_refl _⟩,h2,row us.toList el⟩
end
end Go.Am
namespace Go.Am
section
variable (os:Array Oper)
def Pend (pre:Its) (L:Array Bool) (i:Nat):Prop:=inD pre i∧L.getD i false=false
def PendT (pre:Its) (L:Array Bool) (p:Pos):Prop:=∃ i,Pend pre L i∧isW os i p
end
def wants (g:Gd) (t:T):Bool:=match g with
 | .no=>true
 | .on p b=>match t.get .u p with
  | .b c=>c == b
  | _=>false
theorem wantK_eq (g:Gd) (t:T) (ky kn:R):wantK g t ky kn=if wants g t then ky else kn:=by
 cases g with
 | no=>rfl
 | on p b=>
  show getK .u p t (fun v=>isB v b ky kn)=_
  rw [getK_eq]
  rw [show wants (.on p b) t=(match t.get .u p with | .b c=>c == b | _=>false) from rfl]
  generalize t.get .u p=v
  cases v
  case b c=>cases c<;>cases b<;>rfl
  all_goals rfl
section
variable (P:Program) (ng nt:Nat) (os:Array Oper) (ev:EV) (t0:T)
def View (t:T) (i:Nat) (p:Pos) (y:AV):Prop:=((∃ j,isW os j p∧Bef os j i)→y=t.get .u p)∧((¬ ∃ j,isW os j p∧Bef os j i)→y=t0.get .u p)
def QF (t:T) (h:H) (i:Nat):Prop:=∃ o g d ao τ,os[i]?=some o∧OperOK P ng nt os o g d ao∧quiet ao=true∧(∀ p∈gdT g ++ opT ao,View os t0 t i p (τ.get .u p)∧∀ j,isW os j p→Bef os j i∨Bef os i j) ∧
 ((wants g τ=true∧∃ y g',op ev ao τ h .ok .pan=.ok y g'∧∀ p,d=.to p→t.get .u p=y)∨(wants g τ=false∧∀ p,d=.to p→t.get .u p=.u))
end
end Go.Am
namespace Go.Am
section
variable (P:Program) (ng nt:Nat) (os:Array Oper) (al:Nat→Gd × Pos × AK) (ev:EV)
def RF (t0:T) (h0:H) (w0:World) (pre:Its) (L:Array Bool) (φ:Ph) (h:H) (w:World) (t:T) (num:Nat→Option Pos) (i:Nat):Prop:=
 ∃ o g p ak τ,al i=(g,p,ak)∧os[i]?=some o∧AlItem P ng nt os o g p ak∧(∀ p∈gdT g ++ akT ak,View os t0 t i p (τ.get .u p)∧∀ j,isW os j p→Bef os j i∨Bef os i j) ∧
  ((wants g τ=false∧t.get .u p=.u∧num i=none) ∨
   (wants g τ=true∧∃ q,num i=some q∧t.get .u p=akV ak q∧h0.nx.val≤q.val∧q.val < h.nx.val∧∃ cs,akC ak τ cs ∧
    ((IK.p,i)∉pre→h.get q=.dead ∧
     (L.getD i false=false→φ q=none) ∧
     (L.getD i false=true→∃ b n vs,φ q=some (b,0,n)∧w0.heap.size≤b∧RowAt w (b,0,n) vs∧LR φ cs vs∧¬ lives φ h b))))
structure Inv (F:Nat→Prop) (φ0:Ph) (h0:H) (w0:World) (t0:T) (a0:Act) (k:T→H→R) (kp:AV→T→H→R) (r:R) (pre:Its) (dl:DL) (L:Array Bool) (φ:Ph) (h:H) (w:World) (t:T) (num:Nat→Option Pos) (a:Act):Prop where
 closed:Closed os L
 size:L.size=os.size
 hr:HR P ng φ h w
 ext:Ext φ0 h0 w0 φ h w
 wide:nt≤a.tmps.size
 defers:a.defers=a0.defers
 eqn:dops ev dl t h k kp=r
 dok:∃ its,DOK P ng nt os its dl
 stat:Stat os al pre dl
 anc:∀ i,inD pre i→∀ x,Bef os x i→inD pre x
 sub:∀ i,L.getD i false=true→inD pre i
 loud:∀ i,(IK.l,i)∈pre→L.getD i false=true
 puts:∀ i,(IK.p,i)∈pre→L.getD i false=true
 trie:∃ τ,TR φ τ a.tmps∧∀ p,(PendT os pre L p→τ.get .u p=t0.get .u p)∧(¬ PendT os pre L p→τ.get .u p=t.get .u p)
 start:∀ p,(¬ ∃ i,inD pre i∧isW os i p)→t.get .u p=t0.get .u p
 quiet:∀ i,F i→(IK.q,i)∈pre→L.getD i false=false→QF P ng nt os ev t0 t h i
 alloc:∀ i,(IK.r,i)∈pre→RF P ng nt os al t0 h0 w0 pre L φ h w t num i
 apart:∀ i j q,(IK.r,i)∈pre→(IK.r,j)∈pre→num i=some q→num j=some q→i=j
 blocks:∀ i j q q' x y,(IK.r,i)∈pre→(IK.r,j)∈pre→num i=some q→num j=some q'→φ q=some x→φ q'=some y→x.1=y.1→i=j
end
section
variable {P:Program} {ng nt:Nat} {os:Array Oper} {al:Nat→Gd × Pos × AK} {ev:EV} {φ0 φ:Ph} {h0 h:H} {w0 w:World} {t0 t:T} {a0 a:Act} {k:T→H→R} {kp:AV→T→H→R} {r:R} {pre:Its} {dl:DL} {L:Array Bool} {num:Nat→Option Pos} {F:Nat→Prop}
theorem Inv.view (I:Inv P ng nt os al ev F φ0 h0 w0 t0 a0 k kp r pre dl L φ h w t num a) (hw:OneW os) {i:Nat} (hi:i∈Region.ready .any os L) {τ:T} (hτ:∀ p,(PendT os pre L p→τ.get .u p=t0.get .u p)∧(¬ PendT os pre L p→τ.get .u p=t.get .u p))
  {p:Pos} (hord:∀ j,isW os j p→Bef os j i∨Bef os i j) {y:AV} (hy:View os t0 t i p y):τ.get .u p=y:=by
 by_cases hb:∃ j,isW os j p∧Bef os j i
 ·obtain ⟨j,hj,hji⟩:=hb
  rw [hy.1 ⟨j,hj,hji⟩]
  refine (hτ p).2 fun ⟨m,⟨_,hm⟩,hmw⟩=>?_
  have:=hw m j p hmw hj
  subst this
  rw [ready_bef I.closed hi m hji] at hm
  cases hm
 ·rw [hy.2 hb]
  by_cases hp:PendT os pre L p
  ·exact (hτ p).1 hp
  ·rw [(hτ p).2 hp]
   refine I.start p fun ⟨j,hjD,hj⟩=>?_
   rcases hord j hj with h1 | h1
   ·exact hb ⟨j,hj,h1⟩
   ·cases hL:L.getD j false with
    | false=>exact hp ⟨j,⟨hjD,hL⟩,hj⟩
    | true=>
     have h2:=I.closed i j hL h1
     have h3:=(mem_ready.1 hi).1
     rcases Nat.lt_or_ge i L.size with h' | h'
     ·simp [h'] at h2 h3; rw [h2] at h3; cases h3
     ·simp [Array.getElem?_eq_none h'] at h2
end
end Go.Am
namespace Go.Am
section
variable {P:Program} {ng nt:Nat} {os:Array Oper} {al:Nat→Gd × Pos × AK} {ev:EV} {φ0 φ:Ph} {h0 h:H} {w0 w:World} {t0 t:T} {a0 a:Act} {k:T→H→R} {kp:AV→T→H→R} {r:R} {pre:Its} {dl:DL} {L:Array Bool} {num:Nat→Option Pos} {F:Nat→Prop}
theorem wants_congr {g:Gd} {t t':T} (h:Agree (gdT g) t t'):wants g t=wants g t':=by
 cases g with
 | no=>rfl
 | on p b=>
  show (match t.get .u p with | .b c=>c == b | _=>false)=(match t'.get .u p with | .b c=>c == b | _=>false)
  rw [h p (by simp [gdT])]
theorem wants_ok {o:Oper} {g:Gd} {τ:T} (hg:GdOK nt os o.guard g) (ht:TR φ τ a.tmps) (hn:nt≤a.tmps.size):Region.wanted o (yielded os a.tmps)=wants g τ:=by
 have e:wantK g τ (.fail 1) (.fail 2)=if wants g τ then .fail 1 else .fail 2:=wantK_eq g τ _ _
 rcases wantK_ok (o:=o) hg ht hn e with ⟨h1,h2⟩ | ⟨h1,h2⟩
 ·cases hw:wants g τ with
  | true=>exact h1
  | false=>rw [hw] at h2; cases h2
 ·cases hw:wants g τ with
  | true=>rw [hw] at h2; cases h2
  | false=>exact h1
theorem ready_new {i:Nat} (hi:i∈Region.ready .any os L):L.getD i false=false:=by
 have h3:=(mem_ready.1 hi).1
 rcases Nat.lt_or_ge i L.size with h' | h'
 ·simpa [h'] using h3
 ·simp [Array.getElem?_eq_none h']
theorem Inv.valQ (I:Inv P ng nt os al ev F φ0 h0 w0 t0 a0 k kp r pre dl L φ h w t num a) (hw:OneW os) {i:Nat} (hi:i∈Region.ready .any os L) (hF:F i) (hq:(IK.q,i)∈pre) :
  ∃ o c,os[i]?=some o∧((Region.wanted o (yielded os a.tmps)=true∧(execOp a.eval o).run P w=.ok (.value c) w)∨(Region.wanted o (yielded os a.tmps)=false∧c=undef))∧∀ p,isW os i p→VR φ (t.get .u p) c:=by
 obtain ⟨o,g,d,ao,τq,ho,hop,hqu,hv,hval⟩:=I.quiet i hF hq (ready_new hi)
 obtain ⟨τ,hτ,hτp⟩:=I.trie
 have hag:Agree (gdT g ++ opT ao) τq τ:=fun p hp=>(I.view hw hi hτp (hv p hp).2 (hv p hp).1).symm
 have hwt:=wants_ok (o:=o) hop.guard hτ I.wide
 rw [← wants_congr hag.left] at hwt
 have hdst:∀ p,isW os i p→d=.to p:=fun p ⟨o',tt,ho',hd',hp'⟩=>by
  rw [ho] at ho'; cases ho'
  have:=hop.dst
  rw [hd'] at this
  cases this with
  | to _ q e _=>rw [show q=p from Pos.val_inj (by omega)]
 rcases hval with ⟨h1,y,g',h2,h3⟩ | ⟨h1,h3⟩
 ·rw [h1] at hwt
  rw [op_congr hag.right] at h2
  obtain ⟨c,h4,h5⟩:=quiet_step hop.op hqu I.hr hτ I.wide h2
  exact ⟨o,c,ho,.inl ⟨hwt,h4⟩,fun p hp=>by rw [h3 p (hdst p hp)]; exact h5⟩
 ·rw [h1] at hwt
  exact ⟨o,undef,ho,.inr ⟨hwt,rfl⟩,fun p hp=>by rw [h3 p (hdst p hp)]; rfl⟩
theorem Pos.val_surj:∀ n:Nat,∃ q:Pos,q.val=n + 1
 | 0=>⟨.h,rfl⟩
 | n + 1=>by
  obtain ⟨q,hq⟩:=Pos.val_surj n
  exact ⟨q.suc,by rw [Pos.suc_val,hq]⟩
theorem PendT.step (hw:OneW os) {i:Nat} (hi:L.getD i false=false) (hlt:i < L.size) (hD:inD pre i) (p:Pos):PendT os pre (L.setIfInBounds i true) p↔PendT os pre L p∧¬ isW os i p:=by
 constructor
 ·rintro ⟨j,⟨hj,hjL⟩,hjw⟩
  have hne:i≠j:=fun e=>by subst e; simp [hlt] at hjL
  rw [getD_set_ne false hne] at hjL
  exact ⟨⟨j,⟨hj,hjL⟩,hjw⟩,fun h=>hne (hw i j p h hjw)⟩
 ·rintro ⟨⟨j,⟨hj,hjL⟩,hjw⟩,hno⟩
  have hne:i≠j:=fun e=>by subst e; exact hno hjw
  exact ⟨j,⟨hj,by rw [getD_set_ne false hne]; exact hjL⟩,hjw⟩
theorem trie_step (hw:OneW os) {i:Nat} {o:Oper} {c:Value} {τ:T} (ho:os[i]?=some o) (hi:L.getD i false=false) (hlt:i < L.size) (hD:inD pre i) (hdst:∀ d,o.dst=some d→d < a.tmps.size) (hτ:TR φ τ a.tmps)
  (hτp:∀ p,(PendT os pre L p→τ.get .u p=t0.get .u p)∧(¬ PendT os pre L p→τ.get .u p=t.get .u p)) (hv:∀ p,isW os i p→VR φ (t.get .u p) c) :
  ∃ τ',TR φ τ' (a.put o.dst c).tmps∧∀ p,(PendT os pre (L.setIfInBounds i true) p→τ'.get .u p=t0.get .u p)∧(¬ PendT os pre (L.setIfInBounds i true) p→τ'.get .u p=t.get .u p):=by
 cases hd:o.dst with
 | none=>
  have hno:∀ p,¬ isW os i p:=fun p ⟨o',tt,ho',hd',_⟩=>by rw [ho] at ho'; cases ho'; rw [hd] at hd'; cases hd'
  refine ⟨τ,hτ,fun p=>⟨fun hp=>(hτp p).1 ((PendT.step hw hi hlt hD p).1 hp).1,fun hp=>(hτp p).2 fun h=>hp ((PendT.step hw hi hlt hD p).2 ⟨h,hno p⟩)⟩⟩
 | some d=>
  obtain ⟨q,hq⟩:∃ q:Pos,q.val=d + 1:=Pos.val_surj d
  have hwq:isW os i q:=⟨o,d,ho,hd,hq⟩
  refine ⟨τ.set .u (t.get .u q) q,hτ.set (hv q hwq) hq (hdst d hd),fun p=>?_⟩
  rw [PT.get_set]
  by_cases hpq:p=q
  ·subst hpq
   rw [if_pos rfl]
   exact ⟨fun hp=>absurd hwq ((PendT.step hw hi hlt hD p).1 hp).2,fun _=>rfl⟩
  ·rw [if_neg hpq]
   have hnw:¬ isW os i p:=fun ⟨o',tt,ho',hd',hp'⟩=>hpq (by
    rw [ho] at ho'; cases ho'; rw [hd] at hd'; cases hd'
    exact Pos.val_inj (by omega))
   exact ⟨fun hp=>(hτp p).1 ((PendT.step hw hi hlt hD p).1 hp).1,fun hp=>(hτp p).2 fun h=>hp ((PendT.step hw hi hlt hD p).2 ⟨h,hnw⟩)⟩
end
end Go.Am
namespace Go.Am
section
variable {P:Program} {ng nt:Nat} {os:Array Oper} {al:Nat→Gd × Pos × AK} {ev:EV} {φ0 φ:Ph} {h0 h:H} {w0 w:World} {t0 t:T} {a0 a:Act} {k:T→H→R} {kp:AV→T→H→R} {r:R} {pre:Its} {dl:DL} {L:Array Bool} {num:Nat→Option Pos} {F:Nat→Prop}
theorem al_not_quiet {o:Oper} {ak:AK} {ao:AO} (h:AlOK P ng nt o.op ak) (k:OpOK P ng nt o.op ao) (hq:quiet ao=true):False:=by
 generalize o.op=x at h k
 cases h<;>cases k<;>cases hq
theorem Inv.stepQ (I:Inv P ng nt os al ev F φ0 h0 w0 t0 a0 k kp r pre dl L φ h w t num a) (hw:OneW os) {i:Nat} (hi:i∈Region.ready .any os L) (hF:F i) (hq:(IK.q,i)∈pre) :
  ∃ o c,os[i]?=some o∧((Region.wanted o (yielded os a.tmps)=true∧(execOp a.eval o).run P w=.ok (.value c) w)∨(Region.wanted o (yielded os a.tmps)=false∧c=undef)) ∧
   Inv P ng nt os al ev F φ0 h0 w0 t0 a0 k kp r pre dl (L.setIfInBounds i true) φ h w t num (a.put o.dst c):=by
 obtain ⟨o,c,ho,hrun,hv⟩:=I.valQ hw hi hF hq
 have hL:=ready_new hi
 have hlt:i < L.size:=by rw [I.size]; exact (Array.getElem?_eq_some_iff.1 ho).1
 obtain ⟨τ,hτ,hτp⟩:=I.trie
 obtain ⟨o',g,d,ao,τq,ho',hop,hqu,_,_⟩:=I.quiet i hF hq hL
 rw [ho] at ho'; cases ho'
 have hdst:∀ d,o.dst=some d→d < a.tmps.size:=fun d' hd'=>by
  have:=hop.dst
  rw [hd'] at this
  cases this with
  | to _ _ _ hlt'=>exact Nat.lt_of_lt_of_le hlt' I.wide
 refine ⟨o,c,ho,hrun,⟨I.closed.add hi,by simp [I.size],I.hr,I.ext,?_,?_,I.eqn,I.dok,I.stat,I.anc,fun j hj=>?_,fun j hj=>getD_set_true (I.loud j hj),fun j hj=>getD_set_true (I.puts j hj),
  trie_step hw ho hL hlt (.inl hq) hdst hτ hτp hv,I.start,fun j hF hj hjL=>?_,fun j hj=>?_,I.apart,I.blocks⟩⟩
 ·cases hd:o.dst<;>simp [Act.put,I.wide]
 ·cases hd:o.dst<;>simp [Act.put,I.defers]
 ·by_cases e:i=j
  ·subst e; exact .inl hq
  ·rw [getD_set_ne false e] at hj; exact I.sub j hj
 ·have e:i≠j:=fun e=>by subst e; simp [hlt] at hjL
  rw [getD_set_ne false e] at hjL
  exact I.quiet j hF hj hjL
 ·have e:i≠j:=fun e=>by
   subst e
   obtain ⟨o2,_,_,_,_,_,ho2,hal,_⟩:=I.alloc i hj
   rw [ho] at ho2; cases ho2
   exact al_not_quiet hal.op hop.op hqu
  have:=I.alloc j hj
  unfold RF at *
  rw [getD_set_ne false e]
  exact this
end
end Go.Am
namespace Go.Am
section
variable {P:Program} {ng nt:Nat} {os:Array Oper} {al:Nat→Gd × Pos × AK} {ev:EV} {φ0 φ:Ph} {h0 h:H} {w0 w:World} {t0 t:T} {a0 a:Act} {k:T→H→R} {kp:AV→T→H→R} {r:R} {pre:Its} {dl:DL} {L:Array Bool} {num:Nat→Option Pos} {F:Nat→Prop}
theorem akC_congr {ak:AK} {τ τ':T} {cs:AV} (h:Agree (akT ak) τ τ') (hc:akC ak τ cs):akC ak τ' cs:=by
 cases ak with
 | a c=>exact hc
 | s n zq ps=>
  intro hh
  have:=hc hh
  rw [fill_congr h] at this
  exact this
theorem mark_lives (hr:HR P ng φ h w) {q:Pos} {n:Nat} (hd:h.get q=.dead):¬ lives (φ.add q (w.heap.size,0,n)) h w.heap.size:=by
 rintro ⟨r',y,hy,e,hm⟩
 have hne:r'≠q:=fun e'=>by subst e'; exact hm hd
 rw [Ph.add_ne hne] at hy
 have:=hr.bnd r' y hy
 omega
theorem mark_lives' {q:Pos} {x:Nat × Nat × Nat} {b:Nat} (hd:h.get q=.dead) (hno:¬ lives φ h b):¬ lives (φ.add q x) h b:=by
 rintro ⟨r',y,hy,e,hm⟩
 have hne:r'≠q:=fun e'=>by subst e'; exact hm hd
 rw [Ph.add_ne hne] at hy
 exact hno ⟨r',y,hy,e,hm⟩
theorem RowAt.push {x:Nat × Nat × Nat} {vs:List Value} {b:Obj} (hlt:x.1 < w.heap.size) (hrow:RowAt w x vs):RowAt { w with heap:=w.heap.push b } x vs:=by
 unfold RowAt at *
 have:(w.heap.push b)[x.1]?=w.heap[x.1]?:=by rw [Array.getElem?_push,if_neg (by omega)]
 show ∃ cs e fr,(w.heap.push b)[x.1]?=_∧_
 rw [this]; exact hrow
end
end Go.Am
namespace Go.Am
section
variable {P:Program} {ng nt:Nat} {os:Array Oper} {al:Nat→Gd × Pos × AK} {ev:EV} {φ0 φ:Ph} {h0 h:H} {w0 w:World} {t0 t:T} {a0 a:Act} {k:T→H→R} {kp:AV→T→H→R} {r:R} {pre:Its} {dl:DL} {L:Array Bool} {num:Nat→Option Pos} {F:Nat→Prop}
theorem Inv.stepR (I:Inv P ng nt os al ev F φ0 h0 w0 t0 a0 k kp r pre dl L φ h w t num a) (hw:OneW os) {i:Nat} (hi:i∈Region.ready .any os L) (hq:(IK.r,i)∈pre) :
  ∃ o c w' φ',os[i]?=some o∧((Region.wanted o (yielded os a.tmps)=true∧(execOp a.eval o).run P w=.ok (.value c) w')∨(Region.wanted o (yielded os a.tmps)=false∧c=undef∧w'=w)) ∧
   Inv P ng nt os al ev F φ0 h0 w0 t0 a0 k kp r pre dl (L.setIfInBounds i true) φ' h w' t num (a.put o.dst c):=by
 have hL:=ready_new hi
 obtain ⟨o,g,p,ak,τr,hsm,ho,hal,hv,hval⟩:=I.alloc i hq
 have hlt:i < L.size:=by rw [I.size]; exact (Array.getElem?_eq_some_iff.1 ho).1
 obtain ⟨τ,hτ,hτp⟩:=I.trie
 have hag:Agree (gdT g ++ akT ak) τr τ:=fun p hp=>(I.view hw hi hτp (hv p hp).2 (hv p hp).1).symm
 have hwt:=wants_ok (o:=o) hal.guard hτ I.wide
 rw [← wants_congr hag.left] at hwt
 obtain ⟨tt,hd,hp,htt⟩:=hal.dst
 have hdst:∀ d,o.dst=some d→d < a.tmps.size:=fun d' hd'=>by rw [hd] at hd'; cases hd'; exact Nat.lt_of_lt_of_le htt I.wide
 have hW:∀ q,isW os i q→q=p:=fun q ⟨o',t',ho',hd',hq'⟩=>by
  rw [ho] at ho'; cases ho'; rw [hd] at hd'; cases hd'; exact Pos.val_inj (by omega)
 have hnp:(IK.p,i)∉pre:=fun hh=>by have:=I.puts i hh; rw [hL] at this; cases this
 have hsub:∀ j,(L.setIfInBounds i true).getD j false=true→inD pre j:=fun j hj=>by
  by_cases e:i=j
  ·subst e; exact .inr (.inr hq)
  ·rw [getD_set_ne false e] at hj; exact I.sub j hj
 have hne:∀ j,(L.setIfInBounds i true).getD j false=false→i≠j:=fun j hj e=>by subst e; simp [hlt] at hj
 have hwide:∀ c,nt≤(a.put o.dst c).tmps.size:=fun c=>by rw [hd]; simp [Act.put,I.wide]
 have hdef:∀ c,(a.put o.dst c).defers=a0.defers:=fun c=>by rw [hd]; simp [Act.put,I.defers]
 have hquiet:∀ j,F j→(IK.q,j)∈pre→(L.setIfInBounds i true).getD j false=false→QF P ng nt os ev t0 t h j:=fun j hF hj hjL=>by
  rw [getD_set_ne false (hne j hjL)] at hjL
  exact I.quiet j hF hj hjL
 rcases hval with ⟨h1,h2,hnn⟩ | ⟨h1,qn,hqn,h2,h3,h4,cs,h5,h6⟩
 ·rw [h1] at hwt
  refine ⟨o,undef,w,φ,ho,.inr ⟨hwt,rfl,rfl⟩,⟨I.closed.add hi,by simp [I.size],I.hr,I.ext,hwide _,hdef _,I.eqn,I.dok,I.stat,I.anc,hsub,fun j hj=>getD_set_true (I.loud j hj),fun j hj=>getD_set_true (I.puts j hj),
   trie_step hw ho hL hlt (.inr (.inr hq)) hdst hτ hτp (fun q hq'=>by rw [hW q hq',h2]; rfl),I.start,hquiet,fun j hj=>?_,I.apart,I.blocks⟩⟩
  by_cases e:i=j
  ·subst e; exact ⟨o,g,p,ak,τr,hsm,ho,hal,hv,.inl ⟨h1,h2,hnn⟩⟩
  ·have:=I.alloc j hj
   unfold RF at *
   rw [getD_set_ne false e]
   exact this
 ·rw [h1] at hwt
  obtain ⟨h7,h8,_⟩:=h6 hnp
  have h8:=h8 hL
  obtain ⟨c,b,n,vs,h9,h10,h11,h12⟩:=alloc_step (q:=qn) hal.op I.hr hτ I.wide (akC_congr hag.right h5)
  have hmono:=Ph.le_add_none (φ:=φ) (q:=qn) (x:=(w.heap.size,0,n)) h8
  refine ⟨o,c,_,φ.add (qn) (w.heap.size,0,n),ho,.inl ⟨hwt,h9⟩,⟨I.closed.add hi,by simp [I.size],I.hr.mark h4 h8 h7,I.ext.mark h3 h8 h7,hwide _,hdef _,I.eqn,I.dok,I.stat,I.anc,hsub,fun j hj=>getD_set_true (I.loud j hj),fun j hj=>getD_set_true (I.puts j hj),
   trie_step hw ho hL hlt (.inr (.inr hq)) hdst (hτ.mono hmono) hτp (fun q hq'=>by rw [hW q hq',h2]; exact h10),I.start,hquiet,fun j hj=>?_,I.apart,?_⟩⟩
  by_cases e:i=j
  ·subst e
   refine ⟨o,g,p,ak,τr,hsm,ho,hal,hv,.inr ⟨h1,qn,hqn,h2,h3,h4,cs,h5,fun _=>⟨h7,fun hh=>by simp [hlt] at hh,fun _=>⟨w.heap.size,n,vs,Ph.add_same _ _ _,I.ext.size,h12,h11.mono hmono,mark_lives I.hr h7⟩⟩⟩⟩
  ·obtain ⟨o2,g2,p2,ak2,τ2,k0,k1,k2,k3,k4⟩:=I.alloc j hj
   refine ⟨o2,g2,p2,ak2,τ2,k0,k1,k2,k3,?_⟩
   rcases k4 with k4 | ⟨k4,q2,hq2,k5,k6,k7,cs2,k8,k9⟩
   ·exact .inl k4
   ·refine .inr ⟨k4,q2,hq2,k5,k6,k7,cs2,k8,fun hnp2=>?_⟩
    obtain ⟨k10,k11,k12⟩:=k9 hnp2
    have hnum:q2≠qn:=fun hh=>e (I.apart i j qn hq hj hqn (hh▸hq2))
    rw [getD_set_ne false e,Ph.add_ne hnum]
    refine ⟨k10,k11,fun hh=>?_⟩
    obtain ⟨b2,n2,vs2,m1,m2,m3,m4,m5⟩:=k12 hh
    exact ⟨b2,n2,vs2,m1,m2,m3.push (I.hr.bnd _ _ m1),m4.mono hmono,mark_lives' h7 m5⟩
  ·intro i1 j1 q1 q1' x y a1 a2 a3 a4 a5 a6 a7
   by_cases e1:q1=qn
   ·by_cases e2:q1'=qn
    ·subst e1; subst e2; exact I.apart i1 j1 _ a1 a2 a3 a4
    ·subst e1
     rw [Ph.add_same] at a5; cases a5
     rw [Ph.add_ne e2] at a6
     have:=I.hr.bnd _ _ a6
     change w.heap.size=y.1 at a7
     omega
   ·rw [Ph.add_ne e1] at a5
    by_cases e2:q1'=qn
    ·subst e2
     rw [Ph.add_same] at a6; cases a6
     have:=I.hr.bnd _ _ a5
     change x.1=w.heap.size at a7
     omega
    ·rw [Ph.add_ne e2] at a6
     exact I.blocks i1 j1 q1 q1' x y a1 a2 a3 a4 a5 a6 a7
end
end Go.Am
namespace Go.Am
def Nat1 {α:Type} (F:(α→R)→R):Prop:=(∃ n,∀ f,F f=.fail n)∨∃ x,∀ f,F f=f x
theorem Nat1.bind {α β:Type} {F:(α→R)→R} {G:α→(β→R)→R} (h:Nat1 F) (k:∀ x,Nat1 (G x)):Nat1 (fun f=>F fun x=>G x f):=by
 rcases h with ⟨n,h⟩ | ⟨x,h⟩
 ·exact .inl ⟨n,fun f=>h _⟩
 ·rcases k x with ⟨n,h'⟩ | ⟨y,h'⟩
  ·exact .inl ⟨n,fun f=>(h _).trans (h' f)⟩
  ·exact .inr ⟨y,fun f=>(h _).trans (h' f)⟩
theorem nat_aval (x:Ar) (t:T):Nat1 (aval x t):=by
 cases x with
 | t p=>exact .inr ⟨_,fun f=>getK_eq _ _ _ _⟩
 | k v=>exact .inr ⟨v,fun _=>rfl⟩
theorem nat_vcells (v:AV):Nat1 (vcells v):=by
 cases v<;>first | exact .inr ⟨_,fun _=>rfl⟩ | exact .inl ⟨_,fun _=>rfl⟩
theorem nat_onC (m:AV) (n:Nat):Nat1 (fun f:AV × AV→R=>onC m (.fail n) fun x t=>f (x,t)):=by
 cases m<;>first | exact .inl ⟨_,fun _=>rfl⟩ | exact .inr ⟨_,fun _=>rfl⟩
theorem nat_lngF:∀ (l:AV) (n:Nat),Nat1 (lngF l n):=by
 intro l
 induction l with
 | z=>intro n; exact .inr ⟨n,fun _=>rfl⟩
 | c x t _ ih=>
  intro n
  have e:∀ f,lngF (.c x t) n f=lngF t (Nat.succ n) f:=fun f=>fN_eq n _
  rcases ih (Nat.succ n) with ⟨m,h⟩ | ⟨y,h⟩
  ·exact .inl ⟨m,fun f=>(e f).trans (h f)⟩
  ·exact .inr ⟨y,fun f=>(e f).trans (h f)⟩
 | _=>intro n; exact .inl ⟨_,fun _=>rfl⟩
theorem nat_lng (l:AV):Nat1 (lng l):=by
 rcases nat_lngF l 0 with ⟨m,h⟩ | ⟨y,h⟩
 ·exact .inl ⟨m,fun f=>h _⟩
 ·exact .inr ⟨y,fun f=>(h _).trans (fN_eq _ _)⟩
theorem nat_ovr:∀ (l m:AV),Nat1 (ovr l m):=by
 intro l
 induction l with
 | z=>intro m; exact .inr ⟨m,fun _=>rfl⟩
 | c x t _ ih=>
  intro m
  have e:∀ f,ovr (.c x t) m f=onC m (.fail 27) fun _ t'=>ovr t t' fun r=>f (.c x r):=fun f=>rfl
  cases m
  case c y t'=>
   rcases ih t' with ⟨n,h⟩ | ⟨zq,h⟩
   ·exact .inl ⟨n,fun f=>(e f).trans (h _)⟩
   ·exact .inr ⟨.c x zq,fun f=>(e f).trans (h _)⟩
  all_goals exact .inl ⟨_,fun _=>rfl⟩
 | _=>intro m; exact .inl ⟨_,fun _=>rfl⟩
theorem nat_spl:∀ (n:Nat) (l m:AV),Nat1 (spl n l m)
 | 0,l,m=>nat_ovr l m
 | n + 1,l,m=>by
  have e:∀ f,spl (n + 1) l m f=onC m (.fail 29) fun x t=>spl n l t fun r=>f (.c x r):=fun f=>rfl
  cases m
  case c y t'=>
   rcases nat_spl n l t' with ⟨n',h⟩ | ⟨zq,h⟩
   ·exact .inl ⟨n',fun f=>(e f).trans (h _)⟩
   ·exact .inr ⟨.c y zq,fun f=>(e f).trans (h _)⟩
  all_goals exact .inl ⟨_,fun _=>rfl⟩
theorem nat_fill (t:T):∀ (l:PaL) (cs:AV),Nat1 (fill l t cs)
 | .z,cs=>.inr ⟨cs,fun _=>rfl⟩
 | .c o n x l,cs=>by
  have e:∀ f,fill (.c o n x l) t cs f=aval x t fun v=>vcells v fun l'=>lng l' fun m=>kif (Nat.beq m n) (spl o l' cs fun cs=>fill l t cs f) (.fail 60):=fun f=>rfl
  rcases nat_aval x t with ⟨m,h⟩ | ⟨v,h⟩
  ·exact .inl ⟨m,fun f=>(e f).trans (h _)⟩
  rcases nat_vcells v with ⟨m,h1⟩ | ⟨l',h1⟩
  ·exact .inl ⟨m,fun f=>(e f).trans ((h _).trans (h1 _))⟩
  rcases nat_lng l' with ⟨m,h2⟩ | ⟨m,h2⟩
  ·exact .inl ⟨m,fun f=>(e f).trans ((h _).trans ((h1 _).trans (h2 _)))⟩
  cases hb:Nat.beq m n with
  | false=>exact .inl ⟨60,fun f=>(e f).trans ((h _).trans ((h1 _).trans ((h2 _).trans (by rw [hb]; rfl))))⟩
  | true=>
   rcases nat_spl o l' cs with ⟨m',h3⟩ | ⟨cs',h3⟩
   ·exact .inl ⟨m',fun f=>(e f).trans ((h _).trans ((h1 _).trans ((h2 _).trans (by rw [hb]; exact h3 _))))⟩
   rcases nat_fill t l cs' with ⟨m',h4⟩ | ⟨cs'',h4⟩
   ·exact .inl ⟨m',fun f=>(e f).trans ((h _).trans ((h1 _).trans ((h2 _).trans (by rw [hb]; exact (h3 _).trans (h4 _)))))⟩
   ·exact .inr ⟨cs'',fun f=>(e f).trans ((h _).trans ((h1 _).trans ((h2 _).trans (by rw [hb]; exact (h3 _).trans (h4 _)))))⟩
section
variable {t:T} {h:H} {r:R}
theorem fill_nat {ps:PaL} {zs:AV} {k:AV→R} (e:onR (fill ps t zs fun cs=>.ok cs h) k=r) (g:r.good):∃ cs,(∀ hh,fill ps t zs (fun cs=>.ok cs hh)=.ok cs hh)∧k cs=r:=by
 obtain ⟨y,g',h1,h2⟩:=onR_ok e g
 rcases nat_fill t ps zs with ⟨n,hn⟩ | ⟨cs,hn⟩
 ·rw [hn] at h1; cases h1
 ·rw [hn] at h1; cases h1; exact ⟨_,fun hh=>hn _,h2⟩
theorem resv_ok {o:AK} {k:AV→H→R} (e:resv o t h k=r) (g:r.good):∃ cs,akC o t cs∧k (akV o h.nx) h.skip=r:=by
 cases o with
 | a c=>
  have e1:rsv h (fun r h=>k (.p r 0) h)=r:=e
  rw [rsv_eq] at e1
  exact ⟨c,rfl,e1⟩
 | s n zs ps=>
  have e1:onR (fill ps t zs fun cs=>.ok cs h) (fun _=>rsv h fun r h=>k (.sk r 0 n n) h)=r:=e
  obtain ⟨cs,h1,h2⟩:=fill_nat e1 g
  rw [rsv_eq] at h2
  exact ⟨cs,h1,h2⟩
theorem putO_ok {o:AK} {q:Pos} {k:H→R} {cs:AV} (e:putO o (akV o q) t h k=r) (g:r.good) (hc:akC o t cs):k (h.put q (.row cs))=r:=by
 cases o with
 | a c=>
  have e1:hset q (.row c) h k=r:=e
  rw [hset_eq] at e1
  rw [show cs=c from hc]; exact e1
 | s n zs ps=>
  have e1:onR (fill ps t zs fun cs=>.ok cs h) (fun cs=>hset q (.row cs) h k)=r:=e
  obtain ⟨cs',h1,h2⟩:=fill_nat e1 g
  rw [hset_eq] at h2
  have h3:=hc h
  rw [h1 h] at h3
  cases h3; exact h2
end
end Go.Am
namespace Go.Am
theorem inD_p {pre:Its} {i j:Nat}:inD ((.p,i) :: pre) j↔inD pre j:=by simp [inD]
theorem inD_c {pre:Its} {i j:Nat}:inD ((.c,i) :: pre) j↔inD pre j:=by simp [inD]
theorem inD_q {pre:Its} {i j:Nat}:inD ((.q,i) :: pre) j↔j=i∨inD pre j:=by unfold inD; grind
theorem inD_l {pre:Its} {i j:Nat}:inD ((.l,i) :: pre) j↔j=i∨inD pre j:=by unfold inD; grind
theorem inD_r {pre:Its} {i j:Nat}:inD ((.r,i) :: pre) j↔j=i∨inD pre j:=by unfold inD; grind
def dset (d:Ds) (y:AV) (t:T):T:=match d with
 | .no=>t
 | .to p=>t.set .u y p
theorem putK_eq (d:Ds) (y:AV) (t:T) (f:T→R):putK d y t f=f (dset d y t):=by
 cases d with
 | no=>rfl
 | to p=>exact setK_eq _ _ _ _ _
theorem dset_ne {d:Ds} {y:AV} {t:T} {p:Pos} (h:d≠.to p):(dset d y t).get .u p=t.get .u p:=by
 cases d with
 | no=>rfl
 | to q=>
  show (t.set .u y q).get .u p=_
  rw [PT.get_set,if_neg fun e=>h (by rw [e])]
theorem dset_eq {d:Ds} {y:AV} {t:T} {p:Pos} (h:d=.to p):(dset d y t).get .u p=y:=by
 subst h
 show (t.set .u y p).get .u p=_
 rw [PT.get_set,if_pos rfl]
section
variable {P:Program} {ng nt:Nat} {os:Array Oper} {al:Nat→Gd × Pos × AK} {ev:EV} {φ0 φ ψ:Ph} {h0 h g':H} {w0 w v:World} {t0 t t':T} {a0 a:Act} {k:T→H→R} {kp:AV→T→H→R} {r:R} {pre pre':Its} {dl:DL} {L:Array Bool} {num num':Nat→Option Pos} {F:Nat→Prop}
theorem isW_to {i:Nat} {o:Oper} {p:Pos} (ho:os[i]?=some o) (hd:DsOK nt o.dst (.to p)):isW os i p:=by
 generalize hx:o.dst=x at hd
 cases hd with
 | to n _ e _=>exact ⟨o,n,ho,hx,e⟩
theorem isW_dst {i:Nat} {o:Oper} {p:Pos} {d:Ds} (ho:os[i]?=some o) (hd:DsOK nt o.dst d) (hp:isW os i p):d=.to p:=by
 obtain ⟨o',tt,ho',hd',e⟩:=hp
 rw [ho] at ho'; cases ho'
 rw [hd'] at hd
 cases hd with
 | to _ q e' _=>rw [show q=p from Pos.val_inj (by omega)]
theorem Inv.rdView (I:Inv P ng nt os al ev F φ0 h0 w0 t0 a0 k kp r pre dl L φ h w t num a) {i:Nat} {l:List Pos} (rd:ReadsOK os pre i l):∀ p∈l,View os t0 t i p (t.get .u p)∧∀ j,isW os j p→Bef os j i∨Bef os i j:=by
 intro p hp
 refine ⟨⟨fun _=>rfl,fun hno=>I.start p ?_⟩,fun j hj=>(rd p hp j hj).imp id fun h=>h.2.2⟩
 rintro ⟨j,hjD,hj⟩
 rcases rd p hp j hj with h | h
 ·exact hno ⟨j,hj,h⟩
 ·exact h.1 hjD
theorem Inv.rdAgree (I:Inv P ng nt os al ev F φ0 h0 w0 t0 a0 k kp r pre dl L φ h w t num a) {i:Nat} {l:List Pos} (rd:ReadsOK os pre i l) {τ:T} (hv:∀ p∈l,View os t0 t i p (τ.get .u p)):Agree l t τ:=by
 intro p hp
 by_cases hb:∃ j,isW os j p∧Bef os j i
 ·exact ((hv p hp).1 hb).symm
 ·rw [(hv p hp).2 hb]
  exact (I.rdView rd p hp).1.2 hb
theorem turn_view (hw:OneW os) {n:Nat} (hn:¬ inD pre n) (hanc:∀ i,inD pre i→∀ x,Bef os x i→inD pre x) (ht:∀ p,¬ isW os n p→t'.get .u p=t.get .u p) {i:Nat} (hi:inD pre i) (p:Pos) (y:AV) (hv:View os t0 t i p y):View os t0 t' i p y:=
 ⟨fun ⟨j,hj,hb⟩=>by
  rw [hv.1 ⟨j,hj,hb⟩]
  refine (ht p fun hnp=>?_).symm
  have:=hw j n p hj hnp
  subst this
  exact hn (hanc i hi j hb),hv.2⟩
theorem turn_dst (hw:OneW os) {n:Nat} (hn:¬ inD pre n) (ht:∀ p,¬ isW os n p→t'.get .u p=t.get .u p) {i:Nat} (hi:inD pre i) (p:Pos) (hp:isW os i p):t'.get .u p=t.get .u p:=
 ht p fun h=>hn (by rw [hw n i p h hp]; exact hi)
theorem QF.turn {i:Nat} (hview:∀ p y,View os t0 t i p y→View os t0 t' i p y) (hdst:∀ p,isW os i p→t'.get .u p=t.get .u p) (q:QF P ng nt os ev t0 t h i):QF P ng nt os ev t0 t' h i:=by
 obtain ⟨o,g,d,ao,τ,ho,hop,hqu,hv,hval⟩:=q
 refine ⟨o,g,d,ao,τ,ho,hop,hqu,fun p hp=>⟨hview _ _ (hv p hp).1,(hv p hp).2⟩,?_⟩
 have hd:∀ p,d=.to p→t'.get .u p=t.get .u p:=fun p hp=>hdst p (isW_to ho (hp▸hop.dst))
 rcases hval with ⟨h1,y,g',h2,h3⟩ | ⟨h1,h3⟩
 ·exact .inl ⟨h1,y,g',h2,fun p hp=>(hd p hp).trans (h3 p hp)⟩
 ·exact .inr ⟨h1,fun p hp=>(hd p hp).trans (h3 p hp)⟩
theorem AlItem.isW {i:Nat} {o:Oper} {g:Gd} {p:Pos} {ak:AK} (ho:os[i]?=some o) (hal:AlItem P ng nt os o g p ak):isW os i p:=by
 obtain ⟨tt,h1,h2,_⟩:=hal.dst
 exact ⟨o,tt,ho,h1,h2⟩
theorem RF.turn {i:Nat} (hview:∀ p y,View os t0 t i p y→View os t0 t' i p y) (hdst:∀ p,Am.isW os i p→t'.get .u p=t.get .u p) (hnum:num' i=num i) (hget:∀ q,g'.get q=h.get q) (hnx:h.nx.val≤g'.nx.val)
  (hp:(IK.p,i)∉pre'→(IK.p,i)∉pre) (f:RF P ng nt os al t0 h0 w0 pre L φ h w t num i):RF P ng nt os al t0 h0 w0 pre' L φ g' w t' num' i:=by
 obtain ⟨o,g,p,ak,τ,hsm,ho,hal,hv,hval⟩:=f
 refine ⟨o,g,p,ak,τ,hsm,ho,hal,fun p hp=>⟨hview _ _ (hv p hp).1,(hv p hp).2⟩,?_⟩
 have hd:=hdst p (hal.isW ho)
 rcases hval with ⟨h1,h2,h3⟩ | ⟨h1,q,h2,h3,h4,h5,cs,h6,h7⟩
 ·exact .inl ⟨h1,hd.trans h2,hnum.trans h3⟩
 ·refine .inr ⟨h1,q,hnum.trans h2,hd.trans h3,h4,Nat.lt_of_lt_of_le h5 hnx,cs,h6,fun hnp=>?_⟩
  obtain ⟨k1,k2,k3⟩:=h7 (hp hnp)
  refine ⟨(hget q).trans k1,k2,fun hl=>?_⟩
  obtain ⟨b,n,vs,m1,m2,m3,m4,m5⟩:=k3 hl
  refine ⟨b,n,vs,m1,m2,m3,m4,fun ⟨r',y,hy,e,hm⟩=>m5 ⟨r',y,hy,e,?_⟩⟩
  rw [← hget]; exact hm
theorem RF.loud {i:Nat} (hx:Ext φ h w ψ g' v) (hr:HR P ng φ h w) (hr':HR P ng ψ g' v) {L':Array Bool} (hL:L'.getD i false=L.getD i false) (hview:∀ p y,View os t0 t i p y→View os t0 t' i p y) (hdst:∀ p,Am.isW os i p→t'.get .u p=t.get .u p)
  (hp:(IK.p,i)∉pre'→(IK.p,i)∉pre) (f:RF P ng nt os al t0 h0 w0 pre L φ h w t num i):RF P ng nt os al t0 h0 w0 pre' L' ψ g' v t' num i:=by
 obtain ⟨o,g,p,ak,τ,hsm,ho,hal,hv,hval⟩:=f
 refine ⟨o,g,p,ak,τ,hsm,ho,hal,fun p hp=>⟨hview _ _ (hv p hp).1,(hv p hp).2⟩,?_⟩
 have hd:=hdst p (hal.isW ho)
 rcases hval with ⟨h1,h2,h3⟩ | ⟨h1,q,h2,h3,h4,h5,cs,h6,h7⟩
 ·exact .inl ⟨h1,hd.trans h2,h3⟩
 ·refine .inr ⟨h1,q,h2,hd.trans h3,h4,Nat.lt_of_lt_of_le h5 hx.nx,cs,h6,fun hnp=>?_⟩
  obtain ⟨k1,k2,k3⟩:=h7 (hp hnp)
  have hold:=hx.old q h5
  rw [hL]
  refine ⟨?_,fun hl=>hold.trans (k2 hl),fun hl=>?_⟩
  ·refine Classical.byContradiction fun hdd=>?_
   obtain ⟨x,hxq,_⟩:=hr'.obj q hdd
   rw [hold] at hxq
   cases hl:L.getD i false with
   | false=>rw [k2 hl] at hxq; cases hxq
   | true=>
    obtain ⟨b,n,vs,m1,m2,m3,m4,m5⟩:=k3 hl
    rw [m1] at hxq; cases hxq
    exact m5 (hx.live b (hr.bnd _ _ m1) ⟨q,_,hold.trans m1,rfl,hdd⟩)
  ·obtain ⟨b,n,vs,m1,m2,m3,m4,m5⟩:=k3 hl
   obtain ⟨m6,m7⟩:=hx.row (x:=(b,0,n)) m5 (hr.bnd _ _ m1) m3
   exact ⟨b,n,vs,hold.trans m1,m2,m6,m4.mono hx.mono,m7⟩
theorem Inv.itemQ {i:Nat} {g:Gd} {d:Ds} {ao:AO} {l:DL} (hw:OneW os) (gd:r.good) (I:Inv P ng nt os al ev (·∈freshQ pre) φ0 h0 w0 t0 a0 k kp r pre (.q i g d ao l) L φ h w t num a) :
  ∃ t',Inv P ng nt os al ev (·∈freshQ ((.q,i) :: pre)) φ0 h0 w0 t0 a0 k kp r ((.q,i) :: pre) l L φ h w t' num a:=by
 obtain ⟨its,hd⟩:=I.dok
 cases hd with | q _ o l' _ _ _ _ ho hop hqu hdl=>
 cases I.stat with | q _ _ _ _ _ _ new anc rd st=>
 have e:wantK g t (onR (op ev ao t h .ok .pan) fun y=>putK d y t fun t=>dops ev l t h k kp) (putK d .u t fun t=>dops ev l t h k kp)=r:=I.eqn
 have hLi:L.getD i false=false:=by
  cases hL:L.getD i false with
  | false=>rfl
  | true=>exact absurd (I.sub i hL) new
 obtain ⟨y,e1,hval⟩:∃ y,dops ev l (dset d y t) h k kp=r∧((wants g t=true∧∃ g',op ev ao t h .ok .pan=.ok y g')∨(wants g t=false∧y=.u)):=by
  rw [wantK_eq] at e
  cases hwt:wants g t with
  | true=>
   rw [hwt,if_pos rfl] at e
   obtain ⟨y,g',h1,h2⟩:=onR_ok e gd
   rw [putK_eq] at h2
   exact ⟨y,h2,.inl ⟨rfl,g',h1⟩⟩
  | false=>
   rw [hwt,if_neg (by simp),putK_eq] at e
   exact ⟨.u,e,.inr ⟨rfl,rfl⟩⟩
 have hne:∀ p,¬ isW os i p→(dset d y t).get .u p=t.get .u p:=fun p hp=>dset_ne fun e=>hp (isW_to ho (e▸hop.dst))
 have hview:∀ j,inD pre j→∀ p zq,View os t0 t j p zq→View os t0 (dset d y t) j p zq:=fun j hj=>turn_view hw new I.anc hne hj
 have hdst:∀ j,inD pre j→∀ p,isW os j p→(dset d y t).get .u p=t.get .u p:=fun j hj=>turn_dst hw new hne hj
 obtain ⟨τ,hτ,hτp⟩:=I.trie
 refine ⟨dset d y t,I.closed,I.size,I.hr,I.ext,I.wide,I.defers,e1,⟨_,hdl⟩,st,fun j hj x hx=>?_,fun j hj=>inD_q.2 (.inr (I.sub j hj)),fun j hj=>I.loud j (by simpa using hj),fun j hj=>I.puts j (by simpa using hj),⟨τ,hτ,fun p=>⟨fun hP=>?_,fun hP=>?_⟩⟩,fun p hp=>?_,fun j hF hj hjL=>?_,fun j hj=>?_,fun j1 j2 q h1 h2=>I.apart j1 j2 q (by simpa using h1) (by simpa using h2),fun j1 j2 q q' x y h1 h2=>I.blocks j1 j2 q q' x y (by simpa using h1) (by simpa using h2)⟩
 ·rcases inD_q.1 hj with rfl | hj
  ·exact inD_q.2 (.inr (anc x hx))
  ·exact inD_q.2 (.inr (I.anc j hj x hx))
 ·obtain ⟨j,⟨hj,hjL⟩,hjw⟩:=hP
  rcases inD_q.1 hj with rfl | hj
  ·have hno:¬ ∃ m,inD pre m∧isW os m p:=fun ⟨m,hm,hmw⟩=>new (hw m j p hmw hjw▸hm)
   rw [(hτp p).2 fun ⟨m,⟨hm,_⟩,hmw⟩=>hno ⟨m,hm,hmw⟩]
   exact I.start p hno
  ·exact (hτp p).1 ⟨j,⟨hj,hjL⟩,hjw⟩
 ·have h1:¬ PendT os pre L p:=fun ⟨m,⟨hm,hmL⟩,hmw⟩=>hP ⟨m,⟨inD_q.2 (.inr hm),hmL⟩,hmw⟩
  rw [(hτp p).2 h1,hne p fun hi=>hP ⟨i,⟨inD_q.2 (.inl rfl),hLi⟩,hi⟩]
 ·rw [hne p fun hi=>hp ⟨i,inD_q.2 (.inl rfl),hi⟩]
  exact I.start p fun ⟨m,hm,hmw⟩=>hp ⟨m,inD_q.2 (.inr hm),hmw⟩
 ·by_cases hji:j=i
  ·subst hji
   have hv:=I.rdView rd
   refine ⟨o,g,d,ao,t,ho,hop,hqu,fun p hp=>⟨?_,(hv p hp).2⟩,?_⟩
   ·refine ⟨fun ⟨m,hm,hb⟩=>(hne p fun hi=>?_).symm,(hv p hp).1.2⟩
    have:=hw m j p hm hi
    subst this
    exact new (anc _ hb)
   ·rcases hval with ⟨h1,g',h2⟩ | ⟨h1,h2⟩
    ·exact .inl ⟨h1,y,g',h2,fun p hp=>dset_eq hp⟩
    ·exact .inr ⟨h1,fun p hp=>by rw [dset_eq hp,h2]⟩
  ·have hF:j∈freshQ pre:=by
    have:j∈i :: freshQ pre:=hF
    simpa [hji] using this
   have hj:(IK.q,j)∈pre:=by simpa [hji] using hj
   exact (I.quiet j hF hj hjL).turn (hview j (.inl hj)) (hdst j (.inl hj))
 ·have hj:(IK.r,j)∈pre:=by simpa using hj
  exact (I.alloc j hj).turn (hview j (.inr (.inr hj))) (hdst j (.inr (.inr hj))) rfl (fun _=>rfl) (Nat.le_refl _) (fun hn hm=>hn (List.mem_cons_of_mem _ hm))
theorem Inv.itemC {i:Nat} {g:Gd} {d:Ds} {ao:AO} {l:DL} (gd:r.good) (I:Inv P ng nt os al ev (·∈freshQ pre) φ0 h0 w0 t0 a0 k kp r pre (.ck i g d ao l) L φ h w t num a) :
  Inv P ng nt os al ev (·∈freshQ ((.c,i) :: pre)) φ0 h0 w0 t0 a0 k kp r ((.c,i) :: pre) l L φ h w t num a:=by
 obtain ⟨its,hd⟩:=I.dok
 cases hd with | c _ o l' _ _ _ _ ho hop hqu hdl=>
 cases I.stat with | c _ _ _ _ _ _ old rd st=>
 have e:wantK g t (onR (op ev ao t h .ok .pan) fun y=>dck d y t (dops ev l t h k kp)) (dck d .u t (dops ev l t h k kp))=r:=I.eqn
 have dck_ok:∀ {y:AV},dck d y t (dops ev l t h k kp)=r→dops ev l t h k kp=r∧∀ p,d=.to p→t.get .u p=y:=by
  intro y e
  cases d with
  | no=>exact ⟨e,fun p hp=>by cases hp⟩
  | to q=>
   have e1:getK .u q t (fun y'=>aeq y y' (dops ev l t h k kp))=r:=e
   rw [getK_eq] at e1
   obtain ⟨h1,h2⟩:=aeq_ok e1 gd
   exact ⟨h2,fun p hp=>by cases hp; exact h1.symm⟩
 obtain ⟨e1,hval⟩:dops ev l t h k kp=r∧((wants g t=true∧∃ y g',op ev ao t h .ok .pan=.ok y g'∧∀ p,d=.to p→t.get .u p=y)∨(wants g t=false∧∀ p,d=.to p→t.get .u p=.u)):=by
  rw [wantK_eq] at e
  cases hwt:wants g t with
  | true=>
   rw [hwt,if_pos rfl] at e
   obtain ⟨y,g',h1,h2⟩:=onR_ok e gd
   obtain ⟨h3,h4⟩:=dck_ok h2
   exact ⟨h3,.inl ⟨rfl,y,g',h1,h4⟩⟩
  | false=>
   rw [hwt,if_neg (by simp)] at e
   obtain ⟨h3,h4⟩:=dck_ok e
   exact ⟨h3,.inr ⟨rfl,h4⟩⟩
 obtain ⟨τ,hτ,hτp⟩:=I.trie
 have hP:∀ p,PendT os ((.c,i) :: pre) L p↔PendT os pre L p:=fun p=>by unfold PendT Pend; simp only [inD_c]
 refine ⟨I.closed,I.size,I.hr,I.ext,I.wide,I.defers,e1,⟨_,hdl⟩,st,fun j hj x hx=>inD_c.2 (I.anc j (inD_c.1 hj) x hx),fun j hj=>inD_c.2 (I.sub j hj),fun j hj=>I.loud j (by simpa using hj),fun j hj=>I.puts j (by simpa using hj),⟨τ,hτ,fun p=>by rw [hP]; exact hτp p⟩,fun p hp=>I.start p fun ⟨m,hm,hmw⟩=>hp ⟨m,inD_c.2 hm,hmw⟩,fun j hF hj hjL=>?_,fun j hj=>?_,fun j1 j2 q h1 h2=>I.apart j1 j2 q (by simpa using h1) (by simpa using h2),fun j1 j2 q q' x y h1 h2=>I.blocks j1 j2 q q' x y (by simpa using h1) (by simpa using h2)⟩
 ·have hj:(IK.q,j)∈pre:=by simpa using hj
  by_cases hji:j=i
  ·subst hji
   exact ⟨o,g,d,ao,t,ho,hop,hqu,I.rdView rd,hval⟩
  ·have hF:j∈freshQ pre:=by
    have:j∈i :: freshQ pre:=hF
    simpa [hji] using this
   exact I.quiet j hF hj hjL
 ·have hj:(IK.r,j)∈pre:=by simpa using hj
  exact (I.alloc j hj).turn (fun _ _ h=>h) (fun _ _=>rfl) rfl (fun _=>rfl) (Nat.le_refl _) (fun hn hm=>hn (List.mem_cons_of_mem _ hm))
theorem Inv.itemR {i:Nat} {g:Gd} {pp:Pos} {ak:AK} {l:DL} (hw:OneW os) (gd:r.good) (I:Inv P ng nt os al ev (·∈freshQ pre) φ0 h0 w0 t0 a0 k kp r pre (.rs i g pp ak l) L φ h w t num a) :
  ∃ t' g' num',Inv P ng nt os al ev (·∈freshQ ((.r,i) :: pre)) φ0 h0 w0 t0 a0 k kp r ((.r,i) :: pre) l L φ g' w t' num' a:=by
 obtain ⟨its,hd⟩:=I.dok
 cases hd with | r _ o l' _ _ _ _ ho hal hdl=>
 cases I.stat with | r _ _ _ _ _ _ new anc same rd st=>
 have e:wantK g t (resv ak t h fun y h=>setK .u y pp t fun t=>dops ev l t h k kp) (setK .u .u pp t fun t=>dops ev l t h k kp)=r:=I.eqn
 have hLi:L.getD i false=false:=by
  cases hL:L.getD i false with
  | false=>rfl
  | true=>exact absurd (I.sub i hL) new
 obtain ⟨y,g',num',e1,hhr,hext,hget,hnx,hnum,hval⟩:∃ (y:AV) (g':H) (num':Nat→Option Pos),dops ev l (t.set .u y pp) g' k kp=r∧HR P ng φ g' w∧Ext φ0 h0 w0 φ g' w∧(∀ q,g'.get q=h.get q)∧h.nx.val≤g'.nx.val∧(∀ j,j≠i→num' j=num j) ∧
   ((wants g t=false∧y=.u∧num' i=none)∨(wants g t=true∧num' i=some h.nx∧y=akV ak h.nx∧h.nx.val < g'.nx.val∧∃ cs,akC ak t cs)):=by
  rw [wantK_eq] at e
  cases hwt:wants g t with
  | true=>
   rw [hwt,if_pos rfl] at e
   obtain ⟨cs,h1,h2⟩:=resv_ok e gd
   rw [setK_eq] at h2
   refine ⟨_,h.skip,fun j=>if j=i then some h.nx else num j,h2,I.hr.skip,I.ext.skip,fun q=>H.get_skip _ _,?_,fun j hj=>if_neg hj,.inr ⟨rfl,if_pos rfl,rfl,?_,cs,h1⟩⟩
   ·show h.nx.val≤h.nx.suc.val
    rw [Pos.suc_val]; omega
   ·show h.nx.val < h.nx.suc.val
    rw [Pos.suc_val]; omega
  | false=>
   rw [hwt,if_neg (by simp),setK_eq] at e
   exact ⟨.u,h,fun j=>if j=i then none else num j,e,I.hr,I.ext,fun _=>rfl,Nat.le_refl _,fun j hj=>if_neg hj,.inl ⟨rfl,rfl,if_pos rfl⟩⟩
 have hiw:isW os i pp:=hal.isW ho
 have hne:∀ p,¬ isW os i p→(t.set .u y pp).get .u p=t.get .u p:=fun p hp=>by
  rw [PT.get_set,if_neg]
  intro e
  rw [e] at hp
  exact hp hiw
 have hself:(t.set .u y pp).get .u pp=y:=by rw [PT.get_set,if_pos rfl]
 have hview:∀ j,inD pre j→∀ p zq,View os t0 t j p zq→View os t0 (t.set .u y pp) j p zq:=fun j hj=>turn_view hw new I.anc hne hj
 have hdst:∀ j,inD pre j→∀ p,isW os j p→(t.set .u y pp).get .u p=t.get .u p:=fun j hj=>turn_dst hw new hne hj
 obtain ⟨τ,hτ,hτp⟩:=I.trie
 -- the numbers given so far lie below the next one
 have hbelow:∀ j q,(IK.r,j)∈pre→num j=some q→q.val < h.nx.val:=fun j q hj hq=>by
  obtain ⟨o,g,p,ak,τ,_,_,_,_,hval⟩:=I.alloc j hj
  rcases hval with ⟨_,_,h3⟩ | ⟨_,q',h2,_,_,h5,_⟩
  ·rw [hq] at h3; cases h3
  ·rw [hq] at h2; cases h2; exact h5
 have hold:∀ j,(IK.r,j)∈pre→j≠i:=fun j hj e=>new (e▸.inr (.inr hj))
 have hmem:∀ j,(IK.r,j)∈(IK.r,i) :: pre→j=i∨(IK.r,j)∈pre:=fun j hj=>by simpa using hj
 have hnum':∀ j q,(IK.r,j)∈(IK.r,i) :: pre→num' j=some q→(j=i∧q=h.nx)∨(j≠i∧(IK.r,j)∈pre∧num j=some q∧q.val < h.nx.val):=fun j q hj hq=>by
  rcases hmem j hj with rfl | hj
  ·rcases hval with ⟨_,_,h3⟩ | ⟨_,h2,_⟩
   ·rw [hq] at h3; cases h3
   ·rw [hq] at h2; cases h2; exact .inl ⟨rfl,rfl⟩
  ·rw [hnum j (hold j hj)] at hq
   exact .inr ⟨hold j hj,hj,hq,hbelow j q hj hq⟩
 refine ⟨_,g',num',I.closed,I.size,hhr,hext,I.wide,I.defers,e1,⟨_,hdl⟩,st,fun j hj x hx=>?_,fun j hj=>inD_r.2 (.inr (I.sub j hj)),fun j hj=>I.loud j (by simpa using hj),fun j hj=>I.puts j (by simpa using hj),⟨τ,hτ,fun p=>⟨fun hP=>?_,fun hP=>?_⟩⟩,fun p hp=>?_,fun j hF hj hjL=>?_,fun j hj=>?_,fun j1 j2 q h1 h2 h3 h4=>?_,fun j1 j2 q q' x y h1 h2 h3 h4 h5 h6 h7=>?_⟩
 ·rcases inD_r.1 hj with rfl | hj
  ·exact inD_r.2 (.inr (anc x hx))
  ·exact inD_r.2 (.inr (I.anc j hj x hx))
 ·obtain ⟨j,⟨hj,hjL⟩,hjw⟩:=hP
  rcases inD_r.1 hj with rfl | hj
  ·have hno:¬ ∃ m,inD pre m∧isW os m p:=fun ⟨m,hm,hmw⟩=>new (hw m j p hmw hjw▸hm)
   rw [(hτp p).2 fun ⟨m,⟨hm,_⟩,hmw⟩=>hno ⟨m,hm,hmw⟩]
   exact I.start p hno
  ·exact (hτp p).1 ⟨j,⟨hj,hjL⟩,hjw⟩
 ·have h1:¬ PendT os pre L p:=fun ⟨m,⟨hm,hmL⟩,hmw⟩=>hP ⟨m,⟨inD_r.2 (.inr hm),hmL⟩,hmw⟩
  rw [(hτp p).2 h1,hne p fun hi=>hP ⟨i,⟨inD_r.2 (.inl rfl),hLi⟩,hi⟩]
 ·rw [hne p fun hi=>hp ⟨i,inD_r.2 (.inl rfl),hi⟩]
  exact I.start p fun ⟨m,hm,hmw⟩=>hp ⟨m,inD_r.2 (.inr hm),hmw⟩
 ·cases (show j∈([]:List Nat) from hF)
 ·rcases hmem j hj with rfl | hj
  ·have hv:=I.rdView rd
   refine ⟨o,g,pp,ak,t,same,ho,hal,fun p hp=>⟨?_,(hv p hp).2⟩,?_⟩
   ·refine ⟨fun ⟨m,hm,hb⟩=>(hne p fun hi=>?_).symm,(hv p hp).1.2⟩
    have:=hw m j p hm hi
    subst this
    exact new (anc _ hb)
   ·rcases hval with ⟨h1,h2,h3⟩ | ⟨h1,h2,h3,h4,cs,h5⟩
    ·exact .inl ⟨h1,hself.trans h2,h3⟩
    ·refine .inr ⟨h1,h.nx,h2,hself.trans h3,I.ext.nx,h4,cs,h5,fun _=>⟨(hget _).trans I.hr.next_dead,fun _=>I.hr.fresh,fun hl=>?_⟩⟩
     rw [hLi] at hl; cases hl
  ·exact (I.alloc j hj).turn (hview j (.inr (.inr hj))) (hdst j (.inr (.inr hj))) (hnum j (hold j hj)) hget hnx (fun hn hm=>hn (List.mem_cons_of_mem _ hm))
 ·rcases hnum' j1 q h1 h3 with ⟨rfl,rfl⟩ | ⟨_,h5,h6,h7⟩
  ·rcases hnum' j2 _ h2 h4 with ⟨rfl,_⟩ | ⟨_,_,_,h7⟩
   ·rfl
   ·omega
  ·rcases hnum' j2 _ h2 h4 with ⟨_,rfl⟩ | ⟨_,h8,h9,_⟩
   ·omega
   ·exact I.apart j1 j2 q h5 h8 h6 h9
 ·rcases hnum' j1 q h1 h3 with ⟨_,rfl⟩ | ⟨_,k5,k6,_⟩
  ·rw [I.hr.fresh] at h5; cases h5
  ·rcases hnum' j2 q' h2 h4 with ⟨_,rfl⟩ | ⟨_,k8,k9,_⟩
   ·rw [I.hr.fresh] at h6; cases h6
   ·exact I.blocks j1 j2 q q' x y k5 k8 k6 k9 h5 h6 h7
end
end Go.Am
namespace Go.Am
section
variable {P:Program} {ng nt:Nat} {os:Array Oper} {al:Nat→Gd × Pos × AK} {ev:EV} {φ0 φ ψ:Ph} {h0 h g':H} {w0 w v:World} {t0 t t':T} {a0 a:Act} {k:T→H→R} {kp:AV→T→H→R} {r:R} {pre pre':Its} {dl:DL} {L:Array Bool} {num num':Nat→Option Pos} {F:Nat→Prop}
theorem Inv.nd (I:Inv P ng nt os al ev (fun _=>True) φ0 h0 w0 t0 a0 k kp r pre dl L φ h w t num a) {i:Nat} {o:Oper} (ho:os[i]?=some o) (hD:((IK.q,i)∈pre∧L.getD i false=false)∨(IK.r,i)∈pre):∀ c,o.op≠.defer c:=by
 rcases hD with ⟨h1,h2⟩ | h1
 ·obtain ⟨o',_,_,_,_,ho',hop,_⟩:=I.quiet i trivial h1 h2
  rw [ho] at ho'; cases ho'
  exact hop.op.nd
 ·obtain ⟨o',_,_,_,_,_,ho',hal,_⟩:=I.alloc i h1
  rw [ho] at ho'; cases ho'
  have:=hal.op
  intro c e
  rw [e] at this
  cases this
def isEnd:DL→Prop
 | .z | .l ..=>True
 | _=>False
theorem Inv.put1 {i:Nat} {g:Gd} {pp:Pos} {ak:AK} {l:DL} (gd:r.good) (I:Inv P ng nt os al ev F φ0 h0 w0 t0 a0 k kp r pre (.pt i g pp ak l) L φ h w t num a) (hL:L.getD i false=true) :
  ∃ g',Inv P ng nt os al ev (fun _=>False) φ0 h0 w0 t0 a0 k kp r ((.p,i) :: pre) l L φ g' w t num a:=by
 obtain ⟨its,hd⟩:=I.dok
 cases hd with | p _ o l' _ _ _ _ ho hal hdl=>
 cases I.stat with | p _ _ _ _ _ _ old one same rd bef po st=>
 have e:wantK g t (getK .u pp t fun y=>putO ak y t h fun h=>dops ev l t h k kp) (dops ev l t h k kp)=r:=I.eqn
 obtain ⟨o2,g2,p2,ak2,τ,hsm,ho2,hal2,hv,hval⟩:=I.alloc i old
 rw [same] at hsm; cases hsm
 rw [ho] at ho2; cases ho2
 have hag:Agree (gdT g ++ akT ak) t τ:=I.rdAgree rd fun p hp=>(hv p hp).1
 have hwt:=wants_congr hag.left
 have hP:∀ p,PendT os ((.p,i) :: pre) L p↔PendT os pre L p:=fun p=>by unfold PendT Pend; simp only [inD_p]
 obtain ⟨τt,hτ,hτp⟩:=I.trie
 have rest:∀ g',dops ev l t g' k kp=r→HR P ng φ g' w→Ext φ0 h0 w0 φ g' w→(∀ j,(IK.r,j)∈pre→RF P ng nt os al t0 h0 w0 ((.p,i) :: pre) L φ g' w t num j)→Inv P ng nt os al ev (fun _=>False) φ0 h0 w0 t0 a0 k kp r ((.p,i) :: pre) l L φ g' w t num a:=by
  intro g' e1 hhr hext hrf
  refine ⟨I.closed,I.size,hhr,hext,I.wide,I.defers,e1,⟨_,hdl⟩,st,fun j hj x hx=>inD_p.2 (I.anc j (inD_p.1 hj) x hx),fun j hj=>inD_p.2 (I.sub j hj),fun j hj=>I.loud j (by simpa using hj),fun j hj=>?_,⟨τt,hτ,fun p=>by rw [hP]; exact hτp p⟩,fun p hp=>I.start p fun ⟨m,hm,hmw⟩=>hp ⟨m,inD_p.2 hm,hmw⟩,fun j hF=>hF.elim,fun j hj=>hrf j (by simpa using hj),fun j1 j2 q h1 h2=>I.apart j1 j2 q (by simpa using h1) (by simpa using h2),fun j1 j2 q q' x y h1 h2=>I.blocks j1 j2 q q' x y (by simpa using h1) (by simpa using h2)⟩
  rcases List.mem_cons.1 hj with hj | hj
  ·cases hj; exact hL
  ·exact I.puts j hj
 rcases hval with ⟨h1,h2,h3⟩ | ⟨h1,q,h2,h3,h4,h5,cs,h6,h7⟩
 ·rw [wantK_eq,hwt,h1,if_neg (by simp)] at e
  exact ⟨h,rest h e I.hr I.ext fun j hj=>(I.alloc j hj).turn (fun _ _ h=>h) (fun _ _=>rfl) rfl (fun _=>rfl) (Nat.le_refl _) fun hn hm=>hn (List.mem_cons_of_mem _ hm)⟩
 ·rw [wantK_eq,hwt,h1,if_pos rfl,getK_eq,h3] at e
  have e1:=putO_ok e gd (akC_congr (fun p hp=>(hag.right p hp).symm) h6)
  obtain ⟨k1,k2,k3⟩:=h7 one
  obtain ⟨b,n,vs,m1,m2,m3,m4,m5⟩:=k3 hL
  refine ⟨h.put q (.row cs),rest _ e1 (I.hr.back m1 k1 m3 m4 m5) (I.ext.back m1 m2) fun j hj=>?_⟩
  obtain ⟨o3,g3,p3,ak3,τ3,n0,n1,n2,n3,n4⟩:=I.alloc j hj
  refine ⟨o3,g3,p3,ak3,τ3,n0,n1,n2,n3,?_⟩
  rcases n4 with n4 | ⟨n4,q3,n5,n6,n7,n8,cs3,n9,n10⟩
  ·exact .inl n4
  ·refine .inr ⟨n4,q3,n5,n6,n7,n8,cs3,n9,fun hnp=>?_⟩
   have hji:j≠i:=fun e=>hnp (e▸List.mem_cons_self)
   have hqq:q3≠q:=fun e=>hji (I.apart j i q hj old (e▸n5) h2)
   obtain ⟨n11,n12,n13⟩:=n10 fun hm=>hnp (List.mem_cons_of_mem _ hm)
   refine ⟨by rw [H.get_put,if_neg hqq]; exact n11,n12,fun hl=>?_⟩
   obtain ⟨b3,n3',vs3,x1,x2,x3,x4,x5⟩:=n13 hl
   refine ⟨b3,n3',vs3,x1,x2,x3,x4,fun ⟨r',y,hy,e,hm⟩=>?_⟩
   rw [H.get_put] at hm
   by_cases hr':r'=q
   ·subst hr'
    rw [m1] at hy; cases hy
    exact hji (I.blocks j i q3 r' _ _ hj old n5 h2 x1 m1 e.symm)
   ·rw [if_neg hr'] at hm
    exact x5 ⟨r',y,hy,e,hm⟩
theorem Inv.putAll (gd:r.good):∀ (dl:DL) (pre:Its) (h:H) (F:Nat→Prop),Inv P ng nt os al ev F φ0 h0 w0 t0 a0 k kp r pre dl L φ h w t num a→putsOnly dl→(∀ i,i < os.size→(∀ n,nextL dl=some n→Bef os i n)→L.getD i false=true) →
  ∃ pre' dl' g',Inv P ng nt os al ev (fun _=>False) φ0 h0 w0 t0 a0 k kp r pre' dl' L φ g' w t num a∧isEnd dl'∧nextL dl'=nextL dl∧∀ i,inD pre' i↔inD pre i:=by
 intro dl
 induction dl with
 | z=>intro pre h F I _ _; exact ⟨pre,.z,h,⟨I.closed,I.size,I.hr,I.ext,I.wide,I.defers,I.eqn,I.dok,I.stat,I.anc,I.sub,I.loud,I.puts,I.trie,I.start,fun j hF=>hF.elim,I.alloc,I.apart,I.blocks⟩,trivial,rfl,fun _=>Iff.rfl⟩
 | l n g d o l _=>intro pre h F I _ _; exact ⟨pre,.l n g d o l,h,⟨I.closed,I.size,I.hr,I.ext,I.wide,I.defers,I.eqn,I.dok,I.stat,I.anc,I.sub,I.loud,I.puts,I.trie,I.start,fun j hF=>hF.elim,I.alloc,I.apart,I.blocks⟩,trivial,rfl,fun _=>Iff.rfl⟩
 | pt i g p o l ih=>
  intro pre h F I hp hall
  have hL:L.getD i false=true:=by
   obtain ⟨its,hd⟩:=I.dok
   cases hd with | p _ o l' _ _ _ _ ho hal hdl=>
   cases I.stat with | p _ _ _ _ _ _ old one same rd bef po st=>exact hall i (Array.getElem?_eq_some_iff.1 ho).1 bef
  obtain ⟨g',I'⟩:=I.put1 gd hL
  obtain ⟨pre',dl',g'',I'',h1,h2,h3⟩:=ih _ _ _ I' hp hall
  exact ⟨pre',dl',g'',I'',h1,h2,fun i=>(h3 i).trans inD_p⟩
 | q i g d o l _=>intro pre h F I hp; exact hp.elim
 | ck i g d o l _=>intro pre h F I hp; exact hp.elim
 | rs i g p o l _=>intro pre h F I hp; exact hp.elim
theorem Stat.next:∀ {dl:DL} {pre:Its},Stat os al pre dl→putsOnly dl→∀ i,i < os.size→¬ inD pre i→∃ n,nextL dl=some n∧¬ inD pre n∧(i=n∨Bef os n i):=by
 intro dl
 induction dl with
 | z=>intro pre st _ i hi hn; cases st with | z _ all fr=>exact absurd (all i hi) hn
 | l n g d o l _=>intro pre st _ i hi hn; cases st with | l _ _ _ _ _ _ new bnd fr rd t=>exact ⟨n,rfl,new,bnd i hi hn⟩
 | pt j g p o l ih=>
  intro pre st hp i hi hn
  cases st with | p _ _ _ _ _ _ old one same rd bef po t=>
  obtain ⟨n,h1,h2,h3⟩:=ih t hp i hi (fun h=>hn (inD_p.1 h))
  exact ⟨n,h1,fun h=>h2 (inD_p.2 h),h3⟩
 | q i g d o l _=>intro pre st hp; exact hp.elim
 | ck i g d o l _=>intro pre st hp; exact hp.elim
 | rs i g p o l _=>intro pre st hp; exact hp.elim
theorem Stat.fresh:∀ {dl:DL} {pre:Its},Stat os al pre dl→putsOnly dl→FreshOK os pre:=by
 intro dl
 induction dl with
 | z=>intro pre st _; cases st with | z _ all fr=>exact fr
 | l n g d o l _=>intro pre st _; cases st with | l _ _ _ _ _ _ new bnd fr rd t=>exact fr
 | pt j g p o l ih=>
  intro pre st hp
  cases st with | p _ _ _ _ _ _ old one same rd bef po t=>
  intro i hi
  rcases ih t hp i (List.mem_cons_of_mem _ hi) with h | ⟨n,h1,h2⟩
  ·exact .inl h
  ·exact .inr ⟨n,by simpa using h1,h2⟩
 | q i g d o l _=>intro pre st hp; exact hp.elim
 | ck i g d o l _=>intro pre st hp; exact hp.elim
 | rs i g p o l _=>intro pre st hp; exact hp.elim
theorem Inv.full (I:Inv P ng nt os al ev (·∈freshQ pre) φ0 h0 w0 t0 a0 k kp r pre dl L φ h w t num a) (hb:putsOnly dl):Inv P ng nt os al ev (fun _=>True) φ0 h0 w0 t0 a0 k kp r pre dl L φ h w t num a:=
 ⟨I.closed,I.size,I.hr,I.ext,I.wide,I.defers,I.eqn,I.dok,I.stat,I.anc,I.sub,I.loud,I.puts,I.trie,I.start,(fun j _ hj hjL=>by
  rcases I.stat.fresh hb j hj with h1 | ⟨n,h1,h2⟩
  ·exact I.quiet j h1 hj hjL
  ·have:=I.closed j n (I.loud n h1) h2
   rw [hjL] at this; cases this),I.alloc,I.apart,I.blocks⟩
theorem Inv.settle (hw:OneW os) (gd:r.good):∀ (dl:DL) (pre:Its) (h:H) (t:T) (num:Nat→Option Pos),Inv P ng nt os al ev (·∈freshQ pre) φ0 h0 w0 t0 a0 k kp r pre dl L φ h w t num a →
  ∃ pre' dl' h' t' num',Inv P ng nt os al ev (fun _=>True) φ0 h0 w0 t0 a0 k kp r pre' dl' L φ h' w t' num' a∧putsOnly dl':=by
 intro dl
 induction dl with
 | z=>intro pre h t num I; exact ⟨pre,_,h,t,num,I.full trivial,trivial⟩
 | l n g d o l _=>intro pre h t num I; exact ⟨pre,_,h,t,num,I.full trivial,trivial⟩
 | pt i g p o l _=>
  intro pre h t num I
  have hb:putsOnly (.pt i g p o l):=by
   cases I.stat with | p _ _ _ _ _ _ old one same rd bef po st=>exact po
  exact ⟨pre,_,h,t,num,I.full hb,hb⟩
 | q i g d o l ih=>
  intro pre h t num I
  obtain ⟨t',I'⟩:=I.itemQ hw gd
  exact ih _ _ _ _ I'
 | ck i g d o l ih=>intro pre h t num I; exact ih _ _ _ _ (I.itemC gd)
 | rs i g p o l ih=>
  intro pre h t num I
  obtain ⟨t',g',num',I'⟩:=I.itemR hw gd
  exact ih _ _ _ _ I'
theorem Inv.stepL {n:Nat} {g:Gd} {d:Ds} {ao:AO} {l:DL} (hev:EvOK P ng ev) (hw:OneW os) (gd:r.good) (I:Inv P ng nt os al ev (fun _=>False) φ0 h0 w0 t0 a0 k kp r pre (.l n g d ao l) L φ h w t num a) (hi:n∈Region.ready .any os L) (kt:Pos→Prop) (hkt:∀ p,kt p→¬ ∃ i,isW os i p)
  (Q:Exit→Act→World→Prop)
  (hP:∀ ψ g v t' a' c y,HR P ng ψ g v→Ext φ0 h0 w0 ψ g v→TRk ψ t' a'.tmps kt→nt≤a'.tmps.size→a'.defers=a0.defers→VR ψ y c→kp y t' g=r→Q (.panic [{ v:=c,recovered:=false }]) a' v)
  (ro:Option Nat) (K:Act→World→Prop)
  (hK:∀ pre' ψ g' v t' num' a',Inv P ng nt os al ev (·∈freshQ pre') φ0 h0 w0 t0 a0 k kp r pre' l (L.setIfInBounds n true) ψ g' v t' num' a'→K a' v):wpOpIn (fen ro) 0 P os Q n K a w:=by
 obtain ⟨its,hd⟩:=I.dok
 cases hd with | l _ o l' _ _ _ _ ho hop hdl=>
 cases I.stat with | l _ _ _ _ _ _ new bnd fr rd st=>
 have e:wantK g t (op ev ao t h (fun v h=>putK d v t fun t=>dops ev l t h k kp) fun v h=>kp v t h) (putK d .u t fun t=>dops ev l t h k kp)=r:=I.eqn
 obtain ⟨τ,hτ,hτp⟩:=I.trie
 have hLn:=ready_new hi
 have hlt:n < L.size:=by rw [I.size]; exact (Array.getElem?_eq_some_iff.1 ho).1
 have hag:Agree (gdT g ++ opT ao) t τ:=by
  intro p hp
  refine ((hτp p).2 fun ⟨m,⟨hm,hmL⟩,hmw⟩=>?_).symm
  rcases rd p hp m hmw with h1 | h1
  ·rw [ready_bef I.closed hi m h1] at hmL; cases hmL
  ·exact h1.1 hm
 have hwt:=wants_ok (o:=o) hop.guard hτ I.wide
 rw [← wants_congr hag.left] at hwt
 have hdst:∀ d,o.dst=some d→d < a.tmps.size:=fun d' hd'=>by
  have:=hop.dst
  rw [hd'] at this
  cases this with
  | to _ _ _ hlt'=>exact Nat.lt_of_lt_of_le hlt' I.wide
 have hne:∀ y p,¬ isW os n p→(dset d y t).get .u p=t.get .u p:=fun y p hp=>dset_ne fun e=>hp (isW_to ho (e▸hop.dst))
 -- whatever the operation gave
 have rest:∀ ψ g' v y c,VR ψ y c→HR P ng ψ g' v→Ext φ h w ψ g' v→dops ev l (dset d y t) g' k kp=r→K (a.put o.dst c) v:=by
  intro ψ g' v y c hv hr' hx e1
  have hview:∀ j,inD pre j→∀ p zq,View os t0 t j p zq→View os t0 (dset d y t) j p zq:=fun j hj=>turn_view hw new I.anc (hne y) hj
  have hdst':∀ j,inD pre j→∀ p,isW os j p→(dset d y t).get .u p=t.get .u p:=fun j hj=>turn_dst hw new (hne y) hj
  have hanc':∀ x,Bef os x n→inD pre x:=fun x hx=>I.sub x (ready_bef I.closed hi x hx)
  have hPt:∀ p,PendT os ((.l,n) :: pre) (L.setIfInBounds n true) p↔PendT os pre L p:=by
   intro p
   constructor
   ·rintro ⟨m,⟨hm,hmL⟩,hmw⟩
    have hmn:n≠m:=fun e=>by subst e; simp [hlt] at hmL
    rw [getD_set_ne false hmn] at hmL
    rcases inD_l.1 hm with e | hm
    ·exact absurd e.symm hmn
    ·exact ⟨m,⟨hm,hmL⟩,hmw⟩
   ·rintro ⟨m,⟨hm,hmL⟩,hmw⟩
    have hmn:n≠m:=fun e=>by subst e; exact new hm
    exact ⟨m,⟨inD_l.2 (.inr hm),by rw [getD_set_ne false hmn]; exact hmL⟩,hmw⟩
  have hnP:∀ p,isW os n p→¬ PendT os pre L p:=fun p hp ⟨m,⟨hm,_⟩,hmw⟩=>new (hw m n p hmw hp▸hm)
  refine hK ((.l,n) :: pre) ψ g' v (dset d y t) num (a.put o.dst c) ⟨I.closed.add hi,by simp [I.size],hr',I.ext.trans hx,?_,?_,e1,⟨_,hdl⟩,st,fun j hj x hx=>?_,fun j hj=>?_,fun j hj=>?_,fun j hj=>getD_set_true (I.puts j (by simpa using hj)),?_,fun p hp=>?_,fun j hF=>?_,fun j hj=>?_,fun j1 j2 q h1 h2=>I.apart j1 j2 q (by simpa using h1) (by simpa using h2),fun j1 j2 q q' x y h1 h2 h3 h4 h5 h6=>?_⟩
  ·cases hd:o.dst<;>simp [Act.put,I.wide]
  ·cases hd:o.dst<;>simp [Act.put,I.defers]
  ·rcases inD_l.1 hj with rfl | hj
   ·exact inD_l.2 (.inr (hanc' x hx))
   ·exact inD_l.2 (.inr (I.anc j hj x hx))
  ·by_cases hjn:n=j
   ·exact inD_l.2 (.inl hjn.symm)
   ·rw [getD_set_ne false hjn] at hj
    exact inD_l.2 (.inr (I.sub j hj))
  ·rcases List.mem_cons.1 hj with hj | hj
   ·cases hj
    simp [hlt]
   ·exact getD_set_true (I.loud j hj)
  ·have hτ':=hτ.mono hx.mono
   cases hdo:o.dst with
   | none=>
    refine ⟨τ,hτ',fun p=>?_⟩
    have hnw:¬ isW os n p:=fun ⟨o',tt,ho',hd',_⟩=>by rw [ho] at ho'; cases ho'; rw [hdo] at hd'; cases hd'
    rw [hPt,hne y p hnw]
    exact hτp p
   | some dd=>
    obtain ⟨q,hq⟩:∃ q:Pos,q.val=dd + 1:=Pos.val_surj dd
    have hwq:isW os n q:=⟨o,dd,ho,hdo,hq⟩
    have hdq:d=.to q:=isW_dst ho hop.dst hwq
    refine ⟨τ.set .u y q,hτ'.set hv hq (hdst dd hdo),fun p=>?_⟩
    rw [hPt,PT.get_set]
    by_cases hpq:p=q
    ·subst hpq
     rw [if_pos rfl,dset_eq hdq]
     exact ⟨fun hp=>absurd hp (hnP p hwq),fun _=>rfl⟩
    ·rw [if_neg hpq,dset_ne fun e=>hpq (by rw [hdq] at e; cases e; rfl)]
     exact hτp p
  ·rw [hne y p fun hi=>hp ⟨n,inD_l.2 (.inl rfl),hi⟩]
   exact I.start p fun ⟨m,hm,hmw⟩=>hp ⟨m,inD_l.2 (.inr hm),hmw⟩
  ·cases (show j∈([]:List Nat) from hF)
  ·have hj:(IK.r,j)∈pre:=by simpa using hj
   have hjn:n≠j:=fun e=>new (e▸.inr (.inr hj))
   exact (I.alloc j hj).loud hx I.hr hr' (getD_set_ne false hjn) (hview j (.inr (.inr hj))) (hdst' j (.inr (.inr hj))) fun hn hm=>hn (List.mem_cons_of_mem _ hm)
  ·have hj1:(IK.r,j1)∈pre:=by simpa using h1
   have hj2:(IK.r,j2)∈pre:=by simpa using h2
   have below:∀ j q,(IK.r,j)∈pre→num j=some q→q.val < h.nx.val:=fun j q hj hq=>by
    obtain ⟨_,_,_,_,_,_,_,_,_,hval⟩:=I.alloc j hj
    rcases hval with ⟨_,_,h3⟩ | ⟨_,q',h2,_,_,h5,_⟩
    ·rw [hq] at h3; cases h3
    ·rw [hq] at h2; cases h2; exact h5
   rw [hx.old q (below j1 q hj1 h3)] at h5
   rw [hx.old q' (below j2 q' hj2 h4)] at h6
   exact I.blocks j1 j2 q q' x y hj1 hj2 h3 h4 h5 h6
 unfold wpOpIn
 simp only [ho]
 rw [wantK_eq] at e
 cases hwg:wants g t with
 | true=>
  rw [hwg] at hwt
  rw [hwg,if_pos rfl,op_congr hag.right] at e
  rw [if_pos hwt]
  refine op_done hop.op hev I.hr hτ I.wide e gd ro _ _ (fun ψ g' v y c hv hr' hx e3=>?_) (fun ψ g' v y c hv hr' hx e3=>?_)
  ·have e3:putK d y t (fun t=>dops ev l t g' k kp)=r:=e3
   rw [putK_eq] at e3
   exact rest ψ g' v y c hv hr' hx e3
  ·refine hP ψ g' v t a c y hr' (I.ext.trans hx) (fun p hp hps=>?_) I.wide I.defers hv e3
   have h1:=(hτ.mono hx.mono).val p hps
   rw [(hτp p).2 fun ⟨m,_,hmw⟩=>hkt p hp ⟨m,hmw⟩] at h1
   exact h1
 | false=>
  rw [hwg] at hwt
  rw [hwg,if_neg (by simp),putK_eq] at e
  rw [if_neg (by rw [hwt]; simp)]
  refine ⟨fun _ _=>trivial,?_⟩
  exact rest φ h w .u undef rfl I.hr (.refl _ _ _) e
theorem RankOK.all {rk:Nat→Nat} (hrk:RankOK os rk) (hs:L.size=os.size) (hr:Region.ready .any os L=[]):∀ i,i < os.size→L.getD i false=true:=by
 have key:∀ n i,rk i < n→i < os.size→L.getD i false=true:=by
  intro n
  induction n with
  | zero=>intro i h; omega
  | succ n ih=>
   intro i hi hlt
   refine Classical.byContradiction fun hne=>?_
   have:i∈Region.ready .any os L:=by
    refine mem_ready.2 ⟨?_,os[i],by simp [hlt],fun e he hb=>?_⟩
    ·have h1:i < L.size:=by omega
     simp [h1] at hne ⊢
     exact hne
    ·obtain ⟨h1,h2⟩:=hrk i os[i] e (by simp [hlt]) he hb
     exact ih e.on (by omega) h1
   rw [hr] at this
   cases this
 intro i hi
 exact key (rk i + 1) i (Nat.lt_succ_self _) hi
def left (L:Array Bool):Nat:=(L.toList.filter (!·)).length
theorem left_set {i:Nat} (hi:L.getD i true=false):left (L.setIfInBounds i true) + 1=left L:=by
 have hlt:i < L.size:=by
  rcases Nat.lt_or_ge i L.size with h | h
  ·exact h
  ·simp [Array.getElem?_eq_none h] at hi
 have hL:L[i]=false:=by simpa [hlt] using hi
 unfold left
 rw [Array.toList_setIfInBounds]
 have key:∀ (l:List Bool) (i:Nat) (h:i < l.length),l[i]=false→((l.set i true).filter (!·)).length + 1=(l.filter (!·)).length:=by
  intro l
  induction l with
  | nil=>intro i h; simp at h
  | cons x l ih=>
   intro i h hx
   cases i with
   | zero=>
    have:x=false:=by simpa using hx
    subst this; simp
   | succ i=>
    have:=ih i (by simpa using h) (by simpa using hx)
    cases x<;>simp<;>omega
 exact key L.toList i (by simpa using hlt) (by simpa using hL)
theorem Inv.run (hev:EvOK P ng ev) (hw:OneW os) {rk:Nat→Nat} (hrk:RankOK os rk) (gd:r.good) (kt:Pos→Prop) (hkt:∀ p,kt p→¬ ∃ i,isW os i p) (ro:Option Nat) (Q:Exit→Act→World→Prop)
  (hN:∀ ψ g v t' a',HR P ng ψ g v→Ext φ0 h0 w0 ψ g v→TR ψ t' a'.tmps→nt≤a'.tmps.size→a'.defers=a0.defers→k t' g=r→Q .normal a' v)
  (hP:∀ ψ g v t' a' c y,HR P ng ψ g v→Ext φ0 h0 w0 ψ g v→TRk ψ t' a'.tmps kt→nt≤a'.tmps.size→a'.defers=a0.defers→VR ψ y c→kp y t' g=r→Q (.panic [{ v:=c,recovered:=false }]) a' v) :
  ∀ (fuel:Nat) (L:Array Bool) (pre:Its) (dl:DL) (φ:Ph) (h:H) (w:World) (t:T) (num:Nat→Option Pos) (a:Act),left L≤fuel →
   Inv P ng nt os al ev (fun _=>True) φ0 h0 w0 t0 a0 k kp r pre dl L φ h w t num a→putsOnly dl→wpAnyIn (fen ro) 0 P .any os Q fuel L a w:=by
 intro fuel
 have fin:∀ (L:Array Bool) (pre:Its) (dl:DL) (φ:Ph) (h:H) (w:World) (t:T) (num:Nat→Option Pos) (a:Act),Inv P ng nt os al ev (fun _=>True) φ0 h0 w0 t0 a0 k kp r pre dl L φ h w t num a→putsOnly dl→Region.ready .any os L=[]→Q .normal a w:=by
  intro L pre dl φ h w t num a I hb hr
  have hall:=hrk.all I.size hr
  have hz:nextL dl=none:=by
   cases hn:nextL dl with
   | none=>rfl
   | some n=>
    -- the next loud operation is listed,hence evaluated
    have:∀ {dl:DL} {pre:Its},Stat os al pre dl→putsOnly dl→(∃ its,DOK P ng nt os its dl)→nextL dl=some n→¬ inD pre n∧n < os.size:=by
     intro dl
     induction dl with
     | z=>intro pre _ _ _ h; cases h
     | l m g d o l _=>
      intro pre st _ ⟨its,hd⟩ h
      cases h
      cases st with | l _ _ _ _ _ _ new bnd fr rd t=>
      cases hd with | l _ o l' _ _ _ _ ho hop hdl=>exact ⟨new,(Array.getElem?_eq_some_iff.1 ho).1⟩
     | pt j g p o l ih=>
      intro pre st hp ⟨its,hd⟩ h
      cases st with | p _ _ _ _ _ _ old one same rd bef po t=>
      cases hd with | p _ o l' _ _ _ _ ho hal hdl=>
      obtain ⟨h1,h2⟩:=ih t hp ⟨_,hdl⟩ h
      exact ⟨fun h=>h1 (inD_p.2 h),h2⟩
     | q i g d o l _=>intro pre st hp; exact hp.elim
     | ck i g d o l _=>intro pre st hp; exact hp.elim
     | rs i g p o l _=>intro pre st hp; exact hp.elim
    obtain ⟨h1,h2⟩:=this I.stat hb I.dok hn
    exact absurd (I.sub n (hall n h2)) h1
  obtain ⟨pre',dl',g',I',h1,h2,h3⟩:=I.putAll gd dl pre h _ hb fun i hlt _=>hall i hlt
  rw [hz] at h2
  cases dl' with
  | z=>
   obtain ⟨τ,hτ,hτp⟩:=I'.trie
   have hno:∀ p,¬ PendT os pre' L p:=fun p ⟨m,⟨_,hmL⟩,o,_,ho,_⟩=>by
    rw [hall m (Array.getElem?_eq_some_iff.1 ho).1] at hmL; cases hmL
   have e:k t g'=r:=I'.eqn
   refine hN φ g' w t a I'.hr I'.ext ⟨fun p hp=>?_⟩ I'.wide I'.defers e
   rw [← (hτp p).2 (hno p)]
   exact hτ.val p hp
  | l=>cases h2
  | _=>exact h1.elim
 induction fuel with
 | zero=>
  intro L pre dl φ h w t num a hf I hb
  have hr:Region.ready .any os L=[]:=by
   refine List.eq_nil_iff_forall_not_mem.2 fun i hi=>?_
   have:=left_set (mem_ready.1 hi).1
   omega
  exact ⟨hr,fin L pre dl φ h w t num a I hb hr⟩
 | succ fuel ih=>
  intro L pre dl φ h w t num a hf I hb
  refine ⟨fin L pre dl φ h w t num a I hb,fun i hi=>?_⟩
  have hleft:left (L.setIfInBounds i true)≤fuel:=by
   have:=left_set (mem_ready.1 hi).1
   omega
  by_cases hD:inD pre i
  ·rcases hD with hq | hl | hr
   ·obtain ⟨o,c,ho,hrun,I'⟩:=I.stepQ hw hi trivial hq
    have hnext:=ih _ pre dl φ h w t num _ hleft I' hb
    unfold wpOpIn
    simp only [ho]
    rcases hrun with ⟨h1,h2⟩ | ⟨h1,rfl⟩
    ·rw [if_pos h1]
     refine wpIn_of_run (I.nd ho (.inl ⟨hq,ready_new hi⟩)) ?_
     rw [h2]
     exact hnext
    ·rw [if_neg (by rw [h1]; simp)]
     exact ⟨fun _ _=>trivial,hnext⟩
   ·have:=I.loud i hl
    rw [ready_new hi] at this; cases this
   ·obtain ⟨o,c,w',φ',ho,hrun,I'⟩:=I.stepR hw hi hr
    have hnext:=ih _ pre dl φ' h w' t num _ hleft I' hb
    unfold wpOpIn
    simp only [ho]
    rcases hrun with ⟨h1,h2⟩ | ⟨h1,rfl,rfl⟩
    ·rw [if_pos h1]
     refine wpIn_of_run (I.nd ho (.inr hr)) ?_
     rw [h2]
     exact hnext
    ·rw [if_neg (by rw [h1]; simp)]
     exact ⟨fun _ _=>trivial,hnext⟩
  ·have hlt:i < os.size:=by
    obtain ⟨_,o,ho,_⟩:=mem_ready.1 hi
    exact (Array.getElem?_eq_some_iff.1 ho).1
   obtain ⟨n,h1,h2,h3⟩:=I.stat.next hb i hlt hD
   have hin:i=n:=by
    rcases h3 with h3 | h3
    ·exact h3
    ·exact absurd (I.sub n (ready_bef I.closed hi n h3)) h2
   subst hin
   obtain ⟨pre',dl',g',I',k1,k2,k3⟩:=I.putAll gd dl pre h _ hb fun j _ hj=>ready_bef I.closed hi j (hj i h1)
   rw [h1] at k2
   cases dl' with
   | z=>cases k2
   | l m g d o l=>
    have:m=i:=by
     have:some m=some i:=k2
     cases this; rfl
    subst this
    refine I'.stepL hev hw gd hi kt hkt Q hP ro _ fun pre2 ψ g2 v t2 num2 a2 I2=>?_
    obtain ⟨pre3,dl3,h3',t3,num3,I3,hb3⟩:=Inv.settle hw gd _ _ _ _ _ I2
    exact ih _ pre3 dl3 ψ h3' v t3 num3 a2 hleft I3 hb3
   | _=>exact k1.elim
theorem region_ok (hev:EvOK P ng ev) {rk:Nat→Nat} {its:Its} {x:DL} (hd:DOK P ng nt os its x) (hst:Stat os al [] x) (hw:OneW os) (hrk:RankOK os rk) (gd:r.good) (kt:Pos→Prop) (hkt:∀ p,kt p→¬ ∃ i,isW os i p) (hm:P.follows .mixedOrders=true) {id:Nat}
  (ro:Option Nat) (Q:Exit→Act→World→Prop) (hr:HR P ng φ h w) (ht:TR φ t a.tmps) (hn:nt≤a.tmps.size) (e:dops ev x t h k kp=r)
  (hN:∀ ψ g v t' a',HR P ng ψ g v→Ext φ h w ψ g v→TR ψ t' a'.tmps→nt≤a'.tmps.size→a'.defers=a.defers→k t' g=r→Q .normal a' v)
  (hP:∀ ψ g v t' a' c y,HR P ng ψ g v→Ext φ h w ψ g v→TRk ψ t' a'.tmps kt→nt≤a'.tmps.size→a'.defers=a.defers→VR ψ y c→kp y t' g=r→Q (.panic [{ v:=c,recovered:=false }]) a' v) :
  (Code.region id os true).wpIn (fen ro) 0 P Q a w:=by
 refine wpIn_region_any hm ?_
 have hno:∀ i,¬ inD [] i:=fun i h=>by unfold inD at h; simp at h
 have hrep:∀ i,(Array.replicate os.size false).getD i false=false:=fun i=>by
  rcases Nat.lt_or_ge i os.size with h | h
  ·simp [h]
  ·simp [Array.getElem?_eq_none,h]
 have I0:Inv P ng nt os al ev (·∈freshQ []) φ h { w with drawn:=w.drawn + 1 } t a k kp r [] x (Array.replicate os.size false) φ h { w with drawn:=w.drawn + 1 } t (fun _=>none) a:=by
  refine ⟨fun x y hy=>?_,by simp,hr.drew,.refl _ _ _,hn,rfl,e,⟨its,hd⟩,hst,fun i hi=>absurd hi (hno i),fun i hi=>?_,fun i hi=>(by cases hi),fun i hi=>(by cases hi),⟨t,ht,fun p=>⟨fun _=>rfl,fun _=>rfl⟩⟩,fun _ _=>rfl,fun j hF=>(by cases hF),fun i hi=>(by cases hi),fun i j q hi=>(by cases hi),fun i j q q' x y hi=>(by cases hi)⟩
  ·rw [hrep] at hy; cases hy
  ·rw [hrep] at hi; cases hi
 obtain ⟨pre1,dl1,h1,t1,num1,I1,hb1⟩:=Inv.settle hw gd _ _ _ _ _ I0
 refine Inv.run hev hw hrk gd kt hkt ro Q (fun ψ g v t' a' k1 k2=>hN ψ g v t' a' k1 ((Ext.drew _ _ _).trans k2)) (fun ψ g v t' a' c y k1 k2=>hP ψ g v t' a' c y k1 ((Ext.drew _ _ _).trans k2)) os.size _ pre1 dl1 φ h1 _ t1 num1 a ?_ I1 hb1
 unfold left
 exact Nat.le_trans (List.length_filter_le _ _) (by simp)
end
end Go.Am
namespace Go.Am
section
variable {P:Program} {ng nt:Nat} {φ ψ φ0:Ph} {h g h0:H} {w v w0 w':World} {t:T} {a:Act} {r:R}
theorem HR.push (k:HR P ng φ h w) (b:Obj):HR P ng φ h (w.alloc b):=by
 have hold:∀ c,c < w.heap.size→(w.alloc b).heap[c]?=w.heap[c]?:=fun c hc=>by
  show (w.heap.push b)[c]?=_
  rw [Array.getElem?_push,if_neg (by omega)]
 exact ⟨fun r hr=>by
  obtain ⟨x,hx,o⟩:=k.obj r hr
  exact ⟨x,hx,o.same (hold _ (k.bnd _ _ hx))⟩,k.inj,k.dom,fun r x hx=>by
  have:=k.bnd r x hx
  show x.1 < (w.heap.push b).size
  simp; omega,k.glob,k.gone⟩
theorem Ext.push (k:Ext φ0 h0 w0 φ h w) (b:Obj):Ext φ0 h0 w0 φ h (w.alloc b):=by
 have hs:=k.size
 exact ⟨k.mono,by
  show _≤(w.heap.push b).size
  simp; omega,k.tape,k.os,k.output,k.own,fun c hc hno=>by
  show (w.heap.push b)[c]?=_
  rw [Array.getElem?_push,if_neg (by omega)]
  exact k.keep c hc hno,k.nx,k.old,k.live⟩
theorem HR.other (k:HR P ng φ h w) {b:Nat} (o:Obj) (hno:¬ lives φ h b):HR P ng φ h (w.putObj b o):=
 ⟨fun r hr=>by
  obtain ⟨x,hx,oo⟩:=k.obj r hr
  exact ⟨x,hx,oo.same (World.putObj_heap_other fun e=>hno ⟨r,x,hx,e,hr⟩)⟩,k.inj,k.dom,fun r x hx=>by
  rw [World.putObj_size]; exact k.bnd r x hx,k.glob,k.gone⟩
theorem Ext.other (k:Ext φ0 h0 w0 φ h w) {b:Nat} (o:Obj) (hb:owned φ0 h0 b∨w0.heap.size≤b):Ext φ0 h0 w0 φ h (w.putObj b o):=
 ⟨k.mono,by rw [World.putObj_size]; exact k.size,k.tape,k.os,k.output,k.own,fun c hc hno=>by
  have hne:c≠b:=fun e=>by
   subst e
   rcases hb with hb | hb
   ·exact hno hb
   ·omega
  rw [World.putObj_heap_other hne]
  exact k.keep c hc hno,k.nx,k.old,k.live⟩
theorem HR.backO (k:HR P ng φ h w) {q:Pos} {x:Nat × Nat × Nat} {o:Ob} (hq:φ q=some x) (hor:OR P ng φ w x o) (hno:¬ lives φ h x.1):HR P ng φ (h.put q o) w:=by
 refine ⟨fun r hr=>?_,fun r p y z hrm hpd hy hz e=>?_,k.dom,k.bnd,k.glob,k.gone⟩
 ·rw [H.get_put] at hr ⊢
  by_cases e:r=q
  ·subst e; rw [if_pos rfl]; exact ⟨_,hq,hor⟩
  ·rw [if_neg e] at hr ⊢; exact k.obj r hr
 ·rw [H.get_put] at hrm hpd
  by_cases e1:r=q
  ·by_cases e2:p=q
   ·rw [e1,e2]
   ·rw [if_neg e2] at hpd
    subst e1
    rw [hq] at hy; cases hy
    exact absurd ⟨p,z,hz,e.symm,hpd⟩ hno
  ·rw [if_neg e1] at hrm
   by_cases e2:p=q
   ·subst e2
    rw [hq] at hz; cases hz
    exact absurd ⟨r,y,hy,e,Ob.mine_lives hrm⟩ hno
   ·rw [if_neg e2] at hpd
    exact k.inj r p y z hrm hpd hy hz e
theorem Ext.backO (k:Ext φ0 h0 w0 φ h w) {q:Pos} {x:Nat × Nat × Nat} {o:Ob} (hq:φ q=some x) (hb:owned φ0 h0 x.1∨w0.heap.size≤x.1):Ext φ0 h0 w0 φ (h.put q o) w:=by
 refine ⟨k.mono,k.size,k.tape,k.os,k.output,fun c hc ⟨r,y,hy,e,hm⟩=>?_,k.keep,k.nx,k.old,fun c hc ⟨r,y,hy,e,hm⟩=>?_⟩
 ·rw [H.get_put] at hm
  split at hm
  ·rename_i e'; subst e'; rw [hq] at hy; cases hy
   rcases hb with hb | hb
   ·rw [e] at hb; exact hb
   ·omega
  ·exact k.own c hc ⟨r,y,hy,e,hm⟩
 ·rw [H.get_put] at hm
  split at hm
  ·rename_i e'; subst e'; rw [hq] at hy; cases hy
   rcases hb with hb | hb
   ·rw [e] at hb; obtain ⟨r,y,h1,h2,h3⟩:=hb; exact ⟨r,y,h1,h2,Ob.mine_lives h3⟩
   ·omega
  ·exact k.live c hc ⟨r,y,hy,e,hm⟩
theorem HR.kill (k:HR P ng φ h w) (q:Pos):HR P ng φ (h.put q .dead) w:=by
 refine ⟨fun r hr=>?_,fun r p y z hrm hpd hy hz e=>?_,k.dom,k.bnd,k.glob,k.gone⟩
 ·rw [H.get_put] at hr ⊢
  by_cases e:r=q
  ·rw [if_pos e] at hr; exact absurd rfl hr
  ·rw [if_neg e] at hr ⊢; exact k.obj r hr
 ·rw [H.get_put] at hrm hpd
  have h1:r≠q:=fun e=>by rw [if_pos e] at hrm; exact hrm
  have h2:p≠q:=fun e=>by rw [if_pos e] at hpd; exact hpd rfl
  rw [if_neg h1] at hrm
  rw [if_neg h2] at hpd
  exact k.inj r p y z hrm hpd hy hz e
theorem Ext.kill (φ:Ph) (h:H) (w:World) (q:Pos):Ext φ h w φ (h.put q .dead) w:=by
 refine ⟨φ.le_refl,Nat.le_refl _,rfl,rfl,rfl,fun c hc ⟨r,y,hy,e,hm⟩=>?_,fun _ _ _=>rfl,Nat.le_refl _,fun _ _=>rfl,fun c hc ⟨r,y,hy,e,hm⟩=>?_⟩
 ·rw [H.get_put] at hm
  split at hm
  ·exact hm.elim
  ·exact ⟨r,y,hy,e,hm⟩
 ·rw [H.get_put] at hm
  split at hm
  ·exact absurd rfl hm
  ·exact ⟨r,y,hy,e,hm⟩
theorem HR.alone (k:HR P ng φ h w) {q:Pos} {x:Nat × Nat × Nat} (hq:φ q=some x) (hm:(h.get q).mine):¬ lives φ (h.put q .dead) x.1:=by
 rintro ⟨r,y,hy,e,hl⟩
 rw [H.get_put] at hl
 by_cases hr:r=q
 ·rw [if_pos hr] at hl; exact hl rfl
 ·rw [if_neg hr] at hl
  exact hr (k.inj q r x y hm hl hq hy e.symm).symm
theorem obLp_ok {o:Ob} {k:T→PL→AC→AC→AE→R} (e:obLp o k=r) (gd:r.good):∃ t ps as bd p,o=.lp t ps as bd p∧k t ps as bd p=r:=by
 cases o<;>first | exact ⟨_,_,_,_,_,rfl,e⟩ | (subst e; exact gd.elim)
theorem isFn_ok {x:AV} {k:R} (e:isFn x k=r) (gd:r.good):(∃ fn f c,x=.f fn f c)∧k=r:=by
 cases x<;>first | exact ⟨⟨_,_,_,rfl⟩,e⟩ | (subst e; exact gd.elim)
theorem nmK_ok {p:AE} {k:R} (e:nmK p k=r) (gd:r.good):p=.nm∧k=r:=by
 cases p<;>first | exact ⟨rfl,e⟩ | (subst e; exact gd.elim)
end
end Go.Am
namespace Go.Am
section
variable {P:Program} {ng nt:Nat} {φ:Ph} {h:H} {w:World} {t:T} {a:Act} {r:R} {ev:EV} {kt:Pos→Prop}
theorem QN.trans {ds:List Deferred} {ψ:Ph} {g:H} {v:World} {k:KC} {e:Exit} {b:Act} {u:World} {Ds:List Nat} (hx:Ext φ h w ψ g v) {rd:Bool} (hm:MarksOK w.heap.size ψ g v Ds∧(rd=false→Ds=[])) (hq:QN P ng nt kt rd (Ds.map mkD ++ ds) ψ g v k r e b u):QN P ng nt kt rd ds φ h w k r e b u:=by
 obtain ⟨χ,f,t',Es,h1,h2,h3,h4,⟨h5,h6,h6'⟩,h7⟩:=hq
 obtain ⟨hm,hm'⟩:=hm
 refine ⟨χ,f,t',Es ++ Ds,h1,hx.trans h2,h3,h4,⟨by rw [h5]; simp,?_,fun hrd=>by rw [h6' hrd,hm' hrd]; rfl⟩,h7⟩
 exact (hm.ext h2).app h6 hx.size fun D hD=>(Array.getElem?_eq_some_iff.1 (hm.2 D hD).2.1).1
theorem wpIn_loop_fuel {F:Fence} {n:Nat} {c:Code} {Q:Exit→Act→World→Prop} (I:Nat→Act→World→Prop) (round:∀ j a w,I j a w→c.wpIn F n P (Exit.then (fun a' w'=>∃ m,m < j∧I m a' w') Q) a w):∀ j a w,I j a w→(Code.loop c).wpIn F n P Q a w:=by
 intro j a w hI b k cs hro hb hr
 have key:∀ j a w,I j a w→∃ e a' w',Q e a' w'∧ArrivesIn (Machine.fenced P F) P (lone (b.atR a (.code c :: .inLoop c :: k)) cs w) b k cs e a' w':=by
  intro j
  induction j using Nat.strongRecOn with
  | _ j ih=>
   intro a w hI
   obtain ⟨e,a₁,w₁,hq,harr⟩:=round j a w hI b (.inLoop c :: k) cs hro hb hr
   cases e with
   | normal=>
    obtain ⟨m,hlt,hI₁⟩:=hq
    obtain ⟨e₂,a₂,w₂,hq₂,harr₂⟩:=ih m hlt a₁ w₁ hI₁
    exact ⟨e₂,a₂,w₂,hq₂,.of_steps (StepsIn.trans harr (.one (fenced_calm hb hr rfl) stepR_inLoop)) harr₂⟩
   | exit id=>exact ⟨_,a₁,w₁,hq,.pass (x:=.inLoop c) rfl (fun _ _=>.inl (by simp)) harr⟩
   | goto l=>exact ⟨_,a₁,w₁,hq,.pass (x:=.inLoop c) rfl (fun _ _=>.inl (by simp)) harr⟩
   | ret=>exact ⟨_,a₁,w₁,hq,.pass (x:=.inLoop c) rfl (fun _ _=>.inl (by simp)) harr⟩
   | panic ch=>exact ⟨_,a₁,w₁,hq,.pass (x:=.inLoop c) rfl (fun _ _=>.inl (by simp)) harr⟩
   | outgrown=>exact ⟨_,a₁,w₁,hq,.pass (x:=.inLoop c) rfl (fun _ _=>.inl (by simp)) harr⟩
 obtain ⟨e,a',w',hq,harr⟩:=key j a w hI
 exact ⟨e,a',w',hq,.of_steps (.one (fenced_calm hb hr rfl) stepR_loop) harr⟩
theorem wpIn_scope {F:Fence} {n:Nat} {c:Code} {Q:Exit→Act→World→Prop} (hg:∀ l a w,¬ Q (.goto l) a w) (h:c.wpIn F n P Q a w):(Code.scope c).wpIn F n P Q a w:=by
 intro b k cs hro hb hr
 have s1:∀ a w,StepsIn (Machine.fenced P F) P (lone (b.atR a (.code (.scope c) :: k)) cs w) (lone (b.atR a (.code c :: .inScope c :: k)) cs w):=fun a w=>
  .one (fenced_calm (fr:=b.atR a (.code (.scope c) :: k)) hb hr rfl) (step_lone_go (by simp [stepG,stepG.exec,Frame.atR]))
 obtain ⟨e,a₁,w₁,hq,harr⟩:=h b (.inScope c :: k) cs hro hb hr
 cases e with
 | normal=>
  refine ⟨.normal,a₁,w₁,hq,(s1 a w).trans (StepsIn.trans harr (.one (fenced_calm (fr:=b.atR a₁ (.inScope c :: k)) hb hr rfl) (step_lone_go (by simp [stepG,stepG.exec,Frame.atR]))))⟩
 | exit id=>exact ⟨.exit id,a₁,w₁,hq,.of_steps (s1 a w) ⟨fun k' hk=>harr.1 k' (by simp [exitTo,hk]),fun hs hk=>harr.2 hs (by simp [exitTo,hk])⟩⟩
 | goto l=>exact (hg l a₁ w₁ hq).elim
 | ret=>exact ⟨_,a₁,w₁,hq,.of_steps (s1 a w) harr⟩
 | panic ch=>exact ⟨_,a₁,w₁,hq,.of_steps (s1 a w) harr⟩
 | outgrown=>exact ⟨_,a₁,w₁,hq,.of_steps (s1 a w) harr⟩
theorem range_done {ψ:Ph} {g:H} {w':World} {q:Pos} {k:KC} {l:Nat} {Q:Exit→Act→World→Prop} {a':Act} {n:Nat} {ro:Option Nat} (gd:r.good) (hr:HR P ng ψ g w') (hx:Ext φ h w ψ g w') (hq:ψ q=some (l,0,0)) (hl:w.heap.size≤l)
  (e:(hget q g fun o=>obLp o fun _ _ _ _ e=>hset q .dead g fun h=>k e t h)=r)
  (hQ:∀ ex g2 w2,HR P ng ψ g2 w2→Ext φ h w ψ g2 w2→(∀ b,b≠l→w2.heap[b]?=w'.heap[b]?)→(∀ b,¬ lives ψ g b→¬ lives ψ g2 b)→(match ex with
   | .normal=>k .nm t g2=r
   | .exit id=>k (.ex id) t g2=r
   | .ret=>k .rt t g2=r
   | _=>False)→Q ex a' w2) :
  ∃ jump w₄,(Instr.endLoop l).run P w'=.ok jump w₄∧(match jump with
    | none=>Q .normal a' w₄
    | some c=>c.wpIn (fen ro) n P Q a' w₄):=by
 rw [hget_eq] at e
 obtain ⟨t2,ps2,as2,bd2,e2,hob,e3⟩:=obLp_ok e gd
 rw [hset_eq] at e3
 obtain ⟨x,hxq,ho⟩:=hr.obj q (by rw [hob]; simp)
 rw [hq] at hxq; cases hxq
 rw [hob] at ho
 obtain ⟨_,L,nt2,hL,_,_,_,_,_,hpe⟩:=ho
 have hmine:(g.get q).mine:=by rw [hob]; trivial
 have hst:L.state≠.busy:=by
  cases e2 with
  | nm=>rw [hpe.1]; simp
  | ex id=>rw [hpe.1]; simp
  | rt=>rw [hpe.1]; simp
  | pn v=>exact hpe.elim
 have hend:=run_endLoop (P:=P) hL hst
 have hlt:l < w'.heap.size:=(Array.getElem?_eq_some_iff.1 hL).1
 have hr2:HR P ng ψ (g.put q .dead) (w'.putObj l (.loop { L with state:=.exhausted })):=(hr.kill q).other _ (hr.alone hq hmine)
 have hx2:Ext φ h w ψ (g.put q .dead) (w'.putObj l (.loop { L with state:=.exhausted })):=(hx.trans (.kill ψ g w' q)).other _ (.inr hl)
 have hoth:∀ b,b≠l→(w'.putObj l (.loop { L with state:=.exhausted })).heap[b]?=w'.heap[b]?:=fun b hb=>World.putObj_heap_other hb
 have hlv:∀ b,¬ lives ψ g b→¬ lives ψ (g.put q .dead) b:=fun b hb ⟨r',y,hy,e,hm⟩=>hb ⟨r',y,hy,e,by
  rw [H.get_put] at hm
  split at hm
  ·exact absurd rfl hm
  ·exact hm⟩
 have key:∀ j,L.pending=j→(match (generalizing:=false) j with
    | none=>Q .normal a' (w'.putObj l (.loop { L with state:=.exhausted }))
    | some c=>c.wpIn (fen ro) n P Q a' (w'.putObj l (.loop { L with state:=.exhausted }))):=by
  intro j hj
  cases e2 with
  | nm=>rw [hpe.2] at hj; subst hj; exact hQ .normal _ _ hr2 hx2 hoth hlv e3
  | ex id=>rw [hpe.2] at hj; subst hj; exact wpIn_exit (hQ (.exit id) _ _ hr2 hx2 hoth hlv e3)
  | rt=>rw [hpe.2] at hj; subst hj; exact wpIn_ret (hQ .ret _ _ hr2 hx2 hoth hlv e3)
  | pn v=>exact hpe.elim
 exact ⟨_,_,hend,key _ rfl⟩
theorem range_ok (hev:EvOK P ng ev) (fuel:Nat) (gd:r.good) {f:Operand} {ps:Array Tmp} {as bd:Code} {z:Ar} {pl:PL} {x y:AC} (hf:ArOK ng nt f z) (hp:PlOK nt ps.toList pl) (hxc:CodeOK P ng nt (fun _=>False) false as x) (hyc:CodeOK P ng nt (fun _=>False) false bd y)
  (k:KC) (e:cod ev fuel (.rf z pl x y) k t h=r) (hr:HR P ng φ h w) (ht:TR φ t a.tmps) (hn:nt≤a.tmps.size):(Code.rangeFunc f ps as bd).wpIn (fen none) 0 P (QN P ng nt kt true a.defers φ h w k r) a w:=by
 have e0:aval z t (fun f=>isFn f (hnew (.lp t pl x y .nm) h fun q h=>cdyn f ev (.c (.y q) .z) h (fun _ h=>hget q h fun o=>obLp o fun _ _ _ _ e=>hset q .dead h fun h=>k e t h) (fun v h=>k (.pn v) t h)))=r:=e
 obtain ⟨x0,hx0,e1⟩:=hf.val hr ht hn e0
 obtain ⟨⟨fn0,first,cap,rfl⟩,e2⟩:=isFn_ok e1 gd
 rw [hnew_eq] at e2
 obtain ⟨ca,cc,hv,hfi,hca⟩:=hx0
 refine wpIn_rangeFunc fun fn _=>?_
 obtain ⟨W1,hW1⟩:∃ W1,W1=(w.alloc (.deferred (some []))).alloc (.loop { state:=.ready,pending:=none,fn,tmps:=a.tmps,params:=ps,assign:=as,body:=bd,defers:=w.heap.size }):=⟨_,rfl⟩
 have hsz:(w.alloc (.deferred (some []))).heap.size=w.heap.size + 1:=World.size_alloc _ _
 have hL1:W1.heap[w.heap.size + 1]?=some (.loop { state:=.ready,pending:=none,fn,tmps:=a.tmps,params:=ps,assign:=as,body:=bd,defers:=w.heap.size }):=by
  rw [hW1,← hsz]; exact World.alloc_heap_new _ _
 have hD1:W1.heap[w.heap.size]?=some (.deferred (some [])):=by
  rw [hW1]
  show (((w.alloc (.deferred (some []))).heap.push _)[w.heap.size]?)=_
  rw [Array.getElem?_push,if_neg (by omega)]
  exact World.alloc_heap_new _ _
 -- the machine's state at the call
 have hmade:=(hr.push (.deferred (some []))).made (o:=.lp t pl x y .nm) (b:=.loop { state:=.ready,pending:=none,fn,tmps:=a.tmps,params:=ps,assign:=as,body:=bd,defers:=w.heap.size }) (s:=0) (n:=0) (w':=W1) (by rw [hW1]; rfl)
  (by
   rw [hsz]
   refine ⟨rfl,_,nt,hL1,ht.mono (hr.le_add _),hn,hp,hxc,hyc,rfl,rfl⟩)
 rw [hsz] at hmade
 obtain ⟨hr1,hx1⟩:=hmade
 have hx1:Ext φ h w (φ.add h.nx (w.heap.size + 1,0,0)) (h.add (.lp t pl x y .nm)) W1:=((Ext.refl φ h w).push _).trans hx1
 have hq1:(φ.add h.nx (w.heap.size + 1,0,0)) h.nx=some (w.heap.size + 1,0,0):=Ph.add_same _ _ _
 have hD1l:¬ lives (φ.add h.nx (w.heap.size + 1,0,0)) (h.add (.lp t pl x y .nm)) w.heap.size:=by
  rintro ⟨r',y',hy',e',_⟩
  unfold Ph.add at hy'
  split at hy'
  ·cases hy'; change w.heap.size + 1=w.heap.size at e'; omega
  ·have:=hr.bnd r' y' hy'; omega
 obtain ⟨n0,rfl,e3⟩:=fnId_ok (f:=fun n=>posN (n + 1) fun q=>app first (.c (.y h.nx) .z) fun a=>app a cap fun a=>ev (.fn q) a (h.add (.lp t pl x y .nm)) (fun _ h'=>hget h.nx h' fun o=>obLp o fun _ _ _ _ e=>hset h.nx .dead h' fun h=>k e t h) (fun v h=>k (.pn v) t h)) e2 gd
 obtain ⟨q,hq,e4⟩:=posN_ok e3 gd
 have hy1:LR (φ.add h.nx (w.heap.size + 1,0,0)) (.c (.y h.nx) .z) [.func (.yield (w.heap.size + 1)) #[] #[]]:=LR_c ⟨_,_,_,hq1,rfl⟩ LR_z
 obtain ⟨m1,h1,e5⟩:=app_ok e4 gd (LR.mono (hr.le_add _) hfi) hy1
 obtain ⟨m2,h2,e6⟩:=app_ok e5 gd h1 (LR.mono (hr.le_add _) hca)
 have hfq:q.val - 1=n0:=by omega
 have hen:=hev.fn q ⟨m2,_,_,_,by rw [e6]; exact gd⟩
 rw [hfq] at hen
 have hc:=hev.calls q
 rw [hfq] at hc
 have hcall:=hc _ _ _ _ _ _ _ _ e6 gd hr1 h2
 refine ⟨w.heap.size + 1,[{ target:=.collected w.heap.size,args:=#[] }],W1,{ target:=.fn (.func n0) cc,args:=ca ++ #[.func (.yield (w.heap.size + 1)) #[] #[]] },W1,n0,(ca ++ #[.func (.yield (w.heap.size + 1)) #[] #[]]) ++ cc,W1,?_,?_,fun _ _=>trivial,?_,fun h=>(by cases h),callsIn_fen ?_⟩
 ·rw [fen_round,hW1]; exact run_enterLoop_outer _ _ _ _ _
 ·simp only [resolve,rangeCall,hv]
  simp [go_sem,Act.eval,Deferred.ofValue]
 ·simp only [invoke]
  exact run_callFunc' hen W1
 ·have hargs:(ca ++ #[.func (.yield (w.heap.size + 1)) #[] #[]]) ++ cc=((ca.toList ++ [Value.func (.yield (w.heap.size + 1)) #[] #[]]) ++ cc.toList).toArray:=Array.ext' (by simp)
  rw [hargs]
  refine Calls.mono hcall fun en w' he=>?_
  obtain ⟨ψ,g',h3,h4,h5⟩:=he
  have hxw:=hx1.trans h4
  have hq2:ψ h.nx=some (w.heap.size + 1,0,0):=h4.mono _ _ hq1
  have hmk:MarksOK w.heap.size ψ g' w' [w.heap.size]:=by
   have:MarksOK w.heap.size (φ.add h.nx (w.heap.size + 1,0,0)) (h.add (.lp t pl x y .nm)) W1 [w.heap.size]:=⟨by simp,fun D hD=>by
    have:D=w.heap.size:=by simpa using hD
    subst this; exact ⟨Nat.le_refl _,hD1,hD1l⟩⟩
   exact this.ext h4
  have htw:=ht.mono hxw.mono
  cases en with
  | returned v=>
   obtain ⟨yv,_,h6⟩:=h5
   refine range_done gd h3 hxw hq2 (by omega) h6 fun ex g2 w2 hr2 hx2 hoth hlv hex=>?_
   have hmk2:MarksOK w.heap.size ψ g2 w2 [w.heap.size]:=⟨hmk.1,fun D hD=>by
    have hD':D=w.heap.size:=by simpa using hD
    obtain ⟨i1,i2,i3⟩:=hmk.2 D hD
    exact ⟨i1,(hoth D (by omega)).trans i2,hlv D i3⟩⟩
   refine ⟨ψ,g2,t,[w.heap.size],hr2,hx2,htw.k,hn,⟨rfl,hmk2,fun h=>by cases h⟩,?_⟩
   cases ex with
   | normal=>exact ⟨htw,hex⟩
   | exit id=>exact ⟨htw,hex⟩
   | ret=>exact ⟨htw,hex⟩
   | goto l=>exact hex.elim
   | panic ch=>exact hex.elim
   | outgrown=>exact hex.elim
  | panicked ch=>
   obtain ⟨c,yc,rfl,h6,h7⟩:=h5
   exact ⟨ψ,g',t,[w.heap.size],h3,hxw,htw.k,hn,⟨rfl,hmk,fun h=>by cases h⟩,c,yc,rfl,h6,h7⟩
  | outgrown=>exact h5.elim
theorem code_ok (hev:EvOK P ng ev) (fuel:Nat) (g:r.good):∀ {kt:Pos→Prop} {rd:Bool} {c:Code} {x:AC},CodeOK P ng nt kt rd c x→∀ (ro:Option Nat),(rd=true→ro=none)→∀ (k:KC) (φ:Ph) (h:H) (w:World) (t:T) (a:Act),cod ev fuel x k t h=r→HR P ng φ h w→TR φ t a.tmps→nt≤a.tmps.size→c.wpIn (fen ro) 0 P (QN P ng nt kt rd a.defers φ h w k r) a w:=by
 intro kt rd c x hc
 induction hc with
 | skip kt rd=>intro ro _ k φ h w t a e hr ht hn; exact wpIn_skip ⟨φ,h,t,[],hr,.refl _ _ _,ht.k,hn,⟨rfl,.nil,fun _=>rfl⟩,ht,e⟩
 | label kt rd l=>intro ro _ k φ h w t a e hr ht hn; exact wpIn_label ⟨φ,h,t,[],hr,.refl _ _ _,ht.k,hn,⟨rfl,.nil,fun _=>rfl⟩,ht,e⟩
 | exit kt rd id=>intro ro _ k φ h w t a e hr ht hn; exact wpIn_exit ⟨φ,h,t,[],hr,.refl _ _ _,ht.k,hn,⟨rfl,.nil,fun _=>rfl⟩,ht,e⟩
 | ret kt rd=>intro ro _ k φ h w t a e hr ht hn; exact wpIn_ret ⟨φ,h,t,[],hr,.refl _ _ _,ht.k,hn,⟨rfl,.nil,fun _=>rfl⟩,ht,e⟩
 | region kt rd id os l hl=>
  intro ro _ k φ h w t a e hr ht hn
  refine wpIn_region ?_
  have:=ops_ok hev hl 0 rfl (k .nm) (fun v t h=>k (.pn v) t h) ro (QN P ng nt kt rd a.defers φ h w k r) φ h w t a e g hr ht hn (fun ψ g' v t' a' h1 h2 h3 h4 h5 h6=>⟨ψ,g',t',[],h1,h2,h3.k,h4,⟨h5,.nil,fun _=>rfl⟩,h3,h6⟩) (fun ψ g' v t' a' c y h1 h2 h3 h4 h5 h6 h7=>⟨ψ,g',t',[],h1,h2,h3.k,h4,⟨h5,.nil,fun _=>rfl⟩,c,y,rfl,h6,h7⟩)
  rw [List.range_eq_range']
  simpa using this
 | drawn kt rd id os x al its rk hd hs hw hrk hk hm=>
  intro ro _ k φ h w t a e hr ht hn
  exact region_ok hev hd hs hw hrk g kt hk hm ro _ hr ht hn e (fun ψ g' v t' a' h1 h2 h3 h4 h5 h6=>⟨ψ,g',t',[],h1,h2,h3.k,h4,⟨h5,.nil,fun _=>rfl⟩,h3,h6⟩) (fun ψ g' v t' a' c y h1 h2 h3 h4 h5 h6 h7=>⟨ψ,g',t',[],h1,h2,h3,h4,⟨h5,.nil,fun _=>rfl⟩,c,y,rfl,h6,h7⟩)
 | scope kt rd c x _ ih=>
  intro ro hro k φ h w t a e hr ht hn
  exact wpIn_scope (fun l a w ⟨_,_,_,_,_,_,_,_,_,hf⟩=>hf) (ih ro hro k φ h w t a e hr ht hn)
 | rangeF kt f ps as bd z pl x y hf hp h1 h2 _ _=>
  intro ro hro k φ h w t a e hr ht hn
  rw [hro rfl]
  exact range_ok hev fuel g hf hp h1 h2 k e hr ht hn
 | seq kt rd c d x y _ _ ih1 ih2=>
  intro ro hro k φ h w t a e hr ht hn
  refine wpIn_seq (wpIn_mono (ih1 ro hro (seqK (cod ev fuel y) k) φ h w t a e hr ht hn) fun ex a' w' hq=>?_)
  obtain ⟨ψ,g',t',Ds,h1,h2,h3,h4,⟨h5,h5'⟩,h6⟩:=hq
  cases ex with
  | normal=>
   have:=ih2 ro hro k ψ g' w' t' a' h6.2 h1 h6.1 h4
   exact wpIn_mono this fun ex b u hq=>by rw [h5] at hq; exact hq.trans h2 h5'
  | exit id=>exact ⟨ψ,g',t',Ds,h1,h2,h3,h4,⟨h5,h5'⟩,h6⟩
  | ret=>exact ⟨ψ,g',t',Ds,h1,h2,h3,h4,⟨h5,h5'⟩,h6⟩
  | panic ch=>exact ⟨ψ,g',t',Ds,h1,h2,h3,h4,⟨h5,h5'⟩,h6⟩
  | goto l=>exact h6.elim
  | outgrown=>exact h6.elim
 | cond kt rd z c d zz x y hz _ _ ih1 ih2=>
  intro ro hro k φ h w t a e hr ht hn
  obtain ⟨v0,hv0,e1⟩:=hz.val hr ht hn (f:=fun v=>asB v fun v=>kif v (cod ev fuel x k t h) (cod ev fuel y k t h)) e
  obtain ⟨b,rfl,e2⟩:=asB_ok (x:=v0) e1 g
  refine wpIn_cond (t:=b) hv0 ?_
  cases b
  ·exact ih2 ro hro k φ h w t a e2 hr ht hn
  ·exact ih1 ro hro k φ h w t a e2 hr ht hn
 | block kt rd id c x _ ih=>
  intro ro hro k φ h w t a e hr ht hn
  refine wpIn_block (wpIn_mono (ih ro hro (blkK id k) φ h w t a e hr ht hn) fun ex a' w' hq=>?_)
  obtain ⟨ψ,g',t',Ds,h1,h2,h3,h4,h5,h6⟩:=hq
  cases ex with
  | normal=>exact ⟨ψ,g',t',Ds,h1,h2,h3,h4,h5,h6⟩
  | exit j=>
   have h7:kif (Nat.beq j id) (k .nm t' g') (k (.ex j) t' g')=r:=h6.2
   simp only [Exit.inBlock]
   rcases kif_ok h7 with ⟨hb,h8⟩ | ⟨hb,h8⟩
   ·rw [if_pos (Nat.eq_of_beq_eq_true hb)]; exact ⟨ψ,g',t',Ds,h1,h2,h3,h4,h5,h6.1,h8⟩
   ·rw [if_neg (fun q=>by subst q; rw [Nat.beq_refl] at hb; cases hb)]; exact ⟨ψ,g',t',Ds,h1,h2,h3,h4,h5,h6.1,h8⟩
  | ret=>exact ⟨ψ,g',t',Ds,h1,h2,h3,h4,h5,h6⟩
  | panic ch=>exact ⟨ψ,g',t',Ds,h1,h2,h3,h4,h5,h6⟩
  | goto l=>exact h6.elim
  | outgrown=>exact h6.elim
 | loop kt rd c x _ ih=>
  intro ro hro k φ h w t a e hr ht hn
  refine wpIn_loop_fuel (P:=P) (Q:=QN P ng nt kt rd a.defers φ h w k r) (fun n a' w'=>∃ ψ g' t' Ds,HR P ng ψ g' w'∧Ext φ h w ψ g' w'∧TR ψ t' a'.tmps∧nt≤a'.tmps.size∧(a'.defers=Ds.map mkD ++ a.defers∧MarksOK w.heap.size ψ g' w' Ds∧(rd=false→Ds=[]))∧lop n (cod ev fuel x) k t' g'=r) ?_ fuel a w ⟨φ,h,t,[],hr,.refl _ _ _,ht,hn,⟨rfl,.nil,fun _=>rfl⟩,e⟩
  intro n a' w' hI
  obtain ⟨ψ,g',t',Ds,h1,h2,h3,h4,⟨h5,h5'⟩,h6⟩:=hI
  cases n with
  | zero=>exact (show False from (by subst h6; exact g)).elim
  | succ n=>
   refine wpIn_mono (ih ro hro (lpK (lop n (cod ev fuel x) k) k) ψ g' w' t' a' h6 h1 h3 h4) fun ex b u hq=>?_
   rw [h5] at hq
   have hq':=hq.trans (φ:=φ) (h:=h) (w:=w) h2 h5'
   obtain ⟨χ,f,t'',Es,q1,q2,q3,q4,⟨q5,q5'⟩,q6⟩:=hq'
   cases ex with
   | normal=>exact ⟨n,Nat.lt_succ_self n,χ,f,t'',Es,q1,q2,q6.1,q4,⟨q5,q5'⟩,q6.2⟩
   | exit id=>exact ⟨χ,f,t'',Es,q1,q2,q3,q4,⟨q5,q5'⟩,q6⟩
   | ret=>exact ⟨χ,f,t'',Es,q1,q2,q3,q4,⟨q5,q5'⟩,q6⟩
   | panic ch=>exact ⟨χ,f,t'',Es,q1,q2,q3,q4,⟨q5,q5'⟩,q6⟩
   | goto l=>exact q6.elim
   | outgrown=>exact q6.elim
end
end Go.Am
namespace Go.Am
inductive PsOK:Nat→PL→Prop where
 | z (i:Nat):PsOK i .z
 | c (i:Nat) (p:Pos) (l:PL) (e:p.val=i + 1) (h:PsOK (i + 1) l):PsOK i (.c p l)
inductive RsOK (P:Program) (nt:Nat):ResultVar→RS→Prop where
 | t (t:Nat) (p:Pos) (e:p.val=t + 1) (h:t < nt):RsOK P nt (.tmp t) (.t p)
 | c1 (t:Nat) (ty:TypeId) (p:Pos) (e:p.val=t + 1) (h:t < nt) (ha:agg P ty false):RsOK P nt (.cell t ty) (.c1 p)
 | cn (t:Nat) (ty:TypeId) (p:Pos) (n:Nat) (e:p.val=t + 1) (h:t < nt) (ha:agg P ty true) (hs:sizeIs P ty n):RsOK P nt (.cell t ty) (.cn p n)
inductive RlOK (P:Program) (nt:Nat):List ResultVar→RL→Prop where
 | z:RlOK P nt [] .z
 | c (x:ResultVar) (l:List ResultVar) (r:RS) (rl:RL) (h:RsOK P nt x r) (t:RlOK P nt l rl):RlOK P nt (x :: l) (.c r rl)
structure FnOK (P:Program) (ng f:Nat) (ps:PL) (rs:RL) (one:Bool) (body:AC) (fn:Func) (c:Code):Prop where
 func:P.funcs[f]?=some fn
 hasBody:fn.body=some c
 name : fn.name ≠ "runtime.NumGoroutine"
 code:CodeOK P ng fn.ntmps (fun _=>False) true c body
 params:PsOK 0 ps
 results:RlOK P fn.ntmps fn.results.toList rs
 one:one=(fn.results.size == 1)
section
variable {P:Program} {ng nt:Nat} {φ:Ph} {h:H} {w:World} {t:T} {a:Act} {r:R} {ev:EV}
theorem bind_ok {A:List Value}:∀ {ps:PL} {i:Nat} {args:AV} {t:T} {f:T→R},PsOK i ps→LR φ args (A.drop i)→i≤A.length→(∀ p:Pos,(p.val≤i→∀ v,A[p.val - 1]?=some v→VR φ (t.get .u p) v)∧(i < p.val→t.get .u p=.u))→bindA ps args t f=r→r.good →
  ∃ t',(∀ p:Pos,(p.val≤A.length→∀ v,A[p.val - 1]?=some v→VR φ (t'.get .u p) v)∧(A.length < p.val→t'.get .u p=.u))∧f t'=r:=by
 intro ps
 induction ps with
 | z=>
  intro i args t f _ hl hi hinv e g
  rcases onC_ok (x:=args) (kz:=f t) (kc:=fun _ _=>.fail 161) e g with ⟨rfl,e1⟩ | ⟨y,l,rfl,e1⟩
  ·have:A.drop i=[]:=LR_z_inv hl
   have hle:A.length≤i:=by simpa using this
   have:i=A.length:=by omega
   subst this
   exact ⟨t,hinv,e1⟩
  ·exact (show False from (by subst e1; exact g)).elim
 | c p l ih=>
  intro i args t f hps hl hi hinv e g
  cases hps with
  | c _ _ _ hp hps=>
   obtain ⟨y,args',rfl,e1⟩:=onC_c (x:=args) (n:=162) (kc:=fun x r=>setK AV.u x p t fun t=>bindA l r t f) e g
   obtain ⟨v,vs,hvs,hy,hl'⟩:=LR_c_inv hl
   have e2:bindA l args' (t.set .u y p) f=r:=(setK_eq _ _ _ _ _).symm.trans e1
   have hat:A[i]?=some v:=by
    have:=congrArg List.head? hvs
    rw [List.head?_drop] at this
    simpa using this
   have hlt:i < A.length:=(List.getElem?_eq_some_iff.1 hat).1
   have hd:A.drop (i + 1)=vs:=by rw [← List.drop_drop,hvs]; rfl
   refine ih hps (by rw [hd]; exact hl') hlt (fun q=>⟨fun hq u hu=>?_,fun hq=>?_⟩) e2 g
   ·rw [PT.get_set]
    by_cases hqp:q=p
    ·rw [if_pos hqp]
     subst hqp
     rw [hp,Nat.add_sub_cancel,hat] at hu
     cases hu; exact hy
    ·rw [if_neg hqp]
     have:q.val≠p.val:=fun h=>hqp (Pos.val_inj h)
     exact (hinv q).1 (by omega) u hu
   ·rw [PT.get_set]
    have:q≠p:=fun h=>by subst h; omega
    rw [if_neg this]
    exact (hinv q).2 (by omega)
theorem enter_tr {A:List Value} {n:Nat} {t:T} (hinv:∀ p:Pos,(p.val≤A.length→∀ v,A[p.val - 1]?=some v→VR φ (t.get .u p) v)∧(A.length < p.val→t.get .u p=.u)):TR φ t (A.toArray ++ Array.replicate n undef):=by
 refine ⟨fun p hp=>?_⟩
 have hpos:=p.val_pos
 by_cases h1:p.val≤A.length
 ·have hlt:p.val - 1 < A.length:=by omega
  have:=(hinv p).1 h1 A[p.val - 1] (by simp [hlt])
  rw [Array.getD_eq_getD_getElem?,Array.getElem?_append_left (by simpa using hlt)]
  simpa [hlt] using this
 ·rw [(hinv p).2 (by omega)]
  rw [Array.getD_eq_getD_getElem?,Array.getElem?_append_right (by simp; omega)]
  show _=undef
  rw [Array.getElem?_replicate]
  split<;>rfl
def resSem (tmps:Array Value):ResultVar→Sem Value
 | .tmp t=>pure (tmps.getD t undef)
 | .cell a t=>do loadVar t (← asAddr (tmps.getD a undef))
def rsT:RS→Pos
 | .t p | .c1 p | .cn p _=>p
def rlT:RL→List Pos
 | .z=>[]
 | .c r l=>rsT r :: rlT l
theorem res_ok {kt:Pos→Prop} (hr:HR P ng φ h w) {tm:Array Value} (ht:TRk φ t tm kt) (hn:nt≤tm.size):∀ {xs:List ResultVar} {rs:RL},RlOK P nt xs rs→(∀ p∈rlT rs,kt p)→∀ {f:AV→R},resL rs t h f=r→r.good→∃ l vs,(xs.mapM (resSem tm)).run P w=.ok vs w∧LR φ l vs∧vs.length=xs.length∧f l=r
 | [],_,.z,_,f,e,_=>⟨.z,[],rfl,rfl,rfl,e⟩
 | x :: xs,_,.c _ _ s rl hs hl,hk,f,e,g=>by
  have hk1:=hk (rsT s) (by simp [rlT])
  have hk2:∀ p∈rlT rl,kt p:=fun p hp=>hk p (by simp [rlT,hp])
  have e1:resV s t h (fun v=>resL rl t h fun l=>f (.c v l))=r:=e
  have main:∃ y v,(resSem tm x).run P w=.ok v w∧VR φ y v∧resL rl t h (fun l=>f (.c y l))=r:=by
   cases hs with
   | t n p hp hlt=>
    have e2:resL rl t h (fun l=>f (.c (t.get .u p) l))=r:=(getK_eq _ _ _ _).symm.trans e1
    have hv:=ht p hk1 (by omega)
    rw [hp,Nat.add_sub_cancel] at hv
    exact ⟨_,_,rfl,hv,e2⟩
   | c1 n ty p hp hlt ha=>
    have e2:asP (t.get .u p) (fun r o=>ld1 r o h fun v=>resL rl t h fun l=>f (.c v l))=r:=(getK_eq _ _ _ _).symm.trans e1
    have hv:=ht p hk1 (by omega)
    rw [hp,Nat.add_sub_cancel] at hv
    obtain ⟨q,o,hq,e3⟩:=asP_ok (x:=t.get .u p) e2 g
    rw [hq] at hv
    obtain ⟨bl,s,m,hφ,hv⟩:=hv
    obtain ⟨y,v,hc,hy,e4⟩:=ld1_ok e3 g hr hφ
    exact ⟨y,v,by simp [resSem,hv,asAddr,run_loadVar1 ha hc],hy,e4⟩
   | cn n ty p m hp hlt ha hsz=>
    have e2:asP (t.get .u p) (fun r o=>ldn r o m h fun l'=>resL rl t h fun l=>f (.c (.a l') l))=r:=(getK_eq _ _ _ _).symm.trans e1
    have hv:=ht p hk1 (by omega)
    rw [hp,Nat.add_sub_cancel] at hv
    obtain ⟨q,o,hq,e3⟩:=asP_ok (x:=t.get .u p) e2 g
    rw [hq] at hv
    obtain ⟨bl,s,m',hφ,hv⟩:=hv
    obtain ⟨l',vs,hlen,hl',hc,e4⟩:=ldn_ok e3 g hr hφ
    exact ⟨.a l',.agg vs.toArray,by simp [resSem,hv,asAddr,run_loadVarn ha hsz hlen hc],⟨_,rfl,hl'⟩,e4⟩
  obtain ⟨y,v,h1,h2,e2⟩:=main
  obtain ⟨l,vs,h3,h4,h5,e3⟩:=res_ok hr ht hn hl hk2 (f:=fun l=>f (.c y l)) e2 g
  exact ⟨.c y l,v :: vs,by simp [List.mapM_cons,h1,h3],LR_c h2 h4,by simp [h5],e3⟩
theorem ret_ok {kt:Pos→Prop} {fn:Func} {rs:RL} {one:Bool} (hrs:RlOK P fn.ntmps fn.results.toList rs) (hone:one=(fn.results.size == 1)) (hr:HR P ng φ h w) {tm:Array Value} (ht:TRk φ t tm kt) (hk:∀ p∈rlT rs,kt p) (hn:fn.ntmps≤tm.size) {k:K} (e:ret rs one t h k=r) (g:r.good) :
  ∃ y v,(results fn tm).run P w=.ok v w∧VR φ y v∧k y h=r:=by
 obtain ⟨l,vs,h1,h2,h3,e1⟩:=res_ok hr ht hn hrs hk (f:=fun l=>kif one (onC l (.fail 163) fun x _=>k x h) (k (.t l) h)) e g
 have hm:(fn.results.mapM (resSem tm)).run P w=.ok vs.toArray w:=by
  rw [show fn.results=fn.results.toList.toArray from rfl,List.mapM_toArray]
  simp [h1]
 have hres:(results fn tm).run P w=.ok (if h:vs.toArray.size=1 then vs.toArray[0] else .tuple vs.toArray) w:=by
  have:(results fn tm)=(do let vs ← fn.results.mapM (resSem tm); pure (if h:vs.size=1 then vs[0] else .tuple vs)):=by
   unfold results
   congr 1
  rw [this]
  simp only [Sem.run_bind,hm,Result.andThen_ok,Sem.run_pure]
 have hlen:vs.length=fn.results.size:=by simpa using h3
 rcases kif_ok e1 with ⟨hb,e2⟩ | ⟨hb,e2⟩
 ·rw [hone] at hb
  have hsz:fn.results.size=1:=by simpa using hb
  obtain ⟨y,l',rfl,e3⟩:=onC_c (x:=l) e2 g
  obtain ⟨v,vs',rfl,hy,hl'⟩:=LR_c_inv h2
  refine ⟨y,v,?_,hy,e3⟩
  rw [hres,dif_pos (by simpa [hsz] using hlen)]
  rfl
 ·rw [hone] at hb
  have hsz:fn.results.size≠1:=by simpa using hb
  refine ⟨.t l,.tuple vs.toArray,?_,⟨_,rfl,h2⟩,e2⟩
  rw [hres,dif_neg (by simp; omega)]
theorem leaves_marks {φ ψ:Ph} {h g:H} {w0:World} {fn:Func} {tmps:Array Value} {R:Ending→World→Prop} {u:FrameMode} (hu:u≠.run) (ds:List Deferred):∀ (Ds:List Nat) (w:World),MarksOK w0.heap.size ψ g w Ds→HR P ng ψ g w→Ext φ h w0 ψ g w →
  (∀ w',HR P ng ψ g w'→Ext φ h w0 ψ g w'→LeavesInM Fence.wide 0 P fn tmps R ds u w')→LeavesInM Fence.wide 0 P fn tmps R (Ds.map mkD ++ ds) u w
 | [],w,_,hr,hx,hk=>hk w hr hx
 | D :: Ds,w,hm,hr,hx,hk=>by
  obtain ⟨h1,h2,h3⟩:=hm.2 D List.mem_cons_self
  refine ⟨hu,.inl ⟨D,_,rfl,run_takeDeferred h2,leaves_marks hu ds Ds _ ⟨(List.nodup_cons.1 hm.1).2,fun D' hD'=>?_⟩ (hr.other _ h3) (hx.other _ (.inr h1)) hk⟩⟩
  obtain ⟨k1,k2,k3⟩:=hm.2 D' (List.mem_cons_of_mem _ hD')
  have hne:D'≠D:=fun e=>(List.nodup_cons.1 hm.1).1 (e▸hD')
  exact ⟨k1,(World.putObj_heap_other hne).trans k2,k3⟩
theorem fn_ok {f:Nat} {ps:PL} {rs:RL} {one:Bool} {body:AC} {fn:Func} {c:Code} (hf:FnOK P ng f ps rs one body fn c) (hev:EvOK P ng ev) (fuel:Nat):EvFn P ng f (fun args h k kp=>runF fuel ev (.mk ps rs one body) args h k kp):=by
 intro args h k kp r φ w vs e g hr hl
 have e1:bindA ps args .e (fun t=>cod ev fuel body (endF rs one k kp) t h)=r:=e
 obtain ⟨t,hinv,e2⟩:=bind_ok (A:=vs) hf.params hl (Nat.zero_le _) (fun p=>⟨fun hp=>absurd p.val_pos (by omega),fun _=>PT.get_e _ _⟩) e1 g
 refine (callsIn_wide (n:=0)).1 (callsIn_of_wp_marks hf.func hf.hasBody trivial ?_)
 have ht:TR φ t (vs.toArray ++ Array.replicate (fn.ntmps - vs.toArray.size) undef):=enter_tr hinv
 refine wpIn_mono (code_ok (ro:=none) hev fuel g hf.code (fun _=>rfl) (endF rs one k kp) φ h w t { tmps:=vs.toArray ++ Array.replicate (fn.ntmps - vs.toArray.size) undef,defers:=[] } e2 hr ht (by simp; omega)) fun ex a' w' hq=>?_
 obtain ⟨ψ,g',t',Ds,h1,h2,h3,h4,⟨h5,h5',_⟩,h6⟩:=hq
 have done:TR ψ t' a'.tmps∧ret rs one t' g' k=r→LeavesInM Fence.wide 0 P fn a'.tmps (fun e w'=>∃ ψ g,HR P ng ψ g w'∧Ext φ h w ψ g w'∧match e with
   | .returned v=>∃ y,VR ψ y v∧k y g=r
   | .panicked ch=>∃ c y,ch=[{ v:=c,recovered:=false }]∧VR ψ y c∧kp y g=r
   | .outgrown=>False) a'.defers .returning w':=fun ⟨h3,e3⟩=>by
  rw [h5]
  refine leaves_marks (by simp) [] Ds w' h5' h1 h2 fun w2 hr2 hx2=>?_
  obtain ⟨y,v,h7,h8,h9⟩:=ret_ok (kt:=fun _=>True) hf.results hf.one hr2 h3.k (fun _ _=>trivial) h4 e3 g
  exact ⟨v,h7,ψ,g',hr2,hx2,y,h8,h9⟩
 cases ex with
 | normal=>exact done h6
 | ret=>exact done h6
 | panic ch=>
  obtain ⟨c,y,rfl,h7,h8⟩:=h6
  show LeavesInM Fence.wide 0 P fn a'.tmps _ a'.defers (.panicking _) w'
  rw [h5]
  refine leaves_marks (by simp) [] Ds w' h5' h1 h2 fun w2 hr2 hx2=>?_
  exact ⟨ψ,g',hr2,hx2,c,y,rfl,h7,h8⟩
 | exit id=>obtain ⟨_,h6⟩:=h6; exact (show False from (by subst h6; exact g)).elim
 | goto l=>exact h6.elim
 | outgrown=>exact h6.elim
theorem bindR_ok:∀ {ts:List Tmp} {pl:PL} {args:AV} {vs:List Value} {t:T} {tm:Array Value} {f:T→R},PlOK nt ts pl→LR φ args vs→TR φ t tm→nt≤tm.size→bindA pl args t f=r→r.good →
  vs.length=ts.length∧∃ t',TR φ t' ((ts.zip vs).foldl (fun tm (p,v)=>tm.setIfInBounds p v) tm)∧nt≤((ts.zip vs).foldl (fun (tm:Array Value) (p,v)=>tm.setIfInBounds p v) tm).size∧f t'=r
 | [],_,args,vs,t,tm,f,.z,hl,ht,hn,e,g=>by
  rcases onC_ok (x:=args) (kz:=f t) (kc:=fun _ _=>.fail 161) e g with ⟨rfl,e1⟩ | ⟨y,l,rfl,e1⟩
  ·cases LR_z_inv hl
   exact ⟨rfl,t,ht,hn,e1⟩
  ·exact (show False from (by subst e1; exact g)).elim
 | n :: ts,_,args,vs,t,tm,f,.c _ p _ pl ep hlt hps,hl,ht,hn,e,g=>by
  obtain ⟨y,args',rfl,e1⟩:=onC_c (x:=args) (n:=162) (kc:=fun x r=>setK AV.u x p t fun t=>bindA pl r t f) e g
  obtain ⟨v,vs',rfl,hy,hl'⟩:=LR_c_inv hl
  have e2:bindA pl args' (t.set .u y p) f=r:=(setK_eq _ _ _ _ _).symm.trans e1
  obtain ⟨h1,t',h2,h3,h4⟩:=bindR_ok hps hl' (ht.set hy ep (Nat.lt_of_lt_of_le hlt hn)) (by simpa using hn) e2 g
  exact ⟨by simp [h1],t',h2,h3,h4⟩
theorem round_ok (hev:EvOK P ng ev) (fuel:Nat) (p:Pos):YdFn P ng p (yld fuel ev p):=by
 intro args h k kp r φ w vs e g hr hl b s n hp
 have e0:hget p h (fun o=>obLp o fun t ps as bd e=>nmK e (hset p .dead h fun h=>bindA ps args t fun t'=>cod ev fuel as (asK fun t' h=>cod ev fuel bd (fun e _ h=>rnd p t ps as bd k e h) t' h) t' h))=r:=e
 rw [hget_eq] at e0
 obtain ⟨t,ps,as,bd,pe,hob,e1⟩:=obLp_ok e0 g
 obtain ⟨rfl,e2⟩:=nmK_ok e1 g
 rw [hset_eq] at e2
 obtain ⟨x,hx,ho⟩:=hr.obj p (by rw [hob]; simp)
 rw [hp] at hx; cases hx
 rw [hob] at ho
 obtain ⟨hs,L,nt,hL,ht,hn,hpl,has,hbd,hst,hpend⟩:=ho
 change s=0 at hs
 subst hs
 have hmine:(h.get p).mine:=by rw [hob]; trivial
 have hown:owned φ h b:=⟨p,_,hp,rfl,hmine⟩
 have hal:=hr.alone hp hmine
 have hr1:HR P ng φ (h.put p .dead) w:=hr.kill p
 have hx1:Ext φ h w φ (h.put p .dead) w:=.kill φ h w p
 obtain ⟨h1,t',h2,h3,e3⟩:=bindR_ok hpl hl ht hn e2 g
 have hy:=run_yield (P:=P) (args:=vs.toArray) hL (by simpa using h1)
 have hzip:(L.params.zip vs.toArray).foldl (fun tmps (t,a)=>tmps.setIfInBounds t a) L.tmps=(L.params.toList.zip vs).foldl (fun (tm:Array Value) (p,v)=>tm.setIfInBounds p v) L.tmps:=by
  rw [← Array.foldl_toList]
  simp
 rw [hzip] at hy
 refine ⟨L.fn,_,L.assign,L.body,hy,roundIn_of_wpIn trivial ?_⟩
 refine wpIn_mono (code_ok (ro:=some b) hev fuel g has (fun h=>(by cases h)) (asK fun t' h=>cod ev fuel bd (fun e _ h=>rnd p t ps as bd k e h) t' h) φ (h.put p .dead) w t' { tmps:=_,defers:=[] } e3 hr1 h2 h3) fun ex a1 w1 hq=>?_
 obtain ⟨ψ,g1,t1,Ds,q1,q2,q3,q4,q5,q6⟩:=hq
 cases ex with
 | exit id=>obtain ⟨_,q6⟩:=q6; exact (show False from (by subst q6; exact g)).elim
 | ret=>obtain ⟨_,q6⟩:=q6; exact (show False from (by subst q6; exact g)).elim
 | panic ch=>obtain ⟨_,_,_,_,q6⟩:=q6; exact (show False from (by subst q6; exact g)).elim
 | goto l=>exact q6.elim
 | outgrown=>exact q6.elim
 | normal=>
  obtain ⟨q7,e4⟩:=q6
  have hlt:b < w.heap.size:=(Array.getElem?_eq_some_iff.1 hL).1
  have hnl:¬ lives ψ g1 b:=fun hl=>hal (q2.live b hlt hl)
  have hL1:w1.heap[b]?=some (.loop L):=(q2.keep b hlt fun ⟨r',y,i1,i2,i3⟩=>hal ⟨r',y,i1,i2,Ob.mine_lives i3⟩).trans hL
  refine ⟨_,run_beginRound hL1 hst,?_⟩
  have hlt1:b < w1.heap.size:=(Array.getElem?_eq_some_iff.1 hL1).1
  have hr2:HR P ng ψ g1 (w1.putObj b (.loop { L with state:=.busy })):=q1.other _ hnl
  have hx2:Ext φ h w ψ g1 (w1.putObj b (.loop { L with state:=.busy })):=(hx1.trans q2).other _ (.inl hown)
  have hL2:(w1.putObj b (.loop { L with state:=.busy })).heap[b]?=some (.loop { L with state:=.busy }):=World.putObj_heap_same hlt1
  refine wpIn_mono (code_ok (ro:=some b) hev fuel g hbd (fun h=>(by cases h)) (fun e _ h=>rnd p t ps as bd k e h) ψ g1 _ t1 a1 e4 hr2 q7 q4) fun ex a2 w2 hq=>?_
  obtain ⟨χ,g2,t2,Es,p1,p2,p3,p4,p5,p6⟩:=hq
  have hlt2:b < (w1.putObj b (.loop { L with state:=.busy })).heap.size:=by rw [World.putObj_size]; exact hlt1
  have hnl2:¬ lives χ g2 b:=fun hl=>hnl (p2.live b hlt2 hl)
  have hL3:w2.heap[b]?=some (.loop { L with state:=.busy }):=(p2.keep b hlt2 fun ⟨r',y,i1,i2,i3⟩=>hnl ⟨r',y,i1,i2,Ob.mine_lives i3⟩).trans hL2
  have hlt3:b < w2.heap.size:=(Array.getElem?_eq_some_iff.1 hL3).1
  have hx3:Ext φ h w χ g2 w2:=hx2.trans p2
  have hpχ:χ p=some (b,0,n):=hx3.mono _ _ hp
  -- the round's end: the object is put back
  have fin:∀ (pe:AE) (j:Option Code),pendR pe { L with state:=if j.isNone then .ready else .done,pending:=j } →
    HR P ng χ (g2.put p (.lp t ps as bd pe)) (w2.putObj b (.loop { L with state:=if j.isNone then .ready else .done,pending:=j })) ∧
    Ext φ h w χ (g2.put p (.lp t ps as bd pe)) (w2.putObj b (.loop { L with state:=if j.isNone then .ready else .done,pending:=j })):=fun pe j hj=>by
   refine ⟨(p1.other _ hnl2).backO hpχ ⟨rfl,_,nt,World.putObj_heap_same hlt3,ht.mono hx3.mono,hn,hpl,has,hbd,hj⟩ hnl2,(hx3.other _ (.inl hown)).backO hpχ (.inl hown)⟩
  cases ex with
  | normal=>
   have e5:hset p (.lp t ps as bd .nm) g2 (fun h=>k (.b true) h)=r:=p6.2
   rw [hset_eq] at e5
   obtain ⟨f1,f2⟩:=fin .nm none ⟨rfl,rfl⟩
   exact ⟨_,_,run_endRound none hL3,χ,_,f1,f2,.b true,rfl,e5⟩
  | ret=>
   have e5:hset p (.lp t ps as bd .rt) g2 (fun h=>k (.b false) h)=r:=p6.2
   rw [hset_eq] at e5
   obtain ⟨f1,f2⟩:=fin .rt (some .ret) ⟨rfl,rfl⟩
   exact ⟨_,_,run_endRound (some .ret) hL3,χ,_,f1,f2,.b false,rfl,e5⟩
  | exit id=>
   have e5:hset p (.lp t ps as bd (.ex id)) g2 (fun h=>k (.b false) h)=r:=p6.2
   rw [hset_eq] at e5
   obtain ⟨f1,f2⟩:=fin (.ex id) (some (.exit id)) ⟨rfl,rfl⟩
   exact ⟨_,_,run_endRound (some (.exit id)) hL3,χ,_,f1,f2,.b false,rfl,e5⟩
  | panic ch=>obtain ⟨_,_,_,_,p6⟩:=p6; exact (show False from (by subst p6; exact g)).elim
  | goto l=>exact p6.elim
  | outgrown=>exact p6.elim
def FdOK (P:Program) (ng f:Nat):FD→Prop
 | .no=>True
 | .mk ps rs one body=>∃ fn c,FnOK P ng f ps rs one body fn c
 | d=>Enters P f∧∀ fuel ev,EvOK P ng ev→EvFn P ng f (fun args h k kp=>runF fuel ev d args h k kp)
def TabOK (P:Program) (ng:Nat) (tab:PT FD):Prop:=∀ q:Pos,FdOK P ng (q.val - 1) (tab.get .no q)
theorem evF_ok {tab:PT FD} (ht:TabOK P ng tab) (fuel:Nat):∀ depth,EvOK P ng (evF tab fuel depth)
 | 0=>⟨fun q ⟨_,_,_,_,g⟩=>g.elim,fun q args h k kp r φ w vs e g _ _=>(show False from (by subst e; exact g)).elim,fun p args h k kp r φ w vs e g _ _=>(show False from (by subst e; exact g)).elim⟩
 | depth + 1=>by
  have ih:=evF_ok ht fuel depth
  have hstep:∀ (q:Pos) args h k kp,evF tab fuel (depth + 1) (.fn q) args h k kp=runF fuel (evF tab fuel depth) (tab.get .no q) args h k kp:=fun q args h k kp=>getK_eq _ _ _ _
  refine ⟨fun q ⟨args,h,k,kp,g⟩=>?_,fun q args h k kp r φ w vs e g hr hl=>?_,fun p=>round_ok ih fuel p⟩
  ·rw [hstep] at g
   have:=ht q
   generalize tab.get .no q=d at this g
   cases d with
   | no=>exact g.elim
   | mk ps rs one body=>obtain ⟨fn,c,hf⟩:=this; exact ⟨fn,c,hf.func,hf.hasBody,hf.name⟩
   | ms=>exact this.1
   | sh=>exact this.1
   | dm=>exact this.1
   | sc=>exact this.1
  ·rw [hstep] at e
   have:=ht q
   generalize tab.get .no q=d at this e
   cases d with
   | no=>exact (show False from (by subst e; exact g)).elim
   | mk ps rs one body=>obtain ⟨fn,c,hf⟩:=this; exact fn_ok hf ih fuel args h k kp r φ w vs e g hr hl
   | ms=>exact this.2 fuel _ ih args h k kp r φ w vs e g hr hl
   | sh=>exact this.2 fuel _ ih args h k kp r φ w vs e g hr hl
   | dm=>exact this.2 fuel _ ih args h k kp r φ w vs e g hr hl
   | sc=>exact this.2 fuel _ ih args h k kp r φ w vs e g hr hl
end
end Go.Am
namespace Go.Am
theorem posv_eq:∀ p,posv p=p.val
 | .h=>rfl
 | .o p=>by show 2 * posv p=_; rw [posv_eq p]; rfl
 | .i p=>by show 2 * posv p + 1=_; rw [posv_eq p]; rfl
theorem tzB_ok {v:AV} {c:Nat} (h:tzB v c=true):(c=0→v=.u)∧(c=1→v=.pz)∧(c=2→v=.sz)∧(c=3→v=.se)∧(c=4→v=.mz)∧(c=5→v=.fz)∧(c=6→v=.iz)∧(c=7→v=.z):=by
 cases v<;>first | (have h':=Nat.eq_of_beq_eq_true h; subst h'; simp) | cases h
theorem eqA_ok:∀ {x y:AV},eqA x y=true→x=y:=by
 intro x
 induction x with
 | u=>intro y h; exact ((tzB_ok (v:=y) (c:=0) h).1 rfl).symm
 | pz=>intro y h; exact ((tzB_ok (v:=y) (c:=1) h).2.1 rfl).symm
 | sz=>intro y h; exact ((tzB_ok (v:=y) (c:=2) h).2.2.1 rfl).symm
 | se=>intro y h; exact ((tzB_ok (v:=y) (c:=3) h).2.2.2.1 rfl).symm
 | mz=>intro y h; exact ((tzB_ok (v:=y) (c:=4) h).2.2.2.2.1 rfl).symm
 | fz=>intro y h; exact ((tzB_ok (v:=y) (c:=5) h).2.2.2.2.2.1 rfl).symm
 | iz=>intro y h; exact ((tzB_ok (v:=y) (c:=6) h).2.2.2.2.2.2.1 rfl).symm
 | z=>intro y h; exact ((tzB_ok (v:=y) (c:=7) h).2.2.2.2.2.2.2 rfl).symm
 | b a=>intro y h; cases y<;>first | (rw [beqB_true (a:=a) h]) | cases h
 | n kd a=>
  intro y h
  cases y<;>first | cases h | skip
  rename_i kd' b
  obtain ⟨h1,h2⟩:=band_t (a:=ksame kd kd') (b:=keq a b) h
  rw [keq_eq] at h2
  rw [ksame_t h1,of_decide_eq_true h2]
 | s a=>intro y h; cases y<;>first | (rw [leq_true (x:=a) h]) | cases h
 | p q o=>
  intro y h
  cases y<;>first | cases h | skip
  rename_i q' o'
  obtain ⟨h1,h2⟩:=band_t (a:=posq q q') (b:=Nat.beq o o') h
  rw [posq_ok h1,Nat.eq_of_beq_eq_true h2]
 | sl q o n e=>
  intro y h
  cases y<;>first | cases h | skip
  rename_i q' o' n' e'
  obtain ⟨h1,h2⟩:=band_t (a:=posq q q') (b:=band (Nat.beq o o') (band (Nat.beq n n') (Nat.beq e e'))) h
  obtain ⟨h2,h3⟩:=band_t h2
  obtain ⟨h3,h4⟩:=band_t h3
  rw [posq_ok h1,Nat.eq_of_beq_eq_true h2,Nat.eq_of_beq_eq_true h3,Nat.eq_of_beq_eq_true h4]
 | sk q o n e=>
  intro y h
  cases y<;>first | cases h | skip
  rename_i q' o' n' e'
  obtain ⟨h1,h2⟩:=band_t (a:=posq q q') (b:=band (Nat.beq o o') (band (Nat.beq n n') (Nat.beq e e'))) h
  obtain ⟨h2,h3⟩:=band_t h2
  obtain ⟨h3,h4⟩:=band_t h3
  rw [posq_ok h1,Nat.eq_of_beq_eq_true h2,Nat.eq_of_beq_eq_true h3,Nat.eq_of_beq_eq_true h4]
 | m q=>intro y h; cases y<;>first | (rw [posq_ok (p:=q) h]) | cases h
 | f | y | md=>intro y h; cases h
 | ia t v ih=>
  intro y h
  cases y<;>first | cases h | skip
  rename_i t' v'
  obtain ⟨h1,h2⟩:=band_t (a:=Nat.beq t t') (b:=eqA v v') h
  rw [Nat.eq_of_beq_eq_true h1,ih h2]
 | a l ih=>intro y h; cases y<;>first | (rw [ih h]) | cases h
 | t l ih=>intro y h; cases y<;>first | (rw [ih h]) | cases h
 | c x l ih ih'=>
  intro y h
  cases y<;>first | cases h | skip
  rename_i x' l'
  obtain ⟨h1,h2⟩:=band_t (a:=eqA x x') (b:=eqA l l') h
  rw [ih h1,ih' h2]
theorem okB_ok {x:R} {v:AV} (h:okB x v=true):∃ g,x=.ok v g:=by
 cases x with
 | ok y g=>rw [← eqA_ok (x:=y) (y:=v) h]; exact ⟨g,rfl⟩
 | fail=>cases h
 | pan=>cases h
def mkL:List (Pos × Nat)→AV
 | []=>.z
 | (q,o) :: l=>.c (.p q o) (mkL l)
structure Cst (P:Program) (ng:Nat) (φ:Ph) (w:World) (lo:Pos) (φc:Ph) (hc:H) (L:List (Pos × Nat)):Prop where
 hr:HR P ng φc hc w
 still:∀ r,¬ (hc.get r).mine
 nx:hc.nx.val=lo.val + L.length
 rows:∀ (i:Nat) q o,L[i]?=some (q,o)→∃ b s n,φ q=some (b,s,n)∧∀ p:Pos,p.val + i + 1=hc.nx.val→φc p=some (b,s + o,n)
def Built (P:Program) (ng:Nat) (φ:Ph) (w:World) (lo:Pos) (D:AV) (L L':List (Pos × Nat)) (G:Ph→AV→Prop):Prop:=
 ∀ φc hc,Cst P ng φ w lo φc hc L→∃ x φc' hc',(∀ κ,bld D hc κ=κ x hc')∧φc.le φc'∧Cst P ng φ w lo φc' hc' L'∧G φc' x
def FinOK (P:Program) (ng:Nat) (φ:Ph) (w:World) (lo:Pos) (full:Prop) (fin:CF):Prop:=
 ∀ (cells:AV) (L:List (Pos × Nat)) (k:AV→AV→R) (r:R) (vs:List Value),fin cells (mkL L) k=r→r.good→LR φ cells vs →
  ∃ D L' vs1 vs2,vs=vs1 ++ vs2∧(full→vs2=[])∧k D (mkL L')=r∧Built P ng φ w lo D L L' fun ψ x=>LR ψ x vs1
section
variable {P:Program} {ng:Nat} {φ:Ph} {h:H} {w:World} {lo:Pos}
theorem HR.growRo (k:HR P ng φ h w) (hs:∀ r,¬ (h.get r).mine) {x:Nat × Nat × Nat} {c:AV} (hlt:x.1 < w.heap.size) (ho:OR P ng (φ.add h.nx x) w x (.ro c)) :
  HR P ng (φ.add h.nx x) (h.add (.ro c)) w:=by
 refine ⟨fun r hr=>?_,fun r p y z hrm _ _ _ _=>?_,fun r y hy=>?_,fun r y hy=>?_,fun r hr=>?_,?_⟩
 ·rw [H.get_add] at hr ⊢
  by_cases e:r=h.nx
  ·subst e; rw [if_pos rfl]; exact ⟨x,Ph.add_same _ _ _,ho⟩
  ·rw [if_neg e] at hr ⊢
   obtain ⟨y,hy,oy⟩:=k.obj r hr
   exact ⟨y,k.le_add x _ _ hy,oy.mono (k.le_add x)⟩
 ·rw [H.get_add] at hrm
  split at hrm
  ·exact hrm.elim
  ·exact absurd hrm (hs r)
 ·unfold Ph.add at hy
  show r.val < h.nx.suc.val
  rw [Pos.suc_val]
  split at hy
  ·rename_i e; rw [e]; omega
  ·have:=k.dom r y hy; omega
 ·unfold Ph.add at hy
  split at hy
  ·cases hy; exact hlt
  ·exact k.bnd r y hy
 ·obtain ⟨n,hn⟩:=k.glob r hr
  exact ⟨n,k.le_add x _ _ hn⟩
 ·show ng < h.nx.suc.val
  rw [Pos.suc_val]; have:=k.gone; omega
theorem still_add {h:H} (hs:∀ r,¬ (h.get r).mine) (c:AV):∀ r,¬ ((h.add (.ro c)).get r).mine:=fun r hm=>by
 rw [H.get_add] at hm
 split at hm
 ·exact hm
 ·exact hs r hm
theorem Cst.push {φc:Ph} {hc:H} {L:List (Pos × Nat)} (k:Cst P ng φ w lo φc hc L) {q:Pos} {o b s n:Nat} (hq:φ q=some (b,s,n)) (hlt:b < w.heap.size) {c:AV} {vs:List Value} (hl:LR φc c vs) (ha:RowAt w (b,s + o,n) vs) :
  Cst P ng φ w lo (φc.add hc.nx (b,s + o,n)) (hc.add (.ro c)) ((q,o) :: L)∧φc.le (φc.add hc.nx (b,s + o,n)):=by
 have hle:=k.hr.le_add (b,s + o,n)
 refine ⟨⟨k.hr.growRo k.still hlt ⟨vs,hl.mono hle,ha⟩,still_add k.still c,?_,fun i q' o' hi=>?_⟩,hle⟩
 ·show hc.nx.suc.val=_
  rw [Pos.suc_val,k.nx]; simp; omega
 ·have hnx:(hc.add (.ro c)).nx.val=hc.nx.val + 1:=Pos.suc_val _
  cases i with
  | zero=>
   cases (show some (q,o)=some (q',o') from hi)
   refine ⟨b,s,n,hq,fun p hp=>?_⟩
   have:p=hc.nx:=Pos.val_inj (by omega)
   subst this
   exact Ph.add_same _ _ _
  | succ i=>
   obtain ⟨b',s',n',h1,h2⟩:=k.rows i q' o' hi
   exact ⟨b',s',n',h1,fun p hp=>hle _ _ (h2 p (by omega))⟩
theorem Built.plain {D:AV} {L:List (Pos × Nat)} {G:Ph→AV→Prop} (hb:∀ hc κ,bld D hc κ=κ D hc) (hg:∀ ψ,G ψ D):Built P ng φ w lo D L L G:=
 fun φc hc k=>⟨D,φc,hc,fun κ=>hb hc κ,φc.le_refl,k,hg φc⟩
theorem rep_ok {pat:AV→H→AV→CF→(AV→AV→R)→R} (hp:∀ (full:Prop) (fin:CF),FinOK P ng φ w lo full fin→FinOK P ng φ w lo full (fun cells L k=>pat cells h L fin k)):∀ n,FinOK P ng φ w lo False (cnRep pat n h)
 | 0=>fun cells L k r vs e g hl=>⟨.z,L,[],vs,rfl,(fun f=>f.elim),e,.plain (fun _ _=>rfl) (fun _=>rfl)⟩
 | n + 1=>hp False _ (rep_ok hp n)
theorem finz_ok {n:Nat}:FinOK P ng φ w lo True (fun rest L k=>onC rest (k .z L) fun _ _=>.fail n):=fun cells L k r vs e g hl=>by
 rcases onC_ok (x:=cells) e g with ⟨rfl,e1⟩ | ⟨y,l,rfl,e1⟩
 ·cases LR_z_inv hl
  exact ⟨.z,L,[],[],rfl,fun _=>rfl,e1,.plain (fun _ _=>rfl) (fun _=>rfl)⟩
 ·exact (show False from (by subst e1; exact g)).elim
theorem row_ok (hr:HR P ng φ h w) {pat:AV→H→AV→CF→(AV→AV→R)→R} (hp:∀ (full:Prop) (fin:CF),FinOK P ng φ w lo full fin→FinOK P ng φ w lo full (fun cells L k=>pat cells h L fin k))
  {e o n:Nat} {q:Pos} {hdr:AV} {L:List (Pos × Nat)} {k:AV→AV→R} {r:R} {b s N:Nat} (hφ:φ q=some (b,s,N)) {G:Ph→AV→Prop} {f:Pos→AV}
  (h1:∀ hc κ,bld hdr hc κ=κ hdr hc) (h2:∀ κ:(Pos→AV)→R,hdrK hdr κ=κ f) (hg:∀ ψ p,ψ p=some (b,s + o,N)→G ψ (f p))
  (he:cnRow pat e q o n hdr h (mkL L) k=r) (g:r.good):∃ D L',k D (mkL L')=r∧Built P ng φ w lo D L L' G:=by
 unfold cnRow at he
 rw [hget_eq] at he
 obtain ⟨c,hc,e1⟩:=obRow_ok he g
 obtain ⟨vs,hl,ha⟩:=hr.row hφ hc
 obtain ⟨hle,l1,hl1,e2⟩:=drp_ok e1 g hl
 obtain ⟨D,L',vs1,vs2,hvs,_,e3,hb⟩:=rep_ok hp n l1 L _ r _ e2 g hl1
 refine ⟨_,(q,o) :: L',e3,fun φc hc0 hk=>?_⟩
 obtain ⟨x,φc',hc',i1,i2,i3,i4⟩:=hb φc hc0 hk
 have hrow:RowAt w (b,s + o,N) vs1:=by
  obtain ⟨cs,et,fr,j1,j2,j3,j4,j5⟩:=ha
  have hlen:(vs.drop o).length=vs1.length + vs2.length:=by rw [hvs]; simp
  simp only [List.length_drop] at hlen
  refine ⟨cs,et,fr,j1,j2,?_,fun i v hv=>?_,j5⟩
  ·show s + o + vs1.length≤N
   have:s + vs.length≤N:=j3
   omega
  ·have hv':(vs.drop o)[i]?=some v:=by
    rw [hvs]
    rw [List.getElem?_append_left (List.getElem?_eq_some_iff.1 hv).1]
    exact hv
   rw [List.getElem?_drop] at hv'
   have:=j4 (o + i) v hv'
   show cs[s + o + i]?=some v
   rw [Nat.add_assoc]; exact this
 obtain ⟨k1,k2⟩:=i3.push hφ (hr.bnd _ _ hφ) i4 hrow
 refine ⟨f hc'.nx,_,_,fun κ=>?_,Ph.le_trans i2 k2,k1,hg _ _ (Ph.add_same _ _ _)⟩
 have step:bld (.ia 0 (.c hdr D)) hc0 κ=bld hdr hc0 fun x h=>bld D h fun l h=>hdrK x fun f=>hnew (.ro l) h fun r h=>κ (f r) h:=rfl
 rw [step,h1,i1,h2,hnew_eq]
theorem cn_ok (hr:HR P ng φ h w):∀ d:TD,
  (∀ (x:AV) (L:List (Pos × Nat)) (k:AV→AV→R) (r:R) (v:Value),(cn d).1 x h (mkL L) k=r→r.good→VR φ x v→∃ D L',k D (mkL L')=r∧Built P ng φ w lo D L L' fun ψ x=>VR ψ x v) ∧
  (∀ (full:Prop) (fin:CF),FinOK P ng φ w lo full fin→FinOK P ng φ w lo full (fun cells L k=>(cn d).2 cells h L fin k)):=by
 intro d
 induction d with
 | s=>
  refine ⟨fun x L k r v e g hv=>?_,fun _ _ _ _ _ _ _ _ e g=>(show False from (by subst e; exact g)).elim⟩
  have e':isPl x (k x (mkL L))=r:=e
  cases x<;>first
   | exact ⟨_,L,e',.plain (fun _ _=>rfl) (fun _=>hv)⟩
   | exact (show False from (by subst e'; exact g)).elim
 | a l ih=>
  refine ⟨fun x L k r v e g hv=>?_,fun _ _ _ _ _ _ _ _ e g=>(show False from (by subst e; exact g)).elim⟩
  obtain ⟨c,rfl,e1⟩:=asA_ok (x:=x) e g
  obtain ⟨cs,rfl,hl⟩:=hv
  obtain ⟨D,L',vs1,vs2,hvs,hf,e2,hb⟩:=ih.2 True _ finz_ok c L (fun D L=>k (.a D) L) r _ e1 g hl
  rw [hf trivial,List.append_nil] at hvs
  refine ⟨_,L',e2,fun φc hc hk=>?_⟩
  obtain ⟨y,φc',hc',i1,i2,i3,i4⟩:=hb φc hc hk
  exact ⟨.a y,φc',hc',fun κ=>i1 _,i2,i3,cs,rfl,hvs▸i4⟩
 | l e0 l ih=>
  refine ⟨fun x L k r v e g hv=>?_,fun _ _ _ _ _ _ _ _ e g=>(show False from (by subst e; exact g)).elim⟩
  have e':cnSl x (cn l).2 e0 h (mkL L) k=r:=e
  cases x
  case sz=>exact ⟨_,L,e',.plain (fun _ _=>rfl) (fun _=>hv)⟩
  case se=>exact ⟨_,L,e',.plain (fun _ _=>rfl) (fun _=>hv)⟩
  case sl q o n ew=>
   obtain ⟨b,s,N,c,hφ,rfl,h1,h2⟩:=hv
   exact row_ok (e:=e0) (f:=fun r=>.sl r 0 n ew) hr ih.2 hφ (fun _ _=>rfl) (fun _=>rfl) (fun ψ p hp=>⟨b,s + o,N,c,hp,rfl,by simpa using h1,h2⟩) e' g
  case sk q o n cp=>
   obtain ⟨b,s,N,hφ,rfl,h2⟩:=hv
   exact row_ok (e:=e0) (f:=fun r=>.sk r 0 n cp) hr ih.2 hφ (fun _ _=>rfl) (fun _=>rfl) (fun ψ p hp=>⟨b,s + o,N,hp,rfl,h2⟩) e' g
  all_goals exact (show False from (by subst e'; exact g)).elim
 | z=>exact ⟨fun _ _ _ _ _ e g=>(show False from (by subst e; exact g)).elim,fun full fin hf=>hf⟩
 | c x l ihx ihl=>
  refine ⟨fun _ _ _ _ _ e g=>(show False from (by subst e; exact g)).elim,fun full fin hf cells L k r vs e g hl=>?_⟩
  obtain ⟨y,rest,rfl,e1⟩:=onC_c (x:=cells) (n:=214) (kc:=fun x' rest=>(cn x).1 x' h (mkL L) fun D L=>(cn l).2 rest h L fin fun T L=>k (.c D T) L) e g
  obtain ⟨v,vs',rfl,hy,hl'⟩:=LR_c_inv hl
  obtain ⟨D,L1,e2,hb⟩:=ihx.1 y L _ r v e1 g hy
  obtain ⟨T,L2,vs1,vs2,rfl,h2,e3,hb2⟩:=ihl.2 full fin hf rest L1 (fun T L=>k (.c D T) L) r vs' e2 g hl'
  refine ⟨.c D T,L2,v :: vs1,vs2,rfl,h2,e3,fun φc hc hk=>?_⟩
  obtain ⟨x1,φ1,h1,i1,i2,i3,i4⟩:=hb φc hc hk
  obtain ⟨x2,φ2,h2,j1,j2,j3,j4⟩:=hb2 φ1 h1 i3
  exact ⟨.c x1 x2,φ2,h2,fun κ=>(i1 _).trans (j1 _),Ph.le_trans i2 j2,j3,LR_c (i4.mono j2) j4⟩
end
end Go.Am
namespace Go.Am
section
variable {P:Program} {ng:Nat} {φ:Ph} {h:H} {w w':World} {lo:Pos}
theorem Ext.add {φt:Ph} {ht:H} (k:Ext φ h w φt ht w') (hf:φt ht.nx=none) {x:Nat × Nat × Nat} (hx:w.heap.size≤x.1) (o:Ob):Ext φ h w (φt.add ht.nx x) (ht.add o) w':=by
 have hle:φt.le (φt.add ht.nx x):=fun r y hy=>by
  unfold Ph.add
  split
  ·rename_i e; rw [e,hf] at hy; cases hy
  ·exact hy
 refine ⟨Ph.le_trans k.mono hle,k.size,k.tape,k.os,k.output,fun b hb ⟨r,y,hy,e,hm⟩=>?_,k.keep,?_,fun r hr=>?_,fun b hb ⟨r,y,hy,e,hm⟩=>?_⟩
 ·rw [H.get_add] at hm
  unfold Ph.add at hy
  by_cases er:r=ht.nx
  ·rw [if_pos er] at hy; cases hy; omega
  ·rw [if_neg er] at hy hm
   exact k.own b hb ⟨r,y,hy,e,hm⟩
 ·show _≤ht.nx.suc.val
  rw [Pos.suc_val]; have:=k.nx; omega
 ·unfold Ph.add
  have:r≠ht.nx:=fun e=>by subst e; have:=k.nx; omega
  rw [if_neg this]
  exact k.old r hr
 ·rw [H.get_add] at hm
  unfold Ph.add at hy
  by_cases er:r=ht.nx
  ·rw [if_pos er] at hy; cases hy; omega
  ·rw [if_neg er] at hy hm
   exact k.live b hb ⟨r,y,hy,e,hm⟩
structure Mv (P:Program) (ng:Nat) (φ:Ph) (h:H) (w w':World) (ψ:Ph) (g:H) (φt:Ph) (ht:H):Prop where
 src:HR P ng ψ g w'
 dst:HR P ng φt ht w'
 ex:Ext φ h w φt ht w'
 new:∀ b,owned ψ g b→w.heap.size≤b
 apart:∀ b,owned ψ g b→¬ lives φt ht b
structure Moved (P:Program) (ng:Nat) (φ:Ph) (h:H) (w w':World) (ψ:Ph) (g:H) (φt:Ph) (ht:H) (g':H) (φt':Ph) (ht':H):Prop where
 le:φt.le φt'
 mv:Mv P ng φ h w w' ψ g' φt' ht'
 liv:∀ b,lives φt' ht' b→lives φt ht b∨owned ψ g b
 own:∀ b,owned ψ g' b→owned ψ g b
theorem Mv.refl {ψ φt:Ph} {g ht:H} (k:Mv P ng φ h w w' ψ g φt ht):Moved P ng φ h w w' ψ g φt ht g φt ht:=⟨φt.le_refl,k,fun _ l=>.inl l,fun _ o=>o⟩
theorem Moved.trans {ψ φt φu φv:Ph} {g g1 g2 ht hu hv:H} (a:Moved P ng φ h w w' ψ g φt ht g1 φu hu) (b:Moved P ng φ h w w' ψ g1 φu hu g2 φv hv):Moved P ng φ h w w' ψ g φt ht g2 φv hv:=
 ⟨Ph.le_trans a.le b.le,b.mv,fun x l=>(b.liv x l).elim (fun l=>a.liv x l) fun o=>.inr (a.own x o),fun x o=>a.own x (b.own x o)⟩
theorem owned_put {ψ:Ph} {g:H} {q:Pos} {b:Nat} (o:owned ψ (g.put q .dead) b):owned ψ g b∧∃ r x,r≠q∧ψ r=some x∧x.1=b∧(g.get r).mine:=by
 obtain ⟨r,x,h1,h2,h3⟩:=o
 rw [H.get_put] at h3
 split at h3
 ·exact h3.elim
 ·rename_i e; exact ⟨⟨r,x,h1,h2,h3⟩,r,x,e,h1,h2,h3⟩
theorem Mv.kill {ψ φt:Ph} {g ht:H} (k:Mv P ng φ h w w' ψ g φt ht) (q:Pos):Mv P ng φ h w w' ψ (g.put q .dead) φt ht:=
 ⟨k.src.kill q,k.dst,k.ex,fun b o=>k.new b (owned_put o).1,fun b o=>k.apart b (owned_put o).1⟩
theorem moved_row {ψ φt φu:Ph} {g g2 ht hu:H} (k:Mv P ng φ h w w' ψ g φt ht) {q:Pos} {x:Nat × Nat × Nat} {c:AV} (hq:ψ q=some x) (hc:g.get q=.row c)
  (m:Moved P ng φ h w w' ψ (g.put q .dead) φt ht g2 φu hu) {y:AV} {vs:List Value} (hy:LR φu y vs) (ha:RowAt w' x vs) :
  Moved P ng φ h w w' ψ g φt ht g2 (φu.add hu.nx x) (hu.add (.row y)):=by
 have hmine:(g.get q).mine:=by rw [hc]; trivial
 have hown:owned ψ g x.1:=⟨q,x,hq,rfl,hmine⟩
 have hno:¬ owned ψ (g.put q .dead) x.1:=fun o=>by
  obtain ⟨_,r,z,h1,h2,h3,h4⟩:=owned_put o
  exact h1 (k.src.inj r q z x h4 (Ob.mine_lives hmine) h2 hq h3)
 have hnl:¬ lives φu hu x.1:=fun l=>(m.liv _ l).elim (k.apart _ hown) hno
 have hlt:x.1 < w'.heap.size:=k.src.bnd _ _ hq
 have hle:=m.mv.dst.le_add x
 have hlv:∀ b,lives (φu.add hu.nx x) (hu.add (.row y)) b→b=x.1∨lives φu hu b:=fun b ⟨r,z,h1,h2,h3⟩=>by
  rw [H.get_add] at h3
  unfold Ph.add at h1
  by_cases er:r=hu.nx
  ·rw [if_pos er] at h1; cases h1; exact .inl h2.symm
  ·rw [if_neg er] at h1 h3; exact .inr ⟨r,z,h1,h2,h3⟩
 refine ⟨Ph.le_trans m.le hle,⟨m.mv.src,m.mv.dst.grow hlt (fun r z hr hz e=>hnl ⟨r,z,hz,e,hr⟩) ⟨vs,hy.mono hle,ha⟩ (Nat.le_refl _) (fun _ _ _=>rfl),m.mv.ex.add m.mv.dst.fresh (k.new _ hown) _,m.mv.new,fun b o l=>?_⟩,fun b l=>?_,fun b o=>(owned_put (m.own b o)).1⟩
 ·rcases hlv b l with rfl | l
  ·exact hno (m.own _ o)
  ·exact m.mv.apart b o l
 ·rcases hlv b l with rfl | l
  ·exact .inr hown
  ·exact (m.liv b l).imp_right fun o=>(owned_put o).1
theorem nthL:∀ {l:List (Pos × Nat)} {j:Nat} {q:Pos} {o:Nat},l[j]?=some (q,o)→∀ f:AV→R,nth j (mkL l) f=f (.p q o)
 | [],j,q,o,hj,f=>by cases hj
 | (q',o') :: l,0,q,o,hj,f=>by cases (show some (q',o')=some (q,o) from hj); rfl
 | (q',o') :: l,j + 1,q,o,hj,f=>nthL (l:=l) (j:=j) hj f
theorem ext_ok {ψ:Ph} {nx:Nat} {L:List (Pos × Nat)} (hL:∀ p:Pos,lo.val≤p.val→p.val < nx→∃ q o b s n,L[nx - p.val - 1]?=some (q,o)∧φ q=some (b,s,n)∧ψ p=some (b,s + o,n)) :
  ∀ (fuel:Nat) (v:AV) (g:H) (k:AV→H→R) (r:R),ext lo.val nx fuel v g k=r→r.good→∀ φt ht,Mv P ng φ h w w' ψ g φt ht →
   (∀ u,VR ψ v u→∃ D g' y φt' ht',k D g'=r∧(∀ κ,ins D (mkL L) ht κ=κ y ht')∧Moved P ng φ h w w' ψ g φt ht g' φt' ht'∧VR φt' y u) ∧
   (∀ us,LR ψ v us→∃ D g' y φt' ht',k D g'=r∧(∀ κ,ins D (mkL L) ht κ=κ y ht')∧Moved P ng φ h w w' ψ g φt ht g' φt' ht'∧LR φt' y us):=by
 intro fuel
 induction fuel with
 | zero=>intro v g k r e gd; exact (show False from (by subst e; exact gd)).elim
 | succ fuel ihF=>
  -- a slice's row: moved,or the caller's own
  have slice:∀ (q:Pos) (o:Nat) (hdr:AV) (f:Pos→Nat→AV) (g:H) (k:AV→H→R) (r:R) (u:Value),(fN (posv q) fun p=>kif (Nat.ble nx p) (hget q g fun ob=>obRowW ob fun cs=>hset q .dead g fun g=>ext lo.val nx fuel cs g fun D g=>k (.ia 0 (.c hdr D)) g) (kif (Nat.ble lo.val p) (k (.ia (nx - p) hdr) g) (.fail 217)))=r→r.good →
    ∀ φt ht,Mv P ng φ h w w' ψ g φt ht→(∀ hc κ,ins hdr (mkL L) hc κ=κ hdr hc)→(∀ κ:(Pos→AV)→R,hdrK hdr κ=κ fun r=>f r o)→(∀ q' o' (κ:AV→R),shf hdr q' o' κ=κ (f q' (o' + o))) →
    ∀ b s n,ψ q=some (b,s,n)→(∀ χ p o' s',χ p=some (b,s',n)→s' + o'=s + o→VR χ (f p o') u)→∃ D g' y φt' ht',k D g'=r∧(∀ κ,ins D (mkL L) ht κ=κ y ht')∧Moved P ng φ h w w' ψ g φt ht g' φt' ht'∧VR φt' y u:=by
   intro q o hdr f g k r u e gd φt ht hm hins hhdr hshf b s n hq hv
   rw [fN_eq,posv_eq] at e
   rcases kif_ok e with ⟨h1,e1⟩ | ⟨h1,e1⟩
   ·rw [hget_eq] at e1
    obtain ⟨c,hc,e2⟩:=obRowW_ok e1 gd
    rw [hset_eq] at e2
    obtain ⟨vs,hl,ha⟩:=hm.src.row hq (.inl hc)
    obtain ⟨D,g2,y,φu,hu,i1,i2,i3,i4⟩:=(ihF c _ _ _ e2 gd φt ht (hm.kill q)).2 vs hl
    refine ⟨_,g2,f hu.nx o,_,_,i1,fun κ=>?_,moved_row hm hq hc i3 i4 ha,hv _ _ _ _ (Ph.add_same _ _ _) rfl⟩
    have step:ins (.ia 0 (.c hdr D)) (mkL L) ht κ=ins hdr (mkL L) ht fun x h=>ins D (mkL L) h fun l h=>hdrK x fun f=>hnew (.row l) h fun r h=>κ (f r) h:=rfl
    rw [step,hins,i2,hhdr,hnew_eq]
   ·obtain ⟨h2,e2⟩:=kif_t e1 gd
    have h1':q.val < nx:=Nat.lt_of_not_le fun hh=>by rw [Nat.ble_eq_true_of_le hh] at h1; cases h1
    have h2':lo.val≤q.val:=Nat.le_of_ble_eq_true h2
    obtain ⟨q',o',b',s',n',j1,j2,j3⟩:=hL q h2' h1'
    rw [hq] at j3; cases j3
    refine ⟨_,g,f q' (o' + o),φt,ht,e2,fun κ=>?_,hm.refl,hv φt q' (o' + o) s' (hm.ex.mono _ _ j2) (by omega)⟩
    obtain ⟨j,hj⟩:∃ j,nx - q.val=j + 1:=⟨nx - q.val - 1,by omega⟩
    rw [show nx - q.val - 1=j by omega] at j1
    rw [hj]
    have step:ins (.ia (j + 1) hdr) (mkL L) ht κ=nth j (mkL L) fun q=>asP q fun r o=>shf hdr r o fun x=>κ x ht:=rfl
    rw [step,nthL j1]
    show shf hdr q' o' _=_
    rw [hshf]
  intro v
  induction v with
  | u | p | mz | m | f | fz | ia | y | md=>intro g k r e gd; exact (show False from (by subst e; exact gd)).elim
  | b c=>intro g k r e gd φt ht hm; exact ⟨fun u hu=>⟨_,g,.b c,φt,ht,e,fun _=>rfl,hm.refl,hu⟩,fun us hu=>hu.elim⟩
  | n kd c=>intro g k r e gd φt ht hm; exact ⟨fun u hu=>⟨_,g,.n kd c,φt,ht,e,fun _=>rfl,hm.refl,hu⟩,fun us hu=>hu.elim⟩
  | s c=>intro g k r e gd φt ht hm; exact ⟨fun u hu=>⟨_,g,.s c,φt,ht,e,fun _=>rfl,hm.refl,hu⟩,fun us hu=>hu.elim⟩
  | sz=>intro g k r e gd φt ht hm; exact ⟨fun u hu=>⟨_,g,.sz,φt,ht,e,fun _=>rfl,hm.refl,hu⟩,fun us hu=>hu.elim⟩
  | pz=>intro g k r e gd φt ht hm; exact ⟨fun u hu=>⟨_,g,.pz,φt,ht,e,fun _=>rfl,hm.refl,hu⟩,fun us hu=>hu.elim⟩
  | iz=>intro g k r e gd φt ht hm; exact ⟨fun u hu=>⟨_,g,.iz,φt,ht,e,fun _=>rfl,hm.refl,hu⟩,fun us hu=>hu.elim⟩
  | se=>intro g k r e gd φt ht hm; exact ⟨fun u hu=>⟨_,g,.se,φt,ht,e,fun _=>rfl,hm.refl,hu⟩,fun us hu=>hu.elim⟩
  | z=>intro g k r e gd φt ht hm; exact ⟨fun u hu=>hu.elim,fun us hu=>⟨_,g,.z,φt,ht,e,fun _=>rfl,hm.refl,hu⟩⟩
  | sl q o n ew=>
   intro g k r e gd φt ht hm
   refine ⟨fun u ⟨b,s,N,c,h1,h2,h3,h4⟩=>?_,fun us hu=>hu.elim⟩
   exact slice q o (.sl .h o n ew) (fun r o=>.sl r o n ew) g k r u e gd φt ht hm (fun _ _=>rfl) (fun _=>rfl) (fun q' o' κ=>fN_eq _ _) b s N h1 fun χ p o' s' hp hs=>⟨b,s',N,c,hp,by rw [hs]; exact h2,by omega,h4⟩
  | sk q o n cp=>
   intro g k r e gd φt ht hm
   refine ⟨fun u ⟨b,s,N,h1,h2,h4⟩=>?_,fun us hu=>hu.elim⟩
   exact slice q o (.sk .h o n cp) (fun r o=>.sk r o n cp) g k r u e gd φt ht hm (fun _ _=>rfl) (fun _=>rfl) (fun q' o' κ=>fN_eq _ _) b s N h1 fun χ p o' s' hp hs=>⟨b,s',N,hp,by rw [hs]; exact h2,h4⟩
  | a l ih=>
   intro g k r e gd φt ht hm
   refine ⟨fun u ⟨cs,hu,hl⟩=>?_,fun us hu=>hu.elim⟩
   obtain ⟨D,g',y,φt',ht',i1,i2,i3,i4⟩:=(ih g (fun l g=>k (.a l) g) r e gd φt ht hm).2 _ hl
   exact ⟨.a D,g',.a y,φt',ht',i1,fun κ=>i2 _,i3,cs,hu,i4⟩
  | t l ih=>
   intro g k r e gd φt ht hm
   refine ⟨fun u ⟨cs,hu,hl⟩=>?_,fun us hu=>hu.elim⟩
   obtain ⟨D,g',y,φt',ht',i1,i2,i3,i4⟩:=(ih g (fun l g=>k (.t l) g) r e gd φt ht hm).2 _ hl
   exact ⟨.t D,g',.t y,φt',ht',i1,fun κ=>i2 _,i3,cs,hu,i4⟩
  | c x l ihx ihl=>
   intro g k r e gd φt ht hm
   refine ⟨fun u hu=>hu.elim,fun us ⟨v,vs,hus,hv,hvs⟩=>?_⟩
   obtain ⟨D,g1,y,φ1,h1,i1,i2,i3,i4⟩:=(ihx g (fun x g=>ext lo.val nx (fuel + 1) l g fun l g=>k (.c x l) g) r e gd φt ht hm).1 v hv
   obtain ⟨T,g2,zq,φ2,h2,j1,j2,j3,j4⟩:=(ihl g1 (fun l g=>k (.c D l) g) r i1 gd φ1 h1 i3.mv).2 vs hvs
   exact ⟨.c D T,g2,.c y zq,φ2,h2,j1,fun κ=>(i2 _).trans (j2 _),i3.trans j3,v,vs,hus,i4.mono j3.le,j4⟩
end
end Go.Am
namespace Go.Am
def plV:AV→Bool
 | .b _ | .n .. | .s _ | .z=>true
 | .c x l=>plV x && plV l
 | .a l=>plV l
 | _=>false
def gsB:AV→Bool
 | .c (.c _ cs) l=>plV cs && gsB l
 | .z=>true
 | _=>false
theorem plV_ok {φ ψ:Ph}:∀ {x:AV},plV x=true→(∀ v,VR φ x v→VR ψ x v)∧(∀ vs,LR φ x vs→LR ψ x vs):=by
 intro x
 induction x with
 | b | n | s | z=>exact fun _=>⟨fun _ h=>h,fun _ h=>h⟩
 | c x l ihx ihl=>
  intro h
  obtain ⟨h1,h2⟩:plV x=true∧plV l=true:=by simpa [plV] using h
  exact ⟨fun _ h=>h,fun _ ⟨v,vs,e,p,q⟩=>⟨v,vs,e,(ihx h1).1 _ p,(ihl h2).2 _ q⟩⟩
 | a l ih=>
  intro h
  exact ⟨fun _ ⟨cs,e,p⟩=>⟨cs,e,(ih (show plV l=true from h)).2 _ p⟩,fun _ h=>h⟩
 | u | pz | p | sz | se | sl | sk | mz | m | f | fz | ia | iz | t | y | md=>intro h; cases h
section
variable {P:Program} {ng:Nat} {φ:Ph} {h:H} {w:World} {lo:Pos}
def phG (ng:Nat) (φ:Ph):Ph:=fun r=>if r.val≤ng then φ r else none
theorem gs_ok (hr:HR P ng φ h w) (hlo:lo.val=ng + 1) {k:R} {r:R} (g:r.good):∀ {gs:AV} {hc:H},gsB gs=true→hc.nx=lo→HR P ng (phG ng φ) hc w→(∀ r,¬ (hc.get r).mine)→gsK lo gs h k=r →
  k=r∧∃ hc',(∀ κ,gsH gs hc κ=κ hc')∧hc'.nx=lo∧HR P ng (phG ng φ) hc' w∧∀ r,¬ (hc'.get r).mine:=by
 intro gs
 induction gs with
 | z=>exact fun _ h1 h2 h3 e=>⟨e,_,fun _=>rfl,h1,h2,h3⟩
 | c x l _ ih=>
  intro hc hg h1 h2 h3 e
  obtain ⟨p,cs,rfl,e1⟩:=onC_c (x:=x) (n:=222) (kc:=fun p cs=>asP p fun r _=>kif (Nat.ble (posv lo) (posv r)) (.fail 222) (hget r h fun ob=>obRow ob fun cs'=>kif (eqA cs' cs) (gsK lo l h k) (.fail 222))) e g
  obtain ⟨q,o,rfl,e2⟩:=asP_ok (x:=p) e1 g
  obtain ⟨h4,e3⟩:=kif_f e2 g
  rw [hget_eq] at e3
  obtain ⟨c,hc1,e4⟩:=obRow_ok e3 g
  obtain ⟨h5,e5⟩:=kif_t e4 g
  have heq:=eqA_ok (x:=c) (y:=cs) h5
  subst heq
  obtain ⟨hp,hl⟩:plV c=true∧gsB l=true:=by simpa [gsB] using hg
  have hq:q.val≤ng:=by
   have:¬ lo.val≤q.val:=fun hh=>by rw [posv_eq,posv_eq,Nat.ble_eq_true_of_le hh] at h4; cases h4
   omega
  obtain ⟨x,hx,ho⟩:=hr.obj q (by rcases hc1 with e | e<;>rw [e]<;>simp)
  have hx':phG ng φ q=some x:=by unfold phG; rw [if_pos hq]; exact hx
  have ho':OR P ng (phG ng φ) w x (.ro c):=by
   rcases hc1 with e | e<;>rw [e] at ho<;>(obtain ⟨vs,a,b⟩:=ho; exact ⟨vs,(plV_ok hp).2 _ a,b⟩)
  have hput:HR P ng (phG ng φ) (hc.put q (.ro c)) w:=by
   refine ⟨fun r hr=>?_,fun r p y z hrm _ _ _ _=>?_,h2.dom,h2.bnd,h2.glob,h2.gone⟩
   ·rw [H.get_put] at hr ⊢
    by_cases er:r=q
    ·subst er; rw [if_pos rfl]; exact ⟨x,hx',ho'⟩
    ·rw [if_neg er] at hr ⊢; exact h2.obj r hr
   ·rw [H.get_put] at hrm
    split at hrm
    ·exact hrm.elim
    ·exact absurd hrm (h3 r)
  obtain ⟨i1,hc',i2,i3⟩:=ih (hc:=hc.put q (.ro c)) hl h1 hput (fun r hm=>by
   rw [H.get_put] at hm
   split at hm
   ·exact hm
   ·exact h3 r hm) e5
  refine ⟨i1,hc',fun κ=>?_,i3⟩
  have step:gsH (.c (.c (.p q o) c) l) hc κ=hset q (.ro c) hc fun h=>gsH l h κ:=rfl
  rw [step,hset_eq,i2]
 | u | b | n | s | pz | p | sz | se | sl | sk | mz | m | f | fz | ia | iz | a | t | y | md=>intro hc hg; cases hg
theorem start_ok (hr:HR P ng φ h w) (hlo:lo.val=ng + 1):HR P ng (phG ng φ) ⟨lo,.e⟩ w:=
 have hd:∀ r,(⟨lo,.e⟩:H).get r=.dead:=fun r=>PT.get_e _ _
 have hp:∀ {r x},phG ng φ r=some x→r.val≤ng∧φ r=some x:=fun {r x} hx=>by
  unfold phG at hx
  split at hx
  ·rename_i h; exact ⟨h,hx⟩
  ·cases hx
 ⟨fun r hr=>absurd (hd r) hr,fun r q x y hrm=>by rw [hd] at hrm; exact hrm.elim,fun r x hx=>(by show r.val < lo.val; have:=(hp hx).1; omega),
  fun r x hx=>hr.bnd r x (hp hx).2,fun r hle=>(by unfold phG; rw [if_pos hle]; exact hr.glob r hle),(by show ng < lo.val; omega)⟩
def Ent (P:Program) (ng f:Nat) (lo:Pos) (gs D RD:AV):Prop:=
 ∀ (φ:Ph) (h:H) (w:World) (L:List (Pos × Nat)) (vs:List Value) (φc:Ph) (hc:H) (x:AV),
  (∀ κ,(gsH gs ⟨lo,.e⟩ fun h0=>bld D h0 κ)=κ x hc)→LR φc x vs→Cst P ng φ w lo φc hc L→HR P ng φ h w →
  Calls P f vs.toArray w fun e w'=>∃ v y φt ht,e=.returned v∧(∀ κ,ins RD (mkL L) h κ=κ y ht)∧HR P ng φt ht w'∧Ext φ h w φt ht w'∧VR φt y v
theorem ent_ok {f:Nat} {run:AV→H→K→K→R} (hev:EvFn P ng f run) {gs D RD:AV} (hE:okB (entR run lo gs D) RD=true):Ent P ng f lo gs D RD:=by
 intro φ h w L vs φc hc x hb hl hk hr
 obtain ⟨g0,hE⟩:=okB_ok hE
 have e0:(gsH gs ⟨lo,.e⟩ fun h0=>bld D h0 fun args h=>H.rec (motive:=fun _=>R) (fun nx _=>run args h (fun v g=>ext (posv lo) (posv nx) 30 v g fun r _=>.ok r ⟨.h,.e⟩) .pan) h)=.ok RD g0:=hE
 rw [hb] at e0
 have e1:run x hc (fun v g=>ext (posv lo) (posv hc.nx) 30 v g fun r _=>.ok r ⟨.h,.e⟩) .pan=.ok RD g0:=e0
 rw [posv_eq,posv_eq] at e1
 refine (hev x hc _ _ _ φc w vs e1 trivial hk.hr hl).mono fun e w' ⟨ψ,g,h1,h2,h3⟩=>?_
 have hno:∀ b,¬ owned φc hc b:=fun b ⟨r,_,_,_,hm⟩=>hk.still r hm
 have hkeep:∀ b,b < w.heap.size→w'.heap[b]?=w.heap[b]?:=fun b hb=>h2.keep b hb (hno b)
 have hnew:∀ b,owned ψ g b→w.heap.size≤b:=fun b ho=>Nat.le_of_not_lt fun hlt=>hno b (h2.own b hlt ho)
 have hm:Mv P ng φ h w w' ψ g φ h:=by
  refine ⟨h1,⟨fun r hr'=>?_,hr.inj,hr.dom,fun r x hx=>Nat.lt_of_lt_of_le (hr.bnd r x hx) h2.size,hr.glob,hr.gone⟩,⟨φ.le_refl,h2.size,h2.tape,h2.os,h2.output,fun _ _ o=>o,fun b hb _=>hkeep b hb,Nat.le_refl _,fun _ _=>rfl,fun _ _ o=>o⟩,hnew,fun b ho ⟨r,x,hx,e,_⟩=>?_⟩
  ·obtain ⟨x,hx,ho⟩:=hr.obj r hr'
   exact ⟨x,hx,ho.same (hkeep _ (hr.bnd r x hx))⟩
  ·have:=hnew b ho
   have:=hr.bnd r x hx
   omega
 cases e with
 | outgrown=>exact h3.elim
 | panicked ch=>obtain ⟨c,y,_,_,h4⟩:=h3; cases h4
 | returned v=>
  obtain ⟨y,hy,e2⟩:=h3
  have hL:∀ p:Pos,lo.val≤p.val→p.val < hc.nx.val→∃ q o b s n,L[hc.nx.val - p.val - 1]?=some (q,o)∧φ q=some (b,s,n)∧ψ p=some (b,s + o,n):=fun p hp1 hp2=>by
   have hnx:=hk.nx
   have hi:hc.nx.val - p.val - 1 < L.length:=by omega
   obtain ⟨b,s,n,j1,j2⟩:=hk.rows _ _ _ (List.getElem?_eq_getElem hi)
   exact ⟨_,_,b,s,n,List.getElem?_eq_getElem hi,j1,h2.mono _ _ (j2 p (by omega))⟩
  obtain ⟨D',g',y',φt,ht,i1,i2,i3,i4⟩:=(ext_ok (P:=P) (ng:=ng) (φ:=φ) (h:=h) (w:=w) (w':=w') hL 30 y g _ _ e2 trivial φ h hm).1 v hy
  cases i1
  exact ⟨v,y',φt,ht,rfl,i2,i3.mv.dst,i3.mv.ex,i4⟩
def EsAll (Q:AV→AV→Prop):AV→Prop
 | .c (.c d r) l=>Q d r∧EsAll Q l
 | _=>True
def MtAll (Q:AV→AV→Prop):MT→Prop
 | .e=>True
 | .n _ es l r=>EsAll Q es∧MtAll Q l∧MtAll Q r
 | .j a b=>MtAll Q a∧MtAll Q b
theorem pick1_ok {Q:AV→AV→Prop} {D:AV} {kn r:R} {kf:AV→R} (g:r.good):∀ {es:AV},EsAll Q es→pick1 es D kn kf=r→kn=r∨∃ RD,Q D RD∧kf RD=r:=by
 intro es
 induction es with
 | z=>exact fun _ e=>.inl e
 | c x l _ ih=>
  intro hq e
  obtain ⟨d,rd,rfl,e1⟩:=onC_c (x:=x) (n:=221) (kc:=fun d r=>kif (eqA d D) (kf r) (pick1 l D kn kf)) e g
  rcases kif_ok e1 with ⟨h1,e2⟩ | ⟨_,e2⟩
  ·cases eqA_ok (x:=d) (y:=D) h1
   exact .inr ⟨rd,hq.1,e2⟩
  ·exact ih hq.2 e2
 | u | b | n | s | pz | p | sz | se | sl | sk | mz | m | f | fz | ia | iz | a | t | y | md=>intro _ e; exact (show False from (by subst e; exact g)).elim
theorem mlook_ok {Q:AV→AV→Prop} {key:Nat} {D:AV} {r:R} {kf:AV→R} (g:r.good):∀ {m:MT} {kn:R},MtAll Q m→mlook m key D kn kf=r→kn=r∨∃ RD,Q D RD∧kf RD=r:=by
 intro m
 induction m with
 | e=>exact fun _ e=>.inl e
 | j a b iha ihb=>
  intro kn hq e
  rcases iha (kn:=mlook b key D kn kf) hq.1 e with e1 | h
  ·exact ihb hq.2 e1
  ·exact .inr h
 | n q es l x ihl ihr=>
  intro kn hq e
  rcases kif_ok (b:=Nat.beq key q) (x:=pick1 es D kn kf) (y:=kif (Nat.ble key q) (mlook l key D kn kf) (mlook x key D kn kf)) e with ⟨_,e1⟩ | ⟨_,e1⟩
  ·exact pick1_ok g hq.1 e1
  ·rcases kif_ok e1 with ⟨_,e2⟩ | ⟨_,e2⟩
   ·exact ihl hq.2.1 e2
   ·exact ihr hq.2.2 e2
theorem ms_ok {f:Nat} {td:TD} {m:MT} {gs:AV} {sg:SF} (he:Enters P f) (hgo:∀ fuel ev,EvOK P ng ev→EvFn P ng f (sg ev fuel)) (hlo:lo.val=ng + 1) (hg:gsB gs=true) (hm:MtAll (Ent P ng f lo gs) m) :
  FdOK P ng f (.ms td m lo gs sg):=by
 refine ⟨he,fun fuel ev hev args h k kp r φ w vs e g hr hl=>?_⟩
 have e1:gsK lo gs h ((cn td).2 args h (mkL []) (fun rest L k=>onC rest (k .z L) fun _ _=>.fail 213) fun D L=>fN (hs D 7) fun key=>mlook m key D (sg ev fuel args h k kp) fun r=>ins r L h k)=r:=e
 obtain ⟨e2,hc0,i1,i2,i3,i4⟩:=gs_ok hr hlo g hg rfl (start_ok hr hlo) (fun r hm=>by
  have:(⟨lo,.e⟩:H).get r=.dead:=PT.get_e _ _
  rw [this] at hm; exact hm) e1
 obtain ⟨D,L,vs1,vs2,hvs,hz,e3,hb⟩:=(cn_ok (lo:=lo) hr td).2 True _ finz_ok args [] _ r vs e2 g hl
 rw [hz trivial,List.append_nil] at hvs
 subst hvs
 rw [fN_eq] at e3
 rcases mlook_ok g hm e3 with e4 | ⟨RD,hE,e4⟩
 ·exact hgo fuel ev hev args h k kp r φ w vs e4 g hr hl
 ·have hst:Cst P ng φ w lo (phG ng φ) hc0 []:=⟨i3,i4,by rw [i2]; rfl,fun i q o hi=>by cases hi⟩
  obtain ⟨x,φc,hc,j1,j2,j3,j4⟩:=hb _ _ hst
  refine (hE φ h w L vs φc hc x (fun κ=>(i1 _).trans (j1 κ)) j4 j3 hr).mono fun e w' ⟨v,y,φt,ht,h1,h2,h3,h4,h5⟩=>?_
  subst h1
  exact ⟨φt,ht,h3,h4,y,h5,(h2 k).symm.trans e4⟩
theorem sh_fd {f:Nat} {sg:SF} (he:Enters P f) (hgo:∀ fuel ev,EvOK P ng ev→EvFn P ng f (sg ev fuel)):FdOK P ng f (.sh sg):=⟨he,hgo⟩
theorem deep_go {f:Nat} {ps:PL} {rs:RL} {one:Bool} {body:AC} {fn:Func} {c:Code} (hf:FnOK P ng f ps rs one body fn c) {sg:SF} (he:∀ ev n a h k kp,sg ev n a h k kp=runF n ev (.mk ps rs one body) a h k kp) :
  ∀ fuel ev,EvOK P ng ev→EvFn P ng f (sg ev fuel):=fun fuel ev hev args h k kp r φ w vs e g hr hl=>fn_ok hf hev fuel args h k kp r φ w vs ((he ev fuel args h k kp).symm.trans e) g hr hl
noncomputable def esB (run:AV→H→K→K→R) (lo:Pos) (gs:AV):AV→Bool
 | .c (.c d r) l=>okB (entR run lo gs d) r && esB run lo gs l
 | _=>true
noncomputable def mtB (run:AV→H→K→K→R) (lo:Pos) (gs:AV):MT→Bool
 | .e=>true
 | .n _ es l r=>esB run lo gs es && mtB run lo gs l && mtB run lo gs r
 | .j a b=>mtB run lo gs a && mtB run lo gs b
theorem esB_ok {f:Nat} {run:AV→H→K→K→R} (hev:EvFn P ng f run) {gs:AV}:∀ {es:AV},esB run lo gs es=true→EsAll (Ent P ng f lo gs) es
 | .c (.c d r) l,h=>by
  obtain ⟨h1,h2⟩:okB (entR run lo gs d) r=true∧esB run lo gs l=true:=by simpa [esB] using h
  exact ⟨ent_ok hev h1,esB_ok hev h2⟩
 | .c .u _,_ | .c (.b _) _,_ | .c (.n ..) _,_ | .c (.s _) _,_ | .c .pz _,_ | .c (.p ..) _,_ | .c .sz _,_ | .c .se _,_ | .c (.sl ..) _,_ | .c (.sk ..) _,_ | .c .mz _,_ | .c (.m _) _,_ | .c (.f ..) _,_ | .c .fz _,_
 | .c (.ia ..) _,_ | .c .iz _,_ | .c (.a _) _,_ | .c (.t _) _,_ | .c (.y _) _,_ | .c (.md ..) _,_ | .c .z _,_=>trivial
 | .u,_ | .b _,_ | .n ..,_ | .s _,_ | .pz,_ | .p ..,_ | .sz,_ | .se,_ | .sl ..,_ | .sk ..,_ | .mz,_ | .m _,_ | .f ..,_ | .fz,_ | .ia ..,_ | .iz,_ | .a _,_ | .t _,_ | .y _,_ | .md ..,_ | .z,_=>trivial
theorem mtB_ok {f:Nat} {run:AV→H→K→K→R} (hev:EvFn P ng f run) {gs:AV}:∀ {m:MT},mtB run lo gs m=true→MtAll (Ent P ng f lo gs) m
 | .e,_=>trivial
 | .j a b,h=>by
  obtain ⟨h1,h2⟩:mtB run lo gs a=true∧mtB run lo gs b=true:=by simpa [mtB] using h
  exact ⟨mtB_ok hev h1,mtB_ok hev h2⟩
 | .n _ es l r,h=>by
  obtain ⟨⟨h1,h2⟩,h3⟩:(esB run lo gs es=true∧mtB run lo gs l=true)∧mtB run lo gs r=true:=by simpa [mtB] using h
  exact ⟨esB_ok hev h1,mtB_ok hev h2,mtB_ok hev h3⟩
end
end Go.Am
namespace Go.Am
theorem memN_index:∀ {l:List Nat} {c:Nat},(∀ x∈l,x < 256)→c < 256→decide (0≤Lib.indexByte (l.map UInt8.ofNat) (UInt8.ofNat c))=memN c l
 | [],c,_,_=>rfl
 | a :: l,c,hl,hc=>by
  have ih:=memN_index (l:=l) (c:=c) (fun x hx=>hl x (by simp [hx])) hc
  have ha:=hl a (by simp)
  have e:memN c (a :: l)=bor (Nat.beq a c) (memN c l):=rfl
  rw [e,← ih]
  show decide (0≤(if UInt8.ofNat a == UInt8.ofNat c then 0 else if Lib.indexByte (l.map UInt8.ofNat) (UInt8.ofNat c) == -1 then -1 else Lib.indexByte (l.map UInt8.ofNat) (UInt8.ofNat c) + 1))=_
  by_cases h:a=c
  ·subst h
   have h1:Nat.beq a a=true:=Nat.beq_refl a
   rw [h1]; simp [bor]
  ·have h1:Nat.beq a c=false:=by
    cases hb:Nat.beq a c with
    | false=>rfl
    | true=>exact absurd (Nat.eq_of_beq_eq_true hb) h
   have h2:(UInt8.ofNat a == UInt8.ofNat c)=false:=by
    rw [beq_eq_false_iff_ne]
    intro he
    have:=congrArg UInt8.toNat he
    simp only [UInt8.toNat_ofNat'] at this
    omega
   rw [h1,h2]
   have hge:=Lib.indexByte_ge (l.map UInt8.ofNat) (UInt8.ofNat c)
   generalize Lib.indexByte (l.map UInt8.ofNat) (UInt8.ofNat c)=i at hge ⊢
   by_cases hi:i=-1
   ·subst hi; rfl
   ·have h3:(i == -1)=false:=by rw [beq_eq_false_iff_ne]; exact hi
    rw [h3]
    have:0≤i:=by omega
    simp [bor]
    omega
theorem sc_ok {P:Program} {ng f:Nat} (hE:Enters P f)
  (H:∀ (s:ByteArray) (c:UInt8) (w:World),Calls P f #[.string s,.string ⟨#[c]⟩] w fun e w'=>e=.returned (.bool (decide (0≤Lib.indexByte s.data.toList c)))∧w'=w):FdOK P ng f .sc:=by
 refine ⟨hE,fun fuel ev hev args h k kp r φ w vs e g hr hl=>?_⟩
 obtain ⟨a,l,rfl,e1⟩:=onC_c (x:=args) (n:=168) (kc:=fun a l=>onC l (.fail 168) fun b zq=>asS a fun a=>asS b fun b=>onC zq (onL b (.fail 168) fun c t=>onL t (boo (memN c a) h k) fun _ _=>.fail 168) fun _ _=>.fail 168) e g
 obtain ⟨b,zq,rfl,e2⟩:=onC_c (x:=l) e1 g
 obtain ⟨x,rfl,e3⟩:=asS_ok (x:=a) e2 g
 obtain ⟨y,rfl,e4⟩:=asS_ok (x:=b) e3 g
 rcases onC_ok (x:=zq) e4 g with ⟨rfl,e5⟩ | ⟨_,_,rfl,e5⟩
 ·cases y with
  | nil=>exact (show False from (by subst e5; exact g)).elim
  | cons c t=>
   cases t with
   | cons _ _=>exact (show False from (by subst e5; exact g)).elim
   | nil=>
    have e6:boo (memN c x) h k=r:=e5
    rw [boo_eq] at e6
    obtain ⟨v0,vs1,rfl,⟨hx,rfl⟩,h1⟩:=LR_c_inv hl
    obtain ⟨v1,vs2,rfl,⟨hy,rfl⟩,h2⟩:=LR_c_inv h1
    cases LR_z_inv h2
    have hc:=hy c (by simp)
    refine (H (strOf x) (UInt8.ofNat c) w).mono fun e w' ⟨h3,h4⟩=>?_
    subst h3; subst h4
    refine ⟨φ,h,hr,Ext.refl _ _ _,.b (memN c x),?_,e6⟩
    show Value.bool _=Value.bool _
    congr 1
    have:(strOf x).data.toList=x.map UInt8.ofNat:=by simp [strOf]
    rw [this]
    exact memN_index hx hc
 ·exact (show False from (by subst e5; exact g)).elim
end Go.Am
namespace Go.Am
structure DfOK (ng nt g:Nat) (q:Pos) (cap:ArL) (os:Array Oper):Prop where
 parts:∃ o1 o2 caps tt call,os.toList=[o1,o2]∧o1.op=.makeFunc (.func g) #[] caps∧o1.dst=some tt∧o1.guard=none∧o2.op=.defer call∧o2.dst=none∧o2.guard=none ∧
  call.callee=.value (.tmp tt)∧call.args=#[]∧q.val=tt + 1∧tt < nt∧ArLOK ng nt caps.toList cap
structure RcOK (P:Program) (ng g:Nat) (ps:PL) (p6 p3:Pos) (body:AC):Prop where
 parts:∃ fn id os rest o1 o2 t6 t3 c,P.funcs[g]?=some fn∧fn.body=some (.seq (.region id os false) rest)∧os.toList=[o1,o2]∧o1.op=.call { callee:=.builtin .recover,args:=#[],argTypes:=c }∧o1.dst=some t6∧o1.guard=none ∧
  (o2.op = .assign (.tmp t6) ∨ o2.op = .move (.tmp t6)) ∧ o2.dst = some t3 ∧ o2.guard = none ∧ p6.val = t6 + 1 ∧ t6 < fn.ntmps ∧ p3.val = t3 + 1 ∧ t3 < fn.ntmps ∧ CodeOK P ng fn.ntmps (fun _ => False) false rest body ∧ PsOK 0 ps ∧ fn.results = #[] ∧ fn.name ≠ "runtime.NumGoroutine"
structure RpOK (P:Program) (ng g:Nat) (ps:PL) (body:AC):Prop where
 parts : ∃ fn c, P.funcs[g]? = some fn ∧ fn.body = some c ∧ CodeOK P ng fn.ntmps (fun _ => False) false c body ∧ PsOK 0 ps ∧ fn.results = #[] ∧ fn.name ≠ "runtime.NumGoroutine"
inductive DcOK (P:Program) (ng nt:Nat) (kt:Pos→Prop):Code→DC→Prop where
 | st (c d x l) (h:CodeOK P ng nt (fun _=>False) false c x) (k:DcOK P ng nt kt d l):DcOK P ng nt kt (.seq c d) (.st x l)
 | df (id os rest g q cap ps p6 p3 body x) (hrc:RcOK P ng g ps p6 p3 body) (h:DfOK ng nt g q cap os) (k:CodeOK P ng nt kt true rest x):DcOK P ng nt kt (.seq (.region id os false) rest) (.df g q cap ps p6 p3 body x)
 | dp (id os rest g q cap ps body x) (hrp:RpOK P ng g ps body) (h:DfOK ng nt g q cap os) (k:CodeOK P ng nt kt true rest x):DcOK P ng nt kt (.seq (.region id os false) rest) (.dp g q cap ps body x)
structure DmOK (P:Program) (ng f:Nat) (ps:PL) (rs:RL) (one:Bool) (dc:DC):Prop where
 parts : ∃ fn c, P.funcs[f]? = some fn ∧ fn.body = some c ∧ fn.name ≠ "runtime.NumGoroutine" ∧ DcOK P ng fn.ntmps (fun p => p ∈ rlT rs) c dc ∧ PsOK 0 ps ∧ RlOK P fn.ntmps fn.results.toList rs ∧ one = (fn.results.size == 1)
section
variable {P:Program} {ng nt:Nat} {φ:Ph} {h:H} {w:World} {t:T} {a:Act} {r:R} {ev:EV}
abbrev Ends (P:Program) (ng:Nat) (φ:Ph) (h:H) (w:World) (k kp:K) (r:R):Ending→World→Prop:=fun e w'=>∃ ψ g,HR P ng ψ g w'∧Ext φ h w ψ g w'∧match e with
   | .returned v=>∃ y,VR ψ y v∧k y g=r
   | .panicked ch=>∃ c y,ch=[{ v:=c,recovered:=false }]∧VR ψ y c∧kp y g=r
   | .outgrown=>False
theorem closure_ok (hev:EvOK P ng ev) (fuel:Nat) (gd:r.good) {g:Nat} {ps:PL} {p6 p3:Pos} {body:AC} (hrc:RcOK P ng g ps p6 p3 body) {vs:List Value} {cv pv:AV} {c:Value} {u:FrameMode} (hl:LR φ cv vs) (hpv:VR φ pv c)
  (hu:(u=.returning∧c=.nilIface)∨u=.panicking [{ v:=c,recovered:=false }]) (hr:HR P ng φ h w) {go:AE→H→R}
  (e:bindA ps cv .e (fun t6=>setK .u pv p6 t6 fun t6=>setK .u pv p3 t6 fun t6=>cod ev fuel body (fun e _ h=>go e h) t6 h)=r) (hgo:(∀ id h,¬ (go (.ex id) h).good)∧(∀ v h,¬ (go (.pn v) h).good)) :
  CallsDIn Fence.wide 0 P g vs.toArray u w fun en u' w'=>(∃ v,en=.returned v)∧settle u'=.returning∧∃ ψ g' ex,HR P ng ψ g' w'∧Ext φ h w ψ g' w'∧(ex=.nm∨ex=.rt)∧go ex g'=r:=by
 obtain ⟨fn,id,os,rest,o1,o2,t6,t3,ct,hf,hb,hos,h1,h2,h3,h4,h5,h6,h7,h8,h9,h10,hcode,hps,hres,hname⟩:=hrc.parts
 obtain ⟨tr,hinv,e1⟩:=bind_ok (A:=vs) hps hl (Nat.zero_le _) (fun p=>⟨fun hp=>absurd p.val_pos (by omega),fun _=>PT.get_e _ _⟩) e gd
 rw [setK_eq,setK_eq] at e1
 have htr:TR φ tr (vs.toArray ++ Array.replicate (fn.ntmps - vs.toArray.size) undef):=enter_tr hinv
 have hsize:fn.ntmps≤(vs.toArray ++ Array.replicate (fn.ntmps - vs.toArray.size) undef).size:=by simp; omega
 refine callsDIn_of_wpSIn hf hb trivial fun c₀ cs hm=>?_
 refine wpSIn_seq (wpSIn_region ?_)
 have hrange:List.range os.size=[0,1]:=by
  have:os.size=2:=by
   have:=congrArg List.length hos
   simpa using this
  rw [this]; rfl
 have ho1:os[0]?=some o1:=by
  have:os.toList[0]?=some o1:=by rw [hos]; rfl
  simpa using this
 have ho2:os[1]?=some o2:=by
  have:os.toList[1]?=some o2:=by rw [hos]; rfl
  simpa using this
 rw [hrange]
 have hw1:∀ y,Region.wanted o1 y=true:=fun y=>by simp [Region.wanted,h3]
 have hw2:∀ y,Region.wanted o2 y=true:=fun y=>by simp [Region.wanted,h6]
 have hrec:∀ a:Act,(execOp a.eval o1).run P w=.ok .recover w:=fun a=>by
  simp [execOp,h1,resolve,invoke,go_sem,builtin]
 -- behind the recover
 obtain ⟨a0,ha0⟩:∃ a0:Act,a0={ tmps:=vs.toArray ++ Array.replicate (fn.ntmps - vs.toArray.size) undef,defers:=[] }:=⟨_,rfl⟩
 obtain ⟨a2,ha2⟩:∃ a2:Act,a2=(a0.put o1.dst c).put o2.dst c:=⟨_,rfl⟩
 have hta:TR φ ((tr.set .u pv p6).set .u pv p3) a2.tmps∧fn.ntmps≤a2.tmps.size∧a2.defers=[]:=by
  have s1:t6 < a0.tmps.size:=by rw [ha0]; exact Nat.lt_of_lt_of_le h8 hsize
  have k1:TR φ (tr.set .u pv p6) (a0.put o1.dst c).tmps:=by
   rw [h2]; show TR φ _ (a0.tmps.setIfInBounds t6 c)
   rw [ha0] at s1 ⊢
   exact htr.set hpv h7 s1
  have s3:t3 < (a0.put o1.dst c).tmps.size:=by
   rw [h2]; show t3 < (a0.tmps.setIfInBounds t6 c).size
   rw [Array.size_setIfInBounds,ha0]; exact Nat.lt_of_lt_of_le h10 hsize
  refine ⟨?_,?_,?_⟩
  ·rw [ha2,h5]
   exact k1.set hpv h9 s3
  ·rw [ha2,h2,h5]; simp [Act.put,ha0]; omega
  ·rw [ha2,h2,h5]; simp [Act.put,ha0]
 obtain ⟨ht2,hn2,hd2⟩:=hta
 have mv:(execOp (a0.put o1.dst c).eval o2).run P w=.ok (.value c) w:=by
  have hval:(a0.put o1.dst c).eval (.tmp t6)=c:=by
   have s1:t6 < a0.tmps.size:=by rw [ha0]; exact Nat.lt_of_lt_of_le h8 hsize
   rw [h2]
   show (a0.tmps.setIfInBounds t6 c).getD t6 undef=c
   rw [Array.getD_eq_getD_getElem?,Array.getElem?_setIfInBounds_self_of_lt s1]; rfl
  rcases h4 with h4 | h4<;>simp [execOp,h4,hval]
 have after:∀ u',settle u'=.returning→rest.wpSIn Fence.wide 0 P (bodyPostS P fn c₀ cs fun en u' w'=>(∃ v,en=.returned v)∧settle u'=.returning∧∃ ψ g' ex,HR P ng ψ g' w'∧Ext φ h w ψ g' w'∧(ex=.nm∨ex=.rt)∧go ex g'=r) a2 ({ c₀ with mode:=u' } :: cs) w:=by
  intro u' hu'
  refine wpSIn_of_wpIn rfl ?_
  have:=code_ok (ro:=none) hev fuel gd hcode (fun _=>rfl) (fun e _ h=>go e h) φ h w _ a2 e1 hr ht2 hn2
  refine wpIn_mono this fun ex a' w' hq=>?_
  obtain ⟨ψ,g',t',Ds,q1,q2,q3,q4,⟨q5,_,q5'⟩,q6⟩:=hq
  have hd:a'.defers=[]:=by rw [q5,q5' rfl,hd2]; rfl
  have hres':∀ w',(results fn a'.tmps).run P w'=.ok (.tuple #[]) w':=fun w'=>by simp [results,hres]
  cases ex with
  | normal=>exact ⟨hd,u',rfl,.tuple #[],hres' _,⟨_,rfl⟩,hu',ψ,g',.nm,q1,q2,.inl rfl,q6.2⟩
  | ret=>exact ⟨hd,u',rfl,.tuple #[],hres' _,⟨_,rfl⟩,hu',ψ,g',.rt,q1,q2,.inr rfl,q6.2⟩
  | exit id=>exact (hgo.1 _ _ (q6.2▸gd)).elim
  | panic ch=>obtain ⟨_,_,_,_,q6⟩:=q6; exact (hgo.2 _ _ (q6▸gd)).elim
  | goto l=>exact q6.elim
  | outgrown=>exact q6.elim
 rcases hu with ⟨rfl,rfl⟩ | rfl
 ·-- nothing to recover from
  have hrd:recoverD (c₀ :: cs)=none:=by simp [recoverD,hm]
  have hc0:({ c₀ with mode:=.returning }:Frame)=c₀:=by rw [← hm]
  have:=after .returning rfl
  rw [hc0,ha2,ha0] at this
  have mv':=mv
  rw [ha0] at mv'
  simp only [wpOpsSIn,ho1,ho2,hw1,hw2,if_true,hrec,hrd,mv']
  exact ⟨fun _ _=>trivial,fun _ _=>trivial,this⟩
 ·have hrd:recoverD (c₀ :: cs)=some (c,{ c₀ with mode:=.panicking [{ v:=c,recovered:=true }] } :: cs):=by simp [recoverD,hm]
  have:=after (.panicking [{ v:=c,recovered:=true }]) rfl
  rw [ha2,ha0] at this
  have mv':=mv
  rw [ha0] at mv'
  simp only [wpOpsSIn,ho1,ho2,hw1,hw2,if_true,hrec,hrd,mv']
  exact ⟨fun _ _=>trivial,fun _ _=>trivial,this⟩
theorem plain_ok (hev:EvOK P ng ev) (fuel:Nat) (gd:r.good) {g:Nat} {ps:PL} {body:AC} (hrp:RpOK P ng g ps body) {vs:List Value} {cv:AV} {u:FrameMode} (hl:LR φ cv vs) (hr:HR P ng φ h w) {go:AE→H→R}
  (e:bindA ps cv .e (fun t6=>cod ev fuel body (fun e _ h=>go e h) t6 h)=r) (hgo:(∀ id h,¬ (go (.ex id) h).good)∧(∀ v h,¬ (go (.pn v) h).good)) :
  CallsDIn Fence.wide 0 P g vs.toArray u w fun en u' w'=>u'=u∧(∃ v,en=.returned v)∧∃ ψ g' ex,HR P ng ψ g' w'∧Ext φ h w ψ g' w'∧(ex=.nm∨ex=.rt)∧go ex g'=r:=by
 obtain ⟨fn,c,hf,hb,hcode,hps,hres,hname⟩:=hrp.parts
 obtain ⟨tr,hinv,e1⟩:=bind_ok (A:=vs) hps hl (Nat.zero_le _) (fun p=>⟨fun hp=>absurd p.val_pos (by omega),fun _=>PT.get_e _ _⟩) e gd
 have htr:TR φ tr (vs.toArray ++ Array.replicate (fn.ntmps - vs.toArray.size) undef):=enter_tr hinv
 refine callsDIn_of_wp (F:=Fence.wide) (n:=0) hf hb trivial ?_
 refine wpIn_mono (code_ok (ro:=none) hev fuel gd hcode (fun _=>rfl) (fun e _ h=>go e h) φ h w tr { tmps:=vs.toArray ++ Array.replicate (fn.ntmps - vs.toArray.size) undef,defers:=[] } e1 hr htr (by simp; omega)) fun ex a' w' hq=>?_
 obtain ⟨ψ,g',t',Ds,q1,q2,q3,q4,⟨q5,_,q5'⟩,q6⟩:=hq
 have hd:a'.defers=[]:=by rw [q5,q5' rfl]; rfl
 have hres':∀ w',(results fn a'.tmps).run P w'=.ok (.tuple #[]) w':=fun w'=>by simp [results,hres]
 cases ex with
 | normal=>exact ⟨hd,.tuple #[],hres' _,⟨_,rfl⟩,ψ,g',.nm,q1,q2,.inl rfl,q6.2⟩
 | ret=>exact ⟨hd,.tuple #[],hres' _,⟨_,rfl⟩,ψ,g',.rt,q1,q2,.inr rfl,q6.2⟩
 | exit id=>exact (hgo.1 _ _ (q6.2▸gd)).elim
 | panic ch=>obtain ⟨_,_,_,_,q6⟩:=q6; exact (hgo.2 _ _ (q6▸gd)).elim
 | goto l=>exact q6.elim
 | outgrown=>exact q6.elim
theorem leave_ok {fn:Func} {rs:RL} {one:Bool} {kt:Pos→Prop} {φ0:Ph} {h0:H} {w0:World} {k kp:K} (gd:r.good) (hrs:RlOK P fn.ntmps fn.results.toList rs) (hone:one=(fn.results.size == 1)) (hk:∀ p∈rlT rs,kt p) {tm:Array Value} (ht:TRk φ t tm kt) (hn:fn.ntmps≤tm.size)
  (hr:HR P ng φ h w) (hx:Ext φ0 h0 w0 φ h w) (e:ret rs one t h k=r):LeavesInM Fence.wide 0 P fn tm (Ends P ng φ0 h0 w0 k kp r) [] .returning w:=by
 obtain ⟨y,v,h1,h2,h3⟩:=ret_ok hrs hone hr ht hk hn e gd
 exact ⟨v,h1,φ,h,hr,hx,y,h2,h3⟩
theorem dc_ok (hev:EvOK P ng ev) (fuel:Nat) (gd:r.good) {fn:Func} {rs:RL} {one:Bool} {k kp:K} (hrs:RlOK P fn.ntmps fn.results.toList rs) (hone:one=(fn.results.size == 1)) :
  ∀ {c:Code} {dc:DC},DcOK P ng fn.ntmps (fun p=>p∈rlT rs) c dc→∀ (φ0:Ph) (h0:H) (w0:World) (φ:Ph) (h:H) (w:World) (t:T) (a:Act),dcR fuel ev rs one k kp dc t h=r→HR P ng φ h w→Ext φ0 h0 w0 φ h w→TR φ t a.tmps→fn.ntmps≤a.tmps.size→a.defers=[] →
   c.wpIn Fence.wide 0 P (bodyPostM Fence.wide 0 P fn (Ends P ng φ0 h0 w0 k kp r)) a w:=by
 intro c dc hc
 induction hc with
 | st c d x l hx _ ih=>
  intro φ0 h0 w0 φ h w t a e hr hxt ht hn hd
  have e1:cod ev fuel x (dst rs one k kp fun t h=>dcR fuel ev rs one k kp l t h) t h=r:=e
  refine wpIn_seq (wpIn_mono (code_ok (ro:=none) hev fuel gd hx (fun _=>rfl) _ φ h w t a e1 hr ht hn) fun ex a' w' hq=>?_)
  obtain ⟨ψ,g',t',Ds,q1,q2,q3,q4,⟨q5,_,q5'⟩,q6⟩:=hq
  have hd':a'.defers=[]:=by rw [q5,q5' rfl,hd]; rfl
  have hx':=hxt.trans q2
  cases ex with
  | normal=>exact ih φ0 h0 w0 ψ g' w' t' a' q6.2 q1 hx' q6.1 q4 hd'
  | ret=>
   show LeavesInM Fence.wide 0 P fn a'.tmps _ a'.defers .returning w'
   rw [hd']
   exact leave_ok (kt:=fun _=>True) gd hrs hone (fun _ _=>trivial) q6.1.k q4 q1 hx' q6.2
  | panic ch=>
   obtain ⟨c,y,rfl,h7,h8⟩:=q6
   show LeavesInM Fence.wide 0 P fn a'.tmps _ a'.defers (.panicking _) w'
   rw [hd']
   exact ⟨ψ,g',q1,hx',c,y,rfl,h7,h8⟩
  | exit id=>obtain ⟨_,q6⟩:=q6; exact (show False from (by subst q6; exact gd)).elim
  | goto l=>exact q6.elim
  | outgrown=>exact q6.elim
 | df id os rest g q cap ps p6 p3 body x hrc hdf hx=>
  intro φ0 h0 w0 φ h w t a e hr hxt ht hn hd
  obtain ⟨o1,o2,caps,tt,call,hos,d1,d2,d3,d4,d5,d6,d7,d8,d9,d10,d11⟩:=hdf.parts
  obtain ⟨cv,hcv,e1⟩:=d11.vals hr ht hn (f:=fun cv=>setK AV.u (AV.f (.func g) .z cv) q t fun t=>cod ev fuel x (fun e t' h'=>pvOf e fun pv=>bindA ps cv .e fun t6=>setK AV.u pv p6 t6 fun t6=>setK AV.u pv p3 t6 fun t6=>cod ev fuel body (fun e _ h=>dend rs one k t' e h) t6 h') t h) e
  rw [setK_eq] at e1
  have hrange:List.range os.size=[0,1]:=by
   have:os.size=2:=by
    have:=congrArg List.length hos
    simpa using this
   rw [this]; rfl
  have ho1:os[0]?=some o1:=by
   have:os.toList[0]?=some o1:=by rw [hos]; rfl
   simpa using this
  have ho2:os[1]?=some o2:=by
   have:os.toList[1]?=some o2:=by rw [hos]; rfl
   simpa using this
  have hw1:∀ y,Region.wanted o1 y=true:=fun y=>by simp [Region.wanted,d3]
  have hw2:∀ y,Region.wanted o2 y=true:=fun y=>by simp [Region.wanted,d6]
  have hs1:tt < a.tmps.size:=Nat.lt_of_lt_of_le d10 hn
  obtain ⟨fv,hfv⟩:∃ fv,fv=Value.func (.func g) #[] (caps.map a.eval):=⟨_,rfl⟩
  have hcv':LR φ cv (caps.map a.eval).toList:=by rw [Array.toList_map]; exact hcv
  have hfvr:VR φ (.f (.func g) .z cv) fv:=⟨#[],caps.map a.eval,hfv,rfl,hcv'⟩
  have hput:a.put o1.dst fv={ a with tmps:=a.tmps.setIfInBounds tt fv }:=by rw [d2]; rfl
  have hval:(a.put o1.dst fv).eval (.tmp tt)=fv:=by
   rw [hput]
   show (a.tmps.setIfInBounds tt fv).getD tt undef=fv
   rw [Array.getD_eq_getD_getElem?,Array.getElem?_setIfInBounds_self_of_lt hs1]; rfl
  have hrun1:(execOp a.eval o1).run P w=.ok (.value fv) w:=by simp [execOp,d1,hfv,Instr.makeFunc]
  have hrun2:(execOp (a.put o1.dst fv).eval o2).run P w=.ok (.defer { target:=.fn (.func g) (caps.map a.eval),args:=#[] }) w:=by
   simp only [execOp,d4,resolve,d7,d8]
   rw [hval,hfv]
   simp [go_sem,Deferred.ofValue]
  obtain ⟨dd,hdd⟩:∃ dd:Deferred,dd={ target:=.fn (.func g) (caps.map a.eval),args:=#[] }:=⟨_,rfl⟩
  rw [← hdd] at hrun2
  obtain ⟨a2,ha2⟩:∃ a2:Act,a2={ tmps:=a.tmps.setIfInBounds tt fv,defers:=[dd] }:=⟨_,rfl⟩
  have key:rest.wpIn Fence.wide 0 P (bodyPostM Fence.wide 0 P fn (Ends P ng φ0 h0 w0 k kp r)) a2 w:=by
   have ht2:TR φ (t.set .u (.f (.func g) .z cv) q) a2.tmps:=by rw [ha2]; exact ht.set hfvr d9 hs1
   have hn2:fn.ntmps≤a2.tmps.size:=by rw [ha2]; simpa using hn
   refine wpIn_mono (code_ok (ro:=none) hev fuel gd hx (fun _=>rfl) _ φ h w _ a2 e1 hr ht2 hn2) fun ex a' w' hq=>?_
   obtain ⟨ψ,g',t',Ds,q1,q2,q3,q4,⟨q5,q5m,_⟩,q6⟩:=hq
   have hx':=hxt.trans q2
   have hdef:a'.defers=Ds.map mkD ++ [dd]:=by rw [q5,ha2]
   have hcv2:LR ψ cv (caps.map a.eval).toList:=LR.mono q2.mono hcv'
   have hinv:∀ w',(invoke dd.target dd.args).run P w'=.ok (.enter g (caps.map a.eval)) w':=fun w'=>by
    obtain ⟨gf,_,_,_,_,_,_,_,_,hf,hb,_,_,_,_,_,_,_,_,_,_,_,_,_,_,hname⟩:=hrc.parts
    rw [hdd]
    simp only [invoke,Array.empty_append]
    exact run_callFunc' ⟨gf,_,hf,hb,hname⟩ w'
   -- whatever the body ended with: the closure runs,the results are read
   have leave:∀ (u:FrameMode) (c:Value) (pv:AV),VR ψ pv c→((u=.returning∧c=.nilIface)∨u=.panicking [{ v:=c,recovered:=false }]) →
     bindA ps cv .e (fun t6=>setK .u pv p6 t6 fun t6=>setK .u pv p3 t6 fun t6=>cod ev fuel body (fun e _ h=>dend rs one k t' e h) t6 g')=r →
     LeavesInM Fence.wide 0 P fn a'.tmps (Ends P ng φ0 h0 w0 k kp r) a'.defers u w':=by
    intro u c pv hpv hu e2
    have hune:u≠.run:=by rcases hu with ⟨rfl,_⟩ | rfl<;>simp
    rw [hdef]
    have hm0:MarksOK w0.heap.size ψ g' w' Ds:=⟨q5m.1,fun D hD=>⟨Nat.le_trans hxt.size (q5m.2 D hD).1,(q5m.2 D hD).2⟩⟩
    refine leaves_marks hune [dd] Ds w' hm0 q1 hx' fun w2 hr2 hx2=>?_
    refine ⟨hune,.inr ⟨fun h=>(by cases h),.func g,caps.map a.eval,g,caps.map a.eval,by rw [hdd],hinv w2,fun _ _=>trivial,?_⟩⟩
    have hcall:=closure_ok (go:=fun e h=>dend rs one k t' e h) hev fuel gd hrc hcv2 hpv hu hr2 e2 ⟨fun id h hg=>hg,fun v h hg=>hg⟩
    rw [Array.toArray_toList] at hcall
    refine CallsDIn.mono (F:=Fence.wide) (n:=0) hcall fun en u' w3 hen=>?_
    obtain ⟨⟨v,rfl⟩,hset,χ,g3,ex',k1,k2,k3,k4⟩:=hen
    show LeavesInM Fence.wide 0 P fn a'.tmps _ [] (settle u') w3
    rw [hset]
    have k4':ret rs one t' g3 k=r:=by rcases k3 with rfl | rfl<;>exact k4
    exact leave_ok gd hrs hone (fun p hp=>hp) (fun p hp hs=>(q3 p hp hs).mono k2.mono) q4 k1 (hx2.trans k2) k4'
   cases ex with
   | normal=>exact leave .returning .nilIface .iz rfl (.inl ⟨rfl,rfl⟩) q6.2
   | ret=>exact leave .returning .nilIface .iz rfl (.inl ⟨rfl,rfl⟩) q6.2
   | panic ch=>
    obtain ⟨c,y,rfl,h7,h8⟩:=q6
    exact leave (.panicking [{ v:=c,recovered:=false }]) c y h7 (.inr rfl) h8
   | exit id=>obtain ⟨_,q6⟩:=q6; exact (show False from (by subst q6; exact gd)).elim
   | goto l=>exact q6.elim
   | outgrown=>exact q6.elim
  refine wpIn_seq (wpIn_region ?_)
  rw [hrange]
  have hfin:({ a.put o1.dst fv with defers:=dd :: (a.put o1.dst fv).defers }:Act).put o2.dst undef=a2:=by
   rw [hput,d5,ha2,hd]; rfl
  simp only [wpOpsIn,ho1,ho2,hw1,hw2,if_true]
  refine ⟨fun _ _=>trivial,?_⟩
  rw [show Fence.wide.round=none from rfl,Oper.semAt_none,hrun1,Oper.uponIn_value]
  refine ⟨fun _ _=>trivial,?_⟩
  rw [show Fence.wide.round=none from rfl,Oper.semAt_none,hrun2,Oper.uponIn_defer,hfin]
  exact key
 | dp id os rest g q cap ps body x hrp hdf hx=>
  intro φ0 h0 w0 φ h w t a e hr hxt ht hn hd
  obtain ⟨o1,o2,caps,tt,call,hos,d1,d2,d3,d4,d5,d6,d7,d8,d9,d10,d11⟩:=hdf.parts
  obtain ⟨cv,hcv,e1⟩:=d11.vals hr ht hn (f:=fun cv=>setK AV.u (AV.f (.func g) .z cv) q t fun t=>cod ev fuel x (fun e t' h'=>nmR e (bindA ps cv .e fun t6=>cod ev fuel body (fun e _ h=>dend rs one k t' e h) t6 h')) t h) e
  rw [setK_eq] at e1
  have hrange:List.range os.size=[0,1]:=by
   have:os.size=2:=by
    have:=congrArg List.length hos
    simpa using this
   rw [this]; rfl
  have ho1:os[0]?=some o1:=by
   have:os.toList[0]?=some o1:=by rw [hos]; rfl
   simpa using this
  have ho2:os[1]?=some o2:=by
   have:os.toList[1]?=some o2:=by rw [hos]; rfl
   simpa using this
  have hw1:∀ y,Region.wanted o1 y=true:=fun y=>by simp [Region.wanted,d3]
  have hw2:∀ y,Region.wanted o2 y=true:=fun y=>by simp [Region.wanted,d6]
  have hs1:tt < a.tmps.size:=Nat.lt_of_lt_of_le d10 hn
  obtain ⟨fv,hfv⟩:∃ fv,fv=Value.func (.func g) #[] (caps.map a.eval):=⟨_,rfl⟩
  have hcv':LR φ cv (caps.map a.eval).toList:=by rw [Array.toList_map]; exact hcv
  have hfvr:VR φ (.f (.func g) .z cv) fv:=⟨#[],caps.map a.eval,hfv,rfl,hcv'⟩
  have hput:a.put o1.dst fv={ a with tmps:=a.tmps.setIfInBounds tt fv }:=by rw [d2]; rfl
  have hval:(a.put o1.dst fv).eval (.tmp tt)=fv:=by
   rw [hput]
   show (a.tmps.setIfInBounds tt fv).getD tt undef=fv
   rw [Array.getD_eq_getD_getElem?,Array.getElem?_setIfInBounds_self_of_lt hs1]; rfl
  have hrun1:(execOp a.eval o1).run P w=.ok (.value fv) w:=by simp [execOp,d1,hfv,Instr.makeFunc]
  have hrun2:(execOp (a.put o1.dst fv).eval o2).run P w=.ok (.defer { target:=.fn (.func g) (caps.map a.eval),args:=#[] }) w:=by
   simp only [execOp,d4,resolve,d7,d8]
   rw [hval,hfv]
   simp [go_sem,Deferred.ofValue]
  obtain ⟨dd,hdd⟩:∃ dd:Deferred,dd={ target:=.fn (.func g) (caps.map a.eval),args:=#[] }:=⟨_,rfl⟩
  rw [← hdd] at hrun2
  obtain ⟨a2,ha2⟩:∃ a2:Act,a2={ tmps:=a.tmps.setIfInBounds tt fv,defers:=[dd] }:=⟨_,rfl⟩
  have key:rest.wpIn Fence.wide 0 P (bodyPostM Fence.wide 0 P fn (Ends P ng φ0 h0 w0 k kp r)) a2 w:=by
   have ht2:TR φ (t.set .u (.f (.func g) .z cv) q) a2.tmps:=by rw [ha2]; exact ht.set hfvr d9 hs1
   have hn2:fn.ntmps≤a2.tmps.size:=by rw [ha2]; simpa using hn
   refine wpIn_mono (code_ok (ro:=none) hev fuel gd hx (fun _=>rfl) _ φ h w _ a2 e1 hr ht2 hn2) fun ex a' w' hq=>?_
   obtain ⟨ψ,g',t',Ds,q1,q2,q3,q4,⟨q5,q5m,_⟩,q6⟩:=hq
   have hx':=hxt.trans q2
   have hdef:a'.defers=Ds.map mkD ++ [dd]:=by rw [q5,ha2]
   have hcv2:LR ψ cv (caps.map a.eval).toList:=LR.mono q2.mono hcv'
   have hinv:∀ w',(invoke dd.target dd.args).run P w'=.ok (.enter g (caps.map a.eval)) w':=fun w'=>by
    obtain ⟨gf,_,hf,hb,_,_,_,hname⟩:=hrp.parts
    rw [hdd]
    simp only [invoke,Array.empty_append]
    exact run_callFunc' ⟨gf,_,hf,hb,hname⟩ w'
   -- whatever the body ended with: the closure runs,the results are read
   have leave:bindA ps cv .e (fun t6=>cod ev fuel body (fun e _ h=>dend rs one k t' e h) t6 g')=r →
     LeavesInM Fence.wide 0 P fn a'.tmps (Ends P ng φ0 h0 w0 k kp r) a'.defers .returning w':=by
    intro e2
    rw [hdef]
    have hm0:MarksOK w0.heap.size ψ g' w' Ds:=⟨q5m.1,fun D hD=>⟨Nat.le_trans hxt.size (q5m.2 D hD).1,(q5m.2 D hD).2⟩⟩
    refine leaves_marks (by simp) [dd] Ds w' hm0 q1 hx' fun w2 hr2 hx2=>?_
    refine ⟨by simp,.inr ⟨fun h=>(by cases h),.func g,caps.map a.eval,g,caps.map a.eval,by rw [hdd],hinv w2,fun _ _=>trivial,?_⟩⟩
    have hcall:=plain_ok (go:=fun e h=>dend rs one k t' e h) (u:=.returning) hev fuel gd hrp hcv2 hr2 e2 ⟨fun id h hg=>hg,fun v h hg=>hg⟩
    rw [Array.toArray_toList] at hcall
    refine CallsDIn.mono (F:=Fence.wide) (n:=0) hcall fun en u' w3 hen=>?_
    obtain ⟨rfl,⟨v,rfl⟩,χ,g3,ex',k1,k2,k3,k4⟩:=hen
    show LeavesInM Fence.wide 0 P fn a'.tmps _ [] (settle .returning) w3
    have k4':ret rs one t' g3 k=r:=by rcases k3 with rfl | rfl<;>exact k4
    exact leave_ok gd hrs hone (fun p hp=>hp) (fun p hp hs=>(q3 p hp hs).mono k2.mono) q4 k1 (hx2.trans k2) k4'
   cases ex with
   | normal=>exact leave q6.2
   | ret=>exact leave q6.2
   | panic ch=>
    obtain ⟨c,y,rfl,h7,h8⟩:=q6
    exact (show False from (by subst h8; exact gd)).elim
   | exit id=>obtain ⟨_,q6⟩:=q6; exact (show False from (by subst q6; exact gd)).elim
   | goto l=>exact q6.elim
   | outgrown=>exact q6.elim
  refine wpIn_seq (wpIn_region ?_)
  rw [hrange]
  have hfin:({ a.put o1.dst fv with defers:=dd :: (a.put o1.dst fv).defers }:Act).put o2.dst undef=a2:=by
   rw [hput,d5,ha2,hd]; rfl
  simp only [wpOpsIn,ho1,ho2,hw1,hw2,if_true]
  refine ⟨fun _ _=>trivial,?_⟩
  rw [show Fence.wide.round=none from rfl,Oper.semAt_none,hrun1,Oper.uponIn_value]
  refine ⟨fun _ _=>trivial,?_⟩
  rw [show Fence.wide.round=none from rfl,Oper.semAt_none,hrun2,Oper.uponIn_defer,hfin]
  exact key
theorem dm_ok {f:Nat} {ps:PL} {rs:RL} {one:Bool} {dc:DC} (hf:DmOK P ng f ps rs one dc):FdOK P ng f (.dm ps rs one dc):=by
 obtain ⟨fn,c,h1,h2,h3,h4,h5,h6,h7⟩:=hf.parts
 refine ⟨⟨fn,c,h1,h2,h3⟩,fun fuel ev hev args h k kp r φ w vs e gd hr hl=>?_⟩
 have e1:bindA ps args .e (fun t=>dcR fuel ev rs one k kp dc t h)=r:=e
 obtain ⟨t,hinv,e2⟩:=bind_ok (A:=vs) h5 hl (Nat.zero_le _) (fun p=>⟨fun hp=>absurd p.val_pos (by omega),fun _=>PT.get_e _ _⟩) e1 gd
 refine (callsIn_wide (n:=0)).1 (callsIn_of_wp_marks h1 h2 trivial ?_)
 have ht:TR φ t (vs.toArray ++ Array.replicate (fn.ntmps - vs.toArray.size) undef):=enter_tr hinv
 exact dc_ok hev fuel gd h6 h7 h4 φ h w φ h w t { tmps:=vs.toArray ++ Array.replicate (fn.ntmps - vs.toArray.size) undef,defers:=[] } e2 hr (.refl _ _ _) ht (by simp; omega) rfl
end
end Go.Am
namespace Go.Am
def crl:AV→(Value→Bool) × (List Value→Bool)
 | .u=>(fun v=>match v with | .tuple cs=>cs.size == 0 | _=>false,fun _=>false)
 | .b b=>(fun v=>match v with | .bool c=>b == c | _=>false,fun _=>false)
 | .n k n=>(fun v=>match v with | .int k' n'=>decide (k'=k) && decide (n'=n) | _=>false,fun _=>false)
 | .s l=>(fun v=>match v with | .string s=>l.all (fun b=>decide (b < 256)) && decide (s.data.toList=l.map UInt8.ofNat) | _=>false,fun _=>false)
 | .pz=>(fun v=>match v with | .pointer none=>true | _=>false,fun _=>false)
 | .sz=>(fun v=>match v with | .slice none n c=>n == 0 && c == 0 | _=>false,fun _=>false)
 | .mz=>(fun v=>match v with | .map none=>true | _=>false,fun _=>false)
 | .f (.func i) first cap=>(fun v=>match v with | .func (.func j) a c=>decide (j=i) && ((crl first).2 a.toList && (crl cap).2 c.toList) | _=>false,fun _=>false)
 | .fz=>(fun v=>match v with | .nilFunc=>true | _=>false,fun _=>false)
 | .ia t x=>(fun v=>match v with | .iface t' u=>decide (t'=t) && (crl x).1 u | _=>false,fun _=>false)
 | .iz=>(fun v=>match v with | .nilIface=>true | _=>false,fun _=>false)
 | .a l=>(fun v=>match v with | .agg cs=>(crl l).2 cs.toList | _=>false,fun _=>false)
 | .z=>(fun _=>false,fun vs=>match vs with | []=>true | _=>false)
 | .c x l=>(fun _=>false,fun vs=>match vs with | v :: vs=>(crl x).1 v && (crl l).2 vs | []=>false)
 | _=>(fun _=>false,fun _=>false)
theorem crl_ok (φ:Ph):∀ x:AV,(∀ v,(crl x).1 v=true→VR φ x v)∧(∀ vs,(crl x).2 vs=true→LR φ x vs):=by
 intro x
 induction x with
 | u=>
  refine ⟨fun v h=>?_,fun _ h=>by cases h⟩
  cases v<;>first | (cases h; done) | skip
  rename_i cs
  have:cs=#[]:=Array.eq_empty_of_size_eq_zero (by simpa [crl] using h)
  subst this; rfl
 | b b=>
  refine ⟨fun v h=>?_,fun _ h=>by cases h⟩
  cases v<;>first | (cases h; done) | skip
  rename_i c
  have:b=c:=by simpa [crl] using h
  subst this; rfl
 | n k n=>
  refine ⟨fun v h=>?_,fun _ h=>by cases h⟩
  cases v<;>first | (cases h; done) | skip
  rename_i k' n'
  have:k'=k∧n'=n:=by simpa [crl] using h
  obtain ⟨rfl,rfl⟩:=this; rfl
 | s l=>
  refine ⟨fun v h=>?_,fun _ h=>by cases h⟩
  cases v<;>first | (cases h; done) | skip
  rename_i s
  simp only [crl,Bool.and_eq_true,decide_eq_true_eq,List.all_eq_true] at h
  refine ⟨fun b hb=>h.1 b hb,?_⟩
  congr 1
  apply ByteArray.ext
  apply Array.ext'
  rw [h.2]
  rfl
 | pz=>
  refine ⟨fun v h=>?_,fun _ h=>by cases h⟩
  cases v<;>first | (cases h; done) | skip
  rename_i a
  cases a<;>first | (cases h; done) | rfl
 | sz=>
  refine ⟨fun v h=>?_,fun _ h=>by cases h⟩
  cases v<;>first | (cases h; done) | skip
  rename_i a n c
  cases a<;>first | (cases h; done) | skip
  have:n=0∧c=0:=by simpa [crl] using h
  obtain ⟨rfl,rfl⟩:=this; rfl
 | mz=>
  refine ⟨fun v h=>?_,fun _ h=>by cases h⟩
  cases v<;>first | (cases h; done) | skip
  rename_i a
  cases a<;>first | (cases h; done) | rfl
 | fz=>
  refine ⟨fun v h=>?_,fun _ h=>by cases h⟩
  cases v<;>first | (cases h; done) | rfl
 | iz=>
  refine ⟨fun v h=>?_,fun _ h=>by cases h⟩
  cases v<;>first | (cases h; done) | rfl
 | f fn first cap ih1 ih2=>
  cases fn with
  | func i=>
   refine ⟨fun v h=>?_,fun _ h=>by cases h⟩
   cases v<;>first | (cases h; done) | skip
   rename_i g a c
   cases g<;>first | (cases h; done) | skip
   rename_i j
   simp only [crl,Bool.and_eq_true,decide_eq_true_eq] at h
   obtain ⟨rfl,h1,h2⟩:=h
   exact ⟨a,c,rfl,ih1.2 _ h1,ih2.2 _ h2⟩
  | _=>exact ⟨fun _ h=>(by cases h),fun _ h=>by cases h⟩
 | ia t x ih=>
  refine ⟨fun v h=>?_,fun _ h=>by cases h⟩
  cases v<;>first | (cases h; done) | skip
  rename_i t' u
  simp only [crl,Bool.and_eq_true,decide_eq_true_eq] at h
  obtain ⟨rfl,h1⟩:=h
  exact ⟨u,rfl,ih.1 _ h1⟩
 | a l ih=>
  refine ⟨fun v h=>?_,fun _ h=>by cases h⟩
  cases v<;>first | (cases h; done) | skip
  rename_i cs
  exact ⟨cs,rfl,ih.2 _ h⟩
 | z=>
  refine ⟨fun _ h=>(by cases h),fun vs h=>?_⟩
  cases vs<;>first | (cases h; done) | rfl
 | c x l ih1 ih2=>
  refine ⟨fun _ h=>(by cases h),fun vs h=>?_⟩
  cases vs with
  | nil=>cases h
  | cons v vs=>
   simp only [crl,Bool.and_eq_true] at h
   exact ⟨v,vs,rfl,ih1.1 _ h.1,ih2.2 _ h.2⟩
 | _=>exact ⟨fun _ h=>(by cases h),fun _ h=>by cases h⟩
def crB (x:AV) (v:Value):Bool:=(crl x).1 v
def clB (x:AV) (vs:List Value):Bool:=(crl x).2 vs
theorem crB_ok {x:AV} {v:Value} (h:crB x v=true):CR x v:=fun φ=>(crl_ok φ x).1 v h
theorem clB_ok {x:AV} {vs:List Value} (h:clB x vs=true):CL x vs:=fun φ=>(crl_ok φ x).2 vs h
def arB (ng nt:Nat):Operand→Ar→Bool
 | .tmp t,.t p=>decide (p.val=t + 1) && decide (t < nt)
 | .const v,.k c=>crB c v
 | .global g,.k (.p r o)=>decide (r.val=g + 1) && (decide (g < ng) && o == 0)
 | .func f,.k (.f (.func g) .z .z)=>decide (g=f)
 | _,_=>false
theorem arB_ok {ng nt:Nat}:∀ {x:Operand} {a:Ar},arB ng nt x a=true→ArOK ng nt x a
 | .tmp t,.t p,h=>by
  simp only [arB,Bool.and_eq_true,decide_eq_true_eq] at h
  exact .tmp t p h.1 h.2
 | .const v,.k c,h=>.const v c (crB_ok h)
 | .global g,.k (.p r o),h=>by
  simp only [arB,Bool.and_eq_true,decide_eq_true_eq,beq_iff_eq] at h
  obtain ⟨h1,h2,rfl⟩:=h
  exact .global g r h1 h2
 | .func f,.k (.f (.func g) .z .z),h=>by
  simp only [arB,decide_eq_true_eq] at h
  subst h
  exact .func _
def arlB (ng nt:Nat):List Operand→ArL→Bool
 | [],.z=>true
 | x :: l,.c a b=>arB ng nt x a && arlB ng nt l b
 | _,_=>false
theorem arlB_ok {ng nt:Nat}:∀ {l:List Operand} {a:ArL},arlB ng nt l a=true→ArLOK ng nt l a
 | [],.z,_=>.z
 | x :: l,.c a b,h=>by
  simp only [arlB,Bool.and_eq_true] at h
  exact .c x l a b (arB_ok h.1) (arlB_ok h.2)
def aroB (ng nt:Nat):Option Operand→Ar→Bool
 | none,.k .z=>true
 | some x,a=>arB ng nt x a
 | _,_=>false
theorem aroB_ok {ng nt:Nat}:∀ {x:Option Operand} {a:Ar},aroB ng nt x a=true→ArOOK ng nt x a
 | none,.k .z,_=>.none
 | some x,a,h=>.some x a (arB_ok h)
def paB (ng nt:Nat) (place:Nat→Option (Nat × Nat)):List (Nat × Operand)→PaL→Bool
 | [],.z=>true
 | (i,x) :: l,.c o n a b=>(match place i with | some (o',n')=>o' == o && n' == n | none=>false) && (arB ng nt x a && paB ng nt place l b)
 | _,_=>false
theorem paB_ok {ng nt:Nat} {place:Nat→Option (Nat × Nat)}:∀ {l:List (Nat × Operand)} {a:PaL},paB ng nt place l a=true→PaOK ng nt place l a
 | [],.z,_=>.z
 | (i,x) :: l,.c o n a b,h=>by
  simp only [paB,Bool.and_eq_true] at h
  refine .c i x l o n a b ?_ (arB_ok h.2.1) (paB_ok h.2.2)
  have h1:=h.1
  split at h1
  ·rename_i o' n' hp
   simp only [Bool.and_eq_true,beq_iff_eq] at h1
   obtain ⟨rfl,rfl⟩:=h1
   exact hp
  ·cases h1
end Go.Am
namespace Go.Am
section
variable (P:Program) (ng nt:Nat)
def szB (t:TypeId) (n:Nat):Bool:=decide ((P.info? t).map (·.size)=some n)
def zcB (t:TypeId) (cs:AV):Bool:=match P.info? t with | some i=>(match i.zero with | some v=>clB cs v.cells.toList | none=>false) | none=>false
def zvB (t:TypeId) (c:AV):Bool:=match P.info? t with | some i=>(match i.zero with | some v=>crB c v | none=>false) | none=>false
def znB (t:TypeId) (s:Nat):Bool:=match P.info? t with | some i=>(match i.zero with | some v=>v.cells.size == s | none=>false) | none=>false
def zrB (t:TypeId) (n:Nat) (cs:AV):Bool:=match P.info? t with | some i=>(match i.zero with | some v=>clB cs (List.replicate n v.cells.toList).flatten | none=>false) | none=>false
def agB (t:TypeId) (b:Bool):Bool:=match P.underlying t with | some d=>(match d with | .struct _ | .array _ _=>true | _=>false) == b | none=>false
def byB (t:TypeId):Bool:=match P.info? t with | some i=>decide (i.bytes≤1048576) | none=>false
def shB (t:TypeId):Nat→Bool
 | 0=>match P.underlying t with | some (.int _)=>true | _=>false
 | 1=>match P.underlying t with | some .string=>true | _=>false
 | n + 2=>match P.underlying t with | some (.array m e)=>m == n && ((match P.underlying e with | some (.int _)=>true | _=>false) && szB P e 1) | _=>false
variable {P} {ng nt}
theorem szB_ok {t:TypeId} {n:Nat} (h:szB P t n=true):sizeIs P t n:=show (P.info? t).map (·.size)=some n from of_decide_eq_true h
theorem zcB_ok {t:TypeId} {cs:AV} (h:zcB P t cs=true):∃ v,zeroIs P t v∧CL cs v.cells.toList:=by
 unfold zcB at h
 split at h
 ·rename_i i hi
  split at h
  ·rename_i v hv; exact ⟨v,by simp [zeroIs,hi,hv],clB_ok h⟩
  ·cases h
 ·cases h
theorem zvB_ok {t:TypeId} {c:AV} (h:zvB P t c=true):∃ v,zeroIs P t v∧CR c v:=by
 unfold zvB at h
 split at h
 ·rename_i i hi
  split at h
  ·rename_i v hv; exact ⟨v,by simp [zeroIs,hi,hv],crB_ok h⟩
  ·cases h
 ·cases h
theorem znB_ok {t:TypeId} {s:Nat} (h:znB P t s=true):∃ v,zeroIs P t v∧v.cells.size=s:=by
 unfold znB at h
 split at h
 ·rename_i i hi
  split at h
  ·rename_i v hv; exact ⟨v,by simp [zeroIs,hi,hv],by simpa using h⟩
  ·cases h
 ·cases h
theorem zrB_ok {t:TypeId} {n:Nat} {cs:AV} (h:zrB P t n cs=true):∃ v,zeroIs P t v∧CL cs (List.replicate n v.cells.toList).flatten:=by
 unfold zrB at h
 split at h
 ·rename_i i hi
  split at h
  ·rename_i v hv; exact ⟨v,by simp [zeroIs,hi,hv],clB_ok h⟩
  ·cases h
 ·cases h
theorem zero_inj {t:TypeId} {v u:Value} (h:zeroIs P t v) (k:zeroIs P t u):v=u:=by
 unfold zeroIs at *
 rw [h] at k
 injection k with k
 injection k
theorem agB_ok {t:TypeId} {b:Bool} (h:agB P t b=true):agg P t b:=by
 unfold agB at h
 split at h
 ·rename_i d hd; exact ⟨d,hd,eq_of_beq h⟩
 ·cases h
theorem byB_ok {t:TypeId} (h:byB P t=true):bytesLow P t:=by
 unfold byB at h
 split at h
 ·rename_i i hi; exact ⟨i.bytes,by simp [hi],of_decide_eq_true h⟩
 ·cases h
theorem shB_ok {t:TypeId}:∀ {n:Nat},shB P t n=true→keyShape P t n
 | 0,h=>by
  simp only [shB] at h
  split at h
  ·rename_i k hk; exact ⟨k,hk⟩
  ·cases h
 | 1,h=>by
  simp only [shB] at h
  split at h
  ·rename_i hk; exact hk
  ·cases h
 | n + 2,h=>by
  simp only [shB] at h
  split at h
  ·rename_i m e hm
   simp only [Bool.and_eq_true,beq_iff_eq] at h
   obtain ⟨rfl,h1,h2⟩:=h
   split at h1
   ·rename_i k hk; exact ⟨e,k,hm,hk,szB_ok h2⟩
   ·cases h1
  ·cases h
end
section
variable (P:Program) (ng nt:Nat)
def b1 (x:Operand) (a:Ar):=arB ng nt x a
def bMove (x:Operand) (a:AO):Bool:=match a with | .mv b=>arB ng nt x b | _=>false
def bPick (x y z:Operand) (a:AO):Bool:=match a with | .pick b c d=>arB ng nt x b && (arB ng nt y c && arB ng nt z d) | _=>false
def bAlloc (t:TypeId) (a:AO):Bool:=match a with | .al cs=>zcB P t cs | _=>false
def bBox (x:Operand) (a:AO):Bool:=match a with | .bx b=>arB ng nt x b | _=>false
def bBuild (t:TypeId) (ps:Array (Nat × Operand)) (a:AO):Bool:=match a with
 | .bd cs l=>zcB P t cs && (match P.underlying t with
  | some (.struct fs)=>fs.all (fun f=>(P.info? f.type).isSome) && paB ng nt (fun i=>(fs[i]?).map fun f=>(f.offset,((P.info? f.type).map (·.size)).getD 0)) ps.toList l
  | some (.array _ e)=>(match P.info? e with | some i=>paB ng nt (fun j=>some (j * i.size,i.size)) ps.toList l | none=>false)
  | _=>false)
 | _=>false
def bBuildSlice (t:TypeId) (n:Nat) (ps:Array (Nat × Operand)) (a:AO):Bool:=match a with
 | .bs cs n' s l=>n' == n && (match P.underlying t with
  | some (.slice e)=>szB P e s && (decide (n * s≤2 ^ 24) && (decide (0 < s) && (znB P e s && (zrB P e n cs && paB ng nt (fun i=>some (i * s,s)) ps.toList l))))
  | _=>false)
 | _=>false
def bLoad (t:TypeId) (x:Operand) (a:AO):Bool:=match a with
 | .l1 b=>arB ng nt x b && agB P t false
 | .ln b n=>arB ng nt x b && (agB P t true && szB P t n)
 | _=>false
def bStore (t:TypeId) (x y:Operand) (a:AO):Bool:=match a with
 | .s1 b c=>arB ng nt x b && (arB ng nt y c && szB P t 1)
 | .sn b c n=>arB ng nt x b && (arB ng nt y c && szB P t n)
 | _=>false
def bNil (x:Operand) (a:AO):Bool:=match a with | .nk b=>arB ng nt x b | _=>false
variable {P} {ng nt}
theorem bMove_ok {x:Operand} {a:AO} (h:bMove ng nt x a=true):OpOK P ng nt (.move x) a∧OpOK P ng nt (.assign x) a:=by
 cases a<;>first | (cases h; done) | exact ⟨.move _ _ (arB_ok h),.assign _ _ (arB_ok h)⟩
theorem bPick_ok {x y z:Operand} {a:AO} (h:bPick ng nt x y z a=true):OpOK P ng nt (.pick x y z) a:=by
 cases a<;>first | (cases h; done) | skip
 simp only [bPick,Bool.and_eq_true] at h
 exact .pick _ _ _ _ _ _ (arB_ok h.1) (arB_ok h.2.1) (arB_ok h.2.2)
theorem bAlloc_ok {t:TypeId} {a:AO} (h:bAlloc P t a=true):OpOK P ng nt (.alloc t) a:=by
 cases a<;>first | (cases h; done) | skip
 obtain ⟨v,h1,h2⟩:=zcB_ok h
 exact .alloc _ v _ h1 h2
theorem bBox_ok {t:TypeId} {x:Operand} {a:AO} (h:bBox ng nt x a=true):OpOK P ng nt (.box t x) a:=by
 cases a<;>first | (cases h; done) | exact .box _ _ _ (arB_ok h)
theorem bBuild_ok {t:TypeId} {ps:Array (Nat × Operand)} {a:AO} (h:bBuild P ng nt t ps a=true):OpOK P ng nt (.build t ps) a:=by
 cases a<;>first | (cases h; done) | skip
 simp only [bBuild,Bool.and_eq_true] at h
 obtain ⟨h1,h2⟩:=h
 obtain ⟨v,h3,h4⟩:=zcB_ok h1
 split at h2
 ·rename_i fs hfs
  simp only [Bool.and_eq_true,Array.all_eq_true_iff_forall_mem] at h2
  refine .buildS _ _ v _ fs _ h3 h4 hfs (fun f hf=>?_) (paB_ok h2.2)
  obtain ⟨i,hi⟩:=Option.isSome_iff_exists.1 (h2.1 f hf)
  exact ⟨i.size,by simp [sizeIs,hi]⟩
 ·rename_i n e hfs
  split at h2
  ·rename_i i hi
   exact .buildA _ _ v _ n e i.size _ h3 h4 hfs (by simp [sizeIs,hi]) (paB_ok h2)
  ·cases h2
 ·cases h2
theorem bBuildSlice_ok {t:TypeId} {n:Nat} {ps:Array (Nat × Operand)} {a:AO} (h:bBuildSlice P ng nt t n ps a=true):OpOK P ng nt (.buildSlice t n ps) a:=by
 cases a<;>first | (cases h; done) | skip
 simp only [bBuildSlice,Bool.and_eq_true,beq_iff_eq] at h
 obtain ⟨rfl,h2⟩:=h
 split at h2
 ·rename_i e he
  simp only [Bool.and_eq_true,decide_eq_true_eq] at h2
  obtain ⟨h3,h4,h5,h6,h7,h8⟩:=h2
  obtain ⟨v,hv1,hv2⟩:=znB_ok h6
  obtain ⟨u,hu1,hu2⟩:=zrB_ok h7
  cases zero_inj hv1 hu1
  exact .buildSlice _ _ _ e _ v _ _ he (szB_ok h3) h4 hv1 hv2 h5 hu2 (paB_ok h8)
 ·cases h2
theorem bLoad_ok {t:TypeId} {x:Operand} {a:AO} (h:bLoad P ng nt t x a=true):OpOK P ng nt (.load t x) a:=by
 cases a<;>first | (cases h; done) | skip
 ·simp only [bLoad,Bool.and_eq_true] at h
  exact .load1 _ _ _ (arB_ok h.1) (agB_ok h.2)
 ·simp only [bLoad,Bool.and_eq_true] at h
  exact .loadn _ _ _ _ (arB_ok h.1) (agB_ok h.2.1) (szB_ok h.2.2)
theorem bStore_ok {t:TypeId} {x y:Operand} {a:AO} (h:bStore P ng nt t x y a=true):OpOK P ng nt (.store t x y) a:=by
 cases a<;>first | (cases h; done) | skip
 ·simp only [bStore,Bool.and_eq_true] at h
  exact .store1 _ _ _ _ _ (arB_ok h.1) (arB_ok h.2.1) (szB_ok h.2.2)
 ·simp only [bStore,Bool.and_eq_true] at h
  exact .storen _ _ _ _ _ _ (arB_ok h.1) (arB_ok h.2.1) (szB_ok h.2.2)
theorem bNil_ok {x:Operand} {a:AO} (h:bNil ng nt x a=true):OpOK P ng nt (.nilCheck x) a:=by
 cases a<;>first | (cases h; done) | exact .nilCheck _ _ (arB_ok h)
end
end Go.Am
namespace Go.Am
section
variable (P:Program) (ng nt:Nat)
def isZ (y:Operand) (c:Nat):Bool:=match y with
 | .const (.pointer none)=>c == 0
 | .const (.slice none n m)=>c == 1 && (n == 0 && m == 0)
 | .const (.map none)=>c == 2
 | .const .nilFunc=>c == 3
 | .const .nilIface=>c == 4
 | _=>false
def enB (b:BinOp) (ne:Bool):Bool:=match b with | .eql=>!ne | .neq=>ne | _=>false
def bBin (b:BinOp) (t:TypeId) (x y:Operand) (a:AO):Bool:=match a with
 | .bi b' p q=>decide (b'=b) && (arB ng nt x p && arB ng nt y q)
 | .bst b' p q=>decide (b'=b) && (arB ng nt x p && arB ng nt y q)
 | .bb ne p q=>enB b ne && (arB ng nt x p && (arB ng nt y q && (match P.underlying t with | some .bool=>true | _=>false)))
 | .bzp ne p=>enB b ne && (arB ng nt x p && (isZ y 0 && (match P.underlying t with | some (.pointer _)=>true | _=>false)))
 | .bzs ne p=>enB b ne && (arB ng nt x p && (isZ y 1 && (match P.underlying t with | some (.slice _)=>true | _=>false)))
 | .bzm ne p=>enB b ne && (arB ng nt x p && (isZ y 2 && (match P.underlying t with | some (.map _ _)=>true | _=>false)))
 | .bzf ne p=>enB b ne && (arB ng nt x p && (isZ y 3 && (match P.underlying t with | some (.func _ _ _)=>true | _=>false)))
 | .bzi ne p=>enB b ne && (arB ng nt x p && (isZ y 4 && (match P.underlying t with | some (.interface _)=>true | _=>false)))
 | .ba ne n p q=>enB b ne && (arB ng nt x p && (arB ng nt y q && ((match P.underlying t with | some (.array m e)=>m == n && ((match P.underlying e with | some (.int _)=>true | _=>false) && szB P e 1) | _=>false) && !(P.eqGuardType P.depth t))))
 | _=>false
variable {P} {ng nt}
theorem isZ_ok:∀ {y:Operand},(isZ y 0=true→y=.const (.pointer none))∧(isZ y 1=true→y=.const (.slice none 0 0))∧(isZ y 2=true→y=.const (.map none))∧(isZ y 3=true→y=.const .nilFunc)∧(isZ y 4=true→y=.const .nilIface):=by
 intro y
 cases y with
 | const v=>
  cases v<;>first | (refine ⟨?_,?_,?_,?_,?_⟩<;>intro h<;>first | rfl | (cases h; done)) | skip
  ·rename_i a; cases a<;>(refine ⟨?_,?_,?_,?_,?_⟩<;>intro h<;>first | rfl | (cases h; done))
  ·rename_i a n c
   cases a with
   | some _=>refine ⟨?_,?_,?_,?_,?_⟩<;>intro h<;>cases h
   | none=>
    refine ⟨?_,?_,?_,?_,?_⟩<;>intro h
    ·simp [isZ] at h
    ·have:n=0∧c=0:=by simpa [isZ] using h
     rw [this.1,this.2]
    ·simp [isZ] at h
    ·simp [isZ] at h
    ·simp [isZ] at h
  ·rename_i a; cases a<;>(refine ⟨?_,?_,?_,?_,?_⟩<;>intro h<;>first | rfl | (cases h; done))
 | _=>refine ⟨?_,?_,?_,?_,?_⟩<;>intro h<;>cases h
theorem enB_ok {b:BinOp} {ne:Bool} (h:enB b ne=true):(b=.eql∧ne=false)∨(b=.neq∧ne=true):=by
 cases b<;>first | (cases h; done) | skip
 ·exact .inl ⟨rfl,by simpa [enB] using h⟩
 ·exact .inr ⟨rfl,h⟩
theorem bBin_ok {b:BinOp} {t u:TypeId} {x y:Operand} {a:AO} (h:bBin P ng nt b t x y a=true):OpOK P ng nt (.binOp b t x y u) a:=by
 cases a<;>first | (cases h; done) | skip
 ·simp only [bBin,Bool.and_eq_true,decide_eq_true_eq] at h
  obtain ⟨rfl,h1,h2⟩:=h
  exact .bin _ _ _ _ _ _ _ (arB_ok h1) (arB_ok h2)
 ·simp only [bBin,Bool.and_eq_true,decide_eq_true_eq] at h
  obtain ⟨rfl,h1,h2⟩:=h
  exact .str _ _ _ _ _ _ _ (arB_ok h1) (arB_ok h2)
 ·simp only [bBin,Bool.and_eq_true] at h
  obtain ⟨h0,h1,h2,h3⟩:=h
  split at h3<;>first | (cases h3; done) | skip
  rename_i hu
  rcases enB_ok h0 with ⟨rfl,rfl⟩ | ⟨rfl,rfl⟩
  ·exact .boolE _ _ _ _ _ _ (arB_ok h1) (arB_ok h2) hu
  ·exact .boolN _ _ _ _ _ _ (arB_ok h1) (arB_ok h2) hu
 ·simp only [bBin,Bool.and_eq_true] at h
  obtain ⟨h0,h1,h2,h3⟩:=h
  split at h3<;>first | (cases h3; done) | skip
  rename_i e hu
  rw [isZ_ok.1 h2]
  rcases enB_ok h0 with ⟨rfl,rfl⟩ | ⟨rfl,rfl⟩
  ·exact .nilpE _ _ _ _ e (arB_ok h1) hu
  ·exact .nilpN _ _ _ _ e (arB_ok h1) hu
 ·simp only [bBin,Bool.and_eq_true] at h
  obtain ⟨h0,h1,h2,h3⟩:=h
  split at h3<;>first | (cases h3; done) | skip
  rename_i e hu
  rw [isZ_ok.2.1 h2]
  rcases enB_ok h0 with ⟨rfl,rfl⟩ | ⟨rfl,rfl⟩
  ·exact .nilsE _ _ _ _ e (arB_ok h1) hu
  ·exact .nilsN _ _ _ _ e (arB_ok h1) hu
 ·simp only [bBin,Bool.and_eq_true] at h
  obtain ⟨h0,h1,h2,h3⟩:=h
  split at h3<;>first | (cases h3; done) | skip
  rename_i e e' hu
  rw [isZ_ok.2.2.1 h2]
  rcases enB_ok h0 with ⟨rfl,rfl⟩ | ⟨rfl,rfl⟩
  ·exact .nilmE _ _ _ _ e e' (arB_ok h1) hu
  ·exact .nilmN _ _ _ _ e e' (arB_ok h1) hu
 ·simp only [bBin,Bool.and_eq_true] at h
  obtain ⟨h0,h1,h2,h3⟩:=h
  split at h3<;>first | (cases h3; done) | skip
  rename_i e e' e'' hu
  rw [isZ_ok.2.2.2.1 h2]
  rcases enB_ok h0 with ⟨rfl,rfl⟩ | ⟨rfl,rfl⟩
  ·exact .nilfE _ _ _ _ e e' e'' (arB_ok h1) hu
  ·exact .nilfN _ _ _ _ e e' e'' (arB_ok h1) hu
 ·simp only [bBin,Bool.and_eq_true] at h
  obtain ⟨h0,h1,h2,h3⟩:=h
  split at h3<;>first | (cases h3; done) | skip
  rename_i e hu
  rw [isZ_ok.2.2.2.2 h2]
  rcases enB_ok h0 with ⟨rfl,rfl⟩ | ⟨rfl,rfl⟩
  ·exact .niliE _ _ _ _ e (arB_ok h1) hu
  ·exact .niliN _ _ _ _ e (arB_ok h1) hu
 ·simp only [bBin,Bool.and_eq_true,Bool.not_eq_true'] at h
  obtain ⟨h0,h1,h2,h3,h4⟩:=h
  split at h3<;>first | (cases h3; done) | skip
  rename_i m e hu
  simp only [Bool.and_eq_true,beq_iff_eq] at h3
  obtain ⟨rfl,h5,h6⟩:=h3
  split at h5<;>first | (cases h5; done) | skip
  rename_i kk hk
  rcases enB_ok h0 with ⟨rfl,rfl⟩ | ⟨rfl,rfl⟩
  ·exact .arrE _ _ _ _ _ _ _ e kk (arB_ok h1) (arB_ok h2) hu hk (szB_ok h6) h4
  ·exact .arrN _ _ _ _ _ _ _ e kk (arB_ok h1) (arB_ok h2) hu hk (szB_ok h6) h4
end
end Go.Am
