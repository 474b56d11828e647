/- The function TermLogarithms of package quadraturelaw32 returns true and does not panic for all values of its three arguments of type uint8, in every world that its row describes (the tied card of the row). No further condition. -/
import Derived.Test.YtbgbllmhdjojkaaGreatDoorF1
import Derived.Test.YtbgbllmhdjojkaaGreatDoorF0
set_option linter.all false
set_option maxRecDepth 1000000
namespace Go.Proofs.YtbgbllmhdjojkaaGreatDoor
open Go.Am
theorem mem6 {x:Nat} (h:x < 6):x∈[0,1,2,3,4,5]:=by simp; omega
theorem rr_all {a b n:Nat} (ha:a < 6) (hb:b < 6) (hn:n < 6):Cd.rr a b n=true:=by
 have h:([0,1,2,3,4,5].all fun b=>[0,1,2,3,4,5].all fun n=>Cd.rr a b n)=true:=by
  match a,ha with
  | 0,_=>exact Cd.y0
  | 1,_=>exact Cd.y1
  | 2,_=>exact Cd.y2
  | 3,_=>exact Cd.y3
  | 4,_=>exact Cd.y4
  | 5,_=>exact Cd.y5
 exact List.all_eq_true.1 (List.all_eq_true.1 h b (mem6 hb)) n (mem6 hn)
theorem mm_eq:Cd.mm=mem2 (intsA ops9) (intsA str9):=rfl
theorem hrun (W:World) (a b n:Nat) (ha:a < 256) (hb:b < 256) (hn:n < 256) (r0:RowAt W (0,0,9) (intsV ops9)) (r1:RowAt W (1,0,9) (intsV str9)) :
  Calls Tryz.prog 3 #[.int .u8 a,.int .u8 b,.int .u8 n] W fun e w'=>e=.returned (.bool true)∧Same W w':=by
 obtain ⟨g,e⟩:=isT_ok (rr_all (Nat.mod_lt a (by decide)) (Nat.mod_lt b (by decide)) (Nat.mod_lt n (by decide)))
 rw [mm_eq] at e
 refine (run2 ((evF_ok Cd.Z10 3000 100).calls Cd.p3) (a:=ops9) (b:=str9) r0 r1 (args:=.c (.md .u8 6 (a % 6)) (.c (.md .u8 6 (b % 6)) (.c (.md .u8 6 (n % 6)) .z))) (vs:=#[.int .u8 a,.int .u8 b,.int .u8 n]) (fun φ=>⟨_,_,rfl,⟨a,rfl,ha,rfl⟩,_,_,rfl,⟨b,rfl,hb,rfl⟩,_,_,rfl,⟨n,rfl,hn,rfl⟩,rfl⟩) e).mono fun e w' ⟨h1,h2,h3,h4,h5,h6⟩=>⟨h1,h3,h4,h5,h6⟩
theorem law:Rows.TermLogarithmsCardSaid:=card hrun
#print axioms law
end Go.Proofs.YtbgbllmhdjojkaaGreatDoor
