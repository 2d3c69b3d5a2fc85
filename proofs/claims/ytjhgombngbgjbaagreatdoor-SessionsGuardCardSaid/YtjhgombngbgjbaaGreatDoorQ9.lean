/- Part 9 of 11. A session's sealed cut that was changed, shortened, lengthened or emptied is not resumed, and a cut is resumed under another model only where the two models are one. Names are shortened and spaces left out by program, for the size. -/
import Derived.Test.YtjhgombngbgjbaaGreatDoorQ8
import Derived.WalkKit
import Derived.Lib.Walk
import Derived.Test.YtjhgombngbgjbaaGreatDoorCards
import Derived.Test.YtjhgombngbgjbaaGreatDoorTie
set_option linter.unusedVariables false
set_option linter.unusedSimpArgs false
set_option linter.unusedSectionVars false
set_option linter.constructorNameAsVariable false
set_option maxRecDepth 100000
namespace Go.Pl
def zy (h:Md) (o:On) (x:Int):Except Int On :=
 if x<1∨(h.sym:Int)<x∨o.time=256 then .error 1 else if FN h o x.toNat=true then .ok (zA h o x.toNat) else .error 11
def vg (h:Md) (o:On):List Int→Except Int On
 | []=>.ok o
 | x::r=>match zy h o x with
  | .ok o'=>vg h o' r
  | .error e=>.error e
theorem GN {h:Md} {c:Nat} {o o':On} {x:Int} (hk:rV h c) (H:vP h c o) (hp:zy h o x=.ok o'):vP h c o'∧o'=zA h o x.toNat∧o'.time=o.time+1:=by
 unfold zy at hp;split at hp
 ·cases hp
 ·rename_i q
  split at hp
  ·rename_i q2
   cases hp;exact ⟨H.Q4 hk (by omega) (by have:=H.time;omega) q2,rfl,rfl⟩
  ·cases hp
theorem D8 {h:Md} {o:On} {x e:Int} (hp:zy h o x=.error e):e=1∨e=11:=by
 unfold zy at hp;split at hp
 ·cases hp;exact .inl rfl
 ·split at hp
  ·cases hp
  ·cases hp;exact .inr rfl
def Fnd (l:List (Nat×On)) (n:Int) (k:Nat):Prop:=k≤l.length∧(∀j,j<k→((l.getD j (0,on0)).1:Int)<n)∧∀j,k≤j→j<l.length→n≤((l.getD j (0,on0)).1:Int)
theorem Tz {a b:Nat} (h:a+b≤2 ^ 60):pG .i64 (sE .u64 (pG .u64 (pL .i64 (a:Int) (b:Int))) (1:Int))=((a+b) / 2:Nat):=by
 rw [pt (by omega),rY (by omega)]
 have:sE .u64 ((a:Int)+(b:Int)) 1=((a:Int)+(b:Int)) / 2:=by
  unfold sE;rw [show (min (Int.toNat 1) IntKind.u64.bits)=1 from rfl,XZ _ (by decide)];rfl
 rw [this,vT (by omega)];omega
end Go.Pl
namespace Go.Pq
open Go.Pl Go.Proofs
theorem MM {h:Md} {c:Nat} {o:On} (hk:rV h c) (H:vP h c o) (x:Int):∃y0 y1 y2,F 133 [.t 60 (onT h o),.t 2 (.i .i64 x)] Z16 [y0,y1,.i .i64 y2] ∧
  (match zy h o x with | .ok o'=>y0=onT h o'∧y1=qH (sI h o x.toNat)∧y2=0 | .error e=>y0=LG∧y1=.l []∧y2=e):=by
 unfold zy
 by_cases q:x<1∨(h.sym:Int)<x∨o.time=256
 ·rw [WY q]
  refine ⟨LG,.l [],1,?_,rfl,rfl,rfl⟩;refine JV _ _ _ _ _ (fun _=>True) (fun _=>0) (fun _ _=>True) (fun _ _ _=>True) (fun _ _ _=>0) (fun _=>True) (fun _=>0) ?_;rw [AS,Ky,xm,Oa,pC];refine ⟨_,yi hk H,fun q=>(by cases q),fun _=>⟨fun _=>⟨a_,rfl,rfl,rfl,a_⟩,fun w=>?_⟩⟩
  exfalso
  rw [tQ,tQ,XX,XX,pF,pF,rk] at w;omega
 ·rw [WZ q]
  obtain ⟨n,rfl⟩:∃n:Nat,x=(n:Int):=⟨x.toNat,by omega⟩;rw [WP];have ht:=H.time
  by_cases g:FN h o n=true
  ·rw [WY g]
   exact ⟨_,_,_,Ol hk H n (by omega) (by omega) _ _ _ (fun _=>⟨rfl,rfl,rfl⟩) (fun w=>by rw [g] at w;cases w),rfl,rfl,rfl⟩
  ·rw [WZ g]
   exact ⟨_,_,_,Ol hk H n (by omega) (by omega) _ _ _ (fun w=>absurd w g) (fun _=>⟨rfl,rfl,rfl⟩),rfl,rfl,rfl⟩
theorem Sh (a b:Int) (y:Int) (hy:y=if a<b then -1 else if b<a then 1 else 0):F 165 [.t 2 (.i .i64 a),.t 2 (.i .i64 b)] (zo 2 2) [.i .i64 y]:=by
 subst hy;have n1:∀x:Int,F 195 [.t 2 (.i .i64 x)] (zo 1 4) [.b false]:=fun x=>JZ _ _ ⟨a_,by rw [rT],a_⟩;refine JY _ _ _ ⟨_,n1 a,_,n1 b,fun q=>(by cases q),fun _=>⟨fun q=>(by cases q),fun _=>⟨fun h=>?_,fun h=>⟨fun h2=>?_,fun h2=>?_⟩⟩⟩⟩
 ·rw [pC,pC,pw] at h
  rw [WY (by omega)];exact ⟨a_,rfl,a_⟩
 ·rw [pC,pC,pF] at h
  rw [pC,pC,pw] at h2;rw [WZ (by omega),WY (by omega)];exact ⟨a_,rfl,a_⟩
 ·rw [pC,pC,pF] at h
  rw [pC,pC,pF] at h2;rw [WZ (by omega),WZ (by omega)];exact ⟨a_,rfl,a_⟩
theorem Ga (h:Md) (x:Nat×On) (n:Int):F 164 [.t 62 (tB h x),.t 2 (.i .i64 n)] (zo 2 2) [.i .i64 (if (x.1:Int)<n then -1 else if n<(x.1:Int) then 1 else 0)] :=
 PM _ _ _ ⟨_,Sh (x.1:Int) n _ rfl,a_,rfl,a_⟩
theorem Nd (h:Md) (l:List (Nat×On)) (n:Int) (k:Nat) (hl:l.length≤2 ^ 40) (hf:Fnd l n k) :
  F 163 [.t 31 (.l (qT h l)),.t 2 (.i .i64 n),.t 1 (.f 164 [])] Z8 [.i .i64 (k:Int),.b (decide (k<l.length∧((l.getD k (0,on0)).1:Int)=n))]:=by
 obtain ⟨hk,f1,f2⟩:=hf;refine PL _ _ _ _ (fun i=>i.1≤k∧k≤i.2∧i.2≤l.length) (fun i=>i.2-i.1) ?_;rw [Fh];refine ⟨⟨(0,l.length),⟨WS _,hk,WU _⟩,(by and_intros<;>first | exact trivial | rfl | (rw [pt (by omega)];rfl))⟩,fun _=>rfl,?_⟩;rintro ⟨a,b⟩ ⟨h1,h2,h3⟩;dsimp only at h1 h2 h3 ⊢;rw [Tz (by omega)];refine ⟨fun q=>?_,fun q=>?_⟩
 ·rw [pw] at q
  have hm:(a+b) / 2<l.length:=by omega
  rw [GY _ _ hm,ye];refine ⟨by decide,⟨by omega,by omega⟩,_,⟨rfl,Ga h _ n⟩,fun w=>?_,fun w=>?_⟩
  ·have b_:((l.getD ((a+b) / 2) (0,on0)).1:Int)<n:=by
    rw [pC,pw] at w;split at w
    ·assumption
    ·split at w<;>omega
   have:(a+b) / 2<k:=by
    rcases YP ((a+b) / 2) k with g | g
    ·exact g
    ·have:=f2 _ g hm;omega
   exact ⟨((a+b) / 2+1,b),⟨this,h2,h3⟩,by dsimp only;omega,(by and_intros<;>first | exact trivial | rfl | (rw [pt (by omega)];rfl))⟩
  ·have b_:n≤((l.getD ((a+b) / 2) (0,on0)).1:Int):=by
    rw [pC,pF] at w;split at w<;>omega
   have:k≤(a+b) / 2:=by
    rcases YP ((a+b) / 2) k with g | g
    ·have:=f1 _ g;omega
    ·exact g
   exact ⟨(a,(a+b) / 2),⟨h1,this,by dsimp only;omega⟩,by dsimp only;omega,(by and_intros<;>first | exact trivial | rfl | (rw [pt (by omega)];rfl))⟩
 ·rw [pF] at q
  have e:a=k:=by omega
  subst e;refine ⟨fun w=>⟨by omega,by have:=w.1;rw [pw] at this;omega⟩,?_⟩
  by_cases g:a<l.length
  ·rw [GY _ _ g,ye]
   refine ⟨_,fun _=>⟨rfl,Ga h _ n⟩,a_,rfl,?_,a_⟩;rw [pw.2 (by omega),pC]
   have:=f2 a (WU _) g
   by_cases w:((l.getD a (0,on0)).1:Int)=n
   ·rw [Xq ⟨g,w⟩,WZ (by omega),WZ (by omega)];rfl
   ·rw [Xh (fun z=>w z.2),WZ (by omega),WY (by omega)];rfl
  ·refine ⟨.i .i64 0,fun w=>by have:=w.1;rw [pw] at this;omega,a_,rfl,?_,a_⟩
   rw [pF.2 (by omega),Xh (fun z=>g z.1)];rfl
def Wz:Ctx:=⟨tab,sigs,48,[0,1,2,3,4,5,6,7,8,9,10,13],[cell 13 11,⟨4,58,95⟩,⟨5,58,0⟩],[(57,⟨[true],[],[]⟩),(95,⟨[],[(0,[false,false,false,false,false,false,false,false,false,false,false,true,false])],[]⟩),(96,⟨[],[(0,[false,false,false,false,false,false,false,false,false,false,false,true,false])],[]⟩),(97,⟨[],[(0,[false,false,false,false,false,false,false,false,false,false,false,true,false])],[]⟩),(98,⟨[],[(0,[false,false,false,false,false,false,false,false,false,false,false,true,false])],[]⟩),(99,⟨[],[(0,[false,false,false,false,false,false,false,false,false,false,false,true,false])],[]⟩)],[],[],[]⟩
theorem Qm (a0:T) (a1:T) (y0:T) (y1:T) (h:∃y:T,F 57 [.t 31 (a0.cell 11)] (zw 1 31) [y]∧uX Tryz.prog 58 (a1.cell 0).int (some 95)∧((!true)=true→True∧(G13 a0)=y0∧T.g [kI 1,kI 0,T.l [],T.l [],T.l [],T.b false,T.l [],T.l []]=y1∧True)∧((!true)=false→∃y_1 y_2 y_3 y_4 y_5 y_6 y_7 y_8 y_9 y_10 y_11 y_12 y_13 y_14 y_15:T,F 95 [.box 111 13 [.t 2 (a0.cell 0),.t 2 (a0.cell 1),.t 4 (a0.cell 2),.t 22 (a0.cell 3),.t 22 (a0.cell 4),.t 25 (a0.cell 5),.t 26 (a0.cell 6),.t 25 (a0.cell 7),.t 26 (a0.cell 8),.t 27 (a0.cell 9),.t 28 (a0.cell 10),.own 31 0 y.list,.t 2 (a0.cell 12)],.t 35 (G5 a1)] Z13 [y_1,y_2,y_3,y_4,y_5,y_6,y_7,y_8,y_9,y_10,y_11,y_12,y_13,y_14,y_15]∧(neI y_2.int 0=true→True∧(G13 a0)=y0∧T.g [y_2.cell 0,kI 0,T.l [],T.l [],T.l [],T.b false,T.l [],T.l []]=y1∧True)∧(neI y_2.int 0=false→True∧T.g [y_3,y_4,y_5,y_6,y_7,y_8,y_9,y_10,y_11,y_12,y_13,T.l y_14.list,y_15]=y0∧(G8 y_1)=y1∧True))):F 29 [.t 32 a0,.t 35 a1] Z10 [y0,y1] :=
 p7 Wz (by kernel_rfl) Tryz.func29 (by kernel_rfl) .no (by kernel_rfl) h
def WA:Ctx:=⟨tab,sigs,48,[0,1,2,3,4,5,6,7,8,9,10,13],[cell 13 11,⟨4,58,96⟩,⟨5,58,0⟩],[(57,⟨[true],[],[]⟩),(95,⟨[],[(0,[false,false,false,false,false,false,false,false,false,false,false,true,false])],[]⟩),(96,⟨[],[(0,[false,false,false,false,false,false,false,false,false,false,false,true,false])],[]⟩),(97,⟨[],[(0,[false,false,false,false,false,false,false,false,false,false,false,true,false])],[]⟩),(98,⟨[],[(0,[false,false,false,false,false,false,false,false,false,false,false,true,false])],[]⟩),(99,⟨[],[(0,[false,false,false,false,false,false,false,false,false,false,false,true,false])],[]⟩)],[],[],[]⟩
theorem Qn (a0:T) (a1:T) (y0:T) (y1:T) (h:∃y:T,F 57 [.t 31 (a0.cell 11)] (zw 1 31) [y]∧uX Tryz.prog 58 (a1.cell 0).int (some 96)∧((!true)=true→True∧(G13 a0)=y0∧T.g [kI 1,kI 0,T.l [],T.l [],T.l [],T.b false,T.l [],T.l []]=y1∧True)∧((!true)=false→∃y_1 y_2 y_3 y_4 y_5 y_6 y_7 y_8 y_9 y_10 y_11 y_12 y_13 y_14 y_15:T,F 96 [.box 111 13 [.t 2 (a0.cell 0),.t 2 (a0.cell 1),.t 4 (a0.cell 2),.t 22 (a0.cell 3),.t 22 (a0.cell 4),.t 25 (a0.cell 5),.t 26 (a0.cell 6),.t 25 (a0.cell 7),.t 26 (a0.cell 8),.t 27 (a0.cell 9),.t 28 (a0.cell 10),.own 31 0 y.list,.t 2 (a0.cell 12)],.t 35 (G5 a1)] Z13 [y_1,y_2,y_3,y_4,y_5,y_6,y_7,y_8,y_9,y_10,y_11,y_12,y_13,y_14,y_15]∧(neI y_2.int 0=true→True∧(G13 a0)=y0∧T.g [y_2.cell 0,kI 0,T.l [],T.l [],T.l [],T.b false,T.l [],T.l []]=y1∧True)∧(neI y_2.int 0=false→True∧T.g [y_3,y_4,y_5,y_6,y_7,y_8,y_9,y_10,y_11,y_12,y_13,T.l y_14.list,y_15]=y0∧(G8 y_1)=y1∧True))):F 29 [.t 32 a0,.t 35 a1] Z10 [y0,y1] :=
 p7 WA (by kernel_rfl) Tryz.func29 (by kernel_rfl) .no (by kernel_rfl) h
def WD:Ctx:=⟨tab,sigs,48,[0,1,2,3,4,5,6,7,8,9,10,13],[cell 13 11,⟨4,58,99⟩,⟨5,58,0⟩],[(57,⟨[true],[],[]⟩),(95,⟨[],[(0,[false,false,false,false,false,false,false,false,false,false,false,true,false])],[]⟩),(96,⟨[],[(0,[false,false,false,false,false,false,false,false,false,false,false,true,false])],[]⟩),(97,⟨[],[(0,[false,false,false,false,false,false,false,false,false,false,false,true,false])],[]⟩),(98,⟨[],[(0,[false,false,false,false,false,false,false,false,false,false,false,true,false])],[]⟩),(99,⟨[],[(0,[false,false,false,false,false,false,false,false,false,false,false,true,false])],[]⟩)],[],[],[]⟩
theorem Qp (a0:T) (a1:T) (y0:T) (y1:T) (h:∃y:T,F 57 [.t 31 (a0.cell 11)] (zw 1 31) [y]∧uX Tryz.prog 58 (a1.cell 0).int (some 99)∧((!true)=true→True∧(G13 a0)=y0∧T.g [kI 1,kI 0,T.l [],T.l [],T.l [],T.b false,T.l [],T.l []]=y1∧True)∧((!true)=false→∃y_1 y_2 y_3 y_4 y_5 y_6 y_7 y_8 y_9 y_10 y_11 y_12 y_13 y_14 y_15:T,F 99 [.box 111 13 [.t 2 (a0.cell 0),.t 2 (a0.cell 1),.t 4 (a0.cell 2),.t 22 (a0.cell 3),.t 22 (a0.cell 4),.t 25 (a0.cell 5),.t 26 (a0.cell 6),.t 25 (a0.cell 7),.t 26 (a0.cell 8),.t 27 (a0.cell 9),.t 28 (a0.cell 10),.own 31 0 y.list,.t 2 (a0.cell 12)],.t 35 (G5 a1)] Z13 [y_1,y_2,y_3,y_4,y_5,y_6,y_7,y_8,y_9,y_10,y_11,y_12,y_13,y_14,y_15]∧(neI y_2.int 0=true→True∧(G13 a0)=y0∧T.g [y_2.cell 0,kI 0,T.l [],T.l [],T.l [],T.b false,T.l [],T.l []]=y1∧True)∧(neI y_2.int 0=false→True∧T.g [y_3,y_4,y_5,y_6,y_7,y_8,y_9,y_10,y_11,y_12,y_13,T.l y_14.list,y_15]=y0∧(G8 y_1)=y1∧True))):F 29 [.t 32 a0,.t 35 a1] Z10 [y0,y1] :=
 p7 WD (by kernel_rfl) Tryz.func29 (by kernel_rfl) .no (by kernel_rfl) h
def WB:Ctx:=⟨tab,sigs,48,[0,1,2,3,4,5,6,7,8,9,10,13],[cell 13 11,⟨4,58,97⟩,⟨5,58,0⟩],[(57,⟨[true],[],[]⟩),(95,⟨[],[(0,[false,false,false,false,false,false,false,false,false,false,false,true,false])],[]⟩),(96,⟨[],[(0,[false,false,false,false,false,false,false,false,false,false,false,true,false])],[]⟩),(97,⟨[],[(0,[false,false,false,false,false,false,false,false,false,false,false,true,false])],[]⟩),(98,⟨[],[(0,[false,false,false,false,false,false,false,false,false,false,false,true,false])],[]⟩),(99,⟨[],[(0,[false,false,false,false,false,false,false,false,false,false,false,true,false])],[]⟩)],[],[],[]⟩
theorem Qo (a0:T) (a1:T) (y0:T) (y1:T) (h:∃y:T,F 57 [.t 31 (a0.cell 11)] (zw 1 31) [y]∧uX Tryz.prog 58 (a1.cell 0).int (some 97)∧((!true)=true→True∧(G13 a0)=y0∧T.g [kI 1,kI 0,T.l [],T.l [],T.l [],T.b false,T.l [],T.l []]=y1∧True)∧((!true)=false→∃y_1 y_2 y_3 y_4 y_5 y_6 y_7 y_8 y_9 y_10 y_11 y_12 y_13 y_14 y_15:T,F 97 [.box 111 13 [.t 2 (a0.cell 0),.t 2 (a0.cell 1),.t 4 (a0.cell 2),.t 22 (a0.cell 3),.t 22 (a0.cell 4),.t 25 (a0.cell 5),.t 26 (a0.cell 6),.t 25 (a0.cell 7),.t 26 (a0.cell 8),.t 27 (a0.cell 9),.t 28 (a0.cell 10),.own 31 0 y.list,.t 2 (a0.cell 12)],.t 35 (G5 a1)] Z13 [y_1,y_2,y_3,y_4,y_5,y_6,y_7,y_8,y_9,y_10,y_11,y_12,y_13,y_14,y_15]∧(neI y_2.int 0=true→True∧(G13 a0)=y0∧T.g [y_2.cell 0,kI 0,T.l [],T.l [],T.l [],T.b false,T.l [],T.l []]=y1∧True)∧(neI y_2.int 0=false→True∧T.g [y_3,y_4,y_5,y_6,y_7,y_8,y_9,y_10,y_11,y_12,y_13,T.l y_14.list,y_15]=y0∧(G8 y_1)=y1∧True))):F 29 [.t 32 a0,.t 35 a1] Z10 [y0,y1] :=
 p7 WB (by kernel_rfl) Tryz.func29 (by kernel_rfl) .no (by kernel_rfl) h
def WC:Ctx:=⟨tab,sigs,48,[0,1,2,3,4,5,6,7,8,9,10,13],[cell 13 11,⟨4,58,98⟩,⟨5,58,0⟩],[(57,⟨[true],[],[]⟩),(95,⟨[],[(0,[false,false,false,false,false,false,false,false,false,false,false,true,false])],[]⟩),(96,⟨[],[(0,[false,false,false,false,false,false,false,false,false,false,false,true,false])],[]⟩),(97,⟨[],[(0,[false,false,false,false,false,false,false,false,false,false,false,true,false])],[]⟩),(98,⟨[],[(0,[false,false,false,false,false,false,false,false,false,false,false,true,false])],[]⟩),(99,⟨[],[(0,[false,false,false,false,false,false,false,false,false,false,false,true,false])],[]⟩)],[],[],[]⟩
theorem J0 (a0:T) (a1:T) (y0:T) (y1:T) (h:∃y:T,F 57 [.t 31 (a0.cell 11)] (zw 1 31) [y]∧uX Tryz.prog 58 (a1.cell 0).int (some 98)∧((!true)=true→True∧(G13 a0)=y0∧T.g [kI 1,kI 0,T.l [],T.l [],T.l [],T.b false,T.l [],T.l []]=y1∧True)∧((!true)=false→∃y_1 y_2 y_3 y_4 y_5 y_6 y_7 y_8 y_9 y_10 y_11 y_12 y_13 y_14 y_15:T,F 98 [.box 111 13 [.t 2 (a0.cell 0),.t 2 (a0.cell 1),.t 4 (a0.cell 2),.t 22 (a0.cell 3),.t 22 (a0.cell 4),.t 25 (a0.cell 5),.t 26 (a0.cell 6),.t 25 (a0.cell 7),.t 26 (a0.cell 8),.t 27 (a0.cell 9),.t 28 (a0.cell 10),.own 31 0 y.list,.t 2 (a0.cell 12)],.t 35 (G5 a1)] Z13 [y_1,y_2,y_3,y_4,y_5,y_6,y_7,y_8,y_9,y_10,y_11,y_12,y_13,y_14,y_15]∧(neI y_2.int 0=true→True∧(G13 a0)=y0∧T.g [y_2.cell 0,kI 0,T.l [],T.l [],T.l [],T.b false,T.l [],T.l []]=y1∧True)∧(neI y_2.int 0=false→True∧T.g [y_3,y_4,y_5,y_6,y_7,y_8,y_9,y_10,y_11,y_12,y_13,T.l y_14.list,y_15]=y0∧(G8 y_1)=y1∧True))):F 29 [.t 32 a0,.t 35 a1] Z10 [y0,y1] :=
 p7 WC (by kernel_rfl) Tryz.func29 (by kernel_rfl) .no (by kernel_rfl) h
theorem uD {k:Int} {g:Option FuncId} (h:∀(a:Go.Addr) (w:World),Calls Tryz.prog 58 #[.pointer (some a),.int .i64 k] w fun e w'=>e=.returned (.tuple #[OH a g,.bool (LR g)])∧w'=w):uX Tryz.prog 58 k g:=by
 intro a w;have aY:(callFunc 58 #[.pointer (some a),.int .i64 k]).run Tryz.prog w=.ok (.enter 58 #[.pointer (some a),.int .i64 k]) w:=by
  have h1:Tryz.prog.funcs[58]?=some Tryz.f58:=Tryz.func58;have h2 : ¬ Tryz.f58.name = "runtime.NumGoroutine" := by
   have : (Tryz.f58.name == "runtime.NumGoroutine") = false := by kernel_rfl
   simpa using this
  have h3:Tryz.f58.body=some (tO Tryz.f58):=by kernel_rfl
  simp [callFunc,h1,h2,h3]
 unfold CallsF;rw [aY];exact (h a w).mono fun e w' q=>⟨_,q.1,q.2,rfl⟩
set_option maxHeartbeats 2000000 in
theorem Uv:uX Tryz.prog 58 1 (some 95):=by
 refine uD fun a w=>?_
 go_enter Tryz.func58,Tryz.ntmps58
 go_wp2
 go_ret2
 exact ⟨rfl,rfl⟩
set_option maxHeartbeats 2000000 in
theorem Uw:uX Tryz.prog 58 2 (some 96):=by
 refine uD fun a w=>?_
 go_enter Tryz.func58,Tryz.ntmps58
 go_wp2
 go_ret2
 exact ⟨rfl,rfl⟩
set_option maxHeartbeats 2000000 in
theorem Ux:uX Tryz.prog 58 3 (some 97):=by
 refine uD fun a w=>?_
 go_enter Tryz.func58,Tryz.ntmps58
 go_wp2
 go_ret2
 exact ⟨rfl,rfl⟩
set_option maxHeartbeats 2000000 in
theorem Sa:uX Tryz.prog 58 4 (some 98):=by
 refine uD fun a w=>?_
 go_enter Tryz.func58,Tryz.ntmps58
 go_wp2
 go_ret2
 exact ⟨rfl,rfl⟩
set_option maxHeartbeats 2000000 in
theorem Uy:uX Tryz.prog 58 5 (some 99):=by
 refine uD fun a w=>?_
 go_enter Tryz.func58,Tryz.ntmps58
 go_wp2
 go_ret2
 exact ⟨rfl,rfl⟩
end Go.Pq
namespace Go.Pl
def Ac (e n:Int) (done:T):T:=T.g [.i .i64 e,.i .i64 n,done,T.l [],T.l [],T.b false,T.l [],T.l []]
def LP:T:=T.g [T.i .i64 0,T.i .i64 0,T.l [],T.l [],T.l [],T.b false,T.l [],T.l []]
def qw (l:List Int):T:=.l (l.map fun x=>T.i .i64 x)
def uR (kind n seq:Int) (syms:List Int) (tok:T):T:=.g [.i .i64 kind,.i .i64 n,.i .i64 seq,qw syms,tok]
theorem wC (l:List Int):(qw l).list=l.map fun x=>T.i .i64 x:=rfl
theorem rH (l:List Int):lenOf (qw l).list=(l.length:Int):=by rw [wC];simp [lenOf]
theorem wA (l:List Int) {i:Nat} (h:i<l.length):(qw l).list.getD (i:Int).toNat T.u=.i .i64 (l.getD i 0):=by
 rw [WP,wC];simp [WM,h]
theorem LC (m:List (List Nat)):uv m=.l ((m.map ry).map T.l):=by simp [uv,rm,qH]
def Ou (o:On) (seq:Int) (syms:List Int):List Int:=syms.drop (min ((o.time:Int)-seq).toNat syms.length)
theorem K9 (h:Md) (x:Nat×On):(tB h x).part 1 15=onT h x.2:=rfl
end Go.Pl
namespace Go.Pq
open Go.Pl Go.Proofs
theorem xG (h:Md) (ss:List (Nat×On)) (made:Nat) (n:Int) (k:Nat) (hl:ss.length≤2 ^ 40) (hf:Fnd ss n k) :
  F 132 [.box 111 13 [.t 2 (.i .i64 (h.sym:Int)),.t 2 (.i .i64 (h.st:Int)),.t 4 (.b (decide (h.empty.num<0))),.t 22 (lim (Lb.nat h.empty.num.natAbs)),.t 22 (ux h.empty.den),.t 25 (pO h.init),.t 26 (p9 h.trans),.t 25 (pO h.stop),.t 26 (p9 h.emit),.t 27 (rP (List.replicate h.st false)),.t 28 (qH h.ties),.own 31 0 (qT h ss),.t 2 (.i .i64 (made:Int))],.t 2 (.i .i64 n)] Z14 [.i .i64 (k:Int),.b (decide (k<ss.length∧((ss.getD k (0,on0)).1:Int)=n)),.i .i64 (h.sym:Int),.i .i64 (h.st:Int),.b (decide (h.empty.num<0)),lim (Lb.nat h.empty.num.natAbs),ux h.empty.den,pO h.init,p9 h.trans,pO h.stop,p9 h.emit,rP (List.replicate h.st false),qH h.ties,.l (qT h ss),.i .i64 (made:Int)]:=by
 refine Pp _ _ _ _ _ _ _ _ _ _ _ _ _ _ _ _ _ _ _ _ _ _ _ _ _ _ _ _ _ ?_;rw [Xc,pQ];exact ⟨_,_,Nd h ss n k hl hf,⟨a_,a_⟩,rfl,rfl,rfl,rfl,rfl,rfl,rfl,rfl,rfl,rfl,rfl,rfl,rfl,rfl,rfl,a_⟩
theorem MG {h:Md} {c:Nat} (hk:rV h c) (ss:List (Nat×On)) (made:Nat) (hs:ss.length≤8) (hm:made≤1099511627776) (r:T) (cu:¬ (ss.length=8∨made=1099511627776)) :
  F 95 [.box 111 13 [.t 2 (.i .i64 (h.sym:Int)),.t 2 (.i .i64 (h.st:Int)),.t 4 (.b (decide (h.empty.num<0))),.t 22 (lim (Lb.nat h.empty.num.natAbs)),.t 22 (ux h.empty.den),.t 25 (pO h.init),.t 26 (p9 h.trans),.t 25 (pO h.stop),.t 26 (p9 h.emit),.t 27 (rP (List.replicate h.st false)),.t 28 (qH h.ties),.own 31 0 (qT h ss),.t 2 (.i .i64 (made:Int))],.t 35 r] Z13 [Ac 0 (made:Int) (.l []),.i .i64 0,.i .i64 (h.sym:Int),.i .i64 (h.st:Int),.b (decide (h.empty.num<0)),lim (Lb.nat h.empty.num.natAbs),ux h.empty.den,pO h.init,p9 h.trans,pO h.stop,p9 h.emit,rP (List.replicate h.st false),qH h.ties,.l (qT h (ss++[(made,on0)])),.i .i64 ((made+1:Nat):Int)]:=by
 refine NX _ _ _ _ _ _ _ _ _ _ _ _ _ _ _ _ _ _ _ _ _ _ _ _ _ _ _ _ _ ?_;rw [pC,tQ,pQ,ql];refine ⟨fun q=>?_,fun q=>?_⟩
 ·exfalso
  rw [Yv,qe,qe] at q;omega
 ·have C_:room=140737488355328:=rfl
  refine ⟨_,_,Oe h c hk,fun q=>(by cases q),fun _=>⟨⟨?_,?_⟩,⟨a_,a_⟩,rfl,rfl,rfl,rfl,rfl,rfl,rfl,rfl,rfl,rfl,rfl,rfl,rfl,?_,?_,a_⟩⟩
  ·show (ss.length+1)*304≤room;omega
  ·show ss.length+1≤_;omega
  ·rw [←xr];rfl
  ·rw [pt (by omega)];rfl
theorem H8 (h:Md) (ss:List (Nat×On)) (made:Nat) (r:T) (cu:ss.length=8∨made=1099511627776) :
  F 95 [.box 111 13 [.t 2 (.i .i64 (h.sym:Int)),.t 2 (.i .i64 (h.st:Int)),.t 4 (.b (decide (h.empty.num<0))),.t 22 (lim (Lb.nat h.empty.num.natAbs)),.t 22 (ux h.empty.den),.t 25 (pO h.init),.t 26 (p9 h.trans),.t 25 (pO h.stop),.t 26 (p9 h.emit),.t 27 (rP (List.replicate h.st false)),.t 28 (qH h.ties),.own 31 0 (qT h ss),.t 2 (.i .i64 (made:Int))],.t 35 r] Z13 [LP,.i .i64 2,.i .i64 (h.sym:Int),.i .i64 (h.st:Int),.b (decide (h.empty.num<0)),lim (Lb.nat h.empty.num.natAbs),ux h.empty.den,pO h.init,p9 h.trans,pO h.stop,p9 h.emit,rP (List.replicate h.st false),qH h.ties,.l (qT h ss),.i .i64 (made:Int)]:=by
 refine NX _ _ _ _ _ _ _ _ _ _ _ _ _ _ _ _ _ _ _ _ _ _ _ _ _ _ _ _ _ ?_;rw [pC,tQ,ql];refine ⟨fun q=>⟨⟨a_,a_⟩,rfl,rfl,rfl,rfl,rfl,rfl,rfl,rfl,rfl,rfl,rfl,rfl,rfl,rfl,rfl,a_⟩,fun q=>?_⟩
 exfalso
 rw [XX,rk,rk] at q;omega
theorem HJ (h:Md) (ss:List (Nat×On)) (made:Nat) (kind n seq:Int) (syms:List Int) (tok:T) (k:Nat) (hl:ss.length≤8) (hf:Fnd ss n k) (aA:¬ (k<ss.length∧((ss.getD k (0,on0)).1:Int)=n)) :
  F 96 [.box 111 13 [.t 2 (.i .i64 (h.sym:Int)),.t 2 (.i .i64 (h.st:Int)),.t 4 (.b (decide (h.empty.num<0))),.t 22 (lim (Lb.nat h.empty.num.natAbs)),.t 22 (ux h.empty.den),.t 25 (pO h.init),.t 26 (p9 h.trans),.t 25 (pO h.stop),.t 26 (p9 h.emit),.t 27 (rP (List.replicate h.st false)),.t 28 (qH h.ties),.own 31 0 (qT h ss),.t 2 (.i .i64 (made:Int))],.t 35 (uR kind n seq syms tok)] Z13 [LP,.i .i64 5,.i .i64 (h.sym:Int),.i .i64 (h.st:Int),.b (decide (h.empty.num<0)),lim (Lb.nat h.empty.num.natAbs),ux h.empty.den,pO h.init,p9 h.trans,pO h.stop,p9 h.emit,rP (List.replicate h.st false),qH h.ties,.l (qT h ss),.i .i64 (made:Int)]:=by
 refine J2 _ _ _ _ _ _ _ _ _ _ _ _ _ _ _ _ _ _ _ _ _ _ _ _ _ _ _ _ _ (fun _=>True) (fun _=>0) ?_;refine ⟨_,_,_,_,_,_,_,_,_,_,_,_,_,_,_,xG h ss made n k (by omega) hf,fun _=>⟨⟨a_,a_⟩,rfl,rfl,rfl,rfl,rfl,rfl,rfl,rfl,rfl,rfl,rfl,rfl,rfl,rfl,rfl,a_⟩,fun q=>?_⟩
 exfalso
 rw [Xh aA] at q;cases q
theorem EW (h:Md) (ss:List (Nat×On)) (made:Nat) (kind n seq:Int) (syms:List Int) (tok:T) (k:Nat) (hl:ss.length≤8) (hf:Fnd ss n k) (a8:k<ss.length∧((ss.getD k (0,on0)).1:Int)=n)
  (lS:seq<0∨((ss.getD k (0,on0)).2.time:Int)<seq) :
  F 96 [.box 111 13 [.t 2 (.i .i64 (h.sym:Int)),.t 2 (.i .i64 (h.st:Int)),.t 4 (.b (decide (h.empty.num<0))),.t 22 (lim (Lb.nat h.empty.num.natAbs)),.t 22 (ux h.empty.den),.t 25 (pO h.init),.t 26 (p9 h.trans),.t 25 (pO h.stop),.t 26 (p9 h.emit),.t 27 (rP (List.replicate h.st false)),.t 28 (qH h.ties),.own 31 0 (qT h ss),.t 2 (.i .i64 (made:Int))],.t 35 (uR kind n seq syms tok)] Z13 [LP,.i .i64 23,.i .i64 (h.sym:Int),.i .i64 (h.st:Int),.b (decide (h.empty.num<0)),lim (Lb.nat h.empty.num.natAbs),ux h.empty.den,pO h.init,p9 h.trans,pO h.stop,p9 h.emit,rP (List.replicate h.st false),qH h.ties,.l (qT h ss),.i .i64 (made:Int)]:=by
 have ar:(T.l (qT h ss)).list.getD (0+(T.i .i64 (k:Int)).int.toNat) T.u=tB h (ss.getD k (0,on0)):=by
  show (qT h ss).getD (0+((k:Nat):Int).toNat) T.u=_
  rw [WV,WP,uS h ss a8.1]
 have i_:(T.l (qT h ss)).list.length=ss.length:=ql h ss;refine J2 _ _ _ _ _ _ _ _ _ _ _ _ _ _ _ _ _ _ _ _ _ _ _ _ _ _ _ _ _ (fun _=>True) (fun _=>0) ?_;refine ⟨_,_,_,_,_,_,_,_,_,_,_,_,_,_,_,xG h ss made n k (by omega) hf,fun q=>?_,fun q=>?_⟩
 ·exfalso
  rw [Xq a8] at q;cases q
 ·rw [ar,K9,xm,i_,tQ]
  have e:((uR kind n seq syms tok).cell 2).int=seq:=rfl;rw [e,pC];refine ⟨⟨by omega,by omega⟩,fun _=>⟨⟨a_,a_⟩,rfl,rfl,rfl,rfl,rfl,rfl,rfl,rfl,rfl,rfl,rfl,rfl,rfl,rfl,rfl,a_⟩,fun w=>?_⟩
  exfalso
  rw [XX,pF,pF] at w;omega
theorem N2 {h:Md} {c:Nat} (hk:rV h c) (ss:List (Nat×On)) (made:Nat) (kind n seq:Int) (syms:List Int) (tok:T) (k:Nat) (hl:ss.length≤8) (hf:Fnd ss n k) (bh:k<ss.length) (num:Nat) (o:On) (hx:ss.getD k (0,on0)=(num,o)) (hn:(num:Int)=n)
  (H:vP h c o) (lS:¬ (seq<0∨(o.time:Int)<seq)) (cY:syms.length≤2 ^ 40) (y0 y1:T) (ss':List (Nat×On))
  (b9:match vg h o (Ou o seq syms) with
   | .ok o'=>y0=Ac 0 n (qH o'.done)∧y1=.i .i64 0∧ss'=ss.set k (num,o')
   | .error e=>y0=LP∧y1=.i .i64 e∧ss'=ss) :
  F 96 [.box 111 13 [.t 2 (.i .i64 (h.sym:Int)),.t 2 (.i .i64 (h.st:Int)),.t 4 (.b (decide (h.empty.num<0))),.t 22 (lim (Lb.nat h.empty.num.natAbs)),.t 22 (ux h.empty.den),.t 25 (pO h.init),.t 26 (p9 h.trans),.t 25 (pO h.stop),.t 26 (p9 h.emit),.t 27 (rP (List.replicate h.st false)),.t 28 (qH h.ties),.own 31 0 (qT h ss),.t 2 (.i .i64 (made:Int))],.t 35 (uR kind n seq syms tok)] Z13 [y0,y1,.i .i64 (h.sym:Int),.i .i64 (h.st:Int),.b (decide (h.empty.num<0)),lim (Lb.nat h.empty.num.natAbs),ux h.empty.den,pO h.init,p9 h.trans,pO h.stop,p9 h.emit,rP (List.replicate h.st false),qH h.ties,.l (qT h ss'),.i .i64 (made:Int)]:=by
 have a8:k<ss.length∧((ss.getD k (0,on0)).1:Int)=n:=⟨bh,by rw [hx];exact hn⟩;have ar:(T.l (qT h ss)).list.getD (0+(T.i .i64 (k:Int)).int.toNat) T.u=tB h (num,o):=by
  show (qT h ss).getD (0+((k:Nat):Int).toNat) T.u=_
  rw [WV,WP,uS h ss a8.1,hx]
 have i_:(T.l (qT h ss)).list.length=ss.length:=ql h ss;have jh:=H.time
 generalize hw:Ou o seq syms=w at *
 refine J2 _ _ _ _ _ _ _ _ _ _ _ _ _ _ _ _ _ _ _ _ _ _ _ _ _ _ _ _ _
  (fun i=>i.1=tW h ⟨ss,made⟩∧i.2.1=qT h ss∧i.2.2.1=k∧i.2.2.2.2.2=qw w∧∃o1,i.2.2.2.1=onT h o1∧vP h c o1∧i.2.2.2.2.1≤w.length∧vg h o w=vg h o1 (w.drop i.2.2.2.2.1))
  (fun i=>w.length-i.2.2.2.2.1) ?_
 refine ⟨_,_,_,_,_,_,_,_,_,_,_,_,_,_,_,xG h ss made n k (by omega) hf,fun q=>?_,fun q=>?_⟩
 ·exfalso
  rw [Xq a8] at q;cases q
 ·rw [ar,show (tB h (num,o)).part 1 15=onT h o from rfl,xm,i_,tQ]
  have e:((uR kind n seq syms tok).cell 2).int=seq:=rfl;have e3:(uR kind n seq syms tok).cell 3=qw syms:=rfl;rw [e,e3,pC,rH,qm (by omega)];have em:xT ((o.time:Int)-seq) (syms.length:Int)=((min ((o.time:Int)-seq).toNat syms.length:Nat):Int):=by unfold xT;split<;>omega
  rw [em];have ew:T.l (List.take ((syms.length:Int)-((min ((o.time:Int)-seq).toNat syms.length:Nat):Int)).toNat (List.drop ((min ((o.time:Int)-seq).toNat syms.length:Nat):Int).toNat (qw syms).list))=qw w:=by
   rw [WP,wC,←List.map_drop,WX (by rw [Xk,Xi];omega),←hw];rfl
  have ewl:lenOf (List.take ((syms.length:Int)-((min ((o.time:Int)-seq).toNat syms.length:Nat):Int)).toNat (List.drop ((min ((o.time:Int)-seq).toNat syms.length:Nat):Int).toNat (qw syms).list))=lenOf (qw w).list:=by rw [←ew];rfl
  rw [ew,ewl];have js:w.length≤2 ^ 40:=by rw [←hw];unfold Ou;rw [Xi];omega
  refine ⟨⟨by omega,by omega⟩,fun w=>?_,fun _=>⟨⟨by omega,by omega,by omega⟩,⟨(tW h ⟨ss,made⟩,qT h ss,k,onT h o,0,qw w),⟨rfl,rfl,rfl,rfl,o,rfl,H,WS _,rfl⟩,(by and_intros<;>first | exact trivial | rfl | (rw [pt (by omega)];rfl))⟩,fun _=>rfl,?_⟩⟩
  ·exfalso
   rw [Yv,pw,pw] at w;omega
  rintro ⟨sv,sl,k',dt,m,wt⟩ ⟨h1,h2,h3,h4,o1,h5,h6,h7,h8⟩;dsimp only at h1 h2 h3 h4 h5 h7 h8 ⊢;subst h1 h2 h4 h5;rw [h3];clear h3;rw [rH];refine ⟨fun g=>?_,fun g=>?_⟩
  ·rw [pw] at g
   have a7:m<w.length:=by omega
   rw [wA w a7,r9];obtain ⟨z0,z1,z2,hz,hm⟩:=MM hk h6 (w.getD m 0);have oD:w.drop m=w.getD m 0::w.drop (m+1):=by
    rw [XI a7,WM,WL a7];rfl
   rw [oD] at h8;refine ⟨⟨by omega,by omega⟩,_,_,_,hz,fun v=>?_,fun v=>?_⟩
   ·rw [pC,rr] at v
    cases hp:zy h o1 (w.getD m 0) with
    | ok o2=>rw [hp] at hm;exact absurd hm.2.2 v
    | error e =>
     rw [hp] at hm
     have:vg h o w=.error e:=by rw [h8];unfold vg;rw [hp]
     rw [this] at b9;obtain ⟨r0,r1,r2⟩:=b9;subst r0 r1 r2;obtain ⟨-,-,rfl⟩:=hm;exact ⟨⟨a_,a_⟩,rfl,rfl,rfl,rfl,rfl,rfl,rfl,rfl,rfl,rfl,rfl,rfl,rfl,rfl,rfl,a_⟩
   ·rw [pC,sq] at v
    cases hp:zy h o1 (w.getD m 0) with
    | error e=>rw [hp] at hm;rcases D8 hp with q | q<;>(rw [hm.2.2,q] at v;cases v)
    | ok o2 =>
     rw [hp] at hm;obtain ⟨rfl,-,-⟩:=hm
     have:vg h o w=vg h o2 (w.drop (m+1)):=by rw [h8];show (match zy h o1 (w.getD m 0) with | .ok o'=>vg h o' (w.drop (m+1)) | .error e=>.error e)=_;rw [hp]
     exact ⟨(tW h ⟨ss,made⟩,qT h ss,k,onT h o2,m+1,qw w),⟨rfl,rfl,rfl,rfl,o2,rfl,(GN hk h6 hp).1,a7,this⟩,by dsimp only;omega,by dsimp only;rw [rH];exact (by and_intros<;>first | exact trivial | rfl | (rw [pt (by omega)];rfl))⟩
  ·rw [pF] at g
   have jy:m=w.length:=by omega
   subst jy;rw [Zm] at h8;have h9:vg h o w=.ok o1:=h8;rw [h9] at b9;obtain ⟨r0,r1,r2⟩:=b9;subst r0 r1 r2;have eZ:=h6.dlen;refine ⟨⟨by omega,by rw [ql];omega⟩,_,t7 (ry o1.done) (by rw [qX];omega),⟨a_,a_⟩,rfl,rfl,rfl,rfl,rfl,rfl,rfl,rfl,rfl,rfl,rfl,rfl,rfl,?_,rfl,a_⟩;have e5:(qT h ss).getD (0+((k:Nat):Int).toNat) T.u=tB h (num,o):=by rw [WV,WP,uS h ss a8.1,hx]
   rw [e5,WV,WP,←Ng];rfl
def C43:Ctx:=⟨tab,sigs,167,[0,1,2,3,6,7,8,9,10,11,12,13,14,15,16,20],[cell 8 6,cell 8 7,cell 8 8,cell 8 9,cell 8 10,fld 30 11 6,fld 30 11 7,fld 30 11 8,fld 30 11 9,fld 30 11 10,pp 12,pp 30,spl 54,spl 129],[(80,⟨[],[(0,[false,false])],[]⟩),(81,⟨[],[(0,[false,false])],[]⟩)],[],[],[]⟩
theorem SG (a0:T) (a1:T) (a2:T) (y0:T) (I0:X13→Prop) (M0:X13→Nat) (I1:X13→(Bool×Nat)→Prop) (I2:X13→(Bool×Nat)→X15→Prop) (I3:X13→(Bool×Nat)→X15→X16→Prop) (I4:X13→(Bool×Nat)→X14→Prop) (M4:X13→(Bool×Nat)→X14→Nat) (I5:X13→(Bool×Nat)→X15→X16→X5→Prop) (M5:X13→(Bool×Nat)→X15→X16→X5→Nat) (h:∃y:T,F 19 [.t 2 (a0.cell 0),.t 2 a1] (zo 2 2) [y]∧∃y_1:T,F 19 [.t 2 (a0.cell 1),.t 2 (kI 3)] (zo 2 2) [y_1]∧∃y_2 y_3 y_4:T,F 80 [.box 129 2 [.t 28 ((a0.cell 2).cell 0),.t 2 (kI 0)],.t 2 (kI (pL .i64 (pL .i64 1 y.int) 1))] Z7 [y_2,y_3,y_4]∧(Bd (pL .i64 1 y.int) (lenOf y_2.list))∧(0≤(0:Int)∧0≤pL .i64 1 y.int∧pL .i64 1 y.int≤lenOf y_2.list)∧(∃(i:X13),I0 i∧R35 a0 a1 a2 (y_3=a0.cell 2∧y_4=kI ↑i.2.2.2.2.2.2.1∧True∧True∧kI (pL .i64 1 y_1.int)=i.1.cell 0∧kI (pL .i64 1 y.int)=i.1.cell 1∧((y_2.list.getD (pL .i64 1 y.int).toNat T.u).part 0 3).cell 0=i.1.cell 2∧((y_2.list.getD (pL .i64 1 y.int).toNat T.u).part 0 3).cell 1=i.1.cell 3∧((y_2.list.getD (pL .i64 1 y.int).toNat T.u).part 0 3).cell 2=i.1.cell 4∧T.l (List.take (pL .i64 1 y.int-(0:Int)).toNat (List.drop 0 y_2.list))=i.1.cell 5∧[]=i.2.1∧[]=i.2.2.1∧[]=i.2.2.2.1∧[]=i.2.2.2.2.1∧[]=i.2.2.2.2.2.1∧kI 0=kI ↑i.2.2.2.2.2.2.2∧True))∧(∀(i:X13),true=true)∧∀(i:X13),I0 i→(ltI ↑i.2.2.2.2.2.2.2 (i.1.cell 1).int=true→((a2.bool=true→∃y y_5 y_6:T,F 81 [.box 129 2 [.t 28 (a0.cell 2),.t 2 (kI ↑i.2.2.2.2.2.2.1)],.t 2 (kI 3)] Z6 [y,y_5,y_6]∧∃(i_1:Bool×Nat),I1 i i_1∧R35 a0 a1 a2 (y_5=a0.cell 2∧y_6=kI ↑i_1.2∧R36 i.1 i.2.1 i.2.2.1 i.2.2.2.1 i.2.2.2.2.1 i.2.2.2.2.2.1 i.2.2.2.2.2.2.2 (T.b (eqI y.int 0)=T.b i_1.1∧True)))∧(a2.bool=false→∃(i_1:Bool×Nat),I1 i i_1∧R37 a0 a1 a2 (kI ↑i.2.2.2.2.2.2.1=kI ↑i_1.2∧R36 i.1 i.2.1 i.2.2.1 i.2.2.2.1 i.2.2.2.2.1 i.2.2.2.2.2.1 i.2.2.2.2.2.2.2 (T.b false=T.b i_1.1∧True))))∧(∀(i:Bool×Nat),true=true)∧∀(i_1:Bool×Nat),I1 i i_1→∃y y_5 y_6:T,F 80 [.box 129 2 [.t 28 (a0.cell 2),.t 2 (kI ↑i_1.2)],.t 2 (kI (pL .i64 (i.1.cell 1).int (1:Int)))] Z7 [y,y_5,y_6]∧((i_1.1=true→(∃(i_2:X14),I4 i i_1 i_2∧R35 a0 a1 a2 (y_5=a0.cell 2∧y_6=kI ↑i_2.2.1∧R36 i.1 i.2.1 i.2.2.1 i.2.2.2.1 i.2.2.2.2.1 i.2.2.2.2.2.1 i.2.2.2.2.2.2.2 (T.b i_1.1=T.b i_2.2.2.2∧y=i_2.2.2.1∧kI 0=kI ↑i_2.1∧True)))∧(∀(i:X14),true=true)∧∀(i_2:X14),I4 i i_1 i_2→(leI ↑i_2.1 ↑i.2.2.2.2.2.2.2=true→(Bd ((i.1.cell 1).int) (lenOf i_2.2.2.1.list))∧(Bd ↑i_2.1 (lenOf i_2.2.2.1.list))∧∃y:T,F 78 [.t 23 ((i_2.2.2.1.list.getD (i.1.cell 1).int.toNat T.u).part 0 3),.t 23 ((i_2.2.2.1.list.getD (↑i_2.1:Int).toNat T.u).part 0 3)] (zo 2 23) [y]∧(Bd ((i.1.cell 1).int) (lenOf i_2.2.2.1.list))∧False)∧(leI ↑i_2.1 ↑i.2.2.2.2.2.2.2=false→∃(i_3:X15),I2 i i_1 i_3∧R37 a0 a1 a2 (kI ↑i_2.2.1=kI ↑i_3.2.1∧R36 i.1 i.2.1 i.2.2.1 i.2.2.2.1 i.2.2.2.2.1 i.2.2.2.2.2.1 i.2.2.2.2.2.2.2 (T.b i_2.2.2.2=T.b i_3.1∧i_2.2.2.1=i_3.2.2∧True))))∧(i_1.1=false→∃(i_2:X15),I2 i i_1 i_2∧R35 a0 a1 a2 (y_5=a0.cell 2∧y_6=kI ↑i_2.2.1∧R36 i.1 i.2.1 i.2.2.1 i.2.2.2.1 i.2.2.2.2.1 i.2.2.2.2.2.1 i.2.2.2.2.2.2.2 (T.b i_1.1=T.b i_2.1∧y=i_2.2.2∧True))))∧(∀(i:X15),true=true)∧∀(i_2:X15),I2 i i_1 i_2→(0≤(0:Int)∧0≤(i.1.cell 1).int∧(i.1.cell 1).int≤lenOf i_2.2.2.list)∧(Rm ((List.take i.2.1.length i.2.1).length+((List.replicate 1 (T.l [])).set 0 (T.l (List.take ((i.1.cell 1).int-(0:Int)).toNat (List.drop 0 i_2.2.2.list)))).length) 24)∧(Bd ((i.1.cell 1).int) (lenOf i_2.2.2.list))∧(Rm ((List.take i.2.2.1.length i.2.2.1).length+((List.replicate 1 (T.g [T.b false,T.l [],T.l []])).set 0 ((i_2.2.2.list.getD (i.1.cell 1).int.toNat T.u).part 0 3)).length) 56)∧(Rm ((List.take i.2.2.2.2.1.length i.2.2.2.2.1).length+((List.replicate 1 (T.b false)).set 0 (T.b i_2.1)).length) 1)∧(((!i_2.1)=true→∃y y_7 y_8:T,F 80 [.box 129 2 [.t 28 (a0.cell 2),.t 2 (kI ↑i_2.2.1)],.t 2 (i.1.cell 0)] Z7 [y,y_7,y_8]∧∃(i_3:X16),I3 i i_1 i_2 i_3∧R35 a0 a1 a2 (y_7=a0.cell 2∧y_8=kI ↑i_3.2.2.2.2.2∧R39 i.1 (List.take i.2.1.length i.2.1++(List.replicate 1 (T.l [])).set 0 (T.l (List.take ((i.1.cell 1).int-(0:Int)).toNat (List.drop 0 i_2.2.2.list)))=i_3.1∧List.take i.2.2.1.length i.2.2.1++(List.replicate 1 (T.g [T.b false,T.l [],T.l []])).set 0 ((i_2.2.2.list.getD (i.1.cell 1).int.toNat T.u).part 0 3)=i_3.2.1∧i.2.2.2.1=i.2.2.2.1∧List.take i.2.2.2.2.1.length i.2.2.2.2.1++(List.replicate 1 (T.b false)).set 0 (T.b i_2.1)=i_3.2.2.1∧R38 i.2.2.2.2.2.1 i.2.2.2.2.2.2.2 (y=i_3.2.2.2.1∧T.b i_2.1=T.b i_3.2.2.2.2.1∧True))))∧((!i_2.1)=false→∃(i_3:X16),I3 i i_1 i_2 i_3∧R37 a0 a1 a2 (kI ↑i_2.2.1=kI ↑i_3.2.2.2.2.2∧R39 i.1 (List.take i.2.1.length i.2.1++(List.replicate 1 (T.l [])).set 0 (T.l (List.take ((i.1.cell 1).int-(0:Int)).toNat (List.drop 0 i_2.2.2.list)))=i_3.1∧List.take i.2.2.1.length i.2.2.1++(List.replicate 1 (T.g [T.b false,T.l [],T.l []])).set 0 ((i_2.2.2.list.getD (i.1.cell 1).int.toNat T.u).part 0 3)=i_3.2.1∧i.2.2.2.1=i.2.2.2.1∧List.take i.2.2.2.2.1.length i.2.2.2.2.1++(List.replicate 1 (T.b false)).set 0 (T.b i_2.1)=i_3.2.2.1∧R38 i.2.2.2.2.2.1 i.2.2.2.2.2.2.2 (T.l []=i_3.2.2.2.1∧T.b i_2.1=T.b i_3.2.2.2.2.1∧True)))))∧(∀(i:X16),true=true)∧∀(i_3:X16),I3 i i_1 i_2 i_3→(Rm ((List.take i.2.2.2.1.length i.2.2.2.1).length+((List.replicate 1 (T.l [])).set 0 i_3.2.2.2.1).length) 24)∧(∃(i_4:X5),I5 i i_1 i_2 i_3 i_4∧R37 a0 a1 a2 (kI ↑i_3.2.2.2.2.2=kI ↑i_4.2.1∧R41 i.1 i_3.1 i_3.2.1 (List.take i.2.2.2.1.length i.2.2.2.1++(List.replicate 1 (T.l [])).set 0 i_3.2.2.2.1=i_4.1∧R40 i_3.2.2.1 i.2.2.2.2.2.1 i.2.2.2.2.2.2.2 i_3.2.2.2.1 i_3.2.2.2.2.1 (kI ↑i.2.2.2.2.2.2.2=kI ↑i_4.2.2.1∧kI 0=kI ↑i_4.2.2.2∧True))))∧(∀(i:X5),true=true)∧∀(i_4:X5),I5 i i_1 i_2 i_3 i_4→(ltI ↑i_4.2.2.2 ↑i.2.2.2.2.2.2.2=true→∃y y_7 y_8:T,F 81 [.box 129 2 [.t 28 (a0.cell 2),.t 2 (kI ↑i_4.2.1)],.t 2 (kI 3)] Z6 [y,y_7,y_8]∧(eqI y.int 0=true→((!i_3.2.2.2.2.1)=true∧True→0≤(↑i_4.2.2.2:Int)∧(↑i_4.2.2.2:Int)<(↑i_3.2.2.1.length:Int))∧((T.ite (!i_3.2.2.2.2.1) (T.b !((i_3.2.2.1.getD (0+(↑i_4.2.2.2:Int).toNat) T.u).cell 0).bool) (T.b false)).bool=true∧True→0≤(↑i_4.2.2.2:Int)∧(↑i_4.2.2.2:Int)<(↑i_4.1.length:Int))∧∃y:T,((T.ite (!i_3.2.2.2.2.1) (T.b !((i_3.2.2.1.getD (0+(↑i_4.2.2.2:Int).toNat) T.u).cell 0).bool) (T.b false)).bool=true∧True→F 82 [.t 25 ((i_4.1.getD (0+(↑i_4.2.2.2:Int).toNat) T.u).cell 0),.t 25 i_3.2.2.2.1] (zo 2 4) [y])∧((T.ite (T.ite (!i_3.2.2.2.2.1) (T.b !((i_3.2.2.1.getD (0+(↑i_4.2.2.2:Int).toNat) T.u).cell 0).bool) (T.b false)).bool y (T.b false)).bool=true→(Bd ↑i_4.2.2.2 (↑i.2.2.2.2.2.1.length:Int))∧∃(j:X5),I5 i i_1 i_2 i_3 j∧M5 i i_1 i_2 i_3 j<M5 i i_1 i_2 i_3 i_4∧R35 a0 a1 a2 (y_7=a0.cell 2∧y_8=kI ↑j.2.1∧R41 i.1 i_3.1 i_3.2.1 (i_4.1=j.1∧R40 i_3.2.2.1 i.2.2.2.2.2.1 i.2.2.2.2.2.2.2 i_3.2.2.2.1 i_3.2.2.2.2.1 ((i.2.2.2.2.2.1.getD (0+(↑i_4.2.2.2:Int).toNat) T.u).cell 0=kI ↑j.2.2.1∧kI (pL .i64 ↑i_4.2.2.2 1)=kI ↑j.2.2.2∧True))))∧((T.ite (T.ite (!i_3.2.2.2.2.1) (T.b !((i_3.2.2.1.getD (0+(↑i_4.2.2.2:Int).toNat) T.u).cell 0).bool) (T.b false)).bool y (T.b false)).bool=false→∃(j:X5),I5 i i_1 i_2 i_3 j∧M5 i i_1 i_2 i_3 j<M5 i i_1 i_2 i_3 i_4∧R35 a0 a1 a2 (y_7=a0.cell 2∧y_8=kI ↑j.2.1∧R41 i.1 i_3.1 i_3.2.1 (i_4.1=j.1∧R40 i_3.2.2.1 i.2.2.2.2.2.1 i.2.2.2.2.2.2.2 i_3.2.2.2.1 i_3.2.2.2.2.1 (kI ↑i_4.2.2.1=kI ↑j.2.2.1∧kI (pL .i64 ↑i_4.2.2.2 1)=kI ↑j.2.2.2∧True)))))∧(eqI y.int 0=false→(Rm ((List.take i.2.2.2.2.2.1.length i.2.2.2.2.2.1).length+((List.replicate 1 (kI 0)).set 0 (kI ↑i_4.2.2.1)).length) 8)∧∃(j:X13),I0 j∧M0 j<M0 i∧R35 a0 a1 a2 (y_7=a0.cell 2∧y_8=kI ↑j.2.2.2.2.2.2.1∧True∧True∧E6 i.1 j.1 (i_3.1=j.2.1∧i_3.2.1=j.2.2.1∧i_4.1=j.2.2.2.1∧i_3.2.2.1=j.2.2.2.2.1∧List.take i.2.2.2.2.2.1.length i.2.2.2.2.2.1++(List.replicate 1 (kI 0)).set 0 (kI ↑i_4.2.2.1)=j.2.2.2.2.2.1∧kI (pL .i64 ↑i.2.2.2.2.2.2.2 1)=kI ↑j.2.2.2.2.2.2.2∧True))))∧(ltI ↑i_4.2.2.2 ↑i.2.2.2.2.2.2.2=false→(false=true→((!i_3.2.2.2.2.1)=true∧True→0≤(↑i_4.2.2.2:Int)∧(↑i_4.2.2.2:Int)<(↑i_3.2.2.1.length:Int))∧((T.ite (!i_3.2.2.2.2.1) (T.b !((i_3.2.2.1.getD (0+(↑i_4.2.2.2:Int).toNat) T.u).cell 0).bool) (T.b false)).bool=true∧True→0≤(↑i_4.2.2.2:Int)∧(↑i_4.2.2.2:Int)<(↑i_4.1.length:Int))∧∃y:T,((T.ite (!i_3.2.2.2.2.1) (T.b !((i_3.2.2.1.getD (0+(↑i_4.2.2.2:Int).toNat) T.u).cell 0).bool) (T.b false)).bool=true∧True→F 82 [.t 25 ((i_4.1.getD (0+(↑i_4.2.2.2:Int).toNat) T.u).cell 0),.t 25 i_3.2.2.2.1] (zo 2 4) [y])∧((T.ite (T.ite (!i_3.2.2.2.2.1) (T.b !((i_3.2.2.1.getD (0+(↑i_4.2.2.2:Int).toNat) T.u).cell 0).bool) (T.b false)).bool y (T.b false)).bool=true→(Bd ↑i_4.2.2.2 (↑i.2.2.2.2.2.1.length:Int))∧∃(j:X5),I5 i i_1 i_2 i_3 j∧M5 i i_1 i_2 i_3 j<M5 i i_1 i_2 i_3 i_4∧R37 a0 a1 a2 (kI ↑i_4.2.1=kI ↑j.2.1∧R41 i.1 i_3.1 i_3.2.1 (i_4.1=j.1∧R40 i_3.2.2.1 i.2.2.2.2.2.1 i.2.2.2.2.2.2.2 i_3.2.2.2.1 i_3.2.2.2.2.1 ((i.2.2.2.2.2.1.getD (0+(↑i_4.2.2.2:Int).toNat) T.u).cell 0=kI ↑j.2.2.1∧kI (pL .i64 ↑i_4.2.2.2 1)=kI ↑j.2.2.2∧True))))∧((T.ite (T.ite (!i_3.2.2.2.2.1) (T.b !((i_3.2.2.1.getD (0+(↑i_4.2.2.2:Int).toNat) T.u).cell 0).bool) (T.b false)).bool y (T.b false)).bool=false→∃(j:X5),I5 i i_1 i_2 i_3 j∧M5 i i_1 i_2 i_3 j<M5 i i_1 i_2 i_3 i_4∧R37 a0 a1 a2 (kI ↑i_4.2.1=kI ↑j.2.1∧R41 i.1 i_3.1 i_3.2.1 (i_4.1=j.1∧R40 i_3.2.2.1 i.2.2.2.2.2.1 i.2.2.2.2.2.2.2 i_3.2.2.2.1 i_3.2.2.2.2.1 (kI ↑i_4.2.2.1=kI ↑j.2.2.1∧kI (pL .i64 ↑i_4.2.2.2 1)=kI ↑j.2.2.2∧True)))))∧(false=false→(Rm ((List.take i.2.2.2.2.2.1.length i.2.2.2.2.2.1).length+((List.replicate 1 (kI 0)).set 0 (kI ↑i_4.2.2.1)).length) 8)∧∃(j:X13),I0 j∧M0 j<M0 i∧R37 a0 a1 a2 (kI ↑i_4.2.1=kI ↑j.2.2.2.2.2.2.1∧True∧True∧E6 i.1 j.1 (i_3.1=j.2.1∧i_3.2.1=j.2.2.1∧i_4.1=j.2.2.2.1∧i_3.2.2.1=j.2.2.2.2.1∧List.take i.2.2.2.2.2.1.length i.2.2.2.2.2.1++(List.replicate 1 (kI 0)).set 0 (kI ↑i_4.2.2.1)=j.2.2.2.2.2.1∧kI (pL .i64 ↑i.2.2.2.2.2.2.2 1)=kI ↑j.2.2.2.2.2.2.2∧True)))))∧(ltI ↑i.2.2.2.2.2.2.2 (i.1.cell 1).int=false→True∧T.g [i.1.cell 0,i.1.cell 1,i.1.cell 2,i.1.cell 3,i.1.cell 4,i.1.cell 5,T.l i.2.1,T.l i.2.2.1,T.l i.2.2.2.1,T.l i.2.2.2.2.1,T.l i.2.2.2.2.2.1]=y0∧True)):F 43 [.t 49 a0,.t 2 a1,.t 4 a2] (zo 3 29) [y0] :=
 p7 C43 (by kernel_rfl) Tryz.func43 (by kernel_rfl) (.two .no (.two .no (.two .no (.two .no (.two .no (.two (.two .no (.lp (fun (ia:X13)=>[(pp 0,AV.t 49 a0),(pp 1,AV.t 2 a1),(pp 2,AV.t 4 a2),(pp 3,AV.box 49 0 3)]++bxS 3 a0 0 Y6++[(pp 6,AV.box 29 0 11),(cell 6 0,AV.t 2 (T.i IntKind.i64 (0:Int))),(cell 6 1,AV.t 2 (T.i IntKind.i64 (0:Int))),(cell 6 2,AV.t 4 (T.b false)),(cell 6 3,AV.t 22 (T.l [])),(cell 6 4,AV.t 22 (T.l [])),(cell 6 5,AV.t 25 (T.l [])),(cell 6 6,AV.t 26 (T.l [])),(cell 6 7,AV.t 25 (T.l [])),(cell 6 8,AV.t 26 (T.l [])),(cell 6 9,AV.t 27 (T.l [])),(cell 6 10,AV.t 28 (T.l [])),(pp 20,AV.box 129 0 2),(cell 20 0,.t 28 (a0.cell 2)),(cell 20 1,.t 2 (.i .i64 (ia.2.2.2.2.2.2.1:Int))),(pp 7,AV.ptr 20 0 0),(pp 8,AV.box 29 0 11)]++bxS 8 ia.1 0 Y7++[(cell 8 6,.own 26 0 ia.2.1),(cell 8 7,.own 25 0 ia.2.2.1),(cell 8 8,.own 26 0 ia.2.2.2.1),(cell 8 9,.own 27 0 ia.2.2.2.2.1),(cell 8 10,.own 28 0 ia.2.2.2.2.2.1),(pp 10,.t 2 (.i .i64 (ia.2.2.2.2.2.2.2:Int)))]) I0 M0 (fun (ia:X13)=>(.two .no (.two (.cut (fun (ib:Bool×Nat)=>[(pp 0,AV.t 49 a0),(pp 1,AV.t 2 a1),(pp 2,AV.t 4 a2),(pp 3,AV.box 49 0 3)]++bxS 3 a0 0 Y6++[(pp 6,AV.box 29 0 11),(cell 6 0,AV.t 2 (T.i IntKind.i64 (0:Int))),(cell 6 1,AV.t 2 (T.i IntKind.i64 (0:Int))),(cell 6 2,AV.t 4 (T.b false)),(cell 6 3,AV.t 22 (T.l [])),(cell 6 4,AV.t 22 (T.l [])),(cell 6 5,AV.t 25 (T.l [])),(cell 6 6,AV.t 26 (T.l [])),(cell 6 7,AV.t 25 (T.l [])),(cell 6 8,AV.t 26 (T.l [])),(cell 6 9,AV.t 27 (T.l [])),(cell 6 10,AV.t 28 (T.l [])),(pp 20,AV.box 129 0 2),(cell 20 0,.t 28 (a0.cell 2)),(cell 20 1,.t 2 (.i .i64 (ib.2:Int))),(pp 7,AV.ptr 20 0 0),(pp 8,AV.box 29 0 11)]++bxS 8 ia.1 0 Y7++[(cell 8 6,.own 26 0 ia.2.1),(cell 8 7,.own 25 0 ia.2.2.1),(cell 8 8,.own 26 0 ia.2.2.2.1),(cell 8 9,.own 27 0 ia.2.2.2.2.1),(cell 8 10,.own 28 0 ia.2.2.2.2.2.1),(pp 10,.t 2 (.i .i64 (ia.2.2.2.2.2.2.2:Int))),(pp 11,.t 4 (.b ib.1))]) (I1 ia) .no (fun (ib:Bool×Nat)=>(.two .no (.cut (fun (ic:X15)=>[(pp 0,AV.t 49 a0),(pp 1,AV.t 2 a1),(pp 2,AV.t 4 a2),(pp 3,AV.box 49 0 3)]++bxS 3 a0 0 Y6++[(pp 6,AV.box 29 0 11),(cell 6 0,AV.t 2 (T.i IntKind.i64 (0:Int))),(cell 6 1,AV.t 2 (T.i IntKind.i64 (0:Int))),(cell 6 2,AV.t 4 (T.b false)),(cell 6 3,AV.t 22 (T.l [])),(cell 6 4,AV.t 22 (T.l [])),(cell 6 5,AV.t 25 (T.l [])),(cell 6 6,AV.t 26 (T.l [])),(cell 6 7,AV.t 25 (T.l [])),(cell 6 8,AV.t 26 (T.l [])),(cell 6 9,AV.t 27 (T.l [])),(cell 6 10,AV.t 28 (T.l [])),(pp 20,AV.box 129 0 2),(cell 20 0,.t 28 (a0.cell 2)),(cell 20 1,.t 2 (.i .i64 (ic.2.1:Int))),(pp 7,AV.ptr 20 0 0),(pp 8,AV.box 29 0 11)]++bxS 8 ia.1 0 Y7++[(cell 8 6,.own 26 0 ia.2.1),(cell 8 7,.own 25 0 ia.2.2.1),(cell 8 8,.own 26 0 ia.2.2.2.1),(cell 8 9,.own 27 0 ia.2.2.2.2.1),(cell 8 10,.own 28 0 ia.2.2.2.2.2.1),(pp 10,.t 2 (.i .i64 (ia.2.2.2.2.2.2.2:Int))),(pp 11,.t 4 (.b ic.1)),(pp 12,.t 25 ic.2.2)]) (I2 ia ib) (.two .no (.two (.two .no (.lp (fun (ie:X14)=>[(pp 0,AV.t 49 a0),(pp 1,AV.t 2 a1),(pp 2,AV.t 4 a2),(pp 3,AV.box 49 0 3)]++bxS 3 a0 0 Y6++[(pp 6,AV.box 29 0 11),(cell 6 0,AV.t 2 (T.i IntKind.i64 (0:Int))),(cell 6 1,AV.t 2 (T.i IntKind.i64 (0:Int))),(cell 6 2,AV.t 4 (T.b false)),(cell 6 3,AV.t 22 (T.l [])),(cell 6 4,AV.t 22 (T.l [])),(cell 6 5,AV.t 25 (T.l [])),(cell 6 6,AV.t 26 (T.l [])),(cell 6 7,AV.t 25 (T.l [])),(cell 6 8,AV.t 26 (T.l [])),(cell 6 9,AV.t 27 (T.l [])),(cell 6 10,AV.t 28 (T.l [])),(pp 20,AV.box 129 0 2),(cell 20 0,.t 28 (a0.cell 2)),(cell 20 1,.t 2 (.i .i64 (ie.2.1:Int))),(pp 7,AV.ptr 20 0 0),(pp 8,AV.box 29 0 11)]++bxS 8 ia.1 0 Y7++[(cell 8 6,AV.own 26 0 ia.2.1),(cell 8 7,AV.own 25 0 ia.2.2.1),(cell 8 8,AV.own 26 0 ia.2.2.2.1),(cell 8 9,AV.own 27 0 ia.2.2.2.2.1),(cell 8 10,AV.own 28 0 ia.2.2.2.2.2.1),(pp 10,AV.t 2 (T.i IntKind.i64 (↑ia.2.2.2.2.2.2.2:Int))),(pp 11,.t 4 (.b ie.2.2.2)),(pp 12,.t 25 ie.2.2.1),(pp 13,.t 2 (.i .i64 (ie.1:Int)))]) (I4 ia ib) (M4 ia ib) (fun _=>.no))) .no)) (fun (ic:X15)=>(.two .no (.two .no (.cut (fun (id:X16)=>[(pp 0,AV.t 49 a0),(pp 1,AV.t 2 a1),(pp 2,AV.t 4 a2),(pp 3,AV.box 49 0 3)]++bxS 3 a0 0 Y6++[(pp 6,AV.box 29 0 11),(cell 6 0,AV.t 2 (T.i IntKind.i64 (0:Int))),(cell 6 1,AV.t 2 (T.i IntKind.i64 (0:Int))),(cell 6 2,AV.t 4 (T.b false)),(cell 6 3,AV.t 22 (T.l [])),(cell 6 4,AV.t 22 (T.l [])),(cell 6 5,AV.t 25 (T.l [])),(cell 6 6,AV.t 26 (T.l [])),(cell 6 7,AV.t 25 (T.l [])),(cell 6 8,AV.t 26 (T.l [])),(cell 6 9,AV.t 27 (T.l [])),(cell 6 10,AV.t 28 (T.l [])),(pp 20,AV.box 129 0 2),(cell 20 0,.t 28 (a0.cell 2)),(cell 20 1,.t 2 (.i .i64 (id.2.2.2.2.2:Int))),(pp 7,AV.ptr 20 0 0),(pp 8,AV.box 29 0 11)]++bxS 8 ia.1 0 Y7++[(cell 8 6,.own 26 0 id.1),(cell 8 7,.own 25 0 id.2.1),(cell 8 8,.own 26 0 ia.2.2.2.1),(cell 8 9,.own 27 0 id.2.2.1),(cell 8 10,.own 28 0 ia.2.2.2.2.2.1),(pp 10,.t 2 (.i .i64 (ia.2.2.2.2.2.2.2:Int))),(pp 14,.t 25 id.2.2.2.1),(pp 11,.t 4 (.b id.2.2.2.2.1))]) (I3 ia ib ic) .no (fun (id:X16)=>(.two .no (.two .no (.two (.two .no (.lp (fun (ig:X5)=>[(pp 0,AV.t 49 a0),(pp 1,AV.t 2 a1),(pp 2,AV.t 4 a2),(pp 3,AV.box 49 0 3)]++bxS 3 a0 0 Y6++[(pp 6,AV.box 29 0 11),(cell 6 0,AV.t 2 (T.i IntKind.i64 (0:Int))),(cell 6 1,AV.t 2 (T.i IntKind.i64 (0:Int))),(cell 6 2,AV.t 4 (T.b false)),(cell 6 3,AV.t 22 (T.l [])),(cell 6 4,AV.t 22 (T.l [])),(cell 6 5,AV.t 25 (T.l [])),(cell 6 6,AV.t 26 (T.l [])),(cell 6 7,AV.t 25 (T.l [])),(cell 6 8,AV.t 26 (T.l [])),(cell 6 9,AV.t 27 (T.l [])),(cell 6 10,AV.t 28 (T.l [])),(pp 20,AV.box 129 0 2),(cell 20 0,AV.t 28 (a0.cell 2)),(cell 20 1,.t 2 (.i .i64 (ig.2.1:Int))),(pp 7,AV.ptr 20 0 0),(pp 8,AV.box 29 0 11)]++bxS 8 ia.1 0 Y7++[(cell 8 6,AV.own 26 0 id.1),(cell 8 7,AV.own 25 0 id.2.1),(cell 8 8,.own 26 0 ig.1),(cell 8 9,AV.own 27 0 id.2.2.1),(cell 8 10,AV.own 28 0 ia.2.2.2.2.2.1),(pp 10,AV.t 2 (T.i IntKind.i64 (↑ia.2.2.2.2.2.2.2:Int))),(pp 14,AV.t 25 id.2.2.2.1),(pp 11,AV.t 4 (T.b id.2.2.2.2.1)),(pp 15,.t 2 (.i .i64 (ig.2.2.1:Int))),(pp 16,.t 2 (.i .i64 (ig.2.2.2:Int)))]) (I5 ia ib ic id) (M5 ia ib ic id) (fun _=>.no))) .no)))))))))))) .no))))) .no)))))) (by kernel_rfl) h
end Go.Pq
namespace Go.Pl
theorem MS (x:Int) {m:Nat} (hm:0<m):(uA x (m:Int)<0→uA x (m:Int)+(m:Int)=(within x m:Int))∧(¬ uA x (m:Int)<0→uA x (m:Int)=(within x m:Int)):=by
 have e:uA x (m:Int)=x.tmod (m:Int):=rfl;have h1:=YR x (show (m:Int)≠0 by omega);have h2:=Zc x (show (0:Int)<(m:Int) by omega)
 have hw:(within x m:Int)=x%(m:Int):=by unfold within;omega
 rw [e,hw];have h3:=Int.tmod_eq_emod (a:=x) (b:=(m:Int));have h4:((m:Int).natAbs:Int)=(m:Int):=by omega
 constructor
 ·intro h
  rw [h3] at h ⊢;split at h
  ·omega
  ·rename_i q;rw [WZ q];omega
 ·intro h
  rw [h3] at h ⊢;split at h
  ·rename_i q;rw [WY q];omega
  ·rename_i q
   rw [WZ q];omega
end Go.Pl
namespace Go.Pq
open Go.Pl Go.Proofs
theorem Br (x:Int) {m:Nat} (hm:0<m∧m≤2 ^ 40):F 19 [.t 2 (.i .i64 x),.t 2 (.i .i64 (m:Int))] (zo 2 2) [.i .i64 (within x m:Int)]:=by
 obtain ⟨h1,h2⟩:=MS x hm.1;have hw:=rK x hm.1;refine Sw _ _ _ ⟨fun q=>?_,fun _=>⟨?_,fun q=>?_,fun q=>?_⟩⟩
 ·rw [pC,pw] at q;omega
 ·rw [pC];omega
 ·rw [pC,pC,pw] at q
  have:=h1 q
  rw [pC,pC,pt (by omega),this];exact ⟨a_,rfl,a_⟩
 ·rw [pC,pC,pF] at q
  rw [pC,pC,h2 (by omega)];exact ⟨a_,rfl,a_⟩
theorem yj (x:Int) {m:Nat} (hm:0<m∧m≤2 ^ 20):F 19 [.t 2 (.i .i64 x),.t 2 (.i .i64 (m:Int))] (zo 2 2) [.i .i64 (within x m:Int)]:=Br x ⟨hm.1,by omega⟩
theorem Kw (L:List Int) (a:Nat) {n:Nat} (hn:0<n∧n≤2 ^ 20) (ha:a≤L.length) (hL:L.length≤9223372036854775807) :
  F 81 [.box 129 2 [.t 28 (qw L),.t 2 (.i .i64 (a:Int))],.t 2 (.i .i64 (n:Int))] Z6 [.i .i64 ((sN L a n).1:Int),qw L,.i .i64 ((sN L a n).2:Int)]:=by
 refine S5 _ _ _ _ _ _ ?_;rw [rH,pC];unfold sN;refine ⟨fun q=>?_,fun q=>?_⟩
 ·rw [rD] at q
  rw [WY (by omega)];exact ⟨⟨a_,a_⟩,rfl,rfl,rfl,a_⟩
 ·rw [tH] at q
  rw [WZ (by omega),pt (by omega),qm (by omega),show ((a:Int)+1-1)=(a:Int) from by omega,wA L (by omega),r9];exact ⟨⟨by omega,by omega⟩,_,yj _ hn,⟨a_,a_⟩,rfl,rfl,rfl,a_⟩
theorem Ub (w:List Int) {y n:Nat} (hy:0<y∧y≤2 ^ 20) (hn:n≤1000) :
  F 20 [.t 28 (qw w),.t 2 (.i .i64 (y:Int)),.t 2 (.i .i64 (n:Int))] (zo 3 28) [qH ((w.take n).map fun x=>1+within x y)]:=by
 have C_:room=140737488355328:=rfl;refine Sx _ _ _ _ (fun i=>i.1=ry ((w.take i.2).map fun x=>1+within x y)∧i.2≤w.length∧i.2≤n) (fun i=>w.length-i.2) ?_;rw [rH,pC];refine ⟨⟨([],0),⟨rfl,WS _,WS _⟩,(by and_intros<;>first | exact trivial | rfl | (rw [pt (by omega)];rfl))⟩,fun _=>rfl,?_⟩;rintro ⟨l,k⟩ ⟨hl,hk,eH⟩;dsimp only at hl hk eH ⊢;subst hl;rw [tM];refine ⟨fun q=>?_,fun q=>?_⟩
 ·rw [XG,pw,pw] at q
  have b_:k<w.length:=by omega
  have hw:=rK (w.getD k 0) hy.1;rw [wA w b_,r9];have l1:(List.take (ry ((w.take k).map fun x=>1+within x y)).length (ry ((w.take k).map fun x=>1+within x y))).length=k:=by
   rw [pQ,qX,Xk,Xg];omega
  refine ⟨⟨by omega,by omega⟩,_,yj _ hy,⟨by rw [l1];show (k+1)*8≤room;omega,by rw [l1];show k+1≤_;omega⟩,(ry ((w.take (k+1)).map fun x=>1+within x y),k+1),⟨rfl,b_,by dsimp only;omega⟩,by dsimp only;omega,?_⟩;have e:List.take (ry ((w.take k).map fun x=>1+within x y)).length (ry ((w.take k).map fun x=>1+within x y))++(List.replicate 1 (T.i .i64 0)).set 0 (T.i .i64 (pL .i64 1 (T.i .i64 (within (w.getD k 0) y:Int)).int))=ry ((w.take (k+1)).map fun x=>1+within x y):=by
   rw [pQ,W9 b_,XY,←vk,pC,pt (by omega)]
   have:w[k]=w.getD k 0:=by rw [WM,WL b_];rfl
   rw [this];have e2:((1:Int)+(within (w.getD k 0) y:Int))=((1+within (w.getD k 0) y:Nat):Int):=by omega
   rw [e2];rfl
  rw [e];exact (by and_intros<;>first | exact trivial | rfl | (rw [pt (by omega)];rfl))
 ·have cJ:w.take k=w.take n:=by
   by_cases g:k<w.length
   ·by_cases g2:k<n
    ·rw [pw.2 (by omega),pw.2 (by omega)] at q;cases q
    ·rw [show k=n from by omega]
   ·rw [WX (by omega),WX (by omega)]
  rw [cJ,Xc,pQ];exact ⟨a_,rfl,a_⟩
theorem Rc (a b:List Rat) (ha:a.length≤2 ^ 40) (hb:b.length≤2 ^ 40) (h1:∀q∈a,rl q≤2 ^ 30) (h2:∀q∈b,rl q≤2 ^ 30):F 82 [.t 25 (pO a),.t 25 (pO b)] (zo 2 4) [.b (decide (a=b))]:=by
 refine S6 _ _ _ (fun k=>k≤a.length∧a.take k=b.take k) (fun k=>a.length-k) ?_;rw [qj,qj];refine ⟨fun q=>?_,fun q=>⟨⟨0,⟨WS _,rfl⟩,(by and_intros<;>first | exact trivial | rfl | (rw [pt (by omega)];rfl))⟩,fun _=>rfl,?_⟩⟩
 ·rw [rr] at q
  rw [Xh (fun e=>q (by rw [e]))];exact ⟨a_,rfl,a_⟩
 ·rw [sq] at q
  rintro k ⟨hk,he⟩;refine ⟨fun g=>?_,fun g=>?_⟩
  ·rw [pw] at g
   have dm:k<a.length:=by omega
   have cX:k<b.length:=by omega
   rw [sQ a dm,sQ b cX,qu,qu];refine ⟨⟨by omega,by omega⟩,⟨by omega,by omega⟩,_,EP _ _ (h1 _ (pN dm)) (h2 _ (pN cX)),fun w=>?_,fun w=>?_⟩
   ·rw [pC,rr] at w
    rw [Xh (fun e=>w (vS.2 (by rw [e])))];exact ⟨a_,rfl,a_⟩
   ·rw [pC,sq,vS] at w
    refine ⟨k+1,⟨dm,?_⟩,by omega,(by and_intros<;>first | exact trivial | rfl | (rw [pt (by omega)];rfl))⟩;rw [W9 dm,W9 cX,he];rw [WM,WM,WL dm,WL cX] at w;simp only [XF] at w;rw [w]
  ·rw [pF] at g
   rw [WX (by omega),WX (by omega)] at he;rw [Xq he];exact ⟨a_,rfl,a_⟩
theorem C0 (L:List Int) (a:Nat) {n:Nat} (hn:0<n∧n≤1000) (ha:a≤L.length) (hL:L.length≤9223372036854775807) :
  F 80 [.box 129 2 [.t 28 (qw L),.t 2 (.i .i64 (a:Int))],.t 2 (.i .i64 (n:Int))] Z7 [pO (pR L a n).1,qw L,.i .i64 ((pR L a n).2:Int)]:=by
 have C_:room=140737488355328:=rfl;obtain ⟨x1,x2,x3,x4⟩:=J7 L ha hn.1;refine S4 _ _ _ _ _ _
  (fun i=>i.1=ry (pX L a i.2.2.2).1∧i.2.1=(pX L a i.2.2.2).2∧i.2.2.1=(pX L a i.2.2.2).1.sum∧i.2.2.2≤n)
  (fun i=>n-i.2.2.2)
  (fun i=>i.1=ry (tL L a n).1∧i.2.1=tI ((rv (tL L a n).1).take i.2.2.2.2)∧i.2.2.1=(tL L a n).2∧i.2.2.2.1=(tL L a n).1.sum∧i.2.2.2.2≤n)
  (fun i=>n-i.2.2.2.2) ?_
 rw [pC];refine ⟨⟨([],a,0,0),⟨rfl,rfl,rfl,WS _⟩,(by and_intros<;>first | exact trivial | rfl | (rw [pt (by omega)];rfl))⟩,fun _=>rfl,?_⟩;rintro ⟨l,p,s,k⟩ ⟨hl,hp,hs,hk⟩;dsimp only at hl hp hs hk ⊢;subst hl hp hs;obtain ⟨p1,p2,p3⟩:=D5 L ha k;have aK:=Ox 2 p3;rw [p2] at aK;have second:∀(l2:List T) (p2 s2:Nat),l2=ry (tL L a n).1→p2=(tL L a n).2→s2=(tL L a n).1.sum→True:=fun _ _ _ _ _ _=>trivial;refine ⟨fun q=>?_,fun q=>?_⟩
 ·rw [pw] at q
  have eH:k<n:=by omega
  have nx:=Kw L (pX L a k).2 (n:=4) (by decide) p1 hL;have nlt:=GB L (pX L a k).2 (show 0<4 by decide);have l1:(List.take (ry (pX L a k).1).length (ry (pX L a k).1)).length=k:=by rw [pQ,qX,p2]
  have es:∀v:Nat,v=D3 (sN L (pX L a k).2 4).1→List.take (ry (pX L a k).1).length (ry (pX L a k).1)++(List.replicate 1 (T.i .i64 0)).set 0 (T.i .i64 (v:Int))=ry (pX L a (k+1)).1:=by
   intro v hv;rw [pQ]
   show ry (pX L a k).1++ry [v]=ry ((pX L a k).1++[_])
   rw [vk,hv]
  have esum:∀v:Nat,v=D3 (sN L (pX L a k).2 4).1→(pX L a (k+1)).1.sum=(pX L a k).1.sum+v:=by
   intro v hv
   show ((pX L a k).1++[_]).sum=_
   rw [List.sum_append,hv];simp
  refine ⟨_,_,_,nx,fun w=>?_,fun w=>?_⟩
  ·rw [pC,qe] at w
   have hv:(0:Nat)=D3 (sN L (pX L a k).2 4).1:=by unfold D3;rw [WY (by omega)]
   refine ⟨⟨by rw [l1];show (k+1)*8≤room;omega,by rw [l1];show k+1≤_;omega⟩,(ry (pX L a (k+1)).1,(pX L a (k+1)).2,(pX L a (k+1)).1.sum,k+1),⟨rfl,rfl,rfl,eH⟩,by dsimp only;omega,?_⟩;have e1:=es 0 hv;have e2:=esum 0 hv;have e1:_=_:=e1;refine ⟨a_,rfl,rfl,rfl,rfl,e1,?_,?_,a_⟩
   ·dsimp only;rw [e2,pt (by omega)];rfl
   ·dsimp only;rw [pt (by omega)];rfl
  ·rw [pC,rk] at w
   have hv:(sN L (pX L a k).2 4).1=D3 (sN L (pX L a k).2 4).1:=by unfold D3;rw [WZ (by omega)]
   refine ⟨⟨by rw [l1];show (k+1)*8≤room;omega,by rw [l1];show k+1≤_;omega⟩,(ry (pX L a (k+1)).1,(pX L a (k+1)).2,(pX L a (k+1)).1.sum,k+1),⟨rfl,rfl,rfl,eH⟩,by dsimp only;omega,?_⟩;have e1:=es _ hv;have e2:=esum _ hv;refine ⟨a_,rfl,rfl,rfl,rfl,e1,?_,?_,a_⟩
   ·dsimp only;rw [e2,pC,pt (by omega)];rfl
   ·dsimp only;rw [pt (by omega)];rfl
 ·rw [pF] at q
  have eH:k=n:=by omega
  subst eH;have loop:∀(i:List T×List T×Nat×Nat×Nat),(i.1=ry (tL L a k).1∧i.2.1=tI ((rv (tL L a k).1).take i.2.2.2.2)∧i.2.2.1=(tL L a k).2∧i.2.2.2.1=(tL L a k).1.sum∧i.2.2.2.2≤k)→i.2.2.2.2<k →
    ((0:Int)≤(i.2.2.2.2:Int)∧(i.2.2.2.2:Int)<(i.1.length:Int))∧F 55 [.t 2 ((i.1.getD (0+((i.2.2.2.2:Nat):Int).toNat) T.u).cell 0),.t 2 (T.i .i64 (i.2.2.2.1:Int))] Z1 [qr ((rv (tL L a k).1).getD i.2.2.2.2 0),.i .i64 0]:=by
   rintro ⟨l,r,p,s,m⟩ ⟨h1,h2,h3,h4,h5⟩ hm;dsimp only at h1 h2 h3 h4 h5 hm ⊢;subst h1 h4;refine ⟨⟨by omega,by rw [qX,x2];omega⟩,?_⟩;rw [WV,WP,xM _ (by omega),r9];have hx:=BW (pN (d:=0) (show m<(tL L a k).1.length by omega))
   have:=Fm ((tL L a k).1.getD m 0:Int) ((tL L a k).1.sum:Int) (by omega) (by omega) (by omega)
   have e:(rv (tL L a k).1).getD m 0=mkQ ((tL L a k).1.getD m 0:Int) ((tL L a k).1.sum:Int):=by
    unfold rv;rw [WM,Xs,WM,WL (by omega)];rfl
   rw [e];exact this
  have slen:(rv (tL L a k).1).length=k:=by unfold rv;rw [Xk];exact x2
  have step:∀m,m<k→List.take (tI ((rv (tL L a k).1).take m)).length (tI ((rv (tL L a k).1).take m))++[qr ((rv (tL L a k).1).getD m 0)]=tI ((rv (tL L a k).1).take (m+1))∧(List.take (tI ((rv (tL L a k).1).take m)).length (tI ((rv (tL L a k).1).take m))).length=m:=by
   intro m hm;rw [pQ];refine ⟨?_,by rw [wK,Xg];omega⟩;rw [W9 (by omega),←A4,WM,WL (by omega)];rfl
  refine ⟨fun w=>?_,fun w=>?_⟩
  ·rw [qe] at w
   have hz:(pX L a k).1.sum=0:=by omega
   have ef:tL L a k=((pX L a k).1.set (within ((sN L (pX L a k).2 100).1:Int) k) 1,(sN L (pX L a k).2 100).2):=by unfold tL;rw [WY hz]
   have es1:(tL L a k).1.sum=1:=by
    rw [ef];exact Lq (by have:=rK ((sN L (pX L a k).2 100).1:Int) hn.1;omega) (Ha hz)
   have js:=rK ((sN L (pX L a k).2 100).1:Int) hn.1;refine ⟨_,_,_,Kw L (pX L a k).2 (n:=100) (by decide) p1 hL,_,yj _ ⟨hn.1,by omega⟩,⟨by rw [pC];omega,by rw [pC,qX,p2];omega⟩,
    ⟨(ry (tL L a k).1,[],(tL L a k).2,1,0),⟨rfl,rfl,rfl,es1.symm,WS _⟩,?_⟩,fun _=>rfl,?_⟩
   ·have e3:(ry (pX L a k).1).set (0+(T.i .i64 (within ((sN L (pX L a k).2 100).1:Int) k:Int)).int.toNat) (T.i .i64 1)=ry (tL L a k).1:=by
     rw [ef,WV,pC,WP]
     show _=ry ((pX L a k).1.set _ 1)
     simp [ry,Zg]
    rw [e3,ef];exact (by and_intros<;>first | exact trivial | rfl | (rw [pt (by omega)];rfl))
   ·intro i hi
    have hl:=loop i hi;obtain ⟨l,r,p,s,m⟩:=i;obtain ⟨h1,h2,h3,h4,h5⟩:=hi;dsimp only at h1 h2 h3 h4 h5 hl ⊢;refine ⟨fun g=>?_,fun g=>?_⟩
    ·rw [pw] at g
     obtain ⟨g1,g2⟩:=hl (by omega);obtain ⟨t1,t2⟩:=step m (by omega);subst h1 h2 h3 h4;refine ⟨g1,_,_,g2,⟨by rw [t2];show (m+1)*56≤room;omega,by rw [t2];show m+1≤_;omega⟩,(ry (tL L a k).1,tI ((rv (tL L a k).1).take (m+1)),(tL L a k).2,(tL L a k).1.sum,m+1),⟨rfl,rfl,rfl,rfl,by dsimp only;omega⟩,by dsimp only;omega,?_⟩;rw [←t1];exact (by and_intros<;>first | exact trivial | rfl | (rw [pt (by omega)];rfl))
    ·rw [pF] at g
     have:m=k:=by omega
     subst this;rw [WX (by omega)] at h2;subst h2 h3;rw [Xc,pQ];exact ⟨⟨a_,a_⟩,rfl,rfl,rfl,a_⟩
  ·rw [rk] at w
   have hz:¬ (pX L a k).1.sum=0:=by omega
   have ef:tL L a k=pX L a k:=by unfold tL;rw [WZ hz]
   refine ⟨⟨(ry (tL L a k).1,[],(tL L a k).2,(tL L a k).1.sum,0),⟨rfl,rfl,rfl,rfl,WS _⟩,?_⟩,fun _=>rfl,?_⟩
   ·rw [ef]
    exact (by and_intros<;>first | exact trivial | rfl | (rw [pt (by omega)];rfl))
   ·intro i hi
    have hl:=loop i hi;obtain ⟨l,r,p,s,m⟩:=i;obtain ⟨h1,h2,h3,h4,h5⟩:=hi;dsimp only at h1 h2 h3 h4 h5 hl ⊢;refine ⟨fun g=>?_,fun g=>?_⟩
    ·rw [pw] at g
     obtain ⟨g1,g2⟩:=hl (by omega);obtain ⟨t1,t2⟩:=step m (by omega);subst h1 h2 h3 h4;refine ⟨g1,_,_,g2,⟨by rw [t2];show (m+1)*56≤room;omega,by rw [t2];show m+1≤_;omega⟩,(ry (tL L a k).1,tI ((rv (tL L a k).1).take (m+1)),(tL L a k).2,(tL L a k).1.sum,m+1),⟨rfl,rfl,rfl,rfl,by dsimp only;omega⟩,by dsimp only;omega,?_⟩;rw [←t1];exact (by and_intros<;>first | exact trivial | rfl | (rw [pt (by omega)];rfl))
    ·rw [pF] at g
     have:m=k:=by omega
     subst this;rw [WX (by omega)] at h2;subst h2 h3;rw [Xc,pQ];exact ⟨⟨a_,a_⟩,rfl,rfl,rfl,a_⟩
end Go.Pq
namespace Go.Pl
def chT (S Y:Int) (L:List Int):T:=.g [.i .i64 S,.i .i64 Y,qw L]
theorem ch0 (S Y:Int) (L:List Int):(chT S Y L).cell 0=.i .i64 S:=rfl
theorem ch1 (S Y:Int) (L:List Int):(chT S Y L).cell 1=.i .i64 Y:=rfl
theorem ch2 (S Y:Int) (L:List Int):(chT S Y L).cell 2=qw L:=rfl
theorem QB (L:List Int):(qw L).cell 0=qw L:=rfl
theorem B8 (m:List (List Rat)) (r:List Rat):ta m++[pO r]=ta (m++[r]):=by simp [ta]
theorem KS (m:List Rat) (r:Rat):tI m++[qr r]=tI (m++[r]):=by simp [tI]
theorem DN (m:List Nat) (r:Nat):ry m++[T.i .i64 (r:Int)]=ry (m++[r]):=by simp [ry]
theorem IZ (k:Nat):ul (List.replicate k false)++[T.b false]=ul (List.replicate (k+1) false):=by simp [ul,List.replicate_succ']
theorem GS (l:List Rat) (k:Nat):T.l (List.take ((k:Int)-0).toNat (List.drop 0 (pO l).list))=pO (l.take k):=by
 rw [show ((k:Int)-0).toNat=k from by omega,Xc];simp [pO,tI,T.list,List.map_take]
theorem xu (x y:T):(List.replicate 1 x).set 0 y=[y]:=rfl
def RT (st sym:Nat) (q:Rat) (l:List Rat):T:=.g [.i .i64 (sym:Int),.i .i64 (st:Int),(qr q).cell 0,(qr q).cell 1,(qr q).cell 2,pO l]
theorem WH (st sym q l):(RT st sym q l).cell 0=.i .i64 (sym:Int):=rfl
theorem WI (st sym q l):(RT st sym q l).cell 1=.i .i64 (st:Int):=rfl
abbrev S8:=T×List T×List T×List T×List T×List T×Nat×Nat
structure MkI (L:List Int) (st sym:Nat) (W:T) (i:S8):Prop where
 w:i.1=W
 tr:i.2.1=ta (mkN L st sym i.2.2.2.2.2.2.2).trans
 sp:i.2.2.1=tI (mkN L st sym i.2.2.2.2.2.2.2).stop
 em:i.2.2.2.1=ta (mkN L st sym i.2.2.2.2.2.2.2).emit
 si:i.2.2.2.2.1=ul (List.replicate i.2.2.2.2.2.2.2 false)
 ti:i.2.2.2.2.2.1=ry (mkN L st sym i.2.2.2.2.2.2.2).ties
 at':i.2.2.2.2.2.2.1=(mkN L st sym i.2.2.2.2.2.2.2).pos
 le:i.2.2.2.2.2.2.2≤st
structure MkJ (L:List Int) (st sym:Nat) (i:S8) (j:List T×Nat×Nat×Nat):Prop where
 em:j.1=ta (mkN L st sym (i.2.2.2.2.2.2.2+1)).emit
 at':j.2.1≤L.length
 le:j.2.2.2≤i.2.2.2.2.2.2.2
 tie:(IA L (mkN L st sym i.2.2.2.2.2.2.2).emit (mkN L st sym i.2.2.2.2.2.2.2).ties ((mkN L st sym (i.2.2.2.2.2.2.2+1)).emit.getD i.2.2.2.2.2.2.2 []) (i.2.2.2.2.2.2.2-j.2.2.2) j.2.2.2 j.2.1 j.2.2.1) =
  ((mkN L st sym (i.2.2.2.2.2.2.2+1)).pos,(mkN L st sym (i.2.2.2.2.2.2.2+1)).ties.getD i.2.2.2.2.2.2.2 0)
end Go.Pl
namespace Go.Pq
open Go.Pl Go.Proofs
theorem Ty (S Y:Int) (L:List Int) {most:Nat} (hm:1≤most∧most≤6) (hL:L.length≤9223372036854775807) :
  F 43 [.t 49 (chT S Y L),.t 2 (.i .i64 (most:Int)),.t 4 (.b false)] (zo 3 29) [rx (yB S Y L most)]:=by
 have C_:room=140737488355328:=rfl;have w1:=rK S (show 0<most by omega);have w2:=rK Y (show 0<3 by omega);have ok:=Cs S Y L hm;have wf1:=yj S (m:=most) (by omega);have wf2:=yj Y (m:=3) (by omega);have e1:pL .i64 1 (T.i .i64 (within S most:Int)).int=((1+within S most:Nat):Int):=by rw [pC,pt (by omega)];omega
 have e2:pL .i64 1 (T.i .i64 (within Y 3:Int)).int=((1+within Y 3:Nat):Int):=by rw [pC,pt (by omega)];omega
 unfold yB at ok ⊢;have N0:=fun i (hi:i≤1+within S most)=>N7 L (st:=1+within S most) (sym:=1+within Y 3) (by omega) (by omega) i hi;have z_:1+within S most≤6:=by omega
 have cY:1+within Y 3≤3:=by omega
 have oE:1≤1+within S most:=by omega
 have oF:1≤1+within Y 3:=by omega
 generalize hs:1+within S most=st at *
 generalize hy:1+within Y 3=sym at *
 have e3:pL .i64 (st:Int) 1=((st+1:Nat):Int):=by rw [pt (by omega)];omega
 have s1:=td L (WS _) (show 0<st+1∧st+1≤1000 by omega);have sf:=C0 L 0 (n:=st+1) (by omega) (WS _) hL
 generalize fi:pR L 0 (st+1)=r0 at *
 have dD:(mkN L st sym 0).pos=r0.2:=by rw [←fi];rfl
 refine SG _ _ _ _ (MkI L st sym (RT st sym (r0.1.getD st 0) (r0.1.take st))) (fun i=>st-i.2.2.2.2.2.2.2) (fun i b=>b=(false,i.2.2.2.2.2.2.1))
  (fun i _ c=>c=(false,(pR L i.2.2.2.2.2.2.1 (st+1)).2,pO (pR L i.2.2.2.2.2.2.1 (st+1)).1))
  (fun i _ _ d=>d=(ta (mkN L st sym (i.2.2.2.2.2.2.2+1)).trans,tI (mkN L st sym (i.2.2.2.2.2.2.2+1)).stop,ul (List.replicate (i.2.2.2.2.2.2.2+1) false),pO ((mkN L st sym (i.2.2.2.2.2.2.2+1)).emit.getD i.2.2.2.2.2.2.2 []),false,(pR L (pR L i.2.2.2.2.2.2.1 (st+1)).2 sym).2))
  (fun _ _ _=>False) (fun _ _ _=>0) (fun i _ _ _ j=>MkJ L st sym i j) (fun i _ _ _ j=>i.2.2.2.2.2.2.2-j.2.2.2) ?_
 rw [ch0,ch1,ch2,QB];refine ⟨_,wf1,_,wf2,?_⟩;rw [e1,e2,e3];refine ⟨_,_,_,sf,?_⟩;rw [qj,sQ _ (show st<r0.1.length by omega),qu,GS];refine ⟨⟨by omega,by omega⟩,⟨by omega,by omega,by omega⟩,⟨(RT st sym (r0.1.getD st 0) (r0.1.take st),[],[],[],[],[],r0.2,0),⟨rfl,rfl,rfl,rfl,rfl,rfl,dD.symm,WS _⟩,(by and_intros<;>first | exact trivial | rfl | (rw [pt (by omega)];rfl))⟩,fun _=>rfl,?_⟩;rintro i I;obtain ⟨w,tr,sp,em,si,ti,a,k⟩:=i;obtain ⟨h1,h2,h3,h4,h5,h6,h7,h8⟩:=I;dsimp only at h1 h2 h3 h4 h5 h6 h7 h8 ⊢;subst h1 h2 h3 h4 h5 h6 h7;rw [WH,WI,pC];refine ⟨fun q=>⟨⟨fun g=>(by cases g),fun _=>⟨(false,(mkN L st sym k).pos),rfl,(by and_intros<;>first | exact trivial | rfl | (rw [pt (by omega)];rfl))⟩⟩,fun _=>rfl,?_⟩,fun q=>?_⟩
 ·rw [pw] at q
  have hk:k<st:=by omega
  have N:=N0 k h8;have N1:=N0 (k+1) hk;have iA:mkN L st sym (k+1)=DV L st sym k (mkN L st sym k):=rfl;unfold DV at iA;have t1:=td L N.pos (show 0<st+1∧st+1≤1000 by omega);have tf:=C0 L (mkN L st sym k).pos (n:=st+1) (by omega) N.pos hL;have t2:=td L t1.1 (show 0<sym∧sym≤1000 by omega);have uf:=C0 L (pR L (mkN L st sym k).pos (st+1)).2 (n:=sym) (by omega) t1.1 hL;rintro _ rfl;dsimp only;refine ⟨_,_,_,by rw [e3];exact tf,⟨fun g=>(by cases g),fun _=>⟨(false,(pR L (mkN L st sym k).pos (st+1)).2,pO (pR L (mkN L st sym k).pos (st+1)).1),rfl,(by and_intros<;>first | exact trivial | rfl | (rw [pt (by omega)];rfl))⟩⟩,fun _=>rfl,?_⟩;rintro _ rfl;dsimp only;rw [qj,sQ _ (show st<_ by omega),qu,GS,xu,xu,xu,pQ,pQ,pQ,B8,KS,IZ];have b1:(ta ((mkN L st sym k).trans)).length+[pO ((pR L (mkN L st sym k).pos (st+1)).1.take st)].length=k+1:=by rw [Bf,N.tl];rfl
  have b2:(tI ((mkN L st sym k).stop)).length+[qr ((pR L (mkN L st sym k).pos (st+1)).1.getD st 0)].length=k+1:=by rw [wK,N.sl];rfl
  have b3:(ul (List.replicate k false)).length+[T.b false].length=k+1:=by rw [Af,Xm];rfl
  have el:(mkN L st sym (k+1)).emit.getD k []=(pR L (pR L (mkN L st sym k).pos (st+1)).2 sym).1:=by
   rw [iA];dsimp only;rw [sr,N.el,WZ (by omega),WY rfl]
  have tl:(mkN L st sym (k+1)).ties.getD k 0=(IA L (mkN L st sym k).emit (mkN L st sym k).ties (pR L (pR L (mkN L st sym k).pos (st+1)).2 sym).1 k 0 (pR L (pR L (mkN L st sym k).pos (st+1)).2 sym).2 k).2:=by
   rw [iA];dsimp only;rw [sr,N.il,WZ (by omega),WY rfl]
  have pl:(mkN L st sym (k+1)).pos=(IA L (mkN L st sym k).emit (mkN L st sym k).ties (pR L (pR L (mkN L st sym k).pos (st+1)).2 sym).1 k 0 (pR L (pR L (mkN L st sym k).pos (st+1)).2 sym).2 k).1:=by rw [iA]
  have ttl:(mkN L st sym (k+1)).ties=(mkN L st sym k).ties++[(mkN L st sym (k+1)).ties.getD k 0]:=by rw [tl];rw [iA]
  have eml:∀j,j<k→(mkN L st sym (k+1)).emit.getD j []=(mkN L st sym k).emit.getD j []:=by
   intro j hj;rw [iA];dsimp only;rw [sr,N.el,WY hj]
  rw [b1,b2,b3,el];refine ⟨⟨by omega,by omega,by omega⟩,⟨by omega,by omega⟩,⟨by omega,by omega⟩,⟨by omega,by omega⟩,⟨by omega,by omega⟩,⟨fun _=>⟨_,_,_,uf,⟨_,rfl,(by and_intros<;>first | exact trivial | rfl | (rw [pt (by omega)];rfl))⟩⟩,fun g=>(by cases g)⟩,fun _=>rfl,?_⟩;rintro _ rfl;dsimp only;have b4:(ta ((mkN L st sym k).emit)).length+[pO (pR L (pR L (mkN L st sym k).pos (st+1)).2 sym).1].length=k+1:=by rw [Bf,N.el];rfl
  rw [xu,pQ,B8,b4];refine ⟨⟨by omega,by omega⟩,⟨(ta (mkN L st sym (k+1)).emit,(pR L (pR L (mkN L st sym k).pos (st+1)).2 sym).2,k,0),⟨rfl,t2.1,WS _,?_⟩,(by and_intros<;>first | exact trivial | rfl | (rw [pt (by omega)];rfl))⟩,fun _=>rfl,?_⟩
  ·dsimp only;rw [el,tl,pl,Nat.sub_zero]
  ·rintro j J
   obtain ⟨e,a,t,j⟩:=j;obtain ⟨h1,h7,h9,dn⟩:=J;dsimp only at h1 h7 h9 dn ⊢;subst h1;rw [←el];have bt:∀t:Nat,((List.take (ry (mkN L st sym k).ties).length (ry (mkN L st sym k).ties)).length+[T.i .i64 (t:Int)].length)=k+1:=by intro t;rw [pQ,qX,N.il];rfl
   refine ⟨fun g=>?_,fun g=>⟨fun z=>(by cases z),fun _=>?_⟩⟩
   ·rw [pw] at g
    have hj:j<k:=by omega
    have nf:=Kw L a (n:=3) (by decide) h7 hL;refine ⟨_,_,_,nf,?_⟩;rw [pC,xu,bt];have oG:k-j=(k-(j+1))+1:=by omega
    rw [oG] at dn;unfold IA at dn;refine ⟨fun z=>?_,fun z=>?_⟩
    ·rw [qe] at z
     rw [WY (by omega)] at dn;have g1:((ul (List.replicate (k+1) false)).getD (0+(j:Int).toNat) T.u).cell 0=T.b false:=by
      rw [WV,WP,wo _ (by simp;omega)];simp [WM,show j<k+1 by omega];rfl
     have g2:((ta (mkN L st sym (k+1)).emit).getD (0+(j:Int).toNat) T.u).cell 0=pO ((mkN L st sym k).emit.getD j []):=by
      rw [WV,WP,rM _ (by rw [N1.el];omega),eml j hj];rfl
     have g3:((ry (mkN L st sym k).ties).getD (0+(j:Int).toNat) T.u).cell 0=T.i .i64 (((mkN L st sym k).ties.getD j 0:Nat):Int):=by
      rw [WV,WP,xM _ (by rw [N.il];omega)];rfl
     have r1:=N.shows _ (pN (l:=(mkN L st sym k).emit) (d:=[]) (i:=j) (by rw [N.el];omega));have r2:=N1.shows _ (pN (l:=(mkN L st sym (k+1)).emit) (d:=[]) (i:=k) (by rw [N1.el];omega));rw [g1,g2,g3];refine ⟨fun _=>⟨by omega,by rw [Af,Xm];omega⟩,fun _=>⟨by omega,by rw [Bf,N1.el];omega⟩,_,fun _=>Rc _ _ (by rw [r1.1];omega) (by rw [r2.1];omega) (fun q hq=>by have:=(r1.2.2 q hq).1;omega) (fun q hq=>by have:=(r2.2.2 q hq).1;omega),fun y=>?_,fun y=>?_⟩
     ·have hy:(mkN L st sym k).emit.getD j []=(mkN L st sym (k+1)).emit.getD k []:=by
       by_cases hd:(mkN L st sym k).emit.getD j []=(mkN L st sym (k+1)).emit.getD k []
       ·exact hd
       ·rw [Xh hd] at y;cases y
      rw [WY hy] at dn;refine ⟨⟨by omega,by rw [qX,N.il];omega⟩,(ta (mkN L st sym (k+1)).emit,(sN L a 3).2,(mkN L st sym k).ties.getD j 0,j+1),
       ⟨rfl,wE L h7 3,hj,dn⟩,by dsimp only;omega,(by and_intros<;>first | exact trivial | rfl | (rw [pt (by omega)];rfl))⟩
     ·have hy:¬ (mkN L st sym k).emit.getD j []=(mkN L st sym (k+1)).emit.getD k []:=by
       intro hd;rw [Xq hd] at y;cases y
      rw [WZ hy] at dn;refine ⟨(ta (mkN L st sym (k+1)).emit,(sN L a 3).2,t,j+1),
       ⟨rfl,wE L h7 3,hj,dn⟩,by dsimp only;omega,(by and_intros<;>first | exact trivial | rfl | (rw [pt (by omega)];rfl))⟩
    ·rw [rk] at z
     rw [WZ (by omega)] at dn;have p1:=Xx Prod.fst dn;have p2:=Xx Prod.snd dn;dsimp only at p1 p2;subst p2;refine ⟨⟨by omega,by omega⟩,(RT st sym (r0.1.getD st 0) (r0.1.take st),ta (mkN L st sym (k+1)).trans,tI (mkN L st sym (k+1)).stop,ta (mkN L st sym (k+1)).emit,ul (List.replicate (k+1) false),ry (mkN L st sym (k+1)).ties,(sN L a 3).2,k+1),
      ⟨rfl,rfl,rfl,rfl,rfl,rfl,p1,hk⟩,by dsimp only;omega,?_⟩
     have tt:List.take (ry (mkN L st sym k).ties).length (ry (mkN L st sym k).ties)++[T.i .i64 (((mkN L st sym (k+1)).ties.getD k 0:Nat):Int)]=ry (mkN L st sym (k+1)).ties:=by rw [pQ,DN,←ttl]
     dsimp only;rw [tt];exact (by and_intros<;>first | exact trivial | rfl | (rw [pt (by omega)];rfl))
   ·rw [pF] at g
    have:j=k:=by omega
    subst this;rw [Yp] at dn;unfold IA at dn;have p1:=Xx Prod.fst dn;have p2:=Xx Prod.snd dn;dsimp only at p1 p2;subst p2;rw [xu,bt];refine ⟨⟨by omega,by omega⟩,(RT st sym (r0.1.getD st 0) (r0.1.take st),ta (mkN L st sym (j+1)).trans,tI (mkN L st sym (j+1)).stop,ta (mkN L st sym (j+1)).emit,ul (List.replicate (j+1) false),ry (mkN L st sym (j+1)).ties,a,j+1),
      ⟨rfl,rfl,rfl,rfl,rfl,rfl,p1,hk⟩,by dsimp only;omega,?_⟩
    have tt:List.take (ry (mkN L st sym j).ties).length (ry (mkN L st sym j).ties)++[T.i .i64 (((mkN L st sym (j+1)).ties.getD j 0:Nat):Int)]=ry (mkN L st sym (j+1)).ties:=by rw [pQ,DN,←ttl]
    dsimp only;rw [tt];exact (by and_intros<;>first | exact trivial | rfl | (rw [pt (by omega)];rfl))
 ·rw [pF] at q
  have:k=st:=by omega
  subst this;exact ⟨a_,rfl,a_⟩
theorem Jl (S Y:Int) (L:List Int) {most:Nat} (hm:1≤most∧most≤6) (hL:L.length≤9223372036854775807) :
  F 16 [.t 49 (chT S Y L),.t 2 (.i .i64 (most:Int))] (zo 2 29) [rx (yB S Y L most)] :=
 Su _ _ _ ⟨_,Ty S Y L hm hL,a_,rfl,a_⟩
end Go.Pq
namespace Go.Pl
open Go.RowKit Go.ChangeShapes Go.WideShapes Go.ChangeAt
theorem OB {tab:Tab} {w:World} {O:Nat→Prop} {c:TypeId} {v:Value} {x:T} (h:L tab w O c v x):Go.Pl.isAgg v=false∧v.cells=#[v]:=by
 cases h<;>exact ⟨rfl,rfl⟩
theorem RY {w:World} {tab:Tab} {c e ce:TypeId} {ti te:TI} (hc:tab.at c=some (c,ti)) (hk:ti.k=.sl e) (he:tab.at e=some (ce,te)) (oH:tab.at ce=some (ce,te)) (lT:te.k=.int .i64) (L_:te.cells=1) {a:Addr} {len cap:Nat} {zs:List Int}
  (hl:len≤cap) (hm:cap≤maxLen) (hz:len≤zs.length) (G_:∀i,i<zs.length→w.cell? (a.add i)=some (.int .i64 (zs.getD i 0))) (hw:∀n∈zs,(Lit.int .i64 n).wf=true) :
  L tab w (fun _=>False) c (.slice (some a) len cap) (qw (zs.take len)):=by
 have i_:((zs.take len).map fun x=>T.i .i64 x).length=len:=by simp;omega
 have:=L.sl (tab:=tab) (w:=w) (O:=fun _=>False) (a:=a) (cap:=cap) (xs:=(zs.take len).map fun x=>T.i .i64 x) hc hk he (by omega) (by rw [i_];exact hl) hm (fun _ h=>h) (fun j _=>.int .i64 (zs.getD j 0)) ?_ ?_ ?_
 ·rw [i_] at this;exact this
 ·intro j x hx
  simp only [Xs,YN] at hx;obtain ⟨z,-,rfl⟩:=hx;refine ⟨?_,?_⟩
  ·unfold TI.isS;rw [lT];rfl
  ·rw [L_];rfl
 ·intro j x n y hx hy
  simp only [Xs,YN] at hx;obtain ⟨z,dw,rfl⟩:=hx;have hj:j<len:=by
   have:=(WQ.1 dw).1
   rw [Xg] at this;omega
  have hn:n=0:=by
   have:=(WQ.1 hy).1
   have h1:(T.i IntKind.i64 z).leaves.length=1:=rfl;omega
  subst hn;rw [L_,Yq];exact G_ j (by omega)
 ·intro j x n y ty hx hy ht
  simp only [Xs,YN] at hx;obtain ⟨z,dw,rfl⟩:=hx;have hj:j<len:=by
   have:=(WQ.1 dw).1
   rw [Xg] at this;omega
  have hn:n=0:=by
   have:=(WQ.1 hy).1
   have h1:(T.i IntKind.i64 z).leaves.length=1:=rfl;omega
  subst hn;have fo:y=.i .i64 z:=by
   have h1:(T.i IntKind.i64 z).leaves=[.i .i64 z]:=rfl;rw [h1] at hy;simpa using hy.symm
  have cN:ty=ce:=by
   unfold TI.lv at ht;rw [lT] at ht;simpa using ht.symm
  subst fo cN;have oI:zs.getD j 0=z:=by
   rw [Xy,WY hj] at dw;rw [WM,dw];rfl
  show L tab w _ ty (.int .i64 (zs.getD j 0)) _
  rw [oI];refine .int oH lT ?_;have oJ:z∈zs:=by
   rw [Xy,WY hj] at dw;exact XR dw
  have mX:=hw z oJ;have h1:IntKind.i64.min = -9223372036854775808:=rfl;simp [Lit.wf] at mX;exact IntWalk.i64_in _ ⟨by omega,mX.2⟩
theorem Eu {H:Type} {enc:TypeId×Value→H} {P:Program} {w:World} {base:Nat} {spare:Nat→Bool} {held:Bool} {t0 t1 t2 t3 t4:TypeId} {args:Array Value} {ds:List (DataW H)} {ps:List MemPlace} (h:DataW.TrodAll enc P w base spare held [t0,t1,t2,t3,t4] args.toList ds ps) :
  ∃v0 v1 v2 v3 v4 d0 d1 d2 d3 d4 p0 p1 p2 p3 p4,args=#[v0,v1,v2,v3,v4]∧ds=[d0,d1,d2,d3,d4]∧ps=p0++p1++p2++p3++p4∧DataW.Trod enc P w base spare held t0 v0 d0 p0∧DataW.Trod enc P w base spare held t1 v1 d1 p1∧DataW.Trod enc P w base spare held t2 v2 d2 p2∧DataW.Trod enc P w base spare held t3 v3 d3 p3∧DataW.Trod enc P w base spare held t4 v4 d4 p4:=by
 obtain ⟨v0,s0,d0,e0,p0,q0,ha,rfl,rfl,h0,r0⟩:=trodAll_cons h;obtain ⟨v1,s1,d1,e1,p1,q1,rfl,rfl,rfl,h1,r1⟩:=trodAll_cons r0;obtain ⟨v2,s2,d2,e2,p2,q2,rfl,rfl,rfl,h2,r2⟩:=trodAll_cons r1;obtain ⟨v3,s3,d3,e3,p3,q3,rfl,rfl,rfl,h3,r3⟩:=trodAll_cons r2;obtain ⟨v4,s4,d4,e4,p4,q4,rfl,rfl,rfl,h4,r4⟩:=trodAll_cons r3;obtain ⟨rfl,rfl,rfl⟩:=trodAll_nil r4;exact ⟨v0,v1,v2,v3,v4,d0,d1,d2,d3,d4,p0,p1,p2,p3,p4,by cases args;simp_all,rfl,by simp,h0,h1,h2,h3,h4⟩
theorem FS {H:Type} {enc:TypeId×Value→H} {P:Program} {w:World} {base:Nat} {spare:Nat→Bool} {held:Bool} {t0 t1 t2 t3 t4:TypeId} {v0 v1 v2 v3 v4:Value} {d0 d1 d2 d3 d4:DataW H} {p0 p1 p2 p3 p4:List MemPlace} (h0:DataW.Trod enc P w base spare held t0 v0 d0 p0) (h1:DataW.Trod enc P w base spare held t1 v1 d1 p1) (h2:DataW.Trod enc P w base spare held t2 v2 d2 p2) (h3:DataW.Trod enc P w base spare held t3 v3 d3 p3) (h4:DataW.Trod enc P w base spare held t4 v4 d4 p4) :
  DataW.TrodAll enc P w base spare held [t0,t1,t2,t3,t4] [v0,v1,v2,v3,v4] [d0,d1,d2,d3,d4] (p0++(p1++(p2++(p3++p4)))):=⟨p0,p1++(p2++(p3++p4)),h0,trodAll_mk4 h1 h2 h3 h4,rfl⟩
end Go.Pl
namespace Go.Proofs.YtjhgombngbgjbaaGreatDoor.Ro
open Go.Pl Go.Pq Go.RowKit Go.ChangeShapes Go.WideShapes Go.ChangeAt
theorem own:ownKnob Tryz.prog.godebug=none:=by kernel_rfl
theorem AC:laidOutB Tryz.prog=true:=by kernel_rfl
noncomputable def low:Nat:=(World.holding Tryz.prog default ⟨#[],#[],[]⟩).heap.size
noncomputable def AD (os:Os):World :=
 let w0:=World.holding Tryz.prog os ⟨#[.cells #[.string ⟨#[98,121,116,101,115,46,66,117,102,102,101,114,58,32,116,111,111,32,108,97,114,103,101]⟩] 251],#[],[]⟩
 { w0 with heap:=w0.heap.modify 0 fun
   | .cells _ t frozen=>.cells #[.iface 235 (.pointer (some ⟨low,0,none⟩))] t frozen
   | o=>o }
theorem OP:Tryz.prog.cellsOf 50=3:=by kernel_rfl
theorem Sf:Tryz.prog.cellsOf 3=1:=by kernel_rfl
theorem t28:tab.at 28=some (28,⟨.sl 3,1,24,[],.l []⟩):=by kernel_rfl
theorem t3:tab.at 3=some (2,⟨.int .i64,1,8,[],.i .i64 0⟩):=by kernel_rfl
theorem t2:tab.at 2=some (2,⟨.int .i64,1,8,[],.i .i64 0⟩):=by kernel_rfl
theorem t4:tab.at 4=some (4,⟨.bool,1,1,[],.b false⟩):=by kernel_rfl
theorem t49:tab.at 49=some (49,⟨.st [(0,2),(1,2),(2,28)],3,40,[2,2,28],.g [.i .i64 0,.i .i64 0,.l []]⟩):=by kernel_rfl
theorem LA {n:Int} (h:(Lit.int .i64 n).wf=true):IntKind.i64.wrap n=n:=by
 have h1:IntKind.i64.min = -9223372036854775808:=rfl;simp [Lit.wf] at h;exact IntWalk.i64_in _ ⟨by omega,h.2⟩
theorem DZ {H:Type} {enc:TypeId×Value→H} {W:World} {fuel:Nat} {v:Value} {x:DataW H×List MemPlace} (h:DataW.trod enc Tryz.prog W 0 (fun _=>true) true fuel 28 [v]=some x) :
  ∃l:List Int,l.length≤9223372036854775807∧L tab W (fun _=>False) 28 v (qw l):=by
 rcases open_ints Tryz.underlying28 Tryz.underlying3 Sf h with ⟨aJ,-⟩ | ⟨a,len,cap,zs,aJ,-,hl,hm,hz,-,G_,hw⟩
 ·have:v=.slice none 0 0:=by simpa using aJ
  subst this;exact ⟨[],by decide,.nil t28 rfl⟩
 ·have:v=.slice (some a) len cap:=by simpa using aJ
  subst this;have bU:maxLen=9223372036854775807:=rfl;have dw:zs.length=cap:=hz;exact ⟨zs.take len,by rw [Xg];omega,RY t28 rfl t3 t2 rfl rfl hl hm (by omega) G_ hw⟩
theorem Us {W:World} {O:Nat→Prop} {v:Value} {l:List Int} (h:L tab W O 28 v (qw l)):V tab W O 28 v (qw l):=by
 have hv:=OB h;refine ⟨_,t28,rfl,hv.1,by rw [hv.2];rfl,rfl,fun j y ty hy ht=>?_⟩;have hj:j=0:=by
  have:=(WQ.1 hy).1
  have h1:(qw l).leaves.length=1:=rfl;omega
 subst hj;have h1:(qw l).leaves=[qw l]:=rfl;rw [h1] at hy;have fo:y=qw l:=by simpa using hy.symm
 have cN:ty=28:=by simpa [TI.lv] using ht.symm
 subst fo cN;exact ⟨v,by rw [hv.2];rfl,h⟩
theorem OD {W:World} {O:Nat→Prop} {S Y:Int} {v:Value} {l:List Int} (hS:IntKind.i64.wrap S=S) (hY:IntKind.i64.wrap Y=Y) (h:L tab W O 28 v (qw l)) :
  V tab W O 49 (.agg #[.int .i64 S,.int .i64 Y,v]) (chT S Y l):=by
 refine ⟨_,t49,rfl,rfl,rfl,rfl,fun j y ty hy ht=>?_⟩;have h1:(chT S Y l).leaves=[.i .i64 S,.i .i64 Y,qw l]:=rfl;rw [h1] at hy;have bZ:([2,2,28]:List TypeId)[j]?=some ty:=ht;have hc:(Value.agg #[.int .i64 S,.int .i64 Y,v]).cells=#[.int .i64 S,.int .i64 Y,v]:=rfl;rw [hc]
 match j with
 | 0 =>
  have e1:y=.i .i64 S:=by simpa using hy.symm
  have e2:ty=2:=by simpa using bZ.symm
  subst e1 e2;exact ⟨_,rfl,.int t2 rfl hS⟩
 | 1 =>
  have e1:y=.i .i64 Y:=by simpa using hy.symm
  have e2:ty=2:=by simpa using bZ.symm
  subst e1 e2;exact ⟨_,rfl,.int t2 rfl hY⟩
 | 2 =>
  have e1:y=qw l:=by simpa using hy.symm
  have e2:ty=28:=by simpa using bZ.symm
  subst e1 e2;exact ⟨_,rfl,h⟩
 | j+3=>simp at hy
theorem ze {W:World} {O:Nat→Prop} {v:Value} {b:Bool} (h:V tab W O 4 v (.b b)):v=.bool b:=by
 obtain ⟨hl,-,-⟩:=sG t4 (by simp [TI.isS]) h;cases hl;rfl
theorem EA {W:World} {O:Nat→Prop} {n:Int} (h:IntKind.i64.wrap n=n):V tab W O 2 (.int .i64 n) (.i .i64 n):=by
 refine ⟨_,t2,rfl,rfl,rfl,rfl,fun j y ty hy ht=>?_⟩;have hj:j=0:=by
  have:=(WQ.1 hy).1
  have h1:(T.i IntKind.i64 n).leaves.length=1:=rfl;omega
 subst hj;have h1:(T.i IntKind.i64 n).leaves=[.i .i64 n]:=rfl;rw [h1] at hy;have fo:y=.i .i64 n:=by simpa using hy.symm
 have cN:ty=2:=by simpa [TI.lv] using ht.symm
 subst fo cN;exact ⟨_,rfl,.int t2 rfl h⟩
theorem Gr {H:Type} {enc:TypeId×Value→H} {W:World} {b:Nat} {v:Value} {d:DataW H} {ps:List MemPlace} (hv:Value.okWide Tryz.prog W .any b 50 v) (h:DataW.Trod enc Tryz.prog W 0 (fun _=>true) true 50 v d ps) :
  ∃S Y Ll,Ll.length≤9223372036854775807∧V tab W (fun _=>False) 49 v (chT S Y Ll):=by
 obtain ⟨c0,c1,c2,y0,y1,y2,n,rfl,-,-,f0,f1,f2⟩:=Go.Joins.open_agg3 Tryz.underlying50 (by kernel_rfl) OP hv h;obtain ⟨S,e0,-,w0⟩:=DataW.trod_int Tryz.underlying3 f0;obtain ⟨Y,e1,-,w1⟩:=DataW.trod_int Tryz.underlying3 f1;have g0:c0=.int .i64 S:=by simpa using e0
 have g1:c1=.int .i64 Y:=by simpa using e1
 subst g0 g1;obtain ⟨Ll,oK,HL⟩:=DZ f2;exact ⟨S,Y,Ll,oK,OD (LA w0) (LA w1) HL⟩
theorem QA {H:Type} {enc:TypeId×Value→H} {W:World} {b:Nat} {v:Value} {d:DataW H} {ps:List MemPlace} (hv:Value.okWide Tryz.prog W .any b 28 v) (h:DataW.Trod enc Tryz.prog W 0 (fun _=>true) true 28 v d ps) :
  ∃Ll,Ll.length≤9223372036854775807∧V tab W (fun _=>False) 28 v (qw Ll):=by
 obtain ⟨a1,len1,cap1,rfl⟩:=okWide_slice Tryz.underlying28 hv;obtain ⟨fuel,hf⟩:=h;obtain ⟨Wl,hl,HW⟩:=DZ (v:=.slice a1 len1 cap1) hf;exact ⟨Wl,hl,Us HW⟩
theorem N3 {H:Type} {enc:TypeId×Value→H} {W:World} {b:Nat} {v:Value} {d:DataW H} {ps:List MemPlace} (hv:Value.okWide Tryz.prog W .any b 3 v) (h:DataW.Trod enc Tryz.prog W 0 (fun _=>true) true 3 v d ps) :
  ∃n,V tab W (fun _=>False) 2 v (.i .i64 n):=by
 obtain ⟨n,rfl,-,-,w⟩:=open_int Tryz.underlying3 hv h;exact ⟨n,EA (LA w)⟩
end Go.Proofs.YtjhgombngbgjbaaGreatDoor.Ro
namespace Go.Pq
open Go.Pl Go.Proofs
def Vt:Ctx:=⟨tab,sigs,95,[0,1,2,6,7,8,9],[pp 0,pp 6],[],[],[],[]⟩
theorem Ps (a0:List T) (a1:T) (a2:T) (y0:T) (h:(0≤a1.int∧a1.int≤(↑a0.length:Int)∧(↑a0.length:Int)≤(↑a0.length:Int))∧(eqI (lenOf a2.list) 0=true→True∧T.l (List.take a0.length a0)=y0∧True)∧(eqI (lenOf a2.list) 0=false→(eqI a1.int ↑a0.length=true→(Rm ((List.take a0.length a0).length+a2.list.length) 304)∧True∧T.l (List.take a0.length a0++a2.list)=y0∧True)∧(eqI a1.int ↑a0.length=false→False))):F 137 [.own 31 a0,.t 2 a1,.t 31 a2] (zw 3 31) [y0] :=
 p7 Vt (by kernel_rfl) Tryz.func137 (by kernel_rfl) .no (by kernel_rfl) h
def C51:Ctx:=⟨tab,sigs,27,[0,1,4,5],[],[],[],[],[]⟩
theorem SL (a0:T) (a1:T) (y0:T) (I0:Nat→Prop) (M0:Nat→Nat) (h:(neI (lenOf a0.list) (lenOf a1.list)=true→True∧T.b false=y0∧True)∧(neI (lenOf a0.list) (lenOf a1.list)=false→(∃i:Nat,I0 i∧R1 a0 a1 (kI 0=kI ↑i∧True))∧(∀i:Nat,true=true)∧∀i:Nat,I0 i→(ltI ↑i (lenOf a0.list)=true→(Bd ↑i (lenOf a0.list))∧(Bd ↑i (lenOf a1.list))∧∃y:T,F 50 [.t 23 ((a0.list.getD (↑i:Int).toNat T.u).part 0 3),.t 23 ((a1.list.getD (↑i:Int).toNat T.u).part 0 3)] (zo 2 4) [y]∧((!y.bool)=true→True∧T.b false=y0∧True)∧((!y.bool)=false→∃j:Nat,I0 j∧M0 j<M0 i∧R1 a0 a1 (kI (pL .i64 ↑i 1)=kI ↑j∧True)))∧(ltI ↑i (lenOf a0.list)=false→True∧T.b true=y0∧True))):F 51 [.t 25 a0,.t 25 a1] (zo 2 4) [y0] :=
 p7 C51 (by kernel_rfl) Tryz.func51 (by kernel_rfl) (.two .no (.two .no (.two (.two .no (.lp (fun (ia:Nat)=>[(pp 0,AV.t 25 a0),(pp 1,AV.t 25 a1),(pp 4,AV.t 4 (T.b false)),(pp 5,.t 2 (.i .i64 (ia:Int)))]) I0 M0 (fun _=>.no))) .no))) (by kernel_rfl) h
def C24:Ctx:=⟨tab,sigs,155,[0,1,2,3,4,5,6,7,8],[],[],[],[],[]⟩
theorem SA (a0:T) (a1:T) (y0:T) (I0:Nat→Prop) (M0:Nat→Nat) (I1:Nat→Prop) (M1:Nat→Nat) (I2:Nat→Prop) (M2:Nat→Nat) (I3:Nat→Prop) (M3:Nat→Nat) (h:∃y:T,((T.ite (neI (a0.cell 0).int (a1.cell 0).int) (T.b true) (T.b (neI (a0.cell 1).int (a1.cell 1).int))).bool=false∧True→F 50 [.t 23 (T.g [a0.cell 2,a0.cell 3,a0.cell 4]),.t 23 (T.g [a1.cell 2,a1.cell 3,a1.cell 4])] (zo 2 4) [y])∧∃y_1:T,((T.ite (T.ite (neI (a0.cell 0).int (a1.cell 0).int) (T.b true) (T.b (neI (a0.cell 1).int (a1.cell 1).int))).bool (T.b true) (T.b !y.bool)).bool=false∧True→F 51 [.t 25 (a0.cell 5),.t 25 (a1.cell 5)] (zo 2 4) [y_1])∧∃y_2:T,((T.ite (T.ite (T.ite (neI (a0.cell 0).int (a1.cell 0).int) (T.b true) (T.b (neI (a0.cell 1).int (a1.cell 1).int))).bool (T.b true) (T.b !y.bool)).bool (T.b true) (T.b !y_1.bool)).bool=false∧True→F 51 [.t 25 (a0.cell 7),.t 25 (a1.cell 7)] (zo 2 4) [y_2])∧((T.ite (T.ite (T.ite (T.ite (T.ite (T.ite (T.ite (T.ite (neI (a0.cell 0).int (a1.cell 0).int) (T.b true) (T.b (neI (a0.cell 1).int (a1.cell 1).int))).bool (T.b true) (T.b !y.bool)).bool (T.b true) (T.b !y_1.bool)).bool (T.b true) (T.b !y_2.bool)).bool (T.b true) (T.b (neI (lenOf (a0.cell 6).list) (lenOf (a1.cell 6).list)))).bool (T.b true) (T.b (neI (lenOf (a0.cell 8).list) (lenOf (a1.cell 8).list)))).bool (T.b true) (T.b (neI (lenOf (a0.cell 9).list) (lenOf (a1.cell 9).list)))).bool (T.b true) (T.b (neI (lenOf (a0.cell 10).list) (lenOf (a1.cell 10).list)))).bool=true→True∧T.b false=y0∧True)∧((T.ite (T.ite (T.ite (T.ite (T.ite (T.ite (T.ite (T.ite (neI (a0.cell 0).int (a1.cell 0).int) (T.b true) (T.b (neI (a0.cell 1).int (a1.cell 1).int))).bool (T.b true) (T.b !y.bool)).bool (T.b true) (T.b !y_1.bool)).bool (T.b true) (T.b !y_2.bool)).bool (T.b true) (T.b (neI (lenOf (a0.cell 6).list) (lenOf (a1.cell 6).list)))).bool (T.b true) (T.b (neI (lenOf (a0.cell 8).list) (lenOf (a1.cell 8).list)))).bool (T.b true) (T.b (neI (lenOf (a0.cell 9).list) (lenOf (a1.cell 9).list)))).bool (T.b true) (T.b (neI (lenOf (a0.cell 10).list) (lenOf (a1.cell 10).list)))).bool=false→(∃i:Nat,I0 i∧R42 a0 a1 (kI 0=kI ↑i∧True))∧(∀i:Nat,true=true)∧∀i:Nat,I0 i→(ltI ↑i (lenOf (a0.cell 6).list)=true→(Bd ↑i (lenOf (a0.cell 6).list))∧(Bd ↑i (lenOf (a1.cell 6).list))∧∃y:T,F 51 [.t 25 (((a0.cell 6).list.getD (↑i:Int).toNat T.u).cell 0),.t 25 (((a1.cell 6).list.getD (↑i:Int).toNat T.u).cell 0)] (zo 2 4) [y]∧((!y.bool)=true→True∧T.b false=y0∧True)∧((!y.bool)=false→∃j:Nat,I0 j∧M0 j<M0 i∧R42 a0 a1 (kI (pL .i64 ↑i 1)=kI ↑j∧True)))∧(ltI ↑i (lenOf (a0.cell 6).list)=false→(∃i:Nat,I1 i∧R42 a0 a1 (kI 0=kI ↑i∧True))∧(∀i:Nat,true=true)∧∀i:Nat,I1 i→(ltI ↑i (lenOf (a0.cell 8).list)=true→(Bd ↑i (lenOf (a0.cell 8).list))∧(Bd ↑i (lenOf (a1.cell 8).list))∧∃y:T,F 51 [.t 25 (((a0.cell 8).list.getD (↑i:Int).toNat T.u).cell 0),.t 25 (((a1.cell 8).list.getD (↑i:Int).toNat T.u).cell 0)] (zo 2 4) [y]∧((!y.bool)=true→True∧T.b false=y0∧True)∧((!y.bool)=false→∃j:Nat,I1 j∧M1 j<M1 i∧R42 a0 a1 (kI (pL .i64 ↑i 1)=kI ↑j∧True)))∧(ltI ↑i (lenOf (a0.cell 8).list)=false→(∃i:Nat,I2 i∧R42 a0 a1 (kI 0=kI ↑i∧True))∧(∀i:Nat,true=true)∧∀i:Nat,I2 i→(ltI ↑i (lenOf (a0.cell 9).list)=true→(Bd ↑i (lenOf (a0.cell 9).list))∧(Bd ↑i (lenOf (a1.cell 9).list))∧((!(((a0.cell 9).list.getD (↑i:Int).toNat T.u).cell 0).bool == (((a1.cell 9).list.getD (↑i:Int).toNat T.u).cell 0).bool)=true→True∧T.b false=y0∧True)∧((!(((a0.cell 9).list.getD (↑i:Int).toNat T.u).cell 0).bool == (((a1.cell 9).list.getD (↑i:Int).toNat T.u).cell 0).bool)=false→∃j:Nat,I2 j∧M2 j<M2 i∧R42 a0 a1 (kI (pL .i64 ↑i 1)=kI ↑j∧True)))∧(ltI ↑i (lenOf (a0.cell 9).list)=false→(∃i:Nat,I3 i∧R42 a0 a1 (kI 0=kI ↑i∧True))∧(∀i:Nat,true=true)∧∀i:Nat,I3 i→(ltI ↑i (lenOf (a0.cell 10).list)=true→(Bd ↑i (lenOf (a0.cell 10).list))∧(Bd ↑i (lenOf (a1.cell 10).list))∧(neI (((a0.cell 10).list.getD (↑i:Int).toNat T.u).cell 0).int (((a1.cell 10).list.getD (↑i:Int).toNat T.u).cell 0).int=true→True∧T.b false=y0∧True)∧(neI (((a0.cell 10).list.getD (↑i:Int).toNat T.u).cell 0).int (((a1.cell 10).list.getD (↑i:Int).toNat T.u).cell 0).int=false→∃j:Nat,I3 j∧M3 j<M3 i∧R42 a0 a1 (kI (pL .i64 ↑i 1)=kI ↑j∧True)))∧(ltI ↑i (lenOf (a0.cell 10).list)=false→True∧T.b true=y0∧True)))))):F 24 [.t 29 a0,.t 29 a1] (zo 2 4) [y0] :=
 p7 C24 (by kernel_rfl) Tryz.func24 (by kernel_rfl) (.two .no (.two .no (.two (.two .no (.lp (fun (ia:Nat)=>[(pp 0,AV.t 29 a0),(pp 1,AV.t 29 a1),(pp 2,AV.box 29 0 11)]++bxS 2 a0 0 Y1++[(pp 3,AV.box 29 0 11)]++bxS 3 a1 0 Y1++[(pp 4,AV.t 4 (T.b false)),(pp 5,.t 2 (.i .i64 (ia:Int)))]) I0 M0 (fun _=>.no))) (.two (.two .no (.lp (fun (ib:Nat)=>[(pp 0,AV.t 29 a0),(pp 1,AV.t 29 a1),(pp 2,AV.box 29 0 11)]++bxS 2 a0 0 Y1++[(pp 3,AV.box 29 0 11)]++bxS 3 a1 0 Y1++[(pp 4,AV.t 4 (T.b false)),(pp 6,.t 2 (.i .i64 (ib:Int)))]) I1 M1 (fun _=>.no))) (.two (.two .no (.lp (fun (ic:Nat)=>[(pp 0,AV.t 29 a0),(pp 1,AV.t 29 a1),(pp 2,AV.box 29 0 11)]++bxS 2 a0 0 Y1++[(pp 3,AV.box 29 0 11)]++bxS 3 a1 0 Y1++[(pp 4,AV.t 4 (T.b false)),(pp 7,.t 2 (.i .i64 (ic:Int)))]) I2 M2 (fun _=>.no))) (.two (.two .no (.lp (fun (id:Nat)=>[(pp 0,AV.t 29 a0),(pp 1,AV.t 29 a1),(pp 2,AV.box 29 0 11)]++bxS 2 a0 0 Y1++[(pp 3,AV.box 29 0 11)]++bxS 3 a1 0 Y1++[(pp 4,AV.t 4 (T.b false)),(pp 8,.t 2 (.i .i64 (id:Int)))]) I3 M3 (fun _=>.no))) .no)))))) (by kernel_rfl) h
def C6:Ctx:=⟨tab,sigs,174,[0,1,2,3,4,5,6,10,11,12,13,14,15,16,17,18,19,20,21,22,23,24,25,26,27],[pp 19],[],[],[],[]⟩
theorem UE (a0:T) (a1:T) (a2:T) (a3:T) (a4:T) (y0:T) (I0:X17→Prop) (M0:X17→Nat) (h:∃y:T,F 16 [.t 49 (G3 a0),.t 2 (kI 2)] (zo 2 29) [y]∧∃y_1:T,F 16 [.t 49 (G3 a1),.t 2 (kI 2)] (zo 2 29) [y_1]∧∃y_2 y_3:T,F 17 [.t 29 (G11 y)] Z12 [y_2,y_3]∧∃y_4 y_5 y_6:T,F 10 [.t 32 (G13 y_2),.t 35 (T.g [kI 1,kI 0,kI 0,T.l [],T.l []])] Z11 [y_4,y_5,y_6]∧((T.ite (neI y_3.int 0) (T.b true) (T.b (neI y_6.int 0))).bool=true→True∧T.b false=y0∧True)∧((T.ite (neI y_3.int 0) (T.b true) (T.b (neI y_6.int 0))).bool=false→∃y_7:T,F 20 [.t 28 a2,.t 2 (y.cell 0),.t 2 (kI 4)] (zo 3 28) [y_7]∧∃y_8 y_9 y_10:T,F 10 [.t 32 (G13 y_4),.t 35 (T.g [kI 2,kI 0,kI 0,y_7.cell 0,T.l []])] Z11 [y_8,y_9,y_10]∧(neI y_10.int 0=true→True∧T.b false=y0∧True)∧(neI y_10.int 0=false→∃y_11 y_12 y_13:T,F 10 [.t 32 (G13 y_8),.t 35 (T.g [kI 3,kI 0,kI 0,T.l [],T.l []])] Z11 [y_11,y_12,y_13]∧((T.ite (T.ite (neI y_13.int 0) (T.b true) (T.b (neI (y_12.cell 0).int (0:Int)))).bool (T.b true) (T.b (eqI (lenOf (y_12.cell 3).list) 0))).bool=true→True∧T.b false=y0∧True)∧((T.ite (T.ite (neI y_13.int 0) (T.b true) (T.b (neI (y_12.cell 0).int (0:Int)))).bool (T.b true) (T.b (eqI (lenOf (y_12.cell 3).list) 0))).bool=false→(Rm (0+(y_12.cell 3).list.length) 1)∧∃y_14:T,F 19 [.t 2 a3,.t 2 (kI (↑(List.replicate 0 (T.i .u8 0)++(y_12.cell 3).list).length:Int))] (zo 2 2) [y_14]∧(Bd (y_14.int) (↑(List.replicate 0 (T.i .u8 0)++(y_12.cell 3).list).length:Int))∧∃y_15:T,F 19 [.t 2 a4,.t 2 (kI 255)] (zo 2 2) [y_15]∧(Bd (y_14.int) (↑(List.replicate 0 (T.i .u8 0)++(y_12.cell 3).list).length:Int))∧(0≤(0:Int)∧0≤qc .i64 (lenOf (y_12.cell 3).list) (1:Int)∧qc .i64 (lenOf (y_12.cell 3).list) (1:Int)≤lenOf (y_12.cell 3).list)∧(Rm (0+(y_12.cell 3).list.length) 1)∧(Rm ((List.replicate 0 (T.i .u8 0)++(y_12.cell 3).list).length+((List.replicate 1 (T.i .u8 0)).set 0 (T.i .u8 (pG .u8 a4.int))).length) 1)∧(∃(i:X17),I0 i∧R43 a0 a1 a2 a3 a4 (E11 y i.1 (True∧E11 y_1 i.2.1 (True∧E13 y_11 i.2.2.1 (True∧E8 y_12 i.2.2.2.1 (T.l (((((List.replicate 4 (T.l [])).set 0 (T.l (List.take ((List.replicate 0 (T.i .u8 0)++(y_12.cell 3).list).set (0+y_14.int.toNat) (T.i .u8 (qv BinOp.xor .u8 (((List.replicate 0 (T.i .u8 0)++(y_12.cell 3).list).getD (0+y_14.int.toNat) T.u).cell 0).int (pL .u8 1 (pG .u8 y_15.int))))).length (List.drop 0 ((List.replicate 0 (T.i .u8 0)++(y_12.cell 3).list).set (0+y_14.int.toNat) (T.i .u8 (qv BinOp.xor .u8 (((List.replicate 0 (T.i .u8 0)++(y_12.cell 3).list).getD (0+y_14.int.toNat) T.u).cell 0).int (pL .u8 1 (pG .u8 y_15.int))))))))).set 1 (T.l (List.take (qc .i64 (lenOf (y_12.cell 3).list) (1:Int)-(0:Int)).toNat (List.drop 0 (y_12.cell 3).list)))).set 2 (T.l (List.replicate 0 (T.i .u8 0)++(y_12.cell 3).list++(List.replicate 1 (T.i .u8 0)).set 0 (T.i .u8 (pG .u8 a4.int))))).set 3 (T.l []))=i.2.2.2.2.1∧kI 0=kI ↑i.2.2.2.2.2∧True))))))∧(∀(i:X17),true=true)∧∀(i:X17),I0 i→(ltI ↑i.2.2.2.2.2 (lenOf i.2.2.2.2.1.list)=true→(Bd ↑i.2.2.2.2.2 (lenOf i.2.2.2.2.1.list))∧∃y y_16 y_17:T,F 10 [.t 32 (G13 i.2.2.1),.t 35 (T.g [kI 4,kI 0,kI 0,T.l [],((i.2.2.2.2.1.list.getD (↑i.2.2.2.2.2:Int).toNat T.u).cell 0).cell 0])] Z11 [y,y_16,y_17]∧((T.ite (neI y_17.int 0) (T.b true) (T.b (neI (y_16.cell 0).int (20:Int)))).bool=true→True∧T.b false=y0∧True)∧((T.ite (neI y_17.int 0) (T.b true) (T.b (neI (y_16.cell 0).int (20:Int)))).bool=false→∃(j:X17),I0 j∧M0 j<M0 i∧R43 a0 a1 a2 a3 a4 (E11 i.1 j.1 (True∧E11 i.2.1 j.2.1 (True∧E13 i.2.2.1 j.2.2.1 (True∧E8 i.2.2.2.1 j.2.2.2.1 (i.2.2.2.2.1=j.2.2.2.2.1∧kI (pL .i64 ↑i.2.2.2.2.2 1)=kI ↑j.2.2.2.2.2∧True)))))))∧(ltI ↑i.2.2.2.2.2 (lenOf i.2.2.2.2.1.list)=false→∃y y_16:T,F 17 [.t 29 (G11 i.2.1)] Z12 [y,y_16]∧∃y_17 y_18 y_19:T,F 10 [.t 32 (G13 y),.t 35 (T.g [kI 4,kI 0,kI 0,T.l [],(i.2.2.2.1.cell 3).cell 0])] Z11 [y_17,y_18,y_19]∧∃y:T,F 9 [] (zo 0 4) [y]∧∃y_20:T,((T.ite (T.ite y.bool (T.b (eqI y_16.int 0)) (T.b false)).bool (T.b (eqI y_19.int 0)) (T.b false)).bool=true∧True→F 24 [.t 29 (G11 i.1),.t 29 (G11 i.2.1)] (zo 2 4) [y_20])∧True∧T.ite (T.ite (T.ite y.bool (T.b (eqI y_16.int 0)) (T.b false)).bool (T.b (eqI y_19.int 0)) (T.b false)).bool (T.b (eqI (y_18.cell 0).int (0:Int) == y_20.bool)) (T.b false)=y0∧True))))):F 6 [.t 49 a0,.t 49 a1,.t 28 a2,.t 2 a3,.t 2 a4] (zo 5 4) [y0] :=
 p7 C6 (by kernel_rfl) Tryz.func6 (by kernel_rfl) (.two .no (.two .no (.two .no (.two .no (.two .no (.two .no (.two .no (.two .no (.two .no (.two .no (.two .no (.two .no (.two .no (.two (.two .no (.lp (fun (ia:X17)=>[(pp 0,AV.t 49 a0),(pp 1,AV.t 49 a1),(pp 2,AV.t 28 a2),(pp 3,AV.t 2 a3),(pp 4,AV.t 2 a4),(pp 5,AV.box 49 0 3)]++bxS 5 a0 0 Y6++[(pp 6,AV.box 49 0 3)]++bxS 6 a1 0 Y6++[(pp 10,AV.t 4 (T.b false)),(pp 11,AV.box 29 0 11)]++bxS 11 ia.1 0 Y1++[(pp 12,AV.box 29 0 11)]++bxS 12 ia.2.1 0 Y1++[(pp 13,AV.box 32 0 13)]++bxS 13 ia.2.2.1 0 Y4++[(pp 18,AV.box 40 0 8)]++bxS 18 ia.2.2.2.1 0 Y8++[(pp 20,.t 55 ia.2.2.2.2.1),(pp 21,.t 2 (.i .i64 (ia.2.2.2.2.2:Int)))]) I0 M0 (fun _=>.no))) .no)))))))))))))) (by kernel_rfl) h
end Go.Pq
namespace Crc
def poly:BitVec 32:=0xedb88320#32
def L7 (x:BitVec 32):BitVec 32:=(x >>> 1) ^^^ ((-(x &&& 1#32)) &&& poly)
def OT:Nat→BitVec 32→BitVec 32
 | 0,x=>x
 | n+1,x=>OT n (L7 x)
def Sj (x:BitVec 32) (b:BitVec 32):BitVec 32:=OT 8 (x ^^^ b)
def De (x:BitVec 32):List (BitVec 32)→BitVec 32
 | []=>x
 | b::r=>De (Sj x b) r
theorem OF (x:BitVec 32):x &&& 1#32=if x.getLsbD 0 then 1#32 else 0#32:=by
 apply BitVec.eq_of_getLsbD_eq;intro i hi;rw [BitVec.getLsbD_and,BitVec.getLsbD_one]
 by_cases h:i=0
 ·subst h
  cases x.getLsbD 0<;>simp
 ·have:decide (i=0)=false:=Xh h
  cases x.getLsbD 0<;>simp [this]
theorem ET (x:BitVec 32):L7 x=if x.getLsbD 0 then (x >>> 1) ^^^ poly else x >>> 1:=by
 unfold L7;rw [OF];cases x.getLsbD 0
 ·show x >>> 1 ^^^ (-0#32 &&& poly)=x >>> 1
  have:(-0#32 &&& poly)=0#32:=by decide
  rw [this];simp
 ·show x >>> 1 ^^^ (-1#32 &&& poly)=x >>> 1 ^^^ poly
  have:(-1#32 &&& poly)=poly:=by decide
  rw [this]
theorem Lu (x:BitVec 32):(L7 x).getLsbD 31=x.getLsbD 0:=by
 rw [ET];have h1:(x >>> 1).getLsbD 31=false:=by
  rw [BitVec.getLsbD_ushiftRight];exact BitVec.getLsbD_of_ge _ _ (by decide)
 have h2:poly.getLsbD 31=true:=by decide
 cases h:x.getLsbD 0
 ·simp
 ·show (x >>> 1 ^^^ poly).getLsbD 31=true
  rw [BitVec.getLsbD_xor,h1,h2];rfl
theorem L8 {x y:BitVec 32} (h:L7 x=L7 y):x=y:=by
 have h0:x.getLsbD 0=y.getLsbD 0:=by rw [←Lu,←Lu,h]
 have h1:x >>> 1=y >>> 1:=by
  rw [ET,ET,h0] at h;cases hy:y.getLsbD 0
  ·rw [hy] at h;simpa using h
  ·rw [hy] at h
   have h:x >>> 1 ^^^ poly=y >>> 1 ^^^ poly:=h
   have:=Xx (· ^^^ poly) h
   simpa [BitVec.xor_assoc] using this
 apply BitVec.eq_of_getLsbD_eq;intro i hi
 match i with
 | 0=>exact h0
 | i+1 =>
  have:=Xx (fun z=>z.getLsbD i) h1
  simp only [BitVec.getLsbD_ushiftRight] at this;rw [ZI i 1];exact this
theorem Gd:∀(n:Nat) {x y:BitVec 32},OT n x=OT n y→x=y:=by
 intro n
 induction n with
 | zero=>intro x y h;exact h
 | succ n ih=>intro x y h;exact L8 (ih h)
theorem Ey {x y b:BitVec 32} (h:x ^^^ b=y ^^^ b):x=y:=by
 have:=Xx (· ^^^ b) h
 simpa [BitVec.xor_assoc] using this
theorem L9 {x y b:BitVec 32} (h:Sj x b=Sj y b):x=y:=Ey (Gd 8 h)
theorem JK {x a b:BitVec 32} (h:Sj x a=Sj x b):a=b:=by
 have:=Gd 8 h
 rw [BitVec.xor_comm x a,BitVec.xor_comm x b] at this;exact Ey this
theorem Ma:∀(l:List (BitVec 32)) {x y:BitVec 32},De x l=De y l→x=y:=by
 intro l
 induction l with
 | nil=>intro x y h;exact h
 | cons b r ih=>intro x y h;exact L9 (ih h)
theorem xg (a b:List (BitVec 32)):∀x,De x (a++b)=De (De x a) b:=by
 induction a with
 | nil=>intro x;rfl
 | cons c r ih=>intro x;exact ih _
theorem Mb {l:List (BitVec 32)} {i:Nat} (hi:i<l.length) {b:BitVec 32} (hb:b≠l[i]) (x:BitVec 32):De x (l.set i b)≠De x l:=by
 intro h;have e1:l=l.take i++l[i]::l.drop (i+1):=by rw [←XI hi,YT]
 have e2:l.set i b=l.take i++b::l.drop (i+1):=List.set_eq_take_append_cons_drop ▸ by rw [WY hi]
 rw [e2] at h;rw [xg] at h;have h':De x l=De (De x (l.take i)) (l[i]::l.drop (i+1)):=by
  conv=>lhs;rw [e1]
  rw [xg]
 rw [h'] at h;exact hb (JK (Ma _ h))
end Crc
namespace Go.Pq
open Go.Pl Go.Proofs
def VZ:Ctx:=⟨tab,sigs,44,[0,2,3,4,10,11],[],[],[],[],[0]⟩
theorem PV (b0_0:T) (y0:T) (y1:T) (I0:(Int×Nat)→Prop) (M0:(Int×Nat)→Nat) (h:(∃(i:Int×Nat),I0 i∧R44 b0_0 (T.i .u64 0=T.i .u64 i.1∧kI (xT (8:Int) (lenOf b0_0.list))=kI (xT (8:Int) (lenOf b0_0.list))∧kI 0=kI ↑i.2∧True))∧(∀(i:Int×Nat),true=true)∧∀(i:Int×Nat),I0 i→(ltI ↑i.2 (xT (8:Int) (lenOf b0_0.list))=true→(Bd ↑i.2 (lenOf b0_0.list))∧0≤zk .i64 8 (↑i.2:Int)∧∃(j:Int×Nat),I0 j∧M0 j<M0 i∧R44 b0_0 (T.i .u64 (qv BinOp.or .u64 i.1 (zp .u64 (pG .u64 ((b0_0.list.getD (↑i.2:Int).toNat T.u).cell 0).int) (zk .i64 8 (↑i.2:Int))))=T.i .u64 j.1∧kI (xT (8:Int) (lenOf b0_0.list))=kI (xT (8:Int) (lenOf b0_0.list))∧kI (pL .i64 ↑i.2 1)=kI ↑j.2∧True))∧(ltI ↑i.2 (xT (8:Int) (lenOf b0_0.list))=false→(0≤xT (8:Int) (lenOf b0_0.list)∧xT (8:Int) (lenOf b0_0.list)≤lenOf b0_0.list∧lenOf b0_0.list≤lenOf b0_0.list)∧(True∧True)∧kI (pG .i64 i.1)=y0∧T.l (List.take (lenOf b0_0.list-xT (8:Int) (lenOf b0_0.list)).toNat (List.drop (xT (8:Int) (lenOf b0_0.list)).toNat b0_0.list))=y1∧True)):F 176 [.box 210 1 [.t 34 b0_0]] Z18 [y0,y1] :=
 p7 VZ (by kernel_rfl) Tryz.func176 (by kernel_rfl) (.two .no (.two .no (.two (.two .no (.lp (fun (ia:Int×Nat)=>[(pp 0,AV.box 210 0 1),(cell 0 0,AV.t 34 b0_0),(pp 2,AV.t 2 (T.i IntKind.i64 (0:Int))),(pp 3,.t 12 (.i .u64 ia.1)),(pp 10,AV.t 2 (T.i IntKind.i64 (xT (8:Int) (lenOf b0_0.list)))),(pp 11,.t 2 (.i .i64 (ia.2:Int)))]) I0 M0 (fun _=>.no))) .no))) (by kernel_rfl) h
def V7:Ctx:=⟨tab,sigs,15,[0,2,3],[],[(176,⟨[],[(0,[false])],[]⟩)],[],[],[0]⟩
theorem PY (b0_0:T) (y0:T) (y1:T) (h:∃y y_1:T,F 176 [.box 210 1 [.t 34 b0_0]] Z18 [y,y_1]∧(8:Int)≠(0:Int)∧(True∧True)∧kI (xk (0:Int) (xT y.int (uQ .i64 (lenOf y_1.list) 8)))=y0∧y_1=y1∧True):F 179 [.box 210 1 [.t 34 b0_0]] Z18 [y0,y1] :=
 p7 V7 (by kernel_rfl) Tryz.func179 (by kernel_rfl) .no (by kernel_rfl) h
def V5:Ctx:=⟨tab,sigs,20,[0,2,3,4,9,10],[pp 3],[(176,⟨[],[(0,[false])],[]⟩),(179,⟨[],[(0,[false])],[]⟩)],[],[],[0]⟩
theorem PW (b0_0:T) (y0:T) (y1:T) (I0:X18→Prop) (M0:X18→Nat) (h:∃y y_1:T,F 179 [.box 210 1 [.t 34 b0_0]] Z18 [y,y_1]∧(0≤y.int∧y.int≤y.int∧(↑8:Int)*y.int≤(281474976710656:Int)∧y.int≤(9223372036854775807:Int))∧(∃(i:X18),I0 i∧True∧y_1=i.2.1∧T.l []=T.l []∧List.replicate y.int.toNat (kI 0)=i.1∧kI (↑(List.replicate y.int.toNat (kI 0)).length:Int)=kI ↑i.2.2.1∧kI 0=kI ↑i.2.2.2∧True)∧(∀(i:X18),true=true)∧∀(i:X18),I0 i→(ltI ↑i.2.2.2 ↑i.2.2.1=true→∃y y_2:T,F 176 [.box 210 1 [.t 34 i.2.1]] Z18 [y,y_2]∧(Bd ↑i.2.2.2 (↑i.1.length:Int))∧∃(j:X18),I0 j∧M0 j<M0 i∧True∧y_2=j.2.1∧T.l []=T.l []∧i.1.set (0+(↑i.2.2.2:Int).toNat) y=j.1∧kI ↑i.2.2.1=kI ↑j.2.2.1∧kI (pL .i64 ↑i.2.2.2 1)=kI ↑j.2.2.2∧True)∧(ltI ↑i.2.2.2 ↑i.2.2.1=false→(True∧True)∧T.l (List.take i.1.length (List.drop 0 i.1))=y0∧i.2.1=y1∧True)):F 177 [.box 210 1 [.t 34 b0_0]] Z19 [y0,y1] :=
 p7 V5 (by kernel_rfl) Tryz.func177 (by kernel_rfl) (.two .no (.two .no (.two (.two .no (.lp (fun (ia:X18)=>[(pp 0,AV.box 210 0 1),(cell 0 0,.t 34 ia.2.1),(pp 2,AV.t 28 (T.l [])),(pp 3,.own 28 0 ia.1),(pp 9,.t 2 (.i .i64 (ia.2.2.1:Int))),(pp 10,.t 2 (.i .i64 (ia.2.2.2:Int)))]) I0 M0 (fun _=>.no))) .no))) (by kernel_rfl) h
def Wp:Ctx:=⟨tab,sigs,21,[0,2,3,4,9,10],[pp 3],[(176,⟨[],[(0,[false])],[]⟩),(179,⟨[],[(0,[false])],[]⟩)],[],[],[0]⟩
theorem Qc (b0_0:T) (y0:T) (y1:T) (I0:X18→Prop) (M0:X18→Nat) (h:∃y y_1:T,F 179 [.box 210 1 [.t 34 b0_0]] Z18 [y,y_1]∧(0≤y.int∧y.int≤y.int∧(↑4:Int)*y.int≤(281474976710656:Int)∧y.int≤(9223372036854775807:Int))∧(∃(i:X18),I0 i∧True∧y_1=i.2.1∧T.l []=T.l []∧List.replicate y.int.toNat (T.i .u32 0)=i.1∧kI (↑(List.replicate y.int.toNat (T.i .u32 0)).length:Int)=kI ↑i.2.2.1∧kI 0=kI ↑i.2.2.2∧True)∧(∀(i:X18),true=true)∧∀(i:X18),I0 i→(ltI ↑i.2.2.2 ↑i.2.2.1=true→∃y y_2:T,F 176 [.box 210 1 [.t 34 i.2.1]] Z18 [y,y_2]∧(Bd ↑i.2.2.2 (↑i.1.length:Int))∧∃(j:X18),I0 j∧M0 j<M0 i∧True∧y_2=j.2.1∧T.l []=T.l []∧i.1.set (0+(↑i.2.2.2:Int).toNat) (T.i .u32 (pG .u32 y.int))=j.1∧kI ↑i.2.2.1=kI ↑j.2.2.1∧kI (pL .i64 ↑i.2.2.2 1)=kI ↑j.2.2.2∧True)∧(ltI ↑i.2.2.2 ↑i.2.2.1=false→(True∧True)∧T.l (List.take i.1.length (List.drop 0 i.1))=y0∧i.2.1=y1∧True)):F 201 [.box 210 1 [.t 34 b0_0]] Z20 [y0,y1] :=
 p7 Wp (by kernel_rfl) Tryz.func201 (by kernel_rfl) (.two .no (.two .no (.two (.two .no (.lp (fun (ia:X18)=>[(pp 0,AV.box 210 0 1),(cell 0 0,.t 34 ia.2.1),(pp 2,AV.t 22 (T.l [])),(pp 3,.own 22 0 ia.1),(pp 9,.t 2 (.i .i64 (ia.2.2.1:Int))),(pp 10,.t 2 (.i .i64 (ia.2.2.2:Int)))]) I0 M0 (fun _=>.no))) .no))) (by kernel_rfl) h
def V6:Ctx:=⟨tab,sigs,26,[0,2,3,4,9,10],[pp 3],[(176,⟨[],[(0,[false])],[]⟩),(179,⟨[],[(0,[false])],[]⟩),(201,⟨[],[(0,[false])],[]⟩)],[],[],[0]⟩
theorem PX (b0_0:T) (y0:T) (y1:T) (I0:X18→Prop) (M0:X18→Nat) (h:∃y y_1:T,F 179 [.box 210 1 [.t 34 b0_0]] Z18 [y,y_1]∧(0≤y.int∧y.int≤y.int∧(↑56:Int)*y.int≤(281474976710656:Int)∧y.int≤(9223372036854775807:Int))∧(∃(i:X18),I0 i∧True∧y_1=i.2.1∧T.l []=T.l []∧List.replicate y.int.toNat (T.g [T.b false,T.l [],T.l []])=i.1∧kI (↑(List.replicate y.int.toNat (T.g [T.b false,T.l [],T.l []])).length:Int)=kI ↑i.2.2.1∧kI 0=kI ↑i.2.2.2∧True)∧(∀(i:X18),true=true)∧∀(i:X18),I0 i→(ltI ↑i.2.2.2 ↑i.2.2.1=true→∃y y_2:T,F 176 [.box 210 1 [.t 34 i.2.1]] Z18 [y,y_2]∧∃y_3 y_4:T,F 201 [.box 210 1 [.t 34 y_2]] Z20 [y_3,y_4]∧∃y_5 y_6:T,F 201 [.box 210 1 [.t 34 y_4]] Z20 [y_5,y_6]∧(Bd ↑i.2.2.2 (↑i.1.length:Int))∧∃(j:X18),I0 j∧M0 j<M0 i∧True∧y_6=j.2.1∧T.l []=T.l []∧i.1.set (0+(↑i.2.2.2:Int).toNat) ((((i.1.getD (0+(↑i.2.2.2:Int).toNat) T.u).setCell 0 (T.b (eqI y.int 1))).setCell 1 (y_3.cell 0)).setCell 2 (y_5.cell 0))=j.1∧kI ↑i.2.2.1=kI ↑j.2.2.1∧kI (pL .i64 ↑i.2.2.2 1)=kI ↑j.2.2.2∧True)∧(ltI ↑i.2.2.2 ↑i.2.2.1=false→(True∧True)∧T.l (List.take i.1.length (List.drop 0 i.1))=y0∧i.2.1=y1∧True)):F 178 [.box 210 1 [.t 34 b0_0]] Z21 [y0,y1] :=
 p7 V6 (by kernel_rfl) Tryz.func178 (by kernel_rfl) (.two .no (.two .no (.two (.two .no (.lp (fun (ia:X18)=>[(pp 0,AV.box 210 0 1),(cell 0 0,.t 34 ia.2.1),(pp 2,AV.t 25 (T.l [])),(pp 3,.own 25 0 ia.1),(pp 9,.t 2 (.i .i64 (ia.2.2.1:Int))),(pp 10,.t 2 (.i .i64 (ia.2.2.2:Int)))]) I0 M0 (fun _=>.no))) .no))) (by kernel_rfl) h
def VY:Ctx:=⟨tab,sigs,30,[0,2,3,5,6,7,8,16],[],[],[],[],[]⟩
theorem PU (a0:T) (y0:T) (I0:(Int×Nat)→Prop) (M0:(Int×Nat)→Nat) (I1:(Int×Nat)→(Int×Nat)→Prop) (M1:(Int×Nat)→(Int×Nat)→Nat) (h:(∃(i:Int×Nat),I0 i∧R3 a0 (T.i .u32 4294967295=T.i .u32 i.1∧R7 a0 (kI 0=kI ↑i.2∧True)))∧(∀(i:Int×Nat),true=true)∧∀(i:Int×Nat),I0 i→(ltI ↑i.2 (lenOf a0.list)=true→(Bd ↑i.2 (lenOf a0.list))∧(∃(i_1:Int×Nat),I1 i i_1∧R3 a0 (T.i .u32 (qv BinOp.xor .u32 i.1 (pG .u32 ((a0.list.getD (↑i.2:Int).toNat T.u).cell 0).int))=T.i .u32 i_1.1∧R45 a0 i.2 (kI 0=kI ↑i_1.2∧True)))∧(∀(i:Int×Nat),true=true)∧∀(i_1:Int×Nat),I1 i i_1→(ltI ↑i_1.2 8=true→0≤(1:Int)∧∃(j:Int×Nat),I1 i j∧M1 i j<M1 i i_1∧R3 a0 (T.i .u32 (qv BinOp.xor .u32 (sE .u32 i_1.1 1) (qv BinOp.and .u32 (qc .u32 0 (qv BinOp.and .u32 i_1.1 1)) (3988292384:Int)))=T.i .u32 j.1∧R45 a0 i.2 (kI (pL .i64 ↑i_1.2 1)=kI ↑j.2∧True)))∧(ltI ↑i_1.2 8=false→∃(j:Int×Nat),I0 j∧M0 j<M0 i∧R3 a0 (T.i .u32 i_1.1=T.i .u32 j.1∧R7 a0 (kI (pL .i64 ↑i.2 1)=kI ↑j.2∧True))))∧(ltI ↑i.2 (lenOf a0.list)=false→True∧kI (pG .i64 (qv BinOp.xor .u32 (if IntKind.u32.signed=true then (-1:Int) else IntKind.u32.max) i.1))=y0∧True)):F 175 [.t 34 a0] (zo 1 2) [y0] :=
 p7 VY (by kernel_rfl) Tryz.func175 (by kernel_rfl) (.two .no (.two .no (.two (.two .no (.lp (fun (ia:Int×Nat)=>[(pp 0,AV.t 34 a0),(pp 2,AV.t 2 (T.i IntKind.i64 (0:Int))),(pp 3,.t 155 (.i .u32 ia.1)),(pp 6,AV.t 34 a0),(pp 7,AV.t 2 (T.i IntKind.i64 (lenOf a0.list))),(pp 8,.t 2 (.i .i64 (ia.2:Int)))]) I0 M0 (fun (ia:Int×Nat)=>(.two .no (.two .no (.two (.two .no (.two .no (.two .no (.lp (fun (ib:Int×Nat)=>[(pp 0,AV.t 34 a0),(pp 2,AV.t 2 (T.i IntKind.i64 (0:Int))),(pp 3,.t 155 (.i .u32 ib.1)),(pp 6,AV.t 34 a0),(pp 7,AV.t 2 (T.i IntKind.i64 (lenOf a0.list))),(pp 8,AV.t 2 (T.i IntKind.i64 (↑ia.2:Int))),(pp 5,AV.t 5 ((a0.list.getD (↑ia.2:Int).toNat T.u).cell 0)),(pp 16,.t 2 (.i .i64 (ib.2:Int)))]) (I1 ia) (M1 ia) (fun _=>.no))))) .no)))))) .no))) (by kernel_rfl) h
def VT:Ctx:=⟨tab,sigs,19,[0,1,4,5],[cell 0 0],[(197,⟨[],[(0,[true,false,false])],[]⟩)],[],[],[0]⟩
theorem PP (b0_0:List T) (b0_1:T) (b0_2:T) (a1:T) (y0:T) (y1:T) (y2:T) (I0:X19→Prop) (M0:X19→Nat) (h:(∃(i:X19),I0 i∧True∧b0_0=i.1∧b0_1=i.2.1∧b0_2=i.2.2.1∧a1=a1∧kI 0=kI ↑i.2.2.2∧True)∧(∀(i:X19),true=true)∧∀(i:X19),I0 i→(ltI ↑i.2.2.2 8=true→0≤zk .i64 8 (↑i.2.2.2:Int)∧∃y y_1 y_2 y_3:T,F 197 [.box 197 3 [.own 34 0 i.1,.t 2 i.2.1,.t 193 i.2.2.1],.t 5 (T.i .u8 (pG .u8 (sE .u64 (pG .u64 a1.int) (zk .i64 8 (↑i.2.2.2:Int)))))] Z22 [y,y_1,y_2,y_3]∧∃(j:X19),I0 j∧M0 j<M0 i∧True∧y_1.list=j.1∧y_2=j.2.1∧y_3=j.2.2.1∧a1=a1∧kI (pL .i64 ↑i.2.2.2 1)=kI ↑j.2.2.2∧True)∧(ltI ↑i.2.2.2 8=false→(True∧True)∧T.l i.1=y0∧i.2.1=y1∧i.2.2.1=y2∧True)):F 168 [.box 197 3 [.own 34 0 b0_0,.t 2 b0_1,.t 193 b0_2],.t 2 a1] Z23 [y0,y1,y2] :=
 p7 VT (by kernel_rfl) Tryz.func168 (by kernel_rfl) (.two .no (.lp (fun (ia:X19)=>[(pp 0,AV.box 197 0 3),(cell 0 0,.own 34 0 ia.1),(cell 0 1,.t 2 ia.2.1),(cell 0 2,.t 193 ia.2.2.1),(pp 1,AV.t 2 a1),(pp 5,.t 2 (.i .i64 (ia.2.2.2:Int)))]) I0 M0 (fun _=>.no))) (by kernel_rfl) h
def VU:Ctx:=⟨tab,sigs,20,[0,1,5,10,11,12],[cell 0 0],[(168,⟨[],[(0,[true,false,false])],[]⟩)],[],[],[0]⟩
theorem PQ (b0_0:List T) (b0_1:T) (b0_2:T) (a1:T) (y0:T) (y1:T) (y2:T) (I0:X19→Prop) (M0:X19→Nat) (h:∃y y_1 y_2:T,F 168 [.box 197 3 [.own 34 0 b0_0,.t 2 b0_1,.t 193 b0_2],.t 2 (kI (lenOf a1.list))] Z23 [y,y_1,y_2]∧(∃(i:X19),I0 i∧True∧y.list=i.1∧y_1=i.2.1∧y_2=i.2.2.1∧R46 a1 (kI 0=kI ↑i.2.2.2∧True))∧(∀(i:X19),true=true)∧∀(i:X19),I0 i→(ltI ↑i.2.2.2 (lenOf a1.list)=true→(Bd ↑i.2.2.2 (lenOf a1.list))∧∃y y_3 y_4:T,F 168 [.box 197 3 [.own 34 0 i.1,.t 2 i.2.1,.t 193 i.2.2.1],.t 2 ((a1.list.getD (↑i.2.2.2:Int).toNat T.u).cell 0)] Z23 [y,y_3,y_4]∧∃(j:X19),I0 j∧M0 j<M0 i∧True∧y.list=j.1∧y_3=j.2.1∧y_4=j.2.2.1∧R46 a1 (kI (pL .i64 ↑i.2.2.2 1)=kI ↑j.2.2.2∧True))∧(ltI ↑i.2.2.2 (lenOf a1.list)=false→(True∧True)∧T.l i.1=y0∧i.2.1=y1∧i.2.2.1=y2∧True)):F 169 [.box 197 3 [.own 34 0 b0_0,.t 2 b0_1,.t 193 b0_2],.t 28 a1] Z23 [y0,y1,y2] :=
 p7 VU (by kernel_rfl) Tryz.func169 (by kernel_rfl) (.two .no (.two .no (.lp (fun (ia:X19)=>[(pp 0,AV.box 197 0 3),(cell 0 0,.own 34 0 ia.1),(cell 0 1,.t 2 ia.2.1),(cell 0 2,.t 193 ia.2.2.1),(pp 1,AV.t 28 a1),(pp 10,AV.t 28 a1),(pp 11,AV.t 2 (T.i IntKind.i64 (lenOf a1.list))),(pp 12,.t 2 (.i .i64 (ia.2.2.2:Int)))]) I0 M0 (fun _=>.no)))) (by kernel_rfl) h
def Wo:Ctx:=⟨tab,sigs,21,[0,1,5,10,11,12],[cell 0 0],[(168,⟨[],[(0,[true,false,false])],[]⟩)],[],[],[0]⟩
theorem Qb (b0_0:List T) (b0_1:T) (b0_2:T) (a1:T) (y0:T) (y1:T) (y2:T) (I0:X19→Prop) (M0:X19→Nat) (h:∃y y_1 y_2:T,F 168 [.box 197 3 [.own 34 0 b0_0,.t 2 b0_1,.t 193 b0_2],.t 2 (kI (lenOf a1.list))] Z23 [y,y_1,y_2]∧(∃(i:X19),I0 i∧True∧y.list=i.1∧y_1=i.2.1∧y_2=i.2.2.1∧R46 a1 (kI 0=kI ↑i.2.2.2∧True))∧(∀(i:X19),true=true)∧∀(i:X19),I0 i→(ltI ↑i.2.2.2 (lenOf a1.list)=true→(Bd ↑i.2.2.2 (lenOf a1.list))∧∃y y_3 y_4:T,F 168 [.box 197 3 [.own 34 0 i.1,.t 2 i.2.1,.t 193 i.2.2.1],.t 2 (kI (pG .i64 ((a1.list.getD (↑i.2.2.2:Int).toNat T.u).cell 0).int))] Z23 [y,y_3,y_4]∧∃(j:X19),I0 j∧M0 j<M0 i∧True∧y.list=j.1∧y_3=j.2.1∧y_4=j.2.2.1∧R46 a1 (kI (pL .i64 ↑i.2.2.2 1)=kI ↑j.2.2.2∧True))∧(ltI ↑i.2.2.2 (lenOf a1.list)=false→(True∧True)∧T.l i.1=y0∧i.2.1=y1∧i.2.2.1=y2∧True)):F 198 [.box 197 3 [.own 34 0 b0_0,.t 2 b0_1,.t 193 b0_2],.t 22 a1] Z23 [y0,y1,y2] :=
 p7 Wo (by kernel_rfl) Tryz.func198 (by kernel_rfl) (.two .no (.two .no (.lp (fun (ia:X19)=>[(pp 0,AV.box 197 0 3),(cell 0 0,.own 34 0 ia.1),(cell 0 1,.t 2 ia.2.1),(cell 0 2,.t 193 ia.2.2.1),(pp 1,AV.t 22 a1),(pp 10,AV.t 22 a1),(pp 11,AV.t 2 (T.i IntKind.i64 (lenOf a1.list))),(pp 12,.t 2 (.i .i64 (ia.2.2.2:Int)))]) I0 M0 (fun _=>.no)))) (by kernel_rfl) h
def VV:Ctx:=⟨tab,sigs,31,[0,1,5,6,11,12,13],[cell 0 0],[(168,⟨[],[(0,[true,false,false])],[]⟩),(198,⟨[],[(0,[true,false,false])],[]⟩)],[],[],[0]⟩
theorem PR (b0_0:List T) (b0_1:T) (b0_2:T) (a1:T) (y0:T) (y1:T) (y2:T) (I0:X19→Prop) (M0:X19→Nat) (h:∃y y_1 y_2:T,F 168 [.box 197 3 [.own 34 0 b0_0,.t 2 b0_1,.t 193 b0_2],.t 2 (kI (lenOf a1.list))] Z23 [y,y_1,y_2]∧(∃(i:X19),I0 i∧True∧y.list=i.1∧y_1=i.2.1∧y_2=i.2.2.1∧R46 a1 (kI 0=kI ↑i.2.2.2∧True))∧(∀(i:X19),true=true)∧∀(i:X19),I0 i→(ltI ↑i.2.2.2 (lenOf a1.list)=true→(Bd ↑i.2.2.2 (lenOf a1.list))∧((((a1.list.getD (↑i.2.2.2:Int).toNat T.u).part 0 3).cell 0).bool=true→∃y y_3 y_4:T,F 168 [.box 197 3 [.own 34 0 i.1,.t 2 i.2.1,.t 193 i.2.2.1],.t 2 (kI 1)] Z23 [y,y_3,y_4]∧∃y_5 y_6 y_7:T,F 198 [.box 197 3 [.own 34 0 y.list,.t 2 y_3,.t 193 y_4],.t 22 (((a1.list.getD (↑i.2.2.2:Int).toNat T.u).part 0 3).cell 1)] Z23 [y_5,y_6,y_7]∧∃y y_8 y_9:T,F 198 [.box 197 3 [.own 34 0 y_5.list,.t 2 y_6,.t 193 y_7],.t 22 (((a1.list.getD (↑i.2.2.2:Int).toNat T.u).part 0 3).cell 2)] Z23 [y,y_8,y_9]∧∃(j:X19),I0 j∧M0 j<M0 i∧True∧y.list=j.1∧y_8=j.2.1∧y_9=j.2.2.1∧R46 a1 (kI (pL .i64 ↑i.2.2.2 1)=kI ↑j.2.2.2∧True))∧((((a1.list.getD (↑i.2.2.2:Int).toNat T.u).part 0 3).cell 0).bool=false→∃y y_3 y_4:T,F 168 [.box 197 3 [.own 34 0 i.1,.t 2 i.2.1,.t 193 i.2.2.1],.t 2 (kI 0)] Z23 [y,y_3,y_4]∧∃y_5 y_6 y_7:T,F 198 [.box 197 3 [.own 34 0 y.list,.t 2 y_3,.t 193 y_4],.t 22 (((a1.list.getD (↑i.2.2.2:Int).toNat T.u).part 0 3).cell 1)] Z23 [y_5,y_6,y_7]∧∃y y_8 y_9:T,F 198 [.box 197 3 [.own 34 0 y_5.list,.t 2 y_6,.t 193 y_7],.t 22 (((a1.list.getD (↑i.2.2.2:Int).toNat T.u).part 0 3).cell 2)] Z23 [y,y_8,y_9]∧∃(j:X19),I0 j∧M0 j<M0 i∧True∧y.list=j.1∧y_8=j.2.1∧y_9=j.2.2.1∧R46 a1 (kI (pL .i64 ↑i.2.2.2 1)=kI ↑j.2.2.2∧True)))∧(ltI ↑i.2.2.2 (lenOf a1.list)=false→(True∧True)∧T.l i.1=y0∧i.2.1=y1∧i.2.2.1=y2∧True)):F 170 [.box 197 3 [.own 34 0 b0_0,.t 2 b0_1,.t 193 b0_2],.t 25 a1] Z23 [y0,y1,y2] :=
 p7 VV (by kernel_rfl) Tryz.func170 (by kernel_rfl) (.two .no (.two .no (.lp (fun (ia:X19)=>[(pp 0,AV.box 197 0 3),(cell 0 0,.own 34 0 ia.1),(cell 0 1,.t 2 ia.2.1),(cell 0 2,.t 193 ia.2.2.1),(pp 1,AV.t 25 a1),(pp 11,AV.t 25 a1),(pp 12,AV.t 2 (T.i IntKind.i64 (lenOf a1.list))),(pp 13,.t 2 (.i .i64 (ia.2.2.2:Int)))]) I0 M0 (fun _=>.no)))) (by kernel_rfl) h
def VW:Ctx:=⟨tab,sigs,49,[0,1,3,4,30,31],[cell 0 0],[(168,⟨[],[(0,[true,false,false])],[]⟩),(169,⟨[],[(0,[true,false,false])],[]⟩),(170,⟨[],[(0,[true,false,false])],[]⟩)],[],[],[0]⟩
theorem PS (b0_0:List T) (b0_1:T) (b0_2:T) (a1:T) (y0:T) (y1:T) (y2:T) (I0:X19→Prop) (M0:X19→Nat) (h:∃y y_1 y_2:T,F 168 [.box 197 3 [.own 34 0 b0_0,.t 2 b0_1,.t 193 b0_2],.t 2 (a1.cell 0)] Z23 [y,y_1,y_2]∧∃y_3 y_4 y_5:T,F 168 [.box 197 3 [.own 34 0 y.list,.t 2 y_1,.t 193 y_2],.t 2 (a1.cell 1)] Z23 [y_3,y_4,y_5]∧(Rm (1+(a1.cell 5).list.length) 56)∧∃y y_6 y_7:T,F 170 [.box 197 3 [.own 34 0 y_3.list,.t 2 y_4,.t 193 y_5],.t 25 (T.l ((List.replicate 1 (T.g [T.b false,T.l [],T.l []])).set 0 (T.g [a1.cell 2,a1.cell 3,a1.cell 4])++(a1.cell 5).list))] Z23 [y,y_6,y_7]∧∃y_8 y_9 y_10:T,F 170 [.box 197 3 [.own 34 0 y.list,.t 2 y_6,.t 193 y_7],.t 25 (a1.cell 7)] Z23 [y_8,y_9,y_10]∧∃y y_11 y_12:T,F 169 [.box 197 3 [.own 34 0 y_8.list,.t 2 y_9,.t 193 y_10],.t 28 (a1.cell 10)] Z23 [y,y_11,y_12]∧(∃(i:X19),I0 i∧True∧y.list=i.1∧y_11=i.2.1∧y_12=i.2.2.1∧R47 a1 (kI 0=kI ↑i.2.2.2∧True))∧(∀(i:X19),true=true)∧∀(i:X19),I0 i→(ltI ↑i.2.2.2 (a1.cell 1).int=true→(Bd ↑i.2.2.2 (lenOf (a1.cell 6).list))∧∃y y_13 y_14:T,F 170 [.box 197 3 [.own 34 0 i.1,.t 2 i.2.1,.t 193 i.2.2.1],.t 25 (((a1.cell 6).list.getD (↑i.2.2.2:Int).toNat T.u).cell 0)] Z23 [y,y_13,y_14]∧(Bd ↑i.2.2.2 (lenOf (a1.cell 8).list))∧∃y_15 y_16 y_17:T,F 170 [.box 197 3 [.own 34 0 y.list,.t 2 y_13,.t 193 y_14],.t 25 (((a1.cell 8).list.getD (↑i.2.2.2:Int).toNat T.u).cell 0)] Z23 [y_15,y_16,y_17]∧∃(j:X19),I0 j∧M0 j<M0 i∧True∧y_15.list=j.1∧y_16=j.2.1∧y_17=j.2.2.1∧R47 a1 (kI (pL .i64 ↑i.2.2.2 1)=kI ↑j.2.2.2∧True))∧(ltI ↑i.2.2.2 (a1.cell 1).int=false→(True∧True)∧T.l i.1=y0∧i.2.1=y1∧i.2.2.1=y2∧True)):F 171 [.box 197 3 [.own 34 0 b0_0,.t 2 b0_1,.t 193 b0_2],.t 29 a1] Z23 [y0,y1,y2] :=
 p7 VW (by kernel_rfl) Tryz.func171 (by kernel_rfl) (.two .no (.two .no (.two .no (.two .no (.two .no (.two .no (.two .no (.lp (fun (ia:X19)=>[(pp 0,AV.box 197 0 3),(cell 0 0,.own 34 0 ia.1),(cell 0 1,.t 2 ia.2.1),(cell 0 2,.t 193 ia.2.2.1),(pp 1,AV.t 29 a1),(pp 3,AV.box 29 0 11)]++bxS 3 a1 0 Y1++[(pp 30,AV.t 2 (a1.cell 1)),(pp 31,.t 2 (.i .i64 (ia.2.2.2:Int)))]) I0 M0 (fun _=>.no))))))))) (by kernel_rfl) h
end Go.Pq
namespace Go.Pl
def rW (l:List UInt8):List T:=l.map fun x:UInt8=>T.i .u8 (x.toNat:Int)
def se (l:List UInt8):T:=.l (rW l)
theorem xC (l:List UInt8):(se l).list=rW l:=rfl
theorem AF (l:List UInt8):lenOf (se l).list=(l.length:Int):=by rw [xC];simp [lenOf,rW]
theorem NS (l:List UInt8) {i:Nat} (h:i<l.length):(se l).list.getD (i:Int).toNat T.u=.i .u8 ((l.getD i 0).toNat:Int):=by
 rw [WP,xC];simp [rW,WM,h]
def bvs (l:List UInt8):List (BitVec 32):=l.map fun x:UInt8=>BitVec.ofNat 32 x.toNat
def Dg (l:List UInt8):Nat:=(~~~ (Crc.De 0xffffffff#32 (bvs l))).toNat
theorem Hf (n:Nat) (h:n<4294967296):IntKind.u32.wrap (n:Int)=(n:Int):=by rw [FY];omega
theorem LU (x:BitVec 32):BitVec.ofInt IntKind.u32.bits (x.toNat:Int)=x:=by
 show BitVec.ofInt 32 (x.toNat:Int)=x
 rw [Yr,BitVec.ofNat_toNat,BitVec.setWidth_eq]
theorem Jd (x y:BitVec 32):qv .xor .u32 (x.toNat:Int) (y.toNat:Int)=((x ^^^ y).toNat:Int):=by
 show IntKind.u32.wrap ((BitVec.ofInt IntKind.u32.bits (x.toNat:Int) ^^^ BitVec.ofInt IntKind.u32.bits (y.toNat:Int)).toNat:Int)=_
 rw [LU,LU];exact Hf _ (x ^^^ y).isLt
theorem NR (x y:BitVec 32):qv .and .u32 (x.toNat:Int) (y.toNat:Int)=((x &&& y).toNat:Int):=by
 show IntKind.u32.wrap ((BitVec.ofInt IntKind.u32.bits (x.toNat:Int) &&& BitVec.ofInt IntKind.u32.bits (y.toNat:Int)).toNat:Int)=_
 rw [LU,LU];exact Hf _ (x &&& y).isLt
theorem Se (x:BitVec 32):sE .u32 (x.toNat:Int) 1=((x >>> 1).toNat:Int):=by
 unfold sE;rw [show (min (Int.toNat 1) IntKind.u32.bits)=1 from rfl,XZ _ (by decide),BitVec.toNat_ushiftRight,Nat.shiftRight_eq_div_pow];omega
theorem Sc (x:BitVec 32):qc .u32 0 (x.toNat:Int)=((-x).toNat:Int):=by
 have hx:=x.isLt
 show IntKind.u32.wrap (0-(x.toNat:Int))=_
 rw [FY,BitVec.toNat_neg];omega
theorem ON (x:BitVec 32):qv .xor .u32 (sE .u32 (x.toNat:Int) 1) (qv .and .u32 (qc .u32 0 (qv .and .u32 (x.toNat:Int) 1)) 3988292384)=((Crc.L7 x).toNat:Int):=by
 rw [show qv .and .u32 (x.toNat:Int) 1=((x &&& 1#32).toNat:Int) from NR x 1#32,Sc,Se,show qv .and .u32 ((-(x &&& 1#32)).toNat:Int) 3988292384=((-(x &&& 1#32) &&& Crc.poly).toNat:Int) from NR _ Crc.poly,Jd];rfl
theorem OM (b:UInt8):pG .u32 (b.toNat:Int)=((BitVec.ofNat 32 b.toNat).toNat:Int):=by
 have hb:=b.toNat_lt;rw [xf,Yi];omega
theorem Sd (x:BitVec 32):qv .xor .u32 IntKind.u32.max (x.toNat:Int)=((~~~ x).toNat:Int):=by
 have:IntKind.u32.max=((0xffffffff#32).toNat:Int):=rfl
 rw [this,Jd]
 congr 2
theorem LV (l:List UInt8) {k:Nat} (h:k<l.length):bvs (l.take (k+1))=bvs (l.take k)++[BitVec.ofNat 32 (l.getD k 0).toNat]:=by
 unfold bvs;rw [W9 h,XY,WM,WL h];rfl
theorem Mc (x:BitVec 32):∀n,Crc.L7 (Crc.OT n x)=Crc.OT (n+1) x:=by
 intro n
 induction n generalizing x with
 | zero=>rfl
 | succ n ih=>exact ih (Crc.L7 x)
end Go.Pl
namespace Go.Pq
open Go.Pl Go.Proofs
theorem HA (l:List UInt8) (hl:l.length≤2 ^ 40):F 175 [.t 34 (se l)] (zo 1 2) [.i .i64 (Dg l:Int)]:=by
 refine PU _ _ (fun i=>i.1=((Crc.De 0xffffffff#32 (bvs (l.take i.2))).toNat:Int)∧i.2≤l.length) (fun i=>l.length-i.2)
  (fun i j=>i.2<l.length∧j.1=((Crc.OT j.2 (Crc.De 0xffffffff#32 (bvs (l.take i.2)) ^^^ BitVec.ofNat 32 (l.getD i.2 0).toNat)).toNat:Int)∧j.2≤8) (fun _ j=>8-j.2) ?_
 rw [AF];refine ⟨⟨(4294967295,0),⟨rfl,WS _⟩,(by and_intros<;>first | exact trivial | rfl | (rw [pt (by omega)];rfl))⟩,fun _=>rfl,?_⟩;rintro ⟨s,k⟩ ⟨hs,hk⟩;dsimp only at hs hk ⊢;subst hs;refine ⟨fun q=>?_,fun q=>?_⟩
 ·rw [pw] at q
  have b_:k<l.length:=by omega
  rw [NS l b_];have e1:((T.i .u8 ((l.getD k 0).toNat:Int)).cell 0).int=((l.getD k 0).toNat:Int):=rfl;rw [e1,OM,Jd];refine ⟨⟨by omega,by omega⟩,⟨(_,0),⟨b_,rfl,WS _⟩,(by and_intros<;>first | exact trivial | rfl | (rw [pt (by omega)];rfl))⟩,fun _=>rfl,?_⟩;rintro ⟨s,r⟩ ⟨-,hs,hr⟩;dsimp only at hs hr ⊢;subst hs;refine ⟨fun w=>?_,fun w=>?_⟩
  ·rw [pw] at w
   rw [ON,Mc];exact ⟨by omega,(_,r+1),⟨b_,rfl,by dsimp only;omega⟩,by dsimp only;omega,(by and_intros<;>first | exact trivial | rfl | (rw [pt (by omega)];rfl))⟩
  ·rw [pF] at w
   have:r=8:=by omega
   subst this;refine ⟨(_,k+1),⟨?_,b_⟩,by dsimp only;omega,(by and_intros<;>first | exact trivial | rfl | (rw [pt (by omega)];rfl))⟩;dsimp only;rw [LV l b_,Crc.xg];rfl
 ·rw [pF] at q
  have:k=l.length:=by omega
  subst this;rw [XM,show (if IntKind.u32.signed=true then (-1:Int) else IntKind.u32.max)=IntKind.u32.max from rfl,Sd];have b_:=(~~~ (Crc.De 0xffffffff#32 (bvs l))).isLt;rw [vT (by omega)];exact ⟨a_,rfl,a_⟩
end Go.Pq
namespace Go.Pl
def leV:List UInt8→Nat
 | []=>0
 | x::r=>x.toNat+256*leV r
theorem N6:∀l:List UInt8,leV l<256 ^ l.length:=by
 intro l
 induction l with
 | nil=>decide
 | cons x r ih =>
  have hx:=x.toNat_lt;simp only [leV,W4,Xt];omega
theorem Gv (a:List UInt8) (x:UInt8):leV (a++[x])=x.toNat*256 ^ a.length+leV a:=by
 induction a with
 | nil=>simp [leV]
 | cons y r ih =>
  simp only [Yy,leV,ih,W4,Xt];have e:256*(x.toNat*256 ^ r.length)=x.toNat*(256 ^ r.length*256):=by rw [W8 256,Xu]
  rw [Yh];omega
def vN (l:List UInt8):Int:=IntKind.i64.wrap (leV (l.take 8):Int)
theorem TG (k:Nat):256 ^ k=2 ^ (8*k):=by rw [Nat.pow_mul]
end Go.Pl
namespace Go.Pq
open Go.Pl Go.Proofs
theorem vu (l:List UInt8) (hl:l.length≤2 ^ 40):F 176 [.box 210 1 [.t 34 (se l)]] Z18 [.i .i64 (vN l),se (l.drop 8)]:=by
 refine PV _ _ _ (fun i=>i.1=(leV (l.take i.2):Int)∧i.2≤min 8 l.length) (fun i=>8-i.2) ?_;rw [AF,show (8:Int)=((8:Nat):Int) from rfl,MA];refine ⟨⟨(0,0),⟨rfl,WS _⟩,(by and_intros<;>first | exact trivial | rfl | (rw [pt (by omega)];rfl))⟩,fun _=>rfl,?_⟩;rintro ⟨n,k⟩ ⟨hn,hk⟩;dsimp only at hn hk ⊢;subst hn;refine ⟨fun q=>?_,fun q=>?_⟩
 ·rw [pw] at q
  have b_:k<l.length:=by omega
  have h8:k<8:=by omega
  rw [NS l b_,xU (by omega)];have e1:((T.i .u8 ((l.getD k 0).toNat:Int)).cell 0).int=((l.getD k 0).toNat:Int):=rfl;have hx:=(l.getD k 0).toNat_lt;have ai:=N6 (l.take k);have i_:(l.take k).length=k:=by rw [Xg];omega
  rw [i_] at ai;have lU:leV (l.take (k+1))=(l.getD k 0).toNat*256 ^ k+leV (l.take k):=by
   rw [W9 b_,Gv,i_,WM,WL b_];rfl
  have gQ:=N6 (l.take (k+1));have cR:(l.take (k+1)).length=k+1:=by rw [Xg];omega
  rw [cR] at gQ;have hp:256 ^ (k+1)≤256 ^ 8:=XC (by decide) (by omega);have e8:(256:Nat) ^ 8=18446744073709551616:=by decide
  rw [e1,rY (by omega),show (((8:Nat):Int)*(k:Int))=((8*k:Nat):Int) from by omega,Cc (by omega) (by rw [←TG];rw [lU] at gQ;omega),TF (by rw [←TG];exact ai) (by rw [←TG];rw [lU] at gQ;omega),←TG,←lU];exact ⟨⟨by omega,by omega⟩,by omega,(_,k+1),⟨rfl,by omega⟩,by dsimp only;omega,(by and_intros<;>first | exact trivial | rfl | (rw [pt (by omega)];rfl))⟩
 ·rw [pF] at q
  have cJ:k=min 8 l.length:=by omega
  have et:l.take k=l.take 8:=by
   rw [cJ]
   rcases YP 8 l.length with g | g
   ·rw [YB (by omega)]
   ·rw [Nat.min_eq_right g,XM,WX g]
  have ed:T.l (List.take ((l.length:Int)-((min 8 l.length:Nat):Int)).toNat (List.drop ((min 8 l.length:Nat):Int).toNat (se l).list))=se (l.drop 8):=by
   rw [WP,xC];unfold se rW;rw [←List.map_drop,←List.map_take]
   congr 2
   rcases YP 8 l.length with g | g
   ·rw [YB (by omega)]
    exact WX (by rw [Xi];omega)
   ·rw [Nat.min_eq_right g,Zm,List.drop_of_length_le g];simp
  rw [et,ed];exact ⟨⟨by omega,by omega,by omega⟩,⟨a_,a_⟩,rfl,rfl,a_⟩
end Go.Pq
namespace Go.Pl
def sb (l:List UInt8):Nat:=(max 0 (min (vN l) (((l.drop 8).length / 8:Nat):Int))).toNat
theorem Fw (l:List UInt8):sb l≤l.length:=by unfold sb;rw [Xi];omega
def QY (l:List UInt8) (n:Nat):List Int:=(List.range n).map fun k=>vN (l.drop (8+8*k))
def uy (l:List UInt8):List Int×List UInt8:=(QY l (sb l),l.drop (8+8*sb l))
def QZ (l:List UInt8) (n:Nat):List UInt32:=(List.range n).map fun k=>UInt32.ofNat (vN (l.drop (8+8*k))%4294967296).toNat
def rR (l:List UInt8):List UInt32×List UInt8:=(QZ l (sb l),l.drop (8+8*sb l))
def B4 (q:Bool×List UInt32×List UInt32):T:=T.g [.b q.1,lim q.2.1,lim q.2.2]
def GU (l:List (Bool×List UInt32×List UInt32)):List T:=l.map B4
def x8 (l:List (Bool×List UInt32×List UInt32)):T:=.l (GU l)
def qD (l:List UInt8):Nat→List (Bool×List UInt32×List UInt32)×List UInt8
 | 0=>([],l.drop 8)
 | n+1=>((qD l n).1++[(decide (vN (qD l n).2=1),(rR ((qD l n).2.drop 8)).1,(rR (rR ((qD l n).2.drop 8)).2).1)],(rR (rR ((qD l n).2.drop 8)).2).2)
def BE (l:List UInt8):List (Bool×List UInt32×List UInt32)×List UInt8:=qD l (sb l)
theorem AX (l:List UInt8):∀n,(qD l n).1.length=n∧(qD l n).2.length≤l.length:=by
 intro n
 induction n with
 | zero=>exact ⟨rfl,by show (l.drop 8).length≤_;rw [Xi];omega⟩
 | succ n ih =>
  refine ⟨by show ((qD l n).1++[_]).length=_;simp [ih.1],?_⟩
  show (List.drop _ (List.drop _ (List.drop 8 _))).length≤_
  simp only [Xi]
  have:=ih.2
  omega
theorem uo (l:List UInt8) (k:Nat):(l.drop k).length≤l.length:=by rw [Xi];omega
theorem Gj {α:Type} (f:Nat→α) (z v:α) {n k:Nat} (hk:k<n) (hv:v=f k):((List.range k).map f++List.replicate (n-k) z).set k v=(List.range (k+1)).map f++List.replicate (n-(k+1)) z:=by
 rw [tE _ _ _ _ (by simp) (by omega),Za,XY,hv];rw [show n-k-1=n-(k+1) by omega];rfl
end Go.Pl
namespace Go.Pq
open Go.Pl Go.Proofs
theorem Cx (l:List UInt8) (hl:l.length≤2 ^ 40):F 179 [.box 210 1 [.t 34 (se l)]] Z18 [.i .i64 (sb l:Int),se (l.drop 8)]:=by
 refine PY _ _ _ ⟨_,_,vu l hl,by decide,⟨a_,a_⟩,?_,rfl,a_⟩;have hd:=uo l 8;rw [pC,AF];have e1:uQ .i64 ((l.drop 8).length:Int) 8=(((l.drop 8).length / 8:Nat):Int):=by
  unfold uQ;rw [show (8:Int)=((8:Nat):Int) from rfl,←Int.ofNat_tdiv];exact IntWalk.i64_in _ ⟨by omega,by omega⟩
 rw [e1]
 congr 1
 unfold sb xk xT
 generalize vN l=a
 generalize (l.drop 8).length / 8=b
 split<;>split<;>omega
theorem DX (l:List UInt8) (hl:l.length≤2 ^ 40):F 177 [.box 210 1 [.t 34 (se l)]] Z19 [qw (uy l).1,se (uy l).2]:=by
 have hc:=Fw l;refine PW _ _ _ (fun i=>i.1=(List.range i.2.2.2).map (fun k=>T.i .i64 (vN (l.drop (8+8*k))))++List.replicate (sb l-i.2.2.2) (T.i .i64 0)∧i.2.1=se (l.drop (8+8*i.2.2.2))∧i.2.2.1=sb l∧i.2.2.2≤sb l) (fun i=>sb l-i.2.2.2) ?_;refine ⟨_,_,Cx l hl,?_⟩;rw [pC,WP,Xm];refine ⟨⟨by omega,by omega,by omega,by omega⟩,⟨(List.replicate (sb l) (T.i .i64 0),se (l.drop 8),sb l,0),⟨rfl,rfl,rfl,WS _⟩,(by and_intros<;>first | exact trivial | rfl | (rw [pt (by omega)];rfl))⟩,fun _=>rfl,?_⟩;rintro ⟨g,d,m,k⟩ ⟨hg,hd,hm,hk⟩;dsimp only at hg hd hm hk ⊢;subst hd hm;refine ⟨fun q=>?_,fun q=>?_⟩
 ·rw [pw] at q
  have b_:k<sb l:=by omega
  have fE:g.length=sb l:=by rw [hg];simp;omega
  have eZ:=uo l (8+8*k);have nf:=vu (l.drop (8+8*k)) (by omega);rw [Zy] at nf;refine ⟨_,_,nf,⟨by omega,by omega⟩,((List.range (k+1)).map (fun k=>T.i .i64 (vN (l.drop (8+8*k))))++List.replicate (sb l-(k+1)) (T.i .i64 0),se (l.drop (8+8*(k+1))),sb l,k+1),⟨rfl,rfl,rfl,b_⟩,by dsimp only;omega,?_⟩;have e:g.set (0+((k:Nat):Int).toNat) (T.i .i64 (vN (l.drop (8+8*k))))=(List.range (k+1)).map (fun k=>T.i .i64 (vN (l.drop (8+8*k))))++List.replicate (sb l-(k+1)) (T.i .i64 0):=by
   rw [WV,WP,hg];exact Gj _ _ _ b_ rfl
  rw [e,show 8+8*k+8=8+8*(k+1) from by omega];exact (by and_intros<;>first | exact trivial | rfl | (rw [pt (by omega)];rfl))
 ·rw [pF] at q
  have cJ:k=sb l:=by omega
  subst cJ;refine ⟨⟨a_,a_⟩,?_,rfl,a_⟩;rw [Xc,pQ,hg,Yp,YY,XD];unfold uy QY qw;rw [Yo];rfl
theorem Ko (l:List UInt8) (hl:l.length≤2 ^ 40):F 201 [.box 210 1 [.t 34 (se l)]] Z20 [lim (rR l).1,se (rR l).2]:=by
 have hc:=Fw l;refine Qc _ _ _ (fun i=>i.1=(List.range i.2.2.2).map (fun k=>lm (UInt32.ofNat (vN (l.drop (8+8*k))%4294967296).toNat))++List.replicate (sb l-i.2.2.2) (T.i .u32 0)∧i.2.1=se (l.drop (8+8*i.2.2.2))∧i.2.2.1=sb l∧i.2.2.2≤sb l) (fun i=>sb l-i.2.2.2) ?_;refine ⟨_,_,Cx l hl,?_⟩;rw [pC,WP,Xm];refine ⟨⟨by omega,by omega,by omega,by omega⟩,⟨(List.replicate (sb l) (T.i .u32 0),se (l.drop 8),sb l,0),⟨rfl,rfl,rfl,WS _⟩,(by and_intros<;>first | exact trivial | rfl | (rw [pt (by omega)];rfl))⟩,fun _=>rfl,?_⟩;rintro ⟨g,d,m,k⟩ ⟨hg,hd,hm,hk⟩;dsimp only at hg hd hm hk ⊢;subst hd hm;refine ⟨fun q=>?_,fun q=>?_⟩
 ·rw [pw] at q
  have b_:k<sb l:=by omega
  have fE:g.length=sb l:=by rw [hg];simp;omega
  have eZ:=uo l (8+8*k);have nf:=vu (l.drop (8+8*k)) (by omega);rw [Zy] at nf;refine ⟨_,_,nf,?_⟩;rw [pC];have ec:T.i .u32 (pG .u32 (vN (l.drop (8+8*k))))=lm (UInt32.ofNat (vN (l.drop (8+8*k))%4294967296).toNat):=by
   unfold lm;rw [xf]
   congr 1
   generalize vN (l.drop (8+8*k))=x
   have h1:=YR x (show (4294967296:Int)≠0 by decide);have h2:=Zc x (show (0:Int)<4294967296 by decide);rw [YJ,Xj (by omega)];omega
  rw [ec];refine ⟨⟨by omega,by omega⟩,((List.range (k+1)).map (fun k=>lm (UInt32.ofNat (vN (l.drop (8+8*k))%4294967296).toNat))++List.replicate (sb l-(k+1)) (T.i .u32 0),se (l.drop (8+8*(k+1))),sb l,k+1),⟨rfl,rfl,rfl,b_⟩,by dsimp only;omega,?_⟩;have e:g.set (0+((k:Nat):Int).toNat) (lm (UInt32.ofNat (vN (l.drop (8+8*k))%4294967296).toNat))=(List.range (k+1)).map (fun k=>lm (UInt32.ofNat (vN (l.drop (8+8*k))%4294967296).toNat))++List.replicate (sb l-(k+1)) (T.i .u32 0):=by
   rw [WV,WP,hg];exact Gj _ _ _ b_ rfl
  rw [e,show 8+8*k+8=8+8*(k+1) from by omega];exact (by and_intros<;>first | exact trivial | rfl | (rw [pt (by omega)];rfl))
 ·rw [pF] at q
  have cJ:k=sb l:=by omega
  subst cJ;refine ⟨⟨a_,a_⟩,?_,rfl,a_⟩;rw [Xc,pQ,hg,Yp,YY,XD];unfold rR QZ lim qJ;rw [Yo];rfl
theorem TO (l:List UInt8) (hl:l.length≤2 ^ 40):F 178 [.box 210 1 [.t 34 (se l)]] Z21 [x8 (BE l).1,se (BE l).2]:=by
 have hc:=Fw l;refine PX _ _ _ (fun i=>i.1=GU (qD l i.2.2.2).1++List.replicate (sb l-i.2.2.2) (T.g [T.b false,T.l [],T.l []])∧i.2.1=se (qD l i.2.2.2).2∧i.2.2.1=sb l∧i.2.2.2≤sb l) (fun i=>sb l-i.2.2.2) ?_;refine ⟨_,_,Cx l hl,?_⟩;rw [pC,WP,Xm];refine ⟨⟨by omega,by omega,by omega,by omega⟩,⟨(List.replicate (sb l) (T.g [T.b false,T.l [],T.l []]),se (l.drop 8),sb l,0),⟨rfl,rfl,rfl,WS _⟩,(by and_intros<;>first | exact trivial | rfl | (rw [pt (by omega)];rfl))⟩,fun _=>rfl,?_⟩;rintro ⟨g,d,m,k⟩ ⟨hg,hd,hm,hk⟩;dsimp only at hg hd hm hk ⊢;subst hd hm;obtain ⟨p1,p2⟩:=AX l k;have mY:(GU (qD l k).1).length=k:=by unfold GU;rw [Xk,p1]
 refine ⟨fun q=>?_,fun q=>?_⟩
 ·rw [pw] at q
  have b_:k<sb l:=by omega
  have fE:g.length=sb l:=by rw [hg];simp;omega
  have d1:=uo (qD l k).2 8;have nf:=vu (qD l k).2 (by omega);have l1:=Ko ((qD l k).2.drop 8) (by omega);have d2:(rR ((qD l k).2.drop 8)).2.length≤(qD l k).2.length:=by
   show (List.drop _ _).length≤_
   rw [Xi];omega
  have l2:=Ko (rR ((qD l k).2.drop 8)).2 (by omega);refine ⟨_,_,nf,_,_,l1,_,_,l2,⟨by omega,by omega⟩,(GU (qD l (k+1)).1++List.replicate (sb l-(k+1)) (T.g [T.b false,T.l [],T.l []]),se (qD l (k+1)).2,sb l,k+1),⟨rfl,rfl,rfl,b_⟩,by dsimp only;omega,?_⟩;have e:g.set (0+((k:Nat):Int).toNat) ((((g.getD (0+((k:Nat):Int).toNat) T.u).setCell 0 (T.b (eqI (T.i .i64 (vN (qD l k).2)).int 1))).setCell 1 ((lim (rR ((qD l k).2.drop 8)).1).cell 0)).setCell 2 ((lim (rR (rR ((qD l k).2.drop 8)).2).1).cell 0)) =
    GU (qD l (k+1)).1++List.replicate (sb l-(k+1)) (T.g [T.b false,T.l [],T.l []]):=by
   rw [WV,WP,hg,CB _ _ _ _ mY (by omega),tE _ _ _ _ mY (by omega),show sb l-k-1=sb l-(k+1) by omega]
   congr 1
   show GU (qD l k).1++[_]=GU ((qD l k).1++[_])
   unfold GU;rw [XY]
   congr 1
  rw [e];exact (by and_intros<;>first | exact trivial | rfl | (rw [pt (by omega)];rfl))
 ·rw [pF] at q
  have cJ:k=sb l:=by omega
  subst cJ;refine ⟨⟨a_,a_⟩,?_,rfl,a_⟩;rw [Xc,pQ,hg,Yp,YY,XD];rfl
end Go.Pq
namespace Go.Pl
def WF (q:Bool×List UInt32×List UInt32) (r:Rat):Prop:=B4 q=qr r∧rl r≤max (max q.2.1.length q.2.2.length) 1
end Go.Pl
namespace Go.Pq
open Go.Pl Go.Proofs
theorem D7 (a:List UInt32) (hl:a.length≤2 ^ 60):∃v,F 151 [.t 22 (lim a)] (zo 1 4) [.b v]∧(v=true↔Lb.Canon a):=by
 by_cases h:a=[]
 ·subst h
  exact ⟨true,CR [] (by decide) (.inl rfl),fun _=>.inl rfl,fun _=>rfl⟩
 ·have hp:=XB.2 h
  have e:qc .i64 (a.length:Int) 1=((a.length-1:Nat):Int):=by rw [qm (by omega)];omega
  refine ⟨neI ((a.getD (a.length-1) 0).toNat:Int) 0,JW _ _ ?_,?_⟩
  ·rw [pE,py,e,WP,qi a (by omega),sC]
   refine ⟨fun _=>⟨by omega,by omega⟩,a_,?_,a_⟩;rw [rk.2 (by omega)];rfl
  ·rw [rr]
   constructor
   ·intro q;exact .inr (by unfold Lb.dg;omega)
   ·intro q
    rcases q with q | q
    ·exact absurd q h
    ·unfold Lb.dg at q;omega
theorem ND (q:Bool×List UInt32×List UInt32) (h1:q.2.1.length≤2 ^ 32) (h2:q.2.2.length≤2 ^ 32):∃v,F 115 [.t 23 (B4 q)] (zo 1 4) [.b v]∧(v=true→∃r,WF q r):=by
 obtain ⟨s,a,b⟩:=q;dsimp only at h1 h2;obtain ⟨va,fa,ea⟩:=D7 a (by omega);obtain ⟨vb,fb,eb⟩:=D7 b (by omega);have c0:(B4 (s,a,b)).cell 0=.b s:=rfl;have c1:(B4 (s,a,b)).cell 1=lim a:=rfl;have c2:(B4 (s,a,b)).cell 2=lim b:=rfl
 by_cases hv:va=true∧vb=true
 ·obtain ⟨rfl,rfl⟩:=hv
  have ha:=ea.1 rfl;have hb:=eb.1 rfl;have na:=Lb.BY ha;have nb:=Lb.BY hb
  by_cases a0:a=[]
  ·subst a0
   refine ⟨(!s) && decide (b=[]),Au _ _ ⟨_,fa,_,fun _=>fb,fun h=>(by cases h),fun _=>⟨fun _=>⟨a_,?_,a_⟩,fun h=>?_⟩⟩,fun h=>?_⟩
   ·rw [c0,c2,vL]
    cases s with
    | true=>rfl
    | false =>
     show T.b (eqI (lenOf (lim b).list) 0)=_
     by_cases b0:b=[]
     ·rw [(tx b).2 b0,Xq b0];rfl
     ·rw [(ua b).2 b0,Xh b0];rfl
   ·rw [c1,(tx []).2 rfl] at h;cases h
   ·simp only [XG,YX,Xo] at h
    obtain ⟨rfl,rfl⟩:=h;exact ⟨0,rfl,by decide⟩
  ·have n0:Lb.val a≠0:=fun z=>a0 (by rw [←na,z];rfl)
   by_cases b0:b=[]
   ·subst b0
    refine ⟨true,Au _ _ ⟨_,fa,_,fun _=>fb,fun h=>(by cases h),fun _=>⟨fun h=>?_,fun h=>⟨fun h3=>⟨a_,rfl,a_⟩,fun h3=>?_⟩⟩⟩,fun _=>⟨frac s (Lb.val a) 1,?_,?_⟩⟩
    ·rw [c1,(ua a).2 a0] at h;cases h
    ·rw [c2,(tx []).2 rfl] at h3;cases h3
    ·rw [xZ s (Lb.val a) 1 (by decide) n0,Nat.gcd_one_right,Zo,na];rfl
    ·have:=Ay s (Lb.val a) 1 (by decide)
     rw [na,Lb.uc] at this;refine XU this ?_
     show max a.length 1≤max (max a.length ([]:List UInt32).length) 1
     simp only [YH];omega
   ·have d0:Lb.val b≠0:=fun z=>b0 (by rw [←nb,z];rfl)
    have k1:=Cu b (Lb.nat 1) (by omega) (by rw [Lb.uc];decide);rw [Lb.pA] at k1;have k2:=Qx a b (by omega) (by omega) ha hb;have k3:=Cu (Lb.nat (Nat.gcd (Lb.val a) (Lb.val b))) (Lb.nat 1) (by
     have:=tA (Nat.gcd_le_left (Lb.val b) (YQ n0))
     rw [na] at this;omega) (by rw [Lb.uc];decide)
    rw [Lb.pA,Lb.pA] at k3;refine ⟨decide (Lb.val b≠1∧Nat.gcd (Lb.val a) (Lb.val b)=1),Au _ _ ⟨_,fa,_,fun _=>fb,fun h=>(by cases h),fun _=>⟨fun h=>?_,fun h=>⟨fun h3=>?_,fun h3=>⟨_,DY,_,k1,_,fun _=>k2,_,fun _=>DY,_,fun _=>k3,a_,?_,a_⟩⟩⟩⟩,fun h=>?_⟩
    ·rw [c1,(ua a).2 a0] at h;cases h
    ·rw [c2,(ua b).2 b0] at h3;cases h3
    ·rw [pC,pC]
     by_cases e1:Lb.val b=1
     ·rw [sq.2 (rX.2 e1),Xh (fun z=>z.1 e1)];rfl
     ·rw [rr.2 fun z=>e1 (rX.1 z)]
      by_cases e2:Nat.gcd (Lb.val a) (Lb.val b)=1
      ·rw [qe.2 (rX.2 e2),Xq ⟨e1,e2⟩];rfl
      ·rw [rk.2 fun z=>e2 (rX.1 z),Xh (fun z=>e2 z.2)];rfl
    ·rw [Xo] at h
     refine ⟨frac s (Lb.val a) (Lb.val b),?_,?_⟩
     ·rw [xZ s _ _ d0 n0,h.2,Zo,Zo,na]
      unfold ux;rw [By h.1,nb];rfl
     ·have:=Ay s (Lb.val a) (Lb.val b) d0
      rw [na,nb] at this;refine XU this ?_
      show max a.length b.length≤max (max a.length b.length) 1
      omega
 ·refine ⟨false,Au _ _ ⟨_,fa,_,fun _=>fb,fun _=>⟨a_,rfl,a_⟩,fun h=>?_⟩,fun h=>(by cases h)⟩
  exfalso
  cases va<;>cases vb<;>first | (cases h;done) | exact hv ⟨rfl,rfl⟩
end Go.Pq
