/- Part 10 of 11. A session's sealed cut that was changed, shortened, lengthened or emptied is not resumed, and a cut is resumed under another model only where the two models are one. Names are shortened and spaces left out by program, for the size. -/
import Derived.Test.YtjhgombngbgjbaaGreatDoorQ9
import Derived.Shelf.LaysM
import Derived.Shelf.RegionOpenPlain
import Derived.Shelf.Bytes.Len
import Derived.Shelf.Bytes.TryGrow
import Derived.Shelf.Bytes.GrowSlice
import Derived.Lib.ByteType
import Derived.Lib.Walk
import Derived.Lib.Buffer
import Derived.Lib.BufferMore
import Derived.Lib.BufferGrow
import Derived.Lib.BufferKept
import Derived.Lib.BufferOwn
import Derived.Lib.Hide
import Derived.Laws.MakeOwn
import Derived.WalkKit
import Derived.RegionTactic
import Derived.Deep.RegionWith
import Derived.Deep.Draws
import Derived.BigCall
import Derived.BigGuard
import Derived.Lib.BufferWrite
import Derived.Lib.BufferSrc
import Derived.Shelf.Bytes.Small
import Derived.Deep.RegionLaw
set_option linter.unusedVariables false
set_option linter.unusedSimpArgs false
set_option linter.unusedSectionVars false
set_option linter.constructorNameAsVariable false
set_option maxRecDepth 100000
namespace Go.Pl
abbrev Raw:=Bool×List UInt32×List UInt32
def iwL (m:List (List Int)):List T:=m.map qw
def iwT (m:List (List Int)):T:=.l (iwL m)
theorem Gt (m:List (List Int)):(iwT m).list=iwL m:=rfl
theorem BT (m:List (List Int)):lenOf (iwT m).list=(m.length:Int):=by rw [Gt];simp [lenOf,iwL]
theorem Ki (m:List (List Int)) {i:Nat} (h:i<m.length):(iwT m).list.getD (i:Int).toNat T.u=qw (m.getD i []):=by
 rw [WP,Gt];simp [iwL,WM,h]
theorem xN (l:List Int):(qw l).cell 0=qw l:=rfl
theorem A8 (q:Raw):(B4 q).part 0 3=B4 q:=rfl
theorem TP (q:Raw):(G3 (B4 q))=B4 q:=rfl
theorem B5 (l:List Raw):(x8 l).list=GU l:=rfl
theorem xQ (l:List Raw):lenOf (x8 l).list=(l.length:Int):=by rw [B5];simp [lenOf,GU]
def MO:Raw:=(false,[],[])
theorem FB (l:List Raw) {i:Nat} (h:i<l.length):(x8 l).list.getD (i:Int).toNat T.u=B4 (l.getD i MO):=by
 rw [WP,B5];simp [GU,WM,h]
def sR (h:Md) (t:Int) (sc:List Raw) (tails:List (List Int)) (done:List Int):T:=.g [.i .i64 (h.sym:Int),.i .i64 (h.st:Int),.b (decide (h.empty.num<0)),lim (Lb.nat h.empty.num.natAbs),ux h.empty.den,
 pO h.init,p9 h.trans,pO h.stop,p9 h.emit,rP (List.replicate h.st false),qH h.ties,.i .i64 t,x8 sc,iwT tails,qw done]
theorem MZ (h:Md) (t:Int) (sc:List Raw) (tails:List (List Int)) (done:List Int):(G15 (sR h t sc tails done))=sR h t sc tails done:=rfl
theorem CX (h:Md) (t:Int) (sc:List Raw) (tails:List (List Int)) (done:List Int):(G11 (sR h t sc tails done))=rx h:=rfl
theorem K1 (h:Md) (t:Int) (sc:List Raw) (tails:List (List Int)) (done:List Int):((sR h t sc tails done).cell 1).int=(h.st:Int):=rfl
theorem yb (h:Md) (t:Int) (sc:List Raw) (tails:List (List Int)) (done:List Int):((sR h t sc tails done).cell 11).int=t:=rfl
theorem GV (h:Md) (t:Int) (sc:List Raw) (tails:List (List Int)) (done:List Int):(sR h t sc tails done).cell 12=x8 sc:=rfl
theorem ya (h:Md) (t:Int) (sc:List Raw) (tails:List (List Int)) (done:List Int):(sR h t sc tails done).cell 13=iwT tails:=rfl
theorem zT (h:Md) (t:Int) (sc:List Raw) (tails:List (List Int)) (done:List Int):(sR h t sc tails done).cell 14=qw done:=rfl
theorem t8 (l:List Nat):qw (l.map fun x:Nat=>(x:Int))=qH l:=by unfold qw qH ry;rw [Yo];rfl
def Bad (st:Nat) (s:Int):Bool:=decide (s<0) || decide ((st:Int)≤s)
end Go.Pl
namespace Go.Pq
open Go.Pl Go.Proofs
theorem JD (m:List (List Int)) (hm:m.length≤2 ^ 20) (hf:m.flatten.length≤2 ^ 38):F 118 [.t 59 (iwT m)] (zo 1 28) [qw m.flatten]:=by
 refine JS _ _ (fun i=>i.1=(m.take i.2).flatten.length∧i.2≤m.length) (fun i=>m.length-i.2) (fun i=>i.1=(m.take i.2.2).flatten.map (fun x=>T.i .i64 x)∧i.2.2≤m.length) (fun i=>m.length-i.2.2) ?_;rw [BT];refine ⟨⟨(0,0),⟨rfl,WS _⟩,(by and_intros<;>first | exact trivial | rfl | (rw [pt (by omega)];rfl))⟩,fun _=>rfl,?_⟩;rintro ⟨s,k⟩ ⟨hs,hk⟩;dsimp only at hs hk ⊢;have P_:=vh m k;refine ⟨fun h1=>?_,fun h1=>?_⟩
 ·rw [pw] at h1
  have b_:k<m.length:=by omega
  have bQ:=vh m (k+1);rw [rG m b_,WN] at bQ;rw [Ki m b_,xN,rH,pt (by omega)];refine ⟨⟨by omega,by omega⟩,fun q=>(by rw [pw] at q;omega),fun _=>⟨(s+(m.getD k []).length,k+1),⟨by dsimp only;rw [rG m b_,WN,hs],b_⟩,by dsimp only;omega,by and_intros<;>first | exact trivial | rfl | (rw [pt (by omega)];rfl)⟩⟩
 ·refine ⟨_,Ka s (by omega),⟨([],s,0),⟨rfl,WS _⟩,(by and_intros<;>first | exact trivial | rfl | (rw [pt (by omega)];rfl))⟩,fun _=>rfl,?_⟩
  rintro ⟨g,s2,j⟩ ⟨hg,hj⟩;dsimp only at hg hj ⊢;subst hg;refine ⟨fun h2=>?_,fun h2=>?_⟩
  ·rw [pw] at h2
   have b_:j<m.length:=by omega
   have bQ:=vh m (j+1);rw [rG m b_,WN] at bQ;rw [Ki m b_,xN,wC,pQ,Xk,Xk];have hr:room=140737488355328:=rfl;refine ⟨⟨by omega,by omega⟩,⟨by rw [hr];omega,by omega⟩,((m.take (j+1)).flatten.map (fun x=>T.i .i64 x),s2,j+1),⟨rfl,b_⟩,by dsimp only;omega,?_⟩;rw [rG m b_,XY];exact (by and_intros<;>first | exact trivial | rfl | (rw [pt (by omega)];rfl))
  ·rw [pF] at h2
   have:j=m.length:=by omega
   subst this;rw [XM,Xc,pQ];exact ⟨a_,rfl,a_⟩
theorem HF (a b:List Int) (ha:a.length≤2 ^ 36) (hb:b.length≤2 ^ 36):F 118 [.t 59 (.l [qw a,qw b])] (zo 1 28) [qw (a++b)]:=by
 have:=JD [a,b] (by simp) (by simp;omega)
 have e:[a,b].flatten=a++b:=by simp
 rw [e] at this;exact this
theorem Ib (x:T) (st:Nat) (hx:(x.cell 1).int=(st:Int)) (l:List Int) (hl:l.length≤2 ^ 40):F 119 [.t 28 (qw l),.t 1 (.f 120 [.e 60 x])] (zo 2 4) [.b (decide (l.findIdx (Bad st)<l.length))]:=by
 have c1:F 158 [.t 28 (qw l),.t 1 (.f 120 [.e 60 x])] (zo 2 2) [.i .i64 (if l.findIdx (Bad st)<l.length then ((l.findIdx (Bad st):Nat):Int) else -1)]:=by
  refine JX _ _ _ (fun k=>k≤l.length∧k≤l.findIdx (Bad st)) (fun k=>l.length-k) ?_;rw [rH];refine ⟨⟨0,⟨WS _,WS _⟩,(by and_intros<;>first | exact trivial | rfl | (rw [pt (by omega)];rfl))⟩,fun _=>rfl,?_⟩;rintro k ⟨hk,hf⟩;refine ⟨fun h1=>?_,fun h1=>?_⟩
  ·rw [pw] at h1
   have b_:k<l.length:=by omega
   rw [wA l b_,r9];have eg:l.getD k 0=l[k]:=by rw [WM,WL b_];rfl
   refine ⟨⟨by omega,by omega⟩,.b (Bad st (l.getD k 0)),⟨rfl,JU _ _ _ ⟨a_,?_,a_⟩⟩,fun q=>?_,fun q=>?_⟩
   ·rw [hx,pC]
    unfold Bad ltI leI
    by_cases g:l.getD k 0<0
    ·rw [Xq g];rfl
    ·rw [Xh g];rfl
   ·have q:Bad st (l.getD k 0)=true:=q
    have:k=l.findIdx (Bad st):=by
     rcases YP k (l.findIdx (Bad st)) with g | g
     ·have:=List.not_of_lt_findIdx g
      rw [eg] at q;rw [q] at this;cases this
     ·omega
    rw [←this,WY b_];exact ⟨a_,rfl,a_⟩
   ·have q:Bad st (l.getD k 0)=false:=q
    refine ⟨k+1,⟨b_,?_⟩,by omega,(by and_intros<;>first | exact trivial | rfl | (rw [pt (by omega)];rfl))⟩
    rcases YP k (l.findIdx (Bad st)) with g | g
    ·exact g
    ·exfalso
     have e:k=l.findIdx (Bad st):=by omega
     have:=List.findIdx_getElem (xs:=l) (p:=Bad st) (w:=by omega)
     simp only [←e] at this;rw [eg] at q;rw [q] at this;cases this
  ·rw [pF] at h1
   rw [WZ (by omega)];exact ⟨a_,rfl,a_⟩
 refine JT _ _ _ ⟨_,c1,a_,?_,a_⟩;rw [pC];split
 ·rename_i h;rw [rD.2 (by omega),Xq h]
 ·rename_i h;rw [tH.2 (by omega),Xh h]
theorem Nj (q:Raw) (h1:q.2.1.length≤2 ^ 30) (h2:q.2.2.length≤2 ^ 30):∃v,F 68 [.t 23 (B4 q)] (zo 1 4) [.b v]∧(v=true→∃r,B4 q=qr r∧rl r≤2 ^ 30∧Share r):=by
 have c1:=Kr 1 1 (by decide) (by decide) (by decide);rw [CK] at c1;obtain ⟨v,fv,ev⟩:=ND q (by omega) (by omega)
 cases v with
 | false=>exact ⟨false,J1 _ _ ⟨_,_,c1,_,fv,.u,fun z=>(by cases z.1),.u,fun z=>(by cases z.1),a_,rfl,a_⟩,fun z=>(by cases z)⟩
 | true =>
  obtain ⟨r,er,hr⟩:=ev rfl;have bB:rl r≤2 ^ 30:=by omega
  have c2:=sZ r 1 bB (by rw [B7];decide);rw [er] at fv ⊢;refine ⟨leI 0 (FM r.num) && leI (Du r 1) 0,J1 _ _ ⟨_,_,c1,_,fv,_,fun _=>vG r (by omega),_,fun _=>c2,a_,?_,a_⟩,fun z=>?_⟩
  ·rw [pC,pC]
   cases leI 0 (FM r.num)<;>rfl
  ·rw [XG,rD,rD,EM,←Int.not_lt,zV,GE,Rat.not_lt] at z
   exact ⟨r,rfl,bB,z.1,z.2⟩
theorem BP (h:Md) (t:Int) (sc:List Raw) (tails:List (List Int)) (done:List Int) {i:Nat} (hi:i<tails.length) (ht:0<t) (hl:tails.length≤2 ^ 36) (hd:done.length≤2 ^ 36) (cq:∀l∈tails,l.length≤2 ^ 36) :
  F 70 [.t 60 (sR h t sc tails done),.t 2 (.i .i64 (i:Int))] (zo 2 4) [.b (decide (((done++tails.getD i []).length:Int)=t∧(done++tails.getD i []).getD (t.toNat-1) 0=(i:Int)∧∀s∈done++tails.getD i [],Bad h.st s=false))]:=by
 have lV:=cq _ (pN (d:=([]:List Int)) hi);have c1:=HF done (tails.getD i []) hd lV;have c2:=Ib (sR h t sc tails done) h.st (K1 h t sc tails done) (done++tails.getD i []) (by rw [WN];omega)
 generalize hw:done++tails.getD i []=w at *
 have js:w.length≤2 ^ 37:=by rw [←hw,WN];omega
 refine NW _ _ _ ?_;rw [ya,BT,pC,Ki _ hi,xN,zT,yb];refine ⟨⟨by omega,by omega⟩,_,c1,?_⟩;rw [rH];refine ⟨fun q=>?_,_,fun _=>c2,a_,?_,a_⟩
 ·have q:=q.1
  rw [qe] at q;rw [qm (by omega)];omega
 ·by_cases e1:(w.length:Int)=t
  ·rw [qe.2 e1,qm (by omega),show ((w.length:Int)-1)=((w.length-1:Nat):Int) from by omega,wA w (by omega),r9,pC]
   have et:t.toNat-1=w.length-1:=by omega
   rw [et]
   by_cases e2:w.getD (w.length-1) 0=(i:Int)
   ·rw [qe.2 e2]
    by_cases e3:w.findIdx (Bad h.st)<w.length
    ·have hb:=List.findIdx_getElem (xs:=w) (p:=Bad h.st) (w:=e3)
     have:¬ ∀s∈w,Bad h.st s=false:=fun z=>by
      have:=z _ (YE e3)
      rw [hb] at this;cases this
     rw [Xq e3,Xh (fun z=>this z.2.2)];rfl
    ·have:∀s∈w,Bad h.st s=false:=by
      intro s hs;obtain ⟨j,hj,rfl⟩:=Ys hs
      have:=List.not_of_lt_findIdx (p:=Bad h.st) (xs:=w) (i:=j) (by omega)
      simpa using this
     rw [Xh e3,Xq ⟨e1,e2,this⟩];rfl
   ·have:decide ((w.length:Int)=t∧w.getD (w.length-1) 0=(i:Int)∧∀s∈w,Bad h.st s=false)=false:=Xh (fun z=>e2 z.2.1)
    rw [rk.2 e2,this];rfl
  ·have:decide ((w.length:Int)=t∧w.getD (t.toNat-1) 0=(i:Int)∧∀s∈w,Bad h.st s=false)=false:=Xh (fun z=>e1 z.1)
   rw [rk.2 e1,this];rfl
theorem Ck (h:Md) (t:Int) (sc:List Raw) (tails:List (List Int)) (done:List Int) {i:Nat} (hi:i<sc.length) (hl:sc.length≤2 ^ 40) {r:Rat} (hr:B4 (sc.getD i MO)=qr r) (hq:rl r≤2 ^ 30) :
  F 69 [.t 60 (sR h t sc tails done),.t 2 (.i .i64 (i:Int))] (zo 2 4) [.b (decide (0<r))]:=by
 refine NV _ _ _ ?_;rw [GV,xQ,pC,FB _ hi,A8,hr];refine ⟨⟨by omega,by omega⟩,_,vG r (by omega),a_,?_,a_⟩;rw [pC];unfold ltI
 by_cases g:0<r
 ·rw [Xq g,Xq (by rw [wM,B0];exact g)]
 ·rw [Xh g,Xh (by rw [wM,B0];exact g)]
theorem CT {a b:Rat} (h:qr a=qr b):a=b:=by
 unfold qr at h
 injection h with h
 simp only [ZM,T.b.injEq,ZP] at h;obtain ⟨h1,h2,h3⟩:=h;have e2:=Xx Lb.val (Fi h2);rw [Lb.pA,Lb.pA] at e2;have e3:=Fi h3;have hd:a.den=b.den:=by
  unfold dl at e3;split at e3<;>split at e3
  ·omega
  ·exact absurd (Lb.sA.1 e3.symm) (tP b)
  ·exact absurd (Lb.sA.1 e3) (tP a)
  ·have:=Xx Lb.val e3
   rwa [Lb.pA,Lb.pA] at this
 have gh:(a.num<0)↔(b.num<0):=by simpa using h1
 exact KT (by omega) hd
def Cj (sc:List Raw) (k:Nat) (r:Rat):Prop:=B4 (sc.getD k MO)=qr r∧rl r≤2 ^ 30∧Share r
abbrev Ul (st:Nat) (t:Int) (tails:List (List Int)) (done:List Int) (k:Nat):Prop:=((done++tails.getD k []).length:Int)=t∧(done++tails.getD k []).getD (t.toNat-1) 0=(k:Int)∧∀s∈done++tails.getD k [],Bad st s=false
def OkW (st:Nat) (t:Int) (sc:List Raw) (tails:List (List Int)) (done:List Int) (k:Nat):Prop:=∃r,Cj sc k r∧(0<r→Ul st t tails done k)∧(¬ 0<r→tails.getD k []=[])
theorem xv {h:Md} {c:Nat} (hk:rV h c) (t:Int) (sc:List Raw) (tails:List (List Int)) (done:List Int) (hs:sc.length=h.st) (hr:∀q∈sc,q.2.1.length≤2 ^ 30∧q.2.2.length≤2 ^ 30) (hl:tails.length=h.st) (hd:done.length≤2 ^ 36) (cq:∀l∈tails,l.length≤2 ^ 36)
  (ht:0<t∧t≤256) (v:Bool) (v1:¬ (∀k,k<h.st→OkW h.st t sc tails done k)→v=false) (v2:(∀k,k<h.st→OkW h.st t sc tails done k)→(¬ ∃k r,k<h.st∧Cj sc k r∧0<r)→v=false)
  (v3:(∀k,k<h.st→OkW h.st t sc tails done k)→(∃k r,k<h.st∧Cj sc k r∧0<r)→∃n:Int,F 71 [.t 60 (sR h t sc tails done),.t 59 (iwT tails)] (zo 2 2) [.i .i64 n]∧v=eqI n 0) :
  F 34 [.t 60 (sR h t sc tails done)] (zo 1 4) [.b v]:=by
 have z_:=hk.st;refine DB _ _ (fun i=>i.2≤h.st∧(∀j,j<i.2→OkW h.st t sc tails done j)∧(i.1=true→∃k r,k<h.st∧Cj sc k r∧0<r)∧(i.1=false→¬ ∃k r,k<i.2∧Cj sc k r∧0<r)) (fun i=>h.st-i.2) ?_;rw [CX,MZ,yb,GV,ya,zT,xQ,BT,rH,K1,hs,hl,rT];refine ⟨_,vA h c hk,fun q=>?_,fun _=>⟨fun q=>?_,fun _=>⟨fun q=>(by cases q),fun _=>⟨⟨(false,0),⟨WS _,fun j hj=>by omega,fun q=>(by cases q),fun _ ⟨k,r,hk,_⟩=>by omega⟩,(by and_intros<;>first | exact trivial | rfl | (rw [pt (by omega)];rfl))⟩,fun _=>rfl,?_⟩⟩⟩⟩
 ·exfalso
  rw [pF.2 (by omega),pF.2 (by omega)] at q;cases q
 ·exfalso;rw [qe] at q;omega
 rintro ⟨s,k⟩ ⟨aR,l_,aX,iv⟩;dsimp only at aR l_ aX iv ⊢;refine ⟨fun h1=>?_,fun h1=>?_⟩
 ·rw [pw] at h1
  have b_:k<h.st:=by omega
  have hm:=hr _ (pN (d:=MO) (show k<sc.length by omega));have lW:=cq _ (pN (d:=([]:List Int)) (show k<tails.length by omega));rw [FB _ (show k<sc.length by omega),A8,TP,Ki _ (show k<tails.length by omega),xN,rH];refine ⟨⟨by omega,by omega⟩,?_⟩;have ends:¬ OkW h.st t sc tails done k→T.b false=T.b v:=fun q=>by rw [v1 fun z=>q (z k b_)]
  have behind:∀r,Cj sc k r→∃y,F 69 [.t 60 (sR h t sc tails done),.t 2 (.i .i64 (k:Int))] (zo 2 4) [.b y]∧y=decide (0<r):=fun r g=>⟨_,Ck h t sc tails done (show k<sc.length by omega) (by omega) g.1 g.2.1,rfl⟩;obtain ⟨vs,fs,es⟩:=Nj (sc.getD k MO) hm.1 hm.2
  by_cases hO:OkW h.st t sc tails done k
  ·obtain ⟨r,g,g1,g2⟩:=hO
   have fs':F 68 [.t 23 (B4 (sc.getD k MO))] (zo 1 4) [.b true]:=by rw [g.1];exact Lf r g.2.1 g.2.2
   refine ⟨_,fs',fun q=>(by cases q),fun _=>⟨_,Ck h t sc tails done (show k<sc.length by omega) (by omega) g.1 g.2.1,fun q=>?_,fun q=>?_⟩⟩
   ·have h3:0<r:=by
     have:decide (0<r)=true:=q
     simpa using this
    have f2:=BP h t sc tails done (show k<tails.length by omega) ht.1 (by omega) hd cq;rw [Xq (g1 h3)] at f2;refine ⟨_,f2,fun q=>(by cases q),fun _=>⟨(true,k+1),⟨b_,fun j hj=>?_,fun _=>⟨k,r,b_,g,h3⟩,fun q=>(by cases q)⟩,by dsimp only;omega,(by and_intros<;>first | exact trivial | rfl | (rw [pt (by omega)];rfl))⟩⟩;dsimp only at hj
    by_cases e:j=k
    ·subst e;exact ⟨r,g,g1,g2⟩
    ·exact l_ j (by omega)
   ·have h3:¬ 0<r:=by
     have:decide (0<r)=false:=q
     simpa using this
    rw [g2 h3];refine ⟨⟨by omega,by omega⟩,fun q=>(by cases q),fun _=>⟨(s,k+1),⟨b_,fun j hj=>?_,aX,fun e=>?_⟩,by dsimp only;omega,(by and_intros<;>first | exact trivial | rfl | (rw [pt (by omega)];rfl))⟩⟩
    ·dsimp only at hj
     by_cases e:j=k
     ·subst e;exact ⟨r,g,g1,g2⟩
     ·exact l_ j (by omega)
    ·dsimp only at e ⊢
     rintro ⟨j,r',hj,gj,pj⟩
     by_cases e2:j=k
     ·subst e2
      have:qr r=qr r' := by rw [←g.1,←gj.1]
      exact h3 (by rw [CT this];exact pj)
     ·exact iv e ⟨j,r',by omega,gj,pj⟩
  ·cases vs with
   | false=>exact ⟨_,fs,fun _=>⟨a_,ends hO,a_⟩,fun q=>(by cases q)⟩
   | true =>
    obtain ⟨r,g⟩:=es rfl;have g:Cj sc k r:=g;refine ⟨_,fs,fun q=>(by cases q),fun _=>⟨_,Ck h t sc tails done (show k<sc.length by omega) (by omega) g.1 g.2.1,fun q=>?_,fun q=>?_⟩⟩
    ·have h3:0<r:=by
      have:decide (0<r)=true:=q
      simpa using this
     have f2:=BP h t sc tails done (show k<tails.length by omega) ht.1 (by omega) hd cq
     by_cases hf:Ul h.st t tails done k
     ·exact absurd ⟨r,g,fun _=>hf,fun z=>absurd h3 z⟩ hO
     ·rw [Xh hf] at f2
      exact ⟨_,f2,fun _=>⟨a_,ends hO,a_⟩,fun q=>(by cases q)⟩
    ·have h3:¬ 0<r:=by
      have:decide (0<r)=false:=q
      simpa using this
     by_cases hf:tails.getD k []=[]
     ·exact absurd ⟨r,g,fun z=>absurd z h3,fun _=>hf⟩ hO
     ·have:0<(tails.getD k []).length:=XB.2 hf
      exact ⟨⟨by omega,by omega⟩,fun _=>⟨a_,ends hO,a_⟩,fun q=>(by rw [pF] at q;omega)⟩
 ·rw [pF] at h1
  have cJ:k=h.st:=by omega
  subst cJ
  cases s with
  | false=>exact ⟨.u,fun q=>(by cases q.1),a_,by rw [v2 l_ (iv rfl)];rfl,a_⟩
  | true =>
   obtain ⟨n,fn,en⟩:=v3 l_ (aX rfl);exact ⟨_,fun _=>fn,a_,by rw [en];rfl,a_⟩
theorem Ly {h:Md} {c:Nat} (hk:rV h c) (t:Int) (sc:List Raw) (tails:List (List Int)) (done:List Int) (hs:sc.length≤2 ^ 36) (hr:∀q∈sc,q.2.1.length≤2 ^ 30∧q.2.2.length≤2 ^ 30) (hl:tails.length≤2 ^ 36) (hd:done.length≤2 ^ 36) (cq:∀l∈tails,l.length≤2 ^ 36) :
  ∃v,F 34 [.t 60 (sR h t sc tails done)] (zo 1 4) [.b v]:=by
 have z_:=hk.st
 by_cases ht:t<0∨256<t
 ·refine ⟨false,DB _ _ (fun _=>True) (fun _=>0) ?_⟩
  rw [CX,yb];refine ⟨_,vA h c hk,fun _=>⟨a_,rfl,a_⟩,fun q=>?_⟩
  exfalso
  rw [tQ,tQ,XX,XX,pF,pF] at q;omega
 by_cases t0:t=0
 ·subst t0
  refine ⟨(decide (sc.length=0) && decide (tails.length=0)) && decide (done.length=0),DB _ _ (fun _=>True) (fun _=>0) ?_⟩;rw [CX,yb,GV,ya,zT,xQ,BT,rH];refine ⟨_,vA h c hk,fun q=>?_,fun _=>⟨fun _=>⟨a_,?_,a_⟩,fun q=>(by cases q)⟩⟩
  ·exfalso;cases q
  ·have e:∀n:Nat,eqI (n:Int) 0=decide (n=0):=fun n=>by unfold eqI;by_cases g:n=0<;>simp [g]
   rw [e,e,e];cases decide (sc.length=0)<;>cases decide (tails.length=0)<;>rfl
 by_cases hn:sc.length≠h.st∨tails.length≠h.st
 ·refine ⟨false,DB _ _ (fun _=>True) (fun _=>0) ?_⟩
  rw [CX,yb,GV,ya,zT,xQ,BT,K1];refine ⟨_,vA h c hk,fun _=>⟨a_,rfl,a_⟩,fun _=>⟨fun q=>absurd (qe.1 q) t0,fun _=>⟨fun _=>⟨a_,rfl,a_⟩,fun q=>?_⟩⟩⟩
  exfalso
  rw [tQ,XX,sq,sq] at q;omega
 have l1:sc.length=h.st:=by omega
 have l2:tails.length=h.st:=by omega
 by_cases bY:∀k,k<h.st→OkW h.st t sc tails done k
 ·by_cases eP:∃k r,k<h.st∧Cj sc k r∧0<r
  ·obtain ⟨f,hf⟩:∃f:Nat→Rat,∀k,k<h.st→Cj sc k (f k)∧(0<f k→Ul h.st t tails done k)∧(¬ 0<f k→tails.getD k []=[]):=by
    classical
    refine ⟨fun k=>if hk:k<h.st then Classical.choose (bY k hk) else 0,fun k hk=>?_⟩;simp only [dif_pos hk];exact Classical.choose_spec (bY k hk)
   have nn:∀l:List Int,(∀s∈l,Bad h.st s=false)→(l.map Int.toNat).map (fun x:Nat=>(x:Int))=l:=by
    intro l hb;rw [Yo]
    conv=>rhs;rw [←List.map_id l]
    refine Yu fun x hx=>?_
    have:=hb x hx
    unfold Bad at this;simp only [XX,X0] at this
    show ((x.toNat:Nat):Int)=x
    omega
   have e1:x8 sc=pO ((List.range h.st).map f):=by
    unfold x8 pO GU tI
    congr 1
    apply Yj
    ·simp [l1]
    ·intro k k1 k2
     have bq:k<h.st:=by simpa [l1] using k1
     have:=(hf k bq).1.1
     rw [WM,WL (by omega)] at this;simpa using this
   have e2:iwT tails=uv (tails.map fun l=>l.map Int.toNat):=by
    unfold iwT uv iwL rm;rw [Yo]
    congr 1
    apply Yj
    ·simp
    ·intro k k1 k2
     have bq:k<tails.length:=by simpa using k1
     simp only [ZG,Function.comp];have eg:tails.getD k []=tails[k]:=by rw [WM,WL bq];rfl
     rw [←t8,nn];intro s hs
     by_cases g:0<f k
     ·have:=((hf k (by omega)).2.1 g).2.2 s (by rw [eg];exact List.mem_append_right _ hs)
      exact this
     ·have:=(hf k (by omega)).2.2 g
      rw [eg] at this;rw [this] at hs;cases hs
   have e3:qw done=qH (done.map Int.toNat):=by
    rw [←t8,nn];obtain ⟨k,r,bq,g,pr⟩:=eP
    have:qr r=qr (f k):=by rw [←g.1,←(hf k bq).1.1]
    have pf:0<f k:=by rw [←CT this];exact pr
    intro s hs;exact ((hf k bq).2.1 pf).2.2 s (List.mem_append_left _ hs)
   have eo:sR h t sc tails done=onT h ⟨t.toNat,(List.range h.st).map f,tails.map fun l=>l.map Int.toNat,done.map Int.toNat⟩:=by
    unfold sR onT;rw [e1,e2,e3,show t=((t.toNat:Nat):Int) by omega];rfl
   have c1:=Cw h ⟨t.toNat,(List.range h.st).map f,tails.map fun l=>l.map Int.toNat,done.map Int.toNat⟩ (tails.map fun l=>l.map Int.toNat) (by simp;omega) (by simp;omega) (by
    intro p hp;obtain ⟨l,g9,rfl⟩:=Xw.1 hp;rw [Xk];obtain ⟨k,bq,rfl⟩:=Ys g9;have eg:tails.getD k []=tails[k]:=by rw [WM,WL bq];rfl
    by_cases g:0<f k
    ·have:=((hf k (by omega)).2.1 g).1
     rw [eg,WN] at this;omega
    ·have:=(hf k (by omega)).2.2 g
     rw [eg] at this;rw [this];simp) (by
    intro q hq;obtain ⟨k,bq,rfl⟩:=Xw.1 hq;exact (hf k (XJ.1 bq)).1.2.1)
   rw [←eo,←e2] at c1;exact ⟨_,xv hk t sc tails done l1 hr l2 hd cq (by omega) (eqI _ 0) (fun z=>absurd bY z) (fun _ z=>absurd eP z) (fun _ _=>⟨_,c1,rfl⟩)⟩
  ·exact ⟨_,xv hk t sc tails done l1 hr l2 hd cq (by omega) false (fun _=>rfl) (fun _ _=>rfl) (fun _ z=>absurd z eP)⟩
 ·exact ⟨_,xv hk t sc tails done l1 hr l2 hd cq (by omega) false (fun _=>rfl) (fun _ _=>rfl) (fun z=>absurd z bY)⟩
end Go.Pq
namespace Go.Proofs
open Go.Shelf Go.RowKit
variable {P:Program} {ρ:Ren}
def Buf.Grew (T e:TypeId) (b l n:Nat) (bs:List Value) (lr:Int) (w w':World):Prop :=
 ∃g2 cap2 cur2,w'.heap[b]?=some (.cells #[.slice (some ⟨g2,0,none⟩) (l+n) cap2,.int .i64 0,.int .i8 lr] T (0,0))∧w.heap.size≤g2∧w'.heap[g2]?=some (.cells cur2 e (0,0))∧l+n≤cap2∧cap2≤maxLen∧cur2.size=cap2∧cur2.toList.take l=bs∧w.grownBy w' (some b)
theorem Buf.zG {T e:TypeId} {b N l n cap2:Nat} {lr:Int} {w w2:World} {v0:Value} {cells:Array Value} {bs:List Value} (lX:N≠b)
  (M_:w2.heap[b]?=some (.cells #[v0,.int .i64 0,.int .i8 lr] T (0,0))) (hN:w2.heap[N]?=some (.cells cells e (0,0))) (hw:w.heap.size≤N) (h1:l+n≤cap2) (h2:cap2≤maxLen) (h3:cells.size=cap2) (h4:cells.toList.take l=bs) (c9:w.grownBy w2 (some b)) (v1:Value) :
  Buf.Grew T e b l n bs lr w (((w2.setCell ⟨b,0,none⟩ v1).setCell ⟨b,1,none⟩ (.int .i64 0)).setCell ⟨b,0,none⟩ (.slice (some ⟨N,0,none⟩) (l+n) cap2)):=by
 refine ⟨N,cap2,cells,Lib.heap_setCell_same (i:=0) (Lib.heap_setCell_same (i:=1) (Lib.heap_setCell_same (i:=0) M_ v1) (.int .i64 0)) (.slice (some ⟨N,0,none⟩) (l+n) cap2),hw,?_,h1,h2,h3,h4,Lib.grownBy_setB (Lib.grownBy_setB (Lib.grownBy_setB c9 0 _) 1 _) 0 _⟩;rw [Below.heap_setCell _ _ _ _ lX,Below.heap_setCell _ _ _ _ lX,Below.heap_setCell _ _ _ _ lX];exact hN
theorem Buf.HI {T e:TypeId} {b n cap:Nat} {lr:Int} {W:World} {v0:Value} {M:Array Value} (ab:W.heap[b]?=some (.cells #[v0,.int .i64 0,.int .i8 lr] T (0,0))) :
  ((W.setCell ⟨b,0,none⟩ (.slice (some ⟨W.heap.size,0,none⟩) n cap)).alloc (.cells M e)).heap[b]?=some (.cells #[.slice (some ⟨W.heap.size,0,none⟩) n cap,.int .i64 0,.int .i8 lr] T (0,0)) ∧
  ((W.setCell ⟨b,0,none⟩ (.slice (some ⟨W.heap.size,0,none⟩) n cap)).alloc (.cells M e)).heap[W.heap.size]?=some (.cells M e (0,0)):=by
 have f_:(W.setCell ⟨b,0,none⟩ (.slice (some ⟨W.heap.size,0,none⟩) n cap)).heap.size=W.heap.size:=by simp [World.setCell]
 have hb:b<W.heap.size:=Lib.lt_of_heap ab;refine ⟨(Below.heap_alloc _ _ b (by rw [f_];exact hb)).trans (Lib.heap_setCell_same (i:=0) ab _),?_⟩
 have:=heap_alloc_new (W.setCell ⟨b,0,none⟩ (.slice (some ⟨W.heap.size,0,none⟩) n cap)) (.cells M e)
 rwa [f_] at this
theorem Buf.len (L:LaysM.n181 P ρ) (T:TypeId) (b:Nat) (ao:Option Addr) (l cap:Nat) (lr:Int) (w:World) (ab:w.heap[b]?=some (.cells #[.slice ao l cap,.int .i64 0,.int .i8 lr] T (0,0))) (bW:l≤maxLen) :
  Calls P (ρ.f 181) #[.pointer (some ⟨b,0,none⟩)] w fun e w'=>e=.returned (.int .i64 l)∧∃n,w'=w.drewN n:=by
 have mixed:=L.mixed;have t5:=L.t5;have a5:=L.a5;have z5:=L.z5;have v5:=L.v5;have t130:=L.t130;have a130:=L.a130;have z130:=L.z130;have v130:=L.v130;have t3:=L.t3;have a3:=L.a3;have z3:=L.z3;have v3:=L.v3;have t0:=L.t0;have a0:=L.a0;have z0:=L.z0;have v0:=L.v0;have t93:=L.t93;have u93:=run_underlying L.t93;have a93:=L.a93;have z93:=L.z93;have v93:=L.v93;have t37:=L.t37;have a37:=L.a37;have z37:=L.z37;have v37:=L.v37;unfold maxLen at bW;have c0:w.cell? ⟨b,0,none⟩=some (.slice ao l cap):=by rw [Lib.cell_of_heap ab];rfl
 have c1:w.cell? ⟨b,1,none⟩=some (.int .i64 0):=by rw [Lib.cell_of_heap ab];rfl
 go_enter L.f181,Body.n181_ntmps ρ
 go_wp2
 go_region_o
 all_goals (go_wp2;go_ret;exact ⟨by simp,1,rfl⟩)
set_option maxHeartbeats 6400000 in
theorem Buf.BC (L:LaysM.n290 P ρ) (a:Addr) (n:Nat) (w:World) (hn:1≤n) (aU:n≤140737488355328) :
  Calls P (ρ.f 290) #[.slice (some a) 0 0,.int .i64 n] w fun e w'=>∃cap2 cells,e=.returned (.slice (some ⟨w.heap.size,0,none⟩) 0 cap2)∧w'.heap[w.heap.size]?=some (.cells cells (ρ.t 5) (0,0)) ∧
   cells.size=cap2∧n≤cap2∧cap2≤maxLen∧Below w.heap.size w w' := by
 have mixed:=L.mixed;have t5:=L.t5;have a5:=L.a5;have z5:=L.z5;have v5:=L.v5;have t37:=L.t37;have a37:=L.a37;have z37:=L.z37;have v37:=L.v37;have t3:=L.t3;have a3:=L.a3;have z3:=L.z3;have v3:=L.v3;have t0:=L.t0;have a0:=L.a0;have z0:=L.z0;have v0:=L.v0;have t4:=L.t4;have a4:=L.a4;have z4:=L.z4;have v4:=L.v4;obtain ⟨i0,hi,jK,cT,fM⟩:=info_parts L.i5;have gR:=Lib.run_append_nil_zeros (P:=P) w (ρ.t 37) (ρ.t 3) (ρ.t 37) (ρ.t 5) i0 (.int .u8 0) .i64 .i64 L.t37 L.t3 hi jK n (by omega) (by omega) (by omega) (by rw [fM];omega)
 generalize B_:grownCap w n 0 (ρ.t 5)=cap2 at gR
 have gU:n≤cap2:=by rw [←B_];exact grownCap_ge w _ 0 (ρ.t 5)
 have gV:cap2≤maxLen:=by rw [←B_];exact grownCap_le_maxLen w _ 0 (ρ.t 5) (by unfold maxLen;omega)
 generalize hZ:(Builtin.zeroCells (Value.int .u8 0).cells n++Builtin.zeroCells (Value.int .u8 0).cells (cap2-n))=Z at gR
 have oL:Z.size=cap2:=by rw [←hZ];simp [size_zeroCells,Value.cells];omega
 clear B_ hZ;have mZ:=run_copy_none (P:=P) (w.alloc (.cells Z (ρ.t 5))).drew (ρ.t 37) (ρ.t 37) (ρ.t 3) (ρ.t 5) (some ⟨w.heap.size,0,none⟩) (some a) n cap2 0 0 L.t37 (by rw [hi];simp [cT]) (by simp)
 go_enter_defers L.f290,Body.n290_ntmps ρ
 go_wp2_with (at_builtin;refine Lib.wpList_append_run _ rfl _ _ _ _ rfl _ _ rfl rfl _ _ gR ?_)
 refine leaves_cons (f:=(ρ.f 324)) (args:=#[]) (by simp) (enters_of L.f324 (by kernel_rfl) rfl _ _) ?_
 refine (Any.growSlice_catch_idle { L with } _).mono ?_;rintro e u' w'' ⟨rfl,rfl,rfl⟩;refine ⟨_,results_tmp rfl _ _ _,?_⟩;exact ⟨cap2,Z,rfl,heap_alloc_new w _,oL,gU,gV,⟨rfl,rfl,rfl,by simp,fun k hk=>Below.heap_alloc w _ k hk⟩⟩
set_option maxHeartbeats 12800000 in
theorem Buf.Kb (L:LaysM.n252 P ρ) (T:TypeId) (b g cap n:Nat) (lr:Int) (cur:Array Value) (bs:List Value) (w:World)
  (ab:w.heap[b]?=some (.cells #[.slice (some ⟨g,0,none⟩) 0 cap,.int .i64 0,.int .i8 lr] T (0,0)))
  (hl:bs.length=0) (hg:w.heap[g]?=some (.cells cur (ρ.t 5) (0,0))) (cW:0≤cap) (aP:cap≤maxLen) (aJ:cur.size=cap) (cz:cur.toList.take 0=bs) (ak:g≠b)
  (h1:∀v∈bs,v.oneCell'=true) (hn:1≤n) (C_:cap-0<n) (aU:0+n≤140737488355328) :
  Calls P (ρ.f 252) #[.pointer (some ⟨b,0,none⟩),.int .i64 n] w fun e w'=>e=.returned (.int .i64 0)∧Buf.Grew T (ρ.t 5) b 0 n bs lr w w' := by
 have mixed:=L.mixed;have t5:=L.t5;have a5:=L.a5;have z5:=L.z5;have v5:=L.v5;have t130:=L.t130;have a130:=L.a130;have z130:=L.z130;have v130:=L.v130;have t3:=L.t3;have a3:=L.a3;have z3:=L.z3;have v3:=L.v3;have t4:=L.t4;have a4:=L.a4;have z4:=L.z4;have v4:=L.v4;have t0:=L.t0;have a0:=L.a0;have z0:=L.z0;have v0:=L.v0;have t93:=L.t93;have u93:=run_underlying L.t93;have a93:=L.a93;have z93:=L.z93;have v93:=L.v93;have t131:=L.t131;have a131:=L.a131;have z131:=L.z131;have v131:=L.v131;have t37:=L.t37;have a37:=L.a37;have z37:=L.z37;have v37:=L.v37;have t75:=L.t75;have a75:=L.a75;have z75:=L.z75;have v75:=L.v75;have e181:∀args w,(callFunc (ρ.f 181) args).run P w=.ok (.enter (ρ.f 181) args) w:=enters_of L.f181 (by kernel_rfl) rfl;have e251:∀args w,(callFunc (ρ.f 251) args).run P w=.ok (.enter (ρ.f 251) args) w:=enters_of L.f251 (by kernel_rfl) rfl;have e290:∀args w,(callFunc (ρ.f 290) args).run P w=.ok (.enter (ρ.f 290) args) w:=enters_of L.f290 (by kernel_rfl) rfl;have a6:∀W,(binOp .eql (ρ.t 37) (.slice (some ⟨g,0,none⟩) 0 cap) (.slice none 0 0)).run P W=.ok (.bool false) W:=fun W=>Lib.run_eql_slice_some_nil W _ _ _ L.t37
 go_enter L.f252,Body.n252_ntmps ρ
 go_wp2_with (go_at_fn (ρ.f 181);refine (Buf.len { L with } T b (some ⟨g,0,none⟩) 0 cap lr _ ab (WS _)).mono ?_)
 rintro e W0 ⟨rfl,k,bE⟩;have I_:W0.heap[b]?=some (.cells #[.slice (some ⟨g,0,none⟩) 0 cap,.int .i64 0,.int .i8 lr] T (0,0)):=by rw [bE];exact ab
 have gn:W0.heap[g]?=some (.cells cur (ρ.t 5) (0,0)):=by rw [bE];exact hg
 have c0:W0.cell? ⟨b,0,none⟩=some (.slice (some ⟨g,0,none⟩) 0 cap):=by rw [Lib.cell_of_heap I_];rfl
 have c1:W0.cell? ⟨b,1,none⟩=some (.int .i64 0):=by rw [Lib.cell_of_heap I_];rfl
 have f0:W0.frozen? ⟨b,0,none⟩=false:=Lib.frozen_of_heap I_ 0;have f1:W0.frozen? ⟨b,1,none⟩=false:=Lib.frozen_of_heap I_ 1;have HW0:=Lib.hid bE;clear bE;have bR:=aP;unfold maxLen at bR
 go_wp2_with (go_at_fn (ρ.f 251);refine (Any.Buffer_tryGrow_none { L with } b _ 0 cap n _ c0 cW aP C_).mono ?_;rintro e w' ⟨rfl,rfl⟩)
 have bT:cap≤140737488355328:=by omega
 have gh:∀v∈cur.toList.take 0,v.oneCell'=true:=by rw [cz];exact h1
 have gW:=Lib.lt_of_heap I_;have iD:IntKind.i64.wrap (n:Int)=n:=by rw [IntKind.wrap_i64];omega
 go_region_with_o (
   go_at_fn (ρ.f 290)
   refine (Any.bytes_growSlice_row { L with } g 0 cap n cur _ ?_ aJ cW hn aU bT gh).mono ?_;exact gn;rintro e w2 ⟨cap2,cells,rfl,hN,dp,dq,eQ,dr,bS⟩;have M_:w2.heap[b]?=some (.cells #[.slice (some ⟨g,0,none⟩) 0 cap,.int .i64 0,.int .i8 lr] T (0,0)):=(bS.block b gW).trans I_;have d0:w2.cell? ⟨b,0,none⟩=some (.slice (some ⟨g,0,none⟩) 0 cap):=by rw [Lib.cell_of_heap M_];rfl
   have d1:w2.cell? ⟨b,1,none⟩=some (.int .i64 0):=by rw [Lib.cell_of_heap M_];rfl
   have e0:w2.frozen? ⟨b,0,none⟩=false:=Lib.frozen_of_heap M_ 0;have e1:w2.frozen? ⟨b,1,none⟩=false:=Lib.frozen_of_heap M_ 1)
 all_goals (
  go_wp2
  go_ret
  have dJ:w'.heap.size=w.heap.size:=by rw [HW0.out];rfl
  have c9:w.grownBy w2 (some b):=Lib.grownBy_below (w:=w'.drew) (by rw [HW0.out];exact ⟨rfl,rfl,rfl,WU _,fun _ _ _=>rfl⟩) bS;exact ⟨rfl,by simpa using Buf.zG (l:=0) (n:=n) (by show w'.heap.size≠b;omega) M_ hN (by show w.heap.size≤w'.heap.size;omega) (by omega) dr dp (dq.trans cz) c9 _⟩)
set_option maxHeartbeats 12800000 in
theorem Buf.Kc (L:LaysM.n252 P ρ) (T:TypeId) (b n:Nat) (a:Addr) (lr:Int) (w:World)
  (ab:w.heap[b]?=some (.cells #[.slice (some a) 0 0,.int .i64 0,.int .i8 lr] T (0,0))) (hn:1≤n) (aU:n≤140737488355328) :
  Calls P (ρ.f 252) #[.pointer (some ⟨b,0,none⟩),.int .i64 n] w fun e w'=>e=.returned (.int .i64 0)∧Buf.Grew T (ρ.t 5) b 0 n [] lr w w' := by
 have mixed:=L.mixed;have t5:=L.t5;have a5:=L.a5;have z5:=L.z5;have v5:=L.v5;have t130:=L.t130;have a130:=L.a130;have z130:=L.z130;have v130:=L.v130;have t3:=L.t3;have a3:=L.a3;have z3:=L.z3;have v3:=L.v3;have t4:=L.t4;have a4:=L.a4;have z4:=L.z4;have v4:=L.v4;have t0:=L.t0;have a0:=L.a0;have z0:=L.z0;have v0:=L.v0;have t93:=L.t93;have u93:=run_underlying L.t93;have a93:=L.a93;have z93:=L.z93;have v93:=L.v93;have t131:=L.t131;have a131:=L.a131;have z131:=L.z131;have v131:=L.v131;have t37:=L.t37;have a37:=L.a37;have z37:=L.z37;have v37:=L.v37;have t75:=L.t75;have a75:=L.a75;have z75:=L.z75;have v75:=L.v75;have e181:∀args w,(callFunc (ρ.f 181) args).run P w=.ok (.enter (ρ.f 181) args) w:=enters_of L.f181 (by kernel_rfl) rfl;have e251:∀args w,(callFunc (ρ.f 251) args).run P w=.ok (.enter (ρ.f 251) args) w:=enters_of L.f251 (by kernel_rfl) rfl;have e290:∀args w,(callFunc (ρ.f 290) args).run P w=.ok (.enter (ρ.f 290) args) w:=enters_of L.f290 (by kernel_rfl) rfl;have a6:∀W,(binOp .eql (ρ.t 37) (.slice (some a) 0 0) (.slice none 0 0)).run P W=.ok (.bool false) W:=fun W=>Lib.run_eql_slice_some_nil W _ _ _ L.t37
 go_enter L.f252,Body.n252_ntmps ρ
 go_wp2_with (go_at_fn (ρ.f 181);refine (Buf.len { L with } T b (some a) 0 0 lr _ ab (WS _)).mono ?_)
 rintro e W0 ⟨rfl,k,bE⟩;have I_:W0.heap[b]?=some (.cells #[.slice (some a) 0 0,.int .i64 0,.int .i8 lr] T (0,0)):=by rw [bE];exact ab
 have c0:W0.cell? ⟨b,0,none⟩=some (.slice (some a) 0 0):=by rw [Lib.cell_of_heap I_];rfl
 have c1:W0.cell? ⟨b,1,none⟩=some (.int .i64 0):=by rw [Lib.cell_of_heap I_];rfl
 have f0:W0.frozen? ⟨b,0,none⟩=false:=Lib.frozen_of_heap I_ 0;have f1:W0.frozen? ⟨b,1,none⟩=false:=Lib.frozen_of_heap I_ 1;have HW0:=Lib.hid bE;clear bE
 go_wp2_with (go_at_fn (ρ.f 251);refine (Any.Buffer_tryGrow_none { L with } b _ 0 0 n _ c0 (WU _) (WS _) (by omega)).mono ?_;rintro e w' ⟨rfl,rfl⟩)
 have gW:=Lib.lt_of_heap I_;have iD:IntKind.i64.wrap (n:Int)=n:=by rw [IntKind.wrap_i64];omega
 go_region_with_o (
   go_at_fn (ρ.f 290)
   refine (Buf.BC { L with } a n _ hn aU).mono ?_;rintro e w2 ⟨cap2,cells,rfl,hN,dp,eQ,dr,bS⟩;have M_:w2.heap[b]?=some (.cells #[.slice (some a) 0 0,.int .i64 0,.int .i8 lr] T (0,0)):=(bS.block b gW).trans I_;have d0:w2.cell? ⟨b,0,none⟩=some (.slice (some a) 0 0):=by rw [Lib.cell_of_heap M_];rfl
   have d1:w2.cell? ⟨b,1,none⟩=some (.int .i64 0):=by rw [Lib.cell_of_heap M_];rfl
   have e0:w2.frozen? ⟨b,0,none⟩=false:=Lib.frozen_of_heap M_ 0;have e1:w2.frozen? ⟨b,1,none⟩=false:=Lib.frozen_of_heap M_ 1)
 all_goals (
  go_wp2
  go_ret
  have dJ:w'.heap.size=w.heap.size:=by rw [HW0.out];rfl
  have c9:w.grownBy w2 (some b):=Lib.grownBy_below (w:=w'.drew) (by rw [HW0.out];exact ⟨rfl,rfl,rfl,WU _,fun _ _ _=>rfl⟩) bS;exact ⟨rfl,by simpa using Buf.zG (l:=0) (n:=n) (by show w'.heap.size≠b;omega) M_ hN (by show w.heap.size≤w'.heap.size;omega) (by omega) dr dp (by simp) c9 _⟩)
set_option maxHeartbeats 12800000 in
theorem Buf.Mp (L:LaysM.n252 P ρ) (T:TypeId) (b g l cap n:Nat) (lr:Int) (cur:Array Value) (bs:List Value) (w:World)
  (ab:w.heap[b]?=some (.cells #[.slice (some ⟨g,0,none⟩) l cap,.int .i64 0,.int .i8 lr] T (0,0)))
  (hl:bs.length=l) (hg:w.heap[g]?=some (.cells cur (ρ.t 5) (0,0))) (cW:l≤cap) (aP:cap≤maxLen) (aJ:cur.size=cap) (cz:cur.toList.take l=bs) (ak:g≠b)
  (h1:∀v∈bs,v.oneCell'=true) (hn:1≤n) (C_:cap-l<n) (aU:l+n≤140737488355328) :
  Calls P (ρ.f 252) #[.pointer (some ⟨b,0,none⟩),.int .i64 n] w fun e w'=>e=.returned (.int .i64 l)∧Buf.Grew T (ρ.t 5) b l n bs lr w w' := by
 have mixed:=L.mixed;have t5:=L.t5;have a5:=L.a5;have z5:=L.z5;have v5:=L.v5;have t130:=L.t130;have a130:=L.a130;have z130:=L.z130;have v130:=L.v130;have t3:=L.t3;have a3:=L.a3;have z3:=L.z3;have v3:=L.v3;have t4:=L.t4;have a4:=L.a4;have z4:=L.z4;have v4:=L.v4;have t0:=L.t0;have a0:=L.a0;have z0:=L.z0;have v0:=L.v0;have t93:=L.t93;have u93:=run_underlying L.t93;have a93:=L.a93;have z93:=L.z93;have v93:=L.v93;have t131:=L.t131;have a131:=L.a131;have z131:=L.z131;have v131:=L.v131;have t37:=L.t37;have a37:=L.a37;have z37:=L.z37;have v37:=L.v37;have t75:=L.t75;have a75:=L.a75;have z75:=L.z75;have v75:=L.v75;have e181:∀args w,(callFunc (ρ.f 181) args).run P w=.ok (.enter (ρ.f 181) args) w:=enters_of L.f181 (by kernel_rfl) rfl;have e251:∀args w,(callFunc (ρ.f 251) args).run P w=.ok (.enter (ρ.f 251) args) w:=enters_of L.f251 (by kernel_rfl) rfl;have e290:∀args w,(callFunc (ρ.f 290) args).run P w=.ok (.enter (ρ.f 290) args) w:=enters_of L.f290 (by kernel_rfl) rfl
 by_cases fi:l=0
 ·subst fi
  simpa using Buf.Kb { L with } T b g cap n lr cur bs w ab hl hg cW aP aJ cz ak h1 hn C_ aU
 have a6:∀W,(binOp .eql (ρ.t 37) (.slice (some ⟨g,0,none⟩) l cap) (.slice none 0 0)).run P W=.ok (.bool false) W:=fun W=>Lib.run_eql_slice_some_nil W _ _ _ L.t37
 go_enter L.f252,Body.n252_ntmps ρ
 go_wp2_with (go_at_fn (ρ.f 181);refine (Buf.len { L with } T b (some ⟨g,0,none⟩) l cap lr _ ab (XU cW aP)).mono ?_)
 rintro e W0 ⟨rfl,k,bE⟩;have I_:W0.heap[b]?=some (.cells #[.slice (some ⟨g,0,none⟩) l cap,.int .i64 0,.int .i8 lr] T (0,0)):=by rw [bE];exact ab
 have gn:W0.heap[g]?=some (.cells cur (ρ.t 5) (0,0)):=by rw [bE];exact hg
 have c0:W0.cell? ⟨b,0,none⟩=some (.slice (some ⟨g,0,none⟩) l cap):=by rw [Lib.cell_of_heap I_];rfl
 have c1:W0.cell? ⟨b,1,none⟩=some (.int .i64 0):=by rw [Lib.cell_of_heap I_];rfl
 have f0:W0.frozen? ⟨b,0,none⟩=false:=Lib.frozen_of_heap I_ 0;have f1:W0.frozen? ⟨b,1,none⟩=false:=Lib.frozen_of_heap I_ 1;have HW0:=Lib.hid bE;clear bE;have bR:=aP;unfold maxLen at bR
 go_wp2_with (go_at_fn (ρ.f 251);refine (Any.Buffer_tryGrow_none { L with } b _ l cap n _ c0 cW aP C_).mono ?_;rintro e w' ⟨rfl,rfl⟩)
 have bT:cap≤140737488355328:=by omega
 have gh:∀v∈cur.toList.take l,v.oneCell'=true:=by rw [cz];exact h1
 have gW:=Lib.lt_of_heap I_;have iD:IntKind.i64.wrap (n:Int)=n:=by rw [IntKind.wrap_i64];omega
 go_region_with_o (
   go_at_fn (ρ.f 290)
   refine (Any.bytes_growSlice_row { L with } g l cap n cur _ ?_ aJ cW hn aU bT gh).mono ?_;exact gn;rintro e w2 ⟨cap2,cells,rfl,hN,dp,dq,eQ,dr,bS⟩;have M_:w2.heap[b]?=some (.cells #[.slice (some ⟨g,0,none⟩) l cap,.int .i64 0,.int .i8 lr] T (0,0)):=(bS.block b gW).trans I_;have d0:w2.cell? ⟨b,0,none⟩=some (.slice (some ⟨g,0,none⟩) l cap):=by rw [Lib.cell_of_heap M_];rfl
   have d1:w2.cell? ⟨b,1,none⟩=some (.int .i64 0):=by rw [Lib.cell_of_heap M_];rfl
   have e0:w2.frozen? ⟨b,0,none⟩=false:=Lib.frozen_of_heap M_ 0;have e1:w2.frozen? ⟨b,1,none⟩=false:=Lib.frozen_of_heap M_ 1)
 all_goals (
  go_wp2
  go_ret
  have dJ:w'.heap.size=w.heap.size:=by rw [HW0.out];rfl
  have c9:w.grownBy w2 (some b):=Lib.grownBy_below (w:=w'.drew) (by rw [HW0.out];exact ⟨rfl,rfl,rfl,WU _,fun _ _ _=>rfl⟩) bS;exact ⟨rfl,Buf.zG (l:=l) (n:=n) (by show w'.heap.size≠b;omega) M_ hN (by show w.heap.size≤w'.heap.size;omega) (by omega) dr dp (dq.trans cz) c9 _⟩)
set_option maxHeartbeats 12800000 in
theorem Buf.DJ (L:LaysM.n252 P ρ) (T:TypeId) (b n:Nat) (lr:Int) (w:World)
  (ab:w.heap[b]?=some (.cells #[.slice none 0 0,.int .i64 0,.int .i8 lr] T (0,0))) (lY:64<n) (aU:n≤140737488355328) :
  Calls P (ρ.f 252) #[.pointer (some ⟨b,0,none⟩),.int .i64 n] w fun e w'=>e=.returned (.int .i64 0)∧Buf.Grew T (ρ.t 5) b 0 n [] lr w w' := by
 have mixed:=L.mixed;have t5:=L.t5;have a5:=L.a5;have z5:=L.z5;have v5:=L.v5;have t130:=L.t130;have a130:=L.a130;have z130:=L.z130;have v130:=L.v130;have t3:=L.t3;have a3:=L.a3;have z3:=L.z3;have v3:=L.v3;have t4:=L.t4;have a4:=L.a4;have z4:=L.z4;have v4:=L.v4;have t0:=L.t0;have a0:=L.a0;have z0:=L.z0;have v0:=L.v0;have t93:=L.t93;have u93:=run_underlying L.t93;have a93:=L.a93;have z93:=L.z93;have v93:=L.v93;have t131:=L.t131;have a131:=L.a131;have z131:=L.z131;have v131:=L.v131;have t37:=L.t37;have a37:=L.a37;have z37:=L.z37;have v37:=L.v37;have t75:=L.t75;have a75:=L.a75;have z75:=L.z75;have v75:=L.v75;have e181:∀args w,(callFunc (ρ.f 181) args).run P w=.ok (.enter (ρ.f 181) args) w:=enters_of L.f181 (by kernel_rfl) rfl;have e251:∀args w,(callFunc (ρ.f 251) args).run P w=.ok (.enter (ρ.f 251) args) w:=enters_of L.f251 (by kernel_rfl) rfl;have e290:∀args w,(callFunc (ρ.f 290) args).run P w=.ok (.enter (ρ.f 290) args) w:=enters_of L.f290 (by kernel_rfl) rfl;have hn:1≤n:=by omega
 have a6:∀W,(binOp .eql (ρ.t 37) (.slice none 0 0) (.slice none 0 0)).run P W=.ok (.bool true) W:=fun W=>Lib.run_eql_slice_nil_nil W _ _ L.t37
 go_enter L.f252,Body.n252_ntmps ρ
 go_wp2_with (go_at_fn (ρ.f 181);refine (Buf.len { L with } T b none 0 0 lr _ ab (WS _)).mono ?_)
 rintro e W0 ⟨rfl,k,bE⟩;have I_:W0.heap[b]?=some (.cells #[.slice none 0 0,.int .i64 0,.int .i8 lr] T (0,0)):=by rw [bE];exact ab
 have c0:W0.cell? ⟨b,0,none⟩=some (.slice none 0 0):=by rw [Lib.cell_of_heap I_];rfl
 have c1:W0.cell? ⟨b,1,none⟩=some (.int .i64 0):=by rw [Lib.cell_of_heap I_];rfl
 have f0:W0.frozen? ⟨b,0,none⟩=false:=Lib.frozen_of_heap I_ 0;have f1:W0.frozen? ⟨b,1,none⟩=false:=Lib.frozen_of_heap I_ 1;have HW0:=Lib.hid bE;clear bE
 go_wp2_with (go_at_fn (ρ.f 251);refine (Any.Buffer_tryGrow_none { L with } b _ 0 0 n _ c0 (WU _) (WS _) (by omega)).mono ?_;rintro e w' ⟨rfl,rfl⟩)
 have gW:=Lib.lt_of_heap I_;have iD:IntKind.i64.wrap (n:Int)=n:=by rw [IntKind.wrap_i64];omega
 go_region_with_o (
   go_at_fn (ρ.f 290)
   refine (Any.bytes_growSlice_nil { L with } n _ hn aU).mono ?_;rintro e w2 ⟨cap2,cells,rfl,hN,dp,eQ,dr,bS⟩;have M_:w2.heap[b]?=some (.cells #[.slice none 0 0,.int .i64 0,.int .i8 lr] T (0,0)):=(bS.block b gW).trans I_;have d0:w2.cell? ⟨b,0,none⟩=some (.slice none 0 0):=by rw [Lib.cell_of_heap M_];rfl
   have d1:w2.cell? ⟨b,1,none⟩=some (.int .i64 0):=by rw [Lib.cell_of_heap M_];rfl
   have e0:w2.frozen? ⟨b,0,none⟩=false:=Lib.frozen_of_heap M_ 0;have e1:w2.frozen? ⟨b,1,none⟩=false:=Lib.frozen_of_heap M_ 1)
 all_goals (
  go_wp2
  go_ret
  have dJ:w'.heap.size=w.heap.size:=by rw [HW0.out];rfl
  have c9:w.grownBy w2 (some b):=Lib.grownBy_below (w:=w'.drew) (by rw [HW0.out];exact ⟨rfl,rfl,rfl,WU _,fun _ _ _=>rfl⟩) bS;exact ⟨rfl,by simpa using Buf.zG (l:=0) (n:=n) (by show w'.heap.size≠b;omega) M_ hN (by show w.heap.size≤w'.heap.size;omega) (by omega) dr dp (by simp) c9 _⟩)
set_option maxHeartbeats 6400000 in
theorem Buf.BD (L:LaysM.n252 P ρ) (T:TypeId) (b n:Nat) (lr:Int) (w:World)
  (ab:w.heap[b]?=some (.cells #[.slice none 0 0,.int .i64 0,.int .i8 lr] T (0,0))) (hn:1≤n) (lY:n≤64) :
  Calls P (ρ.f 252) #[.pointer (some ⟨b,0,none⟩),.int .i64 n] w fun e w'=>e=.returned (.int .i64 0)∧Buf.Grew T (ρ.t 5) b 0 n [] lr w w' := by
 have mixed:=L.mixed;have t5:=L.t5;have a5:=L.a5;have z5:=L.z5;have v5:=L.v5;have t130:=L.t130;have a130:=L.a130;have z130:=L.z130;have v130:=L.v130;have t3:=L.t3;have a3:=L.a3;have z3:=L.z3;have v3:=L.v3;have t4:=L.t4;have a4:=L.a4;have z4:=L.z4;have v4:=L.v4;have t0:=L.t0;have a0:=L.a0;have z0:=L.z0;have v0:=L.v0;have t93:=L.t93;have u93:=run_underlying L.t93;have a93:=L.a93;have z93:=L.z93;have v93:=L.v93;have t131:=L.t131;have a131:=L.a131;have z131:=L.z131;have v131:=L.v131;have t37:=L.t37;have a37:=L.a37;have z37:=L.z37;have v37:=L.v37;have t75:=L.t75;have a75:=L.a75;have z75:=L.z75;have v75:=L.v75;have e181:∀args w,(callFunc (ρ.f 181) args).run P w=.ok (.enter (ρ.f 181) args) w:=enters_of L.f181 (by kernel_rfl) rfl;have e251:∀args w,(callFunc (ρ.f 251) args).run P w=.ok (.enter (ρ.f 251) args) w:=enters_of L.f251 (by kernel_rfl) rfl;obtain ⟨i0,hi,jK,cT,fM⟩:=info_parts L.i5;obtain ⟨M,hM⟩:∃M,M=madeCells (Value.int .u8 0).cells ((64:Int).toNat*i0.size):=⟨_,rfl⟩;have oM:M.size=64:=by rw [hM,size_madeCells,cT];rfl
 have kG:∀W:World,(Instr.makeSlice (ρ.t 37) (.int .i64 (n:Int)) (.int .i64 64)).run P W=.ok (.slice (some ⟨W.heap.size,0,none⟩) n 64) (W.alloc (.cells M (ρ.t 5))):=fun W=>by
  have h:=run_makeSlice (P:=P) W (ρ.t 37) (ρ.t 5) i0 (.int .u8 0) L.t37 hi jK .i64 .i64 (n:Int) 64 (by omega) (by omega) (by rw [cT];decide) (by rw [fM];decide) (by decide);rw [←hM] at h;simpa using h
 clear hM;have a6:∀W,(binOp .eql (ρ.t 37) (.slice none 0 0) (.slice none 0 0)).run P W=.ok (.bool true) W:=fun W=>Lib.run_eql_slice_nil_nil W _ _ L.t37
 go_enter L.f252,Body.n252_ntmps ρ
 go_wp2_with (go_at_fn (ρ.f 181);refine (Buf.len { L with } T b none 0 0 lr _ ab (WS _)).mono ?_)
 rintro e W0 ⟨rfl,k,bE⟩;have I_:W0.heap[b]?=some (.cells #[.slice none 0 0,.int .i64 0,.int .i8 lr] T (0,0)):=by rw [bE];exact ab
 have c0:W0.cell? ⟨b,0,none⟩=some (.slice none 0 0):=by rw [Lib.cell_of_heap I_];rfl
 have c1:W0.cell? ⟨b,1,none⟩=some (.int .i64 0):=by rw [Lib.cell_of_heap I_];rfl
 have f0:W0.frozen? ⟨b,0,none⟩=false:=Lib.frozen_of_heap I_ 0;have f1:W0.frozen? ⟨b,1,none⟩=false:=Lib.frozen_of_heap I_ 1;have jA:=Lib.lt_of_heap I_;have c0a:∀o,(W0.alloc o).cell? ⟨b,0,none⟩=some (.slice none 0 0):=fun o=>(World.cell?_of_block (a:=⟨b,0,none⟩) (Below.heap_alloc W0 o b jA)).trans c0;have f0a:∀o,(W0.alloc o).frozen? ⟨b,0,none⟩=false:=fun o=>(World.frozen?_of_block (a:=⟨b,0,none⟩) (Below.heap_alloc W0 o b jA)).trans f0;have HW0:=Lib.hid bE;clear bE
 go_wp2_with (go_at_fn (ρ.f 251);refine (Any.Buffer_tryGrow_none { L with } b _ 0 0 n _ c0 (WU _) (WS _) (by omega)).mono ?_;rintro e w' ⟨rfl,rfl⟩)
 go_ret
 have dJ:w'.heap.size=w.heap.size:=by rw [HW0.out];rfl
 have gn:w.grownBy w' (some b):=by rw [HW0.out];exact ⟨rfl,rfl,rfl,WU _,fun _ _ _=>rfl⟩
 obtain ⟨q1,q2⟩:=Buf.HI (n:=n) (M:=M) (e:=ρ.t 5) I_;refine ⟨rfl,?_⟩;unfold Buf.Grew;exact ⟨_,64,M,by rw [WV];exact q1,by show w.heap.size≤w'.heap.size;omega,q2,by omega,by unfold maxLen;omega,oM,by simp,Lib.grownBy_allocR (Lib.grownBy_setB gn 0 _) _⟩
end Go.Proofs
namespace Go.Proofs
open Go.Shelf Go.RowKit
variable {P:Program} {ρ:Ren}
def Buf.At (T e:TypeId) (b:Nat) (go:Option Nat) (bs:List Value) (lr:Int) (w:World):Prop :=
 ∃v,w.heap[b]?=some (.cells #[v,.int .i64 0,.int .i8 lr] T (0,0)) ∧
  ((go=none∧bs=[]∧∃a,v=.slice a 0 0)∨∃g cap cur,go=some g∧v=.slice (some ⟨g,0,none⟩) bs.length cap∧w.heap[g]?=some (.cells cur e (0,0))∧g≠b∧bs.length≤cap∧cap≤maxLen∧cur.size=cap∧cur.toList.take bs.length=bs)
structure Buf.Kept (b:Nat) (go:Option Nat) (w w':World):Prop where
 os:w'.os=w.os
 tape:w'.tape=w.tape
 output:w'.output=w.output
 size:w.heap.size≤w'.heap.size
 block:∀k,k<w.heap.size→k≠b→go≠some k→w'.heap[k]?=w.heap[k]?
def Buf.Grown (T e:TypeId) (b:Nat) (go:Option Nat) (n:Nat) (bs:List Value) (lr:Int) (w w':World):Prop :=
 ∃g2 cap2 cur2,w'.heap[b]?=some (.cells #[.slice (some ⟨g2,0,none⟩) (bs.length+n) cap2,.int .i64 0,.int .i8 lr] T (0,0))∧w'.heap[g2]?=some (.cells cur2 e (0,0))∧g2≠b ∧
  bs.length+n≤cap2∧cap2≤maxLen∧cur2.size=cap2∧cur2.toList.take bs.length=bs∧(go=some g2∨w.heap.size≤g2)∧w.grownBy w' (some b)
theorem Buf.Lv (L:LaysM.n251 P ρ) (T:TypeId) (b n:Nat) (go:Option Nat) (bs:List Value) (lr:Int) (w:World) (h:Buf.At T (ρ.t 5) b go bs lr w) (hn:1≤n) :
  Calls P (ρ.f 251) #[.pointer (some ⟨b,0,none⟩),.int .i64 n] w fun e w' =>
   (e=.returned (.tuple #[.int .i64 bs.length,.bool true])∧Buf.Grown T (ρ.t 5) b go n bs lr w w') ∨
   (e=.returned (.tuple #[.int .i64 0,.bool false])∧w'=w∧Lib.NoRoom b n w):=by
 obtain ⟨v,ab,⟨rfl,rfl,a,rfl⟩ | ⟨g,cap,cur,rfl,rfl,hg,ak,cW,aP,aJ,dq⟩⟩:=h
 ·have c0:w.cell? ⟨b,0,none⟩=some (.slice a 0 0):=by rw [Lib.cell_of_heap ab];rfl
  refine (Any.Buffer_tryGrow_none { L with } b a 0 0 n w c0 (WU _) (WS _) (by omega)).mono ?_;rintro e w' ⟨rfl,rfl⟩;exact Or.inr ⟨rfl,rfl,a,0,0,c0,by omega⟩
 ·have c0:w.cell? ⟨b,0,none⟩=some (.slice (some ⟨g,0,none⟩) bs.length cap):=by rw [Lib.cell_of_heap ab];rfl
  have f0:=Lib.frozen_of_heap ab 0
  by_cases hr:n≤cap-bs.length
  ·refine (Any.Buffer_tryGrow_room { L with } b _ bs.length cap n w c0 f0 cW aP hr).mono ?_
   rintro e w' ⟨rfl,rfl⟩;exact Or.inl ⟨rfl,g,cap,cur,Lib.heap_setCell_same (i:=0) ab _,by rw [Below.heap_setCell _ _ _ _ ak];exact hg,ak,by omega,aP,aJ,dq,.inl rfl,Lib.grownBy_setCell w b 0 _⟩
  ·refine (Any.Buffer_tryGrow_none { L with } b _ bs.length cap n w c0 cW aP (by omega)).mono ?_
   rintro e w' ⟨rfl,rfl⟩;exact Or.inr ⟨rfl,rfl,_,_,_,c0,by omega⟩
theorem Buf.grow (L:LaysM.n252 P ρ) (T:TypeId) (b n:Nat) (go:Option Nat) (bs:List Value) (lr:Int) (w:World) (h:Buf.At T (ρ.t 5) b go bs lr w) (hn:1≤n) (fB:Lib.NoRoom b n w) (h1:∀v∈bs,v.oneCell'=true) (aU:bs.length+n≤140737488355328) :
  Calls P (ρ.f 252) #[.pointer (some ⟨b,0,none⟩),.int .i64 n] w fun e w'=>e=.returned (.int .i64 bs.length)∧Buf.Grown T (ρ.t 5) b go n bs lr w w' := by
 obtain ⟨ao,l,cap0,hc,b_⟩:=fB;obtain ⟨v,ab,⟨rfl,rfl,a,rfl⟩ | ⟨g,cap,cur,rfl,rfl,hg,ak,cW,aP,aJ,dq⟩⟩:=h
 ·have lZ:=Lib.lt_of_heap ab
  have fZ:n≤140737488355328:=by simpa using aU
  have fin:∀(e:Ending) (w':World),(e=.returned (.int .i64 0)∧Buf.Grew T (ρ.t 5) b 0 n [] lr w w') →
    e=.returned (.int .i64 (([]:List Value).length:Int))∧Buf.Grown T (ρ.t 5) b none n [] lr w w' := by
   rintro e w' ⟨rfl,g2,cap2,cur2,q1,q2,q3,q4,q5,q6,q7,q8⟩;exact ⟨rfl,g2,cap2,cur2,q1,q3,by omega,q4,q5,q6,q7,.inr q2,q8⟩
  cases a with
  | none =>
   by_cases lY:n≤64
   ·exact (Buf.BD { L with } T b n lr w ab hn lY).mono fin
   ·exact (Buf.DJ { L with } T b n lr w ab (by omega) fZ).mono fin
  | some a=>exact (Buf.Kc { L with } T b n a lr w ab hn fZ).mono fin
 ·have lZ:=Lib.lt_of_heap ab
  have C_:cap-bs.length<n:=by
   rw [Lib.cell_of_heap ab] at hc;simp at hc;obtain ⟨rfl,rfl,rfl⟩:=hc;exact b_
  refine (Buf.Mp { L with } T b g bs.length cap n lr cur bs w ab rfl hg cW aP aJ dq ak h1 hn C_ aU).mono ?_;rintro e w' ⟨rfl,g2,cap2,cur2,q1,q2,q3,q4,q5,q6,q7,q8⟩;exact ⟨rfl,g2,cap2,cur2,q1,q3,by omega,q4,q5,q6,q7,.inr q2,q8⟩
theorem Buf.At.last {T e:TypeId} {b:Nat} {go:Option Nat} {bs:List Value} {lr:Int} {w:World} (h:Buf.At T e b go bs lr w) (x:Int):Buf.At T e b go bs x (w.setCell ⟨b,2,none⟩ (.int .i8 x)):=by
 obtain ⟨v,ab,h2⟩:=h;refine ⟨v,Lib.heap_setCell_same (i:=2) ab _,?_⟩
 rcases h2 with h2 | ⟨g,cap,cur,h1,h2,hg,ak,h3⟩
 ·exact .inl h2
 ·exact .inr ⟨g,cap,cur,h1,h2,by rw [Below.heap_setCell _ _ _ _ ak];exact hg,ak,h3⟩
theorem Buf.Kj {b:Nat} {go:Option Nat} {w w1 w2 w':World} {g2:Nat} (h1:w.grownBy w1 (some b)) (h2:w1.grownBy w2 (some b)) (h3:w2.grownBy w' (some g2)) (hg:go=some g2∨w.heap.size≤g2):Buf.Kept b go w w' :=
 ⟨h3.os.trans (h2.os.trans h1.os),h3.tape.trans (h2.tape.trans h1.tape),h3.output.trans (h2.output.trans h1.output),XU h1.size (XU h2.size h3.size),fun k hk hb oN=>by
  have a1:=h1.block k hk (by simpa using hb);have a2:=h2.block k (Xz hk h1.size) (by simpa using hb);have a3:=h3.block k (Xz hk (XU h1.size h2.size)) (by
   intro e;simp only [WJ] at e;subst e
   rcases hg with q | q
   ·exact oN q
   ·omega)
  exact a3.trans (a2.trans a1)⟩
set_option maxHeartbeats 6400000 in
theorem Buf.LD (L:LaysM.n179 P ρ) (T:TypeId) (b:Nat) (go:Option Nat) (bs:List Value) (c lr:Int) (w:World) (h:Buf.At T (ρ.t 5) b go bs lr w) (h1:∀v∈bs,v.oneCell'=true) (aU:bs.length+1≤140737488355328) :
  Calls P (ρ.f 179) #[.pointer (some ⟨b,0,none⟩),.int .u8 c] w fun e w'=>e=.returned .nilIface∧∃g2,Buf.At T (ρ.t 5) b (some g2) (bs++[.int .u8 c]) 0 w'∧(go=some g2∨w.heap.size≤g2)∧Buf.Kept b go w w' := by
 have mixed:=L.mixed;have t5:=L.t5;have a5:=L.a5;have z5:=L.z5;have v5:=L.v5;have t130:=L.t130;have a130:=L.a130;have z130:=L.z130;have v130:=L.v130;have t75:=L.t75;have a75:=L.a75;have z75:=L.z75;have v75:=L.v75;have t0:=L.t0;have a0:=L.a0;have z0:=L.z0;have v0:=L.v0;have t93:=L.t93;have u93:=run_underlying L.t93;have a93:=L.a93;have z93:=L.z93;have v93:=L.v93;have t91:=L.t91;have a91:=L.a91;have z91:=L.z91;have v91:=L.v91;have t3:=L.t3;have a3:=L.a3;have z3:=L.z3;have v3:=L.v3;have t131:=L.t131;have a131:=L.a131;have z131:=L.z131;have v131:=L.v131;have t4:=L.t4;have a4:=L.a4;have z4:=L.z4;have v4:=L.v4;have t37:=L.t37;have a37:=L.a37;have z37:=L.z37;have v37:=L.v37;have e251:∀args w,(callFunc (ρ.f 251) args).run P w=.ok (.enter (ρ.f 251) args) w:=enters_of L.f251 (by kernel_rfl) rfl;have e252:∀args w,(callFunc (ρ.f 252) args).run P w=.ok (.enter (ρ.f 252) args) w:=enters_of L.f252 (by kernel_rfl) rfl;obtain ⟨v0,ab,-⟩:=id h;have c2:w.cell? ⟨b,2,none⟩=some (.int .i8 lr):=by rw [Lib.cell_of_heap ab];rfl
 have f2:w.frozen? ⟨b,2,none⟩=false:=Lib.frozen_of_heap ab 2;have h' := h.last 0;have aT:w.grownBy (w.setCell ⟨b,2,none⟩ (.int .i8 0)) (some b):=Lib.grownBy_setCell w b 2 _;clear ab v0;have fin:∀W1,Buf.Grown T (ρ.t 5) b go 1 bs 0 (w.setCell ⟨b,2,none⟩ (.int .i8 0)) W1→∃g cap cur,W1.heap[b]?=some (.cells #[.slice (some ⟨g,0,none⟩) (bs.length+1) cap,.int .i64 0,.int .i8 0] T (0,0))∧W1.heap[g]?=some (.cells cur (ρ.t 5) (0,0))∧bs.length+1≤cap∧cap≤maxLen∧cur.size=cap ∧
   ∃g2,Buf.At T (ρ.t 5) b (some g2) (bs++[.int .u8 c]) 0 (W1.setCell ⟨g,bs.length,none⟩ (.int .u8 c))∧(go=some g2∨w.heap.size≤g2)∧Buf.Kept b go w (W1.setCell ⟨g,bs.length,none⟩ (.int .u8 c)):=by
  rintro W1 ⟨g,cap,cur,q1,q2,q3,q4,q5,q6,q7,q8,q9⟩;have f_:(w.setCell ⟨b,2,none⟩ (.int .i8 0)).heap.size=w.heap.size:=by simp [World.setCell]
  rw [f_] at q8;refine ⟨g,cap,cur,q1,q2,q4,q5,q6,g,⟨_,by rw [Below.heap_setCell _ _ _ _ (YL q3)];exact q1,.inr ⟨g,cap,_,rfl,by simp,Lib.heap_setCell_same (i:=bs.length) q2 _,q3,by simpa using q4,q5,by simpa using q6,?_⟩⟩,q8,Buf.Kj aT q9 (Lib.grownBy_setCell W1 g bs.length _) q8⟩;have b_:bs.length<cur.toList.length:=by
   have:cur.toList.length=cur.size:=Ye
   omega
  rw [WN,Xv,Array.toList_setIfInBounds,List.take_add_one,List.take_set_of_le (WU _),List.getElem?_set_self b_,q7];rfl
 have hT:∀W,Buf.At T (ρ.t 5) b go bs 0 W→Calls P (ρ.f 251) #[.pointer (some ⟨b,0,none⟩),.int .i64 1] W _:=fun W hW=>Buf.Lv { L with } T b 1 go bs 0 W hW (WU _)
 have hG:∀W,Buf.At T (ρ.t 5) b go bs 0 W→Lib.NoRoom b 1 W→Calls P (ρ.f 252) #[.pointer (some ⟨b,0,none⟩),.int .i64 1] W _:=fun W hW hn=>Buf.grow { L with } T b 1 go bs 0 W hW (WU _) hn h1 aU
 go_enter L.f179,Body.n179_ntmps ρ
 go_wp2_with (go_at_fn (ρ.f 251);refine (hT _ ?_).mono ?_)
 ·exact h'
 rintro e W1 (⟨rfl,hI⟩ | ⟨rfl,rfl,fB⟩)
 ·obtain ⟨g,cap,cur,M_,hg,l0,aP,aJ,du⟩:=fin _ hI
  clear hT hG h' aT c2 f2 fin hI;have d0:W1.cell? ⟨b,0,none⟩=some (.slice (some ⟨g,0,none⟩) (bs.length+1) cap):=by rw [Lib.cell_of_heap M_];rfl
  have b_:bs.length<cur.size:=by omega
  have dg:W1.cell? ⟨g,bs.length,none⟩=some cur[bs.length]:=by rw [Lib.cell_of_heap hg,W6 b_]
  have fg:W1.frozen? ⟨g,bs.length,none⟩=false:=Lib.frozen_of_heap hg _;have bR:=aP;unfold maxLen at bR
  go_wp2
  go_ret
  exact ⟨rfl,du⟩
 ·go_wp2_with (go_at_fn (ρ.f 252);refine (hG _ ?_ ?_).mono ?_)
  ·exact h'
  ·exact fB
  rintro e W1 ⟨rfl,hI⟩;obtain ⟨g,cap,cur,M_,hg,l0,aP,aJ,du⟩:=fin _ hI;clear hT hG h' aT c2 f2 fB fin hI;have d0:W1.cell? ⟨b,0,none⟩=some (.slice (some ⟨g,0,none⟩) (bs.length+1) cap):=by rw [Lib.cell_of_heap M_];rfl
  have b_:bs.length<cur.size:=by omega
  have dg:W1.cell? ⟨g,bs.length,none⟩=some cur[bs.length]:=by rw [Lib.cell_of_heap hg,W6 b_]
  have fg:W1.frozen? ⟨g,bs.length,none⟩=false:=Lib.frozen_of_heap hg _;have bR:=aP;unfold maxLen at bR
  go_wp2
  go_ret
  exact ⟨rfl,du⟩
set_option maxHeartbeats 6400000 in
theorem Buf.write (L:LaysM.n180 P ρ) (T:TypeId) (b:Nat) (go:Option Nat) (bs cs:List Value) (a:Addr) (n c:Nat) (lr:Int) (w:World) (h:Buf.At T (ρ.t 5) b go bs lr w) (h1:∀v∈bs,v.oneCell'=true)
  (hn:cs.length=n) (h0:1≤n) (l4:a.block≠b) (pk:go≠some a.block) (b8:∀j v,cs[j]?=some v→w.cell? (a.add j)=some v) (m6:∀v∈cs,v.oneCell'=true) (aU:bs.length+n≤140737488355328) :
  Calls P (ρ.f 180) #[.pointer (some ⟨b,0,none⟩),.slice (some a) n c] w fun e w'=>e=.returned (.tuple #[.int .i64 n,.nilIface])∧∃g2,Buf.At T (ρ.t 5) b (some g2) (bs++cs) 0 w'∧(go=some g2∨w.heap.size≤g2)∧Buf.Kept b go w w' := by
 have mixed:=L.mixed;have t5:=L.t5;have a5:=L.a5;have z5:=L.z5;have v5:=L.v5;have t130:=L.t130;have a130:=L.a130;have z130:=L.z130;have v130:=L.v130;have t37:=L.t37;have a37:=L.a37;have z37:=L.z37;have v37:=L.v37;have t3:=L.t3;have a3:=L.a3;have z3:=L.z3;have v3:=L.v3;have t75:=L.t75;have a75:=L.a75;have z75:=L.z75;have v75:=L.v75;have t0:=L.t0;have a0:=L.a0;have z0:=L.z0;have v0:=L.v0;have t93:=L.t93;have u93:=run_underlying L.t93;have a93:=L.a93;have z93:=L.z93;have v93:=L.v93;have t91:=L.t91;have a91:=L.a91;have z91:=L.z91;have v91:=L.v91;have t131:=L.t131;have a131:=L.a131;have z131:=L.z131;have v131:=L.v131;have t4:=L.t4;have a4:=L.a4;have z4:=L.z4;have v4:=L.v4;have e251:∀args w,(callFunc (ρ.f 251) args).run P w=.ok (.enter (ρ.f 251) args) w:=enters_of L.f251 (by kernel_rfl) rfl;have e252:∀args w,(callFunc (ρ.f 252) args).run P w=.ok (.enter (ρ.f 252) args) w:=enters_of L.f252 (by kernel_rfl) rfl;obtain ⟨v0,ab,-⟩:=id h;have c2:w.cell? ⟨b,2,none⟩=some (.int .i8 lr):=by rw [Lib.cell_of_heap ab];rfl
 have f2:w.frozen? ⟨b,2,none⟩=false:=Lib.frozen_of_heap ab 2;have h' := h.last 0;have aT:w.grownBy (w.setCell ⟨b,2,none⟩ (.int .i8 0)) (some b):=Lib.grownBy_setCell w b 2 _;clear ab v0;have f5:(P.info? (ρ.t 5)).map (·.size)=some 1:=by
  obtain ⟨i0,hi,-,cT,-⟩:=info_parts L.i5;rw [hi];simp [cT]
 have halt:a.block<w.heap.size:=by
  obtain ⟨v,hv⟩:∃v,cs[0]?=some v:=⟨_,WL (by omega)⟩
  have:=World.block_lt_of_cell? w _ (b8 0 v hv)
  rwa [Lib.block_add] at this
 have fin:∀W1,Buf.Grown T (ρ.t 5) b go n bs 0 (w.setCell ⟨b,2,none⟩ (.int .i8 0)) W1→∃g cap cur,W1.heap[b]?=some (.cells #[.slice (some ⟨g,0,none⟩) (bs.length+n) cap,.int .i64 0,.int .i8 0] T (0,0))∧W1.heap[g]?=some (.cells cur (ρ.t 5) (0,0))∧bs.length+n≤cap∧cap≤maxLen∧cur.size=cap ∧
   (∀j v,cs[j]?=some v→W1.cell? (a.add j)=some v) ∧
   ∃g2,Buf.At T (ρ.t 5) b (some g2) (bs++cs) 0 (W1.setRow g (cur.toList.take bs.length++(cs++cur.toList.drop (bs.length+n))).toArray)∧(go=some g2∨w.heap.size≤g2)∧Buf.Kept b go w (W1.setRow g (cur.toList.take bs.length++(cs++cur.toList.drop (bs.length+n))).toArray):=by
  rintro W1 ⟨g,cap,cur,q1,q2,q3,q4,q5,q6,q7,q8,q9⟩;have f_:(w.setCell ⟨b,2,none⟩ (.int .i8 0)).heap.size=w.heap.size:=by simp [World.setCell]
  rw [f_] at q8;have cI:cur.toList.length=cap:=by rw [Ye,q6]
  refine ⟨g,cap,cur,q1,q2,q4,q5,q6,fun j v hj=>?_,g,⟨_,by rw [setRow_other _ _ _ _ (YL q3)];exact q1,.inr ⟨g,cap,_,rfl,by rw [WN,hn],setRow_heap W1 g cur _ (ρ.t 5) (0,0) q2,q3,by rw [WN,hn];exact q4,q5,?_,?_⟩⟩,q8,
   Buf.Kj aT q9 ⟨rfl,rfl,rfl,by simp,fun k hk t_=>setRow_other _ _ _ _ (fun e=>t_ (by rw [e]))⟩ q8⟩
  ·have bk:some (a.add j).block≠some b:=by rw [Lib.block_add];simpa using l4
   exact (q9.cell ((World.grownBy.cell aT (b8 j v hj) bk)) bk)
  ·simp only [ZB,WN,q7,hn,Xi,cI];omega
  ·rw [q7]
   show List.take (bs++cs).length (bs++(cs++_))=_
   rw [←W7,List.take_left' rfl]
 go_enter L.f180,Body.n180_ntmps ρ
 go_wp2_with (go_at_fn (ρ.f 251);refine (Buf.Lv { L with } T b n go bs 0 _ ?_ h0).mono ?_)
 ·exact h'
 rintro e W1 (⟨rfl,hI⟩ | ⟨rfl,rfl,fB⟩)
 ·obtain ⟨g,cap,cur,M_,hg,l0,aP,aJ,eR,du⟩:=fin _ hI
  clear h' aT c2 f2 fin hI;have d0:W1.cell? ⟨b,0,none⟩=some (.slice (some ⟨g,0,none⟩) (bs.length+n) cap):=by rw [Lib.cell_of_heap M_];rfl
  have t_:¬ cap=bs.length:=by omega
  have l5:=run_copy_row (P:=P) W1 (ρ.t 37) (ρ.t 37) (ρ.t 3) (ρ.t 5) g bs.length n (cap-bs.length) a n c cur (ρ.t 5) cs L.t37 f5 hg (by rw [hn];exact (Nat.min_self n).symm) eR (by rw [hn];omega) m6;rw [hn] at l5;have bR:=aP;unfold maxLen at bR
  go_wp2
  go_ret2
  exact ⟨rfl,du⟩
 ·go_wp2_with (go_at_fn (ρ.f 252);refine (Buf.grow { L with } T b n go bs 0 _ ?_ h0 ?_ h1 aU).mono ?_)
  ·exact h'
  ·exact fB
  rintro e W1 ⟨rfl,hI⟩;obtain ⟨g,cap,cur,M_,hg,l0,aP,aJ,eR,du⟩:=fin _ hI;clear h' aT c2 f2 fB fin hI;have d0:W1.cell? ⟨b,0,none⟩=some (.slice (some ⟨g,0,none⟩) (bs.length+n) cap):=by rw [Lib.cell_of_heap M_];rfl
  have t_:¬ cap=bs.length:=by omega
  have l5:=run_copy_row (P:=P) W1 (ρ.t 37) (ρ.t 37) (ρ.t 3) (ρ.t 5) g bs.length n (cap-bs.length) a n c cur (ρ.t 5) cs L.t37 f5 hg (by rw [hn];exact (Nat.min_self n).symm) eR (by rw [hn];omega) m6;rw [hn] at l5;have bR:=aP;unfold maxLen at bR
  go_wp2
  go_ret2
  exact ⟨rfl,du⟩
end Go.Proofs
namespace Go.Proofs
open Go.Shelf
def Tryz.lays179_ren:Go.Shelf.Ren:=⟨fun | 179=>197 | 251=>199 | 252=>200 | 181=>172 | 184=>211 | 290=>212 | 324=>215 | n=>n,fun | 130=>225 | 5=>5 | 75=>204 | 0=>0 | 93=>196 | 91=>194 | 3=>3 | 131=>163 | 4=>4 | 37=>34 | 20=>20 | 80=>236 | 9=>9 | n=>n,fun | 14=>0 | n=>n⟩
theorem Tryz.lays179:Go.Proofs.LaysM.n179 Tryz.prog Tryz.lays179_ren:={
 mixed:=by kernel_rfl
 f179:=Tryz.func197.trans (Xx some (by kernel_rfl))
 f181:=Tryz.func172.trans (Xx some (by kernel_rfl))
 f184:=Tryz.func211.trans (Xx some (by kernel_rfl))
 f251:=Tryz.func199.trans (Xx some (by kernel_rfl))
 f252:=Tryz.func200.trans (Xx some (by kernel_rfl))
 f290:=Tryz.func212.trans (Xx some (by kernel_rfl))
 f324:=Tryz.func215.trans (Xx some (by kernel_rfl))
 t0:=Tryz.underlying0
 a0:=Tryz.isAgg0
 z0:=Tryz.sizeOf0
 v0:=Tryz.zeroValue0
 t3:=Tryz.underlying3
 a3:=Tryz.isAgg3
 z3:=Tryz.sizeOf3
 v3:=Tryz.zeroValue3
 t4:=Tryz.underlying4
 a4:=Tryz.isAgg4
 z4:=Tryz.sizeOf4
 v4:=Tryz.zeroValue4
 t5:=Tryz.underlying5
 a5:=Tryz.isAgg5
 z5:=Tryz.sizeOf5
 v5:=Tryz.zeroValue5
 t20:=Tryz.underlying20
 a20:=Tryz.isAgg20
 z20:=Tryz.sizeOf20
 v20:=Tryz.zeroValue20
 t37:=Tryz.underlying34
 a37:=Tryz.isAgg34
 z37:=Tryz.sizeOf34
 v37:=Tryz.zeroValue34
 t75:=Tryz.underlying204
 a75:=Tryz.isAgg204
 z75:=Tryz.sizeOf204
 v75:=Tryz.zeroValue204
 t91:=Tryz.underlying194
 a91:=Tryz.isAgg194
 z91:=Tryz.sizeOf194
 v91:=Tryz.zeroValue194
 t93:=Tryz.underlying196
 a93:=Tryz.isAgg196
 z93:=Tryz.sizeOf196
 v93:=Tryz.zeroValue196
 t130:=Tryz.underlying225
 a130:=Tryz.isAgg225
 z130:=Tryz.sizeOf225
 v130:=Tryz.zeroValue225
 t131:=Tryz.underlying163
 a131:=Tryz.isAgg163
 z131:=Tryz.sizeOf163
 v131:=Tryz.zeroValue163
 g14:=by kernel_rfl
 t9:=Tryz.underlying9
 a9:=Tryz.isAgg9
 z9:=Tryz.sizeOf9
 v9:=Tryz.zeroValue9
 t80:=Tryz.underlying236
 a80:=Tryz.isAgg236
 z80:=Tryz.sizeOf236
 v80:=Tryz.zeroValue236
 i0:=by kernel_rfl
 i3:=by kernel_rfl
 i4:=by kernel_rfl
 i5:=by kernel_rfl
 i9:=by kernel_rfl
 i20:=by kernel_rfl
 i37:=by kernel_rfl
 i75:=by kernel_rfl
 i80:=by kernel_rfl
 i91:=by kernel_rfl
 i93:=by kernel_rfl
 i130:=by kernel_rfl
 i131:=by kernel_rfl
 m14:=by kernel_rfl }
def Tryz.lays180_ren:Go.Shelf.Ren:=⟨fun | 180=>173 | 251=>199 | 252=>200 | 181=>172 | 184=>211 | 290=>212 | 324=>215 | n=>n,fun | 130=>225 | 37=>34 | 3=>3 | 75=>204 | 0=>0 | 93=>196 | 91=>194 | 131=>163 | 4=>4 | 20=>20 | 5=>5 | 80=>236 | 9=>9 | n=>n,fun | 14=>0 | n=>n⟩
theorem Tryz.lays180:Go.Proofs.LaysM.n180 Tryz.prog Tryz.lays180_ren:={
 mixed:=by kernel_rfl
 f180:=Tryz.func173.trans (Xx some (by kernel_rfl))
 f181:=Tryz.func172.trans (Xx some (by kernel_rfl))
 f184:=Tryz.func211.trans (Xx some (by kernel_rfl))
 f251:=Tryz.func199.trans (Xx some (by kernel_rfl))
 f252:=Tryz.func200.trans (Xx some (by kernel_rfl))
 f290:=Tryz.func212.trans (Xx some (by kernel_rfl))
 f324:=Tryz.func215.trans (Xx some (by kernel_rfl))
 t0:=Tryz.underlying0
 a0:=Tryz.isAgg0
 z0:=Tryz.sizeOf0
 v0:=Tryz.zeroValue0
 t3:=Tryz.underlying3
 a3:=Tryz.isAgg3
 z3:=Tryz.sizeOf3
 v3:=Tryz.zeroValue3
 t4:=Tryz.underlying4
 a4:=Tryz.isAgg4
 z4:=Tryz.sizeOf4
 v4:=Tryz.zeroValue4
 t20:=Tryz.underlying20
 a20:=Tryz.isAgg20
 z20:=Tryz.sizeOf20
 v20:=Tryz.zeroValue20
 t37:=Tryz.underlying34
 a37:=Tryz.isAgg34
 z37:=Tryz.sizeOf34
 v37:=Tryz.zeroValue34
 t75:=Tryz.underlying204
 a75:=Tryz.isAgg204
 z75:=Tryz.sizeOf204
 v75:=Tryz.zeroValue204
 t91:=Tryz.underlying194
 a91:=Tryz.isAgg194
 z91:=Tryz.sizeOf194
 v91:=Tryz.zeroValue194
 t93:=Tryz.underlying196
 a93:=Tryz.isAgg196
 z93:=Tryz.sizeOf196
 v93:=Tryz.zeroValue196
 t130:=Tryz.underlying225
 a130:=Tryz.isAgg225
 z130:=Tryz.sizeOf225
 v130:=Tryz.zeroValue225
 t131:=Tryz.underlying163
 a131:=Tryz.isAgg163
 z131:=Tryz.sizeOf163
 v131:=Tryz.zeroValue163
 g14:=by kernel_rfl
 t5:=Tryz.underlying5
 a5:=Tryz.isAgg5
 z5:=Tryz.sizeOf5
 v5:=Tryz.zeroValue5
 t9:=Tryz.underlying9
 a9:=Tryz.isAgg9
 z9:=Tryz.sizeOf9
 v9:=Tryz.zeroValue9
 t80:=Tryz.underlying236
 a80:=Tryz.isAgg236
 z80:=Tryz.sizeOf236
 v80:=Tryz.zeroValue236
 i0:=by kernel_rfl
 i3:=by kernel_rfl
 i4:=by kernel_rfl
 i5:=by kernel_rfl
 i9:=by kernel_rfl
 i20:=by kernel_rfl
 i37:=by kernel_rfl
 i75:=by kernel_rfl
 i80:=by kernel_rfl
 i91:=by kernel_rfl
 i93:=by kernel_rfl
 i130:=by kernel_rfl
 i131:=by kernel_rfl
 m14:=by kernel_rfl }
def Tryz.lays115_ren:Go.Shelf.Ren:=⟨fun | 115=>180 | n=>n,fun | 37=>34 | 4=>4 | 9=>9 | 5=>5 | n=>n,fun | n=>n⟩
theorem Tryz.lays115:Go.Proofs.Lays.n115 Tryz.prog Tryz.lays115_ren:={
 mixed:=by kernel_rfl
 f115:=Tryz.func180.trans (Xx some (by kernel_rfl))
 t4:=Tryz.underlying4
 a4:=Tryz.isAgg4
 z4:=Tryz.sizeOf4
 v4:=Tryz.zeroValue4
 t9:=Tryz.underlying9
 a9:=Tryz.isAgg9
 z9:=Tryz.sizeOf9
 v9:=Tryz.zeroValue9
 t37:=Tryz.underlying34
 a37:=Tryz.isAgg34
 z37:=Tryz.sizeOf34
 v37:=Tryz.zeroValue34 }
end Go.Proofs
namespace Go.Pl
def sx (bs:List Value) (xs:List T):Prop:=bs.length=xs.length∧∀(j:Nat) x,xs[j]?=some x→∃n,bs[j]?=some (.int .u8 n)∧x=.i .u8 n∧IntKind.u8.wrap n=n
theorem sx.one {bs:List Value} {xs:List T} (h:sx bs xs):∀v∈bs,v.oneCell'=true:=by
 intro v hv;obtain ⟨j,hj,rfl⟩:=Ys hv;obtain ⟨n,q,-⟩:=h.2 j (xs[j]'(by rw [←h.1];exact hj)) (WL _);rw [WL hj] at q;rw [W3 q];rfl
theorem sx.append {bs cs:List Value} {xs ys:List T} (h:sx bs xs) (h':sx cs ys):sx (bs++cs) (xs++ys):=by
 refine ⟨by simp [h.1,h'.1],fun j x hx=>?_⟩;rw [ZT] at hx ⊢;rw [h.1];split at hx
 ·rename_i hl
  rw [WY hl];exact h.2 j x hx
 ·rename_i hl
  rw [WZ hl];exact h'.2 _ x hx
theorem sx.single {n:Int} (h:IntKind.u8.wrap n=n):sx [.int .u8 n] [.i .u8 n]:=by
 refine ⟨rfl,fun j x hx=>?_⟩
 cases j with
 | zero=>simp at hx;exact ⟨n,rfl,hx.symm,h⟩
 | succ j=>simp at hx
end Go.Pl
namespace Go.Pq
open Go.Pl Go.Proofs
abbrev Uj (c:Nat) (xs:List T) (lr:Int):Arg:=.box c 3 [.own 34 0 xs,.t 2 (.i .i64 0),.t 193 (.i .i8 lr)]
theorem Ru:tab.at 5=some (5,⟨.int .u8,1,1,[],.i .u8 0⟩):=by kernel_rfl
theorem Nt:tab.at 34=some (34,⟨.sl 5,1,24,[],.l []⟩):=by kernel_rfl
theorem T3:tab.at 2=some (2,⟨.int .i64,1,8,[],.i .i64 0⟩):=by kernel_rfl
theorem Lr:tab.at 193=some (193,⟨.int .i8,1,1,[],.i .i8 0⟩):=by kernel_rfl
theorem Ns:tab.at 20=some (20,⟨.ifc,1,16,[],.z⟩):=by kernel_rfl
theorem EA {w:World} {O:Nat→Prop} {c:TypeId} {k:IntKind} {n by_:Nat} {ls:List TypeId} {zz:T} {v:Value} {x:Int} (h:tab.at c=some (c,⟨.int k,n,by_,ls,zz⟩)) (hV:V tab w O c v (.i k x)):v=.int k x∧k.wrap x=x:=by
 obtain ⟨hl,-,-⟩:=sG h rfl hV
 cases hl with
 | int h' hk hn=>exact ⟨rfl,hn⟩
theorem KK {w:World} {O:Nat→Prop} {v:Value} {g:Option Nat} {xs:List T} (h:Own tab w O 34 v g xs) {ety:TypeId} {b:Nat} {lr:Int} (hb:w.heap[b]?=some (.cells #[v,.int .i64 0,.int .i8 lr] ety (0,0))) (t_:g≠some b) :
  ∃bs,sx bs xs∧Buf.At ety 5 b g bs lr w:=by
 obtain ⟨ti,e,ce,te,q1,q2,q3,q4,q5⟩:=h;rw [Nt] at q1;simp only [WJ,WK,W5] at q1;subst q1;simp only [K.sl.injEq] at q2;subst q2;rw [Ru] at q3;simp only [WJ,WK] at q3;obtain ⟨rfl,rfl⟩:=q3
 rcases q5 with ⟨rfl,rfl,a,rfl⟩ | ⟨b',cap,cs,rfl,rfl,hh,h1,h2,h3,h4⟩
 ·exact ⟨[],⟨rfl,fun j x hx=>by simp at hx⟩,_,hb,.inl ⟨rfl,rfl,a,rfl⟩⟩
 ·simp only [Yq] at h3
  have hl:(cs.toList.take xs.length).length=xs.length:=by
   have:cs.toList.length=cs.size:=Ye
   rw [Xg];omega
  refine ⟨cs.toList.take xs.length,⟨hl,fun j x hx=>?_⟩,_,hb,.inr ⟨b',cap,cs,rfl,by rw [hl],hh,fun e=>t_ (by rw [e]),by rw [hl];exact h1,h2,h3,by rw [hl]⟩⟩;obtain ⟨k1,k2,k3⟩:=h4 j x hx;have hj:=(WQ.1 hx).1;have jw:x.leaves=[x]:=by
   cases x<;>first | rfl | (simp [T.isG,TI.isS] at k1)
  obtain ⟨u,hu,hL⟩:=k3 0 x 5 (by rw [jw];rfl) rfl;simp only [Yq,XW] at hu;have e5:=Ru
  cases hL with
  | int h' hk hn =>
   rw [e5] at h';simp only [WJ,WK,W5] at h';subst h';simp only [K.int.injEq] at hk;subst hk;exact ⟨_,by rw [Xy,WY hj,Xa];exact hu,rfl,hn⟩
  | bool h' hk=>rw [e5] at h';simp only [WJ,WK,W5] at h';subst h';cases hk
  | str h' hk=>rw [e5] at h';simp only [WJ,WK,W5] at h';subst h';cases hk
  | nil h' hk=>rw [e5] at h';simp only [WJ,WK,W5] at h';subst h';cases hk
  | sl h' hk=>rw [e5] at h';simp only [WJ,WK,W5] at h';subst h';cases hk
  | ptr h' hk=>rw [e5] at h';simp only [WJ,WK,W5] at h';subst h';cases hk
  | ifc h' hk=>rw [e5] at h';simp only [WJ,WK,W5] at h';subst h';cases hk
  | fn h' hk=>rw [e5] at h';simp only [WJ,WK,W5] at h';subst h';cases hk
  | fnc h' hk=>rw [e5] at h';simp only [WJ,WK,W5] at h';subst h';cases hk
theorem Jh {w:World} {O:Nat→Prop} {v:Value} {g:Nat} {bs:List Value} {xs:List T} {ety:TypeId} {b:Nat} {lr:Int} (hr:sx bs xs) (hb:w.heap[b]?=some (.cells #[v,.int .i64 0,.int .i8 lr] ety (0,0))) (h:Buf.At ety 5 b (some g) bs lr w) :
  Own tab w O 34 v (some g) xs:=by
 obtain ⟨v',ab,⟨q,-⟩ | ⟨g',cap,cur,q1,q2,hg,ak,cW,aP,aJ,dq⟩⟩:=h
 ·cases q
 ·rw [hb] at ab
  simp only [WJ,Obj.cells.injEq,Array.mk.injEq,ZM,ZP] at ab;subst ab;cases q1;refine ⟨_,5,5,_,Nt,rfl,Ru,by decide,.inr ⟨g,cap,cur,rfl,by rw [q2,hr.1],hg,by rw [←hr.1];exact cW,aP,by simpa using aJ,fun j x hx=>?_⟩⟩;obtain ⟨n,k1,rfl,k3⟩:=hr.2 j x hx;refine ⟨rfl,rfl,fun m y ty hy ht=>?_⟩
  cases m with
  | succ m=>simp [T.leaves] at hy
  | zero =>
   simp [T.leaves] at hy;subst hy;simp [TI.lv] at ht;subst ht;refine ⟨.int .u8 n,?_,.int Ru rfl k3⟩;simp only [Yq,XW];rw [←dq,Xy] at k1;split at k1
   ·rw [←Xa];exact k1
   ·cases k1
theorem NQ {w:World} {A:Nat→Prop} {vals:Array Value} {γ:Key→Option Nat} {c:Nat} {xs:List T} {lr:Int} {a1:Arg}
  (hr:Rel tab ⟨w.heap.size,w,A,fun b=>∃k,γ k=some b⟩ vals w (rO 0 [Uj c xs lr,a1]) γ) :
  ∃b ety bs,vals[0]?=some (.pointer (some ⟨b,0,none⟩))∧γ (pp 0)=some b∧γ (cell 0 0)≠some b∧sx bs xs∧Buf.At ety 5 b (γ (cell 0 0)) bs lr w:=by
 obtain ⟨v,hv,hx,-⟩:=hr.ent (pp 0) (top (.box c 0 3)) rfl;obtain ⟨b,cs,ety,h1,h2,h3,h4⟩:=hx trivial;rw [pz] at hv;have cellAt:∀j,pJ vals w γ (cell 0 j)=cs[j]? := by
  intro j
  show ((γ (pp 0)).bind fun b=>w.cell? ⟨b,j,none⟩)=_
  rw [h1,Xl,pM h3]
 obtain ⟨v0,v_,dR,-⟩:=hr.ent (cell 0 0) (top (.own 34 0 xs)) rfl;obtain ⟨v1,aq,fA,-⟩:=hr.ent (cell 0 1) (top (.t 2 (.i .i64 0))) rfl;obtain ⟨v2,af,oO,-⟩:=hr.ent (cell 0 2) (top (.t 193 (.i .i8 lr))) rfl;rw [cellAt] at v_ aq af;have e1:=(EA T3 (fA trivial)).1;have e2:=(EA Lr (oO trivial)).1;subst e1 e2;have ecs:cs=#[v0,.int .i64 0,.int .i8 lr]:=by
  apply Ze
  ·simp [h4]
  ·intro i i1 i2
   have i3:i<3:=by simpa using i2
   match i,i3 with
   | 0,_=>rw [W6 i1] at v_;simpa using v_
   | 1,_=>rw [W6 i1] at aq;simpa using aq
   | 2,_=>rw [W6 i1] at af;simpa using af
 subst ecs;have t_:γ (cell 0 0)≠some b:=fun e=>px (hr.inj _ _ _ h1 e);obtain ⟨bs,q1,q2⟩:=KK (dR trivial) h3 t_;exact ⟨b,ety,bs,by rw [hv,h2],h1,t_,q1,q2⟩
theorem Jb {w w':World} {A:Nat→Prop} {vals:Array Value} {γ:Key→Option Nat} {σ0 σ':St} {c:Nat} {b g2:Nat} {ety:TypeId} {bs:List Value} {xs:List T} {lr:Int} {v:Value}
  (hr:Rel tab ⟨w.heap.size,w,A,fun b=>∃k,γ k=some b⟩ vals w σ0 γ) (h0:vals[0]?=some (.pointer (some ⟨b,0,none⟩))) (hb:γ (pp 0)=some b) (t_:γ (cell 0 0)≠some b) (bL:sx bs xs)
  (ar:Buf.At ety 5 b (some g2) bs lr w') (hg:γ (cell 0 0)=some g2∨w.heap.size≤g2) (hk:Buf.Kept b (γ (cell 0 0)) w w') (oP:IntKind.i8.wrap lr=lr)
  (s0:σ'.get (pp 0)=some (top (.box c 0 3))) (c0:σ'.get (cell 0 0)=some (top (.own 34 0 xs))) (c1:σ'.get (cell 0 1)=some (top (.t 2 (.i .i64 0)))) (c2:σ'.get (cell 0 2)=some (top (.t 193 (.i .i8 lr))))
  (rest:∀k e,σ'.get k=some e→k=pp 0∨k=cell 0 0∨k=cell 0 1∨k=cell 0 2∨(k.tag≠1∧∃a v',e=top a∧(∀γ,pJ (vals.push v) w' γ k=some v')∧((∃c x,a=.t c x∧∀w O,V tab w O c v' x)∨∃n vs,a=.tup n∧v'=.tuple vs)))
  (bF:∀s j e,σ'.get (comp s j)=some e→∃p n,σ'.get (pp s)=some ⟨p,.tup n⟩) :
  ∃γ',Rel tab ⟨w.heap.size,w,A,fun b=>∃k,γ k=some b⟩ (vals.push v) w' σ' γ' := by
 obtain ⟨u,ab,jB⟩:=id ar;have ak:g2≠b:=by
  rcases jB with ⟨q,-⟩ | ⟨g',-,-,q,-,-,q2,-⟩
  ·cases q
  ·cases q;exact q2
 have lZ:=(hr.blk _ _ hb).1;have hγ:∀k x,rN (rN (fun _=>none) (pp 0) (some b)) (cell 0 0) (some g2) k=some x→(k=pp 0∧x=b)∨(k=cell 0 0∧x=g2):=by
  intro k x hx;unfold rN at hx;split at hx
  ·rename_i e;exact .inr ⟨e,(W3 hx).symm⟩
  ·split at hx
   ·rename_i e;exact .inl ⟨e,(W3 hx).symm⟩
   ·cases hx
 have g0:rN (rN (fun _=>none) (pp 0) (some b)) (cell 0 0) (some g2) (pp 0)=some b:=by rw [qa _ _ px,qg]
 have g1:rN (rN (fun _=>none) (pp 0) (some b)) (cell 0 0) (some g2) (cell 0 0)=some g2:=qg _ _ _;have c9:g2<w'.heap.size:=by
  rcases jB with ⟨q,-⟩ | ⟨g',cap,cur,q,-,q1,-⟩
  ·cases q
  ·cases q;exact (Yg.1 q1).1
 have cellAt:∀j,pJ (vals.push v) w' (rN (rN (fun _=>none) (pp 0) (some b)) (cell 0 0) (some g2)) (cell 0 j)=#[u,.int .i64 0,.int .i8 lr][j]? := by
  intro j
  show ((rN (rN (fun _=>none) (pp 0) (some b)) (cell 0 0) (some g2) (pp 0)).bind fun b=>w'.cell? ⟨b,j,none⟩)=_
  rw [g0,Xl,pM ab]
 refine ⟨rN (rN (fun _=>none) (pp 0) (some b)) (cell 0 0) (some g2),⟨hk.os,hk.tape,hk.output,hk.size,?_,hr.low,?_,?_,?_,bF,?_⟩⟩
 ·intro x hx he
  exact hk.block x hx (fun e=>he ⟨_,by rw [e];exact hb⟩) (fun e=>he ⟨_,e⟩)
 ·intro k k' x h1 h2
  rcases hγ k x h1 with ⟨rfl,rfl⟩ | ⟨rfl,rfl⟩<;>rcases hγ k' x h2 with ⟨rfl,q⟩ | ⟨rfl,q⟩
  ·rfl
  ·exact absurd q.symm ak
  ·exact absurd q ak
  ·rfl
 ·intro k x h1
  rcases hγ k x h1 with ⟨rfl,rfl⟩ | ⟨rfl,rfl⟩
  ·exact ⟨Xz lZ hk.size,(hr.blk _ _ hb).2.1,fun _=>⟨_,hb⟩⟩
  ·refine ⟨c9,?_,?_⟩
   ·rcases hg with q | q
    ·exact (hr.blk _ _ q).2.1
    ·intro hA
     have:=(hr.low _ hA).1
     simp only at this;omega
   ·intro b_
    rcases hg with q | q
    ·exact ⟨_,q⟩
    ·simp only at b_;omega
 ·intro s n e he
  rcases rest _ _ he with q | q | q | q | ⟨q,-⟩
  ·exact absurd q.symm px
  ·obtain ⟨rfl,-⟩:=rS.1 q;exact ⟨c,0,3,s0⟩
  ·obtain ⟨rfl,-⟩:=rS.1 q;exact ⟨c,0,3,s0⟩
  ·obtain ⟨rfl,-⟩:=rS.1 q;exact ⟨c,0,3,s0⟩
  ·exact absurd rfl q
 ·intro k e he
  rcases rest _ _ he with rfl | rfl | rfl | rfl | ⟨-,a,v',rfl,ag,hx⟩
  ·rw [s0] at he;cases he
   exact ⟨.pointer (some ⟨b,0,none⟩),by obtain ⟨b_,m_⟩:=Yg.1 h0;rw [pz,ZH b_,m_],fun _=>⟨b,_,ety,g0,rfl,ab,rfl⟩,fun q=>absurd trivial q⟩
  ·rw [c0] at he;cases he
   refine ⟨u,by rw [cellAt];rfl,fun _=>?_,fun q=>absurd trivial q⟩
   show Own tab w' _ 34 u (rN (rN (fun _=>none) (pp 0) (some b)) (cell 0 0) (some g2) (cell 0 0)) xs
   rw [g1];exact Jh bL ab ar
  ·rw [c1] at he;cases he
   exact ⟨.int .i64 0,by rw [cellAt];rfl,fun _=>sn T3 rfl rfl rfl rfl (.int T3 rfl rfl),fun q=>absurd trivial q⟩
  ·rw [c2] at he;cases he
   exact ⟨.int .i8 lr,by rw [cellAt];rfl,fun _=>sn Lr rfl rfl rfl rfl (.int Lr rfl oP),fun q=>absurd trivial q⟩
  ·refine ⟨v',ag _,fun _=>?_,fun q=>absurd trivial q⟩
   rcases hx with ⟨c',x,rfl,hV⟩ | ⟨n,vs,rfl,rfl⟩
   ·exact hV _ _
   ·exact .inl ⟨vs,rfl⟩
theorem FZ (c:Nat) (xs:List T) (x lr:Int) (hl:xs.length+1≤140737488355328) :
  F 197 [Uj c xs lr,.t 5 (.i .u8 x)] Z22 [.z,.l (xs++[.i .u8 x]),.i .i64 0,.i .i8 0]:=by
 refine wk (c:=tO Tryz.f197) Tryz.func197 (by kernel_rfl) (by kernel_rfl) fun w A vals γ f_ hr=>?_
 obtain ⟨b,ety,bs,h0,hb,t_,bL,ar⟩:=NQ hr;obtain ⟨v1,aq,fA,-⟩:=hr.ent (pp 1) (top (.t 5 (.i .u8 x))) rfl;rw [pz] at aq;obtain ⟨e1,oQ⟩:=EA Ru (fA trivial);subst e1;have evals:vals=#[.pointer (some ⟨b,0,none⟩),.int .u8 x]:=by
  apply Ze
  ·simp [f_]
  ·intro i i1 i2
   have i3:i<2:=by simpa using i2
   match i,i3 with
   | 0,_=>rw [W6 i1] at h0;simpa using h0
   | 1,_=>rw [W6 i1] at aq;simpa using aq
 rw [evals];refine (Buf.LD Tryz.lays179 ety b (γ (cell 0 0)) bs x lr w ar bL.one (by rw [bL.1];exact hl)).mono ?_;rintro e w' ⟨rfl,g2,q1,q2,q3⟩;refine ⟨_,rfl,?_⟩;rw [←evals];refine Jb hr h0 hb t_ (bL.append (sx.single oQ)) q1 q2 q3 rfl (c:=c) rfl rfl rfl rfl ?_ ?_
 ·intro k e he
  by_cases k0:k=pp 0
  ·exact .inl k0
  by_cases k1:k=cell 0 0
  ·exact .inr (.inl k1)
  by_cases k2:k=cell 0 1
  ·exact .inr (.inr (.inl k2))
  by_cases k3:k=cell 0 2
  ·exact .inr (.inr (.inr (.inl k3)))
  have bg:St.get [(pp 0,top (.box c 0 3)),(pp 2,top (.t 20 .z)),(cell 0 0,top (.own 34 0 (xs++[.i .u8 x]))),(cell 0 1,top (.t 2 (.i .i64 0))),(cell 0 2,top (.t 193 (.i .i8 0)))] k=some e:=he;simp only [St.get,Key.qt (YL k0),Key.qt (YL k1),Key.qt (YL k2),Key.qt (YL k3)] at bg;split at bg
  ·rename_i hq
   have hq:=Key.qs.1 hq;subst hq;refine .inr (.inr (.inr (.inr ⟨by simp [pp],.t 20 .z,.nilIface,(W3 bg).symm,fun γ=>?_,.inl ⟨20,.z,rfl,fun w O=>sn Ns rfl rfl rfl rfl (.ifc Ns rfl)⟩⟩)));rw [pz,evals];rfl
  ·cases bg
 ·intro s j e he
  have bg:St.get [(pp 0,top (.box c 0 3)),(pp 2,top (.t 20 .z)),(cell 0 0,top (.own 34 0 (xs++[.i .u8 x]))),(cell 0 1,top (.t 2 (.i .i64 0))),(cell 0 2,top (.t 193 (.i .i8 0)))] (comp s j)=some e:=he;simp only [St.get,Key.qt (show pp 0≠comp s j from pK),Key.qt (show pp 2≠comp s j from pK),Key.qt (show cell 0 0≠comp s j from pS),Key.qt (show cell 0 1≠comp s j from pS),Key.qt (show cell 0 2≠comp s j from pS)] at bg;cases bg
theorem WE {w:World} {O:Nat→Prop} {v:Value} {x:T} (h:L tab w O 5 v x):∃n,v=.int .u8 n∧x=.i .u8 n∧IntKind.u8.wrap n=n:=by
 have e5:=Ru
 cases h with
 | int h' hk hn =>
  rw [e5] at h';simp only [WJ,WK,W5] at h';subst h';simp only [K.int.injEq] at hk;subst hk;exact ⟨_,rfl,rfl,hn⟩
 | bool h' hk=>rw [e5] at h';simp only [WJ,WK,W5] at h';subst h';cases hk
 | str h' hk=>rw [e5] at h';simp only [WJ,WK,W5] at h';subst h';cases hk
 | nil h' hk=>rw [e5] at h';simp only [WJ,WK,W5] at h';subst h';cases hk
 | sl h' hk=>rw [e5] at h';simp only [WJ,WK,W5] at h';subst h';cases hk
 | ptr h' hk=>rw [e5] at h';simp only [WJ,WK,W5] at h';subst h';cases hk
 | ifc h' hk=>rw [e5] at h';simp only [WJ,WK,W5] at h';subst h';cases hk
 | fn h' hk=>rw [e5] at h';simp only [WJ,WK,W5] at h';subst h';cases hk
 | fnc h' hk=>rw [e5] at h';simp only [WJ,WK,W5] at h';subst h';cases hk
theorem Dr {w:World} {O:Nat→Prop} {v:Value} {ys:List T} (h:V tab w O 34 v (.l ys)):(v=.slice none 0 0∧ys=[]) ∨
  ∃a cap cs,v=.slice (some a) ys.length cap∧sx cs ys∧(0<ys.length→¬ O a.block)∧∀(j:Nat) x,cs[j]?=some x→w.cell? (a.add j)=some x:=by
 obtain ⟨hl,-,-⟩:=sG Nt rfl h
 cases hl with
 | nil h' hk=>exact .inl ⟨rfl,rfl⟩
 | @sl c ti e ce te a cap xs h' hk he hp B_ hm ho vs hg hv hl =>
  rw [Nt] at h';simp only [WJ,WK,W5] at h';subst h';simp only [K.sl.injEq] at hk;subst hk;rw [Ru] at he;simp only [WJ,WK] at he;obtain ⟨rfl,rfl⟩:=he;have one:∀(j:Nat) x,ys[j]?=some x→x.leaves=[x]:=by
   intro j x hx;have k1:=(hg j x hx).1;cases x<;>first | rfl | (simp [T.isG,TI.isS] at k1)
  have i_:((List.range ys.length).map fun j=>vs j 0).length=ys.length:=by simp
  refine .inr ⟨a,cap,(List.range ys.length).map fun j=>vs j 0,rfl,⟨i_,fun j x hx=>?_⟩,ho,fun j x hx=>?_⟩
  ·have hj:=(WQ.1 hx).1
   have hL:=hl j x 0 x 5 hx (by rw [one j x hx];rfl) rfl;obtain ⟨n,q1,q2,q3⟩:=WE hL;exact ⟨n,by rw [Xs,Yl hj];exact Xx some q1,q2,q3⟩
  ·have hj:j<ys.length:=by have:=(WQ.1 hx).1;rwa [i_] at this
   rw [Xs,Yl hj] at hx;simp only [XH,WJ] at hx;subst hx
   have:=hv j ys[j] 0 ys[j] (WL hj) (by rw [one j ys[j] (WL hj)];rfl)
   simpa using this
theorem Jg {w:World} {O:Nat→Prop} {v:Value} {ys:List T} (h:V tab w O 34 v (.l ys)) (h0:1≤ys.length) :
  ∃a cap cs,v=.slice (some a) ys.length cap∧sx cs ys∧¬ O a.block∧∀(j:Nat) x,cs[j]?=some x→w.cell? (a.add j)=some x:=by
 rcases Dr h with ⟨-,rfl⟩ | ⟨a,cap,cs,q1,q2,q3,q4⟩
 ·simp at h0
 ·exact ⟨a,cap,cs,q1,q2,q3 (by omega),q4⟩
theorem RJ (c:Nat) (xs ys:List T) (lr:Int) (h0:1≤ys.length) (hl:xs.length+ys.length≤140737488355328) :
  F 173 [Uj c xs lr,.t 34 (.l ys)] Z24 [.i .i64 (ys.length:Int),.z,.l (xs++ys),.i .i64 0,.i .i8 0]:=by
 refine wk (c:=tO Tryz.f173) Tryz.func173 (by kernel_rfl) (by kernel_rfl) fun w A vals γ f_ hr=>?_
 obtain ⟨b,ety,bs,ej,hb,t_,bL,ar⟩:=NQ hr;obtain ⟨v1,aq,fA,-⟩:=hr.ent (pp 1) (top (.t 34 (.l ys))) rfl;rw [pz] at aq;obtain ⟨a,cap,cs,e1,aJ,cZ,b8⟩:=Jg (fA trivial) h0;subst e1;have evals:vals=#[.pointer (some ⟨b,0,none⟩),.slice (some a) ys.length cap]:=by
  apply Ze
  ·simp [f_]
  ·intro i i1 i2
   have i3:i<2:=by simpa using i2
   match i,i3 with
   | 0,_=>rw [W6 i1] at ej;simpa using ej
   | 1,_=>rw [W6 i1] at aq;simpa using aq
 rw [evals];refine (Buf.write Tryz.lays180 ety b (γ (cell 0 0)) bs cs a ys.length cap lr w ar bL.one aJ.1 h0 (fun e=>cZ (.inr ⟨_,by rw [e];exact hb⟩)) (fun e=>cZ (.inr ⟨_,e⟩)) b8 aJ.one (by rw [bL.1];exact hl)).mono ?_;rintro e w' ⟨rfl,g2,q1,q2,q3⟩;refine ⟨_,rfl,?_⟩;rw [←evals];have i_:(IntKind.i64.wrap (ys.length:Int))=(ys.length:Int):=by rw [IntKind.wrap_i64];omega
 refine Jb hr ej hb t_ (bL.append aJ) q1 q2 q3 rfl (c:=c) rfl rfl rfl rfl ?_ ?_
 ·intro k e he
  by_cases k0:k=pp 0
  ·exact .inl k0
  by_cases k1:k=cell 0 0
  ·exact .inr (.inl k1)
  by_cases k2:k=cell 0 1
  ·exact .inr (.inr (.inl k2))
  by_cases k3:k=cell 0 2
  ·exact .inr (.inr (.inr (.inl k3)))
  have bg:St.get [(pp 0,top (.box c 0 3)),(pp 2,top (.tup 0)),(comp 2 0,top (.t 2 (.i .i64 (ys.length:Int)))),(comp 2 1,top (.t 20 .z)),(cell 0 0,top (.own 34 0 (xs++ys))),(cell 0 1,top (.t 2 (.i .i64 0))),(cell 0 2,top (.t 193 (.i .i8 0)))] k=some e:=he;simp only [St.get,Key.qt (YL k0),Key.qt (YL k1),Key.qt (YL k2),Key.qt (YL k3)] at bg;split at bg
  ·rename_i hq
   have hq:=Key.qs.1 hq;subst hq;refine .inr (.inr (.inr (.inr ⟨by simp [pp],_,.tuple #[.int .i64 (ys.length:Int),.nilIface],(W3 bg).symm,fun γ=>?_,.inr ⟨0,_,rfl,rfl⟩⟩)));rw [pz,evals];rfl
  ·split at bg
   ·rename_i hq
    have hq:=Key.qs.1 hq;subst hq;refine .inr (.inr (.inr (.inr ⟨by simp [comp],_,.int .i64 (ys.length:Int),(W3 bg).symm,fun γ=>?_,.inl ⟨2,_,rfl,fun w O=>sn T3 rfl rfl rfl rfl (.int T3 rfl i_)⟩⟩)));rw [evals];rfl
   ·split at bg
    ·rename_i hq
     have hq:=Key.qs.1 hq;subst hq;refine .inr (.inr (.inr (.inr ⟨by simp [comp],_,.nilIface,(W3 bg).symm,fun γ=>?_,.inl ⟨20,.z,rfl,fun w O=>sn Ns rfl rfl rfl rfl (.ifc Ns rfl)⟩⟩)));rw [evals];rfl
    ·cases bg
 ·intro s j e he
  have bg:St.get [(pp 0,top (.box c 0 3)),(pp 2,top (.tup 0)),(comp 2 0,top (.t 2 (.i .i64 (ys.length:Int)))),(comp 2 1,top (.t 20 .z)),(cell 0 0,top (.own 34 0 (xs++ys))),(cell 0 1,top (.t 2 (.i .i64 0))),(cell 0 2,top (.t 193 (.i .i8 0)))] (comp s j)=some e:=he
  by_cases hs:s=2
  ·subst hs
   exact ⟨[],0,rfl⟩
  ·simp only [St.get,Key.qt (show pp 0≠comp s j from pK),Key.qt (show pp 2≠comp s j from pK),Key.qt (show cell 0 0≠comp s j from pS),Key.qt (show cell 0 1≠comp s j from pS),Key.qt (show cell 0 2≠comp s j from pS),Key.qt (show comp 2 0≠comp s j from fun e=>hs (sw.1 e).1.symm),Key.qt (show comp 2 1≠comp s j from fun e=>hs (sw.1 e).1.symm)] at bg
   cases bg
theorem Ec {P:Program} (w:World) (src e:TypeId) (hs:P.underlying src=some (.slice e)) (he:P.underlying e=some (.int .u8)) (a:Go.Addr) (len cap:Nat) (xs:List Int) (i_:xs.length=len)
  (G_:∀(j:Nat) v,(xs.map (Value.int .u8))[j]?=some v→w.cell? (a.add j)=some v) :
  ∀dst,P.underlying dst=some .string→(convert src dst (.slice (some a) len cap)).run P w=.ok (.string (strOfNums xs)) w:=by
 intro dst hd;have hl:(loadCells a len).run P w=.ok (xs.map (Value.int .u8)).toArray w:=by
  have:=run_loadCells_list (P:=P) w a (xs.map (Value.int .u8)) G_
  simpa [i_] using this
 rw [run_convert_bytes_string w src dst e _ len cap hs he hd,run_bytesToString w _ len cap xs hl,foldl_push_bytes];simp [strOfNums,ByteArray.empty,ByteArray.emptyWithCapacity];rfl
theorem BL {w:World} {O:Nat→Prop} {v:Value} {l:List UInt8} (h:V tab w O 34 v (se l)):(convert 34 9 v).run Tryz.prog w=.ok (.string (strOfNums (l.map fun x=>(x.toNat:Int)))) w:=by
 have hs:Tryz.prog.underlying 34=some (.slice 5):=Tryz.underlying34;have he:Tryz.prog.underlying 5=some (.int .u8):=Tryz.underlying5;have hd:Tryz.prog.underlying 9=some .string:=Tryz.underlying9
 rcases Dr h with ⟨rfl,hq⟩ | ⟨a,cap,cs,rfl,q2,-,q4⟩
 ·have:l=[]:=by
   cases l with
   | nil=>rfl
   | cons=>simp [rW] at hq
  subst this;exact run_convert_bytes_nil w 34 5 hs he 0 0 9 hd
 ·refine Ec w 34 5 hs he a _ cap _ (by simp [rW]) (fun j u hu=>q4 j u ?_) 9 hd
  rw [Yo,Xs] at hu
  cases hx:l[j]? with
  | none=>rw [hx] at hu;cases hu
  | some x =>
   rw [hx] at hu;simp only [XH,WJ] at hu;subst hu;obtain ⟨n,k1,k2,-⟩:=q2.2 j (.i .u8 (x.toNat:Int)) (by simp [rW,hx]);simp only [T.i.injEq,W5] at k2;rw [k1,←k2];rfl
theorem Al (l:List UInt8):Lib.bytesOf (l.map fun x=>(x.toNat:Int))=l:=by
 unfold Lib.bytesOf;rw [Yo]
 conv=>rhs;rw [←List.map_id l]
 apply Yu;intro x _;simp
theorem O2 (a b:List UInt8):F 180 [.t 34 (se a),.t 34 (se b)] (zo 2 4) [.b (a == b)]:=by
 refine wk (c:=tO Tryz.f180) Tryz.func180 (by kernel_rfl) (by kernel_rfl) fun w A vals γ f_ hr=>?_
 obtain ⟨v0,v_,dR,-⟩:=hr.ent (pp 0) (top (.t 34 (se a))) rfl;obtain ⟨v1,aq,fA,-⟩:=hr.ent (pp 1) (top (.t 34 (se b))) rfl;rw [pz] at v_ aq;have evals:vals=#[v0,v1]:=by
  apply Ze
  ·simp [f_]
  ·intro i i1 i2
   have i3:i<2:=by simpa using i2
   match i,i3 with
   | 0,_=>rw [W6 i1] at v_;simpa using v_
   | 1,_=>rw [W6 i1] at aq;simpa using aq
 rw [evals];refine (Any.bytes_Equal Tryz.lays115 v0 v1 _ _ w (BL (dR trivial)) (BL (fA trivial))).mono ?_;rintro e w' ⟨rfl,rfl⟩;refine ⟨_,rfl,fun _=>none,⟨rfl,rfl,rfl,WU _,fun _ _ _=>rfl,hr.low,fun k k' b h=>by (cases h),fun k b h=>by (cases h),fun s n e he=>?_,fun s j e he=>?_,fun k e he=>?_⟩⟩
 ·have he:St.get [(pp 2,top (.t 4 (.b (a == b))))] (cell s n)=some e:=he
  simp only [St.get,Key.qt (show pp 2≠cell s n from px)] at he;cases he
 ·have he:St.get [(pp 2,top (.t 4 (.b (a == b))))] (comp s j)=some e:=he
  simp only [St.get,Key.qt (show pp 2≠comp s j from pK)] at he;cases he
 ·have he:St.get [(pp 2,top (.t 4 (.b (a == b))))] k=some e:=he
  simp only [St.get] at he;split at he
  ·rename_i hq
   have hq:=Key.qs.1 hq;subst hq;cases he;refine ⟨.bool (a == b),?_,fun _=>?_,fun q=>absurd trivial q⟩
   ·rw [pz,Al,Al];rfl
   ·have t4:tab.at 4=some (4,⟨.bool,1,1,[],.b false⟩):=by kernel_rfl
    exact sn t4 rfl rfl rfl rfl (.bool t4 rfl)
  ·cases he
def VX:Ctx:=⟨tab,sigs,13,[0,2],[cell 0 0],[],[],[],[0]⟩
theorem PT (b0_0:List T) (b0_1:T) (b0_2:T) (y0:T) (y1:T) (y2:T) (y3:T) (h:(True∧True)∧kI (qc .i64 ↑b0_0.length b0_1.int)=y0∧T.l b0_0=y1∧b0_1=y2∧b0_2=y3∧True):F 172 [.box 197 3 [.own 34 0 b0_0,.t 2 b0_1,.t 193 b0_2]] Z25 [y0,y1,y2,y3] :=
 p7 VX (by kernel_rfl) Tryz.func172 (by kernel_rfl) .no (by kernel_rfl) h
def Vr:Ctx:=⟨tab,sigs,79,[0,1,2,3,5,6,8,36,37,38,52],[cell 8 0,cell 52 0,fld 7 3 0,fld 51 3 0,⟨6,174,0⟩,pp 7,pp 51],[(168,⟨[],[(0,[true,false,false])],[]⟩),(169,⟨[],[(0,[true,false,false])],[]⟩),(170,⟨[],[(0,[true,false,false])],[]⟩),(171,⟨[],[(0,[true,false,false])],[]⟩),(172,⟨[],[(0,[true,false,false])],[]⟩),(173,⟨[],[(0,[true,false,false])],[]⟩)],[],[],[]⟩
theorem Pq (a0:T) (y0:T) (I0:X19→Prop) (M0:X19→Nat) (h:∃y y_1 y_2:T,F 168 [.box 197 3 [.own 34 0 [],.t 2 (kI 0),.t 193 (T.i .i8 0)],.t 2 (a0.cell 0)] Z23 [y,y_1,y_2]∧∃y_3 y_4 y_5:T,F 168 [.box 197 3 [.own 34 0 y.list,.t 2 y_1,.t 193 y_2],.t 2 (a0.cell 12)] Z23 [y_3,y_4,y_5]∧∃y y_6 y_7:T,F 169 [.box 197 3 [.own 34 0 y_3.list,.t 2 y_4,.t 193 y_5],.t 28 (a0.cell 15)] Z23 [y,y_6,y_7]∧∃y_8 y_9 y_10:T,F 170 [.box 197 3 [.own 34 0 y.list,.t 2 y_6,.t 193 y_7],.t 25 (a0.cell 13)] Z23 [y_8,y_9,y_10]∧∃y y_11 y_12:T,F 168 [.box 197 3 [.own 34 0 y_8.list,.t 2 y_9,.t 193 y_10],.t 2 (kI (lenOf (a0.cell 14).list))] Z23 [y,y_11,y_12]∧(∃(i:X19),I0 i∧R49 a0 (y.list=i.1∧y_11=i.2.1∧y_12=i.2.2.1∧R48 a0 (kI 0=kI ↑i.2.2.2∧True)))∧(∀(i:X19),true=true)∧∀(i:X19),I0 i→(ltI ↑i.2.2.2 (lenOf (a0.cell 14).list)=true→(Bd ↑i.2.2.2 (lenOf (a0.cell 14).list))∧∃y y_13 y_14:T,F 169 [.box 197 3 [.own 34 0 i.1,.t 2 i.2.1,.t 193 i.2.2.1],.t 28 (((a0.cell 14).list.getD (↑i.2.2.2:Int).toNat T.u).cell 0)] Z23 [y,y_13,y_14]∧∃(j:X19),I0 j∧M0 j<M0 i∧R49 a0 (y.list=j.1∧y_13=j.2.1∧y_14=j.2.2.1∧R48 a0 (kI (pL .i64 ↑i.2.2.2 1)=kI ↑j.2.2.2∧True)))∧(ltI ↑i.2.2.2 (lenOf (a0.cell 14).list)=false→∃y y_13 y_14:T,F 171 [.box 197 3 [.own 34 0 i.1,.t 2 i.2.1,.t 193 i.2.2.1],.t 29 (T.g [a0.cell 1,a0.cell 2,a0.cell 3,a0.cell 4,a0.cell 5,a0.cell 6,a0.cell 7,a0.cell 8,a0.cell 9,a0.cell 10,a0.cell 11])] Z23 [y,y_13,y_14]∧∃y_15 y_16 y_17 y_18:T,F 172 [.box 197 3 [.own 34 0 y.list,.t 2 y_13,.t 193 y_14]] Z25 [y_15,y_16,y_17,y_18]∧∃y y_19 y_20:T,F 168 [.box 197 3 [.own 34 0 [],.t 2 (kI 0),.t 193 (T.i .i8 0)],.t 2 (kI (pL .i64 y_15.int 16))] Z23 [y,y_19,y_20]∧Hk Tryz.prog 174∧y_17.int=(0:Int)∧∃y_21 y_22 y_23 y_24 y_25:T,F 173 [.box 197 3 [.own 34 0 y.list,.t 2 y_19,.t 193 y_20],.t 34 (T.l (List.take y_16.list.length (List.drop 0 y_16.list)))] Z24 [y_21,y_22,y_23,y_24,y_25]∧Hk Tryz.prog 174∧y_24.int=(0:Int)∧∃y:T,F 175 [.t 34 (T.l (List.take y_23.list.length (List.drop 0 y_23.list)))] (zo 1 2) [y]∧∃y_26 y_27 y_28:T,F 168 [.box 197 3 [.own 34 0 y_23.list,.t 2 y_24,.t 193 y_25],.t 2 y] Z23 [y_26,y_27,y_28]∧Hk Tryz.prog 174∧y_27.int=(0:Int)∧True∧T.l (List.take y_26.list.length (List.drop 0 y_26.list))=y0∧True)):F 134 [.t 62 a0] (zo 1 34) [y0] :=
 p7 Vr (by kernel_rfl) Tryz.func134 (by kernel_rfl) (.two .no (.two .no (.two .no (.two .no (.two .no (.two .no (.two .no (.two (.two .no (.lp (fun (ia:X19)=>[(pp 0,AV.t 62 a0),(pp 1,AV.box 62 0 16)]++bxS 1 a0 0 Y9++[(pp 2,AV.t 34 (T.l [])),(pp 8,AV.box 197 0 3),(cell 8 0,.own 34 0 ia.1),(cell 8 1,.t 2 ia.2.1),(cell 8 2,.t 193 ia.2.2.1),(pp 3,AV.ptr 8 0 0),(pp 36,AV.t 59 (a0.cell 14)),(pp 37,AV.t 2 (T.i IntKind.i64 (lenOf (a0.cell 14).list))),(pp 38,.t 2 (.i .i64 (ia.2.2.2:Int)))]) I0 M0 (fun _=>.no))) .no)))))))) (by kernel_rfl) h
def Vs:Ctx:=⟨tab,sigs,72,[0,1,3,4,5,6,7,8,11,37,38],[cell 7 14,fld 32 15 13,pp 32],[(176,⟨[],[(0,[false])],[]⟩),(177,⟨[],[(0,[false])],[]⟩),(178,⟨[],[(0,[false])],[]⟩),(179,⟨[],[(0,[false])],[]⟩)],[(11,[cell 7 14])],[],[]⟩
theorem Pr (a0:T) (a1:T) (y0:T) (y1:T) (I0:X20→Prop) (M0:X20→Nat) (h:∃y y_1:T,F 176 [.box 210 1 [.t 34 (a0.cell 0)]] Z18 [y,y_1]∧(neI y.int (lenOf a0.list)=true→True∧T.g [kI 0,kI 0,kI 0,T.b false,T.l [],T.l [],T.l [],T.l [],T.l [],T.l [],T.l [],T.l [],kI 0,T.l [],T.l [],T.l []]=y0∧T.b false=y1∧True)∧(neI y.int (lenOf a0.list)=false→∃y y_2:T,F 176 [.box 210 1 [.t 34 y_1]] Z18 [y,y_2]∧∃y_3:T,F 59 [.t 29 (G11 a1)] (zo 1 29) [y_3]∧∃y_4 y_5:T,F 176 [.box 210 1 [.t 34 y_2]] Z18 [y_4,y_5]∧∃y_6 y_7:T,F 177 [.box 210 1 [.t 34 y_5]] Z19 [y_6,y_7]∧∃y_8 y_9:T,F 178 [.box 210 1 [.t 34 y_7]] Z21 [y_8,y_9]∧∃y_10 y_11:T,F 179 [.box 210 1 [.t 34 y_9]] Z18 [y_10,y_11]∧(0≤y_10.int∧y_10.int≤y_10.int∧(↑24:Int)*y_10.int≤(281474976710656:Int)∧y_10.int≤(9223372036854775807:Int))∧(∃(i:X20),I0 i∧R50 a0 a1 (y_11=i.2.2.1∧True∧True∧y.cell 0=i.1.cell 0∧y_3.cell 0=i.1.cell 1∧y_3.cell 1=i.1.cell 2∧y_3.cell 2=i.1.cell 3∧y_3.cell 3=i.1.cell 4∧y_3.cell 4=i.1.cell 5∧y_3.cell 5=i.1.cell 6∧y_3.cell 6=i.1.cell 7∧y_3.cell 7=i.1.cell 8∧y_3.cell 8=i.1.cell 9∧y_3.cell 9=i.1.cell 10∧y_3.cell 10=i.1.cell 11∧y_4.cell 0=i.1.cell 12∧y_8.cell 0=i.1.cell 13∧List.replicate y_10.int.toNat (T.l [])=i.2.1∧y_6.cell 0=i.1.cell 15∧kI (↑(List.replicate y_10.int.toNat (T.l [])).length:Int)=kI ↑i.2.2.2.1∧kI 0=kI ↑i.2.2.2.2∧True))∧(∀(i:X20),true=true)∧∀(i:X20),I0 i→(ltI ↑i.2.2.2.2 ↑i.2.2.2.1=true→∃y y_12:T,F 177 [.box 210 1 [.t 34 i.2.2.1]] Z19 [y,y_12]∧(Bd ↑i.2.2.2.2 (↑i.2.1.length:Int))∧∃(j:X20),I0 j∧M0 j<M0 i∧R50 a0 a1 (y_12=j.2.2.1∧True∧True∧E14 i.1 j.1 (i.2.1.set (0+(↑i.2.2.2.2:Int).toNat) y=j.2.1∧i.1.cell 15=j.1.cell 15∧kI ↑i.2.2.2.1=kI ↑j.2.2.2.1∧kI (pL .i64 ↑i.2.2.2.2 1)=kI ↑j.2.2.2.2∧True)))∧(ltI ↑i.2.2.2.2 ↑i.2.2.2.1=false→∃y:T,((T.ite (ltI (i.1.cell 0).int (0:Int)) (T.b true) (T.b (leI 1099511627776 (i.1.cell 0).int))).bool=false∧True→F 34 [.t 60 (T.g [i.1.cell 1,i.1.cell 2,i.1.cell 3,i.1.cell 4,i.1.cell 5,i.1.cell 6,i.1.cell 7,i.1.cell 8,i.1.cell 9,i.1.cell 10,i.1.cell 11,i.1.cell 12,i.1.cell 13,T.l i.2.1,i.1.cell 15])] (zo 1 4) [y])∧∃y_12:T,((T.ite (T.ite (ltI (i.1.cell 0).int (0:Int)) (T.b true) (T.b (leI 1099511627776 (i.1.cell 0).int))).bool (T.b true) (T.b !y.bool)).bool=false∧True→F 134 [.t 62 (T.g [i.1.cell 0,i.1.cell 1,i.1.cell 2,i.1.cell 3,i.1.cell 4,i.1.cell 5,i.1.cell 6,i.1.cell 7,i.1.cell 8,i.1.cell 9,i.1.cell 10,i.1.cell 11,i.1.cell 12,i.1.cell 13,T.l i.2.1,i.1.cell 15])] (zo 1 34) [y_12])∧∃y_13:T,((T.ite (T.ite (ltI (i.1.cell 0).int (0:Int)) (T.b true) (T.b (leI 1099511627776 (i.1.cell 0).int))).bool (T.b true) (T.b !y.bool)).bool=false∧True→F 180 [.t 34 y_12,.t 34 a0] (zo 2 4) [y_13])∧((T.ite (T.ite (T.ite (ltI (i.1.cell 0).int (0:Int)) (T.b true) (T.b (leI 1099511627776 (i.1.cell 0).int))).bool (T.b true) (T.b !y.bool)).bool (T.b true) (T.b !y_13.bool)).bool=true→True∧T.g [kI 0,kI 0,kI 0,T.b false,T.l [],T.l [],T.l [],T.l [],T.l [],T.l [],T.l [],T.l [],kI 0,T.l [],T.l [],T.l []]=y0∧T.b false=y1∧True)∧((T.ite (T.ite (T.ite (ltI (i.1.cell 0).int (0:Int)) (T.b true) (T.b (leI 1099511627776 (i.1.cell 0).int))).bool (T.b true) (T.b !y.bool)).bool (T.b true) (T.b !y_13.bool)).bool=false→True∧T.g [i.1.cell 0,i.1.cell 1,i.1.cell 2,i.1.cell 3,i.1.cell 4,i.1.cell 5,i.1.cell 6,i.1.cell 7,i.1.cell 8,i.1.cell 9,i.1.cell 10,i.1.cell 11,i.1.cell 12,i.1.cell 13,T.l i.2.1,i.1.cell 15]=y0∧T.b true=y1∧True)))):F 136 [.t 34 a0,.t 29 a1] Z26 [y0,y1] :=
 p7 Vs (by kernel_rfl) Tryz.func136 (by kernel_rfl) (.two .no (.two .no (.two .no (.two .no (.two .no (.two (.two .no (.lp (fun (ia:X20)=>[(pp 0,AV.t 34 a0),(pp 1,AV.t 29 a1),(pp 3,AV.box 29 0 11)]++bxS 3 a1 0 Y1++[(pp 4,AV.box 62 0 16),(cell 4 0,AV.t 2 (T.i IntKind.i64 (0:Int))),(cell 4 1,AV.t 2 (T.i IntKind.i64 (0:Int))),(cell 4 2,AV.t 2 (T.i IntKind.i64 (0:Int))),(cell 4 3,AV.t 4 (T.b false)),(cell 4 4,AV.t 22 (T.l [])),(cell 4 5,AV.t 22 (T.l [])),(cell 4 6,AV.t 25 (T.l [])),(cell 4 7,AV.t 26 (T.l [])),(cell 4 8,AV.t 25 (T.l [])),(cell 4 9,AV.t 26 (T.l [])),(cell 4 10,AV.t 27 (T.l [])),(cell 4 11,AV.t 28 (T.l [])),(cell 4 12,AV.t 2 (T.i IntKind.i64 (0:Int))),(cell 4 13,AV.t 25 (T.l [])),(cell 4 14,AV.t 59 (T.l [])),(cell 4 15,AV.t 28 (T.l [])),(pp 5,AV.t 4 (T.b false)),(pp 11,AV.box 210 0 1),(cell 11 0,.t 34 ia.2.2.1),(pp 6,AV.ptr 11 0 0),(pp 7,AV.box 62 0 16)]++bxS 7 ia.1 0 Y10++[(cell 7 14,.own 59 0 ia.2.1),(cell 7 15,.t 28 (ia.1.cell 15)),(pp 37,.t 2 (.i .i64 (ia.2.2.2.1:Int))),(pp 38,.t 2 (.i .i64 (ia.2.2.2.2:Int)))]) I0 M0 (fun _=>.no))) .no)))))) (by kernel_rfl) h
def C97:Ctx:=⟨tab,sigs,45,[0,1,3,4,5,6,7,8],[cell 0 11],[(132,⟨[],[(0,[false,false,false,false,false,false,false,false,false,false,false,true,false])],[]⟩),(135,⟨[true],[],[true,false,false]⟩)],[],[],[0]⟩
theorem NY (b0_0:T) (b0_1:T) (b0_2:T) (b0_3:T) (b0_4:T) (b0_5:T) (b0_6:T) (b0_7:T) (b0_8:T) (b0_9:T) (b0_10:T) (b0_11:List T) (b0_12:T) (a1:T) (y0:T) (y1:T) (y2:T) (y3:T) (y4:T) (y5:T) (y6:T) (y7:T) (y8:T) (y9:T) (y10:T) (y11:T) (y12:T) (y13:T) (y14:T) (h:∃y y_1 y_2 y_3 y_4 y_5 y_6 y_7 y_8 y_9 y_10 y_11 y_12 y_13 y_14:T,F 132 [.box 111 13 [.t 2 b0_0,.t 2 b0_1,.t 4 b0_2,.t 22 b0_3,.t 22 b0_4,.t 25 b0_5,.t 26 b0_6,.t 25 b0_7,.t 26 b0_8,.t 27 b0_9,.t 28 b0_10,.own 31 0 b0_11,.t 2 b0_12],.t 2 (a1.cell 1)] Z14 [y,y_1,y_2,y_3,y_4,y_5,y_6,y_7,y_8,y_9,y_10,y_11,y_12,y_13,y_14]∧((!y_1.bool)=true→(True∧True)∧T.g [kI 0,kI 0,T.l [],T.l [],T.l [],T.b false,T.l [],T.l []]=y0∧kI 5=y1∧y_2=y2∧y_3=y3∧y_4=y4∧y_5=y5∧y_6=y6∧y_7=y7∧y_8=y8∧y_9=y9∧y_10=y10∧y_11=y11∧y_12=y12∧T.l y_13.list=y13∧y_14=y14∧True)∧((!y_1.bool)=false→(Bd (y.int) (↑y_13.list.length:Int))∧∃y_15:T,F 134 [.t 62 ((y_13.list.getD (0+y.int.toNat) T.u).part 0 16)] (zo 1 34) [y_15]∧∃y_16:T,F 135 [.own 31 (List.take y_13.list.length y_13.list),.t 2 y,.t 2 (kI (pL .i64 y.int 1))] (zw 3 31) [y_16]∧(True∧True)∧T.g [kI 0,(a1.cell 1).cell 0,T.l [],y_15.cell 0,T.l [],T.b false,T.l [],T.l []]=y0∧kI 0=y1∧y_2=y2∧y_3=y3∧y_4=y4∧y_5=y5∧y_6=y6∧y_7=y7∧y_8=y8∧y_9=y9∧y_10=y10∧y_11=y11∧y_12=y12∧T.l y_16.list=y13∧y_14=y14∧True)):F 97 [.box 111 13 [.t 2 b0_0,.t 2 b0_1,.t 4 b0_2,.t 22 b0_3,.t 22 b0_4,.t 25 b0_5,.t 26 b0_6,.t 25 b0_7,.t 26 b0_8,.t 27 b0_9,.t 28 b0_10,.own 31 0 b0_11,.t 2 b0_12],.t 35 a1] Z13 [y0,y1,y2,y3,y4,y5,y6,y7,y8,y9,y10,y11,y12,y13,y14] :=
 p7 C97 (by kernel_rfl) Tryz.func97 (by kernel_rfl) .no (by kernel_rfl) h
def C98:Ctx:=⟨tab,sigs,76,[0,1,3,4,5,6,7,8,9,31,34],[cell 0 11],[(62,⟨[true],[],[]⟩),(132,⟨[],[(0,[false,false,false,false,false,false,false,false,false,false,false,true,false])],[]⟩),(137,⟨[true],[],[true,false,false]⟩)],[],[],[0]⟩
theorem NZ (b0_0:T) (b0_1:T) (b0_2:T) (b0_3:T) (b0_4:T) (b0_5:T) (b0_6:T) (b0_7:T) (b0_8:T) (b0_9:T) (b0_10:T) (b0_11:List T) (b0_12:T) (a1:T) (y0:T) (y1:T) (y2:T) (y3:T) (y4:T) (y5:T) (y6:T) (y7:T) (y8:T) (y9:T) (y10:T) (y11:T) (y12:T) (y13:T) (y14:T) (h:∃y y_1:T,F 136 [.t 34 (a1.cell 4),.t 29 (T.g [b0_0,b0_1,b0_2,b0_3,b0_4,b0_5,b0_6,b0_7,b0_8,b0_9,b0_10])] Z26 [y,y_1]∧((!y_1.bool)=true→(True∧True)∧T.g [kI 0,kI 0,T.l [],T.l [],T.l [],T.b false,T.l [],T.l []]=y0∧kI 20=y1∧b0_0=y2∧b0_1=y3∧b0_2=y4∧b0_3=y5∧b0_4=y6∧b0_5=y7∧b0_6=y8∧b0_7=y9∧b0_8=y10∧b0_9=y11∧b0_10=y12∧T.l b0_11=y13∧b0_12=y14∧True)∧((!y_1.bool)=false→∃y_2 y_3 y_4 y_5 y_6 y_7 y_8 y_9 y_10 y_11 y_12 y_13 y_14 y_15 y_16:T,F 132 [.box 111 13 [.t 2 b0_0,.t 2 b0_1,.t 4 b0_2,.t 22 b0_3,.t 22 b0_4,.t 25 b0_5,.t 26 b0_6,.t 25 b0_7,.t 26 b0_8,.t 27 b0_9,.t 28 b0_10,.own 31 0 b0_11,.t 2 b0_12],.t 2 (y.cell 0)] Z14 [y_2,y_3,y_4,y_5,y_6,y_7,y_8,y_9,y_10,y_11,y_12,y_13,y_14,y_15,y_16]∧(y_3.bool=true→(True∧True)∧T.g [kI 0,kI 0,T.l [],T.l [],T.l [],T.b false,T.l [],T.l []]=y0∧kI 23=y1∧y_4=y2∧y_5=y3∧y_6=y4∧y_7=y5∧y_8=y6∧y_9=y7∧y_10=y8∧y_11=y9∧y_12=y10∧y_13=y11∧y_14=y12∧T.l y_15.list=y13∧y_16=y14∧True)∧(y_3.bool=false→(eqI ↑y_15.list.length 8=true→(True∧True)∧T.g [kI 0,kI 0,T.l [],T.l [],T.l [],T.b false,T.l [],T.l []]=y0∧kI 2=y1∧y_4=y2∧y_5=y3∧y_6=y4∧y_7=y5∧y_8=y6∧y_9=y7∧y_10=y8∧y_11=y9∧y_12=y10∧y_13=y11∧y_14=y12∧T.l y_15.list=y13∧y_16=y14∧True)∧(eqI ↑y_15.list.length 8=false→∃y_17:T,F 137 [.own 31 (List.take y_15.list.length y_15.list),.t 2 y_2,.t 31 (T.l ((List.replicate 1 (T.g [kI 0,kI 0,kI 0,T.b false,T.l [],T.l [],T.l [],T.l [],T.l [],T.l [],T.l [],T.l [],kI 0,T.l [],T.l [],T.l []])).set 0 (G16 y)))] (zw 3 31) [y_17]∧∃y_18:T,F 62 [.t 28 (y.cell 15)] (zw 1 28) [y_18]∧(True∧True)∧T.g [kI 0,(y.cell 0).cell 0,T.l y_18.list,T.l [],T.l [],T.b false,T.l [],T.l []]=y0∧kI 0=y1∧y_4=y2∧y_5=y3∧y_6=y4∧y_7=y5∧y_8=y6∧y_9=y7∧y_10=y8∧y_11=y9∧y_12=y10∧y_13=y11∧y_14=y12∧T.l y_17.list=y13∧kI (xk y_16.int (pL .i64 (y.cell 0).int (1:Int)))=y14∧True)))):F 98 [.box 111 13 [.t 2 b0_0,.t 2 b0_1,.t 4 b0_2,.t 22 b0_3,.t 22 b0_4,.t 25 b0_5,.t 26 b0_6,.t 25 b0_7,.t 26 b0_8,.t 27 b0_9,.t 28 b0_10,.own 31 0 b0_11,.t 2 b0_12],.t 35 a1] Z13 [y0,y1,y2,y3,y4,y5,y6,y7,y8,y9,y10,y11,y12,y13,y14] :=
 p7 C98 (by kernel_rfl) Tryz.func98 (by kernel_rfl) .no (by kernel_rfl) h
set_option maxHeartbeats 2000000 in
theorem FW:Hk Tryz.prog 174:=by
 intro b w a n cap h0 h1 P_ hm a6;have bU:maxLen=9223372036854775807:=rfl;have aY:(callFunc 174 #[.pointer (some ⟨b,0,none⟩)]).run Tryz.prog w=.ok (.enter 174 #[.pointer (some ⟨b,0,none⟩)]) w:=by
  have h1:Tryz.prog.funcs[174]?=some Tryz.f174:=Tryz.func174;have h2 : ¬ Tryz.f174.name = "runtime.NumGoroutine" := by
   have : (Tryz.f174.name == "runtime.NumGoroutine") = false := by kernel_rfl
   simpa using this
  have h3:Tryz.f174.body=some (tO Tryz.f174):=by kernel_rfl
  simp [callFunc,h1,h2,h3]
 have main:Calls Tryz.prog 174 #[.pointer (some ⟨b,0,none⟩)] w fun e w'=>e=.returned (.slice a n cap)∧w'=w.drew:=by
  have u34:=Tryz.underlying34;have z5:=Tryz.sizeOf5;have mx:=mixed;rw [bU] at hm;clear aY bU
  cases a with
  | none =>
   have hc:=a6 rfl;subst hc;have hn:n=0:=by omega
   subst hn;clear a6 P_ hm
   go_enter Tryz.func174,Tryz.ntmps174
   go_wp2
   go_region_o
   go_wp2
   go_ret
   exact ⟨rfl,rfl⟩
  | some a =>
   clear a6
   go_enter Tryz.func174,Tryz.ntmps174
   go_wp2
   go_region_o
   go_wp2
   go_ret
   exact ⟨rfl,rfl⟩
 unfold CallsF;rw [aY];refine main.mono fun e w' q=>⟨_,q.1,?_⟩
 rw [q.2];exact ⟨rfl,rfl,rfl,rfl,rfl⟩
end Go.Pq
namespace Go.Pl
def qk (n:Int):List UInt8:=(List.range 8).map fun k=>UInt8.ofNat ((n%18446744073709551616).toNat / 256 ^ k%256)
theorem pH (n:Int):(qk n).length=8:=by simp [qk]
theorem HQ (m:Nat):∀k,leV ((List.range k).map fun j=>UInt8.ofNat (m / 256 ^ j%256))=m%256 ^ k:=by
 intro k
 induction k with
 | zero=>simp [leV,Nat.mod_one]
 | succ k ih =>
  rw [Za,XY,List.map_singleton,Gv,ih,Xk,YV];have e:(UInt8.ofNat (m / 256 ^ k%256)).toNat=m / 256 ^ k%256:=by
   rw [Zd];exact Xj (XA _ (by decide))
  rw [e,Xt,ZQ,W8 (256 ^ k),ZI]
theorem Mu (n:Int):leV (qk n)=(n%18446744073709551616).toNat:=by
 unfold qk;rw [HQ];have h1:=YR n (show (18446744073709551616:Int)≠0 by decide);have h2:=Zc n (show (0:Int)<18446744073709551616 by decide);apply Xj
 have:(256:Nat) ^ 8=18446744073709551616:=by decide
 omega
theorem KM (n:Int) (r:List UInt8):vN (qk n++r)=IntKind.i64.wrap n:=by
 unfold vN;rw [List.take_left' (pH n),Mu];have h1:=YR n (show (18446744073709551616:Int)≠0 by decide);rw [Int.toNat_of_nonneg h1];have e:∀m:Int,IntKind.i64.wrap m=if 9223372036854775808≤m%18446744073709551616 then m%18446744073709551616-18446744073709551616 else m%18446744073709551616:=by
  intro m;simp [IntKind.wrap,IntKind.bits,IntKind.signed]
 rw [e,e,Int.emod_emod_of_dvd _ (Int.dvd_refl _)]
theorem rZ (n:Int) (r:List UInt8):(qk n++r).drop 8=r:=List.drop_left' (pH n)
def qp (l:List Int):List UInt8:=qk (l.length:Int)++l.flatMap qk
def vp (l:List UInt32):List UInt8:=qk (l.length:Int)++l.flatMap fun x=>qk (x.toNat:Int)
def wQ (q:Raw):List UInt8:=qk (if q.1=true then 1 else 0)++(vp q.2.1++vp q.2.2)
def uh (l:List Raw):List UInt8:=qk (l.length:Int)++l.flatMap wQ
def x7 (q:Rat):Raw:=(decide (q.num<0),Lb.nat q.num.natAbs,dl q.den)
theorem KW (q:Rat):B4 (x7 q)=qr q:=rfl
theorem FD (l:List Rat):x8 (l.map x7)=pO l:=by unfold x8 GU pO tI;rw [Yo];rfl
def rz (l:List Rat):List UInt8:=uh (l.map x7)
def so (h:Md):List UInt8:=qk (h.sym:Int)++(qk (h.st:Int)++(rz (h.empty::h.init)++(rz h.stop++(qp (h.ties.map fun x:Nat=>(x:Int)) ++
 (List.range h.st).flatMap fun i=>rz (h.trans.getD i [])++rz (h.emit.getD i [])))))
theorem xa (a b:List UInt8):rW a++rW b=rW (a++b):=by simp [rW]
theorem u6 (a:List UInt8):(rW a).length=a.length:=by simp [rW]
theorem sK {α:Type} (l:List α) (f:α→List UInt8) {k:Nat} (h:k<l.length) (d:α):(l.take (k+1)).flatMap f=(l.take k).flatMap f++f (l.getD k d):=by
 rw [W9 h,Zs,WM,WL h];simp
theorem tG {α:Type} (l:List α) (f:α→List UInt8) (k:Nat):((l.take k).flatMap f).length≤(l.flatMap f).length:=by
 conv=>rhs;rw [←YT k l,Zs,WN]
 omega
theorem NA (n:Int) {k:Nat} (hk:k<8):pG .u8 (sE .u64 (pG .u64 n) (zk .i64 8 (k:Int)))=(((qk n).getD k 0).toNat:Int):=by
 have hm:zk .i64 8 (k:Int)=((8*k:Nat):Int):=by rw [xU (by omega)];omega
 have h1:=YR n (show (18446744073709551616:Int)≠0 by decide);have e1:pG .u64 n=((n%18446744073709551616).toNat:Int):=by
  show IntKind.u64.wrap n=_
  rw [zc,Int.toNat_of_nonneg h1]
 have e2:sE .u64 ((n%18446744073709551616).toNat:Int) ((8*k:Nat):Int)=(((n%18446744073709551616).toNat / 256 ^ k:Nat):Int):=by
  unfold sE
  have:min (((8*k:Nat):Int).toNat) IntKind.u64.bits=8*k:=by
   rw [WP]
   show min (8*k) 64=_
   omega
  rw [this,XZ _ (by exact Int.le_of_lt (Int.pow_pos (by decide))),TG];rfl
 have e3:(qk n).getD k 0=UInt8.ofNat ((n%18446744073709551616).toNat / 256 ^ k%256):=by
  unfold qk;rw [WM,Xs,Yl hk];rfl
 rw [hm,e1,e2,e3,Zd,Nat.mod_mod]
 show IntKind.u8.wrap _=_
 simp [IntKind.wrap,IntKind.bits,IntKind.signed]
end Go.Pl
namespace Go.Pq
open Go.Pl Go.Proofs
abbrev wB (xs:List UInt8):Arg:=Uj 197 (rW xs) 0
abbrev wSh:Shape:=Z23
abbrev RU (xs:List UInt8):List T:=[.l (rW xs),.i .i64 0,.i .i8 0]
theorem rc (xs:List UInt8) (n:Int) (hl:xs.length+8≤2 ^ 40):F 168 [wB xs,.t 2 (.i .i64 n)] wSh (RU (xs++qk n)):=by
 refine PP _ _ _ _ _ _ _ (fun i=>i.1=rW (xs++(qk n).take i.2.2.2)∧i.2.1=.i .i64 0∧i.2.2.1=.i .i8 0∧i.2.2.2≤8) (fun i=>8-i.2.2.2) ?_;refine ⟨⟨(rW xs,.i .i64 0,.i .i8 0,0),⟨by rw [Zi,XD],rfl,rfl,WS _⟩,(by and_intros<;>first | exact trivial | rfl | (rw [pt (by omega)];rfl))⟩,fun _=>rfl,?_⟩;rintro ⟨g,o,r,k⟩ ⟨hg,ho,hr,hk⟩;dsimp only at hg ho hr hk ⊢;subst hg ho hr;refine ⟨fun q=>?_,fun q=>?_⟩
 ·rw [pw] at q
  have b_:k<8:=by omega
  have i_:=pH n;rw [pC,NA n b_];refine ⟨by rw [xU (by omega)];omega,_,_,_,_,FZ 197 (rW (xs++(qk n).take k)) _ 0 (by rw [u6,WN,Xg];omega),(rW (xs++(qk n).take (k+1)),.i .i64 0,.i .i8 0,k+1),⟨rfl,rfl,rfl,b_⟩,by dsimp only;omega,?_⟩;have e:(T.l (rW (xs++(qk n).take k)++[T.i .u8 (((qk n).getD k 0).toNat:Int)])).list=rW (xs++(qk n).take (k+1)):=by
   show rW (xs++(qk n).take k)++rW [(qk n).getD k 0]=_
   rw [xa,W7,W9 (by omega),WM,WL (by omega)];rfl
  rw [e];exact (by and_intros<;>first | exact trivial | rfl | (rw [pt (by omega)];rfl))
 ·rw [pF] at q
  have:k=8:=by omega
  subst this;rw [WX (by rw [pH];omega)];exact ⟨⟨a_,a_⟩,rfl,rfl,rfl,a_⟩
theorem yR (xs:List UInt8) (l:List Int) (hl:(xs++qp l).length≤2 ^ 40):F 169 [wB xs,.t 28 (qw l)] wSh (RU (xs++qp l)):=by
 have fG:xs.length+(8+(l.flatMap qk).length)≤2 ^ 40:=by unfold qp at hl;rw [WN,WN,pH] at hl;exact hl
 have eV:l.length≤(l.flatMap qk).length:=by
  rw [List.length_flatMap]
  have:l.map (fun x=>(qk x).length)=List.replicate l.length 8:=by
   apply Yj
   ·simp
   ·intro i h1 h2;simp [pH]
  rw [this];simp;omega
 refine PQ _ _ _ _ _ _ _ (fun i=>i.1=rW (xs++qk (l.length:Int)++(l.take i.2.2.2).flatMap qk)∧i.2.1=.i .i64 0∧i.2.2.1=.i .i8 0∧i.2.2.2≤l.length) (fun i=>l.length-i.2.2.2) ?_;rw [rH];refine ⟨_,_,_,rc xs _ (by omega),⟨(rW (xs++qk (l.length:Int)),.i .i64 0,.i .i8 0,0),⟨by rw [Zi,Zn,XD],rfl,rfl,WS _⟩,(by and_intros<;>first | exact trivial | rfl | (rw [pt (by omega)];rfl))⟩,fun _=>rfl,?_⟩;rintro ⟨g,o,r,k⟩ ⟨hg,ho,hr,hk⟩;dsimp only at hg ho hr hk ⊢;subst hg ho hr;have P_:=tG l qk (k+1);refine ⟨fun q=>?_,fun q=>?_⟩
 ·rw [pw] at q
  have b_:k<l.length:=by omega
  rw [sK l qk b_ 0,WN,pH] at P_;rw [wA l b_,r9];refine ⟨⟨by omega,by omega⟩,_,_,_,rc _ _ (by rw [WN,WN,pH];omega),(rW (xs++qk (l.length:Int)++(l.take (k+1)).flatMap qk),.i .i64 0,.i .i8 0,k+1),⟨rfl,rfl,rfl,b_⟩,by dsimp only;omega,?_⟩;rw [sK l qk b_ 0,←W7];exact (by and_intros<;>first | exact trivial | rfl | (rw [pt (by omega)];rfl))
 ·rw [pF] at q
  have:k=l.length:=by omega
  subst this;rw [XM];unfold qp;rw [W7];exact ⟨⟨a_,a_⟩,rfl,rfl,rfl,a_⟩
theorem zK (xs:List UInt8) (l:List UInt32) (hl:(xs++vp l).length≤2 ^ 40):F 198 [wB xs,.t 22 (lim l)] wSh (RU (xs++vp l)):=by
 have fG:xs.length+(8+(l.flatMap fun x=>qk (x.toNat:Int)).length)≤2 ^ 40:=by unfold vp at hl;rw [WN,WN,pH] at hl;exact hl
 have eV:l.length≤(l.flatMap fun x=>qk (x.toNat:Int)).length:=by
  rw [List.length_flatMap]
  have:l.map (fun x=>(qk (x.toNat:Int)).length)=List.replicate l.length 8:=by
   apply Yj
   ·simp
   ·intro i h1 h2;simp [pH]
  rw [this];simp;omega
 refine Qb _ _ _ _ _ _ _ (fun i=>i.1=rW (xs++qk (l.length:Int)++(l.take i.2.2.2).flatMap fun x=>qk (x.toNat:Int))∧i.2.1=.i .i64 0∧i.2.2.1=.i .i8 0∧i.2.2.2≤l.length) (fun i=>l.length-i.2.2.2) ?_;rw [pE,py];refine ⟨_,_,_,rc xs _ (by omega),⟨(rW (xs++qk (l.length:Int)),.i .i64 0,.i .i8 0,0),⟨by rw [Zi,Zn,XD],rfl,rfl,WS _⟩,(by and_intros<;>first | exact trivial | rfl | (rw [pt (by omega)];rfl))⟩,fun _=>rfl,?_⟩;rintro ⟨g,o,r,k⟩ ⟨hg,ho,hr,hk⟩;dsimp only at hg ho hr hk ⊢;subst hg ho hr;have P_:=tG l (fun x=>qk (x.toNat:Int)) (k+1);refine ⟨fun q=>?_,fun q=>?_⟩
 ·rw [pw] at q
  have b_:k<l.length:=by omega
  rw [sK l (fun x=>qk (x.toNat:Int)) b_ 0,WN,pH] at P_;have hx:=(l.getD k 0).toNat_lt;rw [WP,qi l b_,sC,vT (by omega)];refine ⟨⟨by omega,by omega⟩,_,_,_,rc _ _ (by rw [WN,WN,pH];omega),(rW (xs++qk (l.length:Int)++(l.take (k+1)).flatMap fun x=>qk (x.toNat:Int)),.i .i64 0,.i .i8 0,k+1),⟨rfl,rfl,rfl,b_⟩,by dsimp only;omega,?_⟩;rw [sK l (fun x=>qk (x.toNat:Int)) b_ 0,←W7];exact (by and_intros<;>first | exact trivial | rfl | (rw [pt (by omega)];rfl))
 ·rw [pF] at q
  have:k=l.length:=by omega
  subst this;rw [XM];unfold vp;rw [W7];exact ⟨⟨a_,a_⟩,rfl,rfl,rfl,a_⟩
theorem GT (q:Raw):(wQ q).length=8+((vp q.2.1).length+(vp q.2.2).length):=by unfold wQ;rw [WN,WN,pH]
theorem MP (l:List Raw):l.length≤(l.flatMap wQ).length:=by
 induction l with
 | nil=>simp
 | cons x r ih =>
  rw [XO,WN,W4,GT];omega
theorem KU (xs:List UInt8) (l:List Raw) (hl:(xs++uh l).length≤2 ^ 40):F 170 [wB xs,.t 25 (x8 l)] wSh (RU (xs++uh l)):=by
 have fG:xs.length+(8+(l.flatMap wQ).length)≤2 ^ 40:=by unfold uh at hl;rw [WN,WN,pH] at hl;exact hl
 have eV:=MP l;refine PR _ _ _ _ _ _ _ (fun i=>i.1=rW (xs++qk (l.length:Int)++(l.take i.2.2.2).flatMap wQ)∧i.2.1=.i .i64 0∧i.2.2.1=.i .i8 0∧i.2.2.2≤l.length) (fun i=>l.length-i.2.2.2) ?_;rw [xQ];refine ⟨_,_,_,rc xs _ (by omega),⟨(rW (xs++qk (l.length:Int)),.i .i64 0,.i .i8 0,0),⟨by rw [Zi,Zn,XD],rfl,rfl,WS _⟩,(by and_intros<;>first | exact trivial | rfl | (rw [pt (by omega)];rfl))⟩,fun _=>rfl,?_⟩;rintro ⟨g,o,r,k⟩ ⟨hg,ho,hr,hk⟩;dsimp only at hg ho hr hk ⊢;subst hg ho hr;have P_:=tG l wQ (k+1);refine ⟨fun q=>?_,fun q=>?_⟩
 ·rw [pw] at q
  have b_:k<l.length:=by omega
  rw [sK l wQ b_ MO,WN,GT] at P_;rw [FB l b_,A8]
  generalize hx:l.getD k MO=x at *
  obtain ⟨s,a,b⟩:=x;have c0:((B4 (s,a,b)).cell 0).bool=s:=rfl;have c1:(B4 (s,a,b)).cell 1=lim a:=rfl;have c2:(B4 (s,a,b)).cell 2=lim b:=rfl;rw [c0,c1,c2];dsimp only at P_
  generalize cM:xs++qk (l.length:Int)++(l.take k).flatMap wQ=pre
  have eW:pre.length=xs.length+8+((l.take k).flatMap wQ).length:=by rw [←cM,WN,WN,pH]
  have fin:pre++qk (if s=true then 1 else 0)++vp a++vp b=xs++qk (l.length:Int)++(l.take (k+1)).flatMap wQ:=by
   rw [sK l wQ b_ MO,hx,←cM];unfold wQ;simp only [W7]
  refine ⟨⟨by omega,by omega⟩,fun hs=>?_,fun hs=>?_⟩
  ·subst hs
   rw [WY rfl] at fin;refine ⟨_,_,_,rc pre 1 (by omega),_,_,_,zK _ a (by rw [WN,WN,pH];omega),_,_,_,zK _ b (by rw [WN,WN,WN,pH];omega),
    (rW (xs++qk (l.length:Int)++(l.take (k+1)).flatMap wQ),.i .i64 0,.i .i8 0,k+1),⟨rfl,rfl,rfl,b_⟩,by dsimp only;omega,?_⟩
   rw [fin];exact (by and_intros<;>first | exact trivial | rfl | (rw [pt (by omega)];rfl))
  ·subst hs
   rw [WZ (by decide)] at fin;refine ⟨_,_,_,rc pre 0 (by omega),_,_,_,zK _ a (by rw [WN,WN,pH];omega),_,_,_,zK _ b (by rw [WN,WN,WN,pH];omega),
    (rW (xs++qk (l.length:Int)++(l.take (k+1)).flatMap wQ),.i .i64 0,.i .i8 0,k+1),⟨rfl,rfl,rfl,b_⟩,by dsimp only;omega,?_⟩
   rw [fin];exact (by and_intros<;>first | exact trivial | rfl | (rw [pt (by omega)];rfl))
 ·rw [pF] at q
  have:k=l.length:=by omega
  subst this;rw [XM];unfold uh;rw [W7];exact ⟨⟨a_,a_⟩,rfl,rfl,rfl,a_⟩
end Go.Pq
namespace Go.Pl
def Ex (m:List (List Int)):List UInt8:=qk (m.length:Int)++m.flatMap qp
def sU (num t:Int) (sc:List Raw) (tails:List (List Int)) (done:List Int):List UInt8:=qk num++(qk t++(qp done++(uh sc++Ex tails)))
def uj (h:Md) (num t:Int) (sc:List Raw) (tails:List (List Int)) (done:List Int):List UInt8:=sU num t sc tails done++so h
def qF (b:List UInt8):List UInt8:=qk ((b.length:Int)+16)++b
def qR (b:List UInt8):List UInt8:=qF b++qk (Dg (qF b):Int)
def Nb (h:Md) (num t:Int) (sc:List Raw) (tails:List (List Int)) (done:List Int):List UInt8:=qR (uj h num t sc tails done)
def A7 (h:Md) (num t:Int) (sc:List Raw) (tails:List (List Int)) (done:List Int):T:=.g [.i .i64 num,.i .i64 (h.sym:Int),.i .i64 (h.st:Int),.b (decide (h.empty.num<0)),lim (Lb.nat h.empty.num.natAbs),ux h.empty.den,
 pO h.init,p9 h.trans,pO h.stop,p9 h.emit,rP (List.replicate h.st false),qH h.ties,.i .i64 t,x8 sc,iwT tails,qw done]
theorem qG (b:List UInt8):(qR b).length=b.length+16:=by unfold qR qF;rw [WN,WN,pH,pH];omega
theorem Lp (l:List UInt8):Dg l<4294967296:=(~~~ (Crc.De 0xffffffff#32 (bvs l))).isLt
theorem xH {f:Nat→List UInt8} {n k:Nat} (h:k<n):((List.range n).take (k+1)).flatMap f=((List.range n).take k).flatMap f++f k:=by
 rw [sK _ f (by simpa using h) 0]
 congr 2
 simp [WM,h]
end Go.Pl
namespace Go.Pq
open Go.Pl Go.Proofs
theorem zS (xs:List UInt8) (l:List Rat) (hl:(xs++rz l).length≤2 ^ 40):F 170 [wB xs,.t 25 (pO l)] wSh (RU (xs++rz l)):=by
 have:=KU xs (l.map x7) hl
 rwa [FD] at this
theorem MB {h:Md} {c:Nat} (hk:rV h c) (xs:List UInt8) (hl:(xs++so h).length≤2 ^ 40):F 171 [wB xs,.t 29 (rx h)] wSh (RU (xs++so h)):=by
 have z_:=hk.st;have C_:room=140737488355328:=rfl
 generalize hf:(fun i=>rz (h.trans.getD i [])++rz (h.emit.getD i []))=f
 have em:so h=qk (h.sym:Int)++(qk (h.st:Int)++(rz (h.empty::h.init)++(rz h.stop++(qp (h.ties.map fun x:Nat=>(x:Int))++(List.range h.st).flatMap f)))):=by rw [←hf];rfl
 rw [em] at hl ⊢;simp only [WN,pH] at hl;have c6:(rx h).cell 5=pO h.init:=rfl;have c8:(rx h).cell 7=pO h.stop:=rfl;have c10:(rx h).cell 10=qH h.ties:=rfl;have d6:(rx h).cell 6=p9 h.trans:=rfl;have d8:(rx h).cell 8=p9 h.emit:=rfl;have e0:T.l ((List.replicate 1 (T.g [T.b false,T.l [],T.l []])).set 0 (T.g [(rx h).cell 2,(rx h).cell 3,(rx h).cell 4])++((rx h).cell 5).list)=pO (h.empty::h.init):=rfl;have eK:((rx h).cell 5).list.length=h.st:=by rw [c6,rL,wK,hk.init]
 refine PS _ _ _ _ _ _ _ (fun i=>i.1=rW (xs++(qk (h.sym:Int)++(qk (h.st:Int)++(rz (h.empty::h.init)++(rz h.stop++(qp (h.ties.map fun x:Nat=>(x:Int))++((List.range h.st).take i.2.2.2).flatMap f))))))∧i.2.1=.i .i64 0∧i.2.2.1=.i .i8 0∧i.2.2.2≤h.st) (fun i=>h.st-i.2.2.2) ?_;have a1:=rc xs (h.sym:Int) (by omega);have a2:=rc (xs++qk (h.sym:Int)) (h.st:Int) (by rw [WN,pH];omega);have a3:=zS (xs++qk (h.sym:Int)++qk (h.st:Int)) (h.empty::h.init) (by simp only [WN,pH];omega);have a4:=zS (xs++qk (h.sym:Int)++qk (h.st:Int)++rz (h.empty::h.init)) h.stop (by simp only [WN,pH];omega);have a5:=yR (xs++qk (h.sym:Int)++qk (h.st:Int)++rz (h.empty::h.init)++rz h.stop) (h.ties.map fun x:Nat=>(x:Int)) (by simp only [WN,pH];omega);rw [t8] at a5;rw [e0,c8,c10,d6,d8,eK];refine ⟨_,_,_,a1,_,_,_,a2,⟨by rw [C_];omega,by omega⟩,_,_,_,a3,_,_,_,a4,_,_,_,a5,⟨(rW (xs++qk (h.sym:Int)++qk (h.st:Int)++rz (h.empty::h.init)++rz h.stop++qp (h.ties.map fun x:Nat=>(x:Int))),.i .i64 0,.i .i8 0,0),⟨by rw [Zi,Zn,XD];simp only [W7],rfl,rfl,WS _⟩,(by and_intros<;>first | exact trivial | rfl | (rw [pt (by omega)];rfl))⟩,fun _=>rfl,?_⟩;rintro ⟨g,o,r,k⟩ ⟨hg,ho,hr,aR⟩;dsimp only at hg ho hr aR ⊢;subst hg ho hr;rw [show ((rx h).cell 1).int=(h.st:Int) from rfl,rt,vn,hk.trans,rt,vn,hk.emit];refine ⟨fun q=>?_,fun q=>?_⟩
 ·rw [pw] at q
  have b_:k<h.st:=by omega
  have P_:=tG (List.range h.st) f (k+1);rw [xH b_,WN,←hf,WN,hf] at P_;rw [WP,rM _ (by rw [hk.trans];exact b_),rM _ (by rw [hk.emit];exact b_),qS,qS]
  generalize cM:xs++(qk (h.sym:Int)++(qk (h.st:Int)++(rz (h.empty::h.init)++(rz h.stop++(qp (h.ties.map fun x:Nat=>(x:Int))++((List.range h.st).take k).flatMap f)))))=pre
  have eW:pre.length+(rz (h.trans.getD k [])).length+(rz (h.emit.getD k [])).length≤2 ^ 40:=by
   rw [←cM];simp only [WN,pH];omega
  refine ⟨⟨by omega,by omega⟩,_,_,_,zS pre _ (by rw [WN];omega),⟨by omega,by omega⟩,_,_,_,zS _ _ (by rw [WN,WN];omega),(rW (xs++(qk (h.sym:Int)++(qk (h.st:Int)++(rz (h.empty::h.init)++(rz h.stop++(qp (h.ties.map fun x:Nat=>(x:Int))++((List.range h.st).take (k+1)).flatMap f)))))),.i .i64 0,.i .i8 0,k+1),⟨rfl,rfl,rfl,b_⟩,by dsimp only;omega,?_⟩;have fin:pre++rz (h.trans.getD k [])++rz (h.emit.getD k [])=xs++(qk (h.sym:Int)++(qk (h.st:Int)++(rz (h.empty::h.init)++(rz h.stop++(qp (h.ties.map fun x:Nat=>(x:Int))++((List.range h.st).take (k+1)).flatMap f))))):=by
   rw [xH b_,←cM,←hf];simp only [W7]
  rw [fin];exact (by and_intros<;>first | exact trivial | rfl | (rw [pt (by omega)];rfl))
 ·rw [pF] at q
  have:k=h.st:=by omega
  subst this;rw [show (List.range h.st).take h.st=List.range h.st from WX (by simp)];exact ⟨⟨a_,a_⟩,rfl,rfl,rfl,a_⟩
theorem Tr (xs:List UInt8) (hl:xs.length≤2 ^ 40):F 172 [wB xs] Z25 [.i .i64 (xs.length:Int),.l (rW xs),.i .i64 0,.i .i8 0]:=by
 refine PT _ _ _ _ _ _ _ ⟨⟨a_,a_⟩,?_,rfl,rfl,rfl,a_⟩;rw [u6,pC,qm (by omega)]
 congr 1
theorem Cq (xs:List UInt8):T.l (List.take (T.l (rW xs)).list.length (List.drop 0 (T.l (rW xs)).list))=se xs:=by
 show T.l (List.take (rW xs).length (List.drop 0 (rW xs)))=T.l (rW xs)
 rw [Xc,XM]
theorem Ot {h:Md} {c:Nat} (hk:rV h c) (num t:Int) (sc:List Raw) (tails:List (List Int)) (done:List Int) (hl:(uj h num t sc tails done).length≤2 ^ 39) :
  F 134 [.t 62 (A7 h num t sc tails done)] (zo 1 34) [se (Nb h num t sc tails done)]:=by
 have i_:(uj h num t sc tails done).length=8+(8+((qp done).length+((uh sc).length+(8+(tails.flatMap qp).length))))+(so h).length:=by
  unfold uj sU Ex;simp only [WN,pH]
 have cq:tails.length≤(tails.flatMap qp).length:=by
  clear i_ hl
  induction tails with
  | nil=>simp
  | cons x r ih =>
   rw [XO,WN,W4]
   have:8≤(qp x).length:=by unfold qp;rw [WN,pH];omega
   omega
 generalize hS:A7 h num t sc tails done=S
 have c0:S.cell 0=.i .i64 num:=by rw [←hS];rfl
 have c12:S.cell 12=.i .i64 t:=by rw [←hS];rfl
 have c13:S.cell 13=x8 sc:=by rw [←hS];rfl
 have c14:S.cell 14=iwT tails:=by rw [←hS];rfl
 have c15:S.cell 15=qw done:=by rw [←hS];rfl
 have cm:T.g [S.cell 1,S.cell 2,S.cell 3,S.cell 4,S.cell 5,S.cell 6,S.cell 7,S.cell 8,S.cell 9,S.cell 10,S.cell 11]=rx h:=by rw [←hS];rfl
 refine Pq _ _ (fun i=>i.1=rW (qk num++(qk t++(qp done++(uh sc++(qk (tails.length:Int)++(tails.take i.2.2.2).flatMap qp)))))∧i.2.1=.i .i64 0∧i.2.2.1=.i .i8 0∧i.2.2.2≤tails.length) (fun i=>tails.length-i.2.2.2) ?_;rw [cm,c0,c12,c13,c14,c15,BT];have a1:=rc [] num (by simp);have a2:=rc (qk num) t (by rw [pH];omega);have a3:=yR (qk num++qk t) done (by simp only [WN,pH];omega);have a4:=KU (qk num++qk t++qp done) sc (by simp only [WN,pH];omega);have a5:=rc (qk num++qk t++qp done++uh sc) (tails.length:Int) (by simp only [WN,pH];omega);rw [Yc] at a1;refine ⟨_,_,_,a1,_,_,_,a2,_,_,_,a3,_,_,_,a4,_,_,_,a5,⟨(rW (qk num++qk t++qp done++uh sc++qk (tails.length:Int)),.i .i64 0,.i .i8 0,0),⟨by rw [Zi,Zn,XD];simp only [W7],rfl,rfl,WS _⟩,(by and_intros<;>first | exact trivial | rfl | (rw [pt (by omega)];rfl))⟩,fun _=>rfl,?_⟩;rintro ⟨g,o,r,k⟩ ⟨hg,ho,hr,aR⟩;dsimp only at hg ho hr aR ⊢;subst hg ho hr;refine ⟨fun q=>?_,fun q=>?_⟩
 ·rw [pw] at q
  have b_:k<tails.length:=by omega
  have P_:=tG tails qp (k+1);rw [sK tails qp b_ [],WN] at P_;rw [Ki tails b_,xN];refine ⟨⟨by omega,by omega⟩,_,_,_,yR _ _ (by simp only [WN,pH];omega),(rW (qk num++(qk t++(qp done++(uh sc++(qk (tails.length:Int)++(tails.take (k+1)).flatMap qp))))),.i .i64 0,.i .i8 0,k+1),⟨rfl,rfl,rfl,b_⟩,by dsimp only;omega,?_⟩;rw [sK tails qp b_ []];simp only [W7];exact (by and_intros<;>first | exact trivial | rfl | (rw [pt (by omega)];rfl))
 ·rw [pF] at q
  have:k=tails.length:=by omega
  subst this;rw [XM];have b1:=MB hk (qk num++(qk t++(qp done++(uh sc++(qk (tails.length:Int)++tails.flatMap qp))))) (by simp only [WN,pH];omega);have eb:qk num++(qk t++(qp done++(uh sc++(qk (tails.length:Int)++tails.flatMap qp))))++so h=uj h num t sc tails done:=rfl;rw [eb] at b1
  generalize hB:uj h num t sc tails done=B at *
  have b2:=Tr B (by omega);have b3:=rc [] ((B.length:Int)+16) (by simp);rw [Yc] at b3;have h8:1≤B.length:=by omega
  have b4:=RJ 197 (rW (qk ((B.length:Int)+16))) (rW B) 0 (by rw [u6];exact h8) (by rw [u6,u6,pH];omega);rw [xa] at b4;have b5:=HA (qF B) (by unfold qF;rw [WN,pH];omega);have b6:=rc (qF B) (Dg (qF B):Int) (by unfold qF;rw [WN,pH];omega);have es:Nb h num t sc tails done=qF B++qk (Dg (qF B):Int):=by unfold Nb qR;rw [hB]
  refine ⟨_,_,_,b1,_,_,_,_,b2,?_⟩;rw [pC,pt (by omega)];refine ⟨.l (rW (qk ((B.length:Int)+16))),.i .i64 0,.i .i8 0,?_,?_⟩
  ·exact b3
  refine And.intro (by with_reducible exact FW) ?_;refine ⟨rfl,?_⟩;refine ⟨.i .i64 ((rW B).length:Int),.z,.l (rW (qF B)),.i .i64 0,.i .i8 0,?_,?_⟩
  ·rw [Cq];exact b4
  refine And.intro (by with_reducible exact FW) ?_;refine ⟨rfl,?_⟩;refine ⟨.i .i64 (Dg (qF B):Int),?_,?_⟩
  ·rw [Cq];exact b5
  refine ⟨.l (rW (qF B++qk (Dg (qF B):Int))),.i .i64 0,.i .i8 0,?_,?_⟩
  ·exact b6
  refine And.intro (by with_reducible exact FW) ?_;refine ⟨rfl,a_,?_,a_⟩;rw [Cq,es]
end Go.Pq
namespace Go.Pl
def qK (l:List UInt8):Nat→List (List Int)×List UInt8
 | 0=>([],l)
 | n+1=>((qK l n).1++[(uy (qK l n).2).1],(uy (qK l n).2).2)
theorem xW (l:List UInt8):8*sb l≤(l.drop 8).length:=by unfold sb;omega
theorem KL (l:List UInt8):8*(uy l).1.length+(uy l).2.length≤l.length:=by
 have h:=xW l
 show 8*((List.range (sb l)).map _).length+(l.drop (8+8*sb l)).length≤_
 rw [Xk,YV,Xi];rw [Xi] at h;omega
theorem CN (l:List UInt8):8*(rR l).1.length+(rR l).2.length≤l.length:=by
 have h:=xW l
 show 8*((List.range (sb l)).map _).length+(l.drop (8+8*sb l)).length≤_
 rw [Xk,YV,Xi];rw [Xi] at h;omega
theorem uP (l:List Int):(qp l).length=8+8*l.length:=by
 unfold qp;rw [WN,pH]
 congr 1
 induction l with
 | nil=>rfl
 | cons x r ih=>rw [XO,WN,pH,ih,W4];omega
theorem DS (l:List UInt32):(vp l).length=8+8*l.length:=by
 unfold vp;rw [WN,pH]
 congr 1
 induction l with
 | nil=>rfl
 | cons x r ih=>rw [XO,WN,pH,ih,W4];omega
theorem A6 (q:Raw):(wQ q).length=24+8*q.2.1.length+8*q.2.2.length:=by unfold wQ;rw [WN,WN,pH,DS,DS];omega
theorem Q1 (l:List UInt8):∀n,((qD l n).1.flatMap wQ).length+(qD l n).2.length≤24*n+l.length:=by
 intro n
 induction n with
 | zero=>show ([]:List UInt8).length+(l.drop 8).length≤_;rw [Xi];simp
 | succ n ih =>
  have e1:(qD l (n+1)).1=(qD l n).1++[(decide (vN (qD l n).2=1),(rR ((qD l n).2.drop 8)).1,(rR (rR ((qD l n).2.drop 8)).2).1)]:=rfl;have e2:(qD l (n+1)).2=(rR (rR ((qD l n).2.drop 8)).2).2:=rfl;have h1:=CN ((qD l n).2.drop 8);have h2:=CN (rR ((qD l n).2.drop 8)).2;rw [Xi] at h1;rw [e1,e2,Zs,WN,List.flatMap_singleton,A6];dsimp only;omega
theorem MJ (l:List UInt8):∀n,∀q∈(qD l n).1,q.2.1.length≤l.length∧q.2.2.length≤l.length:=by
 intro n
 induction n with
 | zero=>intro q hq;exact absurd hq (by show ¬ q∈([]:List (Bool×List UInt32×List UInt32));simp)
 | succ n ih =>
  intro q hq;have e1:(qD l (n+1)).1=(qD l n).1++[(decide (vN (qD l n).2=1),(rR ((qD l n).2.drop 8)).1,(rR (rR ((qD l n).2.drop 8)).2).1)]:=rfl;rw [e1] at hq
  rcases W2.1 hq with h | h
  ·exact ih q h
  ·simp only [Xn] at h
   subst h;have h1:=CN ((qD l n).2.drop 8);have h2:=CN (rR ((qD l n).2.drop 8)).2;have h3:=(AX l n).2;rw [Xi] at h1;dsimp only;omega
theorem GK (l:List UInt8):∀n,((qK l n).1.flatMap qp).length+(qK l n).2.length≤8*n+l.length∧(qK l n).1.length=n∧(∀x∈(qK l n).1,x.length≤l.length)∧(qK l n).2.length≤l.length:=by
 intro n
 induction n with
 | zero=>exact ⟨by show 0+l.length≤_;omega,rfl,fun x hx=>absurd hx (by show ¬ x∈([]:List (List Int));simp),WU _⟩
 | succ n ih =>
  obtain ⟨i1,i2,i3,i4⟩:=ih;have e1:(qK l (n+1)).1=(qK l n).1++[(uy (qK l n).2).1]:=rfl;have e2:(qK l (n+1)).2=(uy (qK l n).2).2:=rfl;have h1:=KL (qK l n).2;refine ⟨?_,by rw [e1,WN,i2];rfl,fun x hx=>?_,by rw [e2];omega⟩
  ·rw [e1,e2,Zs,WN,List.flatMap_singleton,uP]
   omega
  ·rw [e1] at hx
   rcases W2.1 hx with h | h
   ·exact i3 x h
   ·simp only [Xn] at h
    subst h;omega
def Dh (n:Int):Prop:=-9223372036854775808≤n∧n≤9223372036854775807
theorem vv {n:Int} (h:Dh n) (r:List UInt8):vN (qk n++r)=n:=by rw [KM];exact IntWalk.i64_in _ h
theorem zP (k:Nat) (r:List UInt8) (h:8*k≤r.length) (hk:k≤2 ^ 60):sb (qk (k:Int)++r)=k:=by
 unfold sb;rw [vv ⟨by omega,by omega⟩,rZ];omega
theorem xE {α:Type} (f:α→Int) (r:List UInt8):∀(l:List α) (k:Nat),k≤l.length→((l.flatMap fun x=>qk (f x))++r).drop (8*k)=((l.drop k).flatMap fun x=>qk (f x))++r:=by
 intro l k
 induction k generalizing l with
 | zero=>intro _;rfl
 | succ k ih =>
  intro h
  cases l with
  | nil=>simp at h
  | cons x t =>
   rw [XO,W7,show 8*(k+1)=8+8*k by omega,←Zy,rZ,ih t (by simpa using h)];rfl
theorem Q0 {α:Type} (f:α→Int) (hf:∀x,Dh (f x)) (d:α) (r:List UInt8) (l:List α) {k:Nat} (h:k<l.length):vN (((l.flatMap fun x=>qk (f x))++r).drop (8*k))=f (l.getD k d):=by
 rw [xE f r l k (by omega),XI h,XO,W7,vv (hf _),WM,WL h];rfl
theorem xI {α:Type} (f:α→Int) (l:List α):(l.flatMap fun x=>qk (f x)).length=8*l.length:=by
 induction l with
 | nil=>rfl
 | cons x r ih=>rw [XO,WN,pH,ih,W4];omega
theorem ud (l:List Int) (r:List UInt8) (hl:l.length≤2 ^ 60) (h:∀n∈l,Dh n):uy (qp l++r)=(l,r):=by
 have hc:sb (qp l++r)=l.length:=by
  unfold qp;rw [W7];exact zP _ _ (by rw [WN];have:(l.flatMap qk).length=8*l.length:=xI (fun x:Int=>x) l;omega) hl
 unfold uy QY;rw [hc];have e:∀k,(qp l++r).drop (8+8*k)=((l.flatMap fun x=>qk x)++r).drop (8*k):=by
  intro k;unfold qp;rw [W7,←Zy,rZ]
 refine Prod.ext ?_ ?_
 ·dsimp only
  apply Yj
  ·simp
  ·intro i h1 h2
   simp only [ZG,List.getElem_range];rw [e,xE (fun x:Int=>x) r l i (by omega),XI h2,XO,W7,vv (h _ (YE h2))]
 ·dsimp only
  rw [e,xE (fun x:Int=>x) r l l.length (WU _),Zm];rfl
theorem AU (l:List UInt32) (r:List UInt8) (hl:l.length≤2 ^ 60):rR (vp l++r)=(l,r):=by
 have hf:∀x:UInt32,Dh (x.toNat:Int):=fun x=>by have:=x.toNat_lt;exact ⟨by omega,by omega⟩
 have hc:sb (vp l++r)=l.length:=by
  unfold vp;rw [W7];exact zP _ _ (by rw [WN];have:=xI (fun x:UInt32=>(x.toNat:Int)) l;omega) hl
 unfold rR QZ;rw [hc];have e:∀k,(vp l++r).drop (8+8*k)=((l.flatMap fun x=>qk (x.toNat:Int))++r).drop (8*k):=by
  intro k;unfold vp;rw [W7,←Zy,rZ]
 refine Prod.ext ?_ ?_
 ·dsimp only
  apply Yj
  ·simp
  ·intro i h1 h2
   simp only [ZG,List.getElem_range];rw [e,Q0 (fun x:UInt32=>(x.toNat:Int)) hf 0 r l h2,WM,WL h2]
   have:=l[i].toNat_lt
   show UInt32.ofNat ((l[i].toNat:Int)%4294967296).toNat=l[i]
   rw [Int.emod_eq_of_lt (by omega) (by omega),WP,UInt32.ofNat_toNat]
 ·dsimp only
  rw [e,xE (fun x:UInt32=>(x.toNat:Int)) r l l.length (WU _),Zm];rfl
theorem MK (q:Raw) (r:List UInt8) (h1:q.2.1.length≤2 ^ 60) (h2:q.2.2.length≤2 ^ 60):(decide (vN (wQ q++r)=1),(rR ((wQ q++r).drop 8)).1,(rR (rR ((wQ q++r).drop 8)).2).1)=q∧(rR (rR ((wQ q++r).drop 8)).2).2=r:=by
 obtain ⟨s,a,b⟩:=q;dsimp only at h1 h2;have e:wQ (s,a,b)++r=qk (if s=true then 1 else 0)++(vp a++(vp b++r)):=by unfold wQ;simp only [W7]
 have ei:Dh (if s=true then 1 else 0):=by split<;>exact ⟨by decide,by decide⟩
 rw [e,rZ,AU a _ h1,AU b r h2,vv ei];refine ⟨?_,rfl⟩;cases s<;>rfl
theorem Fx (l:List Raw) (r:List UInt8) (h:∀q∈l,q.2.1.length≤2 ^ 60∧q.2.2.length≤2 ^ 60) (x:List UInt8) (hx:x.drop 8=l.flatMap wQ++r):∀n,n≤l.length→qD x n=(l.take n,(l.drop n).flatMap wQ++r):=by
 intro n
 induction n with
 | zero=>intro _;show ([],x.drop 8)=_;rw [hx];rfl
 | succ n ih =>
  intro hn;have b_:n<l.length:=by omega
  have ih:=ih (by omega);have e:qD x (n+1)=((qD x n).1++[(decide (vN (qD x n).2=1),(rR ((qD x n).2.drop 8)).1,(rR (rR ((qD x n).2.drop 8)).2).1)],(rR (rR ((qD x n).2.drop 8)).2).2):=rfl;rw [e,ih];have hq:=h _ (YE b_);obtain ⟨k1,k2⟩:=MK l[n] ((l.drop (n+1)).flatMap wQ++r) hq.1 hq.2;have e2:(l.drop n).flatMap wQ++r=wQ l[n]++((l.drop (n+1)).flatMap wQ++r):=by
   rw [XI b_,XO,W7]
  dsimp only;rw [e2,k1,k2,W9 b_]
theorem DE (l:List Raw):24*l.length≤(l.flatMap wQ).length:=by
 induction l with
 | nil=>simp
 | cons x r ih=>rw [XO,WN,A6,W4];omega
theorem vw (l:List Raw) (r:List UInt8) (hl:l.length≤2 ^ 60) (h:∀q∈l,q.2.1.length≤2 ^ 60∧q.2.2.length≤2 ^ 60):BE (uh l++r)=(l,r):=by
 have hf:=DE l;have hc:sb (uh l++r)=l.length:=by
  unfold uh;rw [W7];exact zP _ _ (by rw [WN];omega) hl
 unfold BE;rw [hc,Fx l r h _ (by unfold uh;rw [W7,rZ]) l.length (WU _),XM,Zm];rfl
theorem CQ (m:List (List Int)) (r:List UInt8) (h:∀l∈m,l.length≤2 ^ 60∧∀n∈l,Dh n):∀n,n≤m.length→qK (m.flatMap qp++r) n=(m.take n,(m.drop n).flatMap qp++r):=by
 intro n
 induction n with
 | zero=>intro _;rfl
 | succ n ih =>
  intro hn;have b_:n<m.length:=by omega
  have ih:=ih (by omega);have e:qK (m.flatMap qp++r) (n+1)=((qK (m.flatMap qp++r) n).1++[(uy (qK (m.flatMap qp++r) n).2).1],(uy (qK (m.flatMap qp++r) n).2).2):=rfl;have hq:=h _ (YE b_);have e2:(m.drop n).flatMap qp++r=qp m[n]++((m.drop (n+1)).flatMap qp++r):=by
   rw [XI b_,XO,W7]
  rw [e,ih];dsimp only;rw [e2,ud _ _ hq.1 hq.2,W9 b_]
structure Tok where
 num:Int
 t:Int
 sc:List Raw
 tails:List (List Int)
 done:List Int
def pT3 (l:List UInt8):List UInt8:=((l.drop 8).drop 8).drop 8
def pT4 (l:List UInt8):List UInt8:=(uy (pT3 l)).2
def pT5 (l:List UInt8):List UInt8:=(BE (pT4 l)).2
def sF (l:List UInt8):Tok:=⟨vN (l.drop 8),vN ((l.drop 8).drop 8),(BE (pT4 l)).1,(qK ((pT5 l).drop 8) (sb (pT5 l))).1,(uy (pT3 l)).1⟩
theorem yV (l:List UInt8):(sF l).tails=(qK ((pT5 l).drop 8) (sb (pT5 l))).1:=by unfold sF;rfl
theorem Q2 (l:List UInt8):(sF l).sc=(qD (pT4 l) (sb (pT4 l))).1:=by unfold sF BE;rfl
theorem TH (l:List UInt8):pT5 l=(qD (pT4 l) (sb (pT4 l))).2:=by unfold pT5 BE;rfl
theorem D2 (l:List UInt8):(sF l).done=(uy (pT3 l)).1:=by unfold sF;rfl
theorem GI (l:List UInt8):(sF l).num=vN (l.drop 8):=by unfold sF;rfl
theorem Oi (l:List UInt8):(sF l).t=vN ((l.drop 8).drop 8):=by unfold sF;rfl
theorem Oh (l:List UInt8):pT4 l=(uy (pT3 l)).2:=by unfold pT4;rfl
theorem GJ (l:List UInt8):(sF l).sc=(BE (pT4 l)).1:=by unfold sF;rfl
theorem KP (l:List UInt8):pT5 l=(BE (pT4 l)).2:=by unfold pT5;rfl
theorem Og (l:List UInt8):((l.drop 8).drop 8).drop 8=pT3 l:=by unfold pT3;rfl
def RK:T:=T.g [T.i .i64 0,T.i .i64 0,T.i .i64 0,T.b false,T.l [],T.l [],T.l [],T.l [],T.l [],T.l [],T.l [],T.l [],T.i .i64 0,T.l [],T.l [],T.l []]
def zq (h:Md) (k:Tok):T:=A7 h k.num k.t k.sc k.tails k.done
def FQ (h:Md) (k:Tok):T:=sR h k.t k.sc k.tails k.done
def uz (h:Md) (k:Tok):List UInt8:=Nb h k.num k.t k.sc k.tails k.done
def th (h:Md) (l:List UInt8) (v:Bool):Bool:=((decide (vN l=(l.length:Int)) && decide (0≤(sF l).num∧(sF l).num<1099511627776)) && v) && (uz h (sF l) == l)
theorem KO (l:List UInt8):(pT3 l).length≤l.length:=by unfold pT3;simp only [Xi];omega
theorem CO (l:List UInt8):8*(sF l).done.length+(pT4 l).length≤l.length:=by
 have:=KL (pT3 l)
 have h:=KO l
 show 8*(uy (pT3 l)).1.length+(uy (pT3 l)).2.length≤_
 omega
theorem CP (l:List UInt8):(pT5 l).length≤l.length∧((sF l).sc.flatMap wQ).length≤4*l.length∧(sF l).sc.length≤l.length∧∀q∈(sF l).sc,q.2.1.length≤l.length∧q.2.2.length≤l.length:=by
 have h4:=CO l;have h5:=Q1 (pT4 l) (sb (pT4 l));have h6:=xW (pT4 l);have h7:=AX (pT4 l) (sb (pT4 l));rw [Xi] at h6;rw [Q2,TH];refine ⟨by omega,by omega,by omega,fun q hq=>?_⟩
 ·have:=MJ (pT4 l) (sb (pT4 l)) q hq
  omega
theorem yU (l:List UInt8):sb (pT5 l)≤l.length∧((sF l).tails.flatMap qp).length≤2*l.length∧(sF l).tails.length≤l.length∧∀x∈(sF l).tails,x.length≤l.length:=by
 have h5:=(CP l).1;have h6:=xW (pT5 l);obtain ⟨w1,w2,w3,w4⟩:=GK ((pT5 l).drop 8) (sb (pT5 l));rw [Xi] at h6 w1 w3;rw [yV];refine ⟨by omega,by omega,by omega,fun x hx=>?_⟩
 ·have:=w3 x hx
  omega
theorem yG {α:Type} (f:α→List UInt8) (b:Nat) (l:List α) (h:∀x∈l,(f x).length≤b):(l.flatMap f).length≤l.length*b:=by
 induction l with
 | nil=>simp
 | cons x r ih =>
  have h1:=h x (by simp);have h2:=ih fun y hy=>h y (by simp [hy])
  rw [XO,WN,W4,Xe];omega
theorem x6 (l:List Rat) (c:Nat) (h:∀q∈l,rl q≤c):(rz l).length≤8+l.length*(24+16*c):=by
 unfold rz uh;rw [WN,pH]
 have:=yG wQ (24+16*c) (l.map x7) (by
  intro q hq;obtain ⟨x,hx,rfl⟩:=Xw.1 hq;have h1:=h x hx;have h2:=Ar x.den;rw [A6]
  show 24+8*(Lb.nat x.num.natAbs).length+8*(dl x.den).length≤_
  unfold rl at h1;omega)
 rw [Xk] at this;omega
theorem DW {h:Md} {c:Nat} (hk:rV h c):(so h).length≤2 ^ 24:=by
 have z_:=hk.st;have hc:=hk.cc;have cY:=hk.sym;have a1:=x6 (h.empty::h.init) c (by
  intro q hq
  rcases WW.1 hq with e | e
  ·rw [e];exact hk.q0.1
  ·exact (hk.q1 q e).1)
 have a2:=x6 h.stop c fun q hq=>(hk.q3 q hq).1
 have a3:=yG (fun i=>rz (h.trans.getD i [])++rz (h.emit.getD i [])) (2 ^ 19) (List.range h.st) (by
  intro i hi;have hi:=XJ.1 hi;have m1:=pN (d:=([]:List Rat)) (show i<h.trans.length by rw [hk.trans];exact hi);have m2:=pN (d:=([]:List Rat)) (show i<h.emit.length by rw [hk.emit];exact hi);have b1:=x6 (h.trans.getD i []) c fun q hq=>(hk.q2 _ m1 q hq).1
  have b2:=x6 (h.emit.getD i []) c fun q hq=>(hk.q4 _ m2 q hq).1
  rw [hk.rows _ m1] at b1;rw [hk.shows _ m2] at b2;have c1:h.st*(24+16*c)≤8*(24+16*2 ^ 10):=Yn z_.2 (by omega);have c2:h.sym*(24+16*c)≤8*(24+16*2 ^ 10):=Yn cY.2 (by omega);rw [WN];omega)
 rw [YV] at a3;rw [W4,hk.init] at a1;rw [hk.stop] at a2;have c1:(h.st+1)*(24+16*c)≤9*(24+16*2 ^ 10):=Yn (by omega) (by omega);have c2:h.st*(24+16*c)≤8*(24+16*2 ^ 10):=Yn z_.2 (by omega);have c3:h.st*2 ^ 19≤8*2 ^ 19:=Xb _ z_.2;unfold so;simp only [WN,pH,uP,Xk,hk.ties];omega
theorem IC {h:Md} {c:Nat} (hk:rV h c) (l:List UInt8) (hl:l.length≤2 ^ 30):(uj h (sF l).num (sF l).t (sF l).sc (sF l).tails (sF l).done).length≤2 ^ 39:=by
 have h1:=CO l;have h2:=(CP l).2.1;have h3:=(yU l).2.1;have h4:=DW hk;unfold uj sU Ex uh;simp only [WN,pH,uP];omega
end Go.Pl
namespace Go.Pq
open Go.Pl Go.Proofs
theorem ID {h:Md} {c:Nat} (hk:rV h c) (l:List UInt8) (hl:l.length≤2 ^ 30):∃v,F 34 [.t 60 (FQ h (sF l))] (zo 1 4) [.b v]:=by
 have h1:=CO l;obtain ⟨-,-,h3,h4⟩:=CP l;obtain ⟨-,-,h5,h6⟩:=yU l;exact Ly hk _ _ _ _ (by omega) (fun q hq=>by have:=h4 q hq;omega) (by omega) (by omega) (fun x hx=>by have:=h6 x hx;omega)
theorem Hg {h:Md} {c:Nat} (hk:rV h c) (l:List UInt8) (hl:l.length≤2 ^ 30) (v:Bool) (hv:F 34 [.t 60 (FQ h (sF l))] (zo 1 4) [.b v]) :
  F 136 [.t 34 (se l),.t 29 (rx h)] Z26 [if th h l v=true then zq h (sF l) else RK,.b (th h l v)]:=by
 have hs:F 134 [.t 62 (zq h (sF l))] (zo 1 34) [se (uz h (sF l))]:=by
  have:=Ot hk (sF l).num (sF l).t (sF l).sc (sF l).tails (sF l).done (IC hk l hl)
  unfold zq uz;exact this
 have he:=O2 (uz h (sF l)) l;obtain ⟨p1,p2,p3,p4⟩:=yU l;have p5:=(CP l).1;have n1:=vu l (by omega);have n2:=vu (l.drop 8) (by have:=uo l 8;omega);have n3:=vu ((l.drop 8).drop 8) (by have:=uo l 8;have:=uo (l.drop 8) 8;omega);have n4:=DX (pT3 l) (by have:=KO l;omega);have n5:=TO (pT4 l) (by have:=CO l;omega);have n6:=Cx (pT5 l) (by omega);rw [←GI] at n2;rw [←Oi,Og] at n3;rw [←D2,←Oh] at n4;rw [←GJ,←KP] at n5;have etl:=yV l;have eok:th h l v=(((decide (vN l=(l.length:Int)) && decide (0≤(sF l).num∧(sF l).num<1099511627776)) && v) && (uz h (sF l) == l)):=rfl
 generalize l_:th h l v=ok at *
 generalize uz h (sF l)=W at *
 generalize sF l=K at *
 generalize pT5 l=X5 at *
 generalize pT4 l=X4 at *
 generalize pT3 l=X3 at *
 have am:(G11 (rx h))=rx h:=rfl;obtain ⟨num,t,sc,tails,done⟩:=K;dsimp only at *;subst etl
 generalize hC:sb X5=C at *
 have pm:=uo X5 8
 generalize X5.drop 8=X6 at *
 generalize hS:A7 h num t sc [] done=S
 refine Pr _ _ _ _ (fun i=>i.1=S∧i.2.1=iwL (qK X6 i.2.2.2.2).1++List.replicate (C-i.2.2.2.2) (T.l [])∧i.2.2.1=se (qK X6 i.2.2.2.2).2∧i.2.2.2.1=C∧i.2.2.2.2≤C) (fun i=>C-i.2.2.2.2) ?_;rw [am,AF];refine ⟨.i .i64 (vN l),se (l.drop 8),?_,fun q=>?_,fun q=>?_⟩
 ·exact n1
 ·rw [pC,rr] at q
  have e:ok=false:=by rw [eok,Xh q];rfl
  rw [e];exact ⟨a_,rfl,rfl,a_⟩
 rw [pC,sq] at q;rw [Xq q,ZX] at eok;refine ⟨.i .i64 num,se ((l.drop 8).drop 8),n2,rx h,sL h c hk,.i .i64 t,se X3,n3,qw done,se X4,n4,x8 sc,se X5,n5,.i .i64 (C:Int),se X6,n6,?_⟩;rw [pC,WP,Xm];refine ⟨⟨by omega,by omega,by omega,by omega⟩,⟨(S,List.replicate C (T.l []),se X6,C,0),⟨rfl,by rw [Nat.sub_zero];rfl,rfl,rfl,WS _⟩,?_⟩,fun _=>rfl,?_⟩
 ·rw [←hS];exact (by and_intros<;>first | exact trivial | rfl | (rw [pt (by omega)];rfl))
 rintro ⟨s,g,d,m,k⟩ ⟨aX,hg,hd,hm,aR⟩;dsimp only at aX hg hd hm aR ⊢;subst aX hd hm;obtain ⟨w1,w2,w3,w4⟩:=GK X6 k;refine ⟨fun q=>?_,fun q=>?_⟩
 ·rw [pw] at q
  have b_:k<m:=by omega
  have fE:g.length=m:=by rw [hg,WN,Xm];unfold iwL;rw [Xk,w2];omega
  have nf:=DX (qK X6 k).2 (by omega);refine ⟨_,_,nf,⟨by omega,by omega⟩,(s,iwL (qK X6 (k+1)).1++List.replicate (m-(k+1)) (T.l []),se (qK X6 (k+1)).2,m,k+1),⟨rfl,rfl,rfl,rfl,b_⟩,by dsimp only;omega,?_⟩;have e:g.set (0+((k:Nat):Int).toNat) (qw (uy (qK X6 k).2).1)=iwL (qK X6 (k+1)).1++List.replicate (m-(k+1)) (T.l []):=by
   rw [WV,WP,hg,tE _ _ _ _ (by unfold iwL;rw [Xk,w2]) (by omega),show m-k-1=m-(k+1) by omega]
   congr 1
   show iwL (qK X6 k).1++iwL [(uy (qK X6 k).2).1]=iwL ((qK X6 k).1++[_])
   unfold iwL;rw [XY]
  rw [e];exact (by and_intros<;>first | exact trivial | rfl | (rw [pt (by omega)];rfl))
 ·rw [pF] at q
  have cJ:k=m:=by omega
  subst cJ;rw [Yp,YY,XD] at hg
  generalize (qK X6 k).1=TL at *
  have eon:T.g [s.cell 1,s.cell 2,s.cell 3,s.cell 4,s.cell 5,s.cell 6,s.cell 7,s.cell 8,s.cell 9,s.cell 10,s.cell 11,s.cell 12,s.cell 13,T.l g,s.cell 15]=FQ h ⟨num,t,sc,TL,done⟩:=by rw [←hS,hg];rfl
  have ese:T.g [s.cell 0,s.cell 1,s.cell 2,s.cell 3,s.cell 4,s.cell 5,s.cell 6,s.cell 7,s.cell 8,s.cell 9,s.cell 10,s.cell 11,s.cell 12,s.cell 13,T.l g,s.cell 15]=zq h ⟨num,t,sc,TL,done⟩:=by rw [←hS,hg];rfl
  have en:(s.cell 0).int=num:=by rw [←hS];rfl
  rw [eon,ese,en,tQ];have l6:(ltI num 0 || leI 1099511627776 num)=!decide (0≤num∧num<1099511627776):=by
   have a1:decide (0≤num∧num<1099511627776)=(decide (0≤num) && decide (num<1099511627776)):=Bool.decide_and _ _;have a2:ltI num 0=!decide (0≤num):=by
    unfold ltI
    by_cases g:0≤num
    ·rw [Xq g,Xh (by omega)];rfl
    ·rw [Xh g,Xq (by omega)];rfl
   have a3:leI 1099511627776 num=!decide (num<1099511627776):=by
    unfold leI
    by_cases g:num<1099511627776
    ·rw [Xq g,Xh (by omega)];rfl
    ·rw [Xh g,Xq (by omega)];rfl
   rw [a1,a2,a3,Bool.not_and]
  rw [l6]
  generalize zq h ⟨num,t,sc,TL,done⟩=RS at *
  generalize FQ h ⟨num,t,sc,TL,done⟩=RO at *
  generalize decide (0≤num∧num<1099511627776)=A at *
  refine ⟨.b v,fun _=>hv,se W,fun _=>hs,.b (W == l),fun _=>he,?_⟩
  generalize (W == l)=C at *
  rw [eok];refine ⟨fun q2=>?_,fun q2=>?_⟩
  ·have:((A && v) && C)=false:=by
    cases A<;>cases v<;>cases C<;>first | rfl | cases q2
   rw [this];exact ⟨a_,rfl,rfl,a_⟩
  ·have:((A && v) && C)=true:=by
    cases A<;>cases v<;>cases C<;>first | rfl | cases q2
   rw [this];exact ⟨a_,rfl,rfl,a_⟩
end Go.Pq
