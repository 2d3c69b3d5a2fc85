/- Part 11 of 11. A session's sealed cut that was changed, shortened, lengthened or emptied is not resumed, and a cut is resumed under another model only where the two models are one. Names are shortened and spaces left out by program, for the size. -/
import Derived.Test.YtjhgombngbgjbaaGreatDoorQ10
import Derived.WalkKit
import Derived.Deep.RegionLaw
import Derived.Shelf.RegionOpenPlain
import Derived.Lib.Walk
import Derived.Lib.SliceRun
import Derived.Deep.LoopGhost
set_option linter.unusedVariables false
set_option linter.unusedSimpArgs false
set_option linter.unusedSectionVars false
set_option linter.constructorNameAsVariable false
set_option maxRecDepth 100000
namespace Go.Pl
theorem Np {a b:List UInt8} (h:Dg a=Dg b):Crc.De 0xffffffff#32 (bvs a)=Crc.De 0xffffffff#32 (bvs b):=by
 unfold Dg at h;have h:=BitVec.eq_of_toNat_eq h
 have:=Xx (fun x=>~~~ x) h
 simpa using this
theorem Nq {l:List UInt8} {i:Nat} (hi:i<l.length) {b:UInt8} (hb:b≠l[i]):Dg (l.set i b)≠Dg l:=by
 intro h;have h:=Np h;have s_:BitVec.ofNat 32 b.toNat≠(bvs l)[i]'(by unfold bvs;simpa using hi):=by
  intro q;have q:BitVec.ofNat 32 b.toNat=BitVec.ofNat 32 l[i].toNat:=by simpa [bvs] using q
  have:=Xx BitVec.toNat q
  rw [Yi,Yi] at this;have hx:=b.toNat_lt;have hy:=l[i].toNat_lt;exact hb (UInt8.toNat_inj.1 (by omega))
 have:=Crc.Mb (l:=bvs l) (i:=i) (by unfold bvs;simpa using hi) s_ 0xffffffff#32
 apply this;rw [←h]
 congr 1
 unfold bvs;rw [Zg]
theorem GD {a b:Int} (ha:Dh a) (hb:Dh b) (h:qk a=qk b):a=b:=by
 have h1:=vv ha [];rw [h,vv hb []] at h1;exact h1.symm
theorem tg (b:List UInt8):(qF b).length=b.length+8:=by unfold qF;rw [WN,pH];omega
theorem FR {a b:List UInt8} (h:qR a=qR b):a=b:=by
 have hl:a.length=b.length:=by have:=Xx List.length h;rw [qG,qG] at this;omega
 unfold qR at h;have h:=(Zq h (by rw [tg,tg,hl])).1;unfold qF at h;exact (Zq h (by rw [pH,pH])).2
theorem Nc {a b:List UInt8} {i:Nat} (hi:i<(qR a).length) {x:UInt8} (hx:x≠(qR a).getD i 0):qR b≠(qR a).set i x:=by
 intro h;have hl:b.length=a.length:=by have:=Xx List.length h;rw [Yw,qG,qG] at this;omega
 by_cases hm:i<(qF a).length
 ·have e:(qR a).set i x=(qF a).set i x++qk (Dg (qF a):Int):=by unfold qR;rw [List.set_append_left _ _ hm]
  rw [e] at h;obtain ⟨h1,h2⟩:=Zq h (by rw [Yw,tg,tg,hl]);have aX:=Lp (qF a);have iv:=Lp (qF b);have h3:=GD ⟨by omega,by omega⟩ ⟨by omega,by omega⟩ h2;have h4:Dg (qF b)=Dg (qF a):=by omega
  rw [h1] at h4;refine Nq hm (b:=x) ?_ h4
  have:(qR a).getD i 0=(qF a)[i]:=by unfold qR;rw [WM,Xr hm,WL hm];rfl
  rw [←this];exact hx
 ·have e:(qR a).set i x=qF a++(qk (Dg (qF a):Int)).set (i-(qF a).length) x:=by unfold qR;rw [List.set_append_right _ _ (by omega)]
  rw [e] at h;obtain ⟨h1,h2⟩:=Zq h (by rw [tg,tg,hl]);rw [h1] at h2;have b_:i-(qF a).length<(qk (Dg (qF a):Int)).length:=by rw [pH];rw [qG] at hi;rw [tg] at hm ⊢;omega
  have h5:(qk (Dg (qF a):Int))[i-(qF a).length]=x:=by
   have:=Xx (fun l=>l[i-(qF a).length]?) h2
   simp only [List.getElem?_set_self b_,WL b_,WJ] at this;exact this
  apply hx;rw [←h5];unfold qR;rw [WM,Xf (by omega),WL b_];rfl
theorem uV {h:Md} {l:List UInt8} {v:Bool} (q:th h l v=true):l=uz h (sF l)∧v=true∧vN l=(l.length:Int)∧0≤(sF l).num∧(sF l).num<1099511627776:=by
 unfold th at q;rw [XG,XG,XG,Xo,Xo,beq_iff_eq] at q;exact ⟨q.2.symm,q.1.2,q.1.1.1,q.1.1.2⟩
theorem vI (h:Md) (k:Tok):uz h k=qR (sU k.num k.t k.sc k.tails k.done++so h):=rfl
theorem spoilt {g h:Md} {k:Tok} {i:Nat} (hi:i<(uz g k).length) {x:UInt8} (hx:x≠(uz g k).getD i 0) (v:Bool):th h ((uz g k).set i x) v=false:=by
 cases q:th h ((uz g k).set i x) v with
 | false=>rfl
 | true =>
  exfalso
  have:=(uV q).1
  exact Nc (a:=sU k.num k.t k.sc k.tails k.done++so g) (b:=sU (sF ((uz g k).set i x)).num (sF ((uz g k).set i x)).t (sF ((uz g k).set i x)).sc (sF ((uz g k).set i x)).tails (sF ((uz g k).set i x)).done++so h) hi hx this.symm
theorem AW (b r:List UInt8) (hl:b.length≤2 ^ 40):vN (qR b++r)=((qR b).length:Int):=by
 rw [qG];unfold qR qF;rw [W7,W7,vv ⟨by omega,by omega⟩];omega
theorem KN {l:List UInt8} {n:Nat} (h:8≤n):vN (l.take n)=vN l:=by
 unfold vN;rw [List.take_take,YB h]
theorem longer {g h:Md} {k:Tok} (hl:(uz g k).length≤2 ^ 40) (r:List UInt8) (hr:r≠[]) (v:Bool):th h (uz g k++r) v=false:=by
 cases q:th h (uz g k++r) v with
 | false=>rfl
 | true =>
  exfalso
  have e:=(uV q).2.2.1;rw [vI] at e hl;rw [qG] at hl;rw [AW _ _ (by omega),WN] at e
  have:=XB.2 hr
  omega
theorem shorter {g h:Md} {k:Tok} (hl:(uz g k).length≤2 ^ 40) (v:Bool):th h ((uz g k).take ((uz g k).length-1)) v=false:=by
 cases q:th h ((uz g k).take ((uz g k).length-1)) v with
 | false=>rfl
 | true =>
  exfalso
  have e:=(uV q).2.2.1;rw [vI] at e hl;have oR:=qG (sU k.num k.t k.sc k.tails k.done++so g)
  have:=AW (sU k.num k.t k.sc k.tails k.done++so g) [] (by omega)
  rw [XD] at this;rw [KN (by omega),this,Xg] at e;omega
theorem QO (h:Md) (v:Bool):th h [] v=false:=by
 cases q:th h [] v with
 | false=>rfl
 | true =>
  exfalso
  have e:=(uV q).1;rw [vI] at e
  have:=Xx List.length e
  rw [qG] at this;simp at this
structure Hj (k:Tok):Prop where
 num:Dh k.num
 t:Dh k.t
 sc:k.sc.length≤2 ^ 60∧∀q∈k.sc,q.2.1.length≤2 ^ 60∧q.2.2.length≤2 ^ 60
 tails:k.tails.length≤2 ^ 60∧∀l∈k.tails,l.length≤2 ^ 60∧∀n∈l,Dh n
 done:k.done.length≤2 ^ 60∧∀n∈k.done,Dh n
theorem BB (m:List (List Int)):8*m.length≤(m.flatMap qp).length:=by
 induction m with
 | nil=>simp
 | cons x r ih=>rw [XO,WN,uP,W4];omega
theorem KQ {k:Tok} (hk:Hj k) (n:Int) (r:List UInt8):sF (qk n++(sU k.num k.t k.sc k.tails k.done++r))=k:=by
 obtain ⟨num,t,sc,tails,done⟩:=k;obtain ⟨h1,h2,⟨h3,l7⟩,⟨h4,m7⟩,⟨h5,l8⟩⟩:=hk;dsimp only at h1 h2 h3 l7 h4 m7 h5 l8 ⊢
 generalize hX:qk n++(sU num t sc tails done++r)=X
 have e1:X.drop 8=qk num++(qk t++(qp done++(uh sc++(qk (tails.length:Int)++(tails.flatMap qp++r))))):=by
  rw [←hX,rZ];unfold sU Ex;simp only [W7]
 have e3:pT3 X=qp done++(uh sc++(qk (tails.length:Int)++(tails.flatMap qp++r))):=by
  rw [←Og,e1,rZ,rZ]
 have q1:(sF X).num=num:=by rw [GI,e1,vv h1]
 have q2:(sF X).t=t:=by rw [Oi,e1,rZ,vv h2]
 have q3:(sF X).done=done:=by rw [D2,e3,ud done _ h5 l8]
 have e4:pT4 X=uh sc++(qk (tails.length:Int)++(tails.flatMap qp++r)):=by rw [Oh,e3,ud done _ h5 l8]
 have q4:(sF X).sc=sc:=by rw [GJ,e4,vw sc _ h3 l7]
 have e5:pT5 X=qk (tails.length:Int)++(tails.flatMap qp++r):=by rw [KP,e4,vw sc _ h3 l7]
 have hf:=BB tails;have q5:(sF X).tails=tails:=by
  rw [yV,e5,rZ,zP _ _ (by rw [WN];omega) h4,CQ tails r m7 _ (WU _),XM]
 generalize sF X=K at *
 cases K;dsimp only at q1 q2 q3 q4 q5;rw [q1,q2,q3,q4,q5]
theorem xX {k:Tok} (hk:Hj k) (h:Md):sF (uz h k)=k:=by
 rw [vI];unfold qR qF;rw [W7,W7];exact KQ hk _ _
theorem Ri {k:Tok} (hk:Hj k) (h:Md) (hl:(uz h k).length≤2 ^ 40) (hn:0≤k.num∧k.num<1099511627776):th h (uz h k) true=true:=by
 unfold th;rw [xX hk h];rw [vI] at hl ⊢;have oR:=qG (sU k.num k.t k.sc k.tails k.done++so h)
 have:=AW (sU k.num k.t k.sc k.tails k.done++so h) [] (by omega)
 rw [XD] at this;rw [Xq this,Xq hn];simp
theorem Iq {k:Tok} (hk:Hj k) {h g:Md} {v:Bool} (q:th g (uz h k) v=true):so g=so h:=by
 have e:=(uV q).1;rw [xX hk h,vI,vI] at e;exact (List.append_cancel_left (FR e)).symm
theorem GC {a b:Int} (ha:Dh a) (hb:Dh b) {x y:List UInt8} (h:qk a++x=qk b++y):a=b∧x=y:=by
 obtain ⟨h1,h2⟩:=Zq h (by rw [pH,pH]);exact ⟨GD ha hb h1,h2⟩
theorem KV {a b:Rat} (h:x7 a=x7 b):a=b:=by
 apply Go.Pq.CT;rw [←KW,←KW,h]
theorem x5 {a b:List Rat} {c:Nat} (hc:c≤2 ^ 40) (ha:a.length≤2 ^ 60∧∀q∈a,rl q≤c) (hb:b.length≤2 ^ 60∧∀q∈b,rl q≤c) {x y:List UInt8} (h:rz a++x=rz b++y):a=b∧x=y:=by
 have io:∀l:List Rat,(l.length≤2 ^ 60∧∀q∈l,rl q≤c)→(l.map x7).length≤2 ^ 60∧∀q∈l.map x7,q.2.1.length≤2 ^ 60∧q.2.2.length≤2 ^ 60:=by
  intro l hl;refine ⟨by rw [Xk];exact hl.1,fun q hq=>?_⟩;obtain ⟨z,hz,rfl⟩:=Xw.1 hq;have h1:=hl.2 z hz;have h2:=Ar z.den;unfold rl at h1
  show (Lb.nat z.num.natAbs).length≤_∧(dl z.den).length≤_
  omega
 have e1:=vw (a.map x7) x (io a ha).1 (io a ha).2;have e2:=vw (b.map x7) y (io b hb).1 (io b hb).2;unfold rz at h;rw [h,e2] at e1;have h1:b.map x7=a.map x7:=Xx Prod.fst e1;exact ⟨((List.map_inj_right fun _ _=>KV).1 h1).symm,(Xx Prod.snd e1).symm⟩
theorem Kx {a b:List Int} (ha:a.length≤2 ^ 60∧∀n∈a,Dh n) (hb:b.length≤2 ^ 60∧∀n∈b,Dh n) {x y:List UInt8} (h:qp a++x=qp b++y):a=b∧x=y:=by
 have e1:=ud a x ha.1 ha.2;have e2:=ud b y hb.1 hb.2;rw [h,e2] at e1;exact ⟨(Xx Prod.fst e1).symm,(Xx Prod.snd e1).symm⟩
theorem M7 {c:Nat} (hc:c≤2 ^ 40) (ok:List Rat→Prop) (l_:∀l,ok l→l.length≤2 ^ 60∧∀q∈l,rl q≤c) (a b a' b':Nat→List Rat) (ha:∀i,ok (a i)) (hb:∀i,ok (b i)) (lR:∀i,ok (a' i)) (s_:∀i,ok (b' i)) :
  ∀l:List Nat,(l.flatMap fun i=>rz (a i)++rz (b i))=(l.flatMap fun i=>rz (a' i)++rz (b' i))→∀i∈l,a i=a' i∧b i=b' i:=by
 intro l
 induction l with
 | nil=>intro _ i hi;cases hi
 | cons j r ih =>
  intro h i hi;rw [XO,XO,W7,W7] at h;obtain ⟨h1,h2⟩:=x5 hc (l_ _ (ha j)) (l_ _ (lR j)) h;obtain ⟨h3,h4⟩:=x5 hc (l_ _ (hb j)) (l_ _ (s_ j)) h2
  rcases WW.1 hi with e | e
  ·subst e;exact ⟨h1,h3⟩
  ·exact ih h4 i e
theorem Gp {α:Type} {a b:List α} {d:α} (hl:a.length=b.length) (h:∀i,i<a.length→a.getD i d=b.getD i d):a=b:=by
 apply Yj hl;intro i h1 h2
 have:=h i h1
 rw [WM,WM,WL h1,WL h2] at this;exact this
theorem HX {h g:Md} {c:Nat} (hh:rV h c) (hg:rV g c) (e:so h=so g):h=g:=by
 have c1:=hh.cc;have s1:=hh.st;have s2:=hg.st;have y1:=hh.sym;have y2:=hg.sym;unfold so at e;obtain ⟨e1,e⟩:=GC ⟨by omega,by omega⟩ ⟨by omega,by omega⟩ e;obtain ⟨e2,e⟩:=GC ⟨by omega,by omega⟩ ⟨by omega,by omega⟩ e;have top:∀{h:Md},rV h c→(h.empty::h.init).length≤2 ^ 60∧∀q∈h.empty::h.init,rl q≤c:=by
  intro h hh
  have:=hh.st
  refine ⟨by rw [W4,hh.init];omega,fun q hq=>?_⟩
  rcases WW.1 hq with z | z
  ·rw [z];exact hh.q0.1
  ·exact (hh.q1 q z).1
 obtain ⟨e3,e⟩:=x5 (by omega) (top hh) (top hg) e;obtain ⟨e4,e⟩:=x5 (by omega) ⟨by rw [hh.stop];omega,fun q hq=>(hh.q3 q hq).1⟩ ⟨by rw [hg.stop];omega,fun q hq=>(hg.q3 q hq).1⟩ e;have tie:∀{h:Md},rV h c→(h.ties.map fun x:Nat=>(x:Int)).length≤2 ^ 60∧∀n∈(h.ties.map fun x:Nat=>(x:Int)),Dh n:=by
  intro h hh
  have:=hh.st
  refine ⟨by rw [Xk,hh.ties];omega,fun n hn=>?_⟩;obtain ⟨x,hx,rfl⟩:=Xw.1 hn
  have:=hh.tie x hx
  exact ⟨by omega,by omega⟩
 obtain ⟨e5,e⟩:=Kx (tie hh) (tie hg) e;have st:h.st=g.st:=by omega
 rw [←st] at e;have inn:∀{h:Md},rV h c→(∀i,(h.trans.getD i []).length≤2 ^ 60∧∀q∈h.trans.getD i [],rl q≤c)∧(∀i,(h.emit.getD i []).length≤2 ^ 60∧∀q∈h.emit.getD i [],rl q≤c):=by
  intro h hh;have z_:=hh.st;have cY:=hh.sym;refine ⟨fun i=>?_,fun i=>?_⟩
  ·by_cases hi:i<h.trans.length
   ·have m:=pN (d:=([]:List Rat)) hi
    exact ⟨by rw [hh.rows _ m];omega,fun q hq=>(hh.q2 _ m q hq).1⟩
   ·rw [WM,Ym (by omega)];exact ⟨by simp,fun q hq=>by simp at hq⟩
  ·by_cases hi:i<h.emit.length
   ·have m:=pN (d:=([]:List Rat)) hi
    exact ⟨by rw [hh.shows _ m];omega,fun q hq=>(hh.q4 _ m q hq).1⟩
   ·rw [WM,Ym (by omega)];exact ⟨by simp,fun q hq=>by simp at hq⟩
 have er:=M7 (c:=c) (by omega) (fun l=>l.length≤2 ^ 60∧∀q∈l,rl q≤c) (fun _ q=>q) (fun i=>h.trans.getD i []) (fun i=>h.emit.getD i []) (fun i=>g.trans.getD i []) (fun i=>g.emit.getD i []) (inn hh).1 (inn hh).2 (inn hg).1 (inn hg).2 _ e;have et:h.trans=g.trans:=Gp (d:=[]) (by rw [hh.trans,hg.trans,st]) fun i hi=>(er i (XJ.2 (by rw [hh.trans] at hi;exact hi))).1
 have ee:h.emit=g.emit:=Gp (d:=[]) (by rw [hh.emit,hg.emit,st]) fun i hi=>(er i (XJ.2 (by rw [hh.emit] at hi;exact hi))).2
 have e5':h.ties=g.ties:=(List.map_inj_right fun x y q=>by omega).1 e5;obtain ⟨sym,st',em,init,tr,stop,emit,ties⟩:=h;obtain ⟨sym2,st2,em2,init2,tr2,stop2,emit2,ties2⟩:=g;dsimp only at *;simp only [ZM] at e3;rw [show sym=sym2 by omega,st,e3.1,e3.2,et,e4,ee,e5']
def tF (h:Md) (o:On):Nat→Rat×List Nat
 | 0=>(if o.time=0 then h.empty else 0,[])
 | i+1=>if better (o.sc.getD i 0*h.stop.getD i 0) (tF h o i).1 (o.tails.getD i []) (tF h o i).2 then (o.sc.getD i 0*h.stop.getD i 0,o.tails.getD i []) else tF h o i
def Aw (h:Md) (o:On):Rat×List Nat:=tF h o o.sc.length
theorem Th {h:Md} {c:Nat} {o:On} (hk:rV h c) (H:vP h c o):∀i,i≤o.sc.length→Share (tF h o i).1∧rl (tF h o i).1≤2 ^ 20∧(tF h o i).2.length≤256:=by
 intro i;have ae:=hk.cc
 induction i with
 | zero =>
  intro _;unfold tF
  by_cases hz:o.time=0
  ·rw [WY hz]
   have:=hk.q0
   exact ⟨this.2,by have:=this.1;show rl h.empty≤_;omega,WS _⟩
  ·rw [WZ hz]
   exact ⟨yZ,by show rl 0≤_;rw [Be];omega,WS _⟩
 | succ i ih =>
  intro hi;have hz:0<o.time:=by
   rcases XT o.time with q | q
   ·rw [(H.zero q).1] at hi;simp at hi
   ·exact q
  obtain ⟨l1,l2⟩:=H.lens hz;have hm:=pN (d:=(0:Rat)) (show i<o.sc.length by omega);have dv:=H.share _ hm;have gB:=H.Q8 hk _ hm;have z_:=hk.q3 _ (pN (d:=(0:Rat)) (show i<h.stop.length by have:=hk.stop;omega));have hr:=Eb (o.sc.getD i 0) (h.stop.getD i 0);unfold tF;split
  ·exact ⟨Bl dv z_.2,by have:=z_.1;show rl (o.sc.getD i 0*h.stop.getD i 0)≤_;omega,H.tlen _ (pN (by omega))⟩
  ·exact ih (by omega)
theorem wu (h:Md) (o:On) (i:Nat):tF h o (i+1)=if better (o.sc.getD i 0*h.stop.getD i 0) (tF h o i).1 (o.tails.getD i []) (tF h o i).2 then (o.sc.getD i 0*h.stop.getD i 0,o.tails.getD i []) else tF h o i:=rfl
end Go.Pl
namespace Go.Pq
open Go.Pl Go.Proofs
theorem Gk {h:Md} {c:Nat} {o:On} (hk:rV h c) (H:vP h c o) :
  F 138 [.t 60 (onT h o)] Z15
   (if 0<(Aw h o).1 then [qH (o.done++(Aw h o).2),qr (Aw h o).1,.i .i64 0] else [.l [],qr 0,.i .i64 11]):=by
 obtain ⟨y0,y1,y2,r1,r2,r3⟩:∃y0 y1 y2:T,(0<(Aw h o).1→y0=qH (o.done++(Aw h o).2)∧y1=qr (Aw h o).1∧y2=T.i .i64 0)∧(¬ 0<(Aw h o).1→y0=T.l []∧y1=qr 0∧y2=T.i .i64 11) ∧
   (if 0<(Aw h o).1 then [qH (o.done++(Aw h o).2),qr (Aw h o).1,.i .i64 0] else [.l [],qr 0,.i .i64 11])=[y0,y1,y2]:=by
  by_cases g:0<(Aw h o).1
  ·exact ⟨_,_,_,fun _=>⟨rfl,rfl,rfl⟩,fun q=>absurd g q,by rw [WY g]⟩
  ·exact ⟨_,_,_,fun q=>absurd q g,fun _=>⟨rfl,rfl,rfl⟩,by rw [WZ g]⟩
 rw [r3];have hr:=H.Q8 hk;have ae:=hk.cc;have z_:=hk.st;have ht:=H.time;have oS:(T.g [(onT h o).cell 2,(onT h o).cell 3,(onT h o).cell 4])=qr h.empty:=rfl;refine Pt _ _ _ _ (fun i=>i.1=qr (tF h o i.2.2).1∧i.2.1=qH (tF h o i.2.2).2∧i.2.2≤o.sc.length) (fun i=>o.sc.length-i.2.2) (fun x=>x=qr (tF h o 0).1) ?_;rw [AS,xm,MF,zM,CM,QS,oS,qj,qj,uN,hk.stop];have cl:=yI h.empty (by have:=hk.q0.1;omega);refine ⟨_,yi hk H,fun q=>(by cases q),fun _=>⟨⟨fun h0=>⟨_,cl,qr (tF h o 0).1,rfl,?_⟩,fun h0=>⟨qr (tF h o 0).1,rfl,?_⟩⟩,fun _=>rfl,?_⟩⟩
 ·rw [qe] at h0
  have e:(tF h o 0).1=h.empty:=by unfold tF;rw [WY (by omega)]
  rw [e];exact (by and_intros<;>first | exact trivial | rfl | (rw [pt (by omega)];rfl))
 ·rw [rk] at h0
  have e:(tF h o 0).1=0:=by unfold tF;rw [WZ (by omega)]
  rw [e,A5];exact (by and_intros<;>first | exact trivial | rfl | (rw [pt (by omega)];rfl))
 rintro _ rfl;refine ⟨⟨(qr (tF h o 0).1,qH [],0),⟨rfl,rfl,WS _⟩,(by and_intros<;>first | exact trivial | rfl | (rw [pt (by omega)];rfl))⟩,fun _=>rfl,?_⟩
 all_goals
  rintro ⟨bt,tt,m⟩ ⟨fY,bu,hm⟩;dsimp only at fY bu hm ⊢;subst fY bu;obtain ⟨b1,b2,b3⟩:=Th hk H m hm;refine ⟨fun h2=>?_,fun h2=>?_⟩
  ·rw [pw] at h2
   have a7:m<o.sc.length:=by omega
   have hz:0<o.time:=by
    rcases XT o.time with q | q
    ·rw [(H.zero q).1] at a7;simp at a7
    ·exact q
   obtain ⟨l1,l2⟩:=H.lens hz;have dK:m<h.st:=by omega
   have lW:m<o.tails.length:=by omega
   have m8:m<h.stop.length:=by have:=hk.stop;omega
   have q1:=hr _ (pN (d:=(0:Rat)) a7);have q2:=(hk.q3 _ (pN (d:=(0:Rat)) m8)).1;have q3:=Eb (o.sc.getD m 0) (h.stop.getD m 0);have q4:=H.tlen _ (pN (d:=([]:List Nat)) lW);rw [sQ _ a7,sQ _ m8,qu,qu,vK _ lW,vX];refine ⟨⟨by omega,by omega⟩,⟨by omega,by omega⟩,_,QI _ _ (by omega) (by omega),_,sZ _ _ (by omega) (by omega),_,fun _=>vG _ (by omega),fun _=>⟨by omega,by omega⟩,_,fun _=>NT _ _ (by omega) (by omega),?_⟩;rw [pC,pC,pC,Dl];refine ⟨fun hb=>⟨⟨by omega,by omega⟩,?_⟩,fun hb=>?_⟩
   ·refine ⟨(qr (o.sc.getD m 0*h.stop.getD m 0),qH (o.tails.getD m []),m+1),⟨?_,?_,a7⟩,by dsimp only;omega,(by and_intros<;>first | exact trivial | rfl | (rw [pt (by omega)];rfl))⟩
    ·dsimp only;rw [wu,WY hb]
    ·dsimp only;rw [wu,WY hb]
   ·refine ⟨(qr (tF h o m).1,qH (tF h o m).2,m+1),⟨?_,?_,a7⟩,by dsimp only;omega,(by and_intros<;>first | exact trivial | rfl | (rw [pt (by omega)];rfl))⟩
    ·dsimp only;rw [wu,WZ (by rw [hb];decide)]
    ·dsimp only;rw [wu,WZ (by rw [hb];decide)]
  ·rw [pF] at h2
   have jy:m=o.sc.length:=by omega
   subst jy;refine ⟨_,vG _ (by omega),fun q=>?_,fun q=>?_⟩
   ·rw [pC,qe] at q
    have hn:¬ 0<(Aw h o).1:=by
     intro g
     have:=wM.2 (B0.2 g)
     show False
     unfold Aw at this;omega
    obtain ⟨e0,e1,e2⟩:=r2 hn;subst e0 e1 e2;exact ⟨a_,rfl,rfl,rfl,a_⟩
   ·rw [pC,rk] at q
    have hn:0<(Aw h o).1:=by
     rcases ZW.1 b1.1 with g | g
     ·exact g
     ·exfalso;apply q;rw [←g];rfl
    obtain ⟨e0,e1,e2⟩:=r1 hn;have c1:=Ao o.done (tF h o o.sc.length).2 (by have:=H.dlen;omega) (by omega);exact ⟨_,c1,a_,e0.symm,e1.symm,e2.symm,a_⟩
end Go.Pq
namespace Go.Pq
open Go.Pl Go.Proofs Go.Lib Go.RowKit Go
theorem Eh {w:World} {b:Nat} {cs:Array Value} {e:TypeId} (hh:w.heap[b]?=some (.cells cs e (0,0))) {o:Nat} {vs:List Value} (D_:o+vs.length≤cs.size) (h1:∀v∈vs,v.oneCell'=true) :
  w.setCells b o vs=w.setRow b (splice cs o vs):=by
 have a1:=run_storeCells_at Tryz.prog b o e vs 0 cs w hh (by rw [XW];exact D_) h1;have a2:=run_storeCells_cells (P:=Tryz.prog) b o vs 0 w (fun j hj=>by rw [XW,pM hh];simp;omega) (fun j hj=>by simp [World.frozen?,hh]) h1;rw [a1] at a2;simp only [XW] at a2
 injection a2 with _ a3
 exact a3.symm
theorem Jn (W:World) (ty:TypeId) {b:Nat} {cs:Array Value} (hh:W.heap[b]?=some (.cells cs 63 (0,0))) {o n c:Nat} (hn:0<n) (D_:o+n*16≤cs.size) :
  ∃zs:List Value,zs.length=n*16∧(Builtin.clear_ #[31] ty #[.slice (some ⟨b,o,none⟩) n c]).run Tryz.prog W=.ok (.tuple #[]) (W.setRow b (splice cs o zs)):=by
 obtain ⟨z,hz⟩:∃z,z=Value.agg #[.int .i64 0,.int .i64 0,.int .i64 0,.bool false,.slice none 0 0,.slice none 0 0,.slice none 0 0,.slice none 0 0,.slice none 0 0,.slice none 0 0,.slice none 0 0,.slice none 0 0,.int .i64 0,.slice none 0 0,.slice none 0 0,.slice none 0 0]:=⟨_,rfl⟩;have oT:∀w,(zeroValue 63).run Tryz.prog w=.ok z w:=by intro w;rw [hz];exact Tryz.zeroValue63 w
 have kh:z.cells.size=16:=by rw [hz];rfl
 have oU:(z.cells.toList.all fun u=>u.oneCell')=true:=by rw [hz];rfl
 have oV:∀j,j<16→(z.cells[j]!).oneCell'=true:=by
  intro j hj;refine List.all_eq_true.1 oU _ ?_;rw [getElem!_pos z.cells j (by rw [kh];exact hj)];exact Array.mem_toList_iff.2 (Array.getElem_mem _)
 clear hz;refine ⟨(Builtin.zeroCells z.cells n).toList,by simp [Builtin.zeroCells,kh],?_⟩;have hl:(Builtin.zeroCells z.cells n).toList.length=n*16:=by simp [Builtin.zeroCells,kh]
 have a1:=run_storeCells_at Tryz.prog b o 63 (Builtin.zeroCells z.cells n).toList 0 cs W hh (by rw [XW,hl];exact D_) (by
  intro v hv;simp only [Builtin.zeroCells,Zj,Xw,Array.toList_range,XJ] at hv;obtain ⟨j,hj,rfl⟩:=hv;exact oV _ (by rw [kh];exact XA _ (by decide)))
 obtain ⟨m,rfl⟩:∃m,n=m+1:=⟨n-1,by omega⟩;simp only [XW] at a1;simp [Builtin.clear_,run_underlying Tryz.underlying31,oT,a1,splice]
set_option maxHeartbeats 4000000 in
set_option maxRecDepth 1000000 in
theorem JM (w:World) (b n cap k j:Nat) (cs:Array Value) (hh:w.heap[b]?=some (.cells cs 63 (0,0))) (hk:k<j) (hj:j≤n) (hn:n≤cap) (hm:cap≤9223372036854775807) (f_:cs.size=cap*16)
  (b7:∀t,t<n*16→∃u,cs[t]?=some u∧u.oneCell'=true) :
  Calls Tryz.prog 135 #[.slice (some ⟨b,0,none⟩) n cap,.int .i64 k,.int .i64 j] w fun e w'=>e=.returned (.slice (some ⟨b,0,none⟩) (n-(j-k)) cap) ∧
   ∃cs',w'=w.drew.setRow b cs'∧cs'.size=cs.size∧∀t,t<(n-(j-k))*16→cs'[t]?=if t<k*16 then cs[t]? else cs[t+(j-k)*16]? := by
 obtain ⟨i0,z,gx,cT,-⟩:=Good.zero (C:=Ue) (t:=63) (c:=62) good (ti:=⟨.st [(0,2),(1,60)],16,304,[2,2,2,4,22,22,25,26,25,26,27,28,2,25,59,28],.g [.i .i64 0,.i .i64 0,.i .i64 0,.b false,.l [],.l [],.l [],.l [],.l [],.l [],.l [],.l [],.i .i64 0,.l [],.l [],.l []]⟩) (by kernel_rfl);have cT:i0.size=16:=cT;obtain ⟨news,bn⟩:∃news,news=(cs.toList.drop (j*16)).take ((n-j)*16):=⟨_,rfl⟩;have cI:cs.toList.length=cap*16:=by rw [Ye,f_]
 have i_:news.length=(n-j)*16:=by rw [bn,Xg,Xi];omega
 have o_:∀t,t<(n-j)*16→news[t]?=cs[j*16+t]? := by
  intro t ht;rw [bn,Xy,WY ht,YM,Xa]
 have hH:w.drew.heap[b]?=some (.cells cs 63 (0,0)):=hh;obtain ⟨A,hA,b8⟩:∃A:Addr,(if cap=j then some (⟨b,0,none⟩:Addr) else some ⟨b,j*16,none⟩)=some A∧Hid (∀t u,news[t]?=some u→w.drew.cell? (A.add t)=some u):=by
  by_cases h:cap=j
  ·refine ⟨⟨b,0,none⟩,by rw [WY h],fun t u hu=>?_⟩
   have h0:news.length=0:=by rw [i_];omega
   rw [Yf.1 h0] at hu;simp at hu
  ·refine ⟨⟨b,j*16,none⟩,by rw [WZ h],fun t u hu=>?_⟩
   have ht:t<(n-j)*16:=by
    have:=(WQ.1 hu).1
    rwa [i_] at this
   rw [o_ t ht] at hu;rw [rB,pM hH];exact hu
 have s1:Hid (news.length=(n-j)*16):=i_;have s2':∀u∈news,u.oneCell'=true:=by
  intro u hu;obtain ⟨t,ht,rfl⟩:=Ys hu;have cN:t<(n-j)*16:=by rw [←i_];exact ht
  have h1:=o_ t cN;obtain ⟨u,kf,iT⟩:=b7 (j*16+t) (by omega);rw [WL ht,kf] at h1;rw [W3 h1];exact iT
 have s2:Hid (∀u∈news,u.oneCell'=true):=s2';have s3:Hid (∀t,t<news.length→(w.drew.cell? ⟨b,0+k*16+t,none⟩).isSome=true∧w.drew.frozen? ⟨b,0+k*16+t,none⟩=false):=by
  intro t ht;rw [i_] at ht;exact ⟨by rw [pM hH];simp;omega,by simp [World.frozen?,hH]⟩
 obtain ⟨W1,ma⟩:∃W1,W1=w.drew.setCells b (0+k*16) news:=⟨_,rfl⟩;have D_:0+k*16+news.length≤cs.size:=by rw [i_,f_];omega
 have gX:W1=w.drew.setRow b (splice cs (0+k*16) news):=by rw [ma];exact Eh hH D_ s2'
 have cU:W1.heap[b]?=some (.cells (splice cs (0+k*16) news) 63 (0,0)):=by rw [gX];exact setRow_heap w.drew b cs _ 63 (0,0) hH
 have aX:=qQ D_;obtain ⟨zs,jS,cA⟩:∃zs:List Value,zs.length=(n-(k+(n-j)))*16∧∀ty,(Builtin.clear_ #[31] ty #[.slice (some ⟨b,(k+(n-j))*16,none⟩) (n-(k+(n-j))) (cap-(k+(n-j)))]).run Tryz.prog W1=.ok (.tuple #[]) (W1.setRow b (splice (splice cs (0+k*16) news) ((k+(n-j))*16) zs)):=by
  obtain ⟨zs,h1,h2⟩:=Jn W1 0 cU (o:=(k+(n-j))*16) (n:=n-(k+(n-j))) (c:=cap-(k+(n-j))) (by omega) (by rw [aX,f_];omega);exact ⟨zs,h1,fun _=>h2⟩
 have fin:Hid (∃cs',W1.setRow b (splice (splice cs (0+k*16) news) ((k+(n-j))*16) zs)=w.drew.setRow b cs'∧cs'.size=cs.size∧∀t,t<(n-(j-k))*16→cs'[t]?=if t<k*16 then cs[t]? else cs[t+(j-k)*16]?):=by
  have cn:(k+(n-j))*16+zs.length≤(splice cs (0+k*16) news).size:=by rw [aX,f_,jS];omega
  refine ⟨splice (splice cs (0+k*16) news) ((k+(n-j))*16) zs,?_,by rw [qQ cn,aX],fun t ht=>?_⟩
  ·rw [gX,setRow_setRow]
  ·rw [qq cn,WY (by omega),qq D_]
   by_cases g:t<k*16
   ·rw [WY (by omega),WY g]
   ·rw [WZ (by omega),WY (by rw [i_];omega),WZ g,o_ _ (by omega)]
    congr 1;omega
 have hW:Hid (W1=w.drew.setCells b (0+k*16) news):=ma;have pn:k≤cap:=by omega
 have iz:j≤cap:=by omega
 have u31:=Tryz.underlying31;have z63:=Tryz.sizeOf63;have mx:=mixed;have t_:¬ k=j:=by omega
 have cR:Hid (n-(j-k)=k+(n-j)):=by show n-(j-k)=k+(n-j);omega
 clear o_ b7 bn i_ ma gX cU aX D_ hH hh f_ cI s2' jS
 go_enter Tryz.func135,Tryz.ntmps135
 go_wp2_with fail
 go_region_law_o (refine step_append_room rfl (.tmp 22) (.tmp 25) 31 rfl 63 i0 16 u31 gx cT b 0 k cap (by simp [Act.eval,Act.put]) A (n-j) (cap-j) news (by simp [Act.eval,Act.put]) s1.out b8.out s2.out (by omega) s3.out ?_;rw [←hW.out])
 go_wp2
 go_ret
 have f:=fin.out;rw [WV] at f;exact ⟨by rw [cR.out];rfl,f⟩
theorem MI {tab:Tab} {w w':World} {A:Nat→Prop} {vals:Array Value} {γ:Key→Option Nat} {args:List Arg} {c:TypeId} {v:Value} {g:Option Nat} {xs:List T} {σ:St}
  (hr:Rel tab ⟨w.heap.size,w,A,fun b=>∃k,γ k=some b⟩ vals w σ γ) (f_:vals.size=args.length) (hb:sY 0 args=[])
  (cK:w'.os=w.os) (Y_:w'.tape=w.tape) (Q_:w'.output=w.output) (Z_:w.heap.size≤w'.heap.size) (x_:∀b,b<w.heap.size→(¬ ∃k,γ k=some b)→w'.heap[b]?=w.heap[b]?)
  (hg:∀b,g=some b→(∃k,γ k=some b)∨(w.heap.size≤b∧b<w'.heap.size))
  (hO:∀O,(∀b,O b→A b∨g=some b)→Own tab w' O c v g xs) :
  ∃γ',Rel tab ⟨w.heap.size,w,A,fun b=>∃k,γ k=some b⟩ (vals.push v) w' (sO args [(pp args.length,c,true)] [.l xs]) γ' := by
 have z_:sO args [(pp args.length,c,true)] [.l xs]=[(pp args.length,top (.own c 0 xs))]:=by
  unfold sO;rw [hb];rfl
 rw [z_];have o_:∀k e,St.get [(pp args.length,top (.own c 0 xs))] k=some e→k=pp args.length∧e=top (.own c 0 xs):=by
  intro k e he;simp only [St.get] at he;split at he
  ·rename_i hk;exact ⟨(Key.qs.1 hk).symm,(W3 he).symm⟩
  ·cases he
 have hγ:∀k b,rN (fun _=>none) (pp args.length) g k=some b→k=pp args.length∧g=some b:=by
  intro k b hk;unfold rN at hk;split at hk
  ·rename_i e;exact ⟨e,hk⟩
  ·cases hk
 refine ⟨rN (fun _=>none) (pp args.length) g,⟨cK,Y_,Q_,Z_,x_,hr.low,?_,?_,?_,?_,?_⟩⟩
 ·intro k k' b h1 h2
  rw [(hγ k b h1).1,(hγ k' b h2).1]
 ·intro k b h1
  rcases hg b (hγ k b h1).2 with ⟨k0,h0⟩ | ⟨h0,ej⟩
  ·obtain ⟨q1,q2,q3⟩:=hr.blk k0 b h0
   exact ⟨Xz q1 Z_,q2,fun _=>⟨k0,h0⟩⟩
  ·exact ⟨ej,fun q=>by have:=(hr.low b q).1;simp only at this;omega,fun q=>by simp only at q;omega⟩
 ·intro s n e he
  exact absurd (o_ _ _ he).1.symm px
 ·intro s j e he
  exact absurd (o_ _ _ he).1.symm pK
 ·intro k e he
  obtain ⟨rfl,rfl⟩:=o_ _ _ he;refine ⟨v,by rw [pz,←f_];simp,fun _=>?_,fun q=>absurd trivial q⟩
  show Own tab w' _ c v (rN (fun _=>none) (pp args.length) g (pp args.length)) xs
  rw [qg];exact hO _ fun b s_=>s_.imp id fun ⟨k,hk⟩=>(hγ k b hk).2
theorem Ge (xs:List T) (k:Nat) (hk:k<xs.length) (hl:xs.length≤8) :
  F 135 [.own 31 xs,.t 2 (.i .i64 (k:Int)),.t 2 (.i .i64 ((k+1:Nat):Int))] (zw 3 31) [.l (xs.eraseIdx k)]:=by
 have t31:tab.at 31=some (31,⟨.sl 63,1,24,[],.l []⟩):=by kernel_rfl
 have t2:tab.at 2=some (2,⟨.int .i64,1,8,[],.i .i64 0⟩):=by kernel_rfl
 have t63:tab.at 63=some (62,⟨.st [(0,2),(1,60)],16,304,[2,2,2,4,22,22,25,26,25,26,27,28,2,25,59,28],.g [.i .i64 0,.i .i64 0,.i .i64 0,.b false,.l [],.l [],.l [],.l [],.l [],.l [],.l [],.l [],.i .i64 0,.l [],.l [],.l []]⟩):=by kernel_rfl
 refine wk (c:=tO Tryz.f135) Tryz.func135 (by kernel_rfl) (by kernel_rfl) fun w A vals γ f_ hr=>?_
 obtain ⟨v0,v_,eB,-⟩:=hr.ent (pp 0) (top (.own 31 0 xs)) rfl;obtain ⟨v1,aq,gB,-⟩:=hr.ent (pp 1) (top (.t 2 (.i .i64 (k:Int)))) rfl;obtain ⟨v2,af,cV,-⟩:=hr.ent (pp 2) (top (.t 2 (.i .i64 ((k+1:Nat):Int)))) rfl;have hO:Own tab w _ 31 v0 (γ (pp 0)) xs:=eB trivial;have kV:V tab w _ 2 v1 (.i .i64 (k:Int)):=gB trivial;have oW:V tab w _ 2 v2 (.i .i64 ((k+1:Nat):Int)):=cV trivial;rw [pz] at v_ aq af;have e1:v1=.int .i64 (k:Int):=by
  obtain ⟨hl,-,-⟩:=sG t2 (by simp [TI.isS]) kV;cases hl;rfl
 have e2:v2=.int .i64 ((k+1:Nat):Int):=by
  obtain ⟨hl,-,-⟩:=sG t2 (by simp [TI.isS]) oW;cases hl;rfl
 have evals:vals=#[v0,v1,v2]:=by
  apply Ze
  ·simp [f_]
  ·intro i h1 h2
   have jq:i<3:=by simpa using h2
   match i,jq with
   | 0,_=>rw [W6 h1] at v_;simpa using v_
   | 1,_=>rw [W6 h1] at aq;simpa using aq
   | 2,_=>rw [W6 h1] at af;simpa using af
 obtain ⟨ti',e',ce',te',q1,q2,q3,q4,q5⟩:=hO
 have:=pu t31 q1
 simp only [WK,W5] at this;subst this;simp only [K.sl.injEq] at q2;subst q2
 have:=pu t63 q3
 simp only [WK] at this;obtain ⟨rfl,rfl⟩:=this
 rcases q5 with ⟨-,hx,-⟩ | ⟨b,cap,cs,hg,hv,hh,h1,h2,h3,h4⟩
 ·rw [hx] at hk;exact absurd hk (Nat.not_lt_zero _)
 have lvl:∀j x,xs[j]?=some x→∀t,t<16→∃u y,cs[j*16+t]?=some u∧x.leaves[t]?=some y∧u.oneCell'=true:=by
  intro j x hx t ht;obtain ⟨-,k2,k3⟩:=h4 j x hx;have k2':x.leaves.length=16:=k2;have a1:x.leaves[t]?=some x.leaves[t]:=WL (by omega);obtain ⟨ty,ap⟩:∃ty,([2,2,2,4,22,22,25,26,25,26,27,28,2,25,59,28]:List TypeId)[t]?=some ty:=⟨_,WL ht⟩;obtain ⟨u,hu,hL⟩:=k3 t x.leaves[t] ty a1 ap;exact ⟨u,_,hu,a1,IP hL⟩
 rw [evals,hv,e1,e2];rw [evals,hv,e1,e2] at hr f_;have hm:maxLen=9223372036854775807:=rfl;refine (JM w b xs.length cap k (k+1) cs hh (by omega) (by omega) h1 (by omega) h3 fun t ht=>?_).mono ?_
 ·obtain ⟨u,-,hu,-,ho⟩:=lvl (t / 16) xs[t / 16] (WL (by omega)) (t%16) (XA _ (by decide))
  exact ⟨u,by rw [←hu];congr 1;omega,ho⟩
 ·rintro r w' ⟨rfl,cs',rfl,aJ,G_⟩
  refine ⟨_,rfl,?_⟩;have P_:(xs.eraseIdx k).length=xs.length-(k+1-k):=by rw [List.length_eraseIdx_of_lt hk];omega
  have S_:∀b',b'≠b→(w.drew.setRow b cs').heap[b']?=w.heap[b']? := fun b' s_=>setRow_other w.drew b b' cs' s_
  refine MI (g:=some b) hr f_ rfl rfl rfl rfl (by simp) (fun b' _ hn=>S_ b' (fun e=>hn ⟨pp 0,by rw [e];exact hg⟩)) (fun b' s_=>.inl ⟨pp 0,by rw [hg];exact s_⟩) fun O' jM=>?_
  have z_:Stays w (w.drew.setRow b cs') (Ob ⟨w.heap.size,w,A,fun b=>∃k,γ k=some b⟩ γ) O' := by
   intro b' _ hn;refine ⟨S_ b' (fun e=>hn (.inr ⟨pp 0,by rw [e];exact hg⟩)),fun ho=>?_⟩
   rcases jM b' ho with q | q
   ·exact hn (.inl q)
   ·exact hn (.inr ⟨pp 0,by rw [hg];exact q⟩)
  refine ⟨_,63,62,_,t31,rfl,t63,q4,.inr ⟨b,cap,cs',rfl,by rw [P_],setRow_heap w.drew b cs cs' 63 (0,0) hh,by omega,h2,by rw [aJ];exact h3,fun j x hx=>?_⟩⟩;rw [ZK] at hx;have ip:j<(xs.eraseIdx k).length:=by
   rcases YP j (xs.eraseIdx k).length with q | q
   ·exact q
   ·exfalso
    have:(xs.eraseIdx k)[j]?=none:=Ym q
    rw [ZK,hx] at this;cases this
  by_cases g:j<k
  ·rw [WY g] at hx
   obtain ⟨k1,k2,k3⟩:=h4 j x hx;refine ⟨k1,k2,fun n y ty hy ht=>?_⟩;obtain ⟨u,hu,hL⟩:=k3 n y ty hy ht;have hn:n<16:=by rw [←show x.leaves.length=16 from k2];exact (WQ.1 hy).1
   refine ⟨u,?_,hL.mono z_⟩;have aw:cs[j*16+n]?=some u:=hu
   show cs'[j*16+n]?=some u
   rw [G_ _ (by omega),WY (by omega)];exact aw
  ·rw [WZ g] at hx
   obtain ⟨k1,k2,k3⟩:=h4 (j+1) x hx;refine ⟨k1,k2,fun n y ty hy ht=>?_⟩;obtain ⟨u,hu,hL⟩:=k3 n y ty hy ht;have hn:n<16:=by rw [←show x.leaves.length=16 from k2];exact (WQ.1 hy).1
   refine ⟨u,?_,hL.mono z_⟩;have aw:cs[(j+1)*16+n]?=some u:=hu
   show cs'[j*16+n]?=some u
   rw [G_ _ (by omega),WZ (by omega),←aw]
   congr 1;omega
end Go.Pq
namespace Go.Pl
def yD (h:Md) (s:Srv) (n seq:Int) (syms:List Int) (k:Nat):Srv×T :=
 if k<s.ss.length∧((s.ss.getD k (0,on0)).1:Int)=n then
  if seq<0∨((s.ss.getD k (0,on0)).2.time:Int)<seq then (s,Ac 23 0 (.l []))
  else match vg h (s.ss.getD k (0,on0)).2 (Ou (s.ss.getD k (0,on0)).2 seq syms) with
   | .ok o'=>(⟨s.ss.set k ((s.ss.getD k (0,on0)).1,o'),s.made⟩,Ac 0 n (qH o'.done))
   | .error e=>(s,Ac e 0 (.l []))
 else (s,Ac 5 0 (.l []))
def H9 (s:Srv):Srv×T :=
 if s.ss.length=8∨s.made=1099511627776 then (s,Ac 2 0 (.l [])) else (⟨s.ss++[(s.made,on0)],s.made+1⟩,Ac 0 (s.made:Int) (.l []))
theorem Mh {h:Md} {c:Nat} (hk:rV h c):∀(w:List Int) {o o':On},vP h c o→vg h o w=.ok o'→vP h c o' := by
 intro w
 induction w with
 | nil=>intro o o' H q;cases q;exact H
 | cons x r ih =>
  intro o o' H q;unfold vg at q
  cases hp:zy h o x with
  | ok o2=>rw [hp] at q;exact ih (GN hk H hp).1 q
  | error e=>rw [hp] at q;cases q
theorem J4 {h:Md}:∀(w:List Int) {o:On} {e:Int},vg h o w=.error e→e=1∨e=11:=by
 intro w
 induction w with
 | nil=>intro o e q;cases q
 | cons x r ih =>
  intro o e q;unfold vg at q
  cases hp:zy h o x with
  | ok o2=>rw [hp] at q;exact ih q
  | error e'=>rw [hp] at q;cases q;exact D8 hp
theorem Nh {α:Type} (l:List α) (k i:Nat) (v d:α):(l.set k v).getD i d=if i=k∧k<l.length then v else l.getD i d:=by
 rw [WM,WM,YA]
 by_cases e:k=i
 ·subst e
  by_cases q:k<l.length
  ·simp [q]
  ·simp [q]
 ·rw [WZ e,WZ (by omega)]
theorem CA {h:Md} {c:Nat} {s:Srv} (hk:rV h c) (H:sj h c s) (n seq:Int) (syms:List Int) (k:Nat):sj h c (yD h s n seq syms k).1:=by
 unfold yD;split
 ·rename_i hy
  split
  ·exact H
  ·split
   ·rename_i o' hf
    have hg:∀i,((s.ss.set k ((s.ss.getD k (0,on0)).1,o')).getD i (0,on0)).1=(s.ss.getD i (0,on0)).1:=by
     intro i;rw [Nh];split
     ·rename_i q;rw [q.1]
     ·rfl
    refine ⟨by show (s.ss.set _ _).length≤8;rw [Yw];exact H.few,H.made,?_,?_,?_⟩
    ·intro i hi
     show ((s.ss.set _ _).getD i _).1<s.made
     rw [hg];exact H.num i (by simpa using hi)
    ·intro i hi
     show ((s.ss.set _ _).getD i _).1<((s.ss.set _ _).getD (i+1) _).1
     rw [hg,hg];exact H.up i (by simpa using hi)
    ·intro x hx
     rcases List.mem_or_eq_of_mem_set hx with q | q
     ·exact H.ok x q
     ·rw [q];exact Mh hk _ (H.ok _ (pN hy.1)) hf
   ·exact H
 ·exact H
theorem GF {h:Md} {c:Nat} {s:Srv} (H:sj h c s):sj h c (H9 s).1:=by
 have hf:=H.few;have hm:=H.made;unfold H9;split
 ·exact H
 ·rename_i q
  have hg:∀i,(s.ss++[(s.made,on0)]).getD i (0,on0)=if i<s.ss.length then s.ss.getD i (0,on0) else if i=s.ss.length then (s.made,on0) else (0,on0):=by
   intro i;rw [WM,WM,ZT]
   by_cases g:i<s.ss.length
   ·rw [WY g,WY g]
   ·rw [WZ g,WZ g]
    by_cases g2:i=s.ss.length
    ·rw [WY g2,g2,Yp];rfl
    ·rw [WZ g2]
     obtain ⟨d,hd⟩:∃d,i-s.ss.length=d+1:=⟨i-s.ss.length-1,by omega⟩;rw [hd];rfl
  refine ⟨by show (s.ss++_).length≤8;simp;omega,by show s.made+1≤_;omega,?_,?_,?_⟩
  ·intro i hi
   show ((s.ss++_).getD i _).1<s.made+1
   rw [hg];have cC:i<s.ss.length+1:=by simpa using hi
   by_cases g:i<s.ss.length
   ·rw [WY g];have:=H.num i g;omega
   ·rw [WZ g,WY (by omega)];show s.made<_;omega
  ·intro i hi
   show ((s.ss++_).getD i _).1<((s.ss++_).getD (i+1) _).1
   have cC:i+1<s.ss.length+1:=by simpa using hi
   rw [hg,hg,WY (by omega)]
   by_cases g:i+1<s.ss.length
   ·rw [WY g];exact H.up i g
   ·rw [WZ g,WY (by omega)];exact H.num i (by omega)
  ·intro x hx
   rcases W2.1 hx with q | q
   ·exact H.ok x q
   ·simp at q;rw [q];exact TC h c
end Go.Pl
namespace Go.Pq
open Go.Pl Go.Proofs
theorem Gc {h:Md} {c:Nat} {s:Srv} (hk:rV h c) (H:sj h c s):F 30 [.t 32 (tW h s)] (zo 1 32) [tW h s]:=by
 have hf:=H.few;have C_:room=140737488355328:=rfl;refine SD _ _ (fun i=>i.1=tW h s∧i.2.1=qT h (s.ss.take i.2.2)∧i.2.2≤s.ss.length) (fun i=>s.ss.length-i.2.2) ?_;rw [Lk,Ow,Fh];refine ⟨_,sL h c hk,⟨(tW h s,[],0),⟨rfl,rfl,WS _⟩,(by and_intros<;>first | exact trivial | rfl | (rw [pt (by omega)];rfl))⟩,fun _=>rfl,?_⟩;rintro ⟨t,l,k⟩ ⟨ht,hl,aR⟩;dsimp only at ht hl aR ⊢;subst ht hl;refine ⟨fun g=>?_,fun g=>?_⟩
 ·rw [pw] at g
  have b_:k<s.ss.length:=by omega
  have Hx:=H.ok _ (pN (d:=(0,on0)) b_)
  generalize hx:s.ss.getD k (0,on0)=x at Hx
  have hr:=Hx.Q8 hk;have z_:=hk.st;have h0:x.2.sc.length≤8∧x.2.tails.length≤8:=by
   rcases XT x.2.time with q | q
   ·obtain ⟨a,b,-⟩:=Hx.zero q;rw [a,b];exact ⟨WS _,WS _⟩
   ·obtain ⟨a,b⟩:=Hx.lens q;omega
  have cw:=DG (x.2.tails.map ry) (by rw [Xk];omega) (by
   intro r hr;obtain ⟨t,ht,rfl⟩:=Xw.1 hr
   have:=Hx.tlen t ht
   rw [qX];omega)
  rw [←LC] at cw;have l1:(List.take (qT h (s.ss.take k)).length (qT h (s.ss.take k))).length=k:=by rw [pQ,ql,Xg];omega
  rw [GY _ _ b_,hx,ye,K8];refine ⟨⟨by omega,by omega⟩,_,sL h c hk,_,vj x.2.sc (by omega) (fun q hq=>by have:=hr q hq;omega),_,cw,_,t7 (ry x.2.done) (by rw [qX];have:=Hx.dlen;omega),⟨by rw [l1];show (k+1)*304≤room;omega,by rw [l1];show k+1≤_;omega⟩,
   (tW h s,qT h (s.ss.take (k+1)),k+1),⟨rfl,rfl,b_⟩,by dsimp only;omega,?_⟩
  have e:List.take (qT h (s.ss.take k)).length (qT h (s.ss.take k))++[tB h x]=qT h (s.ss.take (k+1)):=by
   rw [pQ,W9 b_,←xr]
   have:s.ss[k]=x:=by rw [←hx,WM,WL b_];rfl
   rw [this];rfl
  rw [←e];exact (by and_intros<;>first | exact trivial | rfl | (rw [pt (by omega)];rfl))
 ·rw [pF] at g
  have:k=s.ss.length:=by omega
  subst this;rw [XM];exact ⟨a_,rfl,a_⟩
theorem KC {h:Md} {c:Nat} {s:Srv} (hk:rV h c) (H:sj h c s) (n seq:Int) (syms:List Int) (tok:T) :
  F 29 [.t 32 (tW h s),.t 35 (uR 1 n seq syms tok)] Z10 [tW h (H9 s).1,(H9 s).2]:=by
 have hf:=H.few;have hm:=H.made;have eS:(qT h s.ss).length≤2 ^ 30:=by rw [ql];omega
 have hb:uX Tryz.prog 58 ((uR 1 n seq syms tok).cell 0).int (some 95):=Uv;refine Qm _ _ _ _ ?_;refine ⟨_,uG (qT h s.ss) eS,?_⟩;refine ⟨hb,fun q=>?_,fun _=>?_⟩
 ·cases q
 unfold H9
 by_cases cu:s.ss.length=8∨s.made=1099511627776
 ·rw [WY cu]
  refine ⟨_,_,_,_,_,_,_,_,_,_,_,_,_,_,_,H8 h s.ss s.made _ cu,fun _=>⟨a_,rfl,rfl,a_⟩,fun q=>(by cases q)⟩
 ·rw [WZ cu]
  refine ⟨_,_,_,_,_,_,_,_,_,_,_,_,_,_,_,MG hk s.ss s.made hf hm _ cu,fun q=>(by cases q),fun _=>⟨a_,rfl,rfl,a_⟩⟩
theorem EV {h:Md} {c:Nat} {s:Srv} (hk:rV h c) (H:sj h c s) (n seq:Int) (syms:List Int) (tok:T) (k:Nat) (cF:Fnd s.ss n k) (cY:syms.length≤2 ^ 40) :
  F 29 [.t 32 (tW h s),.t 35 (uR 2 n seq syms tok)] Z10 [tW h (yD h s n seq syms k).1,(yD h s n seq syms k).2]:=by
 have hf:=H.few;have eS:(qT h s.ss).length≤2 ^ 30:=by rw [ql];omega
 have hb:uX Tryz.prog 58 ((uR 2 n seq syms tok).cell 0).int (some 96):=Uw;refine Qn _ _ _ _ ?_;refine ⟨_,uG (qT h s.ss) eS,?_⟩;refine ⟨hb,fun q=>?_,fun _=>?_⟩
 ·cases q
 unfold yD
 by_cases hy:k<s.ss.length∧((s.ss.getD k (0,on0)).1:Int)=n
 ·rw [WY hy]
  by_cases ho:seq<0∨((s.ss.getD k (0,on0)).2.time:Int)<seq
  ·rw [WY ho]
   exact ⟨_,_,_,_,_,_,_,_,_,_,_,_,_,_,_,EW h s.ss s.made 2 n seq syms tok k hf cF hy ho,fun _=>⟨a_,rfl,rfl,a_⟩,fun q=>(by cases q)⟩
  ·rw [WZ ho]
   have Hx:=H.ok _ (pN (d:=(0,on0)) hy.1)
   generalize hx:s.ss.getD k (0,on0)=x at *
   obtain ⟨num,o⟩:=x;have hn:(num:Int)=n:=hy.2;have dH:¬ (seq<0∨(o.time:Int)<seq):=ho
   show ∃y,_
   cases mb:vg h o (Ou o seq syms) with
   | ok o' =>
    have cf:=N2 hk s.ss s.made 2 n seq syms tok k hf cF hy.1 num o hx hn Hx dH cY (Ac 0 n (qH o'.done)) (.i .i64 0) (s.ss.set k (num,o')) (by rw [mb];exact ⟨rfl,rfl,rfl⟩);exact ⟨_,_,_,_,_,_,_,_,_,_,_,_,_,_,_,cf,fun q=>(by cases q),fun _=>⟨a_,rfl,rfl,a_⟩⟩
   | error e =>
    have he:=J4 _ mb;have cf:=N2 hk s.ss s.made 2 n seq syms tok k hf cF hy.1 num o hx hn Hx dH cY LP (.i .i64 e) s.ss (by rw [mb];exact ⟨rfl,rfl,rfl⟩);refine ⟨_,_,_,_,_,_,_,_,_,_,_,_,_,_,_,cf,fun _=>⟨a_,rfl,rfl,a_⟩,fun q=>?_⟩;rw [pC,sq] at q;omega
 ·rw [WZ hy]
  exact ⟨_,_,_,_,_,_,_,_,_,_,_,_,_,_,_,HJ h s.ss s.made 2 n seq syms tok k hf cF hy,fun _=>⟨a_,rfl,rfl,a_⟩,fun q=>(by cases q)⟩
theorem QM {h:Md} {c:Nat} (hk:rV h c):F 17 [.t 29 (rx h)] Z12 [tW h ⟨[],0⟩,.i .i64 0]:=by
 refine Sv _ _ _ ?_;rw [tS];exact ⟨_,_,Oe h c hk,fun q=>(by cases q),fun _=>⟨a_,rfl,rfl,a_⟩⟩
theorem wl {h:Md} {c:Nat} {s:Srv} (hk:rV h c) (H:sj h c s) (kind n seq:Int) (syms:List Int) (tok:T) (s':Srv) (e m:Int) (d t p q0 q1 q2:T)
  (hh:F 29 [.t 32 (tW h s),.t 35 (uR kind n seq syms tok)] Z10 [tW h s',.g [.i .i64 e,.i .i64 m,d,t,p,q0,q1,q2]]) :
  F 10 [.t 32 (tW h s),.t 35 (uR kind n seq syms tok)] Z11 [tW h s',.g [.i .i64 e,.i .i64 m,d,t,p,q0,q1,q2],.i .i64 0]:=by
 refine Sr _ _ _ _ _ ?_;rw [uu];exact ⟨_,NC hk H,fun q=>(by cases q),fun _=>⟨_,Gc hk H,_,_,hh,a_,rfl,rfl,rfl,a_⟩⟩
end Go.Pq
namespace Go.Pl
def Uh (n:Int) (p:T) (q:Rat):T:=.g [.i .i64 0,.i .i64 n,.l [],.l [],p,(qr q).cell 0,(qr q).cell 1,(qr q).cell 2]
def OY (h:Md) (s:Srv) (n:Int) (k:Nat):Srv×T :=
 if k<s.ss.length∧((s.ss.getD k (0,on0)).1:Int)=n then
  if 0<(Aw h (s.ss.getD k (0,on0)).2).1 then (⟨s.ss.eraseIdx k,s.made⟩,Uh n (qH ((s.ss.getD k (0,on0)).2.done++(Aw h (s.ss.getD k (0,on0)).2).2)) (Aw h (s.ss.getD k (0,on0)).2).1)
  else (s,Ac 11 0 (.l []))
 else (s,Ac 5 0 (.l []))
theorem yC {α:Type} (l:List α) (k i:Nat) (d:α):(l.eraseIdx k).getD i d=if i<k then l.getD i d else l.getD (i+1) d:=by
 rw [WM,ZK];split<;>rw [WM]
theorem Gh {h:Md} {c:Nat} {s:Srv} (H:sj h c s) {k:Nat} (hk:k<s.ss.length):sj h c ⟨s.ss.eraseIdx k,s.made⟩:=by
 have hl:(s.ss.eraseIdx k).length=s.ss.length-1:=List.length_eraseIdx_of_lt hk;have hf:=H.few;refine ⟨by show (s.ss.eraseIdx k).length≤8;omega,H.made,?_,?_,?_⟩
 ·intro i hi
  show ((s.ss.eraseIdx k).getD i _).1<s.made
  have cC:i<s.ss.length-1:=by rw [←hl];exact hi
  rw [yC];split
  ·exact H.num i (by omega)
  ·exact H.num (i+1) (by omega)
 ·intro i hi
  show ((s.ss.eraseIdx k).getD i _).1<((s.ss.eraseIdx k).getD (i+1) _).1
  have cC:i+1<s.ss.length-1:=by rw [←hl];exact hi
  rw [yC,yC];split
  ·split
   ·exact H.up i (by omega)
   ·exact H.mono (by omega) (by omega)
  ·rw [WZ (by omega)];exact H.up (i+1) (by omega)
 ·intro x hx
  exact H.ok x (List.mem_of_mem_eraseIdx hx)
theorem OZ {h:Md} {c:Nat} {s:Srv} (H:sj h c s) (n:Int) (k:Nat):sj h c (OY h s n k).1:=by
 unfold OY;split
 ·rename_i q
  split
  ·exact Gh H q.1
  ·exact H
 ·exact H
theorem Ca (h:Md) (l:List (Nat×On)) (k:Nat):(qT h l).eraseIdx k=qT h (l.eraseIdx k):=by
 unfold qT
 induction l generalizing k with
 | nil=>rfl
 | cons a r ih =>
  cases k with
  | zero=>rfl
  | succ k=>simp only [XP,List.eraseIdx_cons_succ,ih]
end Go.Pl
namespace Go.Pq
open Go.Pl Go.Proofs
theorem JP (h:Md) (ss:List (Nat×On)) (made:Nat) (kind n seq:Int) (syms:List Int) (tok:T) (k:Nat) (hl:ss.length≤8) (hf:Fnd ss n k) (aA:¬ (k<ss.length∧((ss.getD k (0,on0)).1:Int)=n)) :
  F 99 [.box 111 13 [.t 2 (.i .i64 (h.sym:Int)),.t 2 (.i .i64 (h.st:Int)),.t 4 (.b (decide (h.empty.num<0))),.t 22 (lim (Lb.nat h.empty.num.natAbs)),.t 22 (ux h.empty.den),.t 25 (pO h.init),.t 26 (p9 h.trans),.t 25 (pO h.stop),.t 26 (p9 h.emit),.t 27 (rP (List.replicate h.st false)),.t 28 (qH h.ties),.own 31 0 (qT h ss),.t 2 (.i .i64 (made:Int))],.t 35 (uR kind n seq syms tok)] Z13 [LP,.i .i64 5,.i .i64 (h.sym:Int),.i .i64 (h.st:Int),.b (decide (h.empty.num<0)),lim (Lb.nat h.empty.num.natAbs),ux h.empty.den,pO h.init,p9 h.trans,pO h.stop,p9 h.emit,rP (List.replicate h.st false),qH h.ties,.l (qT h ss),.i .i64 (made:Int)]:=by
 refine J3 _ _ _ _ _ _ _ _ _ _ _ _ _ _ _ _ _ _ _ _ _ _ _ _ _ _ _ _ _ ?_;refine ⟨_,_,_,_,_,_,_,_,_,_,_,_,_,_,_,xG h ss made n k (by omega) hf,fun _=>⟨⟨a_,a_⟩,rfl,rfl,rfl,rfl,rfl,rfl,rfl,rfl,rfl,rfl,rfl,rfl,rfl,rfl,rfl,a_⟩,fun q=>?_⟩
 exfalso
 rw [Xh aA] at q;cases q
theorem UD {h:Md} {c:Nat} (hk:rV h c) (ss:List (Nat×On)) (made:Nat) (kind n seq:Int) (syms:List Int) (tok:T) (k:Nat) (hl:ss.length≤8) (hf:Fnd ss n k) (bh:k<ss.length) (num:Nat) (o:On) (hx:ss.getD k (0,on0)=(num,o)) (hn:(num:Int)=n)
  (H:vP h c o) (hp:0<(Aw h o).1) :
  F 99 [.box 111 13 [.t 2 (.i .i64 (h.sym:Int)),.t 2 (.i .i64 (h.st:Int)),.t 4 (.b (decide (h.empty.num<0))),.t 22 (lim (Lb.nat h.empty.num.natAbs)),.t 22 (ux h.empty.den),.t 25 (pO h.init),.t 26 (p9 h.trans),.t 25 (pO h.stop),.t 26 (p9 h.emit),.t 27 (rP (List.replicate h.st false)),.t 28 (qH h.ties),.own 31 0 (qT h ss),.t 2 (.i .i64 (made:Int))],.t 35 (uR kind n seq syms tok)] Z13 [Uh n (qH (o.done++(Aw h o).2)) (Aw h o).1,.i .i64 0,.i .i64 (h.sym:Int),.i .i64 (h.st:Int),.b (decide (h.empty.num<0)),lim (Lb.nat h.empty.num.natAbs),ux h.empty.den,pO h.init,p9 h.trans,pO h.stop,p9 h.emit,rP (List.replicate h.st false),qH h.ties,.l (qT h (ss.eraseIdx k)),.i .i64 (made:Int)]:=by
 have a8:k<ss.length∧((ss.getD k (0,on0)).1:Int)=n:=⟨bh,by rw [hx];exact hn⟩;have ar:(T.l (qT h ss)).list.getD (0+(T.i .i64 (k:Int)).int.toNat) T.u=tB h (num,o):=by
  show (qT h ss).getD (0+((k:Nat):Int).toNat) T.u=_
  rw [WV,WP,uS h ss a8.1,hx]
 have i_:(T.l (qT h ss)).list.length=ss.length:=ql h ss;have dq:List.take ss.length (T.l (qT h ss)).list=qT h ss:=WX (Nat.le_of_eq (ql h ss));have fin:=Gk hk H;rw [WY hp] at fin;have del:=Ge (qT h ss) k (by rw [ql];exact bh) (by rw [ql];exact hl);rw [Ca] at del;refine J3 _ _ _ _ _ _ _ _ _ _ _ _ _ _ _ _ _ _ _ _ _ _ _ _ _ _ _ _ _ ?_;refine ⟨_,_,_,_,_,_,_,_,_,_,_,_,_,_,_,xG h ss made n k (by omega) hf,fun q=>?_,fun q=>?_⟩
 ·exfalso
  rw [Xq a8] at q;cases q
 ·rw [ar,show (tB h (num,o)).part 1 15=onT h o from rfl,i_,dq,pC,pt (by omega),show ((k:Int)+1)=((k+1:Nat):Int) from by omega]
  refine ⟨⟨by omega,by omega⟩,_,_,_,fin,fun g=>(by cases g),fun _=>⟨_,del,⟨a_,a_⟩,rfl,rfl,rfl,rfl,rfl,rfl,rfl,rfl,rfl,rfl,rfl,rfl,rfl,rfl,rfl,a_⟩⟩
theorem JN {h:Md} {c:Nat} (hk:rV h c) (ss:List (Nat×On)) (made:Nat) (kind n seq:Int) (syms:List Int) (tok:T) (k:Nat) (hl:ss.length≤8) (hf:Fnd ss n k) (bh:k<ss.length) (num:Nat) (o:On) (hx:ss.getD k (0,on0)=(num,o)) (hn:(num:Int)=n)
  (H:vP h c o) (hp:¬ 0<(Aw h o).1) :
  F 99 [.box 111 13 [.t 2 (.i .i64 (h.sym:Int)),.t 2 (.i .i64 (h.st:Int)),.t 4 (.b (decide (h.empty.num<0))),.t 22 (lim (Lb.nat h.empty.num.natAbs)),.t 22 (ux h.empty.den),.t 25 (pO h.init),.t 26 (p9 h.trans),.t 25 (pO h.stop),.t 26 (p9 h.emit),.t 27 (rP (List.replicate h.st false)),.t 28 (qH h.ties),.own 31 0 (qT h ss),.t 2 (.i .i64 (made:Int))],.t 35 (uR kind n seq syms tok)] Z13 [LP,.i .i64 11,.i .i64 (h.sym:Int),.i .i64 (h.st:Int),.b (decide (h.empty.num<0)),lim (Lb.nat h.empty.num.natAbs),ux h.empty.den,pO h.init,p9 h.trans,pO h.stop,p9 h.emit,rP (List.replicate h.st false),qH h.ties,.l (qT h ss),.i .i64 (made:Int)]:=by
 have a8:k<ss.length∧((ss.getD k (0,on0)).1:Int)=n:=⟨bh,by rw [hx];exact hn⟩;have ar:(T.l (qT h ss)).list.getD (0+(T.i .i64 (k:Int)).int.toNat) T.u=tB h (num,o):=by
  show (qT h ss).getD (0+((k:Nat):Int).toNat) T.u=_
  rw [WV,WP,uS h ss a8.1,hx]
 have i_:(T.l (qT h ss)).list.length=ss.length:=ql h ss;have fin:=Gk hk H;rw [WZ hp] at fin;refine J3 _ _ _ _ _ _ _ _ _ _ _ _ _ _ _ _ _ _ _ _ _ _ _ _ _ _ _ _ _ ?_;refine ⟨_,_,_,_,_,_,_,_,_,_,_,_,_,_,_,xG h ss made n k (by omega) hf,fun q=>?_,fun q=>?_⟩
 ·exfalso
  rw [Xq a8] at q;cases q
 ·rw [ar,show (tB h (num,o)).part 1 15=onT h o from rfl,i_,pC]
  exact ⟨⟨by omega,by omega⟩,_,_,_,fin,fun _=>⟨⟨a_,a_⟩,rfl,rfl,rfl,rfl,rfl,rfl,rfl,rfl,rfl,rfl,rfl,rfl,rfl,rfl,rfl,a_⟩,fun g=>(by cases g)⟩
theorem So {h:Md} {c:Nat} {s:Srv} (hk:rV h c) (H:sj h c s) (n seq:Int) (syms:List Int) (tok:T) (k:Nat) (cF:Fnd s.ss n k) :
  F 29 [.t 32 (tW h s),.t 35 (uR 5 n seq syms tok)] Z10 [tW h (OY h s n k).1,(OY h s n k).2]:=by
 have hf:=H.few;have eS:(qT h s.ss).length≤2 ^ 30:=by rw [ql];omega
 have hb:uX Tryz.prog 58 ((uR 5 n seq syms tok).cell 0).int (some 99):=Uy;refine Qp _ _ _ _ ?_;refine ⟨_,uG (qT h s.ss) eS,?_⟩;refine ⟨hb,fun q=>?_,fun _=>?_⟩
 ·cases q
 unfold OY
 by_cases hy:k<s.ss.length∧((s.ss.getD k (0,on0)).1:Int)=n
 ·rw [WY hy]
  have Hx:=H.ok _ (pN (d:=(0,on0)) hy.1)
  generalize hx:s.ss.getD k (0,on0)=x at *
  obtain ⟨num,o⟩:=x;have hn:(num:Int)=n:=hy.2;dsimp only at Hx ⊢
  by_cases hp:0<(Aw h o).1
  ·rw [WY hp]
   exact ⟨_,_,_,_,_,_,_,_,_,_,_,_,_,_,_,UD hk s.ss s.made 5 n seq syms tok k hf cF hy.1 num o hx hn Hx hp,fun q=>(by cases q),fun _=>⟨a_,rfl,rfl,a_⟩⟩
  ·rw [WZ hp]
   exact ⟨_,_,_,_,_,_,_,_,_,_,_,_,_,_,_,JN hk s.ss s.made 5 n seq syms tok k hf cF hy.1 num o hx hn Hx hp,fun _=>⟨a_,rfl,rfl,a_⟩,fun q=>(by cases q)⟩
 ·rw [WZ hy]
  exact ⟨_,_,_,_,_,_,_,_,_,_,_,_,_,_,_,JP h s.ss s.made 5 n seq syms tok k hf cF hy,fun _=>⟨a_,rfl,rfl,a_⟩,fun q=>(by cases q)⟩
end Go.Pq
namespace Go.Pl
def xy (x:Nat×On):Tok:=⟨(x.1:Int),(x.2.time:Int),x.2.sc.map x7,x.2.tails.map fun l=>l.map fun s:Nat=>(s:Int),x.2.done.map fun s:Nat=>(s:Int)⟩
theorem N4 (m:List (List Nat)):iwT (m.map fun l=>l.map fun s:Nat=>(s:Int))=uv m:=by
 unfold iwT iwL uv rm;rw [Yo]
 congr 1
 apply Yu;intro l _;exact t8 l
theorem Hd (h:Md) (x:Nat×On):zq h (xy x)=tB h x:=by
 unfold zq xy A7 tB;dsimp only;rw [FD,N4,t8]
theorem RE (h:Md) (x:Nat×On):FQ h (xy x)=onT h x.2:=by
 unfold FQ xy sR onT;dsimp only;rw [FD,N4,t8]
def Me (n:Int) (tok:List UInt8):T:=T.g [.i .i64 0,.i .i64 n,.l [],se tok,.l [],.b false,.l [],.l []]
theorem vP.Ts {h:Md} {c:Nat} {o:On} (hk:rV h c) (H:vP h c o):o.sc.length≤8∧o.tails.length≤8:=by
 have z_:=hk.st
 rcases XT o.time with q | q
 ·obtain ⟨a,b,-⟩:=H.zero q;rw [a,b];exact ⟨WS _,WS _⟩
 ·obtain ⟨a,b⟩:=H.lens q;omega
theorem Lt {h:Md} {c:Nat} {x:Nat×On} (hk:rV h c) (H:vP h c x.2) (hn:x.1≤1099511627776):Hj (xy x):=by
 have z_:=hk.st;obtain ⟨l1,l2⟩:=H.Ts hk;have ht:=H.time;have hr:=H.Q8 hk;refine ⟨⟨by show _≤(x.1:Int);omega,by show (x.1:Int)≤_;omega⟩,⟨by show _≤(x.2.time:Int);omega,by show (x.2.time:Int)≤_;omega⟩,⟨by show (List.map _ _).length≤_;rw [Xk];omega,?_⟩,⟨by show (List.map _ _).length≤_;rw [Xk];omega,?_⟩,⟨by show (List.map _ _).length≤_;rw [Xk];have:=H.dlen;omega,?_⟩⟩
 ·intro q hq
  obtain ⟨z,hz,rfl⟩:=Xw.1 hq;have h1:=hr z hz;have h2:=Ar z.den;unfold rl at h1
  show (Lb.nat z.num.natAbs).length≤_∧(dl z.den).length≤_
  omega
 ·intro l hl
  obtain ⟨z,hz,rfl⟩:=Xw.1 hl;have h1:=H.tlen z hz;refine ⟨by rw [Xk];omega,fun n hn=>?_⟩;obtain ⟨s,hs,rfl⟩:=Xw.1 hn
  have:=H.tst z hz s hs
  exact ⟨by omega,by omega⟩
 ·intro n hn
  obtain ⟨s,hs,rfl⟩:=Xw.1 hn
  have:=H.dst s hs
  exact ⟨by omega,by omega⟩
theorem Hc {h:Md} {c:Nat} {x:Nat×On} (hk:rV h c) (H:vP h c x.2):(uj h (xy x).num (xy x).t (xy x).sc (xy x).tails (xy x).done).length≤2 ^ 28:=by
 obtain ⟨l1,l2⟩:=H.Ts hk;have h4:=DW hk;have a1:=x6 x.2.sc (2 ^ 19) (H.Q8 hk);have c1:x.2.sc.length*(24+16*2 ^ 19)≤8*(24+16*2 ^ 19):=Xb _ l1;have a2:=yG qp (8+8*256) (x.2.tails.map fun l=>l.map fun s:Nat=>(s:Int)) (by
  intro l hl;obtain ⟨z,hz,rfl⟩:=Xw.1 hl;have h1:=H.tlen z hz;rw [uP,Xk];omega)
 rw [Xk] at a2;have c2:x.2.tails.length*(8+8*256)≤8*(8+8*256):=Xb _ l2;have hd:=H.dlen;have e1:(uh (xy x).sc)=rz x.2.sc:=rfl;unfold uj sU Ex;rw [e1]
 show (qk _++(qk _++(qp (x.2.done.map fun s:Nat=>(s:Int))++(rz x.2.sc++(qk _++(x.2.tails.map fun l=>l.map fun s:Nat=>(s:Int)).flatMap qp))))++so h).length≤_
 simp only [WN,pH,uP,Xk];omega
theorem Et {h:Md} {c:Nat} {x:Nat×On} (hk:rV h c) (H:vP h c x.2):(uz h (xy x)).length≤2 ^ 29:=by
 have:=Hc hk H
 rw [vI,qG];unfold uj at this;omega
end Go.Pl
namespace Go.Pq
open Go.Pl Go.Proofs
abbrev Uf (h:Md) (ss:List (Nat×On)) (made:Nat):Arg:=.box 111 13 [.t 2 (.i .i64 (h.sym:Int)),.t 2 (.i .i64 (h.st:Int)),.t 4 (.b (decide (h.empty.num<0))),.t 22 (lim (Lb.nat h.empty.num.natAbs)),.t 22 (ux h.empty.den),.t 25 (pO h.init),.t 26 (p9 h.trans),.t 25 (pO h.stop),.t 26 (p9 h.emit),.t 27 (rP (List.replicate h.st false)),.t 28 (qH h.ties),.own 31 0 (qT h ss),.t 2 (.i .i64 (made:Int))]
abbrev dSh:Shape:=Z13
abbrev Ug (y0 y1:T) (h:Md) (ss:List (Nat×On)) (made:Nat):List T:=[y0,y1,.i .i64 (h.sym:Int),.i .i64 (h.st:Int),.b (decide (h.empty.num<0)),lim (Lb.nat h.empty.num.natAbs),ux h.empty.den,pO h.init,p9 h.trans,pO h.stop,p9 h.emit,rP (List.replicate h.st false),qH h.ties,.l (qT h ss),.i .i64 (made:Int)]
theorem JL (h:Md) (ss:List (Nat×On)) (made:Nat) (kind n seq:Int) (syms:List Int) (tok:T) (k:Nat) (hl:ss.length≤8) (hf:Fnd ss n k) (aA:¬ (k<ss.length∧((ss.getD k (0,on0)).1:Int)=n)) :
  F 97 [Uf h ss made,.t 35 (uR kind n seq syms tok)] dSh (Ug LP (.i .i64 5) h ss made):=by
 refine NY _ _ _ _ _ _ _ _ _ _ _ _ _ _ _ _ _ _ _ _ _ _ _ _ _ _ _ _ _ ?_;refine ⟨_,_,_,_,_,_,_,_,_,_,_,_,_,_,_,xG h ss made n k (by omega) hf,fun _=>⟨⟨a_,a_⟩,rfl,rfl,rfl,rfl,rfl,rfl,rfl,rfl,rfl,rfl,rfl,rfl,rfl,rfl,rfl,a_⟩,fun q=>?_⟩
 exfalso
 rw [Xh aA] at q;cases q
theorem UC {h:Md} {c:Nat} (hk:rV h c) (ss:List (Nat×On)) (made:Nat) (kind n seq:Int) (syms:List Int) (tok:T) (k:Nat) (hl:ss.length≤8) (hf:Fnd ss n k) (bh:k<ss.length) (x:Nat×On) (hx:ss.getD k (0,on0)=x) (hn:(x.1:Int)=n)
  (H:vP h c x.2) :
  F 97 [Uf h ss made,.t 35 (uR kind n seq syms tok)] dSh (Ug (Me n (uz h (xy x))) (.i .i64 0) h (ss.eraseIdx k) made):=by
 have a8:k<ss.length∧((ss.getD k (0,on0)).1:Int)=n:=⟨bh,by rw [hx];exact hn⟩;have ar:(T.l (qT h ss)).list.getD (0+(T.i .i64 (k:Int)).int.toNat) T.u=tB h x:=by
  show (qT h ss).getD (0+((k:Nat):Int).toNat) T.u=_
  rw [WV,WP,uS h ss a8.1,hx]
 have i_:(T.l (qT h ss)).list.length=ss.length:=ql h ss;have dq:List.take ss.length (T.l (qT h ss)).list=qT h ss:=WX (Nat.le_of_eq (ql h ss));have hb:=Hc hk H;have fs:F 134 [.t 62 (tB h x)] (zo 1 34) [se (uz h (xy x))]:=by
  have:=Ot hk (xy x).num (xy x).t (xy x).sc (xy x).tails (xy x).done (by omega)
  rw [←Hd h x];unfold zq uz;exact this
 have del:=Ge (qT h ss) k (by rw [ql];exact bh) (by rw [ql];exact hl);rw [Ca] at del;refine NY _ _ _ _ _ _ _ _ _ _ _ _ _ _ _ _ _ _ _ _ _ _ _ _ _ _ _ _ _ ?_;refine ⟨_,_,_,_,_,_,_,_,_,_,_,_,_,_,_,xG h ss made n k (by omega) hf,fun q=>?_,fun q=>?_⟩
 ·exfalso
  rw [Xq a8] at q;cases q
 ·rw [ar,ye,i_,dq,pC,pt (by omega),show ((k:Int)+1)=((k+1:Nat):Int) from by omega]
  exact ⟨⟨by omega,by omega⟩,_,fs,_,del,⟨a_,a_⟩,rfl,rfl,rfl,rfl,rfl,rfl,rfl,rfl,rfl,rfl,rfl,rfl,rfl,rfl,rfl,a_⟩
theorem FG {h:Md} {c:Nat} (hk:rV h c) (ss:List (Nat×On)) (made:Nat) (kind n seq:Int) (syms:List Int) (l:List UInt8) (hl:l.length≤2 ^ 30) (c_:∀v,th h l v=false) :
  F 98 [Uf h ss made,.t 35 (uR kind n seq syms (se l))] dSh (Ug LP (.i .i64 20) h ss made):=by
 obtain ⟨v,hv⟩:=ID hk l hl;have c1:=Hg hk l hl v hv;rw [c_ v,WZ (by decide)] at c1;refine NZ _ _ _ _ _ _ _ _ _ _ _ _ _ _ _ _ _ _ _ _ _ _ _ _ _ _ _ _ _ ?_;exact ⟨_,_,c1,fun _=>⟨⟨a_,a_⟩,rfl,rfl,rfl,rfl,rfl,rfl,rfl,rfl,rfl,rfl,rfl,rfl,rfl,rfl,rfl,a_⟩,fun q=>(by cases q)⟩
theorem zU (a b:List Rat) (ha:a.length≤2 ^ 40) (hb:b.length≤2 ^ 40) (h1:∀q∈a,rl q≤2 ^ 30) (h2:∀q∈b,rl q≤2 ^ 30):F 51 [.t 25 (pO a),.t 25 (pO b)] (zo 2 4) [.b (decide (a=b))]:=by
 refine SL _ _ _ (fun k=>k≤a.length∧a.take k=b.take k) (fun k=>a.length-k) ?_;rw [qj,qj];refine ⟨fun q=>?_,fun q=>⟨⟨0,⟨WS _,rfl⟩,(by and_intros<;>first | exact trivial | rfl | (rw [pt (by omega)];rfl))⟩,fun _=>rfl,?_⟩⟩
 ·rw [rr] at q
  rw [Xh (fun e=>q (by rw [e]))];exact ⟨a_,rfl,a_⟩
 ·rw [sq] at q
  rintro k ⟨hk,he⟩;refine ⟨fun g=>?_,fun g=>?_⟩
  ·rw [pw] at g
   have dm:k<a.length:=by omega
   have cX:k<b.length:=by omega
   rw [sQ a dm,sQ b cX,qu,qu];refine ⟨⟨by omega,by omega⟩,⟨by omega,by omega⟩,_,K4 _ _ (by have:=h1 _ (pN (d:=(0:Rat)) dm);omega) (by have:=h2 _ (pN (d:=(0:Rat)) cX);omega),fun w=>?_,fun w=>?_⟩
   ·have w:(!decide (a.getD k 0=b.getD k 0))=true:=w
    rw [YX,X0] at w;rw [Xh (fun e=>w (by rw [e]))];exact ⟨a_,rfl,a_⟩
   ·have w:(!decide (a.getD k 0=b.getD k 0))=false:=w
    rw [Zz,Xo] at w;refine ⟨k+1,⟨dm,?_⟩,by omega,(by and_intros<;>first | exact trivial | rfl | (rw [pt (by omega)];rfl))⟩;rw [W9 dm,W9 cX,he];rw [WM,WM,WL dm,WL cX] at w;simp only [XF] at w;rw [w]
  ·rw [pF] at g
   rw [WX (by omega),WX (by omega)] at he;rw [Xq he];exact ⟨a_,rfl,a_⟩
theorem Bp {α:Type} {a b:List α} {k:Nat} {d:α} (ha:k<a.length) (hb:k<b.length) (he:a.take k=b.take k) (h:a.getD k d=b.getD k d):a.take (k+1)=b.take (k+1):=by
 rw [WM,WM,WL ha,WL hb] at h;simp only [XF] at h;rw [W9 ha,W9 hb,he,h]
theorem M9 {h g:Md} {c:Nat} (hh:rV h c) (hg:rV g c) (v:Bool) (hv:v=true↔h=g):F 24 [.t 29 (rx h),.t 29 (rx g)] (zo 2 4) [.b v]:=by
 have no:h≠g→v=false:=fun q=>by
  cases v with
  | false=>rfl
  | true=>exact absurd (hv.1 rfl) q
 have s1:=hh.st;have s2:=hg.st;have cc:=hh.cc;have d0:∀m:Md,((rx m).cell 0).int=(m.sym:Int):=fun _=>rfl;have d1:∀m:Md,((rx m).cell 1).int=(m.st:Int):=fun _=>rfl;have d5:∀m:Md,(rx m).cell 5=pO m.init:=fun _=>rfl;have d6:∀m:Md,(rx m).cell 6=p9 m.trans:=fun _=>rfl;have d7:∀m:Md,(rx m).cell 7=pO m.stop:=fun _=>rfl;have d8:∀m:Md,(rx m).cell 8=p9 m.emit:=fun _=>rfl;have d9:∀m:Md,(rx m).cell 9=rP (List.replicate m.st false):=fun _=>rfl;have d10:∀m:Md,(rx m).cell 10=qH m.ties:=fun _=>rfl;have de:∀m:Md,T.g [(rx m).cell 2,(rx m).cell 3,(rx m).cell 4]=qr m.empty:=fun _=>rfl;have lb:∀n,lenOf (rP (List.replicate n false)).list=(n:Int):=fun n=>by rw [uE,AE,Xm]
 have lr:∀m:List (List Rat),lenOf (p9 m).list=(m.length:Int):=fun m=>by rw [rt,vn]
 have ra:∀(m:List (List Rat)) {i:Nat},i<m.length→(p9 m).list.getD (i:Int).toNat T.u=pO (m.getD i []):=fun m i hi=>by rw [WP,rt,rM m hi]
 have ba:∀n {i:Nat},i<n→(rP (List.replicate n false)).list.getD (i:Int).toNat T.u=.b false:=fun n i hi=>by
  rw [WP,uE,wo _ (by simpa using hi)];simp [WM,hi]
 have f0:=K4 h.empty g.empty (by have:=hh.q0.1;omega) (by have:=hg.q0.1;omega);have f1:=zU h.init g.init (by rw [hh.init];omega) (by rw [hg.init];omega) (fun q hq=>by have:=(hh.q1 q hq).1;omega) (fun q hq=>by have:=(hg.q1 q hq).1;omega);have f2:=zU h.stop g.stop (by rw [hh.stop];omega) (by rw [hg.stop];omega) (fun q hq=>by have:=(hh.q3 q hq).1;omega) (fun q hq=>by have:=(hg.q3 q hq).1;omega);refine SA _ _ _ (fun k=>k≤h.st∧h.trans.take k=g.trans.take k) (fun k=>h.st-k) (fun k=>k≤h.st∧h.trans=g.trans∧h.emit.take k=g.emit.take k) (fun k=>h.st-k) (fun k=>k≤h.st∧h.trans=g.trans∧h.emit=g.emit) (fun k=>h.st-k) (fun k=>k≤h.st∧h.trans=g.trans∧h.emit=g.emit∧h.ties.take k=g.ties.take k) (fun k=>h.st-k) ?_;rw [de,de,d0,d0,d1,d1,d5,d5,d6,d6,d7,d7,d8,d8,d9,d9,d10,d10,lr,lr,lr,lr,lb,lb,qZ,qZ,hh.trans,hg.trans,hh.emit,hg.emit,hh.ties,hg.ties];refine ⟨_,fun _=>f0,_,fun _=>f1,_,fun _=>f2,fun q=>?_,fun q=>?_⟩
 ·have:h≠g:=by
   rintro rfl;simp only [tQ,Yv,rr,vL,YX,X0] at q;simp at q
  rw [no this];exact ⟨a_,rfl,a_⟩
 ·simp only [tQ,XX,sq,vL,Zz,Xo] at q
  have e0:h.sym=g.sym:=by omega
  have e1:h.st=g.st:=by omega
  have e2:h.empty=g.empty:=by simp only [q]
  have e3:h.init=g.init:=by simp only [q]
  have e4:h.stop=g.stop:=by simp only [q]
  clear q f0 f1 f2;refine ⟨⟨0,⟨WS _,rfl⟩,(by and_intros<;>first | exact trivial | rfl | (rw [pt (by omega)];rfl))⟩,fun _=>rfl,?_⟩;rintro k ⟨hk,ht⟩;refine ⟨fun q=>?_,fun q=>?_⟩
  ·rw [pw] at q
   have k1:k<h.trans.length:=by rw [hh.trans];omega
   have k2:k<g.trans.length:=by rw [hg.trans];omega
   have m1:=pN (d:=([]:List Rat)) k1;have m2:=pN (d:=([]:List Rat)) k2;rw [ra _ k1,ra _ k2,qS,qS];refine ⟨⟨by omega,by omega⟩,⟨by omega,by omega⟩,_,zU _ _ (by rw [hh.rows _ m1];omega) (by rw [hg.rows _ m2];omega) (fun x hx=>by have:=(hh.q2 _ m1 x hx).1;omega) (fun x hx=>by have:=(hg.q2 _ m2 x hx).1;omega),fun w=>?_,fun w=>?_⟩
   ·have w:(!decide (h.trans.getD k []=g.trans.getD k []))=true:=w
    rw [YX,X0] at w;rw [no (fun e=>w (by rw [e]))];exact ⟨a_,rfl,a_⟩
   ·have w:(!decide (h.trans.getD k []=g.trans.getD k []))=false:=w
    rw [Zz,Xo] at w;exact ⟨k+1,⟨by omega,Bp k1 k2 ht w⟩,by omega,(by and_intros<;>first | exact trivial | rfl | (rw [pt (by omega)];rfl))⟩
  ·rw [pF] at q
   rw [WX (by rw [hh.trans];omega),WX (by rw [hg.trans];omega)] at ht;refine ⟨⟨0,⟨WS _,ht,rfl⟩,(by and_intros<;>first | exact trivial | rfl | (rw [pt (by omega)];rfl))⟩,fun _=>rfl,?_⟩;clear q hk;rintro k ⟨hk,-,he⟩;refine ⟨fun q=>?_,fun q=>?_⟩
   ·rw [pw] at q
    have k1:k<h.emit.length:=by rw [hh.emit];omega
    have k2:k<g.emit.length:=by rw [hg.emit];omega
    have m1:=pN (d:=([]:List Rat)) k1;have m2:=pN (d:=([]:List Rat)) k2;have y1:=hh.sym;have y2:=hg.sym;rw [ra _ k1,ra _ k2,qS,qS];refine ⟨⟨by omega,by omega⟩,⟨by omega,by omega⟩,_,zU _ _ (by rw [hh.shows _ m1];omega) (by rw [hg.shows _ m2];omega) (fun x hx=>by have:=(hh.q4 _ m1 x hx).1;omega) (fun x hx=>by have:=(hg.q4 _ m2 x hx).1;omega),fun w=>?_,fun w=>?_⟩
    ·have w:(!decide (h.emit.getD k []=g.emit.getD k []))=true:=w
     rw [YX,X0] at w;rw [no (fun e=>w (by rw [e]))];exact ⟨a_,rfl,a_⟩
    ·have w:(!decide (h.emit.getD k []=g.emit.getD k []))=false:=w
     rw [Zz,Xo] at w;exact ⟨k+1,⟨by omega,ht,Bp k1 k2 he w⟩,by omega,(by and_intros<;>first | exact trivial | rfl | (rw [pt (by omega)];rfl))⟩
   ·rw [pF] at q
    rw [WX (by rw [hh.emit];omega),WX (by rw [hg.emit];omega)] at he;refine ⟨⟨0,⟨WS _,ht,he⟩,(by and_intros<;>first | exact trivial | rfl | (rw [pt (by omega)];rfl))⟩,fun _=>rfl,?_⟩;clear q hk;rintro k ⟨hk,-,-⟩;refine ⟨fun q=>?_,fun q=>?_⟩
    ·rw [pw] at q
     rw [ba h.st (by omega),ba g.st (by omega)];exact ⟨⟨by omega,by omega⟩,⟨by omega,by omega⟩,fun w=>(by cases w),fun _=>⟨k+1,⟨by omega,ht,he⟩,by omega,(by and_intros<;>first | exact trivial | rfl | (rw [pt (by omega)];rfl))⟩⟩
    ·refine ⟨⟨0,⟨WS _,ht,he,rfl⟩,(by and_intros<;>first | exact trivial | rfl | (rw [pt (by omega)];rfl))⟩,fun _=>rfl,?_⟩
     clear q hk;rintro k ⟨hk,-,-,kg⟩;refine ⟨fun q=>?_,fun q=>?_⟩
     ·rw [pw] at q
      have k1:k<h.ties.length:=by rw [hh.ties];omega
      have k2:k<g.ties.length:=by rw [hg.ties];omega
      rw [sd _ k1,sd _ k2,r9,r9,pC,pC];refine ⟨⟨by omega,by omega⟩,⟨by omega,by omega⟩,fun w=>?_,fun w=>?_⟩
      ·rw [rr] at w
       rw [no (fun e=>w (by rw [e]))];exact ⟨a_,rfl,a_⟩
      ·rw [sq] at w
       exact ⟨k+1,⟨by omega,ht,he,Bp (d:=0) k1 k2 kg (by omega)⟩,by omega,(by and_intros<;>first | exact trivial | rfl | (rw [pt (by omega)];rfl))⟩
     ·rw [pF] at q
      rw [WX (by rw [hh.ties];omega),WX (by rw [hg.ties];omega)] at kg
      have:h=g:=by
       cases h;cases g;dsimp only at *;rw [e0,e1,e2,e3,e4,ht,he,kg]
      rw [hv.2 this];exact ⟨a_,rfl,a_⟩
end Go.Pq
namespace Go.Pl
def UW (n:Int) (done:T):T:=T.g [.i .i64 0,.i .i64 n,done,T.l [],T.l [],T.b false,T.l [],T.l []]
def OU (h:Md) (s:Srv) (n:Int) (k:Nat):Srv×T :=
 if k<s.ss.length∧((s.ss.getD k (0,on0)).1:Int)=n then (⟨s.ss.eraseIdx k,s.made⟩,Me n (uz h (xy (s.ss.getD k (0,on0))))) else (s,Ac 5 0 (.l []))
theorem K7 (h:Md) (x:Nat×On):(G16 (tB h x))=tB h x:=rfl
theorem OV {h:Md} {c:Nat} {s:Srv} (H:sj h c s) (n:Int) (k:Nat):sj h c (OU h s n k).1:=by
 unfold OU;split
 ·rename_i q;exact Gh H q.1
 ·exact H
end Go.Pl
namespace Go.Pq
open Go.Pl Go.Proofs
theorem Fb (xs:List T) (x:T) (hl:xs.length≤8):F 137 [.own 31 xs,.t 2 (.i .i64 (xs.length:Int)),.t 31 (.l [x])] (zw 3 31) [.l (xs++[x])]:=by
 have C_:room=140737488355328:=rfl;refine Ps _ _ _ _ ?_;have e1:lenOf (T.l [x]).list=1:=rfl;have e2:(T.l [x]).list=[x]:=rfl;rw [pC,e1,e2,pQ];refine ⟨⟨by omega,by omega,by omega⟩,fun q=>(by cases q),fun _=>⟨fun _=>⟨⟨by rw [C_];show (xs.length+1)*304≤_;omega,by show xs.length+1≤_;omega⟩,a_,rfl,a_⟩,fun q=>?_⟩⟩;rw [rk] at q;exact q rfl
theorem Sl {h:Md} {c:Nat} {s:Srv} (hk:rV h c) (H:sj h c s) (n seq:Int) (syms:List Int) (tok:T) (k:Nat) (cF:Fnd s.ss n k) :
  F 29 [.t 32 (tW h s),.t 35 (uR 3 n seq syms tok)] Z10 [tW h (OU h s n k).1,(OU h s n k).2]:=by
 have hf:=H.few;have eS:(qT h s.ss).length≤2 ^ 30:=by rw [ql];omega
 have hb:uX Tryz.prog 58 ((uR 3 n seq syms tok).cell 0).int (some 97):=Ux;refine Qo _ _ _ _ ?_;refine ⟨_,uG (qT h s.ss) eS,?_⟩;refine ⟨hb,fun q=>?_,fun _=>?_⟩
 ·cases q
 unfold OU
 by_cases hy:k<s.ss.length∧((s.ss.getD k (0,on0)).1:Int)=n
 ·rw [WY hy]
  have Hx:=H.ok _ (pN (d:=(0,on0)) hy.1);exact ⟨_,_,_,_,_,_,_,_,_,_,_,_,_,_,_,UC hk s.ss s.made 3 n seq syms tok k hf cF hy.1 _ rfl hy.2 Hx,fun q=>(by cases q),fun _=>⟨a_,rfl,rfl,a_⟩⟩
 ·rw [WZ hy]
  exact ⟨_,_,_,_,_,_,_,_,_,_,_,_,_,_,_,JL h s.ss s.made 3 n seq syms tok k hf cF hy,fun _=>⟨a_,rfl,rfl,a_⟩,fun q=>(by cases q)⟩
theorem NK {h:Md} {c:Nat} {s:Srv} (hk:rV h c) (H:sj h c s) (n seq:Int) (syms:List Int) (l:List UInt8) (hl:l.length≤2 ^ 30) (c_:∀v,th h l v=false) :
  F 29 [.t 32 (tW h s),.t 35 (uR 4 n seq syms (se l))] Z10 [tW h s,Ac 20 0 (.l [])]:=by
 have hf:=H.few;have eS:(qT h s.ss).length≤2 ^ 30:=by rw [ql];omega
 have hb:uX Tryz.prog 58 ((uR 4 n seq syms (se l)).cell 0).int (some 98):=Sa;refine J0 _ _ _ _ ?_;refine ⟨_,uG (qT h s.ss) eS,?_⟩;refine ⟨hb,fun q=>?_,fun _=>?_⟩
 ·cases q
 exact ⟨_,_,_,_,_,_,_,_,_,_,_,_,_,_,_,FG hk s.ss s.made 4 n seq syms l hl c_,fun _=>⟨a_,rfl,rfl,a_⟩,fun q=>(by cases q)⟩
theorem MW {h:Md} {c:Nat} (hk:rV h c) (ss:List (Nat×On)) (made:Nat) (kind n seq:Int) (syms:List Int) (x:Nat×On) (hl:ss.length<8) (hm:made≤2 ^ 60) (hx:x.1<1099511627776) (H:vP h c x.2) (hf:∀j,j<ss.length→(ss.getD j (0,on0)).1<x.1) :
  F 98 [Uf h ss made,.t 35 (uR kind n seq syms (se (uz h (xy x))))] dSh (Ug (UW (x.1:Int) (qH x.2.done)) (.i .i64 0) h (ss++[x]) (max made (x.1+1))):=by
 have bi:=Lt hk H (Zt hx);have i_:=Et hk H;have hv:F 34 [.t 60 (FQ h (sF (uz h (xy x))))] (zo 1 4) [.b true]:=by rw [xX bi h,RE];exact yi hk H
 have c1:=Hg hk (uz h (xy x)) (by omega) true hv;have l_:=Ri bi h (by omega) ⟨by show 0≤(x.1:Int);omega,by show (x.1:Int)<_;omega⟩;rw [l_,WY rfl,xX bi h,Hd] at c1;have cF:Fnd ss (x.1:Int) ss.length:=⟨WU _,fun j hj=>by have:=hf j hj;omega,fun j h1 h2=>by omega⟩;have c2:=xG h ss made (x.1:Int) ss.length (by omega) cF;have aA:¬ (ss.length<ss.length∧((ss.getD ss.length (0,on0)).1:Int)=(x.1:Int)):=fun q=>by omega
 rw [Xh aA] at c2;have c3:=Fb (qT h ss) (tB h x) (by rw [ql];omega);have el:qT h ss++[tB h x]=qT h (ss++[x]):=by rw [←xr];rfl
 rw [ql,el] at c3;have cR:(T.l (qT h ss)).list.length=ss.length:=ql h ss;have dq:List.take (T.l (qT h ss)).list.length (T.l (qT h ss)).list=qT h ss:=pQ _;have ed:(tB h x).cell 15=qH x.2.done:=rfl;have en:(tB h x).cell 0=.i .i64 (x.1:Int):=rfl;refine NZ _ _ _ _ _ _ _ _ _ _ _ _ _ _ _ _ _ _ _ _ _ _ _ _ _ _ _ _ _ ?_;refine ⟨_,_,c1,fun q=>(by cases q),fun _=>⟨_,_,_,_,_,_,_,_,_,_,_,_,_,_,_,c2,fun q=>(by cases q),fun _=>⟨fun q=>?_,fun _=>?_⟩⟩⟩
 ·exfalso
  rw [qe,cR] at q;omega
 ·rw [K7,ed,en,dq]
  refine ⟨_,c3,_,t7 (ry x.2.done) (by rw [qX];have:=H.dlen;omega),⟨a_,a_⟩,rfl,rfl,rfl,rfl,rfl,rfl,rfl,rfl,rfl,rfl,rfl,rfl,rfl,rfl,?_,a_⟩;rw [pC,pC,pt (by omega),show ((x.1:Int)+1)=((x.1+1:Nat):Int) from by omega,zL]
theorem KZ {h:Md} {c:Nat} {s:Srv} (hk:rV h c) (Hs:sj h c s) (n seq:Int) (syms:List Int) (x:Nat×On) (hl:s.ss.length<8) (hx:x.1<1099511627776) (H:vP h c x.2) (hf:∀j,j<s.ss.length→(s.ss.getD j (0,on0)).1<x.1) :
  F 29 [.t 32 (tW h s),.t 35 (uR 4 n seq syms (se (uz h (xy x))))] Z10 [tW h ⟨s.ss++[x],max s.made (x.1+1)⟩,UW (x.1:Int) (qH x.2.done)]:=by
 have cQ:=Hs.made;have eS:(qT h s.ss).length≤2 ^ 30:=by rw [ql];omega
 have hb:uX Tryz.prog 58 ((uR 4 n seq syms (se (uz h (xy x)))).cell 0).int (some 98):=Sa;refine J0 _ _ _ _ ?_;refine ⟨_,uG (qT h s.ss) eS,?_⟩;refine ⟨hb,fun q=>?_,fun _=>?_⟩
 ·cases q
 exact ⟨_,_,_,_,_,_,_,_,_,_,_,_,_,_,_,MW hk s.ss s.made 4 n seq syms x hl (by omega) hx H hf,fun q=>(by cases q),fun _=>⟨a_,rfl,rfl,a_⟩⟩
def C9:Ctx:=⟨tab,sigs,43,[0,1,2,3],[],[],[],[],[]⟩
theorem UF  (y0:T) (h:∃y:T,F 28 [] (zo 0 29) [y]∧∃y_1 y_2 y_3:T,F 27 [.t 29 y,.t 82 (T.l (((((List.replicate 4 (T.g [kI 0,kI 0,kI 0,T.l [],T.l []])).set 0 (T.g [kI 1,kI 0,kI 0,T.l [],T.l []])).set 1 (T.g [kI 2,kI 0,kI 0,T.l ((List.replicate 1 (kI 0)).set 0 (kI 1)),T.l []])).set 2 (T.g [kI 2,kI 0,kI 0,T.l (((List.replicate 2 (kI 0)).set 0 (kI 1)).set 1 (kI 2)),T.l []])).set 3 (T.g [kI 5,kI 0,kI 0,T.l [],T.l []])))] Z17 [y_1,y_2,y_3]∧((T.ite (eqI y_3.int 0) (T.b (eqI (lenOf y_1.list) 4)) (T.b false)).bool=true∧True→0≤(3:Int)∧(3:Int)<lenOf y_1.list)∧∃y:T,((T.ite (eqI y_3.int 0) (T.b (eqI (lenOf y_1.list) 4)) (T.b false)).bool=true∧True→F 22 [.t 28 ((y_1.list.getD (Int.toNat (3:Int)) T.u).cell 4),.t 28 (T.l (((List.replicate 2 (kI 0)).set 0 (kI 0)).set 1 (kI 1)))] (zo 2 4) [y])∧True∧T.ite (T.ite (T.ite (T.ite (eqI y_3.int 0) (T.b (eqI (lenOf y_1.list) 4)) (T.b false)).bool y (T.b false)).bool (T.b (eqI (lenOf (y_2.cell 11).list) 0)) (T.b false)).bool (T.b (eqI (y_2.cell 12).int (1:Int))) (T.b false)=y0∧True):F 9 [] (zo 0 4) [y0] :=
 p7 C9 (by kernel_rfl) Tryz.func9 (by kernel_rfl) .no (by kernel_rfl) h
end Go.Pq
namespace Go.Pl
theorem MT (kind n seq:Int) (syms:List Int) (tok:T):(uR kind n seq syms tok).part 0 5=uR kind n seq syms tok:=rfl
theorem MU (kind n seq:Int) (syms:List Int) (tok:T):(G5 (uR kind n seq syms tok))=uR kind n seq syms tok:=rfl
def HO (a:T):Prop:=∃e m d t p q0 q1 q2,a=.g [e,m,d,t,p,q0,q1,q2]
theorem HO.self {a:T} (h:HO a):(G8 a)=a:=by
 obtain ⟨e,m,d,t,p,q0,q1,q2,rfl⟩:=h;rfl
theorem EB (e n:Int) (d:T):HO (Ac e n d):=⟨_,_,_,_,_,_,_,_,rfl⟩
theorem O0 (n:Int) (p:T) (q:Rat):HO (Uh n p q):=⟨_,_,_,_,_,_,_,_,rfl⟩
def rF:Md:=⟨2,2,0,[mkQ 1 2,mkQ 1 2],[[0,mkQ 1 2],[0,0]],[mkQ 1 2,1],[[1,0],[0,1]],[0,1]⟩
theorem Fa:rl (mkQ 1 2)≤1∧Share (mkQ 1 2):=⟨TR (a:=1) (b:=2) (by decide) (by decide) (by decide),G9 (a:=1) (b:=2) (by decide) (by decide)⟩
theorem Bw:rl 0≤1∧Share 0:=⟨by rw [Be];decide,yZ⟩
theorem KA:rl 1≤1∧Share 1:=⟨by rw [B7];decide,by decide,by decide⟩
theorem xe:rV rF 1:=by
 refine ⟨by decide,by decide,by decide,rfl,rfl,rfl,rfl,rfl,?_,?_,?_,Bw,?_,?_,?_,?_,by decide +kernel,?_,?_,?_⟩
 ·intro r hr;simp [rF] at hr;rcases hr with rfl | rfl<;>rfl
 ·intro r hr;simp [rF] at hr;rcases hr with rfl | rfl<;>rfl
 ·intro r hr;simp [rF] at hr;rcases hr with rfl | rfl<;>decide
 ·intro q hq;simp [rF] at hq;subst hq;exact Fa
 ·intro r hr q hq
  simp [rF] at hr
  rcases hr with rfl | rfl
  ·simp at hq;rcases hq with rfl | rfl
   ·exact Bw
   ·exact Fa
  ·simp at hq;subst hq;exact Bw
 ·intro q hq;simp [rF] at hq;rcases hq with rfl | rfl
  ·exact Fa
  ·exact KA
 ·intro r hr q hq
  simp [rF] at hr
  rcases hr with rfl | rfl
  ·simp at hq;rcases hq with rfl | rfl
   ·exact KA
   ·exact Bw
  ·simp at hq;rcases hq with rfl | rfl
   ·exact Bw
   ·exact KA
 ·intro i hi
  have:i=0∨i=1:=by have:i<2:=hi;omega
  rcases this with rfl | rfl<;>decide +kernel
 ·intro r hr;simp [rF] at hr;rcases hr with rfl | rfl<;>decide +kernel
 ·intro i j hi hj
  have:i=1∧j=0:=by have:i<2:=hi;omega
  obtain ⟨rfl,rfl⟩:=this;intro h;cases h
def Js:On:=⟨1,[mkQ 1 2,0],[[],[]],[0]⟩
def L1:On:=⟨2,[0,mkQ 1 4],[[],[]],[0,1]⟩
theorem HD:vg rF on0 (Ou on0 0 [1])=.ok Js:=by kernel_rfl
theorem HE:vg rF Js (Ou Js 0 [1,2])=.ok L1:=by kernel_rfl
theorem L4:Aw rF L1=(mkQ 1 4,[]):=by kernel_rfl
end Go.Pl
namespace Go.Pq
open Go.Pl Go.Proofs
theorem Rj {h:Md} {c:Nat} (hk:rV h c) (rs:List T) (hl:rs.length≤400) (S:Nat→Srv) (A:Nat→T) (h0:S 0=⟨[],0⟩) (l_:sj h c (S rs.length)) (hA:∀k,HO (A k))
  (hr:∀k,k<rs.length→∃kind n seq syms tok,rs.getD k T.u=uR kind n seq syms tok)
  (hs:∀k,k<rs.length→F 29 [.t 32 (tW h (S k)),.t 35 (rs.getD k T.u)] Z10 [tW h (S (k+1)),A k]) :
  F 27 [.t 29 (rx h),.t 82 (.l rs)] Z17 [.l ((List.range rs.length).map A),tW h (S rs.length),.i .i64 0]:=by
 have C_:room=140737488355328:=rfl;refine SB _ _ _ _ _ (fun i=>i.1=tW h (S i.2.2)∧i.2.1=(List.range i.2.2).map A∧i.2.2≤rs.length) (fun i=>rs.length-i.2.2) ?_;have i_:lenOf (T.l rs).list=(rs.length:Int):=rfl;rw [tS,i_];refine ⟨_,_,QM hk,fun q=>(by cases q),fun _=>⟨fun q=>?_,fun _=>⟨⟨(tW h (S 0),[],0),⟨rfl,rfl,WS _⟩,?_⟩,fun _=>rfl,?_⟩⟩⟩
 ·rw [pw] at q;omega
 ·rw [h0];exact (by and_intros<;>first | exact trivial | rfl | (rw [pt (by omega)];rfl))
 rintro ⟨sv,an,k⟩ ⟨h1,h2,h3⟩;dsimp only at h1 h2 h3 ⊢;subst h1 h2;rw [uu];refine ⟨fun q=>?_,fun q=>?_⟩
 ·rw [pw] at q
  have b_:k<rs.length:=by omega
  obtain ⟨kind,n,seq,syms,tok,hq⟩:=hr k b_;have z_:=hs k b_;have ar:(T.l rs).list.getD (k:Int).toNat T.u=uR kind n seq syms tok:=by rw [WP];exact hq
  rw [ar,MT,MU,pQ];rw [hq] at z_;refine ⟨⟨by omega,by omega⟩,_,_,z_,?_⟩;rw [(hA k).self,xu];have g9:((List.range k).map A).length+[A k].length=k+1:=by simp
  rw [g9];refine ⟨⟨by omega,by omega⟩,(tW h (S (k+1)),(List.range (k+1)).map A,k+1),⟨rfl,rfl,b_⟩,by dsimp only;omega,?_⟩
  have:(List.range (k+1)).map A=(List.range k).map A++[A k]:=by rw [Za,XY];rfl
  dsimp only;rw [this];exact (by and_intros<;>first | exact trivial | rfl | (rw [pt (by omega)];rfl))
 ·rw [pF] at q
  have cJ:k=rs.length:=by omega
  subst cJ;refine ⟨_,Gc hk l_,a_,?_,?_,rfl,a_⟩
  ·rw [Xc,pQ]
  ·exact uu _ _
theorem Si:F 28 [] (zo 0 29) [rx rF] :=
 SC _ ⟨_,_,Fm 1 2 (by decide) (by decide) (by decide),_,NF 1 (by decide),a_,rfl,a_⟩
end Go.Pq
namespace Go.Pl
theorem Mr {a b:List Nat} (h:a.length=b.length) (h2:∀i,i<a.length→a.getD i 0=b.getD i 0):a=b:=by
 apply Yj h;intro i h3 h4
 have:=h2 i h3
 rw [WM,WM,WL h3,WL h4] at this;exact this
def Jt:List T:=[uR 1 0 0 [] (.l []),uR 2 0 0 [1] (.l []),uR 2 0 0 [1,2] (.l []),uR 5 0 0 [] (.l [])]
def ve:Nat→Srv
 | 0=>⟨[],0⟩
 | 1=>⟨[(0,on0)],1⟩
 | 2=>⟨[(0,Js)],1⟩
 | 3=>⟨[(0,L1)],1⟩
 | _=>⟨[],1⟩
def Dv:Nat→T
 | 0=>Ac 0 0 (.l [])
 | 1=>Ac 0 0 (qH [0])
 | 2=>Ac 0 0 (qH [0,1])
 | _=>Uh 0 (qH [0,1]) (mkQ 1 4)
theorem L3 (k:Nat):HO (Dv k):=by
 unfold Dv;split
 ·exact EB _ _ _
 ·exact EB _ _ _
 ·exact EB _ _ _
 ·exact O0 _ _ _
theorem Ju:H9 (ve 0)=(ve 1,Dv 0):=rfl
theorem DC (h:Md) (o:On) (m:Nat) (seq:Int) (syms:List Int) (hs:¬ (seq<0∨(o.time:Int)<seq)):yD h ⟨[(0,o)],m⟩ 0 seq syms 0 =
  match vg h o (Ou o seq syms) with | .ok o'=>(⟨[(0,o')],m⟩,Ac 0 0 (qH o'.done)) | .error e=>(⟨[(0,o)],m⟩,Ac e 0 (.l [])):=by
 have h1:0<(⟨[(0,o)],m⟩:Srv).ss.length∧(((⟨[(0,o)],m⟩:Srv).ss.getD 0 (0,on0)).1:Int)=0:=⟨Nat.one_pos,rfl⟩;have h2:¬ (seq<0∨(((⟨[(0,o)],m⟩:Srv).ss.getD 0 (0,on0)).2.time:Int)<seq):=hs;unfold yD;rw [WY h1,WZ h2];rfl
theorem Jv:yD rF (ve 1) 0 0 [1] 0=(ve 2,Dv 1):=by
 have:=DC rF on0 1 0 [1] (by intro q;rcases q with q | q<;>cases q)
 rw [HD] at this;exact this
theorem Jw:yD rF (ve 2) 0 0 [1,2] 0=(ve 3,Dv 2):=by
 have:=DC rF Js 1 0 [1,2] (by intro q;rcases q with q | q<;>cases q)
 rw [HE] at this;exact this
theorem Jx:OY rF (ve 3) 0 0=(ve 4,Dv 3):=by
 have h1:0<(ve 3).ss.length∧(((ve 3).ss.getD 0 (0,on0)).1:Int)=0:=⟨Nat.one_pos,rfl⟩;have h2:((ve 3).ss.getD 0 (0,on0)).2=L1:=rfl;unfold OY;rw [WY h1,h2,L4,WY (by decide +kernel)];rfl
theorem FO (h:Md) (c:Nat):sj h c ⟨[],0⟩:=by
 refine ⟨by decide,by decide,fun i hi=>(by cases hi),fun i hi=>(by cases hi),fun x hx=>(by cases hx)⟩
theorem Tk (x:Nat×On) (h:x.1=0):Fnd [x] 0 0:=by
 refine ⟨WS _,fun j hj=>(by cases hj),fun j _ hj=>?_⟩
 have:j=0:=by simpa using hj
 subst this
 show (0:Int)≤(x.1:Int)
 omega
end Go.Pl
namespace Go.Pq
open Go.Pl Go.Proofs
theorem M8 (a b:List Nat) (ha:a.length≤2 ^ 40):F 22 [.t 28 (qH a),.t 28 (qH b)] (zo 2 4) [.b (decide (a=b))]:=by
 refine Sy _ _ _ (fun k=>k≤a.length∧∀j,j<k→a.getD j 0=b.getD j 0) (fun k=>a.length-k) ?_;rw [qZ,qZ];refine ⟨fun q=>?_,fun q=>⟨⟨0,⟨WS _,fun j hj=>(by cases hj)⟩,(by and_intros<;>first | exact trivial | rfl | (rw [pt (by omega)];rfl))⟩,fun _=>rfl,?_⟩⟩
 ·rw [rr] at q
  rw [Xh (fun e=>q (by rw [e]))];exact ⟨a_,rfl,a_⟩
 ·rw [sq] at q
  rintro k ⟨hk,he⟩;refine ⟨fun g=>?_,fun g=>?_⟩
  ·rw [pw] at g
   have dm:k<a.length:=by omega
   have cX:k<b.length:=by omega
   rw [sd a dm,sd b cX,r9,r9,pC,pC];refine ⟨⟨by omega,by omega⟩,⟨by omega,by omega⟩,fun w=>?_,fun w=>?_⟩
   ·rw [rr] at w
    rw [Xh (fun e=>w (by rw [e]))];exact ⟨a_,rfl,a_⟩
   ·rw [sq] at w
    refine ⟨k+1,⟨dm,fun j hj=>?_⟩,by omega,(by and_intros<;>first | exact trivial | rfl | (rw [pt (by omega)];rfl))⟩
    by_cases e:j=k
    ·subst e;omega
    ·exact he j (by omega)
  ·rw [pF] at g
   have l4:a=b:=Mr (by omega) fun i hi=>he i (by omega)
   rw [Xq l4];exact ⟨a_,rfl,a_⟩
theorem QD:F 9 [] (zo 0 4) [.b true]:=by
 have H0:sj rF 1 (ve 0):=FO _ _;have H1:sj rF 1 (ve 1):=by have:=GF H0;rw [Ju] at this;exact this
 have H2:sj rF 1 (ve 2):=by have:=CA xe H1 0 0 [1] 0;rw [Jv] at this;exact this
 have H3:sj rF 1 (ve 3):=by have:=CA xe H2 0 0 [1,2] 0;rw [Jw] at this;exact this
 have H4:sj rF 1 (ve 4):=by have:=OZ H3 0 0;rw [Jx] at this;exact this
 have c1:=KC xe H0 0 0 [] (.l []);rw [Ju] at c1;have c2:=EV xe H1 0 0 [1] (.l []) 0 (Tk _ rfl) (by decide);rw [Jv] at c2;have c3:=EV xe H2 0 0 [1,2] (.l []) 0 (Tk _ rfl) (by decide);rw [Jw] at c3;have c4:=So xe H3 0 0 [] (.l []) 0 (Tk _ rfl);rw [Jx] at c4;have four:∀{p:Nat→Prop},p 0→p 1→p 2→p 3→∀k,k<4→p k:=by
  intro p p0 p1 p2 p3 k hk
  match k,hk with
  | 0,_=>exact p0
  | 1,_=>exact p1
  | 2,_=>exact p2
  | 3,_=>exact p3
 have sv:=Rj xe Jt (by decide) ve Dv rfl H4 L3
  (four (p:=fun k=>∃kind n seq syms tok,Jt.getD k T.u=uR kind n seq syms tok) ⟨_,_,_,_,_,rfl⟩ ⟨_,_,_,_,_,rfl⟩ ⟨_,_,_,_,_,rfl⟩ ⟨_,_,_,_,_,rfl⟩)
  (four (p:=fun k=>F 29 [.t 32 (tW rF (ve k)),.t 35 (Jt.getD k T.u)] Z10 [tW rF (ve (k+1)),Dv k]) c1 c2 c3 c4)
 refine UF _ ⟨_,Si,_,_,_,sv,fun _=>⟨by decide,by decide⟩,.b true,fun _=>M8 [0,1] [0,1] (by decide),?_⟩;exact ⟨a_,rfl,a_⟩
end Go.Pq
namespace Go.Pl
theorem T6 (a:UInt8):BitVec.ofInt IntKind.u8.bits (a.toNat:Int)=a.toBitVec:=by
 show BitVec.ofInt 8 (a.toNat:Int)=a.toBitVec
 rw [Yr];apply BitVec.eq_of_toNat_eq;rw [Yi]
 have:=a.toNat_lt
 show a.toNat%2 ^ 8=a.toNat
 exact Xj (by omega)
theorem UQ (n:Int):IntKind.u8.wrap n=n%256:=by simp [IntKind.wrap,IntKind.bits,IntKind.signed]
theorem LX (a b:UInt8):qv .xor .u8 (a.toNat:Int) (b.toNat:Int)=((a ^^^ b).toNat:Int):=by
 have e:(BitVec.ofInt IntKind.u8.bits (a.toNat:Int) ^^^ BitVec.ofInt IntKind.u8.bits (b.toNat:Int)).toNat=(a ^^^ b).toNat:=by rw [T6,T6];rfl
 have:=(a ^^^ b).toNat_lt
 show IntKind.u8.wrap ((BitVec.ofInt IntKind.u8.bits (a.toNat:Int) ^^^ BitVec.ofInt IntKind.u8.bits (b.toNat:Int)).toNat:Int)=_
 rw [e,UQ];omega
theorem Ud {a d:UInt8} (h:d≠0):a ^^^ d≠a:=by
 intro e;apply h
 have:=Xx (fun z=>a ^^^ z) e
 simpa [←UInt8.xor_assoc] using this
theorem Je (l:List UInt8):List.replicate 0 (T.i .u8 0)++rW l=rW l:=by rw [YY,Yc]
theorem LW (l:List UInt8) (i:Nat) (x:UInt8):(rW l).set i (.i .u8 (x.toNat:Int))=rW (l.set i x):=by simp [rW,Zg]
theorem Jf (l:List UInt8) (n:Nat):(rW l).take n=rW (l.take n):=by simp [rW]
theorem HK (h:Md) (s:Srv) (n seq:Int) (syms:List Int) (k:Nat):∃e m d,(yD h s n seq syms k).2=Ac e m d:=by
 unfold yD;split
 ·split
  ·exact ⟨_,_,_,rfl⟩
  ·split
   ·exact ⟨_,_,_,rfl⟩
   ·exact ⟨_,_,_,rfl⟩
 ·exact ⟨_,_,_,rfl⟩
theorem HM (h:Md) (o:On) (m:Nat) (n seq:Int) (syms:List Int):∃o',(yD h ⟨[(0,o)],m⟩ n seq syms 0).1=⟨[(0,o')],m⟩:=by
 unfold yD;split
 ·split
  ·exact ⟨o,rfl⟩
  ·split
   ·exact ⟨_,rfl⟩
   ·exact ⟨o,rfl⟩
 ·exact ⟨o,rfl⟩
end Go.Pl
namespace Go.Pq
open Go.Pl Go.Proofs
structure GuI (h g:Md) (tok:List UInt8) (bad:List (List UInt8)) (i:T×T×T×T×T×Nat):Prop where
 h0:i.1=rx h
 h1:i.2.1=rx g
 h2:i.2.2.1=tW h ⟨[],1⟩
 h3:i.2.2.2.1=Me 0 tok
 h4:i.2.2.2.2.1=.l (bad.map se)
 h5:i.2.2.2.2.2≤bad.length
theorem Qz (S Y S2 Y2:Int) (L L2 W:List Int) (a b:Int) (hL:L.length≤9223372036854775807) (mc:L2.length≤9223372036854775807) :
  F 6 [.t 49 (chT S Y L),.t 49 (chT S2 Y2 L2),.t 28 (qw W),.t 2 (.i .i64 a),.t 2 (.i .i64 b)] (zo 5 4) [.b true]:=by
 have hk:=Cs S Y L (most:=2) (by decide);have ch:=Jl S Y L (most:=2) (by decide) hL;have gk:=Cs S2 Y2 L2 (most:=2) (by decide);have cg:=Jl S2 Y2 L2 (most:=2) (by decide) mc
 generalize yB S Y L 2=h at *
 generalize yB S2 Y2 L2 2=g at *
 have cY:=hk.sym;have wd:=Ub W (y:=h.sym) (n:=4) (by omega) (by decide)
 generalize hw:(W.take 4).map (fun x=>1+within x h.sym)=w at wd
 have H0:sj h 1 ⟨[],0⟩:=FO h 1;have G0:sj g 1 ⟨[],0⟩:=FO g 1;have op:=wl hk H0 1 0 0 [] (.l []) _ _ _ _ _ _ _ _ _ (KC hk H0 0 0 [] (.l []));have H1:sj h 1 ⟨[(0,on0)],1⟩:=GF H0;have js:w.length≤4:=by rw [←hw,Xk,Xg];omega
 have fd:=EV hk H1 0 0 (w.map fun x:Nat=>(x:Int)) (.l []) 0 (Tk _ rfl) (by rw [Xk];omega);have H2:=CA hk H1 0 0 (w.map fun x:Nat=>(x:Int)) 0;obtain ⟨fe,fm,fdn,ef⟩:=HK h ⟨[(0,on0)],1⟩ 0 0 (w.map fun x:Nat=>(x:Int)) 0;obtain ⟨o,eo⟩:=HM h on0 1 0 0 (w.map fun x:Nat=>(x:Int));rw [eo,ef] at fd;rw [eo] at H2;have fdH:=wl hk H1 2 0 0 (w.map fun x:Nat=>(x:Int)) (.l []) _ _ _ _ _ _ _ _ _ fd;have Ho:vP h 1 o:=H2.ok (0,o) (by simp);have ct:=Sl hk H2 0 0 [] (.l []) 0 (Tk _ rfl);have ec:OU h ⟨[(0,o)],1⟩ 0 0=(⟨[],1⟩,Me 0 (uz h (xy (0,o)))):=by
  unfold OU;exact WY ⟨by show 0<1;decide,rfl⟩
 rw [ec] at ct;have ctH:=wl hk H2 3 0 0 [] (.l []) _ _ _ _ _ _ _ _ _ ct;have H3:sj h 1 ⟨[],1⟩:=by have:=OV H2 0 0;rw [ec] at this;exact this
 have bi:Hj (xy (0,o)):=Lt hk Ho (WS _);have cq:=Et (x:=(0,o)) hk Ho;have oX:16≤(uz h (xy (0,o))).length:=by rw [vI,qG];omega
 have Q_:∀m:Md,rV m 1→(∃v,th m (uz h (xy (0,o))) v=true)→m=h:=fun m hm ⟨v,q⟩=>HX hm hk (Iq bi q)
 generalize cS:uz h (xy (0,o))=tok at *
 have m9:=rK a (show 0<tok.length by omega);have po:=rK b (show 0<255 by decide)
 generalize ar:within a tok.length=at' at *
 generalize oY:within b 255=by' at *
 have hd:pL .u8 1 (pG .u8 (by':Int))=((UInt8.ofNat (1+by')).toNat:Int):=by
  have e1:pG .u8 (by':Int)=(by':Int):=by
   show IntKind.u8.wrap _=_
   simp [IntKind.wrap,IntKind.bits,IntKind.signed];omega
  rw [e1,Zd]
  show IntKind.u8.wrap _=_
  simp [IntKind.wrap,IntKind.bits,IntKind.signed]
 have iw:UInt8.ofNat (1+by')≠0:=by
  intro q
  have:=Xx UInt8.toNat q
  rw [Zd] at this
  have:(1+by')%256=0:=this
  omega
 generalize UInt8.ofNat (1+by')=dx at *
 generalize aa:UInt8.ofNat (b%256).toNat=bx
 have jC:pG .u8 b=(bx.toNat:Int):=by
  have h1:=YR b (show (256:Int)≠0 by decide);have h2:=Zc b (show (0:Int)<256 by decide);rw [←aa,Zd]
  show IntKind.u8.wrap b=_
  simp [IntKind.wrap,IntKind.bits,IntKind.signed];omega
 have jD:∀v,th h (tok.set at' (tok.getD at' 0 ^^^ dx)) v=false:=by
  intro v;rw [←cS];exact spoilt (by rw [cS];exact m9) (by rw [cS];exact Ud iw) v
 have jE:∀v,th h (tok.take (tok.length-1)) v=false:=by
  intro v;rw [←cS];exact shorter (by rw [cS];omega) v
 have jF:∀v,th h (tok++[bx]) v=false:=by
  intro v;rw [←cS];exact longer (by rw [cS];omega) [bx] (by simp) v
 have jG:∀v,th h [] v=false:=QO h;obtain ⟨bads,bL⟩:∃bads,bads=[tok.set at' (tok.getD at' 0 ^^^ dx),tok.take (tok.length-1),tok++[bx],[]]:=⟨_,rfl⟩;have jH:∀l∈bads,l.length≤2 ^ 30∧∀v,th h l v=false:=by
  intro l hl;rw [bL] at hl;simp only [WW,List.not_mem_nil,or_false] at hl
  rcases hl with rfl | rfl | rfl | rfl
  ·exact ⟨by rw [Yw];omega,jD⟩
  ·exact ⟨by rw [Xg];omega,jE⟩
  ·exact ⟨by rw [WN];show tok.length+1≤_;omega,jF⟩
  ·exact ⟨by simp,jG⟩
 have lD:bads.length=4:=by rw [bL];rfl
 have C_:room=140737488355328:=rfl;obtain ⟨v20,gY⟩:∃v:Bool,v=true↔h=g:=by
  by_cases e:h=g
  ·exact ⟨true,fun _=>e,fun _=>rfl⟩
  ·exact ⟨false,fun q=>(by cases q),fun q=>absurd q e⟩
 have last:∃(s':Srv) (e m:Int) (d:T),F 10 [.t 32 (tW g ⟨[],0⟩),.t 35 (uR 4 0 0 [] (se tok))] Z11 [tW g s',Ac e m d,.i .i64 0]∧eqI e 0=v20:=by
  by_cases e:h=g
  ·subst e
   have rs:=KZ hk H0 0 0 [] (0,o) (by show 0<8;decide) (by show 0<1099511627776;decide) Ho (fun j hj=>absurd hj (Nat.not_lt_zero j));rw [cS] at rs;exact ⟨_,_,_,_,wl hk H0 4 0 0 [] _ _ _ _ _ _ _ _ _ _ rs,(gY.2 rfl).symm⟩
  ·have hb:∀v,th g tok v=false:=by
    intro v
    cases q:th g tok v with
    | false=>rfl
    | true=>exact absurd (Q_ g gk ⟨v,q⟩).symm e
   have rs:=NK gk G0 0 0 [] tok (by omega) hb;refine ⟨_,_,_,_,wl gk G0 4 0 0 [] _ _ _ _ _ _ _ _ _ _ rs,?_⟩
   cases v20 with
   | false=>rfl
   | true=>exact absurd (gY.1 rfl) e
 obtain ⟨s',le,lm',ld,lF,lE⟩:=last;have sm:=M9 hk gk v20 gY;have cut3:(Me 0 tok).cell 3=se tok:=rfl;have cut30:(se tok).cell 0=se tok:=rfl;have cut0:((Me 0 tok).cell 0).int=0:=rfl;have wint:qw (w.map fun x:Nat=>(x:Int))=qH w:=t8 w;refine UE _ _ _ _ _ _ (GuI h g tok bads) (fun i=>4-i.2.2.2.2.2) ?_;rw [show (G3 (chT S Y L))=chT S Y L from rfl,show (G3 (chT S2 Y2 L2))=chT S2 Y2 L2 from rfl];refine ⟨rx h,ch,rx g,cg,tW h ⟨[],0⟩,.i .i64 0,by rw [tS];exact QM hk,_,_,.i .i64 0,by rw [uu];exact op,fun q=>(by cases q),fun _=>⟨qH w,wd,tW h ⟨[(0,o)],1⟩,Ac fe fm fdn,.i .i64 0,?_,fun q=>(by cases q),fun _=>⟨tW h ⟨[],1⟩,Me 0 tok,.i .i64 0,?_,fun q=>?_,fun _=>?_⟩⟩⟩
 ·rw [uu]
  have e:T.g [T.i .i64 2,T.i .i64 0,T.i .i64 0,(qH w).cell 0,T.l []]=uR 2 0 0 (w.map fun x:Nat=>(x:Int)) (.l []):=by unfold uR;rw [wint];rfl
  rw [e];exact fdH
 ·rw [uu]
  exact ctH
 ·exfalso
  rw [cut0,cut3,AF,tQ,tQ,Yv,Yv] at q
  rcases q with (q | q) | q
  ·cases q
  ·cases q
  ·rw [qe] at q;omega
 ·rw [cut3,xC,Je,u6]
  have i_:lenOf (rW tok)=(tok.length:Int):=by unfold lenOf;rw [u6]
  rw [i_];refine ⟨⟨by rw [C_];omega,by omega⟩,.i .i64 (at':Int),?_,⟨by rw [pC];omega,by rw [pC];omega⟩,.i .i64 (by':Int),?_,⟨by rw [pC];omega,by rw [pC];omega⟩,⟨by omega,by rw [qm (by omega)];omega,by rw [qm (by omega)];omega⟩,⟨by rw [C_];omega,by omega⟩,⟨by rw [C_];show (tok.length+1)*1≤_;omega,by show tok.length+1≤_;omega⟩,?_⟩
  ·rw [←ar];exact Br a ⟨by omega,by omega⟩
  ·rw [←oY];exact Br b ⟨by decide,by decide⟩
  have fY:T.l (bads.map se)=T.l (((((List.replicate 4 (T.l [])).set 0 (T.l (List.take ((rW tok).set (0+(T.i .i64 (at':Int)).int.toNat) (T.i .u8 (qv BinOp.xor .u8 (((rW tok).getD (0+(T.i .i64 (at':Int)).int.toNat) T.u).cell 0).int (pL .u8 1 (pG .u8 (T.i .i64 (by':Int)).int))))).length (List.drop 0 ((rW tok).set (0+(T.i .i64 (at':Int)).int.toNat) (T.i .u8 (qv BinOp.xor .u8 (((rW tok).getD (0+(T.i .i64 (at':Int)).int.toNat) T.u).cell 0).int (pL .u8 1 (pG .u8 (T.i .i64 (by':Int)).int))))))))).set 1 (T.l (List.take (qc .i64 (tok.length:Int) 1-(0:Int)).toNat (List.drop (0:Int).toNat (rW tok))))).set 2 (T.l (rW tok++(List.replicate 1 (T.i .u8 0)).set 0 (T.i .u8 (pG .u8 b))))).set 3 (T.l [])):=by
   rw [pC,pC,WP,WV,hd,qm (by omega),jC];have e1:(((rW tok).getD at' T.u).cell 0).int=((tok.getD at' 0).toNat:Int):=by
    have:(rW tok).getD at' T.u=.i .u8 ((tok.getD at' 0).toNat:Int):=by simp [rW,WM,m9]
    rw [this];rfl
   rw [e1,LX,LW,Xc,XM,show ((tok.length:Int)-1-0).toNat=tok.length-1 by omega,show (0:Int).toNat=0 from rfl,Xc,Jf];have e2:rW tok++(List.replicate 1 (T.i .u8 0)).set 0 (T.i .u8 (bx.toNat:Int))=rW (tok++[bx]):=by
    rw [←xa];rfl
   rw [e2,bL];rfl
  refine ⟨⟨(rx h,rx g,tW h ⟨[],1⟩,Me 0 tok,.l (bads.map se),0),⟨rfl,rfl,rfl,rfl,rfl,WS _⟩,?_⟩,fun _=>rfl,?_⟩
  ·and_intros<;>first | with_reducible rfl | trivial | exact fY.symm
  clear fY;rintro ⟨i0,i1,i2,i3,i4,k⟩ ⟨g0,g1,g2,g3,g4,g5⟩;dsimp only at g0 g1 g2 g3 g4 g5 ⊢;subst g0 g1 g2 g3 g4;have eV:lenOf (T.l (bads.map se)).list=(bads.length:Int):=by
   show ((bads.map se).length:Int)=_
   rw [Xk]
  rw [eV,lD];refine ⟨fun q=>?_,fun q=>?_⟩
  ·rw [pw] at q
   have b_:k<bads.length:=by omega
   have me:(T.l (bads.map se)).list.getD (k:Int).toNat T.u=se (bads.getD k []):=by
    rw [WP]
    show (bads.map se).getD k T.u=_
    simp [WM,b_]
   have hb:=jH _ (pN (d:=([]:List UInt8)) b_);have rs:=wl hk H3 4 0 0 [] _ _ _ _ _ _ _ _ _ _ (NK hk H3 0 0 [] (bads.getD k []) hb.1 hb.2);rw [me,uu];refine ⟨⟨by omega,by omega⟩,_,_,.i .i64 0,rs,fun q=>?_,fun _=>⟨(rx h,rx g,tW h ⟨[],1⟩,Me 0 tok,.l (bads.map se),k+1),⟨rfl,rfl,rfl,rfl,rfl,b_⟩,by dsimp only;omega,?_⟩⟩
   ·cases q
   ·exact (by and_intros<;>first | exact trivial | rfl | (rw [pt (by omega)];rfl))
  ·rw [tS,tS]
   refine ⟨tW g ⟨[],0⟩,.i .i64 0,QM gk,tW g s',Ac le lm' ld,.i .i64 0,?_,.b true,QD,.b v20,fun _=>sm,a_,?_,a_⟩
   ·rw [uu];exact lF
   ·rw [←lE]
    show T.b (eqI le 0 == eqI le 0)=T.b true
    rw [beq_self_eq_true]
end Go.Pq
namespace Go.Proofs.YtjhgombngbgjbaaGreatDoor.Guard
open Go.Pl Go.Pq Go.Proofs.YtjhgombngbgjbaaGreatDoor.Ro Go.RowKit Go.ChangeShapes Go.WideShapes Go.ChangeAt
abbrev NE:Array Value:=#[.agg #[.int .i64 0,.int .i64 0,.slice none 0 0],.agg #[.int .i64 0,.int .i64 0,.slice none 0 0],.slice none 0 0,.int .i64 0,.int .i64 0]
theorem Mt (os:Os):laidMet Tryz.prog Rows.sessionsGuardRow.laid ((AD os).forCall (fun _ _=>0) ⟨#[],NE,[]⟩).memory :=
 laidMet_of_run (ps:=[.cell 0 0,.cell low 0]) 8 (by kernel_rfl) (by kernel_rfl) (by kernel_rfl)
theorem reads (os:Os) {H:Type} (enc:TypeId×Value→H):∃places,DataW.whole enc Tryz.prog ((AD os).forCall (fun _ _=>0) ⟨#[],NE,[]⟩).memory Tryz.f6.params.toList Rows.sessionsGuardSpec.vars false NE.toList 8=some ([.agg [.lit (.int .i64 0),.lit (.int .i64 0),.nil],.agg [.lit (.int .i64 0),.lit (.int .i64 0),.nil],.nil,.lit (.int .i64 0),.lit (.int .i64 0)],[],places) :=
 ⟨[],by kernel_rfl⟩
theorem lifted (os:Os) (started:os.Started) (H:Type) (enc:TypeId×Value→H) (F:Stop.Interp) :
  ReturnsInHanded {} Tryz.checked os 6 .any ((OpenSpec.ofChange Rows.sessionsGuardSpec).preRow enc Tryz.prog Tryz.f6 Rows.sessionsGuardRow.domain false Rows.sessionsGuardRow.laid) (((OpenSpec.ofChange Rows.sessionsGuardSpec).at F).post enc Tryz.prog Tryz.f6 false true false false):=by
 obtain ⟨places,hx⟩:=reads os enc;refine returnsInHanded_of_row (C:=Tryz.checked) (s:=OpenSpec.ofChange Rows.sessionsGuardSpec) own started (by kernel_rfl) Tryz.func6
  (witness_row_atRef (enc:=enc) (C:=Tryz.checked) false (AD os) NE rfl (by kernel_rfl) (by kernel_rfl) (by kernel_rfl)
   (OpenSpec.preRow_of_cond 8 hx (by kernel_rfl) (fun k hk=>by cases hk) (by kernel_rfl) (Mt os))) ?_
 intro W base args ds gs before jI hW _ _ _ _ _ _;have m_:∀(j:Nat) t v,Tryz.f6.params[j]?=some t→args[j]?=some v→Value.okWide Tryz.prog W .any base t v:=jI;have fP:=hW;obtain ⟨p,q,oZ,hV,rfl,-,-⟩:=hW;have hA:DataW.TrodAll enc Tryz.prog W 0 (fun _=>true) true Tryz.f6.params.toList args.toList ds p:=oZ;rw [Tryz.params6] at hA m_;obtain ⟨v0,v1,v2,v3,v4,d0,d1,d2,d3,d4,p0,p1,p2,p3,p4,rfl,rfl,rfl,h0,h1,h2,h3,h4⟩:=Eu hA;obtain ⟨rfl,rfl⟩:=trodVars_none hV;simp only [XD] at fP;obtain ⟨S,Y,L,hL,V0⟩:=Gr (m_ 0 50 v0 rfl rfl) h0;obtain ⟨S2,Y2,L2,mc,V1⟩:=Gr (m_ 1 50 v1 rfl rfl) h1;obtain ⟨Wl,-,V2⟩:=QA (m_ 2 28 v2 rfl rfl) h2;obtain ⟨a,V3⟩:=N3 (m_ 3 3 v3 rfl rfl) h3;obtain ⟨b,V4⟩:=N3 (m_ 4 3 v4 rfl rfl) h4;have FC:Go.Pq.F 6 (C1 [(49,chT S Y L),(49,chT S2 Y2 L2),(28,qw Wl),(2,.i .i64 a),(2,.i .i64 b)]) (zo 5 4) [.b true]:=Qz S Y S2 Y2 L L2 Wl a b hL mc;have lt:∀x∈p0++p1++p2++p3++p4,x.block<W.heap.size:=fun x hx=>by simpa using fP.lt x hx
 refine (Fn.calls (c:=tO Tryz.f6) FC Tryz.func6 (by kernel_rfl) (by kernel_rfl) W #[v0,v1,v2,v3,v4] rfl ?_).mono ?_
 ·intro i c x v hi hv
  match i with
  | 0 =>
   simp at hi hv;obtain ⟨rfl,rfl⟩:=hi;subst hv;exact V0
  | 1 =>
   simp at hi hv;obtain ⟨rfl,rfl⟩:=hi;subst hv;exact V1
  | 2 =>
   simp at hi hv;obtain ⟨rfl,rfl⟩:=hi;subst hv;exact V2
  | 3 =>
   simp at hi hv;obtain ⟨rfl,rfl⟩:=hi;subst hv;exact V3
  | 4 =>
   simp at hi hv;obtain ⟨rfl,rfl⟩:=hi;subst hv;exact V4
  | i+5=>simp at hi
 ·rintro e W' ⟨v,rfl,hb,O,o6⟩
  have:=ze o6
  subst this;refine ⟨_,rfl,_,_,_,[],p0++(p1++(p2++(p3++p4))),[],fP,trodAll_mk1 (shut_bool Tryz.underlying4 true),?_,rfl,hb.frame _,fun h=>by cases h⟩;exact FS (Below.trod AC (by kernel_rfl) (Xd (by kernel_rfl)) h0 hb (fun x hx=>lt x (by simp [hx]))) (Below.trod AC (by kernel_rfl) (Xd (by kernel_rfl)) h1 hb (fun x hx=>lt x (by simp [hx])))
   (Below.trod AC (by kernel_rfl) (Xd (by kernel_rfl)) h2 hb (fun x hx=>lt x (by simp [hx]))) (Below.trod AC (by kernel_rfl) (Xd (by kernel_rfl)) h3 hb (fun x hx=>lt x (by simp [hx])))
   (Below.trod AC (by kernel_rfl) (Xd (by kernel_rfl)) h4 hb (fun x hx=>lt x (by simp [hx])))
theorem said:Rows.SessionsGuardSaid :=
 OpenClaim.holds_of_cond 6 Tryz.f6 rfl rfl rfl rfl rfl rfl rfl ⟨rfl,rfl,rfl,rfl,rfl⟩ rfl rfl rfl rfl rfl (by kernel_rfl) Tryz.func6 (by kernel_rfl)
  (Xd (by kernel_rfl)) (by unfold Func.isWrapper;first | (rw [WY (by decide +kernel)];kernel_rfl) | (rw [WZ (by decide +kernel)];exact ⟨rfl,rfl⟩))
  (fun os started H enc _ F=>by rw [OpenClaim.pre_eq_preRow];exact lifted os started H enc F)
theorem plain (f : FuncId) (fn : Func) (hf : Tryz.pinned.checked.prog.funcNamed "weighted/weightedlaw43.SessionsGuard" = some f) (cF : Tryz.pinned.checked.prog.funcs[f]? = some fn) :
  false=Tryz.pinned.checked.prog.looks []∧∀(j:Nat) t,fn.params[j]?=some t→Tryz.pinned.checked.prog.wantsStandIn t=false:=by
 obtain rfl : f = 6 := W3 ((show Tryz.prog.funcNamed "weighted/weightedlaw43.SessionsGuard" = some 6 by kernel_rfl).symm.trans hf) |>.symm;obtain rfl:fn=Tryz.f6:=(W3 (Tryz.func6.symm.trans cF)).symm;refine ⟨by kernel_rfl,fun j t ht=>?_⟩;rw [Tryz.params6] at ht;have k50:Tryz.prog.wantsStandIn 50=false:=by kernel_rfl
 have k28:Tryz.prog.wantsStandIn 28=false:=by kernel_rfl
 have k3:Tryz.prog.wantsStandIn 3=false:=by kernel_rfl
 match j with
 | 0 =>
  obtain rfl:t=50:=by simpa using ht.symm
  exact k50
 | 1 =>
  obtain rfl:t=50:=by simpa using ht.symm
  exact k50
 | 2 =>
  obtain rfl:t=28:=by simpa using ht.symm
  exact k28
 | 3 =>
  obtain rfl:t=3:=by simpa using ht.symm
  exact k3
 | 4 =>
  obtain rfl:t=3:=by simpa using ht.symm
  exact k3
 | j+5=>simp at ht
theorem card:Rows.SessionsGuardCardSaid :=
 Claim7.holds_tied_plain_at .later [] _ _ _ _ said (fun _ h=>by cases h) (by kernel_rfl) (fun _ h=>by cases h) sessionsGuard_row_tie rfl ⟨rfl,rfl⟩ (by kernel_rfl) rfl plain (by kernel_rfl)
end Go.Proofs.YtjhgombngbgjbaaGreatDoor.Guard
namespace Go.Proofs.YtjhgombngbgjbaaGreatDoor
theorem sessionsGuard_holds:Rows.SessionsGuardCardSaid:=Guard.card
end Go.Proofs.YtjhgombngbgjbaaGreatDoor
