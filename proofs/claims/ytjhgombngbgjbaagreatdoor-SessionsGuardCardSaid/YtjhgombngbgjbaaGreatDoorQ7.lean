/- Part 7 of 11. A session's sealed cut that was changed, shortened, lengthened or emptied is not resumed, and a cut is resumed under another model only where the two models are one. Names are shortened and spaces left out by program, for the size. -/
import Derived.Test.YtjhgombngbgjbaaGreatDoorQ6
import Derived.ProofKit
import Derived.OpenShut
import Derived.Deep.DeepHandedRow
import Derived.Deep.DeepWitnessRowRef
import Derived.Lib.SmallJoins
import Derived.Carry
import Derived.WalkKit
import Derived.Lib.Walk
import Derived.Deep.OwnRows
import Derived.LoopTactic
import Derived.Laws.EntriesVeiled
import Derived.Shelf.Spec.SlicesGrow
set_option linter.unusedVariables false
set_option linter.unusedSimpArgs false
set_option linter.unusedSectionVars false
set_option linter.constructorNameAsVariable false
set_option maxRecDepth 100000
namespace Go.Pl
def sg (s:Bool) (n:Nat):Int:=if s=true then -(n:Int) else (n:Int)
theorem GZ (s:Bool) (n:Nat):(sg s n).natAbs=n:=by unfold sg;split<;>omega
theorem TW (s:Bool) (n:Nat) (h:n≠0):decide (sg s n<0)=s:=by
 unfold sg;cases s<;>simp<;>omega
theorem Rl (s:Bool):sg s 0=0:=by unfold sg;split<;>rfl
theorem CZ (x:Int):sg (decide (x<0)) x.natAbs=x:=by
 unfold sg;by_cases h:x<0
 ·rw [WY (by simpa using h)];omega
 ·rw [WZ (by simpa using h)];omega
theorem TV (s t:Bool) (m n:Nat):sg (!(s == t)) (m*n)=sg s m*sg t n:=by
 unfold sg;cases s<;>cases t<;>simp [Int.neg_mul,Int.mul_neg]
theorem TU (s:Bool) (n g:Nat) (h:g ∣ n):sg s (n / g)=sg s n / (g:Int):=by
 unfold sg;cases s
 ·simp
 ·simp only [Zf]
  rw [Int.neg_ediv_of_dvd (Int.ofNat_dvd.2 h)];simp
def frac (s:Bool) (n d:Nat):Rat:=mkRat (sg s n) d
def dl (d:Nat):List UInt32:=if d=1 then [] else Lb.nat d
def ux (d:Nat):T:=lim (dl d)
theorem Dz:dl 1=[]:=rfl
theorem By {d:Nat} (h:d≠1):dl d=Lb.nat d:=WZ h
theorem Gg (d:Nat):Lb.Canon (dl d):=by
 unfold dl;split
 ·exact .inl rfl
 ·exact Lb.p8 d
theorem yQ {n:Nat}:Lb.nat n=[1]↔n=1:=by
 constructor
 ·intro h
  have:=Xx Lb.val h
  rw [Lb.pA] at this;exact this
 ·intro h;rw [h];exact Lb.uc
theorem HH (d:Nat):dl d≠[1]:=by
 unfold dl;split
 ·simp
 ·intro h;exact absurd (yQ.1 h) (by assumption)
theorem As {d:Nat} (hd:d≠0):dl d=[]↔d=1:=by
 unfold dl;split
 ·simp [*]
 ·rw [Lb.sA];omega
theorem Ar (d:Nat):(dl d).length≤(Lb.nat d).length:=by
 unfold dl;split
 ·simp
 ·exact WU _
def qr (q:Rat):T:=.g [.b (decide (q.num<0)),lim (Lb.nat q.num.natAbs),ux q.den]
theorem Gm (s:Bool) (n d:Nat) (hd:d≠0):(frac s n d).num=sg s (n / Nat.gcd n d):=by
 unfold frac;rw [Rat.num_mkRat,WZ hd,GZ,Zu d n,TU _ _ _ (Nat.gcd_dvd_left n d)]
theorem Gl (s:Bool) (n d:Nat) (hd:d≠0):(frac s n d).den=d / Nat.gcd n d:=by
 unfold frac;rw [Rat.den_mkRat,WZ hd,GZ,Zu d n]
theorem DF (s:Bool) (d:Nat):frac s 0 d=0:=by
 unfold frac;rw [Rl];exact Rat.zero_mkRat d
theorem J9 {n d:Nat} (hd:d≠0):Nat.gcd n d≠0:=fun h=>hd (Nat.eq_zero_of_gcd_eq_zero_right h)
theorem xZ (s:Bool) (n d:Nat) (hd:d≠0) (hn:n≠0) :
  qr (frac s n d)=.g [.b s,lim (Lb.nat (n / Nat.gcd n d)),ux (d / Nat.gcd n d)]:=by
 have hg:=YQ (J9 (n:=n) hd);have h1:n / Nat.gcd n d≠0:=by
  have:=Nat.div_pos (Nat.le_of_dvd (YQ hn) (Nat.gcd_dvd_left n d)) hg
  omega
 unfold qr;rw [Gm s n d hd,Gl s n d hd,GZ,TW s _ h1]
theorem A5:qr 0=.g [.b false,.l [],.l []]:=rfl
theorem wc (q:Rat):(qr q).cell 0=.b (decide (q.num<0)):=rfl
theorem xo (q:Rat):(qr q).cell 1=lim (Lb.nat q.num.natAbs):=rfl
theorem xp (q:Rat):(qr q).cell 2=ux q.den:=rfl
theorem Km (a:List UInt32):(lim a).cell 0=lim a:=rfl
theorem UT (x:Bool):(T.b x).cell 0=.b x:=rfl
theorem vL (x:Bool):(T.b x).bool=x:=rfl
def rl (q:Rat):Nat:=max (Lb.nat q.num.natAbs).length (Lb.nat q.den).length
theorem tA {m n:Nat} (h:m≤n):(Lb.nat m).length≤(Lb.nat n).length :=
 Lb.tN _ _ (XS h (by have:=Lb.qV (Lb.nat n);rwa [Lb.pA] at this))
theorem rj (m n:Nat):(Lb.nat (m*n)).length≤(Lb.nat m).length+(Lb.nat n).length :=
 Lb.ub (by have:=Lb.qV (Lb.nat m);rwa [Lb.pA] at this) (by have:=Lb.qV (Lb.nat n);rwa [Lb.pA] at this)
theorem xl (m n:Nat):(Lb.nat (m+n)).length≤max (Lb.nat m).length (Lb.nat n).length+1:=by
 apply Lb.tN;have h1:=Lb.qV (Lb.nat m);have h2:=Lb.qV (Lb.nat n);rw [Lb.pA] at h1 h2;have h3:Lb.B ^ (Lb.nat m).length≤Lb.B ^ max (Lb.nat m).length (Lb.nat n).length:=XC Lb.qL (by omega);have h4:Lb.B ^ (Lb.nat n).length≤Lb.B ^ max (Lb.nat m).length (Lb.nat n).length:=XC Lb.qL (by omega);rw [Xt]
 have:Lb.B ^ max (Lb.nat m).length (Lb.nat n).length*2≤Lb.B ^ max (Lb.nat m).length (Lb.nat n).length*Lb.B:=Yt _ (by decide)
 omega
theorem Ay (s:Bool) (n d:Nat) (hd:d≠0):rl (frac s n d)≤max (Lb.nat n).length (Lb.nat d).length:=by
 unfold rl;rw [Gm s n d hd,Gl s n d hd,GZ];have h1:=tA (YC n (Nat.gcd n d));have h2:=tA (YC d (Nat.gcd n d));omega
theorem Gz (a b:Rat):frac (!(decide (a.num<0) == decide (b.num<0))) (a.num.natAbs*b.num.natAbs) (a.den*b.den)=a*b:=by
 unfold frac;rw [TV,CZ,CZ,Rat.mul_def,←Rat.normalize_eq_mkRat]
theorem LN (a b:Rat):mkRat (a.num*b.den+b.num*a.den) (a.den*b.den)=a+b:=by
 rw [Rat.add_def,←Rat.normalize_eq_mkRat]
theorem Le (s:Bool) (m n:Nat):sg s m+sg s n=sg s (m+n):=by unfold sg;split<;>omega
theorem Ld (s t:Bool) (m n:Nat) (h:(s == t)=false) (P_:n≤m):sg s m+sg t n=sg s (m-n):=by
 unfold sg;cases s<;>cases t<;>simp at h ⊢<;>omega
theorem Lc (s t:Bool) (m n:Nat) (h:(s == t)=false) (P_:m≤n):sg s m+sg t n=sg t (n-m):=by
 unfold sg;cases s<;>cases t<;>simp at h ⊢<;>omega
theorem tP (q:Rat):q.den≠0:=q.den_nz
theorem Fs (a:Rat) (d:Nat):a.num*(d:Int)=sg (decide (a.num<0)) (a.num.natAbs*d):=by
 conv=>lhs;rw [←CZ a.num]
 unfold sg;split<;>simp [Int.neg_mul]
theorem Eb (a b:Rat):rl (a*b)≤rl a+rl b:=by
 rw [←Gz];refine XU (Ay _ _ _ (Nat.mul_ne_zero (tP a) (tP b))) ?_;have h1:=rj a.num.natAbs b.num.natAbs;have h2:=rj a.den b.den;unfold rl;omega
theorem Bb (a b:Rat) (s:Bool) (n:Nat) (h:a.num*b.den+b.num*a.den=sg s n):a+b=frac s n (a.den*b.den):=by
 unfold frac;rw [←h,LN]
theorem Oo (a b:Rat):rl (a+b)≤rl a+rl b+1:=by
 have key:=Bb a b _ _ (CZ (a.num*b.den+b.num*a.den)).symm;rw [key];refine XU (Ay _ _ _ (Nat.mul_ne_zero (tP a) (tP b))) ?_;have h0:(a.num*b.den+b.num*a.den).natAbs≤a.num.natAbs*b.den+b.num.natAbs*a.den:=by
  refine XU (Int.natAbs_add_le _ _) ?_;rw [Int.natAbs_mul,Int.natAbs_mul];simp
 have h1:=rj a.num.natAbs b.den;have h2:=rj b.num.natAbs a.den;have h3:=rj a.den b.den;have h4:=xl (a.num.natAbs*b.den) (b.num.natAbs*a.den);have h5:=tA h0;unfold rl;omega
theorem K0 (a:Rat):rl (-a)=rl a:=by unfold rl;rw [Rat.neg_num,Rat.neg_den,ZS]
theorem Oq (a b:Rat):rl (a-b)≤rl a+rl b+1:=by
 rw [Rat.sub_eq_add_neg]
 have:=Oo a (-b)
 rw [K0] at this;exact this
end Go.Pl
namespace Go.Pq
open Go.Pl Go.Proofs
theorem zN (s:Bool) (n d:Nat) (hn:(Lb.nat n).length≤2 ^ 32) (eZ:(Lb.nat d).length≤2 ^ 32) (hd:d≠0) :
  F 90 [.t 4 (.b s),.t 22 (lim (Lb.nat n)),.t 22 (lim (Lb.nat d))] (zo 3 23) [qr (frac s n d)]:=by
 refine Tc _ _ _ _ ?_;rw [pE,py];refine ⟨fun h=>?_,fun h=>?_⟩
 ·rw [qe] at h
  have:n=0:=Lb.sA.1 (Yf.1 (by omega))
  subst this;rw [DF];exact ⟨a_,rfl,a_⟩
 ·rw [rk] at h
  have fN:n≠0:=by
   intro q;subst q;exact h rfl
  have hg:=J9 (n:=n) hd;have dQ:Lb.nat (Nat.gcd n d)≠[]:=fun q=>hg (Lb.sA.1 q);have c1:=BM (Lb.nat n) (Lb.nat d) hn eZ (Lb.p8 _) (Lb.p8 _);rw [Lb.pA,Lb.pA] at c1;have fE:(Lb.nat (Nat.gcd n d)).length≤2 ^ 32:=XU (tA (Nat.gcd_le_right n (YQ hd))) eZ;have c2:=Aq (Lb.nat n) (Lb.nat (Nat.gcd n d)) hn fE (Lb.p8 _) dQ;have c3:=Aq (Lb.nat d) (Lb.nat (Nat.gcd n d)) eZ fE (Lb.p8 _) dQ;rw [Lb.pA,Lb.pA] at c2 c3;refine ⟨_,c1,_,_,c2,_,_,c3,_,Kz _,?_⟩;rw [xZ s n d hd fN,UT,Km,Km,vL];refine ⟨fun h1=>?_,fun h1=>?_⟩
  ·rw [Xo,yQ] at h1
   rw [h1];exact ⟨a_,rfl,a_⟩
  ·rw [X0,yQ] at h1
   unfold ux;rw [By h1];exact ⟨a_,rfl,a_⟩
theorem Oz {a:List UInt32} (hl:a.length≤2 ^ 60) (hc:Lb.Canon a) :
  (T.ite (ltI 0 (lenOf (lim a).list)) (T.b (eqI (((lim a).list.getD (qc .i64 (lenOf (lim a).list) 1).toNat .u).cell 0).int 0)) (T.b false)).bool=false:=by
 rw [pE,py]
 by_cases h:a=[]
 ·subst h;rfl
 ·have hp:0<a.length:=XB.2 h
  have e:qc .i64 (a.length:Int) 1=((a.length-1:Nat):Int):=by rw [qm (by omega)];omega
  rw [tM,e,WP,qi a (by omega),sC]
  rcases hc with hc | hc
  ·exact absurd hc h
  ·have:eqI ((a.getD (a.length-1) 0).toNat:Int) 0=false:=rk.2 (by unfold Lb.dg at hc;omega)
   rw [this,Bool.and_false]
theorem Oy {a:List UInt32} (hl:a.length≤2 ^ 60) (h:ltI 0 (lenOf (lim a).list)=true) :
  0≤qc .i64 (lenOf (lim a).list) 1∧qc .i64 (lenOf (lim a).list) 1<lenOf (lim a).list:=by
 rw [pE,py,pw] at *;rw [qm (by omega)];omega
theorem wh (q:Rat):(Lb.nat q.num.natAbs).length≤rl q:=by unfold rl;omega
theorem wg (q:Rat):(Lb.nat q.den).length≤rl q:=by unfold rl;omega
theorem Ap {q:Rat} (h:q.num=0):q.den=1:=by
 have:=q.reduced
 rw [h] at this;simpa using this
theorem tx (a:List UInt32):eqI (lenOf (lim a).list) 0=true↔a=[]:=by
 rw [pE,py,qe]
 constructor
 ·intro h;exact Yf.1 (by omega)
 ·intro h;subst h;rfl
theorem ua (a:List UInt32):eqI (lenOf (lim a).list) 0=false↔a≠[]:=by
 rw [←Bool.not_eq_true,tx]
theorem NB (q:Rat) (hq:rl q≤2 ^ 32):F 108 [.t 23 (qr q)] (zo 1 4) [.b true]:=by
 have h1:=wh q;have h2:=wg q;have h3:=Ar q.den;refine O8 _ _ ?_;simp only [wc,xo,xp,vL];unfold ux;have t1:=Oz (a:=Lb.nat q.num.natAbs) (by omega) (Lb.p8 _);have t2:=Oz (a:=dl q.den) (by omega) (Gg _);rw [t1];have e:∀x:T,T.ite false (T.b true) x=x:=fun x=>rfl;rw [e,t2];simp only [e];refine ⟨fun h=>Oy (by omega) h.1,fun h=>Oy (by omega) h.2.1,_,fun _=>Kz _,fun h=>?_,fun h=>⟨fun h4=>?_,fun h4=>?_⟩⟩
 ·rw [vL,Xo] at h
  exact absurd h (HH _)
 ·rw [tx,Lb.sA] at h4
  have hz:q.num=0:=by omega
  have hd:=Ap hz;rw [hz,hd,Dz];exact ⟨a_,rfl,a_⟩
 ·rw [ua] at h4
  by_cases hd:q.den=1
  ·rw [hd,Dz]
   exact ⟨.u,fun h=>(by cases h.1),.u,fun h=>(by cases h.1),a_,rfl,a_⟩
  ·rw [By hd]
   have t_:Lb.nat q.den≠[]:=fun z=>tP q (Lb.sA.1 z);have c1:=BM (Lb.nat q.num.natAbs) (Lb.nat q.den) (by omega) (by omega) (Lb.p8 _) (Lb.p8 _);rw [Lb.pA,Lb.pA,show Nat.gcd q.num.natAbs q.den=1 from q.reduced] at c1;refine ⟨_,fun _=>c1,_,fun _=>Kz _,a_,?_,a_⟩;rw [(ua _).2 t_,show (decide (Lb.nat 1=[1]))=true from Xq Lb.uc];rfl
theorem C2 (q:Rat) (hq:rl q≤2 ^ 32):F 87 [.t 23 (qr q)] (zo 1 23) [qr q]:=by
 refine S9 _ _ ⟨_,NB q hq,fun h=>(by cases h),fun _=>?_⟩;have h1:=wh q;have h2:=wg q;have h3:=Ar q.den;simp only [wc,xo,xp,ux,pE,pT,Yc]
 (try unfold Rm);unfold room
 exact ⟨⟨by omega,by omega⟩,⟨by omega,by omega⟩,a_,rfl,a_⟩
theorem Gf (q:Rat):F 92 [.t 23 (qr q)] (zo 1 22) [lim (Lb.nat q.den)]:=by
 refine Te _ _ ?_;simp only [xp,ux];refine ⟨fun h=>?_,fun h=>?_⟩
 ·rw [tx,As (tP q)] at h
  rw [h,Lb.uc];exact ⟨a_,rfl,a_⟩
 ·rw [ua] at h
  have:q.den≠1:=fun z=>h ((As (tP q)).2 z)
  rw [By this];exact ⟨a_,rfl,a_⟩
theorem TB (q:Rat) (hq:rl q≤2 ^ 32):F 88 [.t 23 (qr q)] (zo 1 23) [qr (-q)]:=by
 refine Ta _ _ ⟨_,C2 q hq,a_,?_,a_⟩;simp only [wc,xo,xp,vL];unfold qr;rw [Rat.neg_num,Rat.neg_den,ZS]
 congr 2
 rw [pE,py]
 by_cases h:q.num=0
 ·rw [h];rfl
 ·have hl:(0:Int)<((Lb.nat q.num.natAbs).length:Int):=by
   have:Lb.nat q.num.natAbs≠[]:=fun z=>h (by have:=Lb.sA.1 z;omega)
   have:=XB.2 this
   omega
  rw [pw.2 hl]
  show T.b _=_
  congr 1
  by_cases h2:q.num<0
  ·simp [h2];omega
  ·simp [h2];omega
end Go.Pq
namespace Go.Pl
theorem KT {a b:Rat} (h1:a.num=b.num) (h2:a.den=b.den):a=b:=Rat.ext h1 h2
theorem yY (a b:Rat):(Lb.nat (a.den*b.den)).length≤rl a+rl b:=by
 have:=rj a.den b.den
 unfold rl;omega
theorem wL (a b:Rat):(Lb.nat (a.num.natAbs*b.den)).length≤rl a+rl b:=by
 have:=rj a.num.natAbs b.den
 unfold rl;omega
theorem Il (a b:Rat):(Lb.nat (a.num.natAbs*b.num.natAbs)).length≤rl a+rl b:=by
 have:=rj a.num.natAbs b.num.natAbs
 unfold rl;omega
theorem uI (a b:Rat):a.den*b.den≠0:=Nat.mul_ne_zero (tP a) (tP b)
def FM (x:Int):Int:=if x<0 then -1 else if 0<x then 1 else 0
def Du (a b:Rat):Int:=FM (a-b).num
def mkQ (a b:Int):Rat:=frac (!(decide (a<0) == decide (b<0))) a.natAbs b.natAbs
theorem Sn {d e:Nat} (hd:d≠0) (he:e≠0) (h:dl d=dl e):d=e:=by
 by_cases h1:d=1
 ·rw [h1,Dz] at h
  rw [h1,(As he).1 h.symm]
 ·by_cases h2:e=1
  ·rw [h2,Dz] at h
   exact absurd ((As hd).1 h) h1
  ·rw [By h1,By h2] at h
   have:=Xx Lb.val h
   rwa [Lb.pA,Lb.pA] at this
theorem QK {m n:Nat} (h:Lb.nat m=Lb.nat n):m=n:=by
 have:=Xx Lb.val h
 rwa [Lb.pA,Lb.pA] at this
theorem Ij {a b:Rat}:a=b↔decide (a.num<0)=decide (b.num<0)∧Lb.nat a.num.natAbs=Lb.nat b.num.natAbs∧dl a.den=dl b.den:=by
 constructor
 ·intro h;subst h;exact ⟨rfl,rfl,rfl⟩
 ·rintro ⟨h1,h2,h3⟩
  refine KT ?_ (Sn (tP a) (tP b) h3);rw [←CZ a.num,←CZ b.num,h1,QK h2]
end Go.Pl
namespace Go.Pq
open Go.Pl Go.Proofs
theorem RZ (a b:Rat) (ha:rl a≤2 ^ 30) (hb:rl b≤2 ^ 30):F 78 [.t 23 (qr a),.t 23 (qr b)] (zo 2 23) [qr (a+b)]:=by
 have a1:=wh a;have a2:=wg a;have b1:=wh b;have b2:=wg b;have m1:=wL a b;have m2:=wL b a;have m3:=yY a b;have c1:=C3 (Lb.nat a.num.natAbs) (Lb.nat b.den) (by omega) (by omega);have c2:=C3 (Lb.nat b.num.natAbs) (Lb.nat a.den) (by omega) (by omega);have c3:=C3 (Lb.nat a.den) (Lb.nat b.den) (by omega) (by omega);rw [Lb.pA,Lb.pA] at c1 c2 c3;have aK:a.num*b.den+b.num*a.den=sg (decide (a.num<0)) (a.num.natAbs*b.den)+sg (decide (b.num<0)) (b.num.natAbs*a.den):=by
  rw [Fs,Fs]
 refine S3 _ _ _ ⟨_,C2 a (by omega),_,C2 b (by omega),_,Gf b,_,c1,_,Gf a,_,c2,_,Gf a,_,Gf b,_,c3,?_⟩;simp only [wc,vL];refine ⟨fun h=>?_,fun h=>?_⟩
 ·have c4:=FA (Lb.nat (a.num.natAbs*b.den)) (Lb.nat (b.num.natAbs*a.den)) (by omega) (by omega)
  rw [Lb.pA,Lb.pA] at c4;have hl:=xl (a.num.natAbs*b.den) (b.num.natAbs*a.den);have c5:=zN (decide (a.num<0)) (a.num.natAbs*b.den+b.num.natAbs*a.den) (a.den*b.den) (by omega) (by omega) (uI a b);rw [←Bb a b _ _ (by rw [aK,←eq_of_beq h,Le])] at c5;exact ⟨_,c4,_,c5,a_,rfl,a_⟩
 ·have c4:=BK (Lb.nat (a.num.natAbs*b.den)) (Lb.nat (b.num.natAbs*a.den)) (by omega) (by omega) (Lb.p8 _) (Lb.p8 _)
  rw [Lb.pA,Lb.pA] at c4;refine ⟨_,c4,fun h1=>?_,fun h1=>?_⟩
  ·rw [pC,Ct] at h1
   have c5:=CI (Lb.nat (a.num.natAbs*b.den)) (Lb.nat (b.num.natAbs*a.den)) (by omega) (by rw [Lb.pA,Lb.pA];exact h1);rw [Lb.pA,Lb.pA] at c5;have hl:=tA (Nat.sub_le (a.num.natAbs*b.den) (b.num.natAbs*a.den));have c6:=zN (decide (a.num<0)) (a.num.natAbs*b.den-b.num.natAbs*a.den) (a.den*b.den) (by omega) (by omega) (uI a b);rw [←Bb a b _ _ (by rw [aK,Ld _ _ _ _ h h1])] at c6;exact ⟨_,c5,_,c6,a_,rfl,a_⟩
  ·rw [pC,zC] at h1
   have c5:=CI (Lb.nat (b.num.natAbs*a.den)) (Lb.nat (a.num.natAbs*b.den)) (by omega) (by rw [Lb.pA,Lb.pA];omega);rw [Lb.pA,Lb.pA] at c5;have hl:=tA (Nat.sub_le (b.num.natAbs*a.den) (a.num.natAbs*b.den));have c6:=zN (decide (b.num<0)) (b.num.natAbs*a.den-a.num.natAbs*b.den) (a.den*b.den) (by omega) (by omega) (uI a b);rw [←Bb a b _ _ (by rw [aK,Lc _ _ _ _ h (by omega)])] at c6;exact ⟨_,c5,_,c6,a_,rfl,a_⟩
theorem T2 (a b:Rat) (ha:rl a≤2 ^ 30) (hb:rl b≤2 ^ 30):F 49 [.t 23 (qr a),.t 23 (qr b)] (zo 2 23) [qr (a-b)]:=by
 have c1:=RZ a (-b) ha (by rw [K0];exact hb);rw [←Rat.sub_eq_add_neg] at c1;exact SJ _ _ _ ⟨_,TB b (by omega),_,c1,a_,rfl,a_⟩
theorem AQ (q:Rat):ltI 0 (lenOf (lim (Lb.nat q.num.natAbs)).list)=true↔q.num≠0:=by
 rw [pE,py,pw]
 constructor
 ·intro h z
  rw [z] at h;exact absurd h (by decide)
 ·intro h
  have:Lb.nat q.num.natAbs≠[]:=fun z=>h (by have:=Lb.sA.1 z;omega)
  have:=XB.2 this
  omega
theorem Nk (q:Rat) (hq:rl q≤2 ^ 32):F 48 [.t 23 (qr q)] (zo 1 2) [.i .i64 (FM q.num)]:=by
 refine SI _ _ ⟨_,C2 q hq,?_⟩;simp only [wc,xo,vL];unfold FM;refine ⟨fun h=>?_,fun h=>⟨fun h1=>?_,fun h1=>?_⟩⟩
 ·rw [Xo] at h
  rw [WY h];exact ⟨a_,rfl,a_⟩
 ·rw [X0] at h
  rw [AQ] at h1;rw [WZ h,WY (by omega)];exact ⟨a_,rfl,a_⟩
 ·rw [X0] at h
  rw [←Bool.not_eq_true,AQ] at h1;rw [WZ h,WZ (by omega)];exact ⟨a_,rfl,a_⟩
theorem EP (a b:Rat) (ha:rl a≤2 ^ 30) (hb:rl b≤2 ^ 30):F 23 [.t 23 (qr a),.t 23 (qr b)] (zo 2 2) [.i .i64 (Du a b)]:=by
 have:=Oq a b
 exact Sz _ _ _ ⟨_,T2 a b ha hb,_,Nk (a-b) (by omega),a_,rfl,a_⟩
theorem Fm (a b:Int) (ha : -9223372036854775808≤a∧a≤9223372036854775807) (hb : -9223372036854775808≤b∧b≤9223372036854775807) (h0:b≠0) :
  F 55 [.t 2 (.i .i64 a),.t 2 (.i .i64 b)] Z1 [qr (mkQ a b),.i .i64 0]:=by
 refine SM _ _ _ _ ⟨fun h=>?_,fun _=>?_⟩
 ·rw [pC,qe] at h;exact absurd h h0
 have two:∀x:Int,-9223372036854775808≤x∧x≤9223372036854775807→x.natAbs<18446744073709551616:=fun x h=>by omega
 have len2:∀n:Nat,n<18446744073709551616→(Lb.nat n).length≤2:=fun n h=>Lb.tN _ _ (by rw [show Lb.B ^ 2=18446744073709551616 from rfl];exact h);have l1:=len2 _ (two a ha);have l2:=len2 _ (two b hb);have c:=zN (!(decide (a<0) == decide (b<0))) a.natAbs b.natAbs (by omega) (by omega) (by omega);exact ⟨_,zZ a ha,_,BZ _ (two a ha),_,zZ b hb,_,BZ _ (two b hb),_,c,a_,rfl,rfl,a_⟩
theorem GW (a b:List UInt32) (ha:a.length≤2 ^ 60):F 89 [.t 22 (lim a),.t 22 (lim b)] (zo 2 4) [.b (decide (a=b))]:=by
 refine Tb _ _ _ (fun k=>k≤a.length∧∀i,i<k→Lb.dg a i=Lb.dg b i) (fun k=>a.length-k) ?_;rw [pE,pE,py,py];refine ⟨fun h=>?_,fun h=>?_⟩
 ·rw [rr] at h
  have:a≠b:=by rintro rfl;exact h rfl
  exact ⟨a_,by simp [this],a_⟩
 ·rw [sq] at h
  have hl:a.length=b.length:=by omega
  refine ⟨⟨0,⟨by omega,fun i hi=>by omega⟩,(by trivial),(by trivial),(by trivial),(by trivial),a_⟩,fun _=>(by trivial),?_⟩;rintro k ⟨hk,he⟩;refine ⟨fun h1=>?_,fun h1=>?_⟩
  ·rw [pw] at h1
   rw [WP,qi a (by omega),qi b (by omega),sC,sC,show (a.getD k 0).toNat=Lb.dg a k from rfl,show (b.getD k 0).toNat=Lb.dg b k from rfl];refine ⟨⟨by omega,by omega⟩,⟨by omega,by omega⟩,fun h2=>?_,fun h2=>?_⟩
   ·rw [rr] at h2
    have:a≠b:=by rintro rfl;exact h2 rfl
    exact ⟨a_,by simp [this],a_⟩
   ·rw [sq] at h2
    refine ⟨k+1,⟨by omega,fun i hi=>?_⟩,by omega,(by trivial),(by trivial),(by trivial),by rw [pt (by omega)];congr 1,a_⟩
    by_cases q:i=k
    ·subst q;omega
    ·exact he i (by omega)
  ·rw [pF] at h1
   have:a=b:=Lb.Sq hl fun i hi=>he i (by omega)
   exact ⟨a_,by simp [this],a_⟩
theorem K4 (a b:Rat) (ha:rl a≤2 ^ 32) (hb:rl b≤2 ^ 32):F 50 [.t 23 (qr a),.t 23 (qr b)] (zo 2 4) [.b (decide (a=b))]:=by
 have a1:=wh a;have a2:=wg a;have a3:=Ar a.den;refine SK _ _ _ ?_;simp only [wc,xo,xp,vL,ux];refine ⟨_,fun _=>GW _ _ (by omega),_,fun _=>GW _ _ (by omega),a_,?_,a_⟩;have key:=Ij (a:=a) (b:=b)
 by_cases h1:decide (a.num<0)=decide (b.num<0)
 ·by_cases h2:Lb.nat a.num.natAbs=Lb.nat b.num.natAbs
  ·by_cases h3:dl a.den=dl b.den
   ·have:a=b:=key.2 ⟨h1,h2,h3⟩
    subst this;simp [T.ite,T.bool]
   ·have:a≠b:=fun e=>h3 (key.1 e).2.2
    simp [T.ite,T.bool,h1,h2,h3,this]
  ·have:a≠b:=fun e=>h2 (key.1 e).2.1
   simp [T.ite,T.bool,h1,h2,this]
 ·have:a≠b:=fun e=>h1 (key.1 e).1
  have hb:(decide (a.num<0) == decide (b.num<0))=false:=by simpa using h1
  rw [hb];simp [T.ite,T.bool,this]
def xi (s:Bool) (n d:Nat):T:=.g [.b s,lim (Lb.nat n),lim (Lb.nat d)]
theorem DY:F 153 [] (zo 0 22) [lim (Lb.nat 1)]:=PD _ ⟨a_,by rw [Lb.uc];rfl,a_⟩
theorem rX {x y:Nat}:F7 x y=0↔x=y:=by
 unfold F7
 by_cases h:x<y
 ·rw [WY h];constructor
  ·intro q;cases q
  ·intro q;omega
 ·rw [WZ h]
  by_cases h2:x=y
  ·rw [WY h2];exact ⟨fun _=>h2,fun _=>rfl⟩
  ·rw [WZ h2];constructor
   ·intro q;cases q
   ·intro q;exact absurd q h2
theorem CR (a:List UInt32) (hl:a.length≤2 ^ 60) (hc:Lb.Canon a):F 151 [.t 22 (lim a)] (zo 1 4) [.b true]:=by
 refine JW _ _ ?_;rw [pE,py]
 by_cases h:a=[]
 ·subst h
  exact ⟨fun q=>(by cases q.1),a_,rfl,a_⟩
 ·have hp:=XB.2 h
  have e:qc .i64 (a.length:Int) 1=((a.length-1:Nat):Int):=by rw [qm (by omega)];omega
  rw [e,WP,qi a (by omega),sC];refine ⟨fun _=>⟨by omega,by omega⟩,a_,?_,a_⟩
  rcases hc with hc | hc
  ·exact absurd hc h
  ·rw [rk.2 (by omega),rr.2 (by unfold Lb.dg at hc;omega)];rfl
theorem FV (q:Rat) (hq:rl q≤2 ^ 32):F 115 [.t 23 (qr q)] (zo 1 4) [.b true]:=by
 have h1:=wh q;have h2:=wg q;have h3:=Ar q.den;refine Au _ _ ⟨_,CR _ (by omega) (Lb.p8 _),_,fun _=>CR _ (by omega) (Gg _),fun h=>(by cases h),fun _=>?_⟩;simp only [wc,xo,xp,vL,ux];refine ⟨fun h4=>?_,fun h4=>?_⟩
 ·rw [tx,Lb.sA] at h4
  have hz:q.num=0:=by omega
  have hd:=Ap hz;rw [hz,hd,Dz];exact ⟨a_,rfl,a_⟩
 ·refine ⟨fun h5=>⟨a_,(by trivial),a_⟩,fun h5=>?_⟩
  rw [ua] at h5;have hd:q.den≠1:=fun z=>h5 ((As (tP q)).2 z);rw [By hd];have c1:=Cu (Lb.nat q.den) (Lb.nat 1) (by omega) (by rw [Lb.uc];decide);rw [Lb.pA,Lb.pA] at c1;have c2:=Qx (Lb.nat q.num.natAbs) (Lb.nat q.den) (by omega) (by omega) (Lb.p8 _) (Lb.p8 _);rw [Lb.pA,Lb.pA,show Nat.gcd q.num.natAbs q.den=1 from q.reduced] at c2;have c3:=Cu (Lb.nat 1) (Lb.nat 1) (by rw [Lb.uc];decide) (by rw [Lb.uc];decide);rw [Lb.pA] at c3;refine ⟨_,DY,_,c1,_,fun _=>c2,_,fun _=>DY,_,fun _=>c3,a_,?_,a_⟩;rw [pC,pC,rr.2 fun z=>hd (rX.1 z),qe.2 (rX.2 rfl)];rfl
theorem QP (q:Rat) (hq:rl q≤2 ^ 32):F 155 [.t 23 (qr q)] (zo 1 23) [xi (decide (q.num<0)) q.num.natAbs q.den]:=by
 refine PF _ _ ⟨_,FV q hq,fun h=>(by cases h),fun _=>?_⟩;simp only [wc,xo,xp,UT,Km,ux];refine ⟨fun h=>?_,fun h=>?_⟩
 ·rw [tx,As (tP q)] at h
  refine ⟨_,DY,a_,?_,a_⟩;unfold xi;rw [h];rfl
 ·rw [ua] at h
  have hd:q.den≠1:=fun z=>h ((As (tP q)).2 z);rw [By hd];exact ⟨a_,rfl,a_⟩
theorem Jo (a:List UInt32) (ha:a.length≤2 ^ 40):F 190 [.t 22 (lim a)] (zo 1 22) [lim a]:=by
 refine P6 _ _ fun y hy=>⟨fun h=>?_,fun h=>?_⟩
 ·have:lim a=.l []:=by
   have:=hy h
   rw [pE] at this;unfold lim;rw [this]
  exact ⟨a_,this.symm,a_⟩
 ·rw [pE,pT]
  (try unfold Rm);unfold room
  exact ⟨⟨by omega,by omega⟩,a_,rfl,a_⟩
theorem Q6 (s:Bool) (n d:Nat) (hn:(Lb.nat n).length≤2 ^ 32) (eZ:(Lb.nat d).length≤2 ^ 32) (hd:d≠0):F 150 [.t 23 (xi s n d)] (zo 1 23) [qr (frac s n d)]:=by
 refine PB _ _ ?_;have e0:(xi s n d).cell 0=.b s:=rfl;have e1:(xi s n d).cell 1=lim (Lb.nat n):=rfl;have e2:(xi s n d).cell 2=lim (Lb.nat d):=rfl;rw [e0,e1,e2];refine ⟨fun h=>?_,fun h=>?_⟩
 ·rw [tx,Lb.sA] at h
  subst h;rw [DF];exact ⟨a_,rfl,a_⟩
 ·rw [ua] at h
  have fN:n≠0:=fun z=>h (Lb.sA.2 z);have hg:=J9 (n:=n) hd;have dQ:Lb.nat (Nat.gcd n d)≠[]:=fun q=>hg (Lb.sA.1 q);have fE:(Lb.nat (Nat.gcd n d)).length≤2 ^ 32:=XU (tA (Nat.gcd_le_right n (YQ hd))) eZ;have l1:(Lb.nat 1).length≤2 ^ 60:=by rw [Lb.uc];decide
  have c1:=Qx (Lb.nat n) (Lb.nat d) hn eZ (Lb.p8 _) (Lb.p8 _);rw [Lb.pA,Lb.pA] at c1;have c2:=Cu (Lb.nat (Nat.gcd n d)) (Lb.nat 1) (by omega) l1;have c3:=KJ (Lb.nat n) (Lb.nat (Nat.gcd n d)) hn fE (Lb.p8 _) dQ;have c4:=KJ (Lb.nat d) (Lb.nat (Nat.gcd n d)) eZ fE (Lb.p8 _) dQ;have fS:=tA (YC d (Nat.gcd n d));have c5:=Cu (Lb.nat (d / Nat.gcd n d)) (Lb.nat 1) (by omega) l1;have c6:=Cu (Lb.nat d) (Lb.nat 1) (by omega) l1;rw [Lb.pA,Lb.pA] at c2 c3 c4 c5 c6;rw [xZ s n d hd fN];refine ⟨_,Jo _ (by omega),_,Jo _ (by omega),_,c1,_,DY,_,c2,fun h1=>?_,fun h1=>?_⟩
  ·refine ⟨_,_,c3,_,_,c4,_,DY,_,c5,fun h2=>?_,fun h2=>?_⟩
   ·rw [pC,qe,rX] at h2
    rw [h2];exact ⟨a_,rfl,a_⟩
   ·rw [pC,rk] at h2
    unfold ux;rw [By fun z=>h2 (rX.2 z)];exact ⟨a_,rfl,a_⟩
  ·rw [pC,sq,rX] at h1
   rw [h1,Zo,Zo];refine ⟨_,DY,_,c6,fun h2=>?_,fun h2=>?_⟩
   ·rw [pC,qe,rX] at h2
    rw [h2];exact ⟨a_,rfl,a_⟩
   ·rw [pC,rk] at h2
    unfold ux;rw [By fun z=>h2 (rX.2 z)];exact ⟨a_,rfl,a_⟩
theorem HZ (s:Bool) (n d:Nat):F 194 [.t 23 (xi s n d)] (zo 1 23) [xi (!s) n d]:=P9 _ _ ⟨a_,rfl,a_⟩
theorem Qv (s t:Bool) (m d n e:Nat) (h1:(Lb.nat m).length≤2 ^ 31) (h2:(Lb.nat d).length≤2 ^ 31) (h3:(Lb.nat n).length≤2 ^ 31) (h4:(Lb.nat e).length≤2 ^ 31) :
  ∃(u:Bool) (k:Nat),sg u k=sg s (m*e)+sg t (n*d)∧k≤m*e+n*d∧F 193 [.t 23 (xi s m d),.t 23 (xi t n e)] (zo 2 23) [xi u k (d*e)]:=by
 have m1:=rj m e;have m2:=rj n d;have c1:=za (Lb.nat m) (Lb.nat e) (by omega) (by omega);have c2:=za (Lb.nat n) (Lb.nat d) (by omega) (by omega);have c3:=za (Lb.nat d) (Lb.nat e) (by omega) (by omega);rw [Lb.pA,Lb.pA] at c1 c2 c3;have c4:=Cu (Lb.nat (m*e)) (Lb.nat (n*d)) (by omega) (by omega);rw [Lb.pA,Lb.pA] at c4
 by_cases hs:(s == t)=true
 ·have z_:=eq_of_beq hs
  subst z_;have c5:=TK (Lb.nat (m*e)) (Lb.nat (n*d)) (by omega) (by omega);rw [Lb.pA,Lb.pA] at c5;refine ⟨s,m*e+n*d,(Le _ _ _).symm,WU _,EU _ _ _ ⟨_,c1,_,c2,_,c3,fun _=>⟨_,c5,a_,rfl,a_⟩,fun h=>?_⟩⟩;exact absurd (show (s == s)=false from h) (by rw [hs];decide)
 ·have bj:(s == t)=false:=by simpa using hs
  by_cases P_:n*d≤m*e
  ·have c5:=CJ (Lb.nat (m*e)) (Lb.nat (n*d)) (by omega) (by rw [Lb.pA,Lb.pA];exact P_)
   rw [Lb.pA,Lb.pA] at c5;refine ⟨s,m*e-n*d,(Ld _ _ _ _ bj P_).symm,by omega,EU _ _ _ ⟨_,c1,_,c2,_,c3,fun h=>absurd (show (s == t)=true from h) hs,fun _=>⟨_,c4,fun _=>⟨_,c5,a_,rfl,a_⟩,fun h=>?_⟩⟩⟩;rw [pC,zC] at h;omega
  ·have c5:=CJ (Lb.nat (n*d)) (Lb.nat (m*e)) (by omega) (by rw [Lb.pA,Lb.pA];omega)
   rw [Lb.pA,Lb.pA] at c5;refine ⟨t,n*d-m*e,(Lc _ _ _ _ bj (by omega)).symm,by omega,EU _ _ _ ⟨_,c1,_,c2,_,c3,fun h=>absurd (show (s == t)=true from h) hs,fun _=>⟨_,c4,fun h=>?_,fun _=>⟨_,c5,a_,rfl,a_⟩⟩⟩⟩;rw [pC,Ct] at h;exact absurd h P_
theorem QI (a b:Rat) (ha:rl a≤2 ^ 30) (hb:rl b≤2 ^ 30):F 166 [.t 23 (qr a),.t 23 (qr b)] (zo 2 23) [qr (a*b)]:=by
 have a1:=wh a;have a2:=wg a;have b1:=wh b;have b2:=wg b;have m1:=Il a b;have m2:=yY a b;have c1:=za (Lb.nat a.num.natAbs) (Lb.nat b.num.natAbs) (by omega) (by omega);have c2:=za (Lb.nat a.den) (Lb.nat b.den) (by omega) (by omega);rw [Lb.pA,Lb.pA] at c1 c2;have c3:=Q6 (!(decide (a.num<0) == decide (b.num<0))) (a.num.natAbs*b.num.natAbs) (a.den*b.den) (by omega) (by omega) (uI a b);rw [Gz] at c3;exact PN _ _ _ ⟨_,QP a (by omega),_,QP b (by omega),_,c1,_,c2,_,c3,a_,rfl,a_⟩
theorem DM (a b:Rat) (ha:rl a≤2 ^ 30) (hb:rl b≤2 ^ 30) (t:Bool) (ht:sg t b.num.natAbs=b.num) :
  ∃y,F 193 [.t 23 (xi (decide (a.num<0)) a.num.natAbs a.den),.t 23 (xi t b.num.natAbs b.den)] (zo 2 23) [y]∧F 150 [.t 23 y] (zo 1 23) [qr (a+b)]:=by
 have a1:=wh a;have a2:=wg a;have b1:=wh b;have b2:=wg b;have m1:=wL a b;have m2:=wL b a;have m3:=yY a b;obtain ⟨u,k,hk,P_,c⟩:=Qv (decide (a.num<0)) t a.num.natAbs a.den b.num.natAbs b.den (by omega) (by omega) (by omega) (by omega);have hl:=tA P_;have jT:=xl (a.num.natAbs*b.den) (b.num.natAbs*a.den);refine ⟨_,c,?_⟩;have c2:=Q6 u k (a.den*b.den) (by omega) (by omega) (uI a b);rw [←Bb a b u k ?_] at c2
 ·exact c2
 ·rw [hk,Fs]
  congr 1
  conv=>lhs;rw [←ht]
  unfold sg;split<;>simp [Int.neg_mul]
theorem Ut (a b:Rat) (ha:rl a≤2 ^ 30) (hb:rl b≤2 ^ 30):F 187 [.t 23 (qr a),.t 23 (qr b)] (zo 2 23) [qr (a+b)]:=by
 obtain ⟨y,c1,c2⟩:=DM a b ha hb (decide (b.num<0)) (CZ _);exact P3 _ _ _ ⟨_,QP a (by omega),_,QP b (by omega),y,c1,_,c2,a_,rfl,a_⟩
theorem UN (a b:Rat) (ha:rl a≤2 ^ 30) (hb:rl b≤2 ^ 30):F 156 [.t 23 (qr a),.t 23 (qr b)] (zo 2 23) [qr (a-b)]:=by
 obtain ⟨y,c1,c2⟩:=DM a (-b) ha (by rw [K0];exact hb) (!decide (b.num<0)) (by
  rw [Rat.neg_num,ZS]
  have:=CZ b.num
  unfold sg at *
  by_cases h:b.num<0
  ·simp [h] at this ⊢;omega
  ·simp [h] at this ⊢;omega)
 rw [Rat.neg_num,Rat.neg_den,ZS] at c1;rw [←Rat.sub_eq_add_neg] at c2;exact PG _ _ _ ⟨_,QP a (by omega),_,QP b (by omega),_,HZ _ _ _,y,c1,_,c2,a_,rfl,a_⟩
theorem vG (q:Rat) (hq:rl q≤2 ^ 32):F 116 [.t 23 (qr q)] (zo 1 2) [.i .i64 (FM q.num)]:=by
 refine Pe _ _ ⟨_,QP q hq,?_⟩;have e0:(xi (decide (q.num<0)) q.num.natAbs q.den).cell 0=.b (decide (q.num<0)):=rfl;have e1:(xi (decide (q.num<0)) q.num.natAbs q.den).cell 1=lim (Lb.nat q.num.natAbs):=rfl;rw [e0,e1,vL];unfold FM;refine ⟨fun h=>?_,fun h=>⟨fun h1=>?_,fun h1=>?_⟩⟩
 ·rw [tx,Lb.sA] at h
  have:q.num=0:=by omega
  rw [this];exact ⟨a_,rfl,a_⟩
 ·rw [Xo] at h1
  rw [WY h1];exact ⟨a_,rfl,a_⟩
 ·rw [X0] at h1
  rw [ua] at h
  have:q.num≠0:=fun z=>h (by rw [z];rfl)
  rw [WZ h1,WY (by omega)];exact ⟨a_,rfl,a_⟩
theorem sZ (a b:Rat) (ha:rl a≤2 ^ 30) (hb:rl b≤2 ^ 30):F 117 [.t 23 (qr a),.t 23 (qr b)] (zo 2 2) [.i .i64 (Du a b)]:=by
 have:=Oq a b
 exact Pf _ _ _ ⟨_,UN a b ha hb,_,vG (a-b) (by omega),a_,rfl,a_⟩
theorem LB (x:Int) (h : -9223372036854775808≤x∧x≤9223372036854775807):F 149 [.t 2 (.i .i64 x)] Z2 [.b (decide (x<0)),lim (Lb.nat x.natAbs)]:=by
 have hB:Lb.B=4294967296:=rfl;have key:∀n:Nat,n<18446744073709551616→F 189 [.t 22 (T.l (((List.replicate 2 (T.i .u32 0)).set 0 (T.i .u32 (pG .u32 (n:Int)))).set 1 (T.i .u32 (pG .u32 (sE .u64 (n:Int) 32)))))] (zo 1 22) [lim (Lb.nat n)]:=by
  intro n hn;have hq:n / Lb.B<Lb.B:=by rw [hB];omega
  rw [Ei,show (n:Int) / 4294967296=((n / Lb.B:Nat):Int) by rw [hB];omega,vq,vr hq];have e:T.l (((List.replicate 2 (T.i .u32 0)).set 0 (lm (UInt32.ofNat (n%Lb.B)))).set 1 (lm (UInt32.ofNat (n / Lb.B))))=lim [UInt32.ofNat (n%Lb.B),UInt32.ofNat (n / Lb.B)]:=rfl;rw [e];have c:=uw [UInt32.ofNat (n%Lb.B),UInt32.ofNat (n / Lb.B)] (by simp);have hv:Lb.val [UInt32.ofNat (n%Lb.B),UInt32.ofNat (n / Lb.B)]=n:=by
   rw [Lb.val,Lb.C8,Lb.ofNat_toNat (XA _ Lb.qL),Lb.ofNat_toNat hq,Yx]
  rw [hv] at c;exact c
 have k:=key x.natAbs (by omega);refine PA _ _ _ ?_;rw [pC];refine ⟨fun h1=>⟨by decide,_,?_,a_,?_,rfl,a_⟩,fun h1=>⟨by decide,_,?_,a_,?_,rfl,a_⟩⟩
 ·rw [pw] at h1
  have:qc .u64 0 (pG .u64 x)=(x.natAbs:Int):=by
   unfold qc pG;rw [zc,zc];omega
  rw [this];exact k
 ·rw [h1];rw [pw] at h1;simp [h1]
 ·rw [pF] at h1
  have:pG .u64 x=(x.natAbs:Int):=by rw [rY (by omega)];omega
  rw [this];exact k
 ·rw [h1];rw [pF] at h1;simp;omega
theorem Kr (a b:Int) (ha : -9223372036854775808≤a∧a≤9223372036854775807) (hb : -9223372036854775808≤b∧b≤9223372036854775807) (h0:b≠0) :
  F 114 [.t 2 (.i .i64 a),.t 2 (.i .i64 b)] Z1 [qr (mkQ a b),.i .i64 0]:=by
 refine Pd _ _ _ _ ⟨fun h=>?_,fun _=>?_⟩
 ·rw [pC,qe] at h;exact absurd h h0
 have len2:∀n:Nat,n<18446744073709551616→(Lb.nat n).length≤2:=fun n h=>Lb.tN _ _ (by rw [show Lb.B ^ 2=18446744073709551616 from rfl];exact h);have l1:=len2 a.natAbs (by omega);have l2:=len2 b.natAbs (by omega);have c:=Q6 (!(decide (a<0) == decide (b<0))) a.natAbs b.natAbs (by omega) (by omega) (by omega);exact ⟨_,_,LB a ha,_,_,LB b hb,_,c,a_,rfl,rfl,a_⟩
end Go.Pq
namespace Go.Pl
def tI (l:List Rat):List T:=l.map qr
def pO (l:List Rat):T:=.l (tI l)
theorem rL (l:List Rat):(pO l).list=tI l:=rfl
theorem wK (l:List Rat):(tI l).length=l.length:=by simp [tI]
theorem HS (l:List Rat):lenOf (tI l)=(l.length:Int):=by simp [lenOf,tI]
theorem tJ (l:List Rat) {i:Nat} (h:i<l.length):(tI l).getD i .u=qr (l.getD i 0):=by
 simp [tI,WM,h]
theorem qu (q:Rat):(qr q).part 0 3=qr q:=rfl
theorem zV {x:Int}:FM x<0↔x<0:=by unfold FM;split<;>(try split)<;>omega
theorem wM {x:Int}:0<FM x↔0<x:=by unfold FM;split<;>(try split)<;>omega
theorem GE {q:Rat}:q.num<0↔q<0:=by
 rw [Rat.lt_iff];simp
theorem B0 {q:Rat}:0<q.num↔0<q:=by
 rw [Rat.lt_iff];simp
theorem F9 {a b:Rat}:Du a b<0↔a<b:=by
 unfold Du;rw [zV,GE,Rat.sub_lt_iff,Rat.zero_add]
theorem zD {a b:Rat}:0<Du a b↔b<a:=by
 unfold Du;rw [wM,B0,←Rat.lt_iff_sub_pos]
theorem EM {a b:Rat}:Du a b≤0↔a≤b:=by
 rw [←Int.not_lt,zD,Rat.not_lt]
theorem vS {a b:Rat}:Du a b=0↔a=b:=by
 constructor
 ·intro h
  have h1:¬ a<b:=by rw [←F9];omega
  have h2:¬ b<a:=by rw [←zD];omega
  rw [Rat.not_lt] at h1 h2;exact Rat.le_antisymm h2 h1
 ·intro h
  subst h;have h1:¬ Du a a<0:=by rw [F9];exact YZ
  have h2:¬ 0<Du a a:=by rw [zD];exact YZ
  omega
theorem CK (n:Int):mkQ n 1=(n:Rat):=by
 unfold mkQ frac;have e:sg (!(decide (n<0) == decide ((1:Int)<0))) n.natAbs=n:=by
  have:=CZ n
  unfold sg at *
  by_cases h:n<0
  ·simp [h] at this ⊢;omega
  ·simp [h] at this ⊢;omega
 rw [e];exact Rat.mkRat_one n
theorem B7:rl 1=1:=by decide
def Share (q:Rat):Prop:=0≤q∧q≤1
end Go.Pl
namespace Go.Pq
open Go.Pl Go.Proofs
theorem NF (n:Int) (h : -9223372036854775808≤n∧n≤9223372036854775807):F 56 [.t 2 (.i .i64 n)] (zo 1 23) [qr (n:Rat)]:=by
 have c:=Fm n 1 h (by decide) (by decide);rw [CK] at c;exact SN _ _ ⟨_,_,c,a_,rfl,a_⟩
end Go.Pq
namespace Go.Pl
def Bo (l:List Rat):Rat:=l.foldl (·+·) 0
theorem yg (l:List Rat) {k:Nat} (h:k<l.length):Bo (l.take (k+1))=Bo (l.take k)+l.getD k 0:=by
 unfold Bo;rw [W9 h,List.foldl_append,WM,WL h];rfl
theorem Be:rl 0=1:=by decide
theorem Q9 (l:List Rat) (c:Nat) (h:∀q∈l,rl q≤c):∀k,k≤l.length→rl (Bo (l.take k))≤1+k*(c+1):=by
 intro k
 induction k with
 | zero=>intro _;simp [Bo,Be]
 | succ k ih =>
  intro hk;rw [yg l (by omega)];have h1:=Oo (Bo (l.take k)) (l.getD k 0);have h2:rl (l.getD k 0)≤c:=by
   rw [WM,WL (by omega)];exact h _ (YE _)
  have h3:=ih (by omega);rw [Xe];omega
end Go.Pl
namespace Go.Pq
open Go.Pl Go.Proofs
theorem ww {l:List Rat} {k:Nat} (h:k<l.length):l.getD k 0∈l:=by
 rw [WM,WL h];exact YE _
end Go.Pq
namespace Go.Pl
def ta (m:List (List Rat)):List T:=m.map pO
def p9 (m:List (List Rat)):T:=.l (ta m)
def ry (l:List Nat):List T:=l.map fun x:Nat=>T.i .i64 (x:Int)
def qH (l:List Nat):T:=.l (ry l)
def ul (l:List Bool):List T:=l.map T.b
def rP (l:List Bool):T:=.l (ul l)
structure Md where
 sym:Nat
 st:Nat
 empty:Rat
 init:List Rat
 trans:List (List Rat)
 stop:List Rat
 emit:List (List Rat)
 ties:List Nat
def rx (h:Md):T:=.g [.i .i64 (h.sym:Int),.i .i64 (h.st:Int),.b (decide (h.empty.num<0)),lim (Lb.nat h.empty.num.natAbs),ux h.empty.den,
 pO h.init,p9 h.trans,pO h.stop,p9 h.emit,rP (List.replicate h.st false),qH h.ties]
theorem rt (m:List (List Rat)):(p9 m).list=ta m:=rfl
theorem Bf (m:List (List Rat)):(ta m).length=m.length:=by simp [ta]
theorem vn (m:List (List Rat)):lenOf (ta m)=(m.length:Int):=by simp [lenOf,ta]
theorem rM (m:List (List Rat)) {i:Nat} (h:i<m.length):(ta m).getD i .u=pO (m.getD i []):=by
 simp [ta,WM,h]
theorem vY (l:List Nat):(qH l).list=ry l:=rfl
theorem qX (l:List Nat):(ry l).length=l.length:=by simp [ry]
theorem HR (l:List Nat):lenOf (ry l)=(l.length:Int):=by simp [lenOf,ry]
theorem xM (l:List Nat) {i:Nat} (h:i<l.length):(ry l).getD i .u=.i .i64 ((l.getD i 0:Nat):Int):=by
 simp [ry,WM,h]
theorem uE (l:List Bool):(rP l).list=ul l:=rfl
theorem Af (l:List Bool):(ul l).length=l.length:=by simp [ul]
theorem AE (l:List Bool):lenOf (ul l)=(l.length:Int):=by simp [lenOf,ul]
theorem wo (l:List Bool) {i:Nat} (h:i<l.length):(ul l).getD i .u=.b (l.getD i false):=by
 simp [ul,WM,h]
theorem qS (l:List Rat):(pO l).cell 0=pO l:=rfl
structure rV (h:Md) (c:Nat):Prop where
 sym:1≤h.sym∧h.sym≤8
 st:1≤h.st∧h.st≤8
 cc:1≤c∧c≤2 ^ 10
 init:h.init.length=h.st
 trans:h.trans.length=h.st
 stop:h.stop.length=h.st
 emit:h.emit.length=h.st
 ties:h.ties.length=h.st
 rows:∀r∈h.trans,r.length=h.st
 shows:∀r∈h.emit,r.length=h.sym
 tie:∀t∈h.ties,t<h.st
 q0:rl h.empty≤c∧Share h.empty
 q1:∀q∈h.init,rl q≤c∧Share q
 q2:∀r∈h.trans,∀q∈r,rl q≤c∧Share q
 q3:∀q∈h.stop,rl q≤c∧Share q
 q4:∀r∈h.emit,∀q∈r,rl q≤c∧Share q
 s0:h.empty+Bo h.init=1
 s1:∀i,i<h.st→h.stop.getD i 0+Bo (h.trans.getD i [])=1
 s2:∀r∈h.emit,Bo r=1
 tied:∀i j,i<h.st→j<i→h.ties.getD i 0=h.ties.getD j 0→h.emit.getD i []=h.emit.getD j []
open Go.RowKit
def C1 (xs:List (TypeId×T)):List Arg:=xs.map fun p=>Arg.t p.1 p.2
theorem Ad:∀(xs:List (TypeId×T)) (j:Nat) (k:Key) (e:Ent),(rO j (C1 xs)).get k=some e→∃i c x,xs[i]?=some (c,x)∧k=pp (j+i)∧e=top (.t c x):=by
 intro xs
 induction xs with
 | nil=>intro j k e h;cases h
 | cons p r ih =>
  intro j k e h;obtain ⟨c,x⟩:=p;simp only [C1,XP,rO,St.get] at h;split at h
  ·rename_i hk
   exact ⟨0,c,x,rfl,(Key.qs.1 hk).symm,(W3 h).symm⟩
  ·obtain ⟨i,c',x',h1,h2,h3⟩:=ih (j+1) k e h
   exact ⟨i+1,c',x',h1,by rw [h2];congr 1;omega,h3⟩
theorem EI:∀(xs:List (TypeId×T)) (j:Nat),sY j (C1 xs)=[]:=by
 intro xs
 induction xs with
 | nil=>intro j;rfl
 | cons p r ih=>intro j;exact ih (j+1)
theorem Fn.calls {P:Program} {tab:Tab} {f:FuncId} {fn:Func} {c:Code} {xs:List (TypeId×T)} {ty:TypeId} {y:T} (hF:Fn P tab f (C1 xs) [(pp xs.length,ty,false)] [y]) (hf:P.funcs[f]?=some fn)
  (bP : (fn.name == "runtime.NumGoroutine") = false) (hb : fn.body = some c) (w : World) (vals : Array Value) (f_ : vals.size = xs.length)
  (hV:∀(i:Nat) c x v,xs[i]?=some (c,x)→vals[i]?=some v→V tab w (fun _=>False) c v x) :
  Calls P f vals w fun e w'=>∃v,e=.returned v∧Below w.heap.size w w'∧∃O,V tab w' O ty v y:=by
 have z_:Stays w w (fun _=>False) (Ob ⟨w.heap.size,w,fun _=>False,fun b=>∃k:Key,(fun _=>none:Key→Option Nat) k=some b⟩ fun _=>none):=by
  intro b _ _;refine ⟨rfl,fun h=>?_⟩
  rcases h with h | ⟨k,h⟩
  ·exact h
  ·cases h
 have hrel:Rel tab ⟨w.heap.size,w,fun _=>False,fun b=>∃k,(fun _=>none:Key→Option Nat) k=some b⟩ vals w (rO 0 (C1 xs)) (fun _=>none):=by
  refine ⟨rfl,rfl,rfl,WU _,fun _ _ _=>rfl,fun b h=>h.elim,(fun _ _ _ h=>by cases h),(fun _ _ h=>by cases h),?_,?_,?_⟩
  ·intro s n e he
   obtain ⟨i,c,x,-,hk,-⟩:=Ad xs 0 _ _ he;exact absurd hk.symm px
  ·intro s n e he
   obtain ⟨i,c,x,-,hk,-⟩:=Ad xs 0 _ _ he;exact absurd hk.symm pK
  ·intro k e he
   obtain ⟨i,c,x,hx,rfl,rfl⟩:=Ad xs 0 _ _ he;have hi:i<vals.size:=by rw [f_];exact (WQ.1 hx).1
   refine ⟨vals[i],?_,fun _=>?_,fun q=>absurd trivial q⟩
   ·rw [pz,WV,W6 hi]
   ·exact V.mono z_ (hV i c x _ hx (W6 hi))
 have hl:(C1 xs).length=xs.length:=by simp [C1]
 have h:=hF.run w (fun _=>False) vals (fun _=>none) (by rw [hl];exact f_) hrel;have aY:(callFunc f vals).run P w=.ok (.enter f vals) w:=by
  have : ¬ fn.name = "runtime.NumGoroutine" := by simpa using bP
  simp [callFunc,hf,this,hb]
 unfold CallsF at h;rw [aY] at h;refine Calls.mono h ?_;rintro e w' ⟨v,rfl,γ',hr⟩;refine ⟨v,rfl,⟨hr.os,hr.tape,hr.output,hr.size,fun b hb=>hr.old b hb (fun ⟨k,hk⟩=>by cases hk)⟩,?_⟩;have Q_:sO (C1 xs) [(pp xs.length,ty,false)] [y]=[(pp xs.length,top (.t ty y))]:=by
  unfold sO;rw [EI];rfl
 rw [Q_] at hr;obtain ⟨u,hu,hv,-⟩:=hr.ent (pp xs.length) (top (.t ty y)) (by simp only [St.get];rw [Key.qs.2 rfl]);rw [pz,←f_] at hu
 have:u=v:=by simpa using hu.symm
 subst this;exact ⟨_,hv trivial⟩
end Go.Pl
namespace Go.Pq
open Go.Pl Go.Proofs
end Go.Pq
namespace Go.Pl
theorem pN {α:Type} {l:List α} {d:α} {i:Nat} (h:i<l.length):l.getD i d∈l:=by
 rw [WM,WL h];exact YE _
theorem tS (h:Md):(G11 (rx h))=rx h:=rfl
theorem xK (h:Md):T.g [(rx h).cell 2,(rx h).cell 3,(rx h).cell 4]=qr h.empty:=rfl
theorem Kd (h:Md):((rx h).cell 0).int=(h.sym:Int):=rfl
theorem BR (h:Md):((rx h).cell 1).int=(h.st:Int):=rfl
theorem xL (h:Md):(rx h).cell 5=pO h.init:=rfl
theorem vW (h:Md):(rx h).cell 6=p9 h.trans:=rfl
theorem zH (h:Md):(rx h).cell 7=pO h.stop:=rfl
theorem wz (h:Md):(rx h).cell 8=p9 h.emit:=rfl
theorem yK (h:Md):(rx h).cell 9=rP (List.replicate h.st false):=rfl
theorem zI (h:Md):(rx h).cell 10=qH h.ties:=rfl
section
variable {h:Md} {c:Nat} (hk:rV h c) {i:Nat} (hi:i<h.st)
include hk hi
theorem rV.tr:(p9 h.trans).list.getD (i:Int).toNat T.u=pO (h.trans.getD i []):=by
 rw [WP,rt];exact rM _ (by have:=hk.trans;omega)
theorem rV.em:(p9 h.emit).list.getD (i:Int).toNat T.u=pO (h.emit.getD i []):=by
 rw [WP,rt];exact rM _ (by have:=hk.emit;omega)
theorem rV.sp:(pO h.stop).list.getD (i:Int).toNat T.u=qr (h.stop.getD i 0):=by
 rw [WP,rL];exact tJ _ (by have:=hk.stop;omega)
theorem rV.it:(pO h.init).list.getD (i:Int).toNat T.u=qr (h.init.getD i 0):=by
 rw [WP,rL];exact tJ _ (by have:=hk.init;omega)
theorem rV.si:(rP (List.replicate h.st false)).list.getD (i:Int).toNat T.u=.b false:=by
 rw [WP,uE,wo _ (by simpa using hi)];simp [WM,hi]
theorem rV.ti:(qH h.ties).list.getD (i:Int).toNat T.u=.i .i64 ((h.ties.getD i 0:Nat):Int):=by
 rw [WP,vY];exact xM _ (by have:=hk.ties;omega)
theorem rV.trl:(h.trans.getD i []).length=h.st:=hk.rows _ (pN (by have:=hk.trans;omega))
theorem rV.eml:(h.emit.getD i []).length=h.sym:=hk.shows _ (pN (by have:=hk.emit;omega))
theorem rV.trq:∀q∈h.trans.getD i [],rl q≤c∧Share q:=hk.q2 _ (pN (by have:=hk.trans;omega))
theorem rV.emq:∀q∈h.emit.getD i [],rl q≤c∧Share q:=hk.q4 _ (pN (by have:=hk.emit;omega))
theorem rV.til:h.ties.getD i 0<h.st:=hk.tie _ (pN (by have:=hk.ties;omega))
end
theorem tz (m:List (List Rat)):lenOf (p9 m).list=(m.length:Int):=by rw [rt,vn]
theorem qj (m:List Rat):lenOf (pO m).list=(m.length:Int):=by rw [rL,HS]
theorem xP (m:List Bool):lenOf (rP m).list=(m.length:Int):=by rw [uE,AE]
theorem qZ (m:List Nat):lenOf (qH m).list=(m.length:Int):=by rw [vY,HR]
theorem rT (x:Int):neI x x=false:=sq.2 rfl
theorem wr (x:Int):eqI x x=true:=qe.2 rfl
end Go.Pl
namespace Go.Pq
open Go.Pl Go.Proofs
theorem EK {w:World} {s:Go.Addr} {k:Nat} {v:Value} (b_:s.block<w.heap.size) (h:w.cell? (s.add k)=some v) (o1 o2 o3 o4 o5:Obj) :
  (((((w.alloc o1).alloc o2).alloc o3).alloc o4).alloc o5).cell? (s.add k)=some v:=by
 have e:(s.add k).block=s.block:=by
  unfold Go.Addr.add;split<;>rfl
 have hs:∀(u:World) (o:Obj),(u.alloc o).heap.size=u.heap.size+1:=by
  intro u o;exact Array.size_push _
 rw [World.cell?_alloc_lt _ _ _ (by rw [e];simp only [hs];omega),World.cell?_alloc_lt _ _ _ (by rw [e];simp only [hs];omega),World.cell?_alloc_lt _ _ _ (by rw [e];simp only [hs];omega),
  World.cell?_alloc_lt _ _ _ (by rw [e];simp only [hs];omega),World.cell?_alloc_lt _ _ _ (by rw [e];omega),h]
theorem pY (u:World) (o:Obj):(u.alloc o).heap.size=u.heap.size+1:=Array.size_push _
theorem wb {u:World} {b:Nat} (h:b<u.heap.size) (o:Obj):(u.alloc o).heap[b]?=u.heap[b]? := ZH h |>.trans (W6 h).symm
theorem H7 {w:World} {b:Nat} (h:b<w.heap.size) (o1 o2 o3 o4 o5:Obj):(((((w.alloc o1).alloc o2).alloc o3).alloc o4).alloc o5).heap[b]?=w.heap[b]? := by
 rw [wb (by simp only [pY];omega),wb (by simp only [pY];omega),wb (by simp only [pY];omega),wb (by simp only [pY];omega),wb h]
set_option maxHeartbeats 4000000 in
theorem Fu (n cap:Nat) (w:World) (s:Go.Addr) (c0 c2 c3 c4 c5 c6 c7 c8 c10:Value) (hn:n≤1000) (b_:s.block<w.heap.size) (hb:∀i,i<n→w.cell? (s.add i)=some (.bool false)) :
  Calls Tryz.prog 111 #[.agg #[c0,.int .i64 n,c2,c3,c4,c5,c6,c7,c8,.slice (some s) n cap,c10]] w fun e w'=>e=.returned (.tuple #[.slice none 0 0,.bool true])∧w'.os=w.os∧w'.tape=w.tape∧w'.output=w.output∧w.heap.size≤w'.heap.size∧∀b,b<w.heap.size→w'.heap[b]?=w.heap[b]? := by
 have kG:=run_make_row' (P:=Tryz.prog) 28 3 (.int .i64 0) 8 Tryz.underlying28 (by kernel_rfl) rfl .i64 .i64 n (by omega) (by omega)
 go_enter Tryz.func111,Tryz.ntmps111
 go_wp2
 go_loop [14] (fun i=>∃k:Nat,k≤n∧i=.int .i64 k) (fun i=>n-(Go.RowKit.intOf i).toNat)
 case atStart=>exact ⟨0,WS _,rfl⟩
 case round =>
  obtain ⟨k,hk,rfl⟩:=hrel
  by_cases eH:k<n
  ·have G_:∀o1 o2 o3 o4 o5,(((((w.alloc o1).alloc o2).alloc o3).alloc o4).alloc o5).cell? (s.add k)=some (.bool false):=by
    intro o1 o2 o3 o4 o5;exact EK b_ (hb k eH) o1 o2 o3 o4 o5
   clear hb
   go_wp2
   refine ⟨⟨k+1,by omega,by push_cast;rfl⟩,?_⟩;simp only [RowKit.intOf];omega
  ·clear hb
   go_wp2
   go_loop [2,3] (fun i j=>i=.int .i64 0∧j=.int .i64 (-1)) (fun _ _=>0)
   case atStart=>exact ⟨rfl,rfl⟩
   case round =>
    obtain ⟨rfl,rfl⟩:=hrel
    go_wp2
    refine bodyPost_end (results_none (by kernel_rfl) _ _ _) (by rfl) ?_;simp only []
    go_at_K
    go_wp2
    go_ret2
    refine ⟨rfl,rfl,rfl,rfl,?_,?_⟩
    ·simp only [pY]
     omega
    ·intro b hb
     exact H7 hb _ _ _ _ _
theorem Uq {tab:Tab} {w:World} {O:Nat→Prop} {c:TypeId} {v:Value} {x:T} {ti:TI} (ht:tab.at c=some (c,ti)) (hs:ti.isS=true) (h:V tab w O c v x) :
  ∃vs,v=.agg vs∧vs.size=ti.cells∧∀(j:Nat) y ty,x.leaves[j]?=some y→(ti.lv c)[j]?=some ty→∃u,vs[j]?=some u∧L tab w O ty u y:=by
 obtain ⟨ti',h1,h2,h3,h4,h5,h6⟩:=h
 have:=h1.symm.trans ht
 simp only [WJ,WK,W5] at this;subst this;rw [hs] at h3
 match v,h3 with
 | .agg vs,_=>exact ⟨vs,rfl,h4,h6⟩
theorem QV {tab:Tab} {w w':World} {A:Nat→Prop} {vals:Array Value} {γ:Key→Option Nat} {args:List Arg} {c1 c2:TypeId} {v1 v2:Value} {y1 y2:T} {σ:St}
  (hr:Rel tab ⟨w.heap.size,w,A,fun b=>∃k,γ k=some b⟩ vals w σ γ) (f_:vals.size=args.length) (hb:sY 0 args=[])
  (cK:w'.os=w.os) (Y_:w'.tape=w.tape) (Q_:w'.output=w.output) (Z_:w.heap.size≤w'.heap.size) (x_:∀b,b<w.heap.size→w'.heap[b]?=w.heap[b]?)
  (h1:∀O,V tab w' O c1 v1 y1) (h2:∀O,V tab w' O c2 v2 y2) :
  ∃γ',Rel tab ⟨w.heap.size,w,A,fun b=>∃k,γ k=some b⟩ (vals.push (.tuple #[v1,v2])) w' (sO args [(comp args.length 0,c1,false),(comp args.length 1,c2,false)] [y1,y2]) γ' := by
 have z_:sO args [(comp args.length 0,c1,false),(comp args.length 1,c2,false)] [y1,y2]=[(pp args.length,top (.tup 0)),(comp args.length 0,top (.t c1 y1)),(comp args.length 1,top (.t c2 y2))]:=by
  unfold sO;rw [hb];rfl
 rw [z_];have o_:∀k e,St.get [(pp args.length,top (.tup 0)),(comp args.length 0,top (.t c1 y1)),(comp args.length 1,top (.t c2 y2))] k=some e →
   (k=pp args.length∧e=top (.tup 0))∨(k=comp args.length 0∧e=top (.t c1 y1))∨(k=comp args.length 1∧e=top (.t c2 y2)):=by
  intro k e he;simp only [St.get] at he;split at he
  ·rename_i hk;exact .inl ⟨(Key.qs.1 hk).symm,(W3 he).symm⟩
  ·split at he
   ·rename_i hk;exact .inr (.inl ⟨(Key.qs.1 hk).symm,(W3 he).symm⟩)
   ·split at he
    ·rename_i hk;exact .inr (.inr ⟨(Key.qs.1 hk).symm,(W3 he).symm⟩)
    ·cases he
 have be:(vals.push (Value.tuple #[v1,v2]))[args.length]?=some (.tuple #[v1,v2]):=by
  rw [←f_];simp
 refine ⟨fun _=>none,⟨cK,Y_,Q_,Z_,fun b s_ _=>x_ b s_,hr.low,?_,?_,?_,?_,?_⟩⟩
 ·intro k k' b h;cases h
 ·intro k b h;cases h
 ·intro s n e he
  rcases o_ _ _ he with ⟨q,-⟩ | ⟨q,-⟩ | ⟨q,-⟩
  ·exact absurd q.symm px
  ·exact absurd q pS
  ·exact absurd q pS
 ·intro s j e he
  have hs:s=args.length:=by
   rcases o_ _ _ he with ⟨q,-⟩ | ⟨q,-⟩ | ⟨q,-⟩
   ·exact absurd q.symm pK
   ·simp only [comp,Key.mk.injEq] at q;exact q.2.1
   ·simp only [comp,Key.mk.injEq] at q;exact q.2.1
  subst hs;refine ⟨[],0,?_⟩;simp only [St.get];split
  ·rfl
  ·rename_i hk;exact absurd (Key.qs.2 rfl) (by rw [hk];decide)
 ·intro k e he
  rcases o_ _ _ he with ⟨rfl,rfl⟩ | ⟨rfl,rfl⟩ | ⟨rfl,rfl⟩
  ·exact ⟨_,by rw [pz];exact be,fun _=>.inl ⟨_,rfl⟩,fun q=>absurd trivial q⟩
  ·refine ⟨v1,?_,fun _=>h1 _,fun q=>absurd trivial q⟩
   simp [pJ,comp,be];rfl
  ·refine ⟨v2,?_,fun _=>h2 _,fun q=>absurd trivial q⟩
   simp [pJ,comp,be];rfl
theorem QU {h:Md} {c:Nat} (H:rV h c):F 111 [.t 29 (rx h)] Z5 [.l [],.b true]:=by
 refine wk Tryz.func111 (by kernel_rfl) (c:=tO Tryz.f111) (by kernel_rfl) fun w A vals γ f_ hr=>?_
 obtain ⟨v0,v_,eB,-⟩:=hr.ent (pp 0) (top (.t 29 (rx h))) rfl;have hV:V tab w _ 29 v0 (rx h):=eB trivial;rw [pz] at v_;have evals:vals=#[v0]:=by
  apply Ze
  ·simp [f_]
  ·intro i h1 h2
   have jq:i=0:=by
    have:i<1:=by simpa using h2
    omega
   subst jq;rw [W6 h1] at v_;simpa using v_
 obtain ⟨t29,eO⟩:∃t,tab.at 29=some (29,t)∧t.isS=true∧t.cells=11∧(t.lv 29)[1]?=some 2∧(t.lv 29)[9]?=some 27:=⟨((tab.at 29).map Prod.snd).getD default,by kernel_rfl,by kernel_rfl,by kernel_rfl,by kernel_rfl,by kernel_rfl⟩;obtain ⟨vs,rfl,bm,G_⟩:=Uq eO.1 eO.2.1 hV;rw [eO.2.2.1] at bm;obtain ⟨u1,kf,l1⟩:=G_ 1 (.i .i64 (h.st:Int)) 2 rfl eO.2.2.2.1;obtain ⟨u9,mV,l9⟩:=G_ 9 (rP (List.replicate h.st false)) 27 rfl eO.2.2.2.2;have e1:u1=.int .i64 (h.st:Int):=by cases l1;rfl
 have i_:(ul (List.replicate h.st false)).length=h.st:=by simp [ul]
 have oy:∃a cap,u9=.slice (some a) h.st cap∧∀i,i<h.st→w.cell? (a.add i)=some (.bool false):=by
  have e27:∃t27:TI,tab.at 27=some (27,t27)∧t27.k=.sl 4:=⟨⟨.sl 4,1,24,[],.l []⟩,by kernel_rfl,rfl⟩;obtain ⟨t27,q1,q2⟩:=e27;have bc:∀{O:Nat→Prop} {v:Value} {xs:List T},L tab w O 27 v (.l xs)→0<xs.length→∃(ce:TypeId) (te:TI) (a:Go.Addr) (cap:Nat) (vz:Nat→Nat→Value),v=.slice (some a) xs.length cap∧tab.at 4=some (ce,te) ∧
    (∀(j:Nat) (x:T) (n:Nat) (y:T),xs[j]?=some x→x.leaves[n]?=some y→w.cell? (a.add (j*te.cells+n))=some (vz j n)) ∧
    (∀(j:Nat) (x:T) (n:Nat) (y:T) (ty:TypeId),xs[j]?=some x→x.leaves[n]?=some y→(te.lv ce)[n]?=some ty→L tab w O ty (vz j n) y):=by
   intro O v xs hL r_
   cases hL with
   | nil _ _=>simp at r_
   | @sl c ti e ce te a cap xs hh hk he hp B_ hm ho vz hg eN hl =>
    have:=q1.symm.trans hh
    simp only [WJ,WK,W5] at this;subst this;rw [hk] at q2;simp only [K.sl.injEq] at q2;subst q2;exact ⟨ce,te,a,cap,vz,rfl,he,eN,hl⟩
  obtain ⟨ce,te,a,cap,vz,rfl,he,eN,hl⟩:=bc l9 (by rw [i_];exact H.st.1);rw [i_];refine ⟨a,cap,rfl,fun i hi=>?_⟩;have hx:(ul (List.replicate h.st false))[i]?=some (T.b false):=by simp [ul,hi]
  obtain ⟨t4,r1,r2,r3⟩:∃t4:TI,tab.at 4=some (4,t4)∧t4.cells=1∧(t4.lv 4)[0]?=some 4:=⟨⟨.bool,1,1,[],.b false⟩,by kernel_rfl,rfl,rfl⟩
  have:=r1.symm.trans he
  simp only [WJ,WK] at this;obtain ⟨rfl,rfl⟩:=this;have hc:=eN i (T.b false) 0 (T.b false) hx rfl;have hL:=hl i (T.b false) 0 (T.b false) 4 hx rfl r3;rw [r2,Yq,XW] at hc;rw [hc]
  generalize vz i 0=q at hL ⊢
  cases hL;rfl
 obtain ⟨a,cap,rfl,fW⟩:=oy;have lO:vs=#[vs[0]!,.int .i64 (h.st:Int),vs[2]!,vs[3]!,vs[4]!,vs[5]!,vs[6]!,vs[7]!,vs[8]!,.slice (some a) h.st cap,vs[10]!]:=by
  subst e1;apply Ze
  ·simp [bm]
  ·intro i h1 h2
   have hi:i<11:=by simpa using h2
   have hg:vs[i]! = vs[i]:=by simp [h1]
   match i,hi with
   | 0,_=>exact hg.symm
   | 1,_=>rw [W6 h1] at kf;simpa using kf
   | 2,_=>exact hg.symm
   | 3,_=>exact hg.symm
   | 4,_=>exact hg.symm
   | 5,_=>exact hg.symm
   | 6,_=>exact hg.symm
   | 7,_=>exact hg.symm
   | 8,_=>exact hg.symm
   | 9,_=>rw [W6 h1] at mV;simpa using mV
   | 10,_=>exact hg.symm
 have b_:a.block<w.heap.size:=by
  have hz:=fW 0 (by have:=H.st.1;omega)
  have:=World.block_lt_of_cell? w _ hz
  unfold Go.Addr.add at this;split at this<;>exact this
 have fX:=Fu h.st cap w a vs[0]! vs[2]! vs[3]! vs[4]! vs[5]! vs[6]! vs[7]! vs[8]! vs[10]! (by have:=H.st.2;omega) b_ fW;rw [←lO] at fX;rw [evals] at hr ⊢;refine fX.mono ?_;rintro r w' ⟨rfl,q1,q2,q3,q4,q5⟩;refine ⟨_,rfl,QV hr rfl rfl q1 q2 q3 q4 q5 ?_ ?_⟩
 ·intro O
  have e1:tab.at 28=some (28,⟨.sl 3,1,24,[],.l []⟩):=by kernel_rfl
  exact sn e1 rfl rfl rfl rfl (.nil e1 rfl)
 ·intro O
  have e1:tab.at 4=some (4,⟨.bool,1,1,[],.b false⟩):=by kernel_rfl
  exact sn e1 rfl rfl rfl rfl (.bool e1 rfl)
def U9:Ctx:=⟨tab,sigs,57,[0,1,2,3,4,6,7,10,11],[],[],[],[],[]⟩
theorem Pb (a0:T) (y0:T) (I0:Nat→Prop) (M0:Nat→Nat) (I1:Nat→Nat→Prop) (M1:Nat→Nat→Nat) (h:(∃i:Nat,I0 i∧R9 a0 (kI 0=kI ↑i∧True))∧(∀i:Nat,true=true)∧∀i:Nat,I0 i→(ltI ↑i (a0.cell 1).int=true→(∃i_1:Nat,I1 i i_1∧R10 a0 i (kI 0=kI ↑i_1∧True))∧(∀i:Nat,true=true)∧∀i_1:Nat,I1 i i_1→(ltI ↑i_1 ↑i=true→(Bd ↑i (lenOf (a0.cell 9).list))∧((!(((a0.cell 9).list.getD (↑i:Int).toNat T.u).cell 0).bool)=true∧True→0≤(↑i_1:Int)∧(↑i_1:Int)<lenOf (a0.cell 9).list)∧((T.ite (!(((a0.cell 9).list.getD (↑i:Int).toNat T.u).cell 0).bool) (T.b !(((a0.cell 9).list.getD (↑i_1:Int).toNat T.u).cell 0).bool) (T.b false)).bool=true∧True→0≤(↑i:Int)∧(↑i:Int)<lenOf (a0.cell 10).list)∧((T.ite (!(((a0.cell 9).list.getD (↑i:Int).toNat T.u).cell 0).bool) (T.b !(((a0.cell 9).list.getD (↑i_1:Int).toNat T.u).cell 0).bool) (T.b false)).bool=true∧True→0≤(↑i_1:Int)∧(↑i_1:Int)<lenOf (a0.cell 10).list)∧((T.ite (T.ite (!(((a0.cell 9).list.getD (↑i:Int).toNat T.u).cell 0).bool) (T.b !(((a0.cell 9).list.getD (↑i_1:Int).toNat T.u).cell 0).bool) (T.b false)).bool (T.b (eqI (((a0.cell 10).list.getD (↑i:Int).toNat T.u).cell 0).int (((a0.cell 10).list.getD (↑i_1:Int).toNat T.u).cell 0).int)) (T.b false)).bool=true∧True→0≤(↑i:Int)∧(↑i:Int)<lenOf (a0.cell 8).list)∧((T.ite (T.ite (!(((a0.cell 9).list.getD (↑i:Int).toNat T.u).cell 0).bool) (T.b !(((a0.cell 9).list.getD (↑i_1:Int).toNat T.u).cell 0).bool) (T.b false)).bool (T.b (eqI (((a0.cell 10).list.getD (↑i:Int).toNat T.u).cell 0).int (((a0.cell 10).list.getD (↑i_1:Int).toNat T.u).cell 0).int)) (T.b false)).bool=true∧True→0≤(↑i_1:Int)∧(↑i_1:Int)<lenOf (a0.cell 8).list)∧∃y:T,((T.ite (T.ite (!(((a0.cell 9).list.getD (↑i:Int).toNat T.u).cell 0).bool) (T.b !(((a0.cell 9).list.getD (↑i_1:Int).toNat T.u).cell 0).bool) (T.b false)).bool (T.b (eqI (((a0.cell 10).list.getD (↑i:Int).toNat T.u).cell 0).int (((a0.cell 10).list.getD (↑i_1:Int).toNat T.u).cell 0).int)) (T.b false)).bool=true∧True→F 148 [.t 25 (((a0.cell 8).list.getD (↑i:Int).toNat T.u).cell 0),.t 25 (((a0.cell 8).list.getD (↑i_1:Int).toNat T.u).cell 0)] (zo 2 4) [y])∧((T.ite (T.ite (T.ite (!(((a0.cell 9).list.getD (↑i:Int).toNat T.u).cell 0).bool) (T.b !(((a0.cell 9).list.getD (↑i_1:Int).toNat T.u).cell 0).bool) (T.b false)).bool (T.b (eqI (((a0.cell 10).list.getD (↑i:Int).toNat T.u).cell 0).int (((a0.cell 10).list.getD (↑i_1:Int).toNat T.u).cell 0).int)) (T.b false)).bool (T.b !y.bool) (T.b false)).bool=true→True∧T.b false=y0∧True)∧((T.ite (T.ite (T.ite (!(((a0.cell 9).list.getD (↑i:Int).toNat T.u).cell 0).bool) (T.b !(((a0.cell 9).list.getD (↑i_1:Int).toNat T.u).cell 0).bool) (T.b false)).bool (T.b (eqI (((a0.cell 10).list.getD (↑i:Int).toNat T.u).cell 0).int (((a0.cell 10).list.getD (↑i_1:Int).toNat T.u).cell 0).int)) (T.b false)).bool (T.b !y.bool) (T.b false)).bool=false→∃j:Nat,I1 i j∧M1 i j<M1 i i_1∧R10 a0 i (kI (pL .i64 ↑i_1 1)=kI ↑j∧True)))∧(ltI ↑i_1 ↑i=false→∃j:Nat,I0 j∧M0 j<M0 i∧R9 a0 (kI (pL .i64 ↑i 1)=kI ↑j∧True)))∧(ltI ↑i (a0.cell 1).int=false→True∧T.b true=y0∧True)):F 112 [.t 29 a0] (zo 1 4) [y0] :=
 p7 U9 (by kernel_rfl) Tryz.func112 (by kernel_rfl) (.two .no (.two (.two .no (.lp (fun (ia:Nat)=>[(pp 0,AV.t 29 a0),(pp 1,AV.box 29 0 11)]++bxS 1 a0 0 Y1++[(pp 2,AV.t 4 (T.b false)),(pp 6,AV.t 2 (a0.cell 1)),(pp 7,.t 2 (.i .i64 (ia:Int)))]) I0 M0 (fun (ia:Nat)=>(.two .no (.two .no (.two (.two .no (.two .no (.lp (fun (ib:Nat)=>[(pp 0,AV.t 29 a0),(pp 1,AV.box 29 0 11)]++bxS 1 a0 0 Y1++[(pp 2,AV.t 4 (T.b false)),(pp 6,AV.t 2 (a0.cell 1)),(pp 7,AV.t 2 (T.i IntKind.i64 (↑ia:Int))),(pp 3,AV.t 2 (T.i IntKind.i64 (↑ia:Int))),(pp 10,AV.t 2 (T.i IntKind.i64 (↑ia:Int))),(pp 11,.t 2 (.i .i64 (ib:Int)))]) (I1 ia) (M1 ia) (fun _=>.no)))) .no)))))) .no)) (by kernel_rfl) h
def Wb:Ctx:=⟨tab,sigs,36,[0,2,3,5,6,8,9,10,11,25,26,27],[pp 6],[(204,⟨[true],[],[true,false]⟩)],[],[],[]⟩
theorem P2 (a0:T) (y0:T) (I0:(Nat×Nat)→Prop) (M0:(Nat×Nat)→Nat) (I1:X4→Prop) (M1:X4→Nat) (h:(∃(i:Nat×Nat),I0 i∧R11 a0 (kI 0=kI ↑i.1∧R7 a0 (kI 0=kI ↑i.2∧True)))∧(∀(i:Nat×Nat),true=true)∧∀(i:Nat×Nat),I0 i→(ltI ↑i.2 (lenOf a0.list)=true→(Bd ↑i.2 (lenOf a0.list))∧(ltI (pL .i64 ↑i.1 (lenOf ((a0.list.getD (↑i.2:Int).toNat T.u).cell 0).list)) (0:Int)=true→False)∧(ltI (pL .i64 ↑i.1 (lenOf ((a0.list.getD (↑i.2:Int).toNat T.u).cell 0).list)) (0:Int)=false→∃(j:Nat×Nat),I0 j∧M0 j<M0 i∧R11 a0 (kI (pL .i64 ↑i.1 (lenOf ((a0.list.getD (↑i.2:Int).toNat T.u).cell 0).list))=kI ↑j.1∧R7 a0 (kI (pL .i64 ↑i.2 1)=kI ↑j.2∧True))))∧(ltI ↑i.2 (lenOf a0.list)=false→∃y:T,F 204 [.own 25 [],.t 2 (kI ↑i.1)] [(pp 2,25,[true].headD false)] [y]∧(∃(i_1:X4),I1 i_1∧R11 a0 (kI ↑i.1=kI ↑i_1.2.1∧y.list=i_1.1∧R7 a0 (kI 0=kI ↑i_1.2.2∧True)))∧(∀(i:X4),true=true)∧∀(i:X4),I1 i→(ltI ↑i.2.2 (lenOf a0.list)=true→(Bd ↑i.2.2 (lenOf a0.list))∧(Rm ((List.take i.1.length i.1).length+((a0.list.getD (↑i.2.2:Int).toNat T.u).cell 0).list.length) 56)∧∃(j:X4),I1 j∧M1 j<M1 i∧R11 a0 (kI ↑i.2.1=kI ↑j.2.1∧List.take i.1.length i.1++((a0.list.getD (↑i.2.2:Int).toNat T.u).cell 0).list=j.1∧R7 a0 (kI (pL .i64 ↑i.2.2 1)=kI ↑j.2.2∧True)))∧(ltI ↑i.2.2 (lenOf a0.list)=false→True∧T.l (List.take i.1.length (List.drop 0 i.1))=y0∧True))):F 186 [.t 26 a0] (zo 1 25) [y0] :=
 p7 Wb (by kernel_rfl) Tryz.func186 (by kernel_rfl) (.two .no (.two .no (.two (.two .no (.lp (fun (ia:Nat×Nat)=>[(pp 0,AV.t 26 a0),(pp 2,AV.t 25 (T.l [])),(pp 3,.t 2 (.i .i64 (ia.1:Int))),(pp 9,AV.t 26 a0),(pp 10,AV.t 2 (T.i IntKind.i64 (lenOf a0.list))),(pp 11,.t 2 (.i .i64 (ia.2:Int)))]) I0 M0 (fun _=>.no))) (.two .no (.two (.two .no (.lp (fun (ib:X4)=>[(pp 0,AV.t 26 a0),(pp 2,AV.t 25 (T.l [])),(pp 3,.t 2 (.i .i64 (ib.2.1:Int))),(pp 6,.own 25 0 ib.1),(pp 25,AV.t 26 a0),(pp 26,AV.t 2 (T.i IntKind.i64 (lenOf a0.list))),(pp 27,.t 2 (.i .i64 (ib.2.2:Int)))]) I1 M1 (fun _=>.no))) .no))))) (by kernel_rfl) h
def Ue:Ctx:=⟨tab,sigs,36,[0,2,3,5,6,8,9,10,11,25,26,27],[pp 6],[(157,⟨[true],[],[true,false]⟩)],[],[],[]⟩
theorem JS (a0:T) (y0:T) (I0:(Nat×Nat)→Prop) (M0:(Nat×Nat)→Nat) (I1:X4→Prop) (M1:X4→Nat) (h:(∃(i:Nat×Nat),I0 i∧R11 a0 (kI 0=kI ↑i.1∧R7 a0 (kI 0=kI ↑i.2∧True)))∧(∀(i:Nat×Nat),true=true)∧∀(i:Nat×Nat),I0 i→(ltI ↑i.2 (lenOf a0.list)=true→(Bd ↑i.2 (lenOf a0.list))∧(ltI (pL .i64 ↑i.1 (lenOf ((a0.list.getD (↑i.2:Int).toNat T.u).cell 0).list)) (0:Int)=true→False)∧(ltI (pL .i64 ↑i.1 (lenOf ((a0.list.getD (↑i.2:Int).toNat T.u).cell 0).list)) (0:Int)=false→∃(j:Nat×Nat),I0 j∧M0 j<M0 i∧R11 a0 (kI (pL .i64 ↑i.1 (lenOf ((a0.list.getD (↑i.2:Int).toNat T.u).cell 0).list))=kI ↑j.1∧R7 a0 (kI (pL .i64 ↑i.2 1)=kI ↑j.2∧True))))∧(ltI ↑i.2 (lenOf a0.list)=false→∃y:T,F 157 [.own 28 [],.t 2 (kI ↑i.1)] [(pp 2,28,[true].headD false)] [y]∧(∃(i_1:X4),I1 i_1∧R11 a0 (kI ↑i.1=kI ↑i_1.2.1∧y.list=i_1.1∧R7 a0 (kI 0=kI ↑i_1.2.2∧True)))∧(∀(i:X4),true=true)∧∀(i:X4),I1 i→(ltI ↑i.2.2 (lenOf a0.list)=true→(Bd ↑i.2.2 (lenOf a0.list))∧(Rm ((List.take i.1.length i.1).length+((a0.list.getD (↑i.2.2:Int).toNat T.u).cell 0).list.length) 8)∧∃(j:X4),I1 j∧M1 j<M1 i∧R11 a0 (kI ↑i.2.1=kI ↑j.2.1∧List.take i.1.length i.1++((a0.list.getD (↑i.2.2:Int).toNat T.u).cell 0).list=j.1∧R7 a0 (kI (pL .i64 ↑i.2.2 1)=kI ↑j.2.2∧True)))∧(ltI ↑i.2.2 (lenOf a0.list)=false→True∧T.l (List.take i.1.length (List.drop 0 i.1))=y0∧True))):F 118 [.t 59 a0] (zo 1 28) [y0] :=
 p7 Ue (by kernel_rfl) Tryz.func118 (by kernel_rfl) (.two .no (.two .no (.two (.two .no (.lp (fun (ia:Nat×Nat)=>[(pp 0,AV.t 59 a0),(pp 2,AV.t 28 (T.l [])),(pp 3,.t 2 (.i .i64 (ia.1:Int))),(pp 9,AV.t 59 a0),(pp 10,AV.t 2 (T.i IntKind.i64 (lenOf a0.list))),(pp 11,.t 2 (.i .i64 (ia.2:Int)))]) I0 M0 (fun _=>.no))) (.two .no (.two (.two .no (.lp (fun (ib:X4)=>[(pp 0,AV.t 59 a0),(pp 2,AV.t 28 (T.l [])),(pp 3,.t 2 (.i .i64 (ib.2.1:Int))),(pp 6,.own 28 0 ib.1),(pp 25,AV.t 59 a0),(pp 26,AV.t 2 (T.i IntKind.i64 (lenOf a0.list))),(pp 27,.t 2 (.i .i64 (ib.2.2:Int)))]) I1 M1 (fun _=>.no))) .no))))) (by kernel_rfl) h
def C80:Ctx:=⟨tab,sigs,56,[0,1,4,5,6,7,8,9,10,11,12],[pp 5,pp 9],[(81,⟨[],[(0,[false,false])],[]⟩)],[],[],[0]⟩
theorem S4 (b0_0:T) (b0_1:T) (a1:T) (y0:T) (y1:T) (y2:T) (I0:X5→Prop) (M0:X5→Nat) (I1:X6→Prop) (M1:X6→Nat) (h:(∃(i:X5),I0 i∧True∧b0_0=b0_0∧b0_1=kI ↑i.2.1∧R11 a1 ([]=i.1∧kI 0=kI ↑i.2.2.1∧kI 0=kI ↑i.2.2.2∧True))∧(∀(i:X5),true=true)∧∀(i:X5),I0 i→(ltI ↑i.2.2.2 a1.int=true→∃y y_1 y_2:T,F 81 [.box 129 2 [.t 28 b0_0,.t 2 (kI ↑i.2.1)],.t 2 (kI 4)] Z6 [y,y_1,y_2]∧(eqI y.int 3=true→(Rm ((List.take i.1.length i.1).length+((List.replicate 1 (kI 0)).set 0 (kI 0)).length) 8)∧∃(j:X5),I0 j∧M0 j<M0 i∧True∧y_1=b0_0∧y_2=kI ↑j.2.1∧R11 a1 (List.take i.1.length i.1++(List.replicate 1 (kI 0)).set 0 (kI 0)=j.1∧kI (pL .i64 ↑i.2.2.1 0)=kI ↑j.2.2.1∧kI (pL .i64 ↑i.2.2.2 1)=kI ↑j.2.2.2∧True))∧(eqI y.int 3=false→(Rm ((List.take i.1.length i.1).length+((List.replicate 1 (kI 0)).set 0 y).length) 8)∧∃(j:X5),I0 j∧M0 j<M0 i∧True∧y_1=b0_0∧y_2=kI ↑j.2.1∧R11 a1 (List.take i.1.length i.1++(List.replicate 1 (kI 0)).set 0 y=j.1∧kI (pL .i64 ↑i.2.2.1 y.int)=kI ↑j.2.2.1∧kI (pL .i64 ↑i.2.2.2 1)=kI ↑j.2.2.2∧True)))∧(ltI ↑i.2.2.2 a1.int=false→(eqI ↑i.2.2.1 0=true→∃y y_1 y_2:T,F 81 [.box 129 2 [.t 28 b0_0,.t 2 (kI ↑i.2.1)],.t 2 (kI 100)] Z6 [y,y_1,y_2]∧∃y_3:T,F 19 [.t 2 y,.t 2 a1] (zo 2 2) [y_3]∧(Bd (y_3.int) (↑i.1.length:Int))∧(∃(i_1:X6),I1 i_1∧True∧y_1=b0_0∧y_2=kI ↑i_1.2.2.1∧R11 a1 (i.1.set (0+y_3.int.toNat) (kI 1)=i_1.1∧kI 1=kI ↑i_1.2.2.2.1∧[]=i_1.2.1∧kI 0=kI ↑i_1.2.2.2.2∧True))∧(∀(i:X6),true=true)∧∀(i:X6),I1 i→(ltI ↑i.2.2.2.2 a1.int=true→(Bd ↑i.2.2.2.2 (↑i.1.length:Int))∧∃y y_4:T,F 55 [.t 2 ((i.1.getD (0+(↑i.2.2.2.2:Int).toNat) T.u).cell 0),.t 2 (kI ↑i.2.2.2.1)] Z1 [y,y_4]∧(Rm ((List.take i.2.1.length i.2.1).length+((List.replicate 1 (T.g [T.b false,T.l [],T.l []])).set 0 (G3 y)).length) 56)∧∃(j:X6),I1 j∧M1 j<M1 i∧True∧b0_0=b0_0∧kI ↑i.2.2.1=kI ↑j.2.2.1∧R11 a1 (i.1=j.1∧kI ↑i.2.2.2.1=kI ↑j.2.2.2.1∧List.take i.2.1.length i.2.1++(List.replicate 1 (T.g [T.b false,T.l [],T.l []])).set 0 (G3 y)=j.2.1∧kI (pL .i64 ↑i.2.2.2.2 1)=kI ↑j.2.2.2.2∧True))∧(ltI ↑i.2.2.2.2 a1.int=false→(True∧True)∧T.l (List.take i.2.1.length (List.drop 0 i.2.1))=y0∧b0_0=y1∧kI ↑i.2.2.1=y2∧True))∧(eqI ↑i.2.2.1 0=false→(∃(i_1:X6),I1 i_1∧True∧b0_0=b0_0∧kI ↑i.2.1=kI ↑i_1.2.2.1∧R11 a1 (i.1=i_1.1∧kI ↑i.2.2.1=kI ↑i_1.2.2.2.1∧[]=i_1.2.1∧kI 0=kI ↑i_1.2.2.2.2∧True))∧(∀(i:X6),true=true)∧∀(i:X6),I1 i→(ltI ↑i.2.2.2.2 a1.int=true→(Bd ↑i.2.2.2.2 (↑i.1.length:Int))∧∃y y_1:T,F 55 [.t 2 ((i.1.getD (0+(↑i.2.2.2.2:Int).toNat) T.u).cell 0),.t 2 (kI ↑i.2.2.2.1)] Z1 [y,y_1]∧(Rm ((List.take i.2.1.length i.2.1).length+((List.replicate 1 (T.g [T.b false,T.l [],T.l []])).set 0 (G3 y)).length) 56)∧∃(j:X6),I1 j∧M1 j<M1 i∧True∧b0_0=b0_0∧kI ↑i.2.2.1=kI ↑j.2.2.1∧R11 a1 (i.1=j.1∧kI ↑i.2.2.2.1=kI ↑j.2.2.2.1∧List.take i.2.1.length i.2.1++(List.replicate 1 (T.g [T.b false,T.l [],T.l []])).set 0 (G3 y)=j.2.1∧kI (pL .i64 ↑i.2.2.2.2 1)=kI ↑j.2.2.2.2∧True))∧(ltI ↑i.2.2.2.2 a1.int=false→(True∧True)∧T.l (List.take i.2.1.length (List.drop 0 i.2.1))=y0∧b0_0=y1∧kI ↑i.2.2.1=y2∧True)))):F 80 [.box 129 2 [.t 28 b0_0,.t 2 b0_1],.t 2 a1] Z7 [y0,y1,y2] :=
 p7 C80 (by kernel_rfl) Tryz.func80 (by kernel_rfl) (.two .no (.two .no (.two .no (.two (.two .no (.lp (fun (ia:X5)=>[(pp 0,AV.box 129 0 2),(cell 0 0,AV.t 28 b0_0),(cell 0 1,.t 2 (.i .i64 (ia.2.1:Int))),(pp 1,AV.t 2 a1),(pp 4,AV.t 25 (T.l [])),(pp 5,.own 28 0 ia.1),(pp 6,.t 2 (.i .i64 (ia.2.2.1:Int))),(pp 7,.t 2 (.i .i64 (ia.2.2.2:Int)))]) I0 M0 (fun _=>.no))) (.two .no (.two .no (.two (.two .no (.lp (fun (ib:X6)=>[(pp 0,AV.box 129 0 2),(cell 0 0,.t 28 b0_0),(cell 0 1,.t 2 (.i .i64 (ib.2.2.1:Int))),(pp 1,AV.t 2 a1),(pp 4,AV.t 25 (T.l [])),(pp 5,.own 28 0 ib.1),(pp 6,.t 2 (.i .i64 (ib.2.2.2.1:Int))),(pp 9,.own 25 0 ib.2.1),(pp 10,.t 2 (.i .i64 (ib.2.2.2.2:Int)))]) I1 M1 (fun _=>.no))) .no))))))) (by kernel_rfl) h
def C71:Ctx:=⟨tab,sigs,52,[0,1,2,4,5,6,7,8,9,10,11,12],[],[],[],[],[]⟩
theorem SV (a0:T) (a1:T) (y0:T) (I0:X7→Prop) (M0:X7→Nat) (I1:X7→X7→Prop) (M1:X7→X7→Nat) (h:(∃(i:X7),I0 i∧R12 a0 a1 (kI (-1:Int)=kI i.1∧T.l []=i.2.1∧R7 a1 (kI 0=kI ↑i.2.2∧True)))∧(∀(i:X7),true=true)∧∀(i:X7),I0 i→(ltI ↑i.2.2 (lenOf a1.list)=true→(Bd ↑i.2.2 (lenOf a1.list))∧∃y:T,F 69 [.t 60 (G15 a0),.t 2 (kI ↑i.2.2)] (zo 2 4) [y]∧((!y.bool)=true→∃(j:X7),I0 j∧M0 j<M0 i∧R12 a0 a1 (kI i.1=kI j.1∧i.2.1=j.2.1∧R7 a1 (kI (pL .i64 ↑i.2.2 1)=kI ↑j.2.2∧True)))∧((!y.bool)=false→(ltI i.1 0=true→(∃(i_1:X7),I1 i i_1∧R12 a0 a1 (kI (lenOf ((a1.list.getD (↑i.2.2:Int).toNat T.u).cell 0).list)=kI i_1.1∧(a1.list.getD (↑i.2.2:Int).toNat T.u).cell 0=i_1.2.1∧R13 a1 i.2.2 (kI 0=kI ↑i_1.2.2∧True)))∧(∀(i:X7),true=true)∧∀(i_1:X7),I1 i i_1→((T.ite (ltI ↑i_1.2.2 i_1.1) (T.b (ltI ↑i_1.2.2 (lenOf ((a1.list.getD (↑i.2.2:Int).toNat T.u).cell 0).list))) (T.b false)).bool=true∧True→0≤(↑i_1.2.2:Int)∧(↑i_1.2.2:Int)<lenOf ((a1.list.getD (↑i.2.2:Int).toNat T.u).cell 0).list)∧((T.ite (ltI ↑i_1.2.2 i_1.1) (T.b (ltI ↑i_1.2.2 (lenOf ((a1.list.getD (↑i.2.2:Int).toNat T.u).cell 0).list))) (T.b false)).bool=true∧True→0≤(↑i_1.2.2:Int)∧(↑i_1.2.2:Int)<lenOf i_1.2.1.list)∧((T.ite (T.ite (ltI ↑i_1.2.2 i_1.1) (T.b (ltI ↑i_1.2.2 (lenOf ((a1.list.getD (↑i.2.2:Int).toNat T.u).cell 0).list))) (T.b false)).bool (T.b (eqI ((((a1.list.getD (↑i.2.2:Int).toNat T.u).cell 0).list.getD (↑i_1.2.2:Int).toNat T.u).cell 0).int ((i_1.2.1.list.getD (↑i_1.2.2:Int).toNat T.u).cell 0).int)) (T.b false)).bool=true→∃(j:X7),I1 i j∧M1 i j<M1 i i_1∧R12 a0 a1 (kI i_1.1=kI j.1∧i_1.2.1=j.2.1∧R13 a1 i.2.2 (kI (pL .i64 ↑i_1.2.2 1)=kI ↑j.2.2∧True)))∧((T.ite (T.ite (ltI ↑i_1.2.2 i_1.1) (T.b (ltI ↑i_1.2.2 (lenOf ((a1.list.getD (↑i.2.2:Int).toNat T.u).cell 0).list))) (T.b false)).bool (T.b (eqI ((((a1.list.getD (↑i.2.2:Int).toNat T.u).cell 0).list.getD (↑i_1.2.2:Int).toNat T.u).cell 0).int ((i_1.2.1.list.getD (↑i_1.2.2:Int).toNat T.u).cell 0).int)) (T.b false)).bool=false→∃(j:X7),I0 j∧M0 j<M0 i∧R12 a0 a1 (kI ↑i_1.2.2=kI j.1∧i_1.2.1=j.2.1∧R7 a1 (kI (pL .i64 ↑i.2.2 1)=kI ↑j.2.2∧True))))∧(ltI i.1 0=false→(∃(i_1:X7),I1 i i_1∧R12 a0 a1 (kI i.1=kI i_1.1∧i.2.1=i_1.2.1∧R13 a1 i.2.2 (kI 0=kI ↑i_1.2.2∧True)))∧(∀(i:X7),true=true)∧∀(i_1:X7),I1 i i_1→((T.ite (ltI ↑i_1.2.2 i_1.1) (T.b (ltI ↑i_1.2.2 (lenOf ((a1.list.getD (↑i.2.2:Int).toNat T.u).cell 0).list))) (T.b false)).bool=true∧True→0≤(↑i_1.2.2:Int)∧(↑i_1.2.2:Int)<lenOf ((a1.list.getD (↑i.2.2:Int).toNat T.u).cell 0).list)∧((T.ite (ltI ↑i_1.2.2 i_1.1) (T.b (ltI ↑i_1.2.2 (lenOf ((a1.list.getD (↑i.2.2:Int).toNat T.u).cell 0).list))) (T.b false)).bool=true∧True→0≤(↑i_1.2.2:Int)∧(↑i_1.2.2:Int)<lenOf i_1.2.1.list)∧((T.ite (T.ite (ltI ↑i_1.2.2 i_1.1) (T.b (ltI ↑i_1.2.2 (lenOf ((a1.list.getD (↑i.2.2:Int).toNat T.u).cell 0).list))) (T.b false)).bool (T.b (eqI ((((a1.list.getD (↑i.2.2:Int).toNat T.u).cell 0).list.getD (↑i_1.2.2:Int).toNat T.u).cell 0).int ((i_1.2.1.list.getD (↑i_1.2.2:Int).toNat T.u).cell 0).int)) (T.b false)).bool=true→∃(j:X7),I1 i j∧M1 i j<M1 i i_1∧R12 a0 a1 (kI i_1.1=kI j.1∧i_1.2.1=j.2.1∧R13 a1 i.2.2 (kI (pL .i64 ↑i_1.2.2 1)=kI ↑j.2.2∧True)))∧((T.ite (T.ite (ltI ↑i_1.2.2 i_1.1) (T.b (ltI ↑i_1.2.2 (lenOf ((a1.list.getD (↑i.2.2:Int).toNat T.u).cell 0).list))) (T.b false)).bool (T.b (eqI ((((a1.list.getD (↑i.2.2:Int).toNat T.u).cell 0).list.getD (↑i_1.2.2:Int).toNat T.u).cell 0).int ((i_1.2.1.list.getD (↑i_1.2.2:Int).toNat T.u).cell 0).int)) (T.b false)).bool=false→∃(j:X7),I0 j∧M0 j<M0 i∧R12 a0 a1 (kI ↑i_1.2.2=kI j.1∧i_1.2.1=j.2.1∧R7 a1 (kI (pL .i64 ↑i.2.2 1)=kI ↑j.2.2∧True))))))∧(ltI ↑i.2.2 (lenOf a1.list)=false→True∧kI (xk i.1 (0:Int))=y0∧True)):F 71 [.t 60 a0,.t 59 a1] (zo 2 2) [y0] :=
 p7 C71 (by kernel_rfl) Tryz.func71 (by kernel_rfl) (.two .no (.two .no (.two .no (.two (.two .no (.lp (fun (ia:X7)=>[(pp 0,AV.t 60 a0),(pp 1,AV.t 59 a1),(pp 2,AV.box 60 0 15)]++bxS 2 a0 0 Y2++[(pp 4,AV.t 2 (T.i IntKind.i64 (0:Int))),(pp 5,.t 2 (.i .i64 ia.1)),(pp 6,.t 28 ia.2.1),(pp 10,AV.t 59 a1),(pp 11,AV.t 2 (T.i IntKind.i64 (lenOf a1.list))),(pp 12,.t 2 (.i .i64 (ia.2.2:Int)))]) I0 M0 (fun (ia:X7)=>(.two .no (.two .no (.two (.two .no (.two .no (.two .no (.two .no (.two (.lp (fun (ib:X7)=>[(pp 0,AV.t 60 a0),(pp 1,AV.t 59 a1),(pp 2,AV.box 60 0 15)]++bxS 2 a0 0 Y2++[(pp 4,AV.t 2 (T.i IntKind.i64 (0:Int))),(pp 5,.t 2 (.i .i64 ib.1)),(pp 6,.t 28 ib.2.1),(pp 10,AV.t 59 a1),(pp 11,AV.t 2 (T.i IntKind.i64 (lenOf a1.list))),(pp 12,AV.t 2 (T.i IntKind.i64 (↑ia.2.2:Int))),(pp 7,AV.t 2 (T.i IntKind.i64 (↑ia.2.2:Int))),(pp 8,AV.t 28 ((a1.list.getD (↑ia.2.2:Int).toNat T.u).cell 0)),(pp 9,.t 2 (.i .i64 (ib.2.2:Int)))]) (I1 ia) (M1 ia) (fun _=>.no)) .no))))) .no)))))) .no)))) (by kernel_rfl) h
end Go.Pq
namespace Go.Proofs
open Go.Shelf
def Tryz.growI_ren:Go.Shelf.Ren:=⟨fun | 4=>157 | n=>n,fun | 22=>28 | 25=>3 | 3=>3 | 4=>4 | 9=>9 | 20=>20 | 0=>0 | n=>n,fun | n=>n⟩
theorem Tryz.growI:Go.Proofs.Lays8.n4 Tryz.prog Tryz.growI_ren:={
 mixed:=by kernel_rfl
 f4:=⟨Tryz.f157.name,by decide,Tryz.func157.trans (Xx some (by kernel_rfl))⟩
 t0:=Tryz.underlying0
 a0:=Tryz.isAgg0
 z0:=Tryz.sizeOf0
 v0:=Tryz.zeroValue0
 t3:=Tryz.underlying3
 a3:=Tryz.isAgg3
 z3:=Tryz.sizeOf3
 v3:=Tryz.zeroValue3
 t4:=Tryz.underlying4
 a4:=Tryz.isAgg4
 z4:=Tryz.sizeOf4
 v4:=Tryz.zeroValue4
 t9:=Tryz.underlying9
 a9:=Tryz.isAgg9
 z9:=Tryz.sizeOf9
 v9:=Tryz.zeroValue9
 t20:=Tryz.underlying20
 a20:=Tryz.isAgg20
 z20:=Tryz.sizeOf20
 v20:=Tryz.zeroValue20
 t22:=Tryz.underlying28
 a22:=Tryz.isAgg28
 z22:=Tryz.sizeOf28
 v22:=Tryz.zeroValue28 }
def Tryz.growR_ren:Go.Shelf.Ren:=⟨fun | 4=>204 | n=>n,fun | 22=>25 | 25=>24 | 3=>3 | 4=>4 | 9=>9 | 20=>20 | 0=>0 | n=>n,fun | n=>n⟩
theorem Tryz.growR:Go.Proofs.Lays8.n4 Tryz.prog Tryz.growR_ren:={
 mixed:=by kernel_rfl
 f4:=⟨Tryz.f204.name,by decide,Tryz.func204.trans (Xx some (by kernel_rfl))⟩
 t0:=Tryz.underlying0
 a0:=Tryz.isAgg0
 z0:=Tryz.sizeOf0
 v0:=Tryz.zeroValue0
 t3:=Tryz.underlying3
 a3:=Tryz.isAgg3
 z3:=Tryz.sizeOf3
 v3:=Tryz.zeroValue3
 t4:=Tryz.underlying4
 a4:=Tryz.isAgg4
 z4:=Tryz.sizeOf4
 v4:=Tryz.zeroValue4
 t9:=Tryz.underlying9
 a9:=Tryz.isAgg9
 z9:=Tryz.sizeOf9
 v9:=Tryz.zeroValue9
 t20:=Tryz.underlying20
 a20:=Tryz.isAgg20
 z20:=Tryz.sizeOf20
 v20:=Tryz.zeroValue20
 t22:=Tryz.underlying25
 a22:=Tryz.isAgg25
 z22:=Tryz.sizeOf25
 v22:=Tryz.zeroValue25 }
end Go.Proofs
namespace Go.Pq
open Go.Pl Go.Proofs
theorem Ka (n:Nat) (hn:n≤2 ^ 40):F 157 [.own 28 [],.t 2 (.i .i64 (n:Int))] (zw 2 28) [.l []]:=by
 obtain ⟨i0,z,z1,z2,z3,z4,-,z6,-⟩:=Good.zero (C:=Ue) (t:=3) (c:=2) good (ti:=⟨.int .i64,1,8,[],.i .i64 0⟩) (by kernel_rfl);refine IL (ci:=2) (i0:=i0) (z:=z) (cd:=tO Tryz.f157) good Tryz.func157 (by kernel_rfl) (by kernel_rfl) (c:=28) (ti:=⟨.sl 3,1,24,[],.l []⟩) (e:=3) (by kernel_rfl) (by kernel_rfl) (ce:=2) (te:=⟨.int .i64,1,8,[],.i .i64 0⟩) (by kernel_rfl) (tn:=⟨.int .i64,1,8,[],.i .i64 0⟩) (by kernel_rfl) (by kernel_rfl) z6 z2
  (fun base l c n w h1 h2 h3 h4=>Any8.slices_Grow_room Tryz.growI base l c n w h1 h2 h3 h4)
  (fun base l c n cs w h1 h2 h3 h4 h5 h6 h7=>Any8.slices_Grow_grow Tryz.growI i0 z z1 z4 (by rw [z2];decide) base l c n cs w h1 h2 h3 h4 h5 h6 h7) n (by rw [z3];simp only;omega) (by omega)
theorem Qy (n:Nat) (hn:n≤2 ^ 40):F 204 [.own 25 [],.t 2 (.i .i64 (n:Int))] (zw 2 25) [.l []]:=by
 obtain ⟨i0,z,z1,z2,z3,z4,-,z6,-⟩:=Good.zero (C:=Ue) (t:=24) (c:=23) good (ti:=⟨.st [(0,4),(1,22),(2,22)],3,56,[4,22,22],.g [.b false,.l [],.l []]⟩) (by kernel_rfl);refine IL (ci:=2) (i0:=i0) (z:=z) (cd:=tO Tryz.f204) good Tryz.func204 (by kernel_rfl) (by kernel_rfl) (c:=25) (ti:=⟨.sl 24,1,24,[],.l []⟩) (e:=24) (by kernel_rfl) (by kernel_rfl) (ce:=23) (te:=⟨.st [(0,4),(1,22),(2,22)],3,56,[4,22,22],.g [.b false,.l [],.l []]⟩) (by kernel_rfl) (tn:=⟨.int .i64,1,8,[],.i .i64 0⟩) (by kernel_rfl) (by kernel_rfl) z6 z2
  (fun base l c n w h1 h2 h3 h4=>Any8.slices_Grow_room Tryz.growR base l c n w h1 h2 h3 h4)
  (fun base l c n cs w h1 h2 h3 h4 h5 h6 h7=>Any8.slices_Grow_grow Tryz.growR i0 z z1 z4 (by rw [z2];decide) base l c n cs w h1 h2 h3 h4 h5 h6 h7) n (by rw [z3];simp only;omega) (by omega)
def C66:Ctx:=⟨tab,sigs,39,[0,1,2,3,4],[],[],[],[],[]⟩
theorem ST (a0:T) (y0:T) (h:((T.ite (T.ite (T.ite (ltI (a0.cell 0).int (1:Int)) (T.b true) (T.b (ltI 32 (a0.cell 0).int))).bool (T.b true) (T.b (ltI (a0.cell 1).int (1:Int)))).bool (T.b true) (T.b (ltI 12 (a0.cell 1).int))).bool=true→True∧kI 1=y0∧True)∧((T.ite (T.ite (T.ite (ltI (a0.cell 0).int (1:Int)) (T.b true) (T.b (ltI 32 (a0.cell 0).int))).bool (T.b true) (T.b (ltI (a0.cell 1).int (1:Int)))).bool (T.b true) (T.b (ltI 12 (a0.cell 1).int))).bool=false→∃y:T,F 109 [.t 29 (G11 a0)] (zo 1 4) [y]∧((!y.bool)=true→True∧kI 4=y0∧True)∧((!y.bool)=false→∃y:T,F 110 [.t 29 (G11 a0)] (zo 1 4) [y]∧((!y.bool)=true→True∧kI 18=y0∧True)∧((!y.bool)=false→∃y y_1:T,F 111 [.t 29 (G11 a0)] Z5 [y,y_1]∧((!y_1.bool)=true→True∧kI 16=y0∧True)∧((!y_1.bool)=false→∃y:T,F 112 [.t 29 (G11 a0)] (zo 1 4) [y]∧((!y.bool)=true→True∧kI 5=y0∧True)∧((!y.bool)=false→True∧kI 0=y0∧True)))))):F 66 [.t 29 a0] (zo 1 2) [y0] :=
 p7 C66 (by kernel_rfl) Tryz.func66 (by kernel_rfl) .no (by kernel_rfl) h
def C33:Ctx:=⟨tab,sigs,12,[0,1,2],[],[],[],[],[]⟩
theorem SE (a0:T) (y0:T) (h:∃y:T,F 66 [.t 29 (G11 a0)] (zo 1 2) [y]∧∃y_1:T,(eqI y.int 0=true∧True→F 67 [.t 27 (a0.cell 9),.t 4 (T.b true)] (zo 2 4) [y_1])∧True∧T.ite (eqI y.int 0) (T.b !y_1.bool) (T.b false)=y0∧True):F 33 [.t 29 a0] (zo 1 4) [y0] :=
 p7 C33 (by kernel_rfl) Tryz.func33 (by kernel_rfl) .no (by kernel_rfl) h
def C67:Ctx:=⟨tab,sigs,9,[0,1,4],[],[],[],[],[]⟩
theorem SU (a0:T) (a1:T) (y0:T) (h:∃y:T,F 113 [.t 27 a0,.t 4 a1] (zo 2 2) [y]∧True∧T.b (leI 0 y.int)=y0∧True):F 67 [.t 27 a0,.t 4 a1] (zo 2 4) [y0] :=
 p7 C67 (by kernel_rfl) Tryz.func67 (by kernel_rfl) .no (by kernel_rfl) h
def Vx:Ctx:=⟨tab,sigs,16,[0,1,2],[],[],[],[],[]⟩
theorem Pw (a0:T) (y0:T) (h:∃y:T,F 115 [.t 23 (G3 a0)] (zo 1 4) [y]∧∃y_1:T,(y.bool=true∧True→F 116 [.t 23 (G3 a0)] (zo 1 2) [y_1])∧∃y_2:T,((T.ite y.bool (T.b (leI 0 y_1.int)) (T.b false)).bool=true∧True→F 183 [] (zo 0 23) [y_2])∧∃y_3:T,((T.ite y.bool (T.b (leI 0 y_1.int)) (T.b false)).bool=true∧True→F 117 [.t 23 (G3 a0),.t 23 y_2] (zo 2 2) [y_3])∧True∧T.ite (T.ite y.bool (T.b (leI 0 y_1.int)) (T.b false)).bool (T.b (leI y_3.int 0)) (T.b false)=y0∧True):F 143 [.t 23 a0] (zo 1 4) [y0] :=
 p7 Vx (by kernel_rfl) Tryz.func143 (by kernel_rfl) .no (by kernel_rfl) h
def Vy:Ctx:=⟨tab,sigs,6,[0,2],[],[],[],[],[]⟩
theorem Px (a0:T) (y0:T) (h:∃y:T,F 184 [.t 25 a0,.t 1 (T.f 185 [])] (zo 2 4) [y]∧True∧(T.b !y.bool)=y0∧True):F 144 [.t 25 a0] (zo 1 4) [y0] :=
 p7 Vy (by kernel_rfl) Tryz.func144 (by kernel_rfl) .no (by kernel_rfl) h
def VA:Ctx:=⟨tab,sigs,8,[0,1,4],[],[],[],[],[]⟩
theorem Pz (a0:T) (a1:T) (y0:T) (h:∃y:T,F 73 [.t 25 a0,.t 25 a1,.t 1 (T.f 188 [])] (zo 3 4) [y]∧True∧y=y0∧True):F 148 [.t 25 a0,.t 25 a1] (zo 2 4) [y0] :=
 p7 VA (by kernel_rfl) Tryz.func148 (by kernel_rfl) .no (by kernel_rfl) h
def V8:Ctx:=⟨tab,sigs,8,[0,1,2],[],[],[],[],[]⟩
theorem PZ  (y0:T) (h:∃y y_1:T,F 114 [.t 2 (kI 1),.t 2 (kI 1)] Z1 [y,y_1]∧True∧(G3 y)=y0∧True):F 183 [] (zo 0 23) [y0] :=
 p7 V8 (by kernel_rfl) Tryz.func183 (by kernel_rfl) .no (by kernel_rfl) h
def V9:Ctx:=⟨tab,sigs,9,[0,1,4],[],[],[],[],[]⟩
theorem P0 (a0:T) (a1:T) (y0:T) (h:∃y:T,F 203 [.t 25 a0,.t 1 a1] (zo 2 2) [y]∧True∧T.b (leI 0 y.int)=y0∧True):F 184 [.t 25 a0,.t 1 a1] (zo 2 4) [y0] :=
 p7 V9 (by kernel_rfl) Tryz.func184 (by kernel_rfl) .no (by kernel_rfl) h
def Wa:Ctx:=⟨tab,sigs,6,[0,1,2],[],[],[],[],[]⟩
theorem P1 (a0:T) (y0:T) (h:∃y:T,F 143 [.t 23 (G3 a0)] (zo 1 4) [y]∧True∧(T.b !y.bool)=y0∧True):F 185 [.t 23 a0] (zo 1 4) [y0] :=
 p7 Wa (by kernel_rfl) Tryz.func185 (by kernel_rfl) .no (by kernel_rfl) h
def Wd:Ctx:=⟨tab,sigs,9,[0,1,2,3,4],[],[],[],[],[]⟩
theorem P4 (a0:T) (a1:T) (y0:T) (h:∃y:T,F 117 [.t 23 (G3 a0),.t 23 (G3 a1)] (zo 2 2) [y]∧True∧T.b (eqI y.int 0)=y0∧True):F 188 [.t 23 a0,.t 23 a1] (zo 2 4) [y0] :=
 p7 Wd (by kernel_rfl) Tryz.func188 (by kernel_rfl) .no (by kernel_rfl) h
def C35:Ctx:=⟨tab,sigs,71,[0,1,2,3,4,5],[],[],[],[],[]⟩
theorem SF (a0:T) (a1:T) (y0:T) (h:∃y:T,((T.ite (eqI (a0.cell 0).int (a1.cell 0).int) (T.b (eqI (a0.cell 1).int (a1.cell 1).int)) (T.b false)).bool=true∧True→F 74 [.t 23 (T.g [a0.cell 2,a0.cell 3,a0.cell 4]),.t 23 (T.g [a1.cell 2,a1.cell 3,a1.cell 4])] (zo 2 4) [y])∧∃y_1:T,((T.ite (T.ite (eqI (a0.cell 0).int (a1.cell 0).int) (T.b (eqI (a0.cell 1).int (a1.cell 1).int)) (T.b false)).bool y (T.b false)).bool=true∧True→true=true∧F 72 [.t 25 (a0.cell 5),.t 25 (a1.cell 5)] (zo 2 4) [y_1])∧∃y_2:T,((T.ite (T.ite (T.ite (eqI (a0.cell 0).int (a1.cell 0).int) (T.b (eqI (a0.cell 1).int (a1.cell 1).int)) (T.b false)).bool y (T.b false)).bool y_1 (T.b false)).bool=true∧True→F 75 [.t 26 (a0.cell 6),.t 26 (a1.cell 6),.t 1 (T.f 72 [])] (zo 3 4) [y_2])∧∃y_3:T,((T.ite (T.ite (T.ite (T.ite (eqI (a0.cell 0).int (a1.cell 0).int) (T.b (eqI (a0.cell 1).int (a1.cell 1).int)) (T.b false)).bool y (T.b false)).bool y_1 (T.b false)).bool y_2 (T.b false)).bool=true∧True→true=true∧F 72 [.t 25 (a0.cell 7),.t 25 (a1.cell 7)] (zo 2 4) [y_3])∧∃y_4:T,((T.ite (T.ite (T.ite (T.ite (T.ite (eqI (a0.cell 0).int (a1.cell 0).int) (T.b (eqI (a0.cell 1).int (a1.cell 1).int)) (T.b false)).bool y (T.b false)).bool y_1 (T.b false)).bool y_2 (T.b false)).bool y_3 (T.b false)).bool=true∧True→F 75 [.t 26 (a0.cell 8),.t 26 (a1.cell 8),.t 1 (T.f 72 [])] (zo 3 4) [y_4])∧∃y_5:T,((T.ite (T.ite (T.ite (T.ite (T.ite (T.ite (eqI (a0.cell 0).int (a1.cell 0).int) (T.b (eqI (a0.cell 1).int (a1.cell 1).int)) (T.b false)).bool y (T.b false)).bool y_1 (T.b false)).bool y_2 (T.b false)).bool y_3 (T.b false)).bool y_4 (T.b false)).bool=true∧True→F 76 [.t 27 (a0.cell 9),.t 27 (a1.cell 9)] (zo 2 4) [y_5])∧∃y_6:T,((T.ite (T.ite (T.ite (T.ite (T.ite (T.ite (T.ite (eqI (a0.cell 0).int (a1.cell 0).int) (T.b (eqI (a0.cell 1).int (a1.cell 1).int)) (T.b false)).bool y (T.b false)).bool y_1 (T.b false)).bool y_2 (T.b false)).bool y_3 (T.b false)).bool y_4 (T.b false)).bool y_5 (T.b false)).bool=true∧True→F 77 [.t 28 (a0.cell 10),.t 28 (a1.cell 10)] (zo 2 4) [y_6])∧True∧T.ite (T.ite (T.ite (T.ite (T.ite (T.ite (T.ite (T.ite (eqI (a0.cell 0).int (a1.cell 0).int) (T.b (eqI (a0.cell 1).int (a1.cell 1).int)) (T.b false)).bool y (T.b false)).bool y_1 (T.b false)).bool y_2 (T.b false)).bool y_3 (T.b false)).bool y_4 (T.b false)).bool y_5 (T.b false)).bool y_6 (T.b false)=y0∧True):F 35 [.t 29 a0,.t 29 a1] (zo 2 4) [y0] :=
 p7 C35 (by kernel_rfl) Tryz.func35 (by kernel_rfl) .no (by kernel_rfl) h
def C72:Ctx:=⟨tab,sigs,8,[0,1,4],[],[],[],[],[]⟩
theorem SX (a0:T) (a1:T) (y0:T) (h:∃y:T,F 73 [.t 25 a0,.t 25 a1,.t 1 (T.f 74 [])] (zo 3 4) [y]∧True∧y=y0∧True):F 72 [.t 25 a0,.t 25 a1] (zo 2 4) [y0] :=
 p7 C72 (by kernel_rfl) Tryz.func72 (by kernel_rfl) .no (by kernel_rfl) h
def C74:Ctx:=⟨tab,sigs,24,[0,1,2,3,4],[],[],[],[],[]⟩
theorem SY (a0:T) (a1:T) (y0:T) (h:∃y:T,(((a0.cell 0).bool == (a1.cell 0).bool)=true∧True→F 121 [.t 22 (a0.cell 1),.t 22 (a1.cell 1)] (zo 2 4) [y])∧∃y_1:T,((T.ite ((a0.cell 0).bool == (a1.cell 0).bool) y (T.b false)).bool=true∧True→F 121 [.t 22 (a0.cell 2),.t 22 (a1.cell 2)] (zo 2 4) [y_1])∧True∧T.ite (T.ite ((a0.cell 0).bool == (a1.cell 0).bool) y (T.b false)).bool y_1 (T.b false)=y0∧True):F 74 [.t 23 a0,.t 23 a1] (zo 2 4) [y0] :=
 p7 C74 (by kernel_rfl) Tryz.func74 (by kernel_rfl) .no (by kernel_rfl) h
def C59:Ctx:=⟨tab,sigs,29,[0,1,2],[],[(62,⟨[true],[],[]⟩)],[],[],[]⟩
theorem SP (a0:T) (y0:T) (h:∃y:T,F 100 [.t 23 (T.g [a0.cell 2,a0.cell 3,a0.cell 4])] (zo 1 23) [y]∧∃y_1:T,F 60 [.t 25 (a0.cell 5)] (zo 1 25) [y_1]∧∃y_2:T,F 101 [.t 26 (a0.cell 6)] (zo 1 26) [y_2]∧∃y_3:T,F 60 [.t 25 (a0.cell 7)] (zo 1 25) [y_3]∧∃y_4:T,F 101 [.t 26 (a0.cell 8)] (zo 1 26) [y_4]∧∃y_5:T,F 102 [.t 27 (a0.cell 9)] (zo 1 27) [y_5]∧∃y_6:T,F 62 [.t 28 (a0.cell 10)] [(pp 1,28,[true].headD false)] [y_6]∧True∧T.g [(a0.cell 0).cell 0,(a0.cell 1).cell 0,y.cell 0,y.cell 1,y.cell 2,y_1.cell 0,y_2.cell 0,y_3.cell 0,y_4.cell 0,y_5.cell 0,T.l y_6.list]=y0∧True):F 59 [.t 29 a0] (zo 1 29) [y0] :=
 p7 C59 (by kernel_rfl) Tryz.func59 (by kernel_rfl) .no (by kernel_rfl) h
def C60:Ctx:=⟨tab,sigs,5,[0,2],[],[],[],[],[]⟩
theorem SQ (a0:T) (y0:T) (h:∃y:T,F 103 [.t 25 a0,.t 1 (T.f 100 [])] (zo 2 25) [y]∧True∧y=y0∧True):F 60 [.t 25 a0] (zo 1 25) [y0] :=
 p7 C60 (by kernel_rfl) Tryz.func60 (by kernel_rfl) .no (by kernel_rfl) h
def C61:Ctx:=⟨tab,sigs,5,[0,2],[],[],[],[],[]⟩
theorem SR (a0:T) (y0:T) (h:∃y:T,F 104 [.t 59 a0,.t 1 (T.f 62 [])] (zo 2 59) [y]∧True∧y=y0∧True):F 61 [.t 59 a0] (zo 1 59) [y0] :=
 p7 C61 (by kernel_rfl) Tryz.func61 (by kernel_rfl) .no (by kernel_rfl) h
def C62:Ctx:=⟨tab,sigs,8,[0,2],[pp 2],[],[],[],[]⟩
theorem SS (a0:T) (y0:T) (h:∀y:T,IK a0 y→(y.bool=true→True∧T.l []=y0∧True)∧(y.bool=false→(Rm (0+a0.list.length) 8)∧True∧T.l (List.replicate 0 (kI 0)++a0.list)=y0∧True)):F 62 [.t 28 a0] (zw 1 28) [y0] :=
 p7 C62 (by kernel_rfl) Tryz.func62 (by kernel_rfl) .no (by kernel_rfl) h
def U1:Ctx:=⟨tab,sigs,12,[0,1,2],[],[],[],[],[]⟩
theorem O3 (a0:T) (y0:T) (h:∃y:T,F 139 [.t 22 (a0.cell 1)] (zo 1 22) [y]∧∃y_1:T,F 139 [.t 22 (a0.cell 2)] (zo 1 22) [y_1]∧True∧T.g [(a0.cell 0).cell 0,y.cell 0,y_1.cell 0]=y0∧True):F 100 [.t 23 a0] (zo 1 23) [y0] :=
 p7 U1 (by kernel_rfl) Tryz.func100 (by kernel_rfl) .no (by kernel_rfl) h
def U2:Ctx:=⟨tab,sigs,5,[0,2],[],[],[],[],[]⟩
theorem O4 (a0:T) (y0:T) (h:∃y:T,F 140 [.t 26 a0,.t 1 (T.f 60 [])] (zo 2 26) [y]∧True∧y=y0∧True):F 101 [.t 26 a0] (zo 1 26) [y0] :=
 p7 U2 (by kernel_rfl) Tryz.func101 (by kernel_rfl) .no (by kernel_rfl) h
def U3:Ctx:=⟨tab,sigs,8,[0,2],[],[],[],[],[]⟩
theorem O5 (a0:T) (y0:T) (h:∀y:T,IK a0 y→(y.bool=true→True∧T.l []=y0∧True)∧(y.bool=false→(Rm (0+a0.list.length) 1)∧True∧T.l (List.replicate 0 (T.b false)++a0.list)=y0∧True)):F 102 [.t 27 a0] (zo 1 27) [y0] :=
 p7 U3 (by kernel_rfl) Tryz.func102 (by kernel_rfl) .no (by kernel_rfl) h
def Vv:Ctx:=⟨tab,sigs,8,[0,2],[],[],[],[],[]⟩
theorem Pu (a0:T) (y0:T) (h:∀y:T,IK a0 y→(y.bool=true→True∧T.l []=y0∧True)∧(y.bool=false→(Rm (0+a0.list.length) 4)∧True∧T.l (List.replicate 0 (T.i .u32 0)++a0.list)=y0∧True)):F 139 [.t 22 a0] (zo 1 22) [y0] :=
 p7 Vv (by kernel_rfl) Tryz.func139 (by kernel_rfl) .no (by kernel_rfl) h
def U8:Ctx:=⟨tab,sigs,47,[0,1,2,3,12,13],[],[],[],[],[]⟩
theorem Pa (a0:T) (y0:T) (I0:Nat→Prop) (M0:Nat→Nat) (h:∃y:T,F 145 [.t 25 (a0.cell 5),.t 25 (T.l ((List.replicate 1 (T.g [T.b false,T.l [],T.l []])).set 0 (T.g [a0.cell 2,a0.cell 3,a0.cell 4])))] (zo 2 4) [y]∧((!y.bool)=true→True∧T.b false=y0∧True)∧((!y.bool)=false→(∃i:Nat,I0 i∧R9 a0 (kI 0=kI ↑i∧True))∧(∀i:Nat,true=true)∧∀i:Nat,I0 i→(ltI ↑i (a0.cell 1).int=true→(Bd ↑i (lenOf (a0.cell 6).list))∧(Bd ↑i (lenOf (a0.cell 7).list))∧∃y:T,F 145 [.t 25 (((a0.cell 6).list.getD (↑i:Int).toNat T.u).cell 0),.t 25 (T.l ((List.replicate 1 (T.g [T.b false,T.l [],T.l []])).set 0 (((a0.cell 7).list.getD (↑i:Int).toNat T.u).part 0 3)))] (zo 2 4) [y]∧((!y.bool)=false∧True→0≤(↑i:Int)∧(↑i:Int)<lenOf (a0.cell 9).list)∧((!y.bool)=false∧(!(((a0.cell 9).list.getD (↑i:Int).toNat T.u).cell 0).bool)=true∧True→0≤(↑i:Int)∧(↑i:Int)<lenOf (a0.cell 8).list)∧∃y_1:T,((!y.bool)=false∧(!(((a0.cell 9).list.getD (↑i:Int).toNat T.u).cell 0).bool)=true∧True→F 145 [.t 25 (((a0.cell 8).list.getD (↑i:Int).toNat T.u).cell 0),.t 25 (T.l [])] (zo 2 4) [y_1])∧((T.ite (!y.bool) (T.b true) (T.ite (!(((a0.cell 9).list.getD (↑i:Int).toNat T.u).cell 0).bool) (T.b !y_1.bool) (T.b false))).bool=true→True∧T.b false=y0∧True)∧((T.ite (!y.bool) (T.b true) (T.ite (!(((a0.cell 9).list.getD (↑i:Int).toNat T.u).cell 0).bool) (T.b !y_1.bool) (T.b false))).bool=false→∃j:Nat,I0 j∧M0 j<M0 i∧R9 a0 (kI (pL .i64 ↑i 1)=kI ↑j∧True)))∧(ltI ↑i (a0.cell 1).int=false→True∧T.b true=y0∧True))):F 110 [.t 29 a0] (zo 1 4) [y0] :=
 p7 U8 (by kernel_rfl) Tryz.func110 (by kernel_rfl) (.two .no (.two .no (.two (.two .no (.lp (fun (ia:Nat)=>[(pp 0,AV.t 29 a0),(pp 1,AV.box 29 0 11)]++bxS 1 a0 0 Y1++[(pp 2,AV.t 4 (T.b false)),(pp 12,AV.t 2 (a0.cell 1)),(pp 13,.t 2 (.i .i64 (ia:Int)))]) I0 M0 (fun _=>.no))) .no))) (by kernel_rfl) h
def Va:Ctx:=⟨tab,sigs,19,[0,1,4,5,7,8],[],[],[],[],[]⟩
theorem Pc (a0:T) (a1:T) (y0:T) (I0:Nat→Prop) (M0:Nat→Nat) (h:(∃i:Nat,I0 i∧R14 a0 a1 (kI 0=kI ↑i∧True))∧(∀i:Nat,true=true)∧∀i:Nat,I0 i→(ltI ↑i (lenOf a0.list)=true→(Bd ↑i (lenOf a0.list))∧((a1.bool == ((a0.list.getD (↑i:Int).toNat T.u).cell 0).bool)=true→True∧kI ↑i=y0∧True)∧((a1.bool == ((a0.list.getD (↑i:Int).toNat T.u).cell 0).bool)=false→∃j:Nat,I0 j∧M0 j<M0 i∧R14 a0 a1 (kI (pL .i64 ↑i 1)=kI ↑j∧True)))∧(ltI ↑i (lenOf a0.list)=false→True∧kI (-1:Int)=y0∧True)):F 113 [.t 27 a0,.t 4 a1] (zo 2 2) [y0] :=
 p7 Va (by kernel_rfl) Tryz.func113 (by kernel_rfl) (.two .no (.two (.two .no (.lp (fun (ia:Nat)=>[(pp 0,AV.t 27 a0),(pp 1,AV.t 4 a1),(pp 4,AV.t 2 (T.i IntKind.i64 (0:Int))),(pp 7,AV.t 2 (T.i IntKind.i64 (lenOf a0.list))),(pp 8,.t 2 (.i .i64 (ia:Int)))]) I0 M0 (fun _=>.no))) .no)) (by kernel_rfl) h
def Vz:Ctx:=⟨tab,sigs,26,[0,1,4,5,7,12,13,14],[],[],[],[],[]⟩
theorem Py (a0:T) (a1:T) (y0:T) (I0:X8→Prop) (M0:X8→Nat) (h:∃y:T,F 186 [.t 26 (T.l (((List.replicate 2 (T.l [])).set 0 a0).set 1 a1))] (zo 1 25) [y]∧(∃(i:X8),I0 i∧R15 a0 a1 (T.b false=i.2.1.cell 0∧T.l []=i.2.1.cell 1∧T.l []=i.2.1.cell 2∧y=i.1∧kI (lenOf y.list)=kI (lenOf i.1.list)∧kI 0=kI ↑i.2.2∧True))∧(∀(i:X8),true=true)∧∀(i:X8),I0 i→(ltI ↑i.2.2 (lenOf i.1.list)=true→(Bd ↑i.2.2 (lenOf i.1.list))∧∃y:T,F 187 [.t 23 (G3 i.2.1),.t 23 (G3 ((i.1.list.getD (↑i.2.2:Int).toNat T.u).part 0 3))] (zo 2 23) [y]∧∃(j:X8),I0 j∧M0 j<M0 i∧R15 a0 a1 (E3 y j.2.1 (i.1=j.1∧kI (lenOf i.1.list)=kI (lenOf j.1.list)∧kI (pL .i64 ↑i.2.2 1)=kI ↑j.2.2∧True)))∧(ltI ↑i.2.2 (lenOf i.1.list)=false→∃y:T,F 183 [] (zo 0 23) [y]∧∃y_1:T,F 117 [.t 23 (G3 i.2.1),.t 23 y] (zo 2 2) [y_1]∧True∧T.b (eqI y_1.int 0)=y0∧True)):F 145 [.t 25 a0,.t 25 a1] (zo 2 4) [y0] :=
 p7 Vz (by kernel_rfl) Tryz.func145 (by kernel_rfl) (.two .no (.two .no (.two (.two .no (.lp (fun (ia:X8)=>[(pp 0,AV.t 25 a0),(pp 1,AV.t 25 a1),(pp 4,AV.t 4 (T.b false)),(pp 5,AV.box 23 0 3)]++bxS 5 ia.2.1 0 Y3++[(pp 12,.t 25 ia.1),(pp 13,.t 2 (.i .i64 (lenOf ia.1.list))),(pp 14,.t 2 (.i .i64 (ia.2.2:Int)))]) I0 M0 (fun _=>.no))) .no))) (by kernel_rfl) h
def Wq:Ctx:=⟨tab,sigs,19,[0,1,4,5,7,8],[],[],[],[],[]⟩
theorem Qd (a0:T) (y0:T) (I0:Nat→Prop) (M0:Nat→Nat) (h:(∃i:Nat,I0 i∧a0=a0∧T.f 185 []=T.f 185 []∧R16 a0 (kI 0=kI ↑i∧True))∧(∀i:Nat,true=true)∧∀i:Nat,I0 i→(ltI ↑i (lenOf a0.list)=true→(Bd ↑i (lenOf a0.list))∧∃y:T,(true=true∧F 185 [.t 23 ((a0.list.getD (↑i:Int).toNat T.u).part 0 3)] (zo 1 4) [y])∧(y.bool=true→True∧kI ↑i=y0∧True)∧(y.bool=false→∃j:Nat,I0 j∧M0 j<M0 i∧a0=a0∧T.f 185 []=T.f 185 []∧R16 a0 (kI (pL .i64 ↑i 1)=kI ↑j∧True)))∧(ltI ↑i (lenOf a0.list)=false→True∧kI (-1:Int)=y0∧True)):F 203 [.t 25 a0,.t 1 (.f 185 [])] (zo 2 2) [y0] :=
 p7 Wq (by kernel_rfl) Tryz.func203 (by kernel_rfl) (.two .no (.two (.two .no (.lp (fun (ia:Nat)=>[(pp 0,AV.t 25 a0),(pp 1,AV.t 1 (T.f 185 [])),(pp 4,AV.t 2 (T.i IntKind.i64 (0:Int))),(pp 7,AV.t 2 (T.i IntKind.i64 (lenOf a0.list))),(pp 8,.t 2 (.i .i64 (ia:Int)))]) I0 M0 (fun _=>.no))) .no)) (by kernel_rfl) h
def C73:Ctx:=⟨tab,sigs,32,[0,1,2,6,7,8,9,15,16,17],[],[],[],[],[]⟩
theorem Qr (a0:T) (a1:T) (y0:T) (I0:Nat→Prop) (M0:Nat→Nat) (h:(neI (lenOf a0.list) (lenOf a1.list)=true→True∧T.b false=y0∧True)∧(neI (lenOf a0.list) (lenOf a1.list)=false→(∃i:Nat,I0 i∧a0=a0∧a1=a1∧T.f 74 []=T.f 74 []∧R17 a0 (kI 0=kI ↑i∧True))∧(∀i:Nat,true=true)∧∀i:Nat,I0 i→(ltI ↑i (lenOf a0.list)=true→(Bd ↑i (lenOf a0.list))∧(Bd ↑i (lenOf a1.list))∧∃y:T,(true=true∧F 74 [.t 23 (G3 ((a0.list.getD (↑i:Int).toNat T.u).part 0 3)),.t 23 (G3 ((a1.list.getD (↑i:Int).toNat T.u).part 0 3))] (zo 2 4) [y])∧((!y.bool)=true→True∧T.b false=y0∧True)∧((!y.bool)=false→∃j:Nat,I0 j∧M0 j<M0 i∧a0=a0∧a1=a1∧T.f 74 []=T.f 74 []∧R17 a0 (kI (pL .i64 ↑i 1)=kI ↑j∧True)))∧(ltI ↑i (lenOf a0.list)=false→True∧T.b true=y0∧True))):F 73 [.t 25 a0,.t 25 a1,.t 1 (.f 74 [])] (zo 3 4) [y0] :=
 p7 C73 (by kernel_rfl) Tryz.func73 (by kernel_rfl) (.two .no (.two .no (.two (.two .no (.lp (fun (ia:Nat)=>[(pp 0,AV.t 25 a0),(pp 1,AV.t 25 a1),(pp 2,AV.t 1 (T.f 74 [])),(pp 6,AV.t 4 (T.b false)),(pp 15,AV.t 25 a0),(pp 16,AV.t 2 (T.i IntKind.i64 (lenOf a0.list))),(pp 17,.t 2 (.i .i64 (ia:Int)))]) I0 M0 (fun _=>.no))) .no))) (by kernel_rfl) h
theorem Qs (a0:T) (a1:T) (y0:T) (I0:Nat→Prop) (M0:Nat→Nat) (h:(neI (lenOf a0.list) (lenOf a1.list)=true→True∧T.b false=y0∧True)∧(neI (lenOf a0.list) (lenOf a1.list)=false→(∃i:Nat,I0 i∧a0=a0∧a1=a1∧T.f 188 []=T.f 188 []∧R17 a0 (kI 0=kI ↑i∧True))∧(∀i:Nat,true=true)∧∀i:Nat,I0 i→(ltI ↑i (lenOf a0.list)=true→(Bd ↑i (lenOf a0.list))∧(Bd ↑i (lenOf a1.list))∧∃y:T,(true=true∧F 188 [.t 23 (G3 ((a0.list.getD (↑i:Int).toNat T.u).part 0 3)),.t 23 (G3 ((a1.list.getD (↑i:Int).toNat T.u).part 0 3))] (zo 2 4) [y])∧((!y.bool)=true→True∧T.b false=y0∧True)∧((!y.bool)=false→∃j:Nat,I0 j∧M0 j<M0 i∧a0=a0∧a1=a1∧T.f 188 []=T.f 188 []∧R17 a0 (kI (pL .i64 ↑i 1)=kI ↑j∧True)))∧(ltI ↑i (lenOf a0.list)=false→True∧T.b true=y0∧True))):F 73 [.t 25 a0,.t 25 a1,.t 1 (.f 188 [])] (zo 3 4) [y0] :=
 p7 C73 (by kernel_rfl) Tryz.func73 (by kernel_rfl) (.two .no (.two .no (.two (.two .no (.lp (fun (ia:Nat)=>[(pp 0,AV.t 25 a0),(pp 1,AV.t 25 a1),(pp 2,AV.t 1 (T.f 188 [])),(pp 6,AV.t 4 (T.b false)),(pp 15,AV.t 25 a0),(pp 16,AV.t 2 (T.i IntKind.i64 (lenOf a0.list))),(pp 17,.t 2 (.i .i64 (ia:Int)))]) I0 M0 (fun _=>.no))) .no))) (by kernel_rfl) h
def C75:Ctx:=⟨tab,sigs,32,[0,1,2,6,7,8,9,15,16,17],[],[],[],[],[]⟩
theorem SZ (a0:T) (a1:T) (y0:T) (I0:Nat→Prop) (M0:Nat→Nat) (h:(neI (lenOf a0.list) (lenOf a1.list)=true→True∧T.b false=y0∧True)∧(neI (lenOf a0.list) (lenOf a1.list)=false→(∃i:Nat,I0 i∧a0=a0∧a1=a1∧T.f 72 []=T.f 72 []∧R17 a0 (kI 0=kI ↑i∧True))∧(∀i:Nat,true=true)∧∀i:Nat,I0 i→(ltI ↑i (lenOf a0.list)=true→(Bd ↑i (lenOf a0.list))∧(Bd ↑i (lenOf a1.list))∧∃y:T,(true=true∧F 72 [.t 25 ((a0.list.getD (↑i:Int).toNat T.u).cell 0),.t 25 ((a1.list.getD (↑i:Int).toNat T.u).cell 0)] (zo 2 4) [y])∧((!y.bool)=true→True∧T.b false=y0∧True)∧((!y.bool)=false→∃j:Nat,I0 j∧M0 j<M0 i∧a0=a0∧a1=a1∧T.f 72 []=T.f 72 []∧R17 a0 (kI (pL .i64 ↑i 1)=kI ↑j∧True)))∧(ltI ↑i (lenOf a0.list)=false→True∧T.b true=y0∧True))):F 75 [.t 26 a0,.t 26 a1,.t 1 (.f 72 [])] (zo 3 4) [y0] :=
 p7 C75 (by kernel_rfl) Tryz.func75 (by kernel_rfl) (.two .no (.two .no (.two (.two .no (.lp (fun (ia:Nat)=>[(pp 0,AV.t 26 a0),(pp 1,AV.t 26 a1),(pp 2,AV.t 1 (T.f 72 [])),(pp 6,AV.t 4 (T.b false)),(pp 15,AV.t 26 a0),(pp 16,AV.t 2 (T.i IntKind.i64 (lenOf a0.list))),(pp 17,.t 2 (.i .i64 (ia:Int)))]) I0 M0 (fun _=>.no))) .no))) (by kernel_rfl) h
def C76:Ctx:=⟨tab,sigs,26,[0,1,4,5,12,13],[],[],[],[],[]⟩
theorem S0 (a0:T) (a1:T) (y0:T) (I0:Nat→Prop) (M0:Nat→Nat) (h:(neI (lenOf a0.list) (lenOf a1.list)=true→True∧T.b false=y0∧True)∧(neI (lenOf a0.list) (lenOf a1.list)=false→(∃i:Nat,I0 i∧R18 a0 a1 (kI 0=kI ↑i∧True))∧(∀i:Nat,true=true)∧∀i:Nat,I0 i→(ltI ↑i (lenOf a0.list)=true→(Bd ↑i (lenOf a0.list))∧(Bd ↑i (lenOf a1.list))∧((!((a0.list.getD (↑i:Int).toNat T.u).cell 0).bool == ((a1.list.getD (↑i:Int).toNat T.u).cell 0).bool)=true→True∧T.b false=y0∧True)∧((!((a0.list.getD (↑i:Int).toNat T.u).cell 0).bool == ((a1.list.getD (↑i:Int).toNat T.u).cell 0).bool)=false→∃j:Nat,I0 j∧M0 j<M0 i∧R18 a0 a1 (kI (pL .i64 ↑i 1)=kI ↑j∧True)))∧(ltI ↑i (lenOf a0.list)=false→True∧T.b true=y0∧True))):F 76 [.t 27 a0,.t 27 a1] (zo 2 4) [y0] :=
 p7 C76 (by kernel_rfl) Tryz.func76 (by kernel_rfl) (.two .no (.two .no (.two (.two .no (.lp (fun (ia:Nat)=>[(pp 0,AV.t 27 a0),(pp 1,AV.t 27 a1),(pp 4,AV.t 4 (T.b false)),(pp 12,AV.t 2 (T.i IntKind.i64 (lenOf a0.list))),(pp 13,.t 2 (.i .i64 (ia:Int)))]) I0 M0 (fun _=>.no))) .no))) (by kernel_rfl) h
def C77:Ctx:=⟨tab,sigs,26,[0,1,4,5,12,13],[],[],[],[],[]⟩
theorem S1 (a0:T) (a1:T) (y0:T) (I0:Nat→Prop) (M0:Nat→Nat) (h:(neI (lenOf a0.list) (lenOf a1.list)=true→True∧T.b false=y0∧True)∧(neI (lenOf a0.list) (lenOf a1.list)=false→(∃i:Nat,I0 i∧R18 a0 a1 (kI 0=kI ↑i∧True))∧(∀i:Nat,true=true)∧∀i:Nat,I0 i→(ltI ↑i (lenOf a0.list)=true→(Bd ↑i (lenOf a0.list))∧(Bd ↑i (lenOf a1.list))∧(neI ((a0.list.getD (↑i:Int).toNat T.u).cell 0).int ((a1.list.getD (↑i:Int).toNat T.u).cell 0).int=true→True∧T.b false=y0∧True)∧(neI ((a0.list.getD (↑i:Int).toNat T.u).cell 0).int ((a1.list.getD (↑i:Int).toNat T.u).cell 0).int=false→∃j:Nat,I0 j∧M0 j<M0 i∧R18 a0 a1 (kI (pL .i64 ↑i 1)=kI ↑j∧True)))∧(ltI ↑i (lenOf a0.list)=false→True∧T.b true=y0∧True))):F 77 [.t 28 a0,.t 28 a1] (zo 2 4) [y0] :=
 p7 C77 (by kernel_rfl) Tryz.func77 (by kernel_rfl) (.two .no (.two .no (.two (.two .no (.lp (fun (ia:Nat)=>[(pp 0,AV.t 28 a0),(pp 1,AV.t 28 a1),(pp 4,AV.t 4 (T.b false)),(pp 12,AV.t 2 (T.i IntKind.i64 (lenOf a0.list))),(pp 13,.t 2 (.i .i64 (ia:Int)))]) I0 M0 (fun _=>.no))) .no))) (by kernel_rfl) h
def Vh:Ctx:=⟨tab,sigs,26,[0,1,4,5,12,13],[],[],[],[],[]⟩
theorem Pg (a0:T) (a1:T) (y0:T) (I0:Nat→Prop) (M0:Nat→Nat) (h:(neI (lenOf a0.list) (lenOf a1.list)=true→True∧T.b false=y0∧True)∧(neI (lenOf a0.list) (lenOf a1.list)=false→(∃i:Nat,I0 i∧R18 a0 a1 (kI 0=kI ↑i∧True))∧(∀i:Nat,true=true)∧∀i:Nat,I0 i→(ltI ↑i (lenOf a0.list)=true→(Bd ↑i (lenOf a0.list))∧(Bd ↑i (lenOf a1.list))∧(neI ((a0.list.getD (↑i:Int).toNat T.u).cell 0).int ((a1.list.getD (↑i:Int).toNat T.u).cell 0).int=true→True∧T.b false=y0∧True)∧(neI ((a0.list.getD (↑i:Int).toNat T.u).cell 0).int ((a1.list.getD (↑i:Int).toNat T.u).cell 0).int=false→∃j:Nat,I0 j∧M0 j<M0 i∧R18 a0 a1 (kI (pL .i64 ↑i 1)=kI ↑j∧True)))∧(ltI ↑i (lenOf a0.list)=false→True∧T.b true=y0∧True))):F 121 [.t 22 a0,.t 22 a1] (zo 2 4) [y0] :=
 p7 Vh (by kernel_rfl) Tryz.func121 (by kernel_rfl) (.two .no (.two .no (.two (.two .no (.lp (fun (ia:Nat)=>[(pp 0,AV.t 22 a0),(pp 1,AV.t 22 a1),(pp 4,AV.t 4 (T.b false)),(pp 12,AV.t 2 (T.i IntKind.i64 (lenOf a0.list))),(pp 13,.t 2 (.i .i64 (ia:Int)))]) I0 M0 (fun _=>.no))) .no))) (by kernel_rfl) h
def U4:Ctx:=⟨tab,sigs,28,[0,1,4,5,6,7,13,14,15],[pp 5],[],[],[],[]⟩
theorem O6 (a0:T) (y0:T) (I0:(List T×Nat)→Prop) (M0:(List T×Nat)→Nat) (h:∀y:T,IK a0 y→(y.bool=true→True∧T.l []=y0∧True)∧(y.bool=false→(0≤lenOf a0.list∧lenOf a0.list≤lenOf a0.list∧(↑56:Int)*lenOf a0.list≤(281474976710656:Int)∧lenOf a0.list≤(9223372036854775807:Int))∧(∃(i:List T×Nat),I0 i∧a0=a0∧T.f 100 []=T.f 100 []∧T.l []=T.l []∧List.replicate (lenOf a0.list).toNat (T.g [T.b false,T.l [],T.l []])=i.1∧R7 a0 (kI 0=kI ↑i.2∧True))∧(∀(i:List T×Nat),true=true)∧∀(i:List T×Nat),I0 i→(ltI ↑i.2 (lenOf a0.list)=true→(Bd ↑i.2 (lenOf a0.list))∧∃y:T,(true=true∧F 100 [.t 23 (G3 ((a0.list.getD (↑i.2:Int).toNat T.u).part 0 3))] (zo 1 23) [y])∧(Bd ↑i.2 (↑i.1.length:Int))∧∃(j:List T×Nat),I0 j∧M0 j<M0 i∧a0=a0∧T.f 100 []=T.f 100 []∧T.l []=T.l []∧i.1.set (0+(↑i.2:Int).toNat) ((((i.1.getD (0+(↑i.2:Int).toNat) T.u).setCell 0 (y.cell 0)).setCell 1 (y.cell 1)).setCell 2 (y.cell 2))=j.1∧R7 a0 (kI (pL .i64 ↑i.2 1)=kI ↑j.2∧True))∧(ltI ↑i.2 (lenOf a0.list)=false→True∧T.l (List.take i.1.length (List.drop 0 i.1))=y0∧True))):F 103 [.t 25 a0,.t 1 (.f 100 [])] (zo 2 25) [y0] :=
 p7 U4 (by kernel_rfl) Tryz.func103 (by kernel_rfl) (.two .no (.two .no (.two .no (.two (.two .no (.lp (fun (ia:List T×Nat)=>[(pp 0,AV.t 25 a0),(pp 1,AV.t 1 (T.f 100 [])),(pp 4,AV.t 25 (T.l [])),(pp 5,.own 25 0 ia.1),(pp 13,AV.t 25 a0),(pp 14,AV.t 2 (T.i IntKind.i64 (lenOf a0.list))),(pp 15,.t 2 (.i .i64 (ia.2:Int)))]) I0 M0 (fun _=>.no))) .no)))) (by kernel_rfl) h
def U5:Ctx:=⟨tab,sigs,28,[0,1,4,5,6,7,13,14,15],[pp 5],[],[],[],[]⟩
theorem O7 (a0:T) (y0:T) (I0:(List T×Nat)→Prop) (M0:(List T×Nat)→Nat) (h:∀y:T,IK a0 y→(y.bool=true→True∧T.l []=y0∧True)∧(y.bool=false→(0≤lenOf a0.list∧lenOf a0.list≤lenOf a0.list∧(↑24:Int)*lenOf a0.list≤(281474976710656:Int)∧lenOf a0.list≤(9223372036854775807:Int))∧(∃(i:List T×Nat),I0 i∧a0=a0∧T.f 62 []=T.f 62 []∧T.l []=T.l []∧List.replicate (lenOf a0.list).toNat (T.l [])=i.1∧R7 a0 (kI 0=kI ↑i.2∧True))∧(∀(i:List T×Nat),true=true)∧∀(i:List T×Nat),I0 i→(ltI ↑i.2 (lenOf a0.list)=true→(Bd ↑i.2 (lenOf a0.list))∧∃y:T,(true=true∧F 62 [.t 28 ((a0.list.getD (↑i.2:Int).toNat T.u).cell 0)] (zo 1 28) [y])∧(Bd ↑i.2 (↑i.1.length:Int))∧∃(j:List T×Nat),I0 j∧M0 j<M0 i∧a0=a0∧T.f 62 []=T.f 62 []∧T.l []=T.l []∧i.1.set (0+(↑i.2:Int).toNat) y=j.1∧R7 a0 (kI (pL .i64 ↑i.2 1)=kI ↑j.2∧True))∧(ltI ↑i.2 (lenOf a0.list)=false→True∧T.l (List.take i.1.length (List.drop 0 i.1))=y0∧True))):F 104 [.t 59 a0,.t 1 (.f 62 [])] (zo 2 59) [y0] :=
 p7 U5 (by kernel_rfl) Tryz.func104 (by kernel_rfl) (.two .no (.two .no (.two .no (.two (.two .no (.lp (fun (ia:List T×Nat)=>[(pp 0,AV.t 59 a0),(pp 1,AV.t 1 (T.f 62 [])),(pp 4,AV.t 59 (T.l [])),(pp 5,.own 59 0 ia.1),(pp 13,AV.t 59 a0),(pp 14,AV.t 2 (T.i IntKind.i64 (lenOf a0.list))),(pp 15,.t 2 (.i .i64 (ia.2:Int)))]) I0 M0 (fun _=>.no))) .no)))) (by kernel_rfl) h
def Vw:Ctx:=⟨tab,sigs,28,[0,1,4,5,6,7,13,14,15],[pp 5],[],[],[],[]⟩
theorem Pv (a0:T) (y0:T) (I0:(List T×Nat)→Prop) (M0:(List T×Nat)→Nat) (h:∀y:T,IK a0 y→(y.bool=true→True∧T.l []=y0∧True)∧(y.bool=false→(0≤lenOf a0.list∧lenOf a0.list≤lenOf a0.list∧(↑24:Int)*lenOf a0.list≤(281474976710656:Int)∧lenOf a0.list≤(9223372036854775807:Int))∧(∃(i:List T×Nat),I0 i∧a0=a0∧T.f 60 []=T.f 60 []∧T.l []=T.l []∧List.replicate (lenOf a0.list).toNat (T.l [])=i.1∧R7 a0 (kI 0=kI ↑i.2∧True))∧(∀(i:List T×Nat),true=true)∧∀(i:List T×Nat),I0 i→(ltI ↑i.2 (lenOf a0.list)=true→(Bd ↑i.2 (lenOf a0.list))∧∃y:T,(true=true∧F 60 [.t 25 ((a0.list.getD (↑i.2:Int).toNat T.u).cell 0)] (zo 1 25) [y])∧(Bd ↑i.2 (↑i.1.length:Int))∧∃(j:List T×Nat),I0 j∧M0 j<M0 i∧a0=a0∧T.f 60 []=T.f 60 []∧T.l []=T.l []∧i.1.set (0+(↑i.2:Int).toNat) y=j.1∧R7 a0 (kI (pL .i64 ↑i.2 1)=kI ↑j.2∧True))∧(ltI ↑i.2 (lenOf a0.list)=false→True∧T.l (List.take i.1.length (List.drop 0 i.1))=y0∧True))):F 140 [.t 26 a0,.t 1 (.f 60 [])] (zo 2 26) [y0] :=
 p7 Vw (by kernel_rfl) Tryz.func140 (by kernel_rfl) (.two .no (.two .no (.two .no (.two (.two .no (.lp (fun (ia:List T×Nat)=>[(pp 0,AV.t 26 a0),(pp 1,AV.t 1 (T.f 60 [])),(pp 4,AV.t 26 (T.l [])),(pp 5,.own 26 0 ia.1),(pp 13,AV.t 26 a0),(pp 14,AV.t 2 (T.i IntKind.i64 (lenOf a0.list))),(pp 15,.t 2 (.i .i64 (ia.2:Int)))]) I0 M0 (fun _=>.no))) .no)))) (by kernel_rfl) h
theorem Qq (a0:T) (y0:T) (h:∀y:T,IK a0 y→(y.bool=true→True∧T.l []=y0∧True)∧(y.bool=false→(Rm (0+a0.list.length) 8)∧True∧T.l (List.replicate 0 (kI 0)++a0.list)=y0∧True)):F 62 [.t 28 a0] (zo 1 28) [y0] :=
 p7 C62 (by kernel_rfl) Tryz.func62 (by kernel_rfl) .no (by kernel_rfl) h
def VJ:Ctx:=⟨tab,sigs,19,[0,1,4,5,7,8],[],[],[],[],[]⟩
theorem JX (a0:T) (c:T) (y0:T) (I0:Nat→Prop) (M0:Nat→Nat) (h:(∃i:Nat,I0 i∧a0=a0∧T.f 120 [c]=T.f 120 [c]∧R16 a0 (kI 0=kI ↑i∧True))∧(∀i:Nat,true=true)∧∀i:Nat,I0 i→(ltI ↑i (lenOf a0.list)=true→(Bd ↑i (lenOf a0.list))∧∃y:T,(true=true∧F 120 [.t 2 ((a0.list.getD (↑i:Int).toNat T.u).cell 0),F5 c] (zo 2 4) [y])∧(y.bool=true→True∧kI ↑i=y0∧True)∧(y.bool=false→∃j:Nat,I0 j∧M0 j<M0 i∧a0=a0∧T.f 120 [c]=T.f 120 [c]∧R16 a0 (kI (pL .i64 ↑i 1)=kI ↑j∧True)))∧(ltI ↑i (lenOf a0.list)=false→True∧kI (-1:Int)=y0∧True)):F 158 [.t 28 a0,.t 1 (.f 120 [c])] (zo 2 2) [y0] :=
 p7 VJ (by kernel_rfl) Tryz.func158 (by kernel_rfl) (.two .no (.two (.two .no (.lp (fun (ia:Nat)=>[(pp 0,AV.t 28 a0),(pp 1,AV.t 1 (T.f 120 [c])),(pp 4,AV.t 2 (T.i IntKind.i64 (0:Int))),(pp 7,AV.t 2 (T.i IntKind.i64 (lenOf a0.list))),(pp 8,.t 2 (.i .i64 (ia:Int)))]) I0 M0 (fun _=>.no))) .no)) (by kernel_rfl) h
def VS:Ctx:=⟨tab,sigs,36,[0,1,4,5,6,7,8,9,10,11],[],[],[],[],[]⟩
theorem PO (a0:T) (a1:T) (y0:T) (I0:Nat→Prop) (M0:Nat→Nat) (h:(∃i:Nat,I0 i∧R19 a0 a1 (kI 0=kI ↑i∧True))∧(∀i:Nat,true=true)∧∀i:Nat,I0 i→(ltI ↑i (lenOf a0.list)=true→(Bd ↑i (lenOf a0.list))∧(leI (lenOf a1.list) ↑i=true→True∧kI 1=y0∧True)∧(leI (lenOf a1.list) ↑i=false→(Bd ↑i (lenOf a1.list))∧∃y:T,F 165 [.t 2 ((a0.list.getD (↑i:Int).toNat T.u).cell 0),.t 2 ((a1.list.getD (↑i:Int).toNat T.u).cell 0)] (zo 2 2) [y]∧(neI y.int 0=true→True∧y=y0∧True)∧(neI y.int 0=false→∃j:Nat,I0 j∧M0 j<M0 i∧R19 a0 a1 (kI (pL .i64 ↑i 1)=kI ↑j∧True))))∧(ltI ↑i (lenOf a0.list)=false→(ltI (lenOf a0.list) (lenOf a1.list)=true→True∧kI (-1:Int)=y0∧True)∧(ltI (lenOf a0.list) (lenOf a1.list)=false→True∧kI 0=y0∧True))):F 167 [.t 28 a0,.t 28 a1] (zo 2 2) [y0] :=
 p7 VS (by kernel_rfl) Tryz.func167 (by kernel_rfl) (.two .no (.two (.two .no (.lp (fun (ia:Nat)=>[(pp 0,AV.t 28 a0),(pp 1,AV.t 28 a1),(pp 4,AV.t 2 (T.i IntKind.i64 (0:Int))),(pp 9,AV.t 28 a0),(pp 10,AV.t 2 (T.i IntKind.i64 (lenOf a0.list))),(pp 11,.t 2 (.i .i64 (ia:Int)))]) I0 M0 (fun _=>.no))) .no)) (by kernel_rfl) h
def VO:Ctx:=⟨tab,sigs,49,[0,1,2,6,7,8,9,10,11],[],[],[],[],[]⟩
theorem PL (a0:T) (a1:T) (y0:T) (y1:T) (I0:(Nat×Nat)→Prop) (M0:(Nat×Nat)→Nat) (h:(∃(i:Nat×Nat),I0 i∧a0=a0∧a1=a1∧T.f 164 []=T.f 164 []∧R20 a0 (kI 0=kI ↑i.1∧kI (lenOf a0.list)=kI ↑i.2∧True))∧(∀(i:Nat×Nat),true=true)∧∀(i:Nat×Nat),I0 i→(ltI ↑i.1 ↑i.2=true→0≤(1:Int)∧(Bd (pG .i64 (sE .u64 (pG .u64 (pL .i64 ↑i.1 (↑i.2:Int))) (1:Int))) (lenOf a0.list))∧∃y:T,(true=true∧F 164 [.t 62 ((a0.list.getD (pG .i64 (sE .u64 (pG .u64 (pL .i64 ↑i.1 (↑i.2:Int))) (1:Int))).toNat T.u).part 0 16),.t 2 a1] (zo 2 2) [y])∧(ltI y.int 0=true→∃(j:Nat×Nat),I0 j∧M0 j<M0 i∧a0=a0∧a1=a1∧T.f 164 []=T.f 164 []∧R20 a0 (kI (pL .i64 (pG .i64 (sE .u64 (pG .u64 (pL .i64 ↑i.1 (↑i.2:Int))) (1:Int))) (1:Int))=kI ↑j.1∧kI ↑i.2=kI ↑j.2∧True))∧(ltI y.int 0=false→∃(j:Nat×Nat),I0 j∧M0 j<M0 i∧a0=a0∧a1=a1∧T.f 164 []=T.f 164 []∧R20 a0 (kI ↑i.1=kI ↑j.1∧kI (pG .i64 (sE .u64 (pG .u64 (pL .i64 ↑i.1 (↑i.2:Int))) (1:Int)))=kI ↑j.2∧True)))∧(ltI ↑i.1 ↑i.2=false→(ltI ↑i.1 (lenOf a0.list)=true∧True→0≤(↑i.1:Int)∧(↑i.1:Int)<lenOf a0.list)∧∃y:T,(ltI ↑i.1 (lenOf a0.list)=true∧True→true=true∧F 164 [.t 62 ((a0.list.getD (↑i.1:Int).toNat T.u).part 0 16),.t 2 a1] (zo 2 2) [y])∧True∧kI ↑i.1=y0∧T.ite (ltI ↑i.1 (lenOf a0.list)) (T.b (eqI y.int 0)) (T.b false)=y1∧True)):F 163 [.t 31 a0,.t 2 a1,.t 1 (.f 164 [])] Z8 [y0,y1] :=
 p7 VO (by kernel_rfl) Tryz.func163 (by kernel_rfl) (.two .no (.two .no (.two .no (.two (.lp (fun (ia:Nat×Nat)=>[(pp 0,AV.t 31 a0),(pp 1,AV.t 2 a1),(pp 2,AV.t 1 (T.f 164 [])),(pp 6,AV.t 2 (T.i IntKind.i64 (0:Int))),(pp 7,AV.t 4 (T.b false)),(pp 8,AV.t 2 (T.i IntKind.i64 (lenOf a0.list))),(pp 9,.t 2 (.i .i64 (ia.1:Int))),(pp 10,.t 2 (.i .i64 (ia.2:Int)))]) I0 M0 (fun _=>.no)) .no)))) (by kernel_rfl) h
def C82:Ctx:=⟨tab,sigs,27,[0,1,4,5],[],[],[],[],[]⟩
theorem S6 (a0:T) (a1:T) (y0:T) (I0:Nat→Prop) (M0:Nat→Nat) (h:(neI (lenOf a0.list) (lenOf a1.list)=true→True∧T.b false=y0∧True)∧(neI (lenOf a0.list) (lenOf a1.list)=false→(∃i:Nat,I0 i∧R1 a0 a1 (kI 0=kI ↑i∧True))∧(∀i:Nat,true=true)∧∀i:Nat,I0 i→(ltI ↑i (lenOf a0.list)=true→(Bd ↑i (lenOf a0.list))∧(Bd ↑i (lenOf a1.list))∧∃y:T,F 23 [.t 23 ((a0.list.getD (↑i:Int).toNat T.u).part 0 3),.t 23 ((a1.list.getD (↑i:Int).toNat T.u).part 0 3)] (zo 2 2) [y]∧(neI y.int 0=true→True∧T.b false=y0∧True)∧(neI y.int 0=false→∃j:Nat,I0 j∧M0 j<M0 i∧R1 a0 a1 (kI (pL .i64 ↑i 1)=kI ↑j∧True)))∧(ltI ↑i (lenOf a0.list)=false→True∧T.b true=y0∧True))):F 82 [.t 25 a0,.t 25 a1] (zo 2 4) [y0] :=
 p7 C82 (by kernel_rfl) Tryz.func82 (by kernel_rfl) (.two .no (.two .no (.two (.two .no (.lp (fun (ia:Nat)=>[(pp 0,AV.t 25 a0),(pp 1,AV.t 25 a1),(pp 4,AV.t 4 (T.b false)),(pp 5,.t 2 (.i .i64 (ia:Int)))]) I0 M0 (fun _=>.no))) .no))) (by kernel_rfl) h
def C20:Ctx:=⟨tab,sigs,31,[0,1,2,6,7,8],[pp 7],[],[],[],[]⟩
theorem Sx (a0:T) (a1:T) (a2:T) (y0:T) (I0:(List T×Nat)→Prop) (M0:(List T×Nat)→Nat) (h:(∃(i:List T×Nat),I0 i∧R21 a0 a1 a2 ([]=i.1∧kI 0=kI ↑i.2∧True))∧(∀(i:List T×Nat),true=true)∧∀(i:List T×Nat),I0 i→((T.ite (ltI ↑i.2 (lenOf a0.list)) (T.b (ltI ↑i.2 a2.int)) (T.b false)).bool=true→(Bd ↑i.2 (lenOf a0.list))∧∃y:T,F 19 [.t 2 ((a0.list.getD (↑i.2:Int).toNat T.u).cell 0),.t 2 a1] (zo 2 2) [y]∧(Rm ((List.take i.1.length i.1).length+((List.replicate 1 (kI 0)).set 0 (kI (pL .i64 1 y.int))).length) 8)∧∃(j:List T×Nat),I0 j∧M0 j<M0 i∧R21 a0 a1 a2 (List.take i.1.length i.1++(List.replicate 1 (kI 0)).set 0 (kI (pL .i64 1 y.int))=j.1∧kI (pL .i64 ↑i.2 1)=kI ↑j.2∧True))∧((T.ite (ltI ↑i.2 (lenOf a0.list)) (T.b (ltI ↑i.2 a2.int)) (T.b false)).bool=false→True∧T.l (List.take i.1.length (List.drop 0 i.1))=y0∧True)):F 20 [.t 28 a0,.t 2 a1,.t 2 a2] (zo 3 28) [y0] :=
 p7 C20 (by kernel_rfl) Tryz.func20 (by kernel_rfl) (.two .no (.two .no (.two (.two .no (.lp (fun (ia:List T×Nat)=>[(pp 0,AV.t 28 a0),(pp 1,AV.t 2 a1),(pp 2,AV.t 2 a2),(pp 6,AV.t 28 (T.l [])),(pp 7,.own 28 0 ia.1),(pp 8,.t 2 (.i .i64 (ia.2:Int)))]) I0 M0 (fun _=>.no))) .no))) (by kernel_rfl) h
def C22:Ctx:=⟨tab,sigs,26,[0,1,4,5],[],[],[],[],[]⟩
theorem Sy (a0:T) (a1:T) (y0:T) (I0:Nat→Prop) (M0:Nat→Nat) (h:(neI (lenOf a0.list) (lenOf a1.list)=true→True∧T.b false=y0∧True)∧(neI (lenOf a0.list) (lenOf a1.list)=false→(∃i:Nat,I0 i∧R1 a0 a1 (kI 0=kI ↑i∧True))∧(∀i:Nat,true=true)∧∀i:Nat,I0 i→(ltI ↑i (lenOf a0.list)=true→(Bd ↑i (lenOf a0.list))∧(Bd ↑i (lenOf a1.list))∧(neI ((a0.list.getD (↑i:Int).toNat T.u).cell 0).int ((a1.list.getD (↑i:Int).toNat T.u).cell 0).int=true→True∧T.b false=y0∧True)∧(neI ((a0.list.getD (↑i:Int).toNat T.u).cell 0).int ((a1.list.getD (↑i:Int).toNat T.u).cell 0).int=false→∃j:Nat,I0 j∧M0 j<M0 i∧R1 a0 a1 (kI (pL .i64 ↑i 1)=kI ↑j∧True)))∧(ltI ↑i (lenOf a0.list)=false→True∧T.b true=y0∧True))):F 22 [.t 28 a0,.t 28 a1] (zo 2 4) [y0] :=
 p7 C22 (by kernel_rfl) Tryz.func22 (by kernel_rfl) (.two .no (.two .no (.two (.two .no (.lp (fun (ia:Nat)=>[(pp 0,AV.t 28 a0),(pp 1,AV.t 28 a1),(pp 4,AV.t 4 (T.b false)),(pp 5,.t 2 (.i .i64 (ia:Int)))]) I0 M0 (fun _=>.no))) .no))) (by kernel_rfl) h
def U7:Ctx:=⟨tab,sigs,131,[0,1,2,3,4,5,66,67],[],[],[],[],[]⟩
theorem O9 (a0:T) (y0:T) (I0:Nat→Prop) (M0:Nat→Nat) (h:∃y:T,F 143 [.t 23 (T.g [a0.cell 2,a0.cell 3,a0.cell 4])] (zo 1 4) [y]∧∃y_1:T,((T.ite (T.ite (T.ite (T.ite (T.ite (T.ite (!y.bool) (T.b true) (T.b (neI (lenOf (a0.cell 5).list) (a0.cell 1).int))).bool (T.b true) (T.b (neI (lenOf (a0.cell 7).list) (a0.cell 1).int))).bool (T.b true) (T.b (neI (lenOf (a0.cell 9).list) (a0.cell 1).int))).bool (T.b true) (T.b (neI (lenOf (a0.cell 10).list) (a0.cell 1).int))).bool (T.b true) (T.b (neI (lenOf (a0.cell 6).list) (a0.cell 1).int))).bool (T.b true) (T.b (neI (lenOf (a0.cell 8).list) (a0.cell 1).int))).bool=false∧True→F 144 [.t 25 (a0.cell 5)] (zo 1 4) [y_1])∧∃y_2:T,((T.ite (T.ite (T.ite (T.ite (T.ite (T.ite (T.ite (!y.bool) (T.b true) (T.b (neI (lenOf (a0.cell 5).list) (a0.cell 1).int))).bool (T.b true) (T.b (neI (lenOf (a0.cell 7).list) (a0.cell 1).int))).bool (T.b true) (T.b (neI (lenOf (a0.cell 9).list) (a0.cell 1).int))).bool (T.b true) (T.b (neI (lenOf (a0.cell 10).list) (a0.cell 1).int))).bool (T.b true) (T.b (neI (lenOf (a0.cell 6).list) (a0.cell 1).int))).bool (T.b true) (T.b (neI (lenOf (a0.cell 8).list) (a0.cell 1).int))).bool (T.b true) (T.b !y_1.bool)).bool=false∧True→F 144 [.t 25 (a0.cell 7)] (zo 1 4) [y_2])∧((T.ite (T.ite (T.ite (T.ite (T.ite (T.ite (T.ite (T.ite (!y.bool) (T.b true) (T.b (neI (lenOf (a0.cell 5).list) (a0.cell 1).int))).bool (T.b true) (T.b (neI (lenOf (a0.cell 7).list) (a0.cell 1).int))).bool (T.b true) (T.b (neI (lenOf (a0.cell 9).list) (a0.cell 1).int))).bool (T.b true) (T.b (neI (lenOf (a0.cell 10).list) (a0.cell 1).int))).bool (T.b true) (T.b (neI (lenOf (a0.cell 6).list) (a0.cell 1).int))).bool (T.b true) (T.b (neI (lenOf (a0.cell 8).list) (a0.cell 1).int))).bool (T.b true) (T.b !y_1.bool)).bool (T.b true) (T.b !y_2.bool)).bool=true→True∧T.b false=y0∧True)∧((T.ite (T.ite (T.ite (T.ite (T.ite (T.ite (T.ite (T.ite (!y.bool) (T.b true) (T.b (neI (lenOf (a0.cell 5).list) (a0.cell 1).int))).bool (T.b true) (T.b (neI (lenOf (a0.cell 7).list) (a0.cell 1).int))).bool (T.b true) (T.b (neI (lenOf (a0.cell 9).list) (a0.cell 1).int))).bool (T.b true) (T.b (neI (lenOf (a0.cell 10).list) (a0.cell 1).int))).bool (T.b true) (T.b (neI (lenOf (a0.cell 6).list) (a0.cell 1).int))).bool (T.b true) (T.b (neI (lenOf (a0.cell 8).list) (a0.cell 1).int))).bool (T.b true) (T.b !y_1.bool)).bool (T.b true) (T.b !y_2.bool)).bool=false→(∃i:Nat,I0 i∧R22 a0 (kI 0=kI ↑i∧True))∧(∀i:Nat,true=true)∧∀i:Nat,I0 i→(ltI ↑i (a0.cell 1).int=true→(Bd ↑i (lenOf (a0.cell 9).list))∧((((a0.cell 9).list.getD (↑i:Int).toNat T.u).cell 0).bool=true→(Bd ↑i (lenOf (a0.cell 6).list))∧(neI (lenOf (((a0.cell 6).list.getD (↑i:Int).toNat T.u).cell 0).list) (a0.cell 1).int=false∧True→0≤(↑i:Int)∧(↑i:Int)<lenOf (a0.cell 8).list)∧((T.ite (neI (lenOf (((a0.cell 6).list.getD (↑i:Int).toNat T.u).cell 0).list) (a0.cell 1).int) (T.b true) (T.b (neI (lenOf (((a0.cell 8).list.getD (↑i:Int).toNat T.u).cell 0).list) (0:Int)))).bool=false∧True→0≤(↑i:Int)∧(↑i:Int)<lenOf (a0.cell 6).list)∧∃y:T,((T.ite (neI (lenOf (((a0.cell 6).list.getD (↑i:Int).toNat T.u).cell 0).list) (a0.cell 1).int) (T.b true) (T.b (neI (lenOf (((a0.cell 8).list.getD (↑i:Int).toNat T.u).cell 0).list) (0:Int)))).bool=false∧True→F 144 [.t 25 (((a0.cell 6).list.getD (↑i:Int).toNat T.u).cell 0)] (zo 1 4) [y])∧((T.ite (T.ite (neI (lenOf (((a0.cell 6).list.getD (↑i:Int).toNat T.u).cell 0).list) (a0.cell 1).int) (T.b true) (T.b (neI (lenOf (((a0.cell 8).list.getD (↑i:Int).toNat T.u).cell 0).list) (0:Int)))).bool (T.b true) (T.b !y.bool)).bool=false∧True→0≤(↑i:Int)∧(↑i:Int)<lenOf (a0.cell 8).list)∧∃y_3:T,((T.ite (T.ite (neI (lenOf (((a0.cell 6).list.getD (↑i:Int).toNat T.u).cell 0).list) (a0.cell 1).int) (T.b true) (T.b (neI (lenOf (((a0.cell 8).list.getD (↑i:Int).toNat T.u).cell 0).list) (0:Int)))).bool (T.b true) (T.b !y.bool)).bool=false∧True→F 144 [.t 25 (((a0.cell 8).list.getD (↑i:Int).toNat T.u).cell 0)] (zo 1 4) [y_3])∧((T.ite (T.ite (T.ite (neI (lenOf (((a0.cell 6).list.getD (↑i:Int).toNat T.u).cell 0).list) (a0.cell 1).int) (T.b true) (T.b (neI (lenOf (((a0.cell 8).list.getD (↑i:Int).toNat T.u).cell 0).list) (0:Int)))).bool (T.b true) (T.b !y.bool)).bool (T.b true) (T.b !y_3.bool)).bool=false∧True→0≤(↑i:Int)∧(↑i:Int)<lenOf (a0.cell 10).list)∧((T.ite (T.ite (T.ite (T.ite (neI (lenOf (((a0.cell 6).list.getD (↑i:Int).toNat T.u).cell 0).list) (a0.cell 1).int) (T.b true) (T.b (neI (lenOf (((a0.cell 8).list.getD (↑i:Int).toNat T.u).cell 0).list) (0:Int)))).bool (T.b true) (T.b !y.bool)).bool (T.b true) (T.b !y_3.bool)).bool (T.b true) (T.b (ltI (((a0.cell 10).list.getD (↑i:Int).toNat T.u).cell 0).int (0:Int)))).bool=false∧True→0≤(↑i:Int)∧(↑i:Int)<lenOf (a0.cell 10).list)∧((T.ite (T.ite (T.ite (T.ite (T.ite (neI (lenOf (((a0.cell 6).list.getD (↑i:Int).toNat T.u).cell 0).list) (a0.cell 1).int) (T.b true) (T.b (neI (lenOf (((a0.cell 8).list.getD (↑i:Int).toNat T.u).cell 0).list) (0:Int)))).bool (T.b true) (T.b !y.bool)).bool (T.b true) (T.b !y_3.bool)).bool (T.b true) (T.b (ltI (((a0.cell 10).list.getD (↑i:Int).toNat T.u).cell 0).int (0:Int)))).bool (T.b true) (T.b (leI (a0.cell 1).int (((a0.cell 10).list.getD (↑i:Int).toNat T.u).cell 0).int))).bool=true→True∧T.b false=y0∧True)∧((T.ite (T.ite (T.ite (T.ite (T.ite (neI (lenOf (((a0.cell 6).list.getD (↑i:Int).toNat T.u).cell 0).list) (a0.cell 1).int) (T.b true) (T.b (neI (lenOf (((a0.cell 8).list.getD (↑i:Int).toNat T.u).cell 0).list) (0:Int)))).bool (T.b true) (T.b !y.bool)).bool (T.b true) (T.b !y_3.bool)).bool (T.b true) (T.b (ltI (((a0.cell 10).list.getD (↑i:Int).toNat T.u).cell 0).int (0:Int)))).bool (T.b true) (T.b (leI (a0.cell 1).int (((a0.cell 10).list.getD (↑i:Int).toNat T.u).cell 0).int))).bool=false→∃j:Nat,I0 j∧M0 j<M0 i∧R22 a0 (kI (pL .i64 ↑i 1)=kI ↑j∧True)))∧((((a0.cell 9).list.getD (↑i:Int).toNat T.u).cell 0).bool=false→(Bd ↑i (lenOf (a0.cell 6).list))∧(neI (lenOf (((a0.cell 6).list.getD (↑i:Int).toNat T.u).cell 0).list) (a0.cell 1).int=false∧True→0≤(↑i:Int)∧(↑i:Int)<lenOf (a0.cell 8).list)∧((T.ite (neI (lenOf (((a0.cell 6).list.getD (↑i:Int).toNat T.u).cell 0).list) (a0.cell 1).int) (T.b true) (T.b (neI (lenOf (((a0.cell 8).list.getD (↑i:Int).toNat T.u).cell 0).list) (a0.cell 0).int))).bool=false∧True→0≤(↑i:Int)∧(↑i:Int)<lenOf (a0.cell 6).list)∧∃y:T,((T.ite (neI (lenOf (((a0.cell 6).list.getD (↑i:Int).toNat T.u).cell 0).list) (a0.cell 1).int) (T.b true) (T.b (neI (lenOf (((a0.cell 8).list.getD (↑i:Int).toNat T.u).cell 0).list) (a0.cell 0).int))).bool=false∧True→F 144 [.t 25 (((a0.cell 6).list.getD (↑i:Int).toNat T.u).cell 0)] (zo 1 4) [y])∧((T.ite (T.ite (neI (lenOf (((a0.cell 6).list.getD (↑i:Int).toNat T.u).cell 0).list) (a0.cell 1).int) (T.b true) (T.b (neI (lenOf (((a0.cell 8).list.getD (↑i:Int).toNat T.u).cell 0).list) (a0.cell 0).int))).bool (T.b true) (T.b !y.bool)).bool=false∧True→0≤(↑i:Int)∧(↑i:Int)<lenOf (a0.cell 8).list)∧∃y_3:T,((T.ite (T.ite (neI (lenOf (((a0.cell 6).list.getD (↑i:Int).toNat T.u).cell 0).list) (a0.cell 1).int) (T.b true) (T.b (neI (lenOf (((a0.cell 8).list.getD (↑i:Int).toNat T.u).cell 0).list) (a0.cell 0).int))).bool (T.b true) (T.b !y.bool)).bool=false∧True→F 144 [.t 25 (((a0.cell 8).list.getD (↑i:Int).toNat T.u).cell 0)] (zo 1 4) [y_3])∧((T.ite (T.ite (T.ite (neI (lenOf (((a0.cell 6).list.getD (↑i:Int).toNat T.u).cell 0).list) (a0.cell 1).int) (T.b true) (T.b (neI (lenOf (((a0.cell 8).list.getD (↑i:Int).toNat T.u).cell 0).list) (a0.cell 0).int))).bool (T.b true) (T.b !y.bool)).bool (T.b true) (T.b !y_3.bool)).bool=false∧True→0≤(↑i:Int)∧(↑i:Int)<lenOf (a0.cell 10).list)∧((T.ite (T.ite (T.ite (T.ite (neI (lenOf (((a0.cell 6).list.getD (↑i:Int).toNat T.u).cell 0).list) (a0.cell 1).int) (T.b true) (T.b (neI (lenOf (((a0.cell 8).list.getD (↑i:Int).toNat T.u).cell 0).list) (a0.cell 0).int))).bool (T.b true) (T.b !y.bool)).bool (T.b true) (T.b !y_3.bool)).bool (T.b true) (T.b (ltI (((a0.cell 10).list.getD (↑i:Int).toNat T.u).cell 0).int (0:Int)))).bool=false∧True→0≤(↑i:Int)∧(↑i:Int)<lenOf (a0.cell 10).list)∧((T.ite (T.ite (T.ite (T.ite (T.ite (neI (lenOf (((a0.cell 6).list.getD (↑i:Int).toNat T.u).cell 0).list) (a0.cell 1).int) (T.b true) (T.b (neI (lenOf (((a0.cell 8).list.getD (↑i:Int).toNat T.u).cell 0).list) (a0.cell 0).int))).bool (T.b true) (T.b !y.bool)).bool (T.b true) (T.b !y_3.bool)).bool (T.b true) (T.b (ltI (((a0.cell 10).list.getD (↑i:Int).toNat T.u).cell 0).int (0:Int)))).bool (T.b true) (T.b (leI (a0.cell 1).int (((a0.cell 10).list.getD (↑i:Int).toNat T.u).cell 0).int))).bool=true→True∧T.b false=y0∧True)∧((T.ite (T.ite (T.ite (T.ite (T.ite (neI (lenOf (((a0.cell 6).list.getD (↑i:Int).toNat T.u).cell 0).list) (a0.cell 1).int) (T.b true) (T.b (neI (lenOf (((a0.cell 8).list.getD (↑i:Int).toNat T.u).cell 0).list) (a0.cell 0).int))).bool (T.b true) (T.b !y.bool)).bool (T.b true) (T.b !y_3.bool)).bool (T.b true) (T.b (ltI (((a0.cell 10).list.getD (↑i:Int).toNat T.u).cell 0).int (0:Int)))).bool (T.b true) (T.b (leI (a0.cell 1).int (((a0.cell 10).list.getD (↑i:Int).toNat T.u).cell 0).int))).bool=false→∃j:Nat,I0 j∧M0 j<M0 i∧R22 a0 (kI (pL .i64 ↑i 1)=kI ↑j∧True))))∧(ltI ↑i (a0.cell 1).int=false→True∧T.b true=y0∧True))):F 109 [.t 29 a0] (zo 1 4) [y0] :=
 p7 U7 (by kernel_rfl) Tryz.func109 (by kernel_rfl) (.two .no (.two .no (.two .no (.two (.two .no (.lp (fun (ia:Nat)=>[(pp 0,AV.t 29 a0),(pp 1,AV.box 29 0 11)]++bxS 1 a0 0 Y1++[(pp 2,AV.t 4 (T.b false)),(pp 3,AV.t 2 (a0.cell 1)),(pp 66,AV.t 2 (a0.cell 1)),(pp 67,.t 2 (.i .i64 (ia:Int)))]) I0 M0 (fun _=>.no))) .no)))) (by kernel_rfl) h
def C12:Ctx:=⟨tab,sigs,63,[0,1,2,3,5,27,28,29],[],[],[],[],[]⟩
theorem Ss (a0:T) (y0:T) (I0:(Nat×Nat)→Prop) (M0:(Nat×Nat)→Nat) (h:∃y:T,F 33 [.t 29 (G11 a0)] (zo 1 4) [y]∧((T.ite (T.ite (T.ite (!y.bool) (T.b true) (T.b (ltI 8 (lenOf (a0.cell 11).list)))).bool (T.b true) (T.b (ltI (a0.cell 12).int (0:Int)))).bool (T.b true) (T.b (ltI 1099511627776 (a0.cell 12).int))).bool=true→True∧T.b false=y0∧True)∧((T.ite (T.ite (T.ite (!y.bool) (T.b true) (T.b (ltI 8 (lenOf (a0.cell 11).list)))).bool (T.b true) (T.b (ltI (a0.cell 12).int (0:Int)))).bool (T.b true) (T.b (ltI 1099511627776 (a0.cell 12).int))).bool=false→(∃(i:Nat×Nat),I0 i∧R24 a0 (kI 0=kI ↑i.1∧R23 a0 (kI 0=kI ↑i.2∧True)))∧(∀(i:Nat×Nat),true=true)∧∀(i:Nat×Nat),I0 i→(ltI ↑i.2 (lenOf (a0.cell 11).list)=true→(Bd ↑i.2 (lenOf (a0.cell 11).list))∧∃y:T,((T.ite (ltI ((((a0.cell 11).list.getD (↑i.2:Int).toNat T.u).part 0 16).cell 0).int (↑i.1:Int)) (T.b true) (T.b (leI (a0.cell 12).int ((((a0.cell 11).list.getD (↑i.2:Int).toNat T.u).part 0 16).cell 0).int))).bool=false∧True→F 34 [.t 60 (T.g [(((a0.cell 11).list.getD (↑i.2:Int).toNat T.u).part 0 16).cell 1,(((a0.cell 11).list.getD (↑i.2:Int).toNat T.u).part 0 16).cell 2,(((a0.cell 11).list.getD (↑i.2:Int).toNat T.u).part 0 16).cell 3,(((a0.cell 11).list.getD (↑i.2:Int).toNat T.u).part 0 16).cell 4,(((a0.cell 11).list.getD (↑i.2:Int).toNat T.u).part 0 16).cell 5,(((a0.cell 11).list.getD (↑i.2:Int).toNat T.u).part 0 16).cell 6,(((a0.cell 11).list.getD (↑i.2:Int).toNat T.u).part 0 16).cell 7,(((a0.cell 11).list.getD (↑i.2:Int).toNat T.u).part 0 16).cell 8,(((a0.cell 11).list.getD (↑i.2:Int).toNat T.u).part 0 16).cell 9,(((a0.cell 11).list.getD (↑i.2:Int).toNat T.u).part 0 16).cell 10,(((a0.cell 11).list.getD (↑i.2:Int).toNat T.u).part 0 16).cell 11,(((a0.cell 11).list.getD (↑i.2:Int).toNat T.u).part 0 16).cell 12,(((a0.cell 11).list.getD (↑i.2:Int).toNat T.u).part 0 16).cell 13,(((a0.cell 11).list.getD (↑i.2:Int).toNat T.u).part 0 16).cell 14,(((a0.cell 11).list.getD (↑i.2:Int).toNat T.u).part 0 16).cell 15])] (zo 1 4) [y])∧∃y_1:T,((T.ite (T.ite (ltI ((((a0.cell 11).list.getD (↑i.2:Int).toNat T.u).part 0 16).cell 0).int (↑i.1:Int)) (T.b true) (T.b (leI (a0.cell 12).int ((((a0.cell 11).list.getD (↑i.2:Int).toNat T.u).part 0 16).cell 0).int))).bool (T.b true) (T.b !y.bool)).bool=false∧True→F 35 [.t 29 (T.g [(((a0.cell 11).list.getD (↑i.2:Int).toNat T.u).part 0 16).cell 1,(((a0.cell 11).list.getD (↑i.2:Int).toNat T.u).part 0 16).cell 2,(((a0.cell 11).list.getD (↑i.2:Int).toNat T.u).part 0 16).cell 3,(((a0.cell 11).list.getD (↑i.2:Int).toNat T.u).part 0 16).cell 4,(((a0.cell 11).list.getD (↑i.2:Int).toNat T.u).part 0 16).cell 5,(((a0.cell 11).list.getD (↑i.2:Int).toNat T.u).part 0 16).cell 6,(((a0.cell 11).list.getD (↑i.2:Int).toNat T.u).part 0 16).cell 7,(((a0.cell 11).list.getD (↑i.2:Int).toNat T.u).part 0 16).cell 8,(((a0.cell 11).list.getD (↑i.2:Int).toNat T.u).part 0 16).cell 9,(((a0.cell 11).list.getD (↑i.2:Int).toNat T.u).part 0 16).cell 10,(((a0.cell 11).list.getD (↑i.2:Int).toNat T.u).part 0 16).cell 11]),.t 29 (G11 a0)] (zo 2 4) [y_1])∧((T.ite (T.ite (T.ite (ltI ((((a0.cell 11).list.getD (↑i.2:Int).toNat T.u).part 0 16).cell 0).int (↑i.1:Int)) (T.b true) (T.b (leI (a0.cell 12).int ((((a0.cell 11).list.getD (↑i.2:Int).toNat T.u).part 0 16).cell 0).int))).bool (T.b true) (T.b !y.bool)).bool (T.b true) (T.b !y_1.bool)).bool=true→True∧T.b false=y0∧True)∧((T.ite (T.ite (T.ite (ltI ((((a0.cell 11).list.getD (↑i.2:Int).toNat T.u).part 0 16).cell 0).int (↑i.1:Int)) (T.b true) (T.b (leI (a0.cell 12).int ((((a0.cell 11).list.getD (↑i.2:Int).toNat T.u).part 0 16).cell 0).int))).bool (T.b true) (T.b !y.bool)).bool (T.b true) (T.b !y_1.bool)).bool=false→∃(j:Nat×Nat),I0 j∧M0 j<M0 i∧R24 a0 (kI (pL .i64 ((((a0.cell 11).list.getD (↑i.2:Int).toNat T.u).part 0 16).cell 0).int (1:Int))=kI ↑j.1∧R23 a0 (kI (pL .i64 ↑i.2 1)=kI ↑j.2∧True))))∧(ltI ↑i.2 (lenOf (a0.cell 11).list)=false→True∧T.b true=y0∧True))):F 12 [.t 32 a0] (zo 1 4) [y0] :=
 p7 C12 (by kernel_rfl) Tryz.func12 (by kernel_rfl) (.two .no (.two .no (.two .no (.two (.two .no (.lp (fun (ia:Nat×Nat)=>[(pp 0,AV.t 32 a0),(pp 1,AV.box 32 0 13)]++bxS 1 a0 0 Y4++[(pp 2,AV.t 4 (T.b false)),(pp 3,.t 2 (.i .i64 (ia.1:Int))),(pp 27,AV.t 31 (a0.cell 11)),(pp 28,AV.t 2 (T.i IntKind.i64 (lenOf (a0.cell 11).list))),(pp 29,.t 2 (.i .i64 (ia.2:Int)))]) I0 M0 (fun _=>.no))) .no)))) (by kernel_rfl) h
def C34:Ctx:=⟨tab,sigs,92,[0,1,2,3,4,5,56,57,58,63,67,75],[],[],[],[],[]⟩
theorem DB (a0:T) (y0:T) (I0:(Bool×Nat)→Prop) (M0:(Bool×Nat)→Nat) (h:∃y:T,F 33 [.t 29 (G11 a0)] (zo 1 4) [y]∧((T.ite (T.ite (!y.bool) (T.b true) (T.b (ltI (a0.cell 11).int (0:Int)))).bool (T.b true) (T.b (ltI 256 (a0.cell 11).int))).bool=true→True∧T.b false=y0∧True)∧((T.ite (T.ite (!y.bool) (T.b true) (T.b (ltI (a0.cell 11).int (0:Int)))).bool (T.b true) (T.b (ltI 256 (a0.cell 11).int))).bool=false→(eqI (a0.cell 11).int (0:Int)=true→True∧T.ite (T.ite (eqI (lenOf (a0.cell 12).list) 0) (T.b (eqI (lenOf (a0.cell 13).list) 0)) (T.b false)).bool (T.b (eqI (lenOf (a0.cell 14).list) 0)) (T.b false)=y0∧True)∧(eqI (a0.cell 11).int (0:Int)=false→((T.ite (neI (lenOf (a0.cell 12).list) (a0.cell 1).int) (T.b true) (T.b (neI (lenOf (a0.cell 13).list) (a0.cell 1).int))).bool=true→True∧T.b false=y0∧True)∧((T.ite (neI (lenOf (a0.cell 12).list) (a0.cell 1).int) (T.b true) (T.b (neI (lenOf (a0.cell 13).list) (a0.cell 1).int))).bool=false→(∃(i:Bool×Nat),I0 i∧R26 a0 (T.b false=T.b i.1∧R25 a0 (kI 0=kI ↑i.2∧True)))∧(∀(i:Bool×Nat),true=true)∧∀(i:Bool×Nat),I0 i→(ltI ↑i.2 (lenOf (a0.cell 12).list)=true→(Bd ↑i.2 (lenOf (a0.cell 12).list))∧∃y:T,F 68 [.t 23 (G3 (((a0.cell 12).list.getD (↑i.2:Int).toNat T.u).part 0 3))] (zo 1 4) [y]∧((!y.bool)=true→True∧T.b false=y0∧True)∧((!y.bool)=false→∃y:T,F 69 [.t 60 (G15 a0),.t 2 (kI ↑i.2)] (zo 2 4) [y]∧(y.bool=true→∃y:T,F 70 [.t 60 (G15 a0),.t 2 (kI ↑i.2)] (zo 2 4) [y]∧((!y.bool)=true→True∧T.b false=y0∧True)∧((!y.bool)=false→∃(j:Bool×Nat),I0 j∧M0 j<M0 i∧R26 a0 (T.b true=T.b j.1∧R25 a0 (kI (pL .i64 ↑i.2 1)=kI ↑j.2∧True))))∧(y.bool=false→(Bd ↑i.2 (lenOf (a0.cell 13).list))∧(ltI 0 (lenOf (((a0.cell 13).list.getD (↑i.2:Int).toNat T.u).cell 0).list)=true→True∧T.b false=y0∧True)∧(ltI 0 (lenOf (((a0.cell 13).list.getD (↑i.2:Int).toNat T.u).cell 0).list)=false→∃(j:Bool×Nat),I0 j∧M0 j<M0 i∧R26 a0 (T.b i.1=T.b j.1∧R25 a0 (kI (pL .i64 ↑i.2 1)=kI ↑j.2∧True))))))∧(ltI ↑i.2 (lenOf (a0.cell 12).list)=false→∃y:T,(i.1=true∧True→F 71 [.t 60 (G15 a0),.t 59 (a0.cell 13)] (zo 2 2) [y])∧True∧T.ite i.1 (T.b (eqI y.int 0)) (T.b false)=y0∧True))))):F 34 [.t 60 a0] (zo 1 4) [y0] :=
 p7 C34 (by kernel_rfl) Tryz.func34 (by kernel_rfl) (.two .no (.two .no (.two .no (.two .no (.two .no (.two (.two .no (.lp (fun (ia:Bool×Nat)=>[(pp 0,AV.t 60 a0),(pp 1,AV.box 60 0 15)]++bxS 1 a0 0 Y2++[(pp 2,AV.t 4 (T.b false)),(pp 3,.t 4 (.b ia.1)),(pp 56,AV.t 25 (a0.cell 12)),(pp 57,AV.t 2 (T.i IntKind.i64 (lenOf (a0.cell 12).list))),(pp 58,.t 2 (.i .i64 (ia.2:Int)))]) I0 M0 (fun _=>.no))) .no)))))) (by kernel_rfl) h
end Go.Pq
namespace Go.Pl
theorem rG {α:Type} (m:List (List α)) {k:Nat} (h:k<m.length):(m.take (k+1)).flatten=(m.take k).flatten++m.getD k []:=by
 rw [W9 h,List.flatten_append,WM,WL h];simp
theorem vh {α:Type} (m:List (List α)) (k:Nat):(m.take k).flatten.length≤m.flatten.length:=by
 have:m.flatten=(m.take k).flatten++(m.drop k).flatten:=by rw [←List.flatten_append,YT]
 rw [this,WN];omega
theorem A4 (a b:List Rat):tI a++tI b=tI (a++b):=by simp [tI]
theorem pQ {α:Type} (l:List α):l.take l.length=l:=XM
end Go.Pl
namespace Go.Pq
open Go.Pl Go.Proofs
theorem Od:F 183 [] (zo 0 23) [qr 1]:=by
 have c:=Kr 1 1 (by decide) (by decide) (by decide);rw [CK] at c;exact PZ _ ⟨_,_,c,a_,rfl,a_⟩
theorem G7 (q:Rat) (hq:rl q≤2 ^ 30) (hs:Share q):F 143 [.t 23 (qr q)] (zo 1 4) [.b true]:=by
 have c2:=sZ q 1 hq (by rw [B7];decide);refine Pw _ _ ⟨_,FV q (by omega),_,fun _=>vG q (by omega),_,fun _=>Od,_,fun _=>c2,a_,?_,a_⟩;have h1:leI 0 (FM q.num)=true:=by
  rw [rD,←Int.not_lt,zV,GE,Rat.not_lt];exact hs.1
 have h2:leI (Du q 1) 0=true:=by rw [rD,EM];exact hs.2
 rw [pC,pC,h1,h2];rfl
theorem H6 (q:Rat) (hq:rl q≤2 ^ 30) (hs:Share q):F 185 [.t 23 (qr q)] (zo 1 4) [.b false] :=
 P1 _ _ ⟨_,G7 q hq hs,a_,rfl,a_⟩
theorem yf (l:List Rat) (hl:l.length≤2 ^ 40) (h:∀q∈l,rl q≤2 ^ 30∧Share q):F 144 [.t 25 (pO l)] (zo 1 4) [.b true]:=by
 have c1:F 203 [.t 25 (pO l),.t 1 (.f 185 [])] (zo 2 2) [.i .i64 (-1)]:=by
  refine Qd _ _ (fun k=>k≤l.length) (fun k=>l.length-k) ⟨⟨0,WS _,(by and_intros<;>first | exact trivial | rfl | (rw [pt (by omega)];rfl))⟩,fun _=>rfl,?_⟩;intro k hk;rw [qj];refine ⟨fun h1=>?_,fun h1=>⟨a_,rfl,a_⟩⟩;rw [pw] at h1;have b_:k<l.length:=by omega
  rw [rL,WP,tJ l b_,qu];refine ⟨⟨by omega,by omega⟩,_,⟨rfl,H6 _ (h _ (ww b_)).1 (h _ (ww b_)).2⟩,fun h2=>(by cases h2),fun _=>⟨k+1,b_,by omega,(by and_intros<;>first | exact trivial | rfl | (rw [pt (by omega)];rfl))⟩⟩
 exact Px _ _ ⟨_,P0 _ _ _ ⟨_,c1,a_,rfl,a_⟩,a_,rfl,a_⟩
theorem JC (m:List (List Rat)) (hm:m.length≤2 ^ 20) (hf:m.flatten.length≤2 ^ 20):F 186 [.t 26 (p9 m)] (zo 1 25) [pO m.flatten]:=by
 refine P2 _ _ (fun i=>i.1=(m.take i.2).flatten.length∧i.2≤m.length) (fun i=>m.length-i.2) (fun i=>i.1=tI (m.take i.2.2).flatten∧i.2.2≤m.length) (fun i=>m.length-i.2.2) ?_;rw [tz];refine ⟨⟨(0,0),⟨rfl,WS _⟩,(by and_intros<;>first | exact trivial | rfl | (rw [pt (by omega)];rfl))⟩,fun _=>rfl,?_⟩;rintro ⟨s,k⟩ ⟨hs,hk⟩;dsimp only at hs hk ⊢;have P_:=vh m k;refine ⟨fun h1=>?_,fun h1=>?_⟩
 ·rw [pw] at h1
  have b_:k<m.length:=by omega
  have bQ:=vh m (k+1);rw [rG m b_,WN] at bQ;rw [rt,WP,rM m b_,qS,qj,pt (by omega)];refine ⟨⟨by omega,by omega⟩,fun q=>(by rw [pw] at q;omega),fun _=>⟨(s+(m.getD k []).length,k+1),⟨by dsimp only;rw [rG m b_,WN,hs],b_⟩,by dsimp only;omega,by and_intros<;>first | exact trivial | rfl | (rw [pt (by omega)];rfl)⟩⟩
 ·refine ⟨_,Qy s (by omega),⟨([],s,0),⟨rfl,WS _⟩,(by and_intros<;>first | exact trivial | rfl | (rw [pt (by omega)];rfl))⟩,fun _=>rfl,?_⟩
  rintro ⟨g,s2,j⟩ ⟨hg,hj⟩;dsimp only at hg hj ⊢;subst hg;refine ⟨fun h2=>?_,fun h2=>?_⟩
  ·rw [pw] at h2
   have b_:j<m.length:=by omega
   have bQ:=vh m (j+1);rw [rG m b_,WN] at bQ;rw [rt,WP,rM m b_,qS,rL,pQ,wK,wK];have hr:room=140737488355328:=rfl;refine ⟨⟨by omega,by omega⟩,⟨by rw [hr];omega,by omega⟩,(tI (m.take (j+1)).flatten,s2,j+1),⟨rfl,b_⟩,by dsimp only;omega,?_⟩;rw [rG m b_,←A4];exact (by and_intros<;>first | exact trivial | rfl | (rw [pt (by omega)];rfl))
  ·rw [pF] at h2
   have:j=m.length:=by omega
   subst this;rw [XM,Xc,pQ];exact ⟨a_,rfl,a_⟩
end Go.Pq
