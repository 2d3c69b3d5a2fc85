/- Part 4 of 11. A session's sealed cut that was changed, shortened, lengthened or emptied is not resumed, and a cut is resumed under another model only where the two models are one. Names are shortened and spaces left out by program, for the size. -/
import Derived.Test.YtjhgombngbgjbaaGreatDoorQ3
set_option linter.unusedVariables false
set_option linter.unusedSimpArgs false
set_option linter.unusedSectionVars false
set_option linter.constructorNameAsVariable false
set_option maxRecDepth 100000
namespace Go.Pl
section
variable {P:Program} {C:Ctx} {fr:Fr} {tm:Array Value} {w w':World} {σ:St} {γ:Key→Option Nat} {D:Nat→Prop}
 {j:Nat} {args:List (Operand×TypeId)} {acc:Acc} {mp:KMap}
theorem qN (a b:St) (k:Key):St.get (a++b) k=match a.get k with | some e=>some e | none=>b.get k:=by
 induction a with
 | nil=>rfl
 | cons x r ih =>
  obtain ⟨k',e'⟩:=x;simp only [Yy,St.get]
  cases k'.eq k with
  | true=>rfl
  | false=>exact ih
theorem xc (s:Nat):∀(as_ :List AV) (c:Nat) (k:Key) (e:Ent),(qd s c as_).get k=some e→∃m a,as_[m]?=some a∧k=cell s (c+m)∧e=top a:=by
 intro as_
 induction as_ with
 | nil=>intro c k e he;cases he
 | cons a as_ ih =>
  intro c k e he;simp only [qd,St.get] at he;split at he
  ·rename_i hk
   have:=Key.qs.1 hk
   subst this;simp only [WJ] at he;exact ⟨0,a,rfl,rfl,he.symm⟩
  ·obtain ⟨m,a',q1,q2,q3⟩:=ih (c+1) k e he
   exact ⟨m+1,a',by simpa using q1,by rw [q2,show c+1+m=c+(m+1) by omega],q3⟩
def lnE (l:List Key):List (Key×Ent):=l.map fun k=>(k,top .u)
theorem ArgsP.start (hG:Good P C.tab) (h:Rel C.tab fr tm w σ γ) (hA:ArgsP C tm w (Ob fr γ) σ γ j args acc mp) {Oc:Nat→Prop} (hO:∀b,Oc b→Ob fr γ b) {vals:Array Value} {γc:Key→Option Nat} :
  Free γ acc.fz Oc→Free γ (lnE acc.ln) Oc→(∀k,j≤k.a→γc k=(mp.find k).bind γ)→(∀(i:Nat) x ty,args[i]?=some (x,ty)→vals[j+i]?=some (ev tm x)) →
  ∀k e,(rO j acc.args).get k=some e→e.path=[]∧j≤k.a∧((k.tag=0∧k.b=0)∨(k.tag=1∧∃c n,(rO j acc.args).get (pp k.a)=some (top (.box c 0 n)))) ∧
   ∃v,pJ vals w γc k=some v∧∀σc val,AVR C.tab w Oc σc val γc k v e.av:=by
 have z_:Stays w w (Ob fr γ) Oc:=fun b _ hb=>⟨rfl,fun q=>hb (hO b q)⟩
 induction hA with
 | nil j=>intro _ _ _ _ k e he;cases he
 | t j x ty r acc mp c y hV hr ih =>
  intro bp aN hγ u_ k e he;have tl:=ih bp aN (fun k hk=>hγ k (by omega)) (fun i x' t' hx=>by have:=u_ (i+1) x' t' (by simpa using hx);rw [show j+1+i=j+(i+1) by omega];exact this);simp only [Acc.arg,rO,St.get] at he ⊢;split at he
  ·rename_i hk
   have:=Key.qs.1 hk
   subst this;simp only [WJ] at he;subst he;have h0:=u_ 0 x ty rfl;exact ⟨rfl,WU _,.inl ⟨rfl,rfl⟩,ev tm x,by rw [pz];exact h0,fun σc val=>hV Oc hO (fun k e b hm=>by simp at hm)⟩
  ·obtain ⟨q1,q2,q3,q4⟩:=tl k e he
   refine ⟨q1,by omega,q3.imp id fun ⟨ht,c',n',hh⟩=>⟨ht,c',n',?_⟩,q4⟩;rw [Key.qt (fun e=>by have:=pZ.1 e;omega)];exact hh
 | pl j x ty r acc mp c y hV hr ih =>
  intro bp aN hγ u_ k e he;have tl:=ih bp aN (fun k hk=>hγ k (by omega)) (fun i x' t' hx=>by have:=u_ (i+1) x' t' (by simpa using hx);rw [show j+1+i=j+(i+1) by omega];exact this);simp only [Acc.arg,rO,St.get] at he ⊢;split at he
  ·rename_i hk
   have:=Key.qs.1 hk
   subst this;simp only [WJ] at he;subst he;have h0:=u_ 0 x ty rfl;exact ⟨rfl,WU _,.inl ⟨rfl,rfl⟩,ev tm x,by rw [pz];exact h0,fun σc val=>by
    obtain ⟨a,h1,h2⟩:=hV;exact ⟨a,by rw [h1];simp [Addr.add],h2.mono z_ hG.lv⟩⟩
  ·obtain ⟨q1,q2,q3,q4⟩:=tl k e he
   refine ⟨q1,by omega,q3.imp id fun ⟨ht,c',n',hh⟩=>⟨ht,c',n',?_⟩,q4⟩;rw [Key.qt (fun e=>by have:=pZ.1 e;omega)];exact hh
 | frz j x ty r acc mp c y k0 e0 hf hV hr ih =>
  intro bp aN hγ u_ k e he;have tl:=ih (fun k e b hm=>bp k e b (XV _ hm)) aN (fun k hk=>hγ k (by omega)) (fun i x' t' hx=>by have:=u_ (i+1) x' t' (by simpa using hx);rw [show j+1+i=j+(i+1) by omega];exact this);simp only [Acc.arg,Acc.frz,rO,St.get] at he ⊢;split at he
  ·rename_i hk
   have:=Key.qs.1 hk
   subst this;simp only [WJ] at he;subst he;have h0:=u_ 0 x ty rfl;exact ⟨rfl,WU _,.inl ⟨rfl,rfl⟩,ev tm x,by rw [pz];exact h0,fun σc val=>hV Oc hO (fun k e b hm=>bp k e b (by
    simp only [Xn] at hm;rw [hm];exact List.mem_cons_self))⟩
  ·obtain ⟨q1,q2,q3,q4⟩:=tl k e he
   refine ⟨q1,by omega,q3.imp id fun ⟨ht,c',n',hh⟩=>⟨ht,c',n',?_⟩,q4⟩;rw [Key.qt (fun e=>by have:=pZ.1 e;omega)];exact hh
 | lend j x ty r acc mp c y k0 hV hr ih =>
  intro bp aN hγ u_ k e he;have tl:=ih bp (fun k e b hm=>aN k e b (by simp only [lnE,Acc.lend,Acc.arg,XP] at hm ⊢;exact XV _ hm)) (fun k hk=>hγ k (by omega)) (fun i x' t' hx=>by have:=u_ (i+1) x' t' (by simpa using hx);rw [show j+1+i=j+(i+1) by omega];exact this);simp only [Acc.arg,Acc.lend,rO,St.get] at he ⊢;split at he
  ·rename_i hk
   have:=Key.qs.1 hk
   subst this;simp only [WJ] at he;subst he;have h0:=u_ 0 x ty rfl;exact ⟨rfl,WU _,.inl ⟨rfl,rfl⟩,ev tm x,by rw [pz];exact h0,fun σc val=>hV Oc hO (fun k e b hm=>aN k e b (by
    simp only [Xn] at hm;rw [hm];simp [lnE,Acc.lend,Acc.arg]))⟩
  ·obtain ⟨q1,q2,q3,q4⟩:=tl k e he
   refine ⟨q1,by omega,q3.imp id fun ⟨ht,c',n',hh⟩=>⟨ht,c',n',?_⟩,q4⟩;rw [Key.qt (fun e=>by have:=pZ.1 e;omega)];exact hh
 | lends j x ty r acc mp c y ks hV hr ih =>
  intro bp aN hγ u_ k e he;have tl:=ih bp (fun k e b hm=>aN k e b (by simp only [lnE,Acc.lends,Acc.arg,XY] at hm ⊢;exact W2.2 (.inr hm))) (fun k hk=>hγ k (by omega)) (fun i x' t' hx=>by have:=u_ (i+1) x' t' (by simpa using hx);rw [show j+1+i=j+(i+1) by omega];exact this);simp only [Acc.arg,Acc.lends,rO,St.get] at he ⊢;split at he
  ·rename_i hk
   have:=Key.qs.1 hk
   subst this;simp only [WJ] at he;subst he;have h0:=u_ 0 x ty rfl;exact ⟨rfl,WU _,.inl ⟨rfl,rfl⟩,ev tm x,by rw [pz];exact h0,fun σc val=>hV Oc hO (fun k e b hm=>aN k e b (by
    simp only [lnE,Acc.lends,Acc.arg,XY];exact W2.2 (.inl hm)))⟩
  ·obtain ⟨q1,q2,q3,q4⟩:=tl k e he
   refine ⟨q1,by omega,q3.imp id fun ⟨ht,c',n',hh⟩=>⟨ht,c',n',?_⟩,q4⟩;rw [Key.qt (fun e=>by have:=pZ.1 e;omega)];exact hh
 | ownNil j x ty r acc mp c xs kM hr ih =>
  intro bp aN hγ u_ k e he;have tl:=ih bp aN (fun k hk=>hγ k (by omega)) (fun i x' t' hx=>by have:=u_ (i+1) x' t' (by simpa using hx);rw [show j+1+i=j+(i+1) by omega];exact this);simp only [Acc.arg,rO,St.get] at he ⊢;split at he
  ·rename_i hk
   have:=Key.qs.1 hk
   subst this;simp only [WJ] at he;subst he;have h0:=u_ 0 x ty rfl;refine ⟨rfl,WU _,.inl ⟨rfl,rfl⟩,ev tm x,by rw [pz];exact h0,fun σc val=>?_⟩
   show Own C.tab w Oc c (ev tm x) (γc (pp j)) xs
   rw [hγ (pp j) (WU _),KMap.vV fun x' aV=>by
    have:=(hr.keys _ _ aV).1
    simp only [pp] at this;omega]
   exact kM.mono z_ fun b hb=>by cases hb
  ·obtain ⟨q1,q2,q3,q4⟩:=tl k e he
   refine ⟨q1,by omega,q3.imp id fun ⟨ht,c',n',hh⟩=>⟨ht,c',n',?_⟩,q4⟩;rw [Key.qt (fun e=>by have:=pZ.1 e;omega)];exact hh
 | own j x ty r acc mp c xs k0 aT kM hr ih =>
  intro bp aN hγ u_ k e he;have tl:=ih bp aN (fun k hk=>by
    rw [hγ k (by omega)];simp only [KMap.find];rw [Key.qt (fun e=>by rw [←e] at hk;simp [pp] at hk;omega)]) (fun i x' t' hx=>by have:=u_ (i+1) x' t' (by simpa using hx);rw [show j+1+i=j+(i+1) by omega];exact this)
  simp only [Acc.arg,Acc.take,rO,St.get] at he ⊢;split at he
  ·rename_i hk
   have:=Key.qs.1 hk
   subst this;simp only [WJ] at he;subst he;have h0:=u_ 0 x ty rfl;refine ⟨rfl,WU _,.inl ⟨rfl,rfl⟩,ev tm x,by rw [pz];exact h0,fun σc val=>?_⟩
   show Own C.tab w Oc c (ev tm x) (γc (pp j)) xs
   rw [hγ (pp j) (WU _)];simp only [KMap.find,Key.qW,Xl];exact kM.mono z_ fun _ _=>rfl
  ·obtain ⟨q1,q2,q3,q4⟩:=tl k e he
   refine ⟨q1,by omega,q3.imp id fun ⟨ht,c',n',hh⟩=>⟨ht,c',n',?_⟩,q4⟩;rw [Key.qt (fun e=>by have:=pZ.1 e;omega)];exact hh
 | box j x ty r acc mp s c n tag b as_ sh ks hs hb hv hl hc bc bh dA hr ih =>
  intro bp aN hγ u_ k e he;have tl:=ih bp aN (fun k hk=>by
    rw [hγ k (by omega)];simp only [KMap.find];rw [Key.qt (fun e=>by rw [←e] at hk;simp [pp] at hk;omega),KMap.sy,KMap.vV fun x' aV=>by
     obtain ⟨m,-,-,hh,-⟩:=sX.1 aV;rw [hh] at hk;simp [cell] at hk;omega]) (fun i x' t' hx=>by have:=u_ (i+1) x' t' (by simpa using hx);rw [show j+1+i=j+(i+1) by omega];exact this)
  have mC:γc (pp j)=some b:=by
   rw [hγ (pp j) (WU _)];simp only [KMap.find,Key.qW,Xl];exact hb
  have U_:(rO j ((acc.arg (.box c n as_)).box j s n sh ks).args).get (pp j)=some (top (.box c 0 n)):=by
   simp only [Acc.arg,Acc.box,rO,St.get,Key.qW]
  simp only [Acc.arg,Acc.box,rO,St.get] at he;split at he
  ·rename_i hk
   have:=Key.qs.1 hk
   subst this;simp only [WJ] at he;subst he;have h0:=u_ 0 x ty rfl;refine ⟨rfl,WU _,.inl ⟨rfl,rfl⟩,ev tm x,by rw [pz];exact h0,fun σc val=>?_⟩;obtain ⟨cs,ety,g1,g2⟩:=Ai h hs hb;exact ⟨b,cs,ety,mC,hv,g1,g2⟩
  ·rw [qN] at he
   cases aJ:(qd j 0 as_).get k with
   | some e' =>
    rw [aJ] at he;simp only [WJ] at he;subst he;obtain ⟨m,a,q1,q2,rfl⟩:=xc j as_ 0 k e' aJ;rw [WV] at q2;subst q2;obtain ⟨c',hh⟩:=hc m a q1;have hm:m<n:=by rw [←hl];exact (WQ.1 q1).1
    have b8:∃e0,σ.get (cell s m)=some e0:=by
     rcases hh with ⟨y,-,hh⟩ | ⟨xs,t,-,hh⟩<;>exact ⟨_,hh⟩
    have m_:∀v,pJ tm w γ (cell s m)=some v→pJ vals w γc (cell j m)=some v:=by
     intro v ag;simp only [pJ,cell,hb,Xl] at ag;simp only [pJ,cell,mC,Xl];exact ag
    refine ⟨rfl,WU _,.inr ⟨rfl,c,n,U_⟩,?_⟩
    rcases hh with ⟨y,rfl,hh⟩ | ⟨xs,t,rfl,hh⟩
    ·obtain ⟨v,h1,h2,-⟩:=h.ent _ _ hh
     exact ⟨v,m_ v h1,fun σc val=>V.mono z_ (h2 trivial)⟩
    ·obtain ⟨v,h1,h2,-⟩:=h.ent _ _ hh
     refine ⟨v,m_ v h1,fun σc val=>?_⟩;have jO:Own C.tab w (Ob fr γ) c' v (γ (cell s m)) xs:=h2 trivial
     show Own C.tab w Oc c' v (γc (cell j m)) xs
     rw [hγ (cell j m) (WU _)];simp only [KMap.find];rw [Key.qt px,KMap.sy,w6 (WS _) (by omega)];exact jO.mono z_ fun _ _=>rfl
   | none =>
    rw [aJ] at he;obtain ⟨q1,q2,q3,q4⟩:=tl k e he;refine ⟨q1,by omega,q3.imp id fun ⟨ht,c',n',hh⟩=>⟨ht,c',n',?_⟩,q4⟩;simp only [Acc.arg,Acc.box,rO,St.get];rw [Key.qt (fun e=>by have:=pZ.1 e;omega),qN]
    cases kN:(qd j 0 as_).get (pp k.a) with
    | some e2 =>
     obtain ⟨m,a,-,hJ,-⟩:=xc j as_ 0 _ _ kN;exact absurd hJ px
    | none=>exact hh
end
section
variable {P:Program} {C:Ctx} {fr:Fr} {tm:Array Value} {w w':World} {σ:St} {γ:Key→Option Nat} {D:Nat→Prop} {O:Nat→Prop}
 {j:Nat} {args:List (Operand×TypeId)} {acc:Acc} {mp:KMap}
theorem CallsF.mono {f:FuncId} {vals:Array Value} {R R':Value→World→Prop} (h:CallsF P f vals w R) (hR:∀v w',R v w'→R' v w'):CallsF P f vals w R' := by
 unfold CallsF at h ⊢;split
 ·rename_i g as_ w1 he
  rw [he] at h;exact Calls.mono h fun e w2 ⟨v,hv,hr⟩=>⟨v,hv,hR _ _ hr⟩
 ·rename_i v w1 he
  rw [he] at h;exact hR _ _ h
 ·rename_i h1 h2
  split at h
  ·rename_i g as_ w1 he;exact (h1 _ _ _ he).elim
  ·rename_i v w1 he;exact (h2 _ _ he).elim
  ·exact h
theorem ArgsP.find (h:ArgsP C tm w O σ γ j args acc mp):∀k x,(k,x)∈mp→mp.find k=some x:=by
 induction h with
 | nil j=>intro k x hm;simp at hm
 | t j x ty r acc mp c y hV hr ih=>exact ih
 | pl j x ty r acc mp c y hV hr ih=>exact ih
 | frz j x ty r acc mp c y k0 e hf hV hr ih=>exact ih
 | lend j x ty r acc mp c y k0 hV hr ih=>exact ih
 | lends j x ty r acc mp c y k0 hV hr ih=>exact ih
 | ownNil j x ty r acc mp c xs hO hr ih=>exact ih
 | own j x ty r acc mp c xs k0 hk hO hr ih =>
  intro k x hm;simp only [KMap.find]
  rcases WW.1 hm with q | q
  ·simp only [WK] at q
   rw [q.1,q.2];simp [Key.qW]
  ·rw [Key.qt (fun e=>by have:=(hr.keys _ _ q).1;rw [←e] at this;simp [pp] at this;omega)]
   exact ih k x q
 | box j x ty r acc mp s c n tag b as_ sh ks hs hb hv hl hc bc bh dA hr ih =>
  intro k x hm;simp only [KMap.find]
  rcases WW.1 hm with q | q
  ·simp only [WK] at q
   rw [q.1,q.2];simp [Key.qW]
  ·rcases W2.1 q with q | q
   ·obtain ⟨m,h1,h2,rfl,rfl⟩:=sX.1 q
    rw [Key.qt px,KMap.sy,w6 h1 h2]
   ·have hk:=(hr.keys _ _ q).1
    rw [Key.qt (fun e=>by rw [←e] at hk;simp [pp] at hk;omega),KMap.sy,KMap.vV fun x' aV=>by
     obtain ⟨m,-,-,hh,-⟩:=sX.1 aV;rw [hh] at hk;simp [cell] at hk;omega]
    exact ih k x q
theorem uO {l:List Key}:v8 l=true↔l.Nodup:=by
 induction l with
 | nil=>simp [v8]
 | cons x r ih =>
  simp only [v8,Yd]
  cases h:wP r x with
  | true=>simp [tT.1 h]
  | false =>
   have:x ∉ r:=fun q=>by rw [tT.2 q] at h;cases h
   simp [this,ih]
theorem uC {l m:List Key}:xA l m=true↔∀k∈l,k ∉ m:=by
 induction l with
 | nil=>simp [xA]
 | cons x r ih =>
  simp only [xA]
  cases h:wP m x with
  | true=>simp [tT.1 h]
  | false =>
   have:x ∉ m:=fun q=>by rw [tT.2 q] at h;cases h
   simp [this,ih]
theorem Acc.N9 {sh:Shape} {ks:List (Key×Path)} (h:acc.ok sh ks=true):(acc.tk++qI acc.bx).Nodup∧(∀k∈acc.tk++qI acc.bx,k ∉ qh acc.fz)∧(∀k∈acc.tk++qI acc.bx,k ∉ acc.ln) ∧
  (sV sh).Nodup∧(qP ks).Nodup∧sh.length=ks.length:=by
 unfold Acc.ok at h;split at h
 ·rename_i h1 h2 h3 h4 h5 h6
  exact ⟨uO.1 h1,uC.1 h2,uC.1 h3,uO.1 h4,uO.1 h5,WO h6⟩
 ·cases h
theorem qM {bx:List (Nat×Nat×Nat)} {k:Key}:k∈qI bx↔∃j s n,(j,s,n)∈bx∧(k=pp s∨∃m,m<n∧k=cell s m):=by
 have hc:∀(s n c:Nat) (k:Key),k∈tw s c n↔∃m,c≤m∧m<c+n∧k=cell s m:=by
  intro s n
  induction n with
  | zero =>
   intro c k;simp only [tw,List.not_mem_nil,false_iff];rintro ⟨m,h1,h2,-⟩;omega
  | succ n ih =>
   intro c k;simp only [tw,WW,ih]
   constructor
   ·rintro (rfl | ⟨m,h1,h2,rfl⟩)
    ·exact ⟨c,WU _,by omega,rfl⟩
    ·exact ⟨m,by omega,by omega,rfl⟩
   ·rintro ⟨m,h1,h2,rfl⟩
    by_cases hm:m=c
    ·subst hm;exact .inl rfl
    ·exact .inr ⟨m,by omega,by omega,rfl⟩
 induction bx with
 | nil=>simp [qI]
 | cons x r ih =>
  obtain ⟨j,s,n⟩:=x;simp only [qI,WW,W2,hc,ih]
  constructor
  ·rintro (rfl | ⟨m,-,h2,rfl⟩ | ⟨j',s',n',h1,h2⟩)
   ·exact ⟨j,s,n,.inl rfl,.inl rfl⟩
   ·exact ⟨j,s,n,.inl rfl,.inr ⟨m,by omega,rfl⟩⟩
   ·exact ⟨j',s',n',.inr h1,h2⟩
  ·rintro ⟨j',s',n',h1 | h1,h2⟩
   ·simp only [WK] at h1
    obtain ⟨rfl,rfl,rfl⟩:=h1
    rcases h2 with rfl | ⟨m,h2,rfl⟩
    ·exact .inl rfl
    ·exact .inr (.inl ⟨m,by omega,by omega,rfl⟩)
   ·exact .inr (.inr ⟨j',s',n',h1,h2⟩)
theorem Ev:∀(l:List Key) (σ:St) (k:Key),(k∈l→(σ.puts (wj l)).get k=some (top .u))∧(k ∉ l→(σ.puts (wj l)).get k=σ.get k):=by
 intro l
 induction l with
 | nil=>intro σ k;exact ⟨fun q=>by simp at q,fun _=>rfl⟩
 | cons x r ih =>
  intro σ k;obtain ⟨h1,h2⟩:=ih (σ.put x (top .u)) k;refine ⟨fun q=>?_,fun q=>?_⟩
  ·show ((σ.put x (top .u)).puts (wj r)).get k=_
   by_cases hk:k∈r
   ·exact h1 hk
   ·rw [h2 hk]
    rcases WW.1 q with rfl | q
    ·exact pB
    ·exact absurd q hk
  ·show ((σ.put x (top .u)).puts (wj r)).get k=_
   simp only [WW,not_or] at q;rw [h2 q.2,pD q.1]
theorem yO {ks:List (Key×Path)} {i:Nat} {k:Key} {q:Path} (h:ks[i]?=some (k,q)):k∈qP ks:=by
 induction ks generalizing i with
 | nil=>simp at h
 | cons x r ih =>
  obtain ⟨k',q'⟩:=x
  cases i with
  | zero =>
   simp at h;simp [qP,h.1]
  | succ i =>
   simp at h;simp only [qP,WW];exact .inr (ih h)
theorem HP {ks:List (Key×Path)} {k:Key} (h:k∈qP ks):∃(i:Nat) (q:Path),ks[i]?=some (k,q):=by
 induction ks with
 | nil=>simp [qP] at h
 | cons x r ih =>
  obtain ⟨k',q'⟩:=x;simp only [qP,WW] at h
  rcases h with rfl | h
  ·exact ⟨0,q',rfl⟩
  ·obtain ⟨i,q,hi⟩:=ih h
   exact ⟨i+1,q,by simpa using hi⟩
theorem Fv (tag:Nat):∀(sh:Shape) (ks:List (Key×Path)) (ys:List T) (σ:St),sh.length=ks.length→ys.length=sh.length→(qP ks).Nodup →
  (∀(i:Nat) k ty o k' q y,sh[i]?=some (k,ty,o)→ks[i]?=some (k',q)→ys[i]?=some y→(σ.puts (rE tag sh ks ys)).get k'=some ⟨q,yT tag ty o y⟩) ∧
  (∀k,k ∉ qP ks→(σ.puts (rE tag sh ks ys)).get k=σ.get k):=by
 intro sh
 induction sh with
 | nil =>
  intro ks ys σ h1 h2 _;exact ⟨fun i k ty o k' q y hi=>by simp at hi,fun k _=>by cases ks<;>rfl⟩
 | cons a sh ih =>
  intro ks ys σ h1 h2 hn;obtain ⟨k0,ty0,o0⟩:=a
  cases ks with
  | nil=>simp at h1
  | cons b ks =>
   obtain ⟨kb,qb⟩:=b
   cases ys with
   | nil=>simp at h2
   | cons y0 ys =>
    simp only [qP,Yd] at hn;obtain ⟨g1,g2⟩:=ih ks ys (σ.put kb ⟨qb,yT tag ty0 o0 y0⟩) (by simpa using h1) (by simpa using h2) hn.2;refine ⟨fun i k ty o k' q y hs hk hy=>?_,fun k hk=>?_⟩
    ·show ((σ.put kb ⟨qb,yT tag ty0 o0 y0⟩).puts (rE tag sh ks ys)).get k'=_
     cases i with
     | zero =>
      simp only [WT,WJ,WK] at hs hk hy;obtain ⟨rfl,rfl,rfl⟩:=hs;obtain ⟨rfl,rfl⟩:=hk;subst hy;rw [g2 _ hn.1,pB]
     | succ i=>exact g1 i k ty o k' q y (by simpa using hs) (by simpa using hk) (by simpa using hy)
    ·show ((σ.put kb ⟨qb,yT tag ty0 o0 y0⟩).puts (rE tag sh ks ys)).get k=_
     simp only [qP,WW,not_or] at hk;rw [g2 k hk.2,pD hk.1]
theorem Ni:∀(sh:Shape) (ys:List T),ys.length=sh.length→(sV sh).Nodup→∀(i:Nat) k ty o y,sh[i]?=some (k,ty,o)→ys[i]?=some y→(Rn sh ys).get k=some (top (yT 0 ty o y)):=by
 intro sh
 induction sh with
 | nil=>intro ys _ _ i k ty o y hi;simp at hi
 | cons a sh ih =>
  intro ys hl hn i k ty o y hs hy;obtain ⟨k0,ty0,o0⟩:=a
  cases ys with
  | nil=>simp at hl
  | cons y0 ys =>
   simp only [sV,Yd] at hn;simp only [Rn,St.get]
   cases i with
   | zero =>
    simp only [WT,WJ,WK] at hs hy;obtain ⟨rfl,rfl,rfl⟩:=hs;subst hy;simp [Key.qW]
   | succ i =>
    simp only [WR] at hs hy;have T_:k∈sV sh:=by
     clear ih hl hn hy
     induction sh generalizing i with
     | nil=>simp at hs
     | cons b sh ih =>
      obtain ⟨kb,tb,ob⟩:=b
      cases i with
      | zero =>
       simp at hs;simp [sV,hs.1]
      | succ i =>
       simp only [WR] at hs;simp only [sV,WW];exact .inr (ih i hs)
    rw [Key.qt (fun e=>hn.1 (by rw [e];exact T_))];exact ih ys (by simpa using hl) hn.2 i k ty o y hs hy
theorem Ah:∀(l:List Arg) (j:Nat) (k:Key) (e:Ent),(sY j l).get k=some e→∃t,k=pp t∧j≤t∧t<j+l.length:=by
 intro l
 induction l with
 | nil=>intro j k e he;cases he
 | cons a l ih =>
  intro j k e he
  cases a with
  | box c n as_ =>
   simp only [sY,St.get] at he;split at he
   ·rename_i hk
    have:=Key.qs.1 hk
    exact ⟨j,this.symm,WU _,by simp⟩
   ·obtain ⟨t,h1,h2,h3⟩:=ih (j+1) k e he
    exact ⟨t,h1,by omega,by simp only [W4];omega⟩
  | _ =>
   obtain ⟨t,h1,h2,h3⟩:=ih (j+1) k e he;exact ⟨t,h1,by omega,by simp only [W4];omega⟩
end
section
variable {P:Program} {C:Ctx} {fr:Fr} {tm:Array Value} {w w':World} {σ:St} {γ γ1:Key→Option Nat} {D:Nat→Prop} {args:List (Operand×TypeId)} {acc:Acc} {mp:KMap}
def zO (mp:KMap) (γ:Key→Option Nat):Key→Option Nat:=fun k=>(mp.find k).bind γ
def KG (fr:Fr) (acc:Acc) (mp:KMap) (γ γ1:Key→Option Nat):Nat→Prop:=fun b=>Ob fr γ1 b∧(∀k,zO mp γ k≠some b)∧∀k∈acc.ln,γ k≠some b
def frC (fr:Fr) (acc:Acc) (mp:KMap) (γ γ1:Key→Option Nat) (w:World):Fr:=⟨w.heap.size,w,KG fr acc mp γ γ1,fun b=>∃k,zO mp γ k=some b⟩
theorem AI {mp:KMap} {k x:Key} (h:(k,x)∈mp):x∈mp.map (·.2):=Xw.2 ⟨(k,x),h,rfl⟩
theorem Li {mp:KMap} (hn:(mp.map (·.2)).Nodup):∀{k k' x:Key},(k,x)∈mp→(k',x)∈mp→k=k' := by
 induction mp with
 | nil=>intro k k' x h;simp at h
 | cons a r ih =>
  obtain ⟨a1,a2⟩:=a;simp only [XP,Yd] at hn;intro k k' x h h'
  rcases WW.1 h with q | q<;>rcases WW.1 h' with q' | q'
  ·simp only [WK] at q q'
   rw [q.1,q'.1]
  ·simp only [WK] at q
   exact absurd (AI q') (by rw [q.2];exact hn.1)
  ·simp only [WK] at q'
   exact absurd (AI q) (by rw [q'.2];exact hn.1)
  ·exact ih hn.2 q q'
theorem rI {k:Key} {b:Nat} (h:zO mp γ k=some b):∃x,(k,x)∈mp∧γ x=some b:=by
 unfold zO at h
 cases hf:mp.find k with
 | none=>rw [hf] at h;cases h
 | some x=>rw [hf] at h;exact ⟨x,KMap.zF hf,h⟩
theorem Hw (hG:Good P C.tab) (h:Rel C.tab fr tm w σ γ) (hA:ArgsP C tm w (Ob fr γ) σ γ 0 args acc mp) {sh:Shape} {ks:List (Key×Path)} (l_:acc.ok sh ks=true)
  (r1:Rel C.tab fr tm w (σ.puts acc.fz) γ1) (r5:∀b,Ob fr γ1 b→Ob fr γ b) (r6:Free γ acc.fz (Ob fr γ1)) {vals:Array Value} (u_:∀(i:Nat) x ty,args[i]?=some (x,ty)→vals[i]?=some (ev tm x)) :
  Rel C.tab (frC fr acc mp γ γ1 w) vals w (rO 0 acc.args) (zO mp γ)∧(∀b,Ob (frC fr acc mp γ γ1 w) (zO mp γ) b→Ob fr γ b):=by
 obtain ⟨k1,k2,k3,k4,k5,k6⟩:=Acc.N9 l_;have co:=hA.perm;have jU:(mp.map (·.2)).Nodup:=co.nodup_iff.2 k1;have cE:∀{k x},(k,x)∈mp→x∈acc.tk++qI acc.bx:=fun hm=>co.mem_iff.1 (AI hm);have i7:∀b,Ob (frC fr acc mp γ γ1 w) (zO mp γ) b→Ob fr γ b:=by
  rintro b (hb | ⟨k,hb⟩)
  ·exact r5 b hb.1
  ·obtain ⟨x,-,hx⟩:=rI hb
   exact .inr ⟨x,hx⟩
 have dz:∀ws:List (Key×Ent),(∀k e,(k,e)∈ws→(k∈qh acc.fz∧(∃e',(k,e')∈acc.fz))∨k∈acc.ln)→Free γ ws (Ob (frC fr acc mp γ γ1 w) (zO mp γ)):=by
  intro ws mD k e b hm hb hO
  rcases hO with hO | ⟨k',hO⟩
  ·rcases mD k e hm with ⟨-,e',aO⟩ | hl
   ·exact r6 k e' b aO hb hO.1
   ·exact hO.2.2 k hl hb
  ·obtain ⟨x,hx,aB⟩:=rI hO
   have:=h.inj x k b aB hb
   subst this
   rcases mD x e hm with ⟨hl,-⟩ | hl
   ·exact k2 _ (cE hx) hl
   ·exact k3 _ (cE hx) hl
 have z_:=hA.start hG h i7 (vals:=vals) (γc:=zO mp γ) (dz acc.fz fun k e hm=>.inl ⟨yN.2 ⟨e,hm⟩,e,hm⟩)
  (dz (lnE acc.ln) fun k e hm=>by
   obtain ⟨k',e_,hh⟩:=Xw.1 hm;simp only [WK] at hh;exact .inr (hh.1 ▸ e_)) (fun _ _=>rfl) (fun i x ty hx=>by rw [WV];exact u_ i x ty hx)
 refine ⟨⟨rfl,rfl,rfl,WU _,fun _ _ _=>rfl,?_,?_,?_,?_,?_,?_⟩,i7⟩
 ·rintro b ⟨h1,h2,h3⟩
  refine ⟨?_,fun ⟨k,hk⟩=>h2 k hk⟩
  show b<w.heap.size
  rcases h1 with h1 | ⟨k,h1⟩
  ·have:=(r1.low b h1).1
   have:=r1.size
   omega
  ·exact (r1.blk k b h1).1
 ·intro k k' b hk e_
  obtain ⟨x,hx,aB⟩:=rI hk;obtain ⟨x',aV,gv⟩:=rI e_
  have:=h.inj x x' b aB gv
  subst this;exact Li jU hx aV
 ·intro k b hk
  obtain ⟨x,hx,aB⟩:=rI hk;exact ⟨(h.blk x b aB).1,fun q=>q.2.1 k hk,fun _=>⟨k,hk⟩⟩
 ·intro s n e he
  obtain ⟨-,-,q,-⟩:=z_ _ e he
  rcases q with ⟨q,-⟩ | ⟨-,c,m,q⟩
  ·simp [cell] at q
  ·exact ⟨c,0,m,q⟩
 ·intro s n e he
  obtain ⟨-,-,q,-⟩:=z_ _ e he
  rcases q with ⟨q,-⟩ | ⟨q,-⟩<;>simp [comp] at q
 ·intro k e he
  obtain ⟨q1,-,-,v,q2,q3⟩:=z_ k e he;exact ⟨v,q2,fun _=>q3 _ _,fun q=>absurd (by rw [q1];trivial) q⟩
end
section
variable {P:Program} {C:Ctx} {fr:Fr} {tm:Array Value} {w w':World} {σ:St} {γ γ1:Key→Option Nat} {D:Nat→Prop} {args:List (Operand×TypeId)} {acc:Acc} {mp:KMap}
structure Form (acc:Acc) (n:Nat) (p:Path) (dst:Option Nat) (sh:Shape) (ks:List (Key×Path)) (tup:List (Key×Ent)):Prop where
 back:∀(i:Nat) k ty o,sh[i]?=some (k,ty,o)→∃k' q,ks[i]?=some (k',q) ∧
  ((∃j s m0 m,(j,s,m0)∈acc.bx∧m<m0∧k=cell j m∧k'=cell s m∧q=[])∨(∃d,dst=some d∧k=pp n∧k'=pp d∧q=p∧tup=[]) ∨
   (∃d l m,dst=some d∧k=comp n l∧k'=comp d l∧q=p∧tup=[(pp d,⟨p,.tup m⟩)]))
 cover:∀j s m0 m,(j,s,m0)∈acc.bx→m<m0→∃(i:Nat) (ty:TypeId) (o:Bool),sh[i]?=some (cell j m,ty,o)∧ks[i]?=some (cell s m,[])
 tup:(tup=[]∧IE n sh=[])∨∃d m,dst=some d∧tup=[(pp d,⟨p,.tup m⟩)]∧IE n sh=[(pp n,top (.tup 0))]
def Nx (dst:Option Nat) (tm:Array Value) (v:Value):Array Value:=match dst with
 | some d=>tm.setIfInBounds d v
 | none=>tm
def yr:Shape→List (Key×Path)→KMap
 | (k,_,_)::sh,(k',_)::ks=>(k',k)::yr sh ks
 | _,_=>[]
theorem Dk:∀(sh:Shape) (ks:List (Key×Path)),sh.length=ks.length→(qP ks).Nodup→∀(i:Nat) k ty o k' q,sh[i]?=some (k,ty,o)→ks[i]?=some (k',q)→(yr sh ks).find k'=some k:=by
 intro sh
 induction sh with
 | nil=>intro ks _ _ i k ty o k' q hs;simp at hs
 | cons a sh ih =>
  intro ks hl hn i k ty o k' q hs hk;obtain ⟨k0,t0,o0⟩:=a
  cases ks with
  | nil=>simp at hl
  | cons b ks =>
   obtain ⟨kb,qb⟩:=b;simp only [qP,Yd] at hn;simp only [yr,KMap.find]
   cases i with
   | zero =>
    simp only [WT,WJ,WK] at hs hk;rw [hk.1,hs.1];simp [Key.qW]
   | succ i =>
    simp only [WR] at hs hk;rw [Key.qt (fun e=>hn.1 (by rw [e];exact yO hk))];exact ih ks (by simpa using hl) hn.2 i k ty o k' q hs hk
theorem zf:∀(sh:Shape) (ks:List (Key×Path)) (k:Key),k ∉ qP ks→(yr sh ks).find k=none:=by
 intro sh
 induction sh with
 | nil=>intro ks k _;rfl
 | cons a sh ih =>
  intro ks k hk;obtain ⟨k0,t0,o0⟩:=a
  cases ks with
  | nil=>rfl
  | cons b ks =>
   obtain ⟨kb,qb⟩:=b;simp only [qP,WW,not_or] at hk;simp only [yr,KMap.find];rw [Key.qt (fun e=>hk.1 e.symm)];exact ih ks k hk.2
def Ic (acc:Acc) (sh:Shape) (ks:List (Key×Path)) (tup:List (Key×Ent)) (γc2 γ1:Key→Option Nat):Key→Option Nat:=fun k =>
 match (yr sh ks).find k with
 | some kc=>γc2 kc
 | none=>match wP (acc.tk++qh tup) k with
  | true=>none
  | false=>γ1 k
def F0 (tab:Tab) (ty:TypeId):Prop:=∃c ti,tab.at ty=some (c,ti)∧((∃k,ti.k=.int k)∨ti.k=.bool∨ti.k=.str)
theorem Ti {tab:Tab} {O O':Nat→Prop} {c:TypeId} {v:Value} {y:T} (hf:F0 tab c) (h:V tab w O c v y):V tab w O' c v y:=by
 obtain ⟨c',ti,h1,h2⟩:=hf;obtain ⟨ti',q1,q2,q3,q4,q5,q6⟩:=h
 have:=pu h1 q1
 simp only [WK] at this;obtain ⟨rfl,rfl⟩:=this;refine ⟨ti,q1,q2,q3,q4,q5,fun j y' ty hy ht=>?_⟩;obtain ⟨u,hu,hL⟩:=q6 j y' ty hy ht;have ai:ti.lv c'=[c']:=by
  unfold TI.lv
  rcases h2 with ⟨k,h2⟩ | h2 | h2<;>rw [h2]
 rw [ai] at ht;have ap:ty=c' := by
  cases j with
  | zero=>simpa using ht.symm
  | succ j=>simp at ht
 subst ap;refine ⟨u,hu,?_⟩
 cases hL with
 | bool h' e_=>exact .bool h' e_
 | int h' e_ hn=>exact .int h' e_ hn
 | str h' e_ hs=>exact .str h' e_ hs
 | nil h' e_=>exact .nil h' e_
 | ptr h' e_=>exact .ptr h' e_
 | ifc h' e_=>exact .ifc h' e_
 | fn h' e_=>exact .fn h' e_
 | fnc h' e_ =>
  have:=pu h1 h'
  simp only [WK,W5] at this;subst this
  rcases h2 with ⟨k,h2⟩ | h2 | h2<;>rw [h2] at e_<;>cases e_
 | sl h' e_ =>
  have:=pu h1 h'
  simp only [WK,W5] at this;subst this
  rcases h2 with ⟨k,h2⟩ | h2 | h2<;>rw [h2] at e_<;>cases e_
theorem LY (hG:Good P C.tab) (h:Rel C.tab fr tm w σ γ) {i:Nat} (hi:¬ D i) {tup:List (Key×Ent)} {p:Path} (aM:∀d m,tup=[(pp d,⟨p,.tup m⟩)]→m=i+1) (hA:ArgsP C tm w (Ob fr γ) σ γ 0 args acc mp) {sh:Shape} {ks:List (Key×Path)} (l_:acc.ok sh ks=true)
  (hp:σ.Holds p) (p_:∀s b,(s,b)∈p→qY C s=false∧∃q c x,σ.get (pp s)=some ⟨q,.t c x⟩) {dst:Option Nat} (hd:∀d,dst=some d→d<tm.size∧σ.get (pp d)=none)
  (hF:Form acc args.length p dst sh ks tup) (aN:acc.ln=[]∨∀(i:Nat) k ty o,sh[i]?=some (k,ty,o)→F0 C.tab ty) {vals:Array Value} (dG:vals.size=args.length)
  (u_:∀(i:Nat) x ty,args[i]?=some (x,ty)→vals[i]?=some (ev tm x)) {ys:List T} (ck:ys.length=sh.length)
  (r1:Rel C.tab fr tm w (σ.puts acc.fz) γ1) (r2:Wf C D (σ.puts acc.fz)) (r3:∀k,(∀c tag xs,σ.get k≠some ⟨[],.own c tag xs⟩)→(σ.puts acc.fz).get k=σ.get k)
  (r4:∀k,(∀e,(k,e) ∉ acc.fz)→(σ.puts acc.fz).get k=σ.get k∧γ1 k=γ k) (r7:∀k b,γ1 k=some b→γ k=some b)
  {v:Value} {γc2:Key→Option Nat} (hR:Rel C.tab (frC fr acc mp γ γ1 w) (vals.push v) w' (sO acc.args sh ys) γc2) :
  ∃γ',Rel C.tab fr (Nx dst tm v) w' (((σ.puts acc.fz).puts (wj acc.tk++tup)).puts (rE (i+1) sh ks ys)) γ' ∧
   Wf C (fun j=>D j∨j=i) (((σ.puts acc.fz).puts (wj acc.tk++tup)).puts (rE (i+1) sh ks ys)):=by
 obtain ⟨k1,k2,k3,k4,k5,k6⟩:=Acc.N9 l_;have co:=hA.perm;have cE:∀{x},x∈acc.tk++qI acc.bx→∃k,mp.find k=some x:=by
  intro x hx;obtain ⟨⟨k,x'⟩,hm,hh⟩:=Xw.1 (co.mem_iff.2 hx);simp only at hh;subst hh;exact ⟨k,hA.find k _ hm⟩
 have gw:∀{x},x∈acc.tk++qI acc.bx→σ.get x≠none:=by
  intro x hx;obtain ⟨k,hk⟩:=cE hx;exact hA.there k x (KMap.zF hk)
 have W_:∀{x},x∈acc.tk++qI acc.bx→(σ.puts acc.fz).get x=σ.get x∧γ1 x=γ x:=fun hx=>r4 _ fun e hm=>k2 _ hx (yN.2 ⟨e,hm⟩)
 have d_:∀d,dst=some d→(σ.puts acc.fz).get (pp d)=none∧(∀l,(σ.puts acc.fz).get (comp d l)=none)∧(∀m,(σ.puts acc.fz).get (cell d m)=none):=by
  intro d J_;have h0:=uL r3 (hd d J_).2;refine ⟨h0,fun l=>?_,fun m=>?_⟩
  ·cases hc:(σ.puts acc.fz).get (comp d l) with
   | none=>rfl
   | some e=>obtain ⟨q,m,hh⟩:=r1.cmp d l e hc;rw [h0] at hh;cases hh
  ·cases hc:(σ.puts acc.fz).get (cell d m) with
   | none=>rfl
   | some e=>obtain ⟨c,t,m',hh⟩:=r1.cel d m e hc;rw [h0] at hh;cases hh
 have X_:∀{x},x∈acc.tk++qI acc.bx→(σ.puts acc.fz).get x≠none:=fun hx=>by rw [(W_ hx).1];exact gw hx
 have ax:∀{k'},k'∈qP ks→∃(i:Nat) (q:Path) (k:Key) (ty:TypeId) (o:Bool) (y:T),ks[i]?=some (k',q)∧sh[i]?=some (k,ty,o)∧ys[i]?=some y ∧
   ((∃j s m0 m,(j,s,m0)∈acc.bx∧m<m0∧k=cell j m∧k'=cell s m∧q=[])∨(∃d,dst=some d∧k=pp args.length∧k'=pp d∧q=p∧tup=[]) ∨
    (∃d l m,dst=some d∧k=comp args.length l∧k'=comp d l∧q=p∧tup=[(pp d,⟨p,.tup m⟩)])):=by
  intro k' e_;obtain ⟨i0,q,gx⟩:=HP e_;have b_:i0<sh.length:=by rw [k6];exact (WQ.1 gx).1
  obtain ⟨⟨k,ty,o⟩,hs⟩:∃a,sh[i0]?=some a:=⟨_,WL b_⟩;obtain ⟨k2',q2,h1,h2⟩:=hF.back i0 k ty o hs;rw [gx] at h1;simp only [WJ,WK] at h1;obtain ⟨rfl,rfl⟩:=h1;exact ⟨i0,q,k,ty,o,_,gx,hs,WL (by omega),h2⟩
 have ja:∀{k'},k'∈qP ks→k'∈qI acc.bx∨(σ.puts acc.fz).get k'=none:=by
  intro k' e_;obtain ⟨i0,q,k,ty,o,y,-,-,-,hc⟩:=ax e_
  rcases hc with ⟨j,s,m0,m,hb,hm,-,rfl,-⟩ | ⟨d,J_,-,rfl,-⟩ | ⟨d,l,m,J_,-,rfl,-⟩
  ·exact .inl (qM.2 ⟨j,s,m0,hb,.inr ⟨m,hm,rfl⟩⟩)
  ·exact .inr (d_ d J_).1
  ·exact .inr ((d_ d J_).2.1 l)
 have aI:∀{k},k∈qh tup→∃d m,dst=some d∧k=pp d∧tup=[(pp d,⟨p,.tup m⟩)]:=by
  intro k hk
  rcases hF.tup with ⟨hh,-⟩ | ⟨d,m,J_,hh,-⟩
  ·rw [hh] at hk;simp [qh] at hk
  ·rw [hh] at hk
   simp only [qh,Xn] at hk;exact ⟨d,m,J_,hk,hh⟩
 have htk_ks:∀{k},k∈acc.tk→k ∉ qP ks:=by
  intro k hk e_
  rcases ja e_ with q | q
  ·exact (List.nodup_append.1 k1).2.2 k hk k q rfl
  ·exact X_ (W2.2 (.inl hk)) q
 have htk_tup:∀{k},k∈acc.tk→k ∉ qh tup:=by
  intro k hk e_;obtain ⟨d,m,J_,rfl,-⟩:=aI e_;exact X_ (W2.2 (.inl hk)) (d_ d J_).1
 have htup_ks:∀{k},k∈qh tup→k ∉ qP ks:=by
  intro k hk e_;obtain ⟨d,m,J_,rfl,ht⟩:=aI hk;obtain ⟨i0,q,k0,ty,o,y,-,-,-,hc⟩:=ax e_
  rcases hc with ⟨j,s,m0,m,hb,hm,-,hh,-⟩ | ⟨d',kO,-,-,-,hh⟩ | ⟨d',l,m,kO,-,hh,-⟩
  ·exact px hh
  ·rw [ht] at hh;cases hh
  ·exact pK hh
 obtain ⟨g1,g2⟩:=Fv (i+1) sh ks ys ((σ.puts acc.fz).puts (wj acc.tk++tup)) k6 ck k5;have hT:∀k,k ∉ qh tup→(((σ.puts acc.fz).puts (wj acc.tk++tup))).get k=((σ.puts acc.fz).puts (wj acc.tk)).get k:=by
  intro k hk;rw [pV]
  rcases hF.tup with ⟨hh,-⟩ | ⟨d,m,-,hh,-⟩
  ·rw [hh];rfl
  ·rw [hh] at hk ⊢
   simp only [qh,Xn] at hk;exact pD hk
 have G1:∀(i0:Nat) k ty o k' q y,sh[i0]?=some (k,ty,o)→ks[i0]?=some (k',q)→ys[i0]?=some y→(((σ.puts acc.fz).puts (wj acc.tk++tup)).puts (rE (i+1) sh ks ys)).get k'=some ⟨q,yT (i+1) ty o y⟩:=g1;have G2:∀k,k∈acc.tk→(((σ.puts acc.fz).puts (wj acc.tk++tup)).puts (rE (i+1) sh ks ys)).get k=some (top .u):=by
  intro k hk;rw [g2 k (htk_ks hk),hT k (htk_tup hk)];exact (Ev acc.tk _ k).1 hk
 have G3:∀d m,tup=[(pp d,⟨p,.tup m⟩)]→(((σ.puts acc.fz).puts (wj acc.tk++tup)).puts (rE (i+1) sh ks ys)).get (pp d)=some ⟨p,.tup m⟩:=by
  intro d m ht;rw [g2 _ (htup_ks (by rw [ht];simp [qh])),pV,ht];exact pB
 have G4:∀k,k ∉ acc.tk→k ∉ qP ks→k ∉ qh tup→(((σ.puts acc.fz).puts (wj acc.tk++tup)).puts (rE (i+1) sh ks ys)).get k=(σ.puts acc.fz).get k:=by
  intro k h1 h2 h3;rw [g2 k h2,hT k h3];exact (Ev acc.tk _ k).2 h1
 generalize ((σ.puts acc.fz).puts (wj acc.tk++tup)).puts (rE (i+1) sh ks ys)=σ' at G1 G2 G3 G4 ⊢
 clear g1 g2 hT;have E1:∀(i0:Nat) k ty o k' q,sh[i0]?=some (k,ty,o)→ks[i0]?=some (k',q)→Ic acc sh ks tup γc2 γ1 k'=γc2 k:=by
  intro i0 k ty o k' q h1 h2;unfold Ic;rw [Dk sh ks k6 k5 i0 k ty o k' q h1 h2]
 have E2:∀k,k∈acc.tk∨k∈qh tup→Ic acc sh ks tup γc2 γ1 k=none:=by
  intro k hk;unfold Ic
  rw [zf sh ks k (by rcases hk with q | q;exact htk_ks q;exact htup_ks q),tT.2 (W2.2 hk)]
 have E3:∀k,k ∉ acc.tk→k ∉ qP ks→k ∉ qh tup→Ic acc sh ks tup γc2 γ1 k=γ1 k:=by
  intro k h1 h2 h3;unfold Ic;rw [zf sh ks k h2]
  have:wP (acc.tk++qh tup) k=false:=by
   cases hm:wP (acc.tk++qh tup) k with
   | false=>rfl
   | true =>
    rcases W2.1 (tT.1 hm) with q | q
    ·exact absurd q h1
    ·exact absurd q h3
  rw [this]
 have N_:∀{j s m0},(j,s,m0)∈acc.bx→∃c tag b,σ.get (pp s)=some ⟨[],.box c tag m0⟩∧γ (pp s)=some b∧γc2 (pp j)=some b∧(∃cs ety,w'.heap[b]?=some (.cells cs ety (0,0))∧cs.size=m0) ∧
   pp s ∉ acc.tk∧pp s ∉ qP ks∧pp s ∉ qh tup∧pJ tm w γ (pp s)=some (.pointer (some ⟨b,0,none⟩))∧j<args.length:=by
  intro j s m0 hm;obtain ⟨-,c,tag,b,x,ty,q1,q2,q3,q4,q5,q6,q7,q8⟩:=hA.boxes j s m0 hm;have T_:pp s∈qI acc.bx:=qM.2 ⟨j,s,m0,hm,.inl rfl⟩;have Q_:(sO acc.args sh ys).get (pp j)=some (top (.box c 0 m0)):=by
   unfold sO;rw [qN,q5]
  obtain ⟨v2,af,cV,-⟩:=hR.ent _ _ Q_;obtain ⟨b2,cs,ety,t1,t2,t3,t4⟩:=cV trivial;rw [pz] at af;have ip:j<vals.size:=by
   rw [dG];exact (WQ.1 q3).1
  have nE:=u_ j x ty q3;rw [ZH ip,←W6 ip,nE,q4] at af;simp only [WJ] at af;rw [←af] at t2;simp only [Value.pointer.injEq,WJ,Addr.mk.injEq,ZP] at t2;obtain ⟨v0,v_,eB,-⟩:=h.ent _ _ q1;obtain ⟨b0,cs0,ety0,u1,u2,-⟩:=eB trivial;rw [q2] at u1;simp only [WJ] at u1;subst u1;refine ⟨c,tag,b,q1,q2,by rw [t1,t2],⟨cs,ety,by rw [t2];exact t3,t4⟩,fun q=>?_,fun q=>?_,fun q=>?_,by rw [v_,u2],by rw [←dG];exact ip⟩
  ·exact (List.nodup_append.1 k1).2.2 _ q _ T_ rfl
  ·obtain ⟨i0,q',k,ty',o,y,-,-,-,hc⟩:=ax q
   rcases hc with ⟨j',s',m0',m,s_,bU,-,hh,-⟩ | ⟨d,J_,-,hh,-⟩ | ⟨d,l,m,J_,-,hh,-⟩
   ·exact px hh
   ·have:=X_ (W2.2 (.inr T_))
    rw [hh] at this;exact this (d_ d J_).1
   ·exact pK hh
  ·obtain ⟨d,m,J_,hh,-⟩:=aI q
   have:=X_ (W2.2 (.inr T_))
   rw [hh] at this;exact this (d_ d J_).1
 have kP:∀b,(∃k,zO mp γ k=some b)→∃x,x∈acc.tk++qI acc.bx∧γ x=some b:=by
  rintro b ⟨k,hk⟩;obtain ⟨x,hx,aB⟩:=rI hk;exact ⟨x,co.mem_iff.1 (AI hx),aB⟩
 have dB:∀{j s m0 m},(j,s,m0)∈acc.bx→(σ.puts acc.fz).get (cell s m)≠none→cell s m∈qP ks:=by
  intro j s m0 m hm he;obtain ⟨c,tag,b,q1,q2,-⟩:=N_ hm;have T_:pp s∈acc.tk++qI acc.bx:=W2.2 (.inr (qM.2 ⟨j,s,m0,hm,.inl rfl⟩));obtain ⟨e,aO⟩:=YF.1 he;obtain ⟨v2,af,-⟩:=r1.ent _ _ aO;have bL:(σ.puts acc.fz).get (pp s)=some ⟨[],.box c tag m0⟩:=by rw [(W_ T_).1];exact q1
  have bk:γ1 (pp s)=some b:=by rw [(W_ T_).2];exact q2
  obtain ⟨cs,ety,t1,t2⟩:=Ai r1 bL bk;simp only [pJ,cell,bk,Xl] at af;rw [pM t1] at af;have b_:m<m0:=by rw [←t2];exact (Yg.1 af).1
  obtain ⟨i0,ty,o,-,u2⟩:=hF.cover j s m0 m hm b_;exact yO u2
 let W:Key→Prop:=fun k=>k∈acc.tk++qI acc.bx∨k∈qP ks∨k∈qh tup
 have eC:∀k,W k→(k∈acc.tk)∨(∃j s m0,(j,s,m0)∈acc.bx∧k=pp s)∨k∈qP ks∨k∈qh tup:=by
  rintro k (hk | hk | hk)
  ·rcases W2.1 hk with q | q
   ·exact .inl q
   ·obtain ⟨j,s,m0,hm,hc⟩:=qM.1 q
    rcases hc with rfl | ⟨m,fT,rfl⟩
    ·exact .inr (.inl ⟨j,s,m0,hm,rfl⟩)
    ·exact .inr (.inr (.inl (dB hm (X_ hk))))
  ·exact .inr (.inr (.inl hk))
  ·exact .inr (.inr (.inr hk))
 have jV:=hR.size;have kQ:w.heap.size≤w'.heap.size:=jV;have aE:¬ Old D (i+1):=by
  rintro (q | ⟨j,hj,q⟩)
  ·cases q
  ·have:i=j:=by omega
   subst this;exact hi hj
 have fy:∀{s},pp s∈qP ks→(σ.puts acc.fz).get (pp s)=none:=by
  intro s hk;obtain ⟨i0,q,k,ty,o,y,-,-,-,hc⟩:=ax hk
  rcases hc with ⟨j',s',m0',m,s_,bU,-,hh,-⟩ | ⟨d,J_,-,hh,-⟩ | ⟨d,l,m,J_,-,hh,-⟩
  ·exact absurd hh px
  ·rw [hh];exact (d_ d J_).1
  ·exact absurd hh pK
 have eD:∀{s e},(σ.puts acc.fz).get (pp s)=some e→(∀c tag xs,e≠⟨[],.own c tag xs⟩)→pp s ∉ acc.tk∧pp s ∉ qP ks∧pp s ∉ qh tup:=by
  intro s e he aA;refine ⟨fun q=>?_,fun q=>?_,fun q=>?_⟩
  ·obtain ⟨c,tag,xs,hh⟩:=hA.takes _ q
   rw [(W_ (W2.2 (.inl q))).1,hh] at he;exact aA c tag xs (W3 he).symm
  ·rw [fy q] at he;cases he
  ·obtain ⟨d,m,J_,hh,-⟩:=aI q
   rw [hh,(d_ d J_).1] at he;cases he
 have bG:∀{s e},(σ.puts acc.fz).get (pp s)=some e→(∀c tag xs,e≠⟨[],.own c tag xs⟩)→σ'.get (pp s)=some e:=by
  intro s e he aA;obtain ⟨q1,q2,q3⟩:=eD he aA;rw [G4 _ q1 q2 q3];exact he
 have eX:∀s b,(s,b)∈p→qY C s=false∧∃q c x,σ'.get (pp s)=some ⟨q,.t c x⟩∧σ.get (pp s)=some ⟨q,.t c x⟩:=by
  intro s b hm;obtain ⟨h1,q,c,x,h2⟩:=p_ s b hm;exact ⟨h1,q,c,x,bG (by rw [r3 _ fun c' t' xs' q'=>by rw [h2] at q';cases q'];exact h2) (by simp),h2⟩
 have hH:σ'.Holds p:=(sW p fun s b hm=>by
  obtain ⟨-,q,c,x,h1,h2⟩:=eX s b hm;rw [h1,h2]).2 hp
 have eE:∀k e,k ∉ qP ks→(σ.puts acc.fz).get k=some e→pJ (Nx dst tm v) w' (Ic acc sh ks tup γc2 γ1) k=pJ tm w γ1 k:=by
  intro k e nF he;refine rp (fun ht=>?_) (fun ht=>?_)
  ·cases az:dst with
   | none=>rfl
   | some d =>
    have t_:d≠k.a:=by
     intro q;obtain ⟨a1,a2,a3⟩:=d_ d az;obtain ⟨v0,v_,-⟩:=r1.ent k e he;have bw:k=pp k.a∨k.tag=2:=by
      by_cases h0:k.tag=0
      ·exact .inl (sT r1 he h0)
      ·right
       obtain ⟨t,a,b⟩:=k;unfold pJ at v_
       match t with
       | 0=>exact absurd rfl h0
       | 1=>exact absurd rfl ht
       | 2=>rfl
       | n+3=>cases v_
     rcases bw with bw | bw
     ·rw [bw,←q,a1] at he;cases he
     ·rw [(uq r1 he bw).1,←q,a2] at he;cases he
    simp [Nx,Xp,t_]
  ·obtain ⟨aD,c,tag,m,hs⟩:=rC r1 he ht
   obtain ⟨n1,n2,n3⟩:=eD hs (by simp);have nbx:∀x,x∈acc.tk++qI acc.bx→x≠pp k.a:=by
    rintro x hx rfl
    rcases W2.1 hx with q | q
    ·exact n1 q
    ·obtain ⟨j,s,m0,hm,hc⟩:=qM.1 q
     rcases hc with hc | ⟨m',-,hc⟩
     ·have:=pZ.1 hc
      refine nF ?_;rw [aD,this];refine dB hm ?_;rw [←this,←aD,he];simp
     ·exact px hc
   refine ⟨E3 _ n1 n2 n3,fun b hb=>sk (hR.old b (r1.blk _ b hb).1 fun hE=>?_)⟩;obtain ⟨x,hx,aB⟩:=kP b hE;exact nbx x hx (h.inj x (pp k.a) b aB (r7 _ b hb))
 have Q_:∀(i0:Nat) k ty o y,sh[i0]?=some (k,ty,o)→ys[i0]?=some y→(sO acc.args sh ys).get k=some (top (yT 0 ty o y)):=by
  intro i0 k ty o y h1 h2;obtain ⟨k',q,-,hc⟩:=hF.back i0 k ty o h1;have hb:(sY 0 acc.args).get k=none:=by
   cases aa:(sY 0 acc.args).get k with
   | none=>rfl
   | some e =>
    obtain ⟨t,ht,-,b_⟩:=Ah _ _ _ _ aa;rw [hA.len,WV] at b_
    rcases hc with ⟨j,s,m0,m,-,-,hk,-⟩ | ⟨d,-,hk,-⟩ | ⟨d,l,m,-,hk,-⟩
    ·rw [hk] at ht;exact absurd ht.symm px
    ·rw [hk] at ht;have:=pZ.1 ht;omega
    ·rw [hk] at ht;exact absurd ht.symm pK
  have jb:(IE acc.args.length sh).get k=none:=by
   rw [hA.len]
   rcases hF.tup with ⟨-,hh⟩ | ⟨d,m,-,bu,hh⟩
   ·rw [hh];rfl
   ·rw [hh]
    simp only [St.get];rw [Key.qt];intro hk
    rcases hc with ⟨j,s,m0,m,-,-,e_,-⟩ | ⟨d,-,-,-,-,e_⟩ | ⟨d,l,m,-,e_,-⟩
    ·rw [e_] at hk;exact px hk
    ·rw [bu] at e_;cases e_
    ·rw [e_] at hk;exact pK hk
  unfold sO;rw [qN,hb];simp only;rw [qN,jb];exact Ni sh ys ck k4 i0 k ty o y h1 h2
 have be:(vals.push v)[args.length]?=some v:=by rw [←dG];simp
 have gy:∀d,dst=some d→(Nx dst tm v)[d]?=some v:=by
  intro d J_;simp [Nx,J_,(hd d J_).1]
 have jc:acc.ln=[]→∀b,Ob fr (Ic acc sh ks tup γc2 γ1) b→Ob (frC fr acc mp γ γ1 w) γc2 b:=by
  rintro a6 b (hb | ⟨k,hb⟩)
  ·refine .inl ⟨.inl hb,fun k hk=>?_,fun k hk=>by rw [a6] at hk;simp at hk⟩
   obtain ⟨x,-,aB⟩:=rI hk;exact (h.blk x b aB).2.1 hb
  ·by_cases h1:k∈qP ks
   ·obtain ⟨i0,q,kc,ty,o,y,u1,u2,u3,-⟩:=ax h1
    rw [E1 i0 kc ty o k q u2 u1] at hb;exact .inr ⟨kc,hb⟩
   ·by_cases h2:k∈acc.tk∨k∈qh tup
    ·rw [E2 k h2] at hb;cases hb
    ·simp only [not_or] at h2
     rw [E3 k h2.1 h1 h2.2] at hb
     by_cases h3:k∈qI acc.bx
     ·obtain ⟨j,s,m0,hm,hc⟩:=qM.1 h3
      rcases hc with rfl | ⟨m,fT,rfl⟩
      ·obtain ⟨c,tag,b',q1,q2,q3,-⟩:=N_ hm
       have:=r7 _ b hb
       rw [q2] at this;exact .inr ⟨pp j,by rw [q3,this]⟩
      ·obtain ⟨i0,ty,o,-,u2⟩:=hF.cover j s m0 m hm fT
       exact absurd (yO u2) h1
     ·refine .inl ⟨.inr ⟨k,hb⟩,fun k2 fc=>?_,fun k hk=>by rw [a6] at hk;simp at hk⟩
      obtain ⟨x,hx,aB⟩:=rI fc
      have:=h.inj x k b aB (r7 _ b hb)
      subst this
      rcases W2.1 (co.mem_iff.1 (AI hx)) with q | q
      ·exact h2.1 q
      ·exact h3 q
 refine ⟨Ic acc sh ks tup γc2 γ1,Rel.upd hG r1 r2 W (fun _=>False) hR.os hR.tape hR.output kQ ?_ (fun _ _ q=>q.elim) ?_ ?_ ?_ ?_ ?_ ?_ ?_ ?_ ?_ ?_ (fun tag ho=>ho.mono fun _=>.inl) ?_ ?_ ?_ ?_⟩
 ·
  intro b hb hk;refine hR.old b hb fun hE=>?_
  obtain ⟨x,hx,aB⟩:=kP b hE;exact hk x (.inl (.inl hx)) (by rw [(W_ hx).2];exact aB)
 ·intro k hk
  exact E3 k (fun q=>hk (.inl (W2.2 (.inl q)))) (fun q=>hk (.inr (.inl q))) (fun q=>hk (.inr (.inr q)))
 ·
  intro k b hk hb
  rcases eC k hk with q | ⟨j,s,m0,hm,rfl⟩ | q | q
  ·rw [E2 k (.inl q)] at hb;cases hb
  ·obtain ⟨c,tag,b',q1,q2,q3,q4,n1,n2,n3,-⟩:=N_ hm
   rw [E3 _ n1 n2 n3] at hb;exact .inl ⟨_,hk,hb⟩
  ·obtain ⟨i0,q',kc,ty,o,y,u1,u2,u3,-⟩:=ax q
   rw [E1 i0 kc ty o k q' u2 u1] at hb;obtain ⟨t1,t2,t3⟩:=hR.blk kc b hb
   by_cases b_:b<w.heap.size
   ·obtain ⟨x,hx,aB⟩:=kP b (t3 b_)
    exact .inl ⟨x,.inl hx,by rw [(W_ hx).2];exact aB⟩
   ·exact .inr ⟨by omega,t1⟩
  ·rw [E2 k (.inr q)] at hb;cases hb
 ·
  have cls:∀k b,W k→Ic acc sh ks tup γc2 γ1 k=some b→(∃j s m0,(j,s,m0)∈acc.bx∧k=pp s∧γ1 k=some b∧γc2 (pp j)=some b∧j<args.length) ∨
    (∃kc,γc2 kc=some b∧((∃j s m0 m,(j,s,m0)∈acc.bx∧kc=cell j m∧k=cell s m)∨(∃d,dst=some d∧kc=pp args.length∧k=pp d)∨(∃d l,dst=some d∧kc=comp args.length l∧k=comp d l))):=by
   intro k b hk hb
   rcases eC k hk with q | ⟨j,s,m0,hm,rfl⟩ | q | q
   ·rw [E2 k (.inl q)] at hb;cases hb
   ·obtain ⟨c,tag,b',q1,q2,q3,q4,n1,n2,n3,-,q5⟩:=N_ hm
    rw [E3 _ n1 n2 n3] at hb
    have:=r7 _ b hb
    rw [q2] at this;exact .inl ⟨j,s,m0,hm,rfl,hb,by rw [q3,this],q5⟩
   ·obtain ⟨i0,q',kc,ty,o,y,u1,u2,u3,hc⟩:=ax q
    rw [E1 i0 kc ty o k q' u2 u1] at hb;refine .inr ⟨kc,hb,?_⟩
    rcases hc with ⟨j,s,m0,m,s_,bU,c1,c2,-⟩ | ⟨d,J_,c1,c2,-⟩ | ⟨d,l,m,J_,c1,c2,-⟩
    ·exact .inl ⟨j,s,m0,m,s_,c1,c2⟩
    ·exact .inr (.inl ⟨d,J_,c1,c2⟩)
    ·exact .inr (.inr ⟨d,l,J_,c1,c2⟩)
   ·rw [E2 k (.inr q)] at hb;cases hb
  have nobox:∀kc j,((∃j s m0 m,(j,s,m0)∈acc.bx∧kc=cell j m∧True)∨(kc=pp args.length)∨(∃l,kc=comp args.length l))→j<args.length→kc≠pp j:=by
   rintro kc j (⟨j',s,m0,m,-,rfl,-⟩ | rfl | ⟨l,rfl⟩) hj he
   ·exact px he.symm
   ·have:=pZ.1 he;omega
   ·exact pK he.symm
  have strip:∀{kc k},((∃j s m0 m,(j,s,m0)∈acc.bx∧kc=cell j m∧k=cell s m)∨(∃d,dst=some d∧kc=pp args.length∧k=pp d)∨(∃d l,dst=some d∧kc=comp args.length l∧k=comp d l)) →
    ((∃j s m0 m,(j,s,m0)∈acc.bx∧kc=cell j m∧True)∨(kc=pp args.length)∨(∃l,kc=comp args.length l)):=by
   rintro kc k (⟨j,s,m0,m,h1,h2,-⟩ | ⟨d,-,h1,-⟩ | ⟨d,l,-,h1,-⟩)
   ·exact .inl ⟨j,s,m0,m,h1,h2,a_⟩
   ·exact .inr (.inl h1)
   ·exact .inr (.inr ⟨l,h1⟩)
  intro k k' b hk e_ hb s_
  rcases cls k b hk hb with ⟨j,s,m0,hm,e1,e2,e3,e4⟩ | ⟨kc,e1,e2⟩<;>rcases cls k' b e_ s_ with ⟨j',s',m0',bU,f1,f2,f3,f4⟩ | ⟨kc',f1,f2⟩
  ·exact r1.inj k k' b e2 f2
  ·exact absurd (hR.inj kc' (pp j) b f1 e3) (nobox kc' j (strip f2) e4)
  ·exact absurd (hR.inj kc (pp j') b e1 f3) (nobox kc j' (strip e2) f4)
  ·have aR:=hR.inj kc kc' b e1 f1
   subst aR
   rcases e2 with ⟨j,s,m0,m,h1,h2,h3⟩ | ⟨d,h1,h2,h3⟩ | ⟨d,l,h1,h2,h3⟩<;>rcases f2 with ⟨j',s',m0',m',i1,i2,i3⟩ | ⟨d',i1,i2,i3⟩ | ⟨d',l',i1,i2,i3⟩
   ·rw [h2] at i2
    obtain ⟨rfl,rfl⟩:=rS.1 i2;obtain ⟨-,_,_,_,_,_,-,-,-,-,-,z1,-⟩:=hA.boxes j s m0 h1;obtain ⟨-,_,_,_,_,_,-,-,-,-,-,z2,-⟩:=hA.boxes j s' m0' i1;rw [z1] at z2;rw [h3,i3,pZ.1 (W3 z2)]
   ·rw [h2] at i2;exact absurd i2.symm px
   ·rw [h2] at i2;exact absurd i2 pS
   ·rw [h2] at i2;exact absurd i2 px
   ·rw [h1] at i1;rw [h3,i3,W3 i1]
   ·rw [h2] at i2;exact absurd i2 pK
   ·rw [h2] at i2;exact absurd i2.symm pS
   ·rw [h2] at i2;exact absurd i2.symm pK
   ·rw [h1] at i1
    rw [h2] at i2;rw [h3,i3,W3 i1,(sw.1 i2).2]
 ·
  intro k hk;exact G4 k (fun q=>hk (.inl (W2.2 (.inl q)))) (fun q=>hk (.inr (.inl q))) (fun q=>hk (.inr (.inr q)))
 ·intro k e hk he
  exact eE k e (fun q=>hk (.inr (.inl q))) he
 ·
  intro s n e he;have jd:(σ.puts acc.fz).get (cell s n)≠none:=by
   by_cases hk:W (cell s n)
   ·rcases eC _ hk with q | ⟨j,s',m0,hm,hh⟩ | q | q
    ·exact X_ (W2.2 (.inl q))
    ·exact absurd hh.symm px
    ·rcases ja q with q' | q'
     ·exact X_ (W2.2 (.inr q'))
     ·obtain ⟨i0,q2,k,ty,o,y,-,-,-,hc⟩:=ax q
      rcases hc with ⟨j',s',m0',m,s_,bU,-,hh,-⟩ | ⟨d,J_,-,hh,-⟩ | ⟨d,l,m,J_,-,hh,-⟩
      ·rw [hh];exact X_ (W2.2 (.inr (qM.2 ⟨j',s',m0',s_,.inr ⟨m,bU,rfl⟩⟩)))
      ·exact absurd hh.symm px
      ·exact absurd hh pS
    ·obtain ⟨d,m,J_,hh,-⟩:=aI q
     exact absurd hh.symm px
   ·rw [G4 _ (fun q=>hk (.inl (W2.2 (.inl q)))) (fun q=>hk (.inr (.inl q))) (fun q=>hk (.inr (.inr q)))] at he
    rw [he];simp
  obtain ⟨e0,dL⟩:=YF.1 jd;obtain ⟨c,tag,m,hb⟩:=r1.cel s n e0 dL;exact ⟨c,tag,m,bG hb (by simp)⟩
 ·
  intro s n e he
  by_cases hk:W (comp s n)
  ·rcases eC _ hk with q | ⟨j,s',m0,hm,hh⟩ | q | q
   ·obtain ⟨e0,dL⟩:=YF.1 (X_ (W2.2 (.inl q)))
    obtain ⟨q',m,hb⟩:=r1.cmp s n e0 dL;exact ⟨q',m,bG hb (by simp)⟩
   ·exact absurd hh.symm pK
   ·obtain ⟨i0,q2,k,ty,o,y,-,-,-,hc⟩:=ax q
    rcases hc with ⟨j',s',m0',m,s_,bU,-,hh,-⟩ | ⟨d,J_,-,hh,-⟩ | ⟨d,l,m,J_,-,hh,-,ht⟩
    ·exact absurd hh.symm pS
    ·exact absurd hh.symm pK
    ·obtain ⟨rfl,-⟩:=sw.1 hh
     exact ⟨p,m,G3 s m ht⟩
   ·obtain ⟨d,m,J_,hh,-⟩:=aI q
    exact absurd hh.symm pK
  ·rw [G4 _ (fun q=>hk (.inl (W2.2 (.inl q)))) (fun q=>hk (.inr (.inl q))) (fun q=>hk (.inr (.inr q)))] at he
   obtain ⟨q',m,hb⟩:=r1.cmp s n e he;exact ⟨q',m,bG hb (by simp)⟩
 ·
  intro s q c x _ hx hk;obtain ⟨n1,n2,n3⟩:=eD hx (by simp)
  rcases eC _ hk with q' | ⟨j,s',m0,hm,hh⟩ | q' | q'
  ·exact n1 q'
  ·obtain ⟨c',tag,b',q1,-⟩:=N_ hm
   have T_:pp s'∈acc.tk++qI acc.bx:=W2.2 (.inr (qM.2 ⟨j,s',m0,hm,.inl rfl⟩));rw [hh,(W_ T_).1,q1] at hx;cases hx
  ·exact n2 q'
  ·exact n3 q'
 ·
  intro k hk t_
  rcases eC _ hk with q | ⟨j,s',m0,hm,rfl⟩ | q | q
  ·rw [G2 k q];simp
  ·obtain ⟨c',tag,b',q1,-,-,-,n1,n2,n3,-⟩:=N_ hm
   rw [G4 _ n1 n2 n3];exact t_
  ·obtain ⟨i0,q2,kc,ty,o,y,u1,u2,u3,-⟩:=ax q
   rw [G1 i0 kc ty o k q2 y u2 u1 u3];simp
  ·obtain ⟨d,m,J_,rfl,-⟩:=aI q
   exact absurd (d_ d J_).1 t_
 ·
  intro k e tag hk he ht
  rcases eC _ hk with q | ⟨j,s',m0,hm,rfl⟩ | q | q
  ·rw [G2 k q] at he
   simp only [WJ] at he;subst he;cases ht
  ·obtain ⟨c',tag',b',q1,-,-,-,n1,n2,n3,-⟩:=N_ hm
   rw [G4 _ n1 n2 n3] at he;exact (r2.tags _ e tag he ht).mono fun _=>.inl
  ·obtain ⟨i0,q2,kc,ty,o,y,u1,u2,u3,-⟩:=ax q
   rw [G1 i0 kc ty o k q2 y u2 u1 u3] at he;simp only [WJ] at he;subst he
   cases o with
   | true =>
    simp only [yT,AV.re,WJ] at ht;subst ht;exact uZ
   | false=>cases ht
  ·obtain ⟨d,m,J_,rfl,bu⟩:=aI q
   rw [G3 d m bu] at he;simp only [WJ] at he;subst he;simp only [AV.re,WJ] at ht;subst ht;rw [aM d m bu];exact uZ
 ·
  intro k tag hk _ ho
  rcases eC _ hk with q | ⟨j,s',m0,hm,rfl⟩ | q | q
  ·rw [uY,G2 k q]
   exact ⟨fun c xs hx=>by (cases hx),fun c n hx=>by (cases hx),fun c hx=>by (cases hx)⟩
  ·obtain ⟨c',tag',b',q1,-,-,-,n1,n2,n3,-⟩:=N_ hm
   have T_:pp s'∈acc.tk++qI acc.bx:=W2.2 (.inr (qM.2 ⟨j,s',m0,hm,.inl rfl⟩));rw [uY,G4 _ n1 n2 n3,(W_ T_).1,q1,E3 _ n1 n2 n3];exact ⟨fun c xs hx=>by (cases hx),fun c n hx=>⟨rfl,n,hx⟩,fun c hx=>by (cases hx)⟩
  ·obtain ⟨i0,q2,kc,ty,o,y,u1,u2,u3,-⟩:=ax q
   refine uK (D:=D) (fun e t he ht x_=>?_) ho;rw [G1 i0 kc ty o k q2 y u2 u1 u3] at he;simp only [WJ] at he;subst he
   cases o with
   | true =>
    simp only [yT,AV.re,WJ] at ht;subst ht;exact aE x_
   | false=>cases ht
  ·obtain ⟨d,m,J_,rfl,bu⟩:=aI q
   refine uK (D:=D) (fun e t he ht x_=>?_) ho;rw [G3 d m bu] at he;simp only [WJ] at he;subst he;simp only [AV.re,WJ] at ht;subst ht;rw [aM d m bu] at x_;exact aE x_
 ·
  intro k e h0 tag hk he hh
  rcases eC _ hk with q | ⟨j,s',m0,hm,rfl⟩ | q | q
  ·rw [G2 k q] at he
   simp only [WJ] at he;subst he;cases hh
  ·obtain ⟨c',tag',b',q1,-,-,-,n1,n2,n3,-⟩:=N_ hm
   have T_:pp s'∈acc.tk++qI acc.bx:=W2.2 (.inr (qM.2 ⟨j,s',m0,hm,.inl rfl⟩));rw [G4 _ n1 n2 n3,(W_ T_).1,q1] at he;simp only [WJ] at he;subst he;cases hh
  ·obtain ⟨i0,q2,kc,ty,o,y,u1,u2,u3,-⟩:=ax q
   rw [G1 i0 kc ty o k q2 y u2 u1 u3] at he;simp only [WJ] at he;subst he;cases o<;>cases hh
  ·obtain ⟨d,m,J_,rfl,bu⟩:=aI q
   rw [G3 d m bu] at he;simp only [WJ] at he;subst he;cases hh
 ·
  intro k e s b hk he bU;have viap:(s,b)∈p→qY C s=false∧∃q c x,σ'.get (pp s)=some ⟨q,.t c x⟩:=fun hm=>by
   obtain ⟨h1,q,c,x,h2,-⟩:=eX s b hm;exact ⟨h1,q,c,x,h2⟩
  rcases eC _ hk with q | ⟨j,s',m0,hm,rfl⟩ | q | q
  ·rw [G2 k q] at he
   simp only [WJ] at he;subst he;simp [top] at bU
  ·obtain ⟨c',tag',b',q1,-,-,-,n1,n2,n3,-⟩:=N_ hm
   have T_:pp s'∈acc.tk++qI acc.bx:=W2.2 (.inr (qM.2 ⟨j,s',m0,hm,.inl rfl⟩));rw [G4 _ n1 n2 n3,(W_ T_).1,q1] at he;simp only [WJ] at he;subst he;simp at bU
  ·obtain ⟨i0,q2,kc,ty,o,y,u1,u2,u3,hc⟩:=ax q
   rw [G1 i0 kc ty o k q2 y u2 u1 u3] at he;simp only [WJ] at he;subst he
   rcases hc with ⟨j',s',m0',m,s_,-,-,-,hq⟩ | ⟨d,J_,-,-,hq,-⟩ | ⟨d,l,m,J_,-,-,hq,-⟩
   ·rw [hq] at bU;simp at bU
   ·rw [hq] at bU;exact viap bU
   ·rw [hq] at bU;exact viap bU
  ·obtain ⟨d,m,J_,rfl,bu⟩:=aI q
   rw [G3 d m bu] at he;simp only [WJ] at he;subst he;exact viap bU
 ·
  intro A_ k e hk he
  rcases eC _ hk with q | ⟨j,s',m0,hm,rfl⟩ | q | q
  ·rw [G2 k q] at he
   simp only [WJ] at he;subst he;obtain ⟨e0,dL⟩:=YF.1 (X_ (W2.2 (.inl q)));obtain ⟨v0,v_,-⟩:=r1.ent k e0 dL;exact ⟨v0,by rw [eE k e0 (htk_ks q) dL];exact v_,fun _=>trivial,fun q=>absurd trivial q⟩
  ·obtain ⟨c',tag',b',q1,q2,q3,⟨cs,ety,q4,q5⟩,n1,n2,n3,q6,-⟩:=N_ hm
   have T_:pp s'∈acc.tk++qI acc.bx:=W2.2 (.inr (qM.2 ⟨j,s',m0,hm,.inl rfl⟩));rw [G4 _ n1 n2 n3] at he;have hv:=eE _ e n2 he;rw [(W_ T_).1,q1] at he;simp only [WJ] at he;subst he;refine ⟨.pointer (some ⟨b',0,none⟩),?_,fun _=>⟨b',cs,ety,by rw [E3 _ n1 n2 n3,(W_ T_).2,q2],rfl,q4,q5⟩,fun q=>absurd trivial q⟩;rw [hv,pz,←q6,pz]
  ·obtain ⟨i0,q2,kc,ty,o,y,u1,u2,u3,hc⟩:=ax q
   rw [G1 i0 kc ty o k q2 y u2 u1 u3] at he;simp only [WJ] at he;subst he;obtain ⟨v2,af,cV,-⟩:=hR.ent kc _ (Q_ i0 kc ty o y u2 u3);have je:pJ (Nx dst tm v) w' (Ic acc sh ks tup γc2 γ1) k=some v2:=by
    rcases hc with ⟨j',s',m0',m,s_,bU,rfl,rfl,-⟩ | ⟨d,J_,rfl,rfl,-,-⟩ | ⟨d,l,m,J_,rfl,rfl,-,-⟩
    ·obtain ⟨c',tag',b',q1,q2,q3,-,n1,n2,n3,-⟩:=N_ s_
     have T_:pp s'∈acc.tk++qI acc.bx:=W2.2 (.inr (qM.2 ⟨j',s',m0',s_,.inl rfl⟩));simp only [pJ,cell,q3,Xl] at af;have hE:Ic acc sh ks tup γc2 γ1 (pp s')=some b' := by rw [E3 _ n1 n2 n3,(W_ T_).2,q2]
     simp only [pJ,cell,hE,Xl];exact af
    ·rw [pz] at af ⊢
     rw [be] at af;rw [gy d J_];exact af
    ·simp only [pJ,comp] at af ⊢
     rw [be] at af;rw [gy d J_];exact af
   refine ⟨v2,je,fun _=>?_,fun hn=>?_⟩
   ·have mE:=cV trivial
    cases o with
    | false =>
     show V C.tab w' _ ty v2 y
     have jf:V C.tab w' (Ob (frC fr acc mp γ γ1 w) γc2) ty v2 y:=mE
     rcases aN with aN | aN
     ·exact jf.mono fun b _ hb=>⟨rfl,fun q=>hb (jc aN b q)⟩
     ·exact Ti (aN i0 kc ty _ u2) jf
    | true =>
     show Own C.tab w' _ ty v2 (Ic acc sh ks tup γc2 γ1 k) y.list
     have jf:Own C.tab w' (Ob (frC fr acc mp γ γ1 w) γc2) ty v2 (γc2 kc) y.list:=mE;rw [E1 i0 kc ty _ k q2 u2 u1]
     rcases aN with aN | aN
     ·exact jf.mono (fun b _ hb=>⟨rfl,fun q=>hb (jc aN b q)⟩) fun _ _=>rfl
     ·obtain ⟨c1,t1,f1,f2⟩:=aN i0 kc ty _ u2
      obtain ⟨t2,e2,ce2,te2,g1,g2,-⟩:=jf
      have:=pu f1 g1
      simp only [WK] at this;rw [this.2] at f2
      rcases f2 with ⟨k0,f2⟩ | f2 | f2<;>rw [g2] at f2<;>cases f2
   ·refine absurd ?_ hn
    rcases hc with ⟨j',s',m0',m,s_,-,-,-,hq⟩ | ⟨d,J_,-,-,hq,-⟩ | ⟨d,l,m,J_,-,-,hq,-⟩
    ·rw [hq];trivial
    ·rw [hq];exact hH
    ·rw [hq];exact hH
  ·obtain ⟨d,m,J_,rfl,bu⟩:=aI q
   rw [G3 d m bu] at he;simp only [WJ] at he;subst he;refine ⟨v,by rw [pz];exact gy d J_,fun _=>?_,fun hn=>absurd hH hn⟩
   rcases hF.tup with ⟨hh,-⟩ | ⟨d',m',-,-,kR⟩
   ·rw [hh] at bu;cases bu
   ·have o_:(sO acc.args sh ys).get (pp args.length)=some (top (.tup 0)):=by
     unfold sO;rw [qN];have hb:(sY 0 acc.args).get (pp args.length)=none:=by
      cases aa:(sY 0 acc.args).get (pp args.length) with
      | none=>rfl
      | some e =>
       obtain ⟨t,ht,-,b_⟩:=Ah _ _ _ _ aa;rw [hA.len,WV] at b_
       have:=pZ.1 ht
       omega
     rw [hb];simp only;rw [qN,hA.len,kR];simp [St.get,Key.qW]
    obtain ⟨v2,af,cV,-⟩:=hR.ent _ _ o_;rw [pz,be] at af;simp only [WJ] at af;subst af;exact cV trivial
end
section
variable {P:Program} {C:Ctx} {fr:Fr}
theorem FT {tm:Array Value} {w w':World} {γ:Key→Option Nat} (hh:w'.heap=w.heap):pJ tm w' γ=pJ tm w γ:=by
 funext k
 unfold pJ World.cell?;rw [hh]
theorem Rel.world {tm:Array Value} {w w':World} {σ:St} {γ:Key→Option Nat} {D:Nat→Prop} (hG:Good P C.tab) (h:Rel C.tab fr tm w σ γ) (g_:Wf C D σ) (hh:w'.heap=w.heap) (h1:w'.os=w.os) (h2:w'.tape=w.tape) (h3:w'.output=w.output) :
  Rel C.tab fr tm w' σ γ:=by
 refine Rel.step hG h (fun _=>False) h1 h2 h3 (by rw [hh];exact WU _) (fun b _ _=>by rw [hh]) (fun b _ ho=>⟨by rw [hh],ho⟩) h.inj (fun k b hk=>by rw [hh];exact h.blk k b hk) h.cel h.cmp (fun _ _=>rfl) ?_ (fun _ _ q=>q.elim);intro k e _ hk;refine ⟨by rw [FT hh],rfl,fun _ _ _=>id,fun b _=>⟨fun _ _ _ _=>by rw [hh],fun _ _ _ _ cs ety q=>⟨cs,by rw [hh];exact q,rfl⟩⟩,fun _ _ _ q=>q.elim,?_⟩;exact fun h0 tag ki _=>g_.dom k e h0 tag hk ki
end
section
variable {P:Program} {C:Ctx} {fr:Fr} {tm:Array Value} {w w':World} {σ:St} {γ:Key→Option Nat} {D:Nat→Prop}
theorem Is {sh:Shape} {i:Nat} {k:Key} {ty:TypeId} {o:Bool} (h:sh[i]?=some (k,ty,o)):k∈sV sh:=by
 induction sh generalizing i with
 | nil=>simp at h
 | cons b sh ih =>
  obtain ⟨kb,tb,ob⟩:=b
  cases i with
  | zero=>simp at h;simp [sV,h.1]
  | succ i =>
   simp only [WR] at h;simp only [sV,WW];exact .inr (ih h)
theorem x9 (n d:Nat) (p:Path):∀(rs:List TypeId) (j:Nat) (own:List Bool),(sS n j rs own).length=rs.length∧(vC d p j rs).length=rs.length ∧
  ∀(i:Nat) k ty o,(sS n j rs own)[i]?=some (k,ty,o)→k=comp n (j+i)∧rs[i]?=some ty∧(vC d p j rs)[i]?=some (comp d (j+i),p):=by
 intro rs
 induction rs with
 | nil=>intro j own;exact ⟨by cases own<;>rfl,rfl,fun i k ty o hi=>by cases own<;>simp [sS] at hi⟩
 | cons r rs ih =>
  intro j own;obtain ⟨h1,h2,h3⟩:=ih (j+1) own.tail;refine ⟨by simp [sS,h1],by simp [vC,h2],fun i k ty o hi=>?_⟩
  cases i with
  | zero =>
   simp only [sS,WT,WJ,WK] at hi;exact ⟨hi.1.symm,by simp [hi.2.1],rfl⟩
  | succ i =>
   simp only [sS,WR] at hi;obtain ⟨q1,q2,q3⟩:=h3 i k ty o hi;rw [show j+(i+1)=j+1+i by omega];exact ⟨q1,by simpa using q2,by simpa [vC] using q3⟩
theorem Ax:∀(rs:List TypeId),BQ C rs=true→∀ty∈rs,F0 C.tab ty:=by
 intro rs
 induction rs with
 | nil=>intro _ ty hm;simp at hm
 | cons r rs ih =>
  intro h ty hm;simp only [BQ] at h;split at h
  ·rename_i c ti hc
   have hk:((∃k,ti.k=.int k)∨ti.k=.bool∨ti.k=.str)∧BQ C rs=true:=by
    split at h
    ·rename_i k hk;exact ⟨.inl ⟨k,hk⟩,h⟩
    ·rename_i hk;exact ⟨.inr (.inl hk),h⟩
    ·rename_i hk;exact ⟨.inr (.inr hk),h⟩
    ·cases h
   rcases WW.1 hm with rfl | hm
   ·exact ⟨c,ti,hc,hk.1⟩
   ·exact ih hk.2 ty hm
  ·cases h
theorem v6 {rs:List TypeId} {m:Mode} (h:uM C rs m=true):BQ C rs=true∧m.boxes=[]:=by
 unfold uM at h;split at h
 ·rename_i h1
  refine ⟨h1,?_⟩;unfold UU at h;split at h
  ·rename_i hb;exact hb
  ·cases h
 ·cases h
theorem wO {o:Oper} {c:Call} {f:FuncId} {vals:Array Value} {K:Act→World→Prop} {Q:Exit→Act→World→Prop} (ho:o.op=.call c) (hc:c.callee=.value (.func f)) (hv:c.args.map (Act.eval ⟨tm,[]⟩)=vals)
  (h:CallsF P f vals w fun v w'=>K (Act.put ⟨tm,[]⟩ o.dst v) w'):o.wp P ⟨tm,[]⟩ w K Q:=by
 have ay:(execOp (Act.eval ⟨tm,[]⟩) o).run P w=(callFunc f vals).run P w:=by
  rw [←hv];simp [execOp,ho,resolve,hc,Act.eval,Deferred.ofValue,invoke]
 unfold Oper.wp;rw [ay];unfold CallsF at h;split at h
 ·rename_i g as_ w1 he
  rw [he]
  show Calls P g as_ w1 _
  refine Calls.mono h ?_;rintro e w2 ⟨v,rfl,hr⟩;exact hr
 ·rename_i v w1 he
  rw [he];exact h
 ·exact h.elim
theorem RL:∀(xs:List Operand) (ts:List TypeId) (i:Nat) x ty,(uW xs ts)[i]?=some (x,ty)→xs[i]?=some x:=by
 intro xs
 induction xs with
 | nil=>intro ts i x ty h;cases ts<;>simp [uW] at h
 | cons a xs ih =>
  intro ts i x ty h
  cases ts with
  | nil=>simp [uW] at h
  | cons t ts =>
   cases i with
   | zero=>simp [uW] at h;simp [h.1]
   | succ i =>
    simp only [uW,WR] at h;simpa using ih ts i x ty h
end
section
variable {P:Program} {C:Ctx} {fr:Fr} {tm:Array Value} {w:World} {σ:St} {γ:Key→Option Nat} {D:Nat→Prop}
 (hG:Good P C.tab) (h:Rel C.tab fr tm w σ γ) (g_:Wf C D σ) (f_:tm.size=C.nt) {i:Nat} (hi:¬ D i) {o:Oper} {p:Path} (hp:σ.Holds p)
 (p_:∀s b,(s,b)∈p→qY C s=false∧∃q c x,σ.get (pp s)=some ⟨q,.t c x⟩) {K:St→Prop} {Q:Exit→Act→World→Prop}
include hG h g_ f_ hi hp p_
theorem sB {cal:Cal} {f:FuncId} {args:List (Operand×TypeId)} {vals:Array Value} (dG:vals.size=args.length)
  (u_:∀(i:Nat) x ty,args[i]?=some (x,ty)→vals[i]?=some (ev tm x))
  (nG:∀{K':Act→World→Prop},CallsF P f vals w (fun v w'=>K' (Act.put ⟨tm,[]⟩ o.dst v) w')→o.wp P ⟨tm,[]⟩ w K' Q)
  {acc:Acc} {mp:KMap} {sh:Shape} (kS:∀ys,FnC P C.tab cal acc.args sh ys→Fn P C.tab f acc.args sh ys)
  (hA:ArgsP C tm w (Ob fr γ) σ γ 0 args acc mp) {ks:List (Key×Path)} {tup:List (Key×Ent)} (hd:∀d,o.dst=some d→d<tm.size∧σ.get (pp d)=none)
  (hF:acc.ok sh ks=true→Form acc args.length p o.dst sh ks tup) (jg:∀d m,tup=[(pp d,⟨p,.tup m⟩)]→m=i+1) (aN:acc.ln=[]∨∀(i:Nat) k ty b,sh[i]?=some (k,ty,b)→F0 C.tab ty) :
  Sound P C fr tm w σ D i o p K Q ((wT i cal acc tup sh ks).run σ):=by
 unfold wT;split
 ·rename_i l_
  intro hW;obtain ⟨ys,ck,cF,hK⟩:=Cy.1 hW;have nH:Fn P C.tab f acc.args sh ys:=kS ys (wV cF hp);obtain ⟨γ1,r1,r2,r3,r4,r5,r6,r7,r8⟩:=Rel.frz hG h g_ hA.frzs;obtain ⟨s1,s2⟩:=Hw hG h hA l_ r1 r5 r6 u_;refine nG ?_;refine CallsF.mono (nH.run w (KG fr acc mp γ γ1) _ (zO mp γ) (by rw [dG,hA.len]) s1) ?_;rintro v w' ⟨γc2,hR⟩;obtain ⟨γ',t1,t2⟩:=LY hG h hi jg hA l_ hp p_ hd (hF l_) aN dG u_ ck r1 r2 r3 r4 r7 hR;have jh:(Act.put ⟨tm,[]⟩ o.dst v).tmps=Nx o.dst tm v:=by
   cases o.dst<;>rfl
  have nI:(Act.put ⟨tm,[]⟩ o.dst v).defers=[]:=by
   cases o.dst<;>rfl
  have kR:(Nx o.dst tm v).size=C.nt:=by
   cases o.dst<;>simp [Nx,f_]
  have ij:K (((σ.puts acc.fz).puts (wj acc.tk++tup)).puts (rE (i+1) sh ks ys)):=by
   simp only [pV] at hK ⊢;exact hK
  exact ⟨nI,by rw [jh];exact kR,_,γ',ij,by rw [jh];exact t1,t2⟩
 ·exact pq
omit hG h g_ f_ hi hp p_ in
theorem tj {c:Call} {args:List (Operand×TypeId)} (E_:args=uW c.args.toList c.argTypes.toList) (bd:args.length=c.args.size) :
  (c.args.map (Act.eval ⟨tm,[]⟩)).size=args.length∧∀(i:Nat) x ty,args[i]?=some (x,ty)→(c.args.map (Act.eval ⟨tm,[]⟩))[i]?=some (ev tm x):=by
 refine ⟨by rw [Array.size_map,bd],fun j x ty hj=>?_⟩;rw [E_] at hj
 have:=RL _ _ _ _ _ hj
 rw [Xa] at this;rw [Array.getElem?_map,this];rfl
theorem EF {c:Call} {f:FuncId} {args:List (Operand×TypeId)} (ho:o.op=.call c) (hc:c.callee=.value (.func f)) (E_:args=uW c.args.toList c.argTypes.toList) (bd:args.length=c.args.size) (rs:List TypeId) :
  Sound P C fr tm w σ D i o p K Q ((OG C i p o f args rs).run σ):=by
 unfold OG;split
 ·rename_i x0 t0 x1 t1 rf rb
  refine pI _ _ pq fun d hd hn _ d_=>?_
  refine qB hG h [] trivial x0 t0 pq fun ko a hx=>?_
  refine ru hG h [] trivial x1 t1 pq fun c1 v1 hs=>?_
  split
  ·rename_i cf tf cb tb fK dE
   have gz:=(hG _ _ _ fK).self;have kT:=(hG _ _ _ dE).self;split
   ·rename_i kU nJ bq
    obtain ⟨e1,e2,e3⟩:=hs.int (k:=.i64) (by unfold Ctx.ik;rw [bq];rfl);have hv:=tj (tm:=tm) E_ bd;have main:∀(k:Int) (g:Option FuncId) (a0:AV) (b:Nat),ev tm x0=.pointer (some ⟨b,0,none⟩)→ev tm x1=.int .i64 k→uX P f k g →
      ((∃y,a0=.t cf y∧y=.z∧g=none)∨∃s tag g0 cB n,a0=.ptr s tag (Df+g0)∧g=some g0∧σ.get (pp s)=some ⟨[],.box cB tag n⟩∧γ (pp s)=some b) →
      K (σ.puts [(pp d,top (.tup (i+1))),(comp d 0,top a0),(comp d 1,top (.t cb (.b (LR g))))])→o.wp P ⟨tm,[]⟩ w (After C fr (fun j=>D j∨j=i) K) Q:=by
     intro k g a0 b dR fA hB nK hK;have u_:c.args.map (Act.eval ⟨tm,[]⟩)=#[.pointer (some ⟨b,0,none⟩),.int .i64 k]:=by
      apply Ze
      ·rw [hv.1];rfl
      ·intro j h1 h2
       have jW:j<2:=by simpa using h2
       match j,jW with
       | 0,_ =>
        have:=hv.2 0 x0 t0 rfl
        rw [W6 h1] at this;rw [W3 this,dR];rfl
       | 1,_ =>
        have:=hv.2 1 x1 t1 rfl
        rw [W6 h1] at this;rw [W3 this,fA];rfl
     refine wO ho hc u_ (CallsF.mono (hB ⟨b,0,none⟩ w) ?_);rintro v w' ⟨hw,rfl⟩;have hw:=hw.symm;subst hw;have t_:∀{s:Nat} {e:Ent},σ.get (pp s)=some e→s≠d:=by
      rintro s e he rfl;rw [d_] at he;cases he
     obtain ⟨v0,v_⟩:∃v0,v0=OH ⟨b,0,none⟩ g:=⟨_,rfl⟩;obtain ⟨bb,cj⟩:∃bb,bb=LR g:=⟨_,rfl⟩;rw [←cj] at hK;rw [←v_,←cj];have V_:(tm.setIfInBounds d (.tuple #[v0,.bool bb]))[d]?=some (.tuple #[v0,.bool bb]):=by simp [f_,hn]
     let T:Key→Prop:=fun k=>k=pp d∨k=comp d 0∨k=comp d 1
     let A:Key→AV:=fun k=>if k.tag=0 then .tup (i+1) else if k.b=0 then a0 else .t cb (.b bb)
     have x_:∀s,s≠d→(tm.setIfInBounds d (.tuple #[v0,.bool bb]))[s]?=tm[s]? := fun s hs=>by
      rw [Xp,WZ (YL hs)]
     have iO:∀s,T (pp s)→s=d:=by
      rintro s (q | q | q)
      ·exact pZ.1 q
      ·exact absurd q pK
      ·exact absurd q pK
     classical
     have ji:∀k,(σ.puts [(pp d,top (.tup (i+1))),(comp d 0,top a0),(comp d 1,top (.t cb (.b bb)))]).get k=if T k then some (top (A k)) else σ.get k:=by
      intro k;simp only [St.puts]
      by_cases h2:k=comp d 1
      ·subst h2
       rw [pB,WY (.inr (.inr rfl))];rfl
      ·rw [pD h2]
       by_cases h1:k=comp d 0
       ·subst h1
        rw [pB,WY (.inr (.inl rfl))];rfl
       ·rw [pD h1]
        by_cases h0:k=pp d
        ·subst h0
         rw [pB,WY (.inl rfl)];rfl
        ·rw [pD h0,WZ (by rintro (q | q | q);exact h0 q;exact h1 q;exact h2 q)]
     let γ':Key→Option Nat:=fun k=>if T k then none else γ k
     have gkeep:∀{s:Nat} {e:Ent},σ.get (pp s)=some e→γ' (pp s)=γ (pp s):=by
      intro s e he
      show (if T (pp s) then _ else _)=_
      rw [WZ fun q=>t_ he (iO s q)]
     obtain ⟨r1,r2⟩:=Rel.gives (tm' := tm.setIfInBounds d (.tuple #[v0,.bool bb])) (w' := w) (σ' := σ.puts [(pp d,top (.tup (i+1))),(comp d 0,top a0),(comp d 1,top (.t cb (.b bb)))]) (γ' := γ') hG h g_ hi T (fun _=>False) (fun _=>False) A (fun _=>none) rfl rfl rfl rfl (fun _ _=>rfl) (fun _ q=>q.elim)
      (fun k hk=>by rw [ji,WY hk]) (fun _ q=>q.elim) (fun k hk _=>by rw [ji,WZ hk])
      (fun k hk=>WY hk) (fun _ q=>q.elim) (fun k hk _=>WZ hk) (fun _ q=>q.elim) (fun _ _ _ q=>by cases q) (fun _ _ _ _ _ q=>by cases q)
      (by
       rintro k (rfl | rfl | rfl)
       ·exact ⟨_,by rw [pz];exact V_,.inr (.inr (.inl ⟨rfl,.inl ⟨_,rfl⟩⟩))⟩
       ·refine ⟨v0,by simp only [pJ,comp,V_];rfl,?_⟩
        show ((∃c y,a0=.t c y∧_)∨_)
        rcases nK with ⟨y,rfl,rfl,hg⟩ | ⟨s,tag,g0,cB,n,rfl,hg,hs,hb⟩
        ·refine .inl ⟨cf,.z,rfl,?_⟩
         have:v0=.nilFunc:=by rw [v_,hg];rfl
         rw [this];exact sn gz (by simp [TI.isS,kU]) (qz hG gz (by simp [TI.isS,kU])) rfl rfl (.fn gz kU)
        ·refine .inr (.inr (.inr (.inl ⟨s,tag,Df+g0,rfl,by rw [hs];simp,fun q=>t_ hs (iO s q),fun q=>q,g_.tags _ _ tag hs rfl,?_⟩)))
         intro cb' n' hx;refine ⟨b,hb,?_⟩;rw [GM,v_,hg];rfl
       ·refine ⟨.bool bb,by simp only [pJ,comp,V_];rfl,.inl ⟨cb,.b bb,rfl,Ag hG kT nJ⟩⟩)
      (fun s hs=>by rw [iO s hs];exact d_)
      (by rintro s n (q | q | q)
          ·exact absurd q.symm px
          ·exact absurd q pS
          ·exact absurd q pS)
      (by rintro s j (q | q | q)
          ·exact absurd q.symm pK
          ·exact .inr ⟨.inl (by rw [(sw.1 q).1]),rfl⟩
          ·exact .inr ⟨.inl (by rw [(sw.1 q).1]),rfl⟩)
      (fun k e hk he=>by
       refine rp (fun ht=>?_) (fun ht=>?_)
       ·refine x_ _ fun e'=>?_
        by_cases h0:k.tag=0
        ·exact hk (.inl (by rw [sT h he h0,e']))
        ·obtain ⟨v0,v_,-⟩:=h.ent k e he
         have h2:k.tag=2:=by
          obtain ⟨t,a,b⟩:=k;unfold pJ at v_
          match t with
          | 0=>exact absurd rfl h0
          | 1=>exact absurd rfl ht
          | 2=>rfl
          | n+3=>cases v_
         obtain ⟨-,q',m,hh⟩:=uq h he h2;rw [e',d_] at hh;cases hh
       ·obtain ⟨aD,c',tag',m,aa⟩:=rC h he ht
        exact ⟨gkeep aa,fun _ _=>rfl⟩)
     rw [hd];exact ⟨rfl,by simp [Act.put,f_],_,_,hK,r1,r2⟩
    have fin:∀s tag b cB n,σ.get (pp s)=some ⟨[],.box cB tag n⟩→γ (pp s)=some b→ev tm x0=.pointer (some ⟨b,0,none⟩)→Sound P C fr tm w σ D i o [] K Q ((Cp C i f d s tag cf cb v1).run σ):=by
     intro s tag b cB n bc hb dR;unfold Cp;split
     ·rintro ⟨hB,hK⟩
      exact main v1.int none (.t cf .z) b dR e1 hB (.inl ⟨.z,rfl,rfl,rfl⟩) hK
     ·rename_i g hg
      rintro ⟨hB,hK⟩;exact main v1.int (some g) (.ptr s tag (Df+g)) b dR e1 hB (.inr ⟨s,tag,g,cB,n,rfl,rfl,bc,hb⟩) hK
    cases hx with
    | const=>exact pq
    | nil=>exact pq
    | tmp s e hx he y_ j_ =>
     cases h_:e.av with
     | box c' tag n =>
      rw [h_] at j_;obtain ⟨b,cs,ety,hb,ah,-⟩:=j_
      cases w_:e.path with
      | cons=>exact pq
      | nil=>exact fin s tag b c' n (by rw [he,←w_,←h_]) hb ah
     | ptr s' tag c0 =>
      rw [h_] at j_
      cases c0 with
      | succ=>exact pq
      | zero =>
       refine s9 s' tag pq fun cB n aa=>?_
       obtain ⟨b,hb,ah⟩:=j_ cB n aa;exact fin s' tag b cB n aa hb ah
     | _=>exact pq
   ·exact pq
  ·exact pq
 ·exact pq
theorem FX {c:Call} {f:FuncId} {args:List (Operand×TypeId)} (ho:o.op=.call c) (hc:c.callee=.value (.func f)) (E_:args=uW c.args.toList c.argTypes.toList) (bd:args.length=c.args.size) :
  Sound P C fr tm w σ D i o p K Q ((RH C p o f args).run σ):=by
 unfold RH;split
 ·rename_i x0 t0
  refine pI _ _ pq fun d hd hn _ d_=>?_
  refine wI hG h [] trivial x0 pq fun sp dP=>?_
  cases dP with
  | box s c0 n cb tag b hs hb aQ =>
   cases c0 with
   | succ=>exact pq
   | zero =>
    simp only [Rd.run];split
    ·rename_i c' tag' xs he
     simp only [Rd.run];split
     ·rename_i c1 x1 gc
      split
      ·rename_i bq
       rintro ⟨hV,h0,hK⟩;obtain ⟨v,ag,hr,-⟩:=h.ent _ _ he;have af:=ag;simp only [pJ,cell,hb,Xl] at ag;obtain ⟨v1,gA,gB,-⟩:=h.ent _ _ gc;simp only [pJ,cell,hb,Xl] at gA;have hO:Own C.tab w (Ob fr γ) c' v (γ (cell s 0)) xs:=hr trivial;have kV:V C.tab w (Ob fr γ) c1 v1 x1:=gB trivial;obtain ⟨c2,ti,q1,q2⟩:=vm bq (by simp);have e1:v1=.int .i64 0:=by
        obtain ⟨ti',q3,q4⟩:=kV
        have:=pu q1 q3
        simp only [WK] at this;obtain ⟨rfl,rfl⟩:=this;obtain ⟨hl,-,-⟩:=sG q3 (by simp [TI.isS,q2]) ⟨_,q3,q4⟩
        cases hl with
        | int h' e_ fH =>
         have:=pu q3 h'
         simp only [WK,W5] at this;subst this;rw [q2] at e_;cases e_
         have:(T.i IntKind.i64 _).int=0:=h0
         simp only [T.int] at this;rw [this]
        | bool h' e_=>have:=pu q3 h';simp only [WK,W5] at this;subst this;rw [q2] at e_;cases e_
        | str h' e_=>have:=pu q3 h';simp only [WK,W5] at this;subst this;rw [q2] at e_;cases e_
        | nil h' e_=>have:=pu q3 h';simp only [WK,W5] at this;subst this;rw [q2] at e_;cases e_
        | sl h' e_=>have:=pu q3 h';simp only [WK,W5] at this;subst this;rw [q2] at e_;cases e_
        | ptr h' e_=>have:=pu q3 h';simp only [WK,W5] at this;subst this;rw [q2] at e_;cases e_
        | ifc h' e_=>have:=pu q3 h';simp only [WK,W5] at this;subst this;rw [q2] at e_;cases e_
        | fn h' e_=>have:=pu q3 h';simp only [WK,W5] at this;subst this;rw [q2] at e_;cases e_
        | fnc h' e_=>have:=pu q3 h';simp only [WK,W5] at this;subst this;rw [q2] at e_;cases e_
       rw [e1] at gA;have hv:=tj (tm:=tm) E_ bd;have u_:c.args.map (Act.eval ⟨tm,[]⟩)=#[.pointer (some ⟨b,0,none⟩)]:=by
        apply Ze
        ·rw [hv.1];rfl
        ·intro j h1 h2
         have jW:j<1:=by simpa using h2
         have eF:j=0:=by omega
         subst eF
         have:=hv.2 0 x0 t0 rfl
         rw [W6 h1] at this;rw [W3 this,aQ];rfl
       obtain ⟨a,n',cap,rfl,k1,k2,k3⟩:∃a n' cap,v=.slice a n' cap∧n'≤cap∧cap≤maxLen∧(a=none→cap=0):=by
        obtain ⟨ti',e,ce,te,m1,m2,m3,m4,m5⟩:=hO
        rcases m5 with ⟨-,-,a,rfl⟩ | ⟨b',cap,cs,-,rfl,-,k1,k2,-⟩
        ·exact ⟨a,0,0,rfl,WU _,WS _,fun _=>rfl⟩
        ·exact ⟨_,_,cap,rfl,k1,k2,fun q=>by cases q⟩
       refine wO ho hc u_ (CallsF.mono (hV b w a n' cap ag gA k1 k2 k3) ?_);rintro v' w' ⟨g1,g2,g3,g4,rfl⟩;obtain ⟨r1,r2⟩:=Rel.xn (a:=.alias (cell s 0) tag' c' 0 xs.length) (v:=.slice a n' cap) hG h g_ (by rw [f_];exact hn) d_ (p:=[]) (fun _ _ q=>by cases q)
        (fun h0 t6 hh=>by
         simp only [AV.home,WJ,WK] at hh;obtain ⟨rfl,rfl⟩:=hh;rw [he];simp)
        (fun t6 hh=>g_.tags _ _ t6 he (by exact hh))
        (fun _=>wm (k' := pp d) h he af) (fun q=>absurd trivial q)
       rw [hd];exact After.mono (D:=D) (fun _ q=>q) (fun j=>.inl) ⟨rfl,by simp [Act.put,f_],_,_,hK,r1.world hG r2 g1 g2 g3 g4,r2⟩
      ·exact pq
     ·exact pq
    ·exact pq
  | _=>exact pq
 ·exact pq
theorem EJ {c:Call} {f:FuncId} {args:List (Operand×TypeId)} (ho:o.op=.call c) (hc:c.callee=.value (.func f)) (E_:args=uW c.args.toList c.argTypes.toList) (bd:args.length=c.args.size) :
  Sound P C fr tm w σ D i o p K Q ((OO C i p o f args).run σ):=by
 unfold OO;split
 ·exact pq
 ·rename_i ps rs kW
  simp only;split
  ·exact EF hG h g_ f_ hi hp p_ ho hc E_ bd rs
  split
  ·exact FX hG h g_ f_ hi hp p_ ho hc E_ bd
  have aG:∀{acc:Acc} {mp:KMap} {k:Key} {ty:TypeId} {b:Bool} {n:Nat} {dst:Option Nat} {tup:List (Key×Ent)},ArgsP C tm w (Ob fr γ) σ γ 0 args acc mp→∀(i:Nat),acc.sh[i]?=some (k,ty,b)→∃k' q,acc.ks[i]?=some (k',q) ∧
    ((∃j s m0 m,(j,s,m0)∈acc.bx∧m<m0∧k=cell j m∧k'=cell s m∧q=[])∨(∃d,dst=some d∧k=pp n∧k'=pp d∧q=p∧tup=[]) ∨
     (∃d l m,dst=some d∧k=comp n l∧k'=comp d l∧q=p∧tup=[(pp d,⟨p,.tup m⟩)])):=by
   intro acc mp k ty b n dst tup hA i hi;obtain ⟨j',s,m0,m,q1,q2,q3,q4⟩:=hA.backs.2 i k ty b hi;exact ⟨_,_,q4,.inl ⟨j',s,m0,m,q1,q2,q3,rfl,rfl⟩⟩
  have cG:∀{acc:Acc} {mp:KMap},ArgsP C tm w (Ob fr γ) σ γ 0 args acc mp→∀j s m0 m,(j,s,m0)∈acc.bx→m<m0→∃(i:Nat) (ty:TypeId) (o:Bool),acc.sh[i]?=some (cell j m,ty,o)∧acc.ks[i]?=some (cell s m,[]):=by
   intro acc mp hA j s m0 m hm b_;obtain ⟨-,_,_,_,_,_,-,-,-,-,-,-,-,q⟩:=hA.boxes j s m0 hm;exact q m b_
  split
  ·split
   ·rename_i az
    refine tY hG h hp _ _ args 0 pq fun acc mp hA hl hb=>?_
    refine sB (f:=f) hG h g_ f_ hi hp p_ (tj E_ bd).1 (tj E_ bd).2 (fun hh=>wO ho hc rfl hh) (cal:=.f f) (fun _ q=>q) hA (fun d hd=>by rw [az] at hd;cases hd) (fun _=>⟨?_,cG hA,.inl ⟨rfl,?_⟩⟩) (fun _ _ q=>by cases q) ?_
    ·intro i k ty b hi;exact aG hA i hi
    ·cases hs:acc.sh with
     | nil=>rfl
     | cons a r =>
      obtain ⟨k,ty,b⟩:=a;obtain ⟨j',s,m0,m,-,-,rfl,-⟩:=hA.backs.2 0 k ty b (by rw [hs];rfl);rfl
    ·cases hk:uM C [] ((look C.modes f).getD sJ) with
     | false=>exact .inl (hl hk)
     | true =>
      right
      intro i k ty b hi;rw [hb (v6 hk).2] at hi;simp at hi
   ·refine pI _ _ pq fun d hd hn hv d_=>?_
    refine tY hG h hp _ _ args 0 pq fun acc mp hA hl hb=>?_
    refine sB (f:=f) hG h g_ f_ hi hp p_ (tj E_ bd).1 (tj E_ bd).2 (fun hh=>wO ho hc rfl hh) (cal:=.f f) (fun _ q=>q) hA (fun d' bN=>by
     rw [hd] at bN;simp only [WJ] at bN;subst bN;exact ⟨by rw [f_];exact hn,d_⟩) (fun _=>⟨?_,cG hA,.inl ⟨rfl,?_⟩⟩) (fun _ _ q=>by cases q) ?_
    ·intro i k ty b hi;exact aG hA i hi
    ·cases hs:acc.sh with
     | nil=>rfl
     | cons a r =>
      obtain ⟨k,ty,b⟩:=a;obtain ⟨j',s,m0,m,-,-,rfl,-⟩:=hA.backs.2 0 k ty b (by rw [hs];rfl);rfl
    ·cases hk:uM C [] ((look C.modes f).getD sJ) with
     | false=>exact .inl (hl hk)
     | true =>
      right
      intro i k ty b hi;rw [hb (v6 hk).2] at hi;simp at hi
  ·rename_i r
   refine pI _ _ pq fun d hd hn hv d_=>?_
   refine tY hG h hp _ _ args 0 pq fun acc mp hA hl hb=>?_
   refine sB (f:=f) hG h g_ f_ hi hp p_ (tj E_ bd).1 (tj E_ bd).2 (fun hh=>wO ho hc rfl hh) (cal:=.f f) (fun _ q=>q) hA (fun d' bN=>by
    rw [hd] at bN;simp only [WJ] at bN;subst bN;exact ⟨by rw [f_];exact hn,d_⟩) (fun _=>⟨?_,?_,.inl ⟨rfl,rfl⟩⟩) (fun _ _ q=>by cases q) ?_
   ·intro i k ty b hi
    cases i with
    | zero =>
     simp only [WT,WJ,WK] at hi;exact ⟨pp d,p,rfl,.inr (.inl ⟨d,hd,hi.1.symm,rfl,rfl,rfl⟩)⟩
    | succ i =>
     rw [WR] at hi ⊢;exact aG hA i hi
   ·intro j s m0 m hm b_
    obtain ⟨i,ty,b,q1,q2⟩:=cG hA j s m0 m hm b_;exact ⟨i+1,ty,b,by simpa using q1,by simpa using q2⟩
   ·cases hk:uM C [r] ((look C.modes f).getD sJ) with
    | false=>exact .inl (hl hk)
    | true =>
     right
     obtain ⟨q1,q2⟩:=v6 hk;intro i k ty b hi;rw [hb q2] at hi
     cases i with
     | zero =>
      simp only [WT,WJ,WK] at hi;rw [←hi.2.1];exact Ax [r] q1 r (by simp)
     | succ i=>simp at hi
  ·rename_i jj fu
   refine pI _ _ pq fun d hd hn hv d_=>?_
   refine tY hG h hp _ _ args 0 pq fun acc mp hA hl hb=>?_
   obtain ⟨l1,l2,l3⟩:=x9 args.length d p rs 0 ((look C.modes f).getD sJ).own;refine sB (f:=f) hG h g_ f_ hi hp p_ (tj E_ bd).1 (tj E_ bd).2 (fun hh=>wO ho hc rfl hh) (cal:=.f f) (fun _ q=>q) hA (fun d' bN=>by
    rw [hd] at bN;simp only [WJ] at bN;subst bN;exact ⟨by rw [f_];exact hn,d_⟩) (fun _=>⟨?_,?_,.inr ⟨d,i+1,hd,rfl,?_⟩⟩) (fun _ _ q=>by simp at q;exact q.2.symm) ?_
   ·intro i k ty b hi
    by_cases b_:i<rs.length
    ·rw [Xr (by omega)] at hi ⊢
     obtain ⟨q1,-,q3⟩:=l3 i k ty b hi;exact ⟨_,_,q3,.inr (.inr ⟨d,_,_,hd,q1,rfl,rfl,rfl⟩)⟩
    ·rw [Xf (by omega)] at hi ⊢
     rw [l1] at hi;rw [l2];exact aG hA _ hi
   ·intro j s m0 m hm b_
    obtain ⟨i,ty,b,q1,q2⟩:=cG hA j s m0 m hm b_;exact ⟨rs.length+i,ty,b,by rw [Xf (by omega),l1,show rs.length+i-rs.length=i by omega];exact q1,by rw [Xf (by omega),l2,show rs.length+i-rs.length=i by omega];exact q2⟩
   ·cases rs with
    | nil=>exact absurd rfl jj
    | cons r rs=>rfl
   ·cases hk:uM C rs ((look C.modes f).getD sJ) with
    | false=>exact .inl (hl hk)
    | true =>
     right
     obtain ⟨q1,q2⟩:=v6 hk;intro i k ty b hi;rw [hb q2,XD] at hi;obtain ⟨-,q3,-⟩:=l3 i k ty b hi;exact Ax rs q1 ty (XR q3)
omit hG h g_ f_ hi hp p_ in
theorem ArgsP.append {O:Nat→Prop} {j:Nat} {args:List (Operand×TypeId)} {acc:Acc} {mp:KMap} (hA:ArgsP C tm w O σ γ j args acc mp) {args2:List (Operand×TypeId)} {as2:List Arg}
  (h2:ArgsP C tm w O σ γ (j+args.length) args2 { Acc.nil with args:=as2 } []):ArgsP C tm w O σ γ j (args++args2) { acc with args:=acc.args++as2 } mp:=by
 induction hA with
 | nil j=>exact h2
 | t j x ty r acc mp c y hV hr ih=>exact .t j x ty _ _ mp c y hV (ih (by rw [W4] at h2;rw [show j+1+r.length=j+(r.length+1) by omega];exact h2))
 | pl j x ty r acc mp c y hV hr ih=>exact .pl j x ty _ _ mp c y hV (ih (by rw [W4] at h2;rw [show j+1+r.length=j+(r.length+1) by omega];exact h2))
 | frz j x ty r acc mp c y k e hf hV hr ih=>exact .frz j x ty _ _ mp c y k e hf hV (ih (by rw [W4] at h2;rw [show j+1+r.length=j+(r.length+1) by omega];exact h2))
 | lend j x ty r acc mp c y k hV hr ih=>exact .lend j x ty _ _ mp c y k hV (ih (by rw [W4] at h2;rw [show j+1+r.length=j+(r.length+1) by omega];exact h2))
 | lends j x ty r acc mp c y k hV hr ih=>exact .lends j x ty _ _ mp c y k hV (ih (by rw [W4] at h2;rw [show j+1+r.length=j+(r.length+1) by omega];exact h2))
 | own j x ty r acc mp c xs k hk hO hr ih=>exact .own j x ty _ _ mp c xs k hk hO (ih (by rw [W4] at h2;rw [show j+1+r.length=j+(r.length+1) by omega];exact h2))
 | ownNil j x ty r acc mp c xs hO hr ih=>exact .ownNil j x ty _ _ mp c xs hO (ih (by rw [W4] at h2;rw [show j+1+r.length=j+(r.length+1) by omega];exact h2))
 | box j x ty r acc mp s c n tag b as_ sh ks hs hb hv hl hc bc bh dA hr ih=>exact .box j x ty _ _ mp s c n tag b as_ sh ks hs hb hv hl hc bc bh dA (ih (by rw [W4] at h2;rw [show j+1+r.length=j+(r.length+1) by omega];exact h2))
omit hG h g_ f_ hi hp p_ in
theorem Jk {O:Nat→Prop}:∀(xs:List T) (vs:List Value) (j:Nat),vs.length=xs.length→(∀(i:Nat) x v,xs[i]?=some x→vs[i]?=some v→∃c y a,x=.e c y∧v=.pointer (some a)∧At C.tab w O c a y) →
  ArgsP C tm w O σ γ j (vs.map fun v=>(Operand.const v,0)) { Acc.nil with args:=xs.map F5 } []:=by
 intro xs
 induction xs with
 | nil =>
  intro vs j hl _
  cases vs with
  | nil=>exact .nil j
  | cons=>simp at hl
 | cons x xs ih =>
  intro vs j hl hx
  cases vs with
  | nil=>simp at hl
  | cons v vs =>
   obtain ⟨c,y,a,rfl,rfl,im⟩:=hx 0 x v rfl rfl;exact .pl j _ 0 _ _ [] c y ⟨a,rfl,im⟩ (ih vs (j+1) (by simpa using hl) fun i x v iq nL=>hx (i+1) x v (by simpa using iq) (by simpa using nL))
omit hG h g_ f_ hi hp p_ in
theorem WG {O:Nat→Prop} {c:TypeId} {ti:TI} {v:Value} {y:T} (h:C.tab.at c=some (c,ti)) (hk:ti.k=.fn) (hv:V C.tab w O c v y) :
  y=.z∨∃f xs caps,y=.f f xs∧v=.func (.func f) #[] caps∧caps.size=xs.length∧∀(i:Nat) x u,xs[i]?=some x→caps[i]?=some u→∃c y a,x=.e c y∧u=.pointer (some a)∧At C.tab w O c a y:=by
 obtain ⟨hl,-,-⟩:=sG h (by simp [TI.isS,hk]) hv
 cases hl with
 | fn h' e_=>exact .inl rfl
 | @fnc _ _ f xs caps h' e_ hn ad ts tys tis vs hx kX cW =>
  refine .inr ⟨f,xs,caps,rfl,rfl,hn,fun i x u iq ir=>?_⟩;obtain ⟨q1,q2,q3,q4,q5,q6,q7⟩:=hx i x iq;rw [q2] at ir;simp only [WJ] at ir;subst ir;have b_:=(WQ.1 iq).1;exact ⟨_,_,ad i,q1,rfl,tis i,q3,q4,q5,q7,fun n y ty hy ht=>⟨_,kX i n y b_ hy,cW i n y ty b_ hy ht⟩⟩
 | int h' e_=>have:=pu h h';simp only [WK,W5] at this;subst this;rw [hk] at e_;cases e_
 | bool h' e_=>have:=pu h h';simp only [WK,W5] at this;subst this;rw [hk] at e_;cases e_
 | str h' e_=>have:=pu h h';simp only [WK,W5] at this;subst this;rw [hk] at e_;cases e_
 | nil h' e_=>have:=pu h h';simp only [WK,W5] at this;subst this;rw [hk] at e_;cases e_
 | sl h' e_=>have:=pu h h';simp only [WK,W5] at this;subst this;rw [hk] at e_;cases e_
 | ptr h' e_=>have:=pu h h';simp only [WK,W5] at this;subst this;rw [hk] at e_;cases e_
 | ifc h' e_=>have:=pu h h';simp only [WK,W5] at this;subst this;rw [hk] at e_;cases e_
omit hG h g_ f_ hi hp p_ in
theorem NH {o:Oper} {c:Call} {f:FuncId} {s:Nat} {caps:Array Value} {K:Act→World→Prop} {Q:Exit→Act→World→Prop} (ho:o.op=.call c) (hc:c.callee=.value (.tmp s)) (hs:ev tm (.tmp s)=.func (.func f) #[] caps)
  (h:CallsF P f (c.args.map (Act.eval ⟨tm,[]⟩)++caps) w fun v w'=>K (Act.put ⟨tm,[]⟩ o.dst v) w'):o.wp P ⟨tm,[]⟩ w K Q:=by
 have ay:(execOp (Act.eval ⟨tm,[]⟩) o).run P w=(callFunc f (c.args.map (Act.eval ⟨tm,[]⟩)++caps)).run P w:=by
  unfold ev at hs;simp [execOp,ho,resolve,hc,hs,Deferred.ofValue,invoke]
 unfold Oper.wp;rw [ay];unfold CallsF at h;split at h
 ·rename_i g as_ w1 he
  rw [he]
  show Calls P g as_ w1 _
  refine Calls.mono h ?_;rintro e w2 ⟨v,rfl,hr⟩;exact hr
 ·rename_i v w1 he
  rw [he];exact h
 ·exact h.elim
omit hG h g_ f_ hi hp p_ in
theorem NG {o:Oper} {c:Call} {f:FuncId} {s:Nat} {v0:Value} {K:Act→World→Prop} {Q:Exit→Act→World→Prop} (ho:o.op=.call c) (hc:c.callee=.value (.tmp s)) (hs:ev tm (.tmp s)=.func (.func f) #[v0] #[])
  (h:CallsF P f (#[v0]++c.args.map (Act.eval ⟨tm,[]⟩)) w fun v w'=>K (Act.put ⟨tm,[]⟩ o.dst v) w'):o.wp P ⟨tm,[]⟩ w K Q:=by
 have ay:(execOp (Act.eval ⟨tm,[]⟩) o).run P w=(callFunc f (#[v0]++c.args.map (Act.eval ⟨tm,[]⟩))).run P w:=by
  unfold ev at hs;simp [execOp,ho,resolve,hc,hs,Deferred.ofValue,invoke]
 unfold Oper.wp;rw [ay];unfold CallsF at h;split at h
 ·rename_i g as_ w1 he
  rw [he]
  show Calls P g as_ w1 _
  refine Calls.mono h ?_;rintro e w2 ⟨v,rfl,hr⟩;exact hr
 ·rename_i v w1 he
  rw [he];exact h
 ·exact h.elim
theorem Ds {c:Call} {s0 g s b:Nat} {cB:TypeId} {tag n:Nat} {args:List (Operand×TypeId)} (ho:o.op=.call c) (hc:c.callee=.value (.tmp s0)) (E_:args=uW c.args.toList c.argTypes.toList) (bd:args.length=c.args.size)
  (cO:ev tm (.tmp s0)=.func (.func g) #[.pointer (some ⟨b,0,none⟩)] #[]) (hs:σ.get (pp s)=some ⟨[],.box cB tag n⟩) (hb:γ (pp s)=some b) :
  Sound P C fr tm w σ D i o p K Q ((Ji C i p o g s cB n args).run σ):=by
 unfold Ji;split
 ·rename_i ps r1 r2 rs m kW hm
  split
  ·rename_i flags dI
   refine pI _ _ pq fun d hd hn _ d_=>?_
   refine yx pq fun as_ sh ks h1 h2 h3 h4 h5=>?_
   refine tY hG h (p:=[]) trivial _ _ args 1 pq fun acc mp hA hl bo=>?_
   have hv:=tj (tm:=tm) E_ bd;have iu:ArgsP C tm w (Ob fr γ) σ γ 0 ((Operand.const (.pointer (some ⟨b,0,none⟩)),0)::args) ((acc.arg (.box cB n as_)).box 0 s n sh ks) ((pp 0,pp s)::(wS 0 s 0 n++mp)) :=
    .box 0 _ 0 args acc mp s cB n tag b as_ sh ks hs hb rfl h1 h2 h3 h4 h5 hA
   have aN:((acc.arg (.box cB n as_)).box 0 s n sh ks).ln=[]:=hl rfl
   generalize (acc.arg (.box cB n as_)).box 0 s n sh ks=acc2 at iu aN
   obtain ⟨l1,l2,l3⟩:=x9 (args.length+1) d [] (r1::r2::rs) 0 m.own;refine sB (f:=g) (vals:=#[.pointer (some ⟨b,0,none⟩)]++c.args.map (Act.eval ⟨tm,[]⟩)) (args:=(Operand.const (.pointer (some ⟨b,0,none⟩)),0)::args) (p:=[]) hG h g_ f_ hi hp p_ ?_ ?_ (fun hh=>NG ho hc cO hh) (cal:=.f g) (fun _ q=>q) iu (fun d' bN=>by
    rw [hd] at bN;simp only [WJ] at bN;subst bN;exact ⟨by rw [f_];exact hn,d_⟩) (fun _=>⟨?_,?_,.inr ⟨d,i+1,hd,rfl,?_⟩⟩) (fun _ _ q=>by simp at q;exact q.2.symm) (.inl aN)
   ·simp only [ZA,hv.1,W4,ZB,YH];omega
   ·intro j x ty hj
    cases j with
    | zero =>
     simp only [WT,WJ,WK] at hj;rw [←hj.1,YG (by simp)];rfl
    | succ j =>
     simp only [WR] at hj
     have:=hv.2 j x ty hj
     rw [Array.getElem?_append_right (by simp)];simpa using this
   ·intro i k ty b hi
    by_cases b_:i<(r1::r2::rs).length
    ·rw [Xr (by omega)] at hi ⊢
     obtain ⟨q1,-,q3⟩:=l3 i k ty b hi;exact ⟨_,_,q3,.inr (.inr ⟨d,_,_,hd,q1,rfl,rfl,rfl⟩)⟩
    ·rw [Xf (by omega)] at hi ⊢
     rw [l1] at hi;rw [l2];obtain ⟨j',s,m0,m,q1,q2,q3,q4⟩:=iu.backs.2 _ k ty b hi;exact ⟨_,_,q4,.inl ⟨j',s,m0,m,q1,q2,q3,rfl,rfl⟩⟩
   ·intro j s m0 m hm b_
    obtain ⟨-,_,_,_,_,_,-,-,-,-,-,-,-,q⟩:=iu.boxes j s m0 hm;obtain ⟨i,ty,b,q1,q2⟩:=q m b_;exact ⟨(r1::r2::rs).length+i,ty,b,by rw [Xf (by omega),l1,show (r1::r2::rs).length+i-(r1::r2::rs).length=i by omega];exact q1,by rw [Xf (by omega),l2,show (r1::r2::rs).length+i-(r1::r2::rs).length=i by omega];exact q2⟩
   ·rfl
  ·exact pq
 ·exact pq
theorem Dt {c:Call} {s:Nat} {args:List (Operand×TypeId)} (ho:o.op=.call c) (hc:c.callee=.value (.tmp s)) (E_:args=uW c.args.toList c.argTypes.toList) (bd:args.length=c.args.size) :
  Sound P C fr tm w σ D i o p K Q ((Jj C i p o (.tmp s) args).run σ):=by
 unfold Jj;refine qB hG h p hp (.tmp s) 0 pq fun ko a hx=>?_
 have main:∀{cf:TypeId} {v:T},V C.tab w (Ob fr γ) cf (ev tm (.tmp s)) v→Sound P C fr tm w σ D i o p K Q (((match C.kd cf with
   | .fn=>match C.tab.at o.type with
    | some (r,_)=>qy C o.dst p fun d=>uk C sJ p (uM C [r] sJ) 0 args fun acc =>
      wT i (.v v) (acc.Dc v.caps) [] [(pp (args.length+v.caps.length),r,false)] [(pp d,p)]
    | none=>pP
   | _=>pP):R).run σ):=by
  intro cf v hV;split
  ·rename_i hk
   split
   ·rename_i r tr hr
    refine pI _ _ pq fun d hd hn _ d_=>?_
    refine tY hG h hp _ _ args 0 pq fun acc mp hA hl hb=>?_
    obtain ⟨c',ti,h1,h2⟩:=vm hk (by simp);obtain ⟨t2,h3,-⟩:=id hV
    have:=pu h1 h3
    simp only [WK] at this;obtain ⟨rfl,rfl⟩:=this
    rcases WG h1 h2 hV with rfl | ⟨f,xs,caps,rfl,m_,mF,B_⟩
    ·unfold wT
     split
     ·intro hW
      obtain ⟨ys,ck,cF,-⟩:=Cy.1 hW;have hf:=wV cF hp;exact absurd hf.1 (by simp [T.isF])
     ·exact pq
    ·have iu:=hA.append (args2:=caps.toList.map fun v=>(Operand.const v,0)) (as2:=xs.map F5) (Jk xs caps.toList _ (by simpa using mF) fun i x u iq ir=>B_ i x u iq (by rw [Xa] at ir;exact ir))
     have kY:acc.sh=[]:=hb rfl;have aq:=(tj (tm:=tm) E_ bd).1;have af:=(tj (tm:=tm) E_ bd).2;refine sB (f:=f) (vals:=c.args.map (Act.eval ⟨tm,[]⟩)++caps) (args:=args++caps.toList.map fun v=>(Operand.const v,0)) (acc:=acc.Dc xs) (mp:=mp) hG h g_ f_ hi hp p_ ?_ ?_ (fun hh=>NH ho hc m_ hh) ?_ iu ?_ ?_ (fun _ _ q=>by cases q) ?_
     ·simp [aq]
     ·intro i x ty hx
      by_cases b_:i<args.length
      ·rw [Xr b_] at hx
       rw [YG (by omega)];exact af i x ty hx
      ·rw [Xf (by omega)] at hx
       rw [Array.getElem?_append_right (by omega),aq];rw [Xs] at hx;obtain ⟨u,hu,he⟩:=YN.1 hx;simp only [WK] at he;rw [←he.1];rw [Xa] at hu;exact hu
     ·intro ys hh
      exact hh.2
     ·intro d' bN
      rw [hd] at bN;simp only [WJ] at bN;subst bN;exact ⟨by rw [f_];exact hn,d_⟩
     ·intro _
      refine ⟨fun i k ty b hi=>?_,fun j s m0 m hm b_=>?_,.inl ⟨rfl,rfl⟩⟩
      ·cases i with
       | zero =>
        simp only [WT,WJ,WK] at hi;refine ⟨pp d,p,rfl,.inr (.inl ⟨d,hd,?_,rfl,rfl,rfl⟩)⟩;rw [←hi.1,WN,Xk,show caps.toList.length=xs.length from mF];rfl
       | succ i=>simp at hi
      ·obtain ⟨-,_,_,_,_,_,-,-,-,-,-,-,-,q⟩:=hA.boxes j s m0 hm
       obtain ⟨i2,ty2,o2,q1,-⟩:=q m b_;rw [kY] at q1;simp at q1
     ·cases mG:uM C [r] sJ with
      | false=>exact .inl (hl mG)
      | true =>
       right
       obtain ⟨q1,q2⟩:=v6 mG;intro i k ty b hi
       cases i with
       | zero =>
        simp only [WT,WJ,WK] at hi;rw [←hi.2.1];exact Ax [r] q1 r (by simp)
       | succ i=>simp at hi
   ·exact pq
  ·exact pq
 cases hx with
 | const c y _ hV=>exact main hV
 | nil=>exact pq
 | tmp s' e hx he y_ j_ =>
  cases h_:e.av with
  | t c y =>
   rw [h_] at j_;exact main j_
  | ptr s1 tag c1 =>
   rw [h_] at j_;simp only;split
   ·rename_i P_
    have P_:=YS P_;refine s9 s1 tag pq fun cB n aa=>?_
    obtain ⟨b,hb,ah⟩:=j_ cB n aa;rw [show c1=Df+(c1-Df) by omega,GM] at ah;exact Ds hG h g_ f_ hi hp p_ ho hc E_ bd ah aa hb
   ·exact pq
  | _=>exact pq
end
section
variable {P:Program} {C:Ctx} {fr:Fr} {tm:Array Value} {w:World} {σ:St} {γ:Key→Option Nat} {D:Nat→Prop}
theorem Rel.QL (hG:Good P C.tab) (h:Rel C.tab fr tm w σ γ) (g_:Wf C D σ) {d:Nat} (hd:d<tm.size) {cr n:Nat} {cs:Array Value} {ety:TypeId}
  (dh:σ.get (pp d)=none) (aJ:cs.size=n) :
  ∃γ',γ' (pp d)=some w.heap.size∧Rel C.tab fr (tm.setIfInBounds d (.pointer (some ⟨w.heap.size,0,none⟩))) (w.alloc (.cells cs ety)) (σ.puts ((pp d,top (.box cr 0 n))::qd d 0 (List.replicate n .u))) γ' ∧
   Wf C D (σ.puts ((pp d,top (.box cr 0 n))::qd d 0 (List.replicate n .u))):=by
 have U_:σ.get (pp d)=none∨∃c tag,σ.get (pp d)=some ⟨[],.box c tag n⟩:=.inl dh;obtain ⟨as_,gC⟩:∃as_,as_=List.replicate n AV.u:=⟨_,rfl⟩;have i_:as_.length=n:=by rw [gC];simp
 have dc:∀(j:Nat) a,as_[j]?=some a→a=.u∧∃u,cs[j]?=some u:=by
  intro j a ha;rw [gC,YK] at ha;split at ha
  ·rename_i hj
   exact ⟨(W3 ha).symm,_,W6 (show j<cs.size by omega)⟩
  ·cases ha
 rw [←gC]
 let W:Key→Prop:=fun k=>k=pp d∨∃j,j<n∧k=cell d j
 have aF:∀k,(σ.puts ((pp d,top (.box cr 0 n))::qd d 0 as_)).get k=((σ.put (pp d) (top (.box cr 0 n))).puts (qd d 0 as_)).get k:=fun _=>rfl;obtain ⟨g1,g2⟩:=u7 d as_ 0 (σ.put (pp d) (top (.box cr 0 n)));simp only [WV] at g1 g2;have eX:(σ.puts ((pp d,top (.box cr 0 n))::qd d 0 as_)).get (pp d)=some (top (.box cr 0 n)):=by
  rw [aF,g2 _ fun j _=>px,pB]
 have q_:∀k,¬ W k→(σ.puts ((pp d,top (.box cr 0 n))::qd d 0 as_)).get k=σ.get k:=by
  intro k hk;rw [aF,g2 _ fun j hj he=>hk (.inr ⟨j,by omega,he⟩),pD fun e=>hk (.inl e)]
 have eY:∀k e,W k→(σ.puts ((pp d,top (.box cr 0 n))::qd d 0 as_)).get k=some e→(k=pp d∧e=top (.box cr 0 n))∨∃j a,k=cell d j∧as_[j]?=some a∧e=top a:=by
  rintro k e (rfl | ⟨j,hj,rfl⟩) he
  ·rw [eX] at he
   exact .inl ⟨rfl,(W3 he).symm⟩
  ·have e1:=WL (show j<as_.length by omega)
   rw [aF,g1 j _ e1] at he;exact .inr ⟨j,_,rfl,e1,(W3 he).symm⟩
 have df:∀m e,σ.get (cell d m)=some e→m<n:=by
  intro m e he;obtain ⟨c,tag,m',hb⟩:=h.cel d m e he;have N_:∃c tag,σ.get (pp d)=some ⟨[],.box c tag n⟩:=by
   rcases U_ with q | q
   ·rw [q] at hb;cases hb
   ·exact q
  obtain ⟨c1,t1,bk⟩:=N_;obtain ⟨v,hv,hr,-⟩:=h.ent _ _ bk;obtain ⟨b,cs0,ety0,k1,-,k3,k4⟩:=hr trivial;obtain ⟨v2,af,-⟩:=h.ent _ _ he;simp only [pJ,cell,k1,Xl] at af;rw [pM k3] at af;rw [←k4];exact (Yg.1 af).1
 have hbox_ne:∀{s:Nat},s≠d→¬ W (pp s):=by
  rintro s hs (q | ⟨j,-,q⟩)
  ·exact hs (pZ.1 q)
  ·exact px q
 have bJ:∀t j,¬ W (comp t j):=by
  rintro t j (q | ⟨j',-,he⟩)
  ·exact pK q.symm
  ·exact pS he.symm
 have bO:∀q m,σ.get (pp d)≠some ⟨q,.tup m⟩:=by
  intro q m hh
  rcases U_ with q' | ⟨c,tag,q'⟩<;>rw [q'] at hh<;>cases hh
 have V_:=heap_alloc_new w (.cells cs ety);refine ⟨rN (qA W γ) (pp d) (some w.heap.size),qg _ _ _,Rel.upd hG h g_ W (fun _=>False) rfl rfl rfl (by rw [pY];omega) (fun b hb _=>heap_alloc_old w _ b hb) (fun _ _ q=>q.elim) ?_ ?_ ?_ q_ ?_ ?_ ?_ ?_ ?_ ?_ (fun tag ho=>ho) ?_ ?_ ?_ ?_⟩
 ·intro k hk
  rw [qa _ _ fun q=>hk (.inl q),rq hk]
 ·intro k b hk hb
  by_cases h1:k=pp d
  ·subst h1
   rw [qg] at hb;simp only [WJ] at hb;subst hb;exact .inr ⟨WU _,by rw [pY];omega⟩
  ·rw [qa _ _ h1,sH hk] at hb
   cases hb
 ·intro k k' b hk e_ hb s_
  have one:∀k,W k→rN (qA W γ) (pp d) (some w.heap.size) k=some b→k=pp d:=by
   intro k hk hb
   by_cases h1:k=pp d
   ·exact h1
   ·rw [qa _ _ h1,sH hk] at hb
    cases hb
  rw [one k hk hb,one k' e_ s_]
 ·intro k e hk he
  refine rp (fun ht=>?_) (fun ht=>?_)
  ·have:d≠k.a:=by
    intro q
    by_cases h0:k.tag=0
    ·exact hk (.inl (by rw [sT h he h0,q]))
    ·obtain ⟨v0,v_,-⟩:=h.ent k e he
     have h2:k.tag=2:=by
      obtain ⟨t,a,b⟩:=k;unfold pJ at v_
      match t with
      | 0=>exact absurd rfl h0
      | 1=>exact absurd rfl ht
      | 2=>rfl
      | n+3=>cases v_
     obtain ⟨-,q',m,hh⟩:=uq h he h2;rw [←q] at hh;exact bO _ _ hh
   simp [Xp,this]
  ·obtain ⟨aD,c,tag,m,hs⟩:=rC h he ht
   have t_:k.a≠d:=by
    intro q;rw [aD,q] at he;exact hk (.inr ⟨k.b,df _ _ he,by rw [←q];exact aD⟩)
   refine ⟨by rw [qa _ _ fun q=>t_ (pZ.1 q),rq (hbox_ne t_)],fun b hb=>sk ?_⟩;exact heap_alloc_old w _ b (h.blk _ b hb).1
 ·intro s m e he
  by_cases hs:s=d
  ·subst hs
   exact ⟨cr,0,n,eX⟩
  ·have hk:¬ W (cell s m):=by
    rintro (q | ⟨j,-,q⟩)
    ·exact px q.symm
    ·exact hs (rS.1 q).1
   rw [q_ _ hk] at he;obtain ⟨c,tag,m',hb⟩:=h.cel s m e he;exact ⟨c,tag,m',by rw [q_ _ (hbox_ne hs)];exact hb⟩
 ·intro s j e he
  rw [q_ _ (bJ s j)] at he;obtain ⟨q,m,hb⟩:=h.cmp s j e he;have hs:s≠d:=by
   rintro rfl;exact bO _ _ hb
  exact ⟨q,m,by rw [q_ _ (hbox_ne hs)];exact hb⟩
 ·rintro s q c x hs hh (hk | ⟨j,-,hk⟩)
  ·have:=pZ.1 hk
   subst this
   rcases U_ with q' | ⟨c',tag,q'⟩<;>rw [q'] at hh<;>cases hh
  ·exact px hk
 ·rintro k (rfl | ⟨j,hj,rfl⟩) _
  ·rw [eX];simp
  ·rw [aF,g1 j _ (WL (show j<as_.length by omega))]
   simp
 ·intro k e tag hk he ht
  rcases eY k e hk he with ⟨-,rfl⟩ | ⟨j,a,-,ha,rfl⟩
  ·simp only [top,AV.re,WJ] at ht
   subst ht;exact .inl rfl
  ·obtain ⟨rfl,-⟩:=dc j a ha
   cases ht
 ·intro k tag hk t_ ho
  exfalso
  rcases hk with rfl | ⟨j,-,rfl⟩
  ·exact t_ dh
  ·cases hc:σ.get (cell d j) with
   | none=>exact t_ hc
   | some e =>
    obtain ⟨c,tag',m',hb⟩:=h.cel d j e hc;rw [dh] at hb;cases hb
 ·intro k e h0 tag hk he hh
  rcases eY k e hk he with ⟨-,rfl⟩ | ⟨j,a,-,ha,rfl⟩
  ·cases hh
  ·obtain ⟨rfl,-⟩:=dc j a ha
   cases hh
 ·intro k e s b hk he hm
  rcases eY k e hk he with ⟨-,rfl⟩ | ⟨j,a,-,ha,rfl⟩<;>simp [top] at hm
 ·intro A_ k e hk he
  rcases eY k e hk he with ⟨rfl,rfl⟩ | ⟨j,a,rfl,ha,rfl⟩
  ·exact ⟨.pointer (some ⟨w.heap.size,0,none⟩),by rw [pz];simp [hd],fun _=>⟨w.heap.size,cs,ety,qg _ _ _,rfl,V_,aJ⟩,fun q=>absurd trivial q⟩
  ·have m_:∀u,cs[j]?=some u→pJ (tm.setIfInBounds d (.pointer (some ⟨w.heap.size,0,none⟩))) (w.alloc (.cells cs ety)) (rN (qA W γ) (pp d) (some w.heap.size)) (cell d j)=some u:=by
    intro u hu;simp only [pJ,cell];rw [show rN (qA W γ) (pp d) (some w.heap.size) (pp d)=some w.heap.size from qg _ _ _];simp only [Xl];rw [pM V_];exact hu
   obtain ⟨rfl,u,hu⟩:=dc j a ha;exact ⟨u,m_ u hu,fun _=>trivial,fun q=>absurd trivial q⟩
theorem Am (s:Nat):∀(n c:Nat),zi s c n=qd s c (List.replicate n .u):=by
 intro n
 induction n with
 | zero=>intro c;rfl
 | succ n ih=>intro c;rw [Zr];simp only [zi,qd,ih]
variable (hG:Good P C.tab) (h:Rel C.tab fr tm w σ γ) (g_:Wf C D σ) (f_:tm.size=C.nt) {i:Nat} (hi:¬ D i) {o:Oper} {p:Path} {K:St→Prop} {Q:Exit→Act→World→Prop}
include hG h g_ f_ hi
theorem Hr {ty:TypeId} {v:Operand} (ho:o.op=.box ty v):Sound P C fr tm w σ D i o p K Q ((UA C i p o ty v).run σ):=by
 unfold UA;refine Cg (fun t tag' hv he=>?_) (Hu hG h g_ f_ hi ho);split
 ·rename_i d cr tr hd ap
  split
  ·rename_i hn au r_ hS
   have hn:=Xd hn;have au:=Xd au;have r_:=Xd r_;unfold NP;simp only [Rd.run]
   cases U_:σ.get (pp d) with
   | some e=>exact pq
   | none =>
    have nM:t≠d:=by
     rintro rfl;rw [U_] at he;cases he
    refine xJ pq _ _ _ fun as_ hl jX=>?_
    simp only [WV] at jX;intro hW;have ay:(execOp (Act.eval ⟨tm,[]⟩) o).run P w=.ok (.value (.pointer (some ⟨w.heap.size,0,none⟩))) (w.alloc (.cells (ev tm v).cells ty)):=by
     simp only [execOp,ho,Instr.box,newVar,newRow];rfl
    have gD:∃u,pJ tm w γ (fld t tr.cells 0)=some u:=by
     obtain ⟨⟨o0,a0⟩,bC⟩:∃x,as_[0]?=some x:=⟨_,WL (by omega)⟩
     rcases jX 0 o0 a0 bC with ⟨ty',y,-,-,hg,-⟩ | ⟨c0,t6,xs,-,-,hg⟩ <;>
     ·obtain ⟨u,hu,-⟩:=h.ent _ _ hg
      exact ⟨u,hu⟩
    obtain ⟨u0,kE⟩:=gD;obtain ⟨vs,bm,dG,-⟩:=yH (by omega) kE;have gl:ev tm v=.agg vs:=by
     subst hv;simp only [ev,Act.eval,XK,bm,XF]
    have cI:(ev tm v).cells=vs:=by rw [gl];rfl
    rw [cI] at ay;obtain ⟨γ1,g1,r1,r2⟩:=Rel.QL (cr:=cr) (n:=tr.cells) (cs:=vs) (ety:=ty) hG h g_ (d:=d) (by rw [f_];exact hn) U_ dG;rw [←Am] at r1 r2;have aF:∀k,(∀j,k≠cell d j)→k≠pp d→(σ.puts ((pp d,top (.box cr 0 tr.cells))::zi d 0 tr.cells)).get k=σ.get k:=by
     intro k h1 h2;rw [Am]
     show ((σ.put (pp d) (top (.box cr 0 tr.cells))).puts (qd d 0 (List.replicate tr.cells .u))).get k=_
     rw [(u7 d _ 0 _).2 k fun j _=>h1 _,pD h2]
    have gE:(σ.puts ((pp d,top (.box cr 0 tr.cells))::zi d 0 tr.cells)).get (pp d)=some (top (.box cr 0 tr.cells)):=by
     rw [Am]
     show ((σ.put (pp d) (top (.box cr 0 tr.cells))).puts (qd d 0 (List.replicate tr.cells .u))).get _=_
     rw [(u7 d _ 0 _).2 _ fun j _=>px,pB]
    have bE:K ((σ.puts ((pp d,top (.box cr 0 tr.cells))::zi d 0 tr.cells)).puts (su (fld t tr.cells) as_++vZ (cell d) i 0 as_)):=by
     rw [←pV];exact hW
    obtain ⟨τ,hτ⟩:∃τ,τ=σ.puts ((pp d,top (.box cr 0 tr.cells))::zi d 0 tr.cells):=⟨_,rfl⟩;obtain ⟨tm1,gF⟩:∃x,x=tm.setIfInBounds d (.pointer (some ⟨w.heap.size,0,none⟩)):=⟨_,rfl⟩;obtain ⟨w1,kZ⟩:∃x,x=w.alloc (.cells vs ty):=⟨_,rfl⟩;have V_:w1.heap[w.heap.size]?=some (.cells vs ty (0,0)):=by rw [kZ];exact heap_alloc_new w _
    have la:tm1[t]?=some (.agg vs):=by
     rw [gF,Xp,WZ (YL nM)];exact bm
    rw [←hτ] at r1 r2 gE bE;rw [←gF,←kZ] at r1;rw [←hτ] at aF;have dI:∀q,τ.get (fld t tr.cells q)=σ.get (fld t tr.cells q):=fun q=>aF _ (fun j e=>pS e.symm) (fun e=>pK e.symm);have hP:∀(j:Nat) (o:Option Nat) (a:AV),as_[j]?=some (o,a)→(∃ty y,o=none∧a=.t ty y∧τ.get (fld t tr.cells j)=some ⟨[],.t ty y⟩∧∃c tt,C.tab.at ty=some (c,tt)∧tt.isS=false) ∨
      ∃c tag xs,o=some j∧a=.own c 0 xs∧τ.get (fld t tr.cells j)=some ⟨[],.own c tag xs⟩:=by
     intro j o a hj;rw [dI];exact jX j o a hj
    clear jX;have look:∀q,q<tr.cells→∃o a,as_[q]?=some (o,a)∧∃u,pJ tm1 w1 γ1 (fld t tr.cells q)=some u∧(∀s,o=some s→s=q)∧(∀ty y,a=.t ty y→V C.tab w1 (Ob fr γ1) ty u y)∧(∀c,o=none→a=.own c 0 []→Own C.tab w1 (Ob fr γ1) c u none [])∧∀h0 tag c off len,a≠.alias h0 tag c off len:=by
     intro q hq;obtain ⟨⟨o,a⟩,bC⟩:∃x,as_[q]?=some x:=⟨_,WL (by omega)⟩;refine ⟨o,a,bC,?_⟩
     rcases hP q o a bC with ⟨ty',y,rfl,rfl,hg,c0,tt,ar,mt⟩ | ⟨c0,t6,xs,rfl,rfl,hg⟩
     ·obtain ⟨u,hu,hr,-⟩:=r1.ent _ _ hg
      exact ⟨u,hu,fun s hs=>(by cases hs),fun ty2 y2 e=>(by cases e;exact hr trivial),fun c _ e=>(by cases e),fun _ _ _ _ _ e=>(by cases e)⟩
     ·obtain ⟨u,hu,hr,-⟩:=r1.ent _ _ hg
      exact ⟨u,hu,fun s hs=>(W3 hs).symm,fun ty2 y2 e=>(by cases e),fun c e _=>(by cases e),fun _ _ _ _ _ e=>(by cases e)⟩
    have at_:∀q,q<tr.cells→∀u,pJ tm1 w1 γ1 (fld t tr.cells q)=some u→vs[q]?=some u:=by
     intro q hq u hu;obtain ⟨vs',h1,-,h3⟩:=yH (by omega) hu;rw [la] at h1;simp only [WJ,Value.agg.injEq] at h1;rw [h1];exact h3
    obtain ⟨γ2,q1,q2⟩:=Rel.bcs hG r1 r2 hi (fun k=>k=pp d) (tm' := tm1) (w' := w1) (as_ :=as_) (cell d) (fld t tr.cells) (fun k=>k.b) none rfl rfl rfl rfl
     (fun _ _=>rfl)
     (by
      rintro k rfl;exact ⟨fun q=>px,rfl,cr,0,tr.cells,gE,fun b' cs1 ety1 _ cU=>⟨cs1,cU,rfl⟩⟩)
     (fun q=>by simp [cell]) (fun q q' e=>(rS.1 e).2) (fun q _=>by simp [cell]) (fun q q' e=>by have:=(sw.1 e).2;omega)
     (fun q s' a hq=>by
      rcases hP q _ a hq with ⟨ty',y,e,-⟩ | ⟨c0,t6,xs,e,rfl,hg⟩
      ·cases e
      ·cases e;exact ⟨c0,t6,xs,hg,rfl⟩)
     (fun q a hq=>by
      rcases hP q _ a hq with ⟨ty',y,-,rfl,-⟩ | ⟨c0,t6,xs,e,-⟩
      ·exact .inl ⟨ty',y,rfl⟩
      ·cases e)
     (fun q q' s' a a' hq bD=>by
      rcases hP q _ a hq with ⟨ty',y,e,-⟩ | ⟨c0,t6,xs,e,-⟩
      ·cases e
      ·rcases hP q' _ a' bD with ⟨ty',y,e',-⟩ | ⟨c0,t6,xs,e',-⟩
       ·cases e'
       ·cases e;cases e';rfl)
     (fun d hd=>by cases hd)
     (fun γ' ez q o a hq=>by
      have b_:=(WQ.1 hq).1;obtain ⟨o',a',bD,u,hu,h1,h2,h3,h4⟩:=look q (by omega);rw [hq] at bD;simp only [WJ,WK] at bD;obtain ⟨rfl,rfl⟩:=bD;refine ⟨u,?_,fun s' bj=>by rw [h1 s' bj];exact hu,h2,h3,fun h0 tag c off len e=>absurd e (h4 h0 tag c off len)⟩;simp only [pJ,cell];rw [show γ' (pp d)=some w.heap.size by rw [ez _ rfl];exact g1];simp only [Xl];rw [pM V_];exact at_ q (by omega) u hu)
     (fun s' n' q e=>by obtain ⟨rfl,-⟩:=rS.1 e;exact ⟨cr,0,tr.cells,gE⟩)
     (fun s' j q e=>absurd e.symm pS)
     (fun γ' ez k e hk he=>by
      refine rp (fun _=>rfl) (fun ht=>?_);obtain ⟨aD,c',tag',m,aa⟩:=rC r1 he ht;exact ⟨ez _ _ aa (by simp) fun q=>px,fun b' s_=>rfl⟩)
    simp only [Gi,XD] at q1 q2;rw [gF,kZ] at q1;exact rU ay hd ⟨rfl,by simp [f_],_,_,bE,q1,q2⟩
  ·exact pq
 ·exact pq
end
section
variable {P:Program} {C:Ctx} {fr:Fr} {tm:Array Value} {w:World} {σ:St} {γ:Key→Option Nat} {D:Nat→Prop}
 (hG:Good P C.tab) (h:Rel C.tab fr tm w σ γ) (g_:Wf C D σ) (f_:tm.size=C.nt) {i:Nat} (hi:¬ D i) {o:Oper} {p:Path} (hp:σ.Holds p)
 (p_:∀s b,(s,b)∈p→qY C s=false∧∃q c x,σ.get (pp s)=some ⟨q,.t c x⟩) {K:St→Prop} {Q:Exit→Act→World→Prop}
theorem RM:∀(xs:List Operand) (ts:List TypeId),(uW xs ts).length=xs.length→(uW xs ts).map (·.1)=xs:=by
 intro xs
 induction xs with
 | nil=>intro ts _;cases ts<;>rfl
 | cons a xs ih =>
  intro ts hl
  cases ts with
  | nil=>simp [uW] at hl
  | cons t ts =>
   simp only [uW,XP,ZM,W5];exact ih ts (by simpa [uW] using hl)
theorem ym {c:Call} {k:List (Operand×TypeId)→R} {motive:qO→Prop} (c_:motive .bad) (l_:∀l,l=uW c.args.toList c.argTypes.toList→l.length=c.args.size→l.map (·.1)=c.args.toList→motive ((k l).run σ)) :
  motive ((RV c k).run σ):=by
 unfold RV;split
 ·rename_i hn
  have hn:=WO hn;exact l_ _ rfl hn (RM _ _ (by simpa using hn))
 ·exact c_
theorem RX (hG:Good P C.tab) {O:Nat→Prop} {c t0:TypeId} {ti:TI} (hc:C.tab.at t0=some (c,ti)) (hk:ti.k=.fn) {f:FuncId} {xs:List T} {caps:Array Value} (hn:caps.size=xs.length)
  (hx:∀(i:Nat) x,xs[i]?=some x→∃c y a,x=.e c y∧caps[i]?=some (.pointer (some a))∧At C.tab w O c a y):V C.tab w O c (.func (.func f) #[] caps) (.f f xs):=by
 have k_:=(hG _ _ _ hc).self;have hS:ti.isS=false:=by simp [TI.isS,hk]
 let ad:Nat→Go.Addr:=fun j=>match caps[j]? with
  | some (.pointer (some a))=>a
  | _=>default
 let ts:Nat→T:=fun j=>match xs[j]? with
  | some (.e _ y)=>y
  | _=>.u
 let tys:Nat→TypeId:=fun j=>match xs[j]? with
  | some (.e c _)=>c
  | _=>0
 let tis:Nat→TI:=fun j=>match C.tab.at (tys j) with
  | some (_,ti)=>ti
  | none=>default
 have key:∀(j:Nat) x,xs[j]?=some x→x=.e (tys j) (ts j)∧caps[j]?=some (.pointer (some (ad j)))∧At C.tab w O (tys j) (ad j) (ts j)∧C.tab.at (tys j)=some (tys j,tis j):=by
  intro j x hj;obtain ⟨c',y,a,rfl,B_,im⟩:=hx j x hj;have e1:tys j=c' := by simp only [tys,hj]
  have e2:ts j=y:=by simp only [ts,hj]
  have e3:ad j=a:=by simp only [ad,B_]
  obtain ⟨t1,q1,-⟩:=id im;have e4:tis j=t1:=by simp only [tis,e1,q1]
  rw [e1,e2,e3,e4];exact ⟨rfl,B_,im,q1⟩
 refine sn k_ hS (qz hG k_ hS) rfl rfl (.fnc k_ hk hn ad ts tys tis (fun j n=>(w.cell? ((ad j).add n)).getD undef) (fun j x hj=>?_) (fun j n y hj hy=>?_) (fun j n y ty hj hy ht=>?_))
 ·obtain ⟨q1,q2,⟨t1,q3,q4,q5,q6,-⟩,q7⟩:=key j x hj
  rw [q7] at q3;simp only [WJ,WK,W5] at q3;subst q3;exact ⟨q1,q2,q7,q4,q5,(hG _ _ _ q7).pos,q6⟩
 ·obtain ⟨q1,q2,⟨t1,q3,q4,q5,q6,q8⟩,q7⟩:=key j _ (WL hj)
  have i_:=(hG _ _ _ q3).len;have b_:=(WQ.1 hy).1;obtain ⟨u,hu,-⟩:=q8 n y _ hy (WL (by rw [i_,←q5];exact b_));rw [hu];rfl
 ·obtain ⟨q1,q2,⟨t1,q3,q4,q5,q6,q8⟩,q7⟩:=key j _ (WL hj)
  rw [q7] at q3;simp only [WJ,WK,W5] at q3;subst q3;obtain ⟨u,hu,hL⟩:=q8 n y ty hy ht;simp only [hu,XF];exact hL
include hG h g_ f_ hi hp p_
omit g_ f_ hi p_ in
theorem Hy:∀(l:List Operand) {k:List T→R} {motive:qO→Prop} (_:motive .bad)
  (_:∀xs,xs.length=l.length→(∀(i:Nat) x,xs[i]?=some x→∃c y a u,x=.e c y∧l[i]?=some u∧ev tm u=.pointer (some a)∧At C.tab w (Ob fr γ) c a y)→motive ((k xs).run σ)),motive ((LZ C p l k).run σ):=by
 intro l
 induction l with
 | nil=>intro k motive c_ l_;exact l_ [] rfl (fun i x hx=>by simp at hx)
 | cons u l ih =>
  intro k motive c_ l_;simp only [LZ];refine qB hG h p hp u 0 c_ fun ko a hx=>?_
  cases hx with
  | const=>exact c_
  | nil=>exact c_
  | tmp s e hx he y_ j_ =>
   cases h_:e.av with
   | pl c y off =>
    rw [h_] at j_
    cases off with
    | succ=>exact c_
    | zero =>
     obtain ⟨a,h1,h2⟩:=j_;refine ih c_ fun xs hl aL=>l_ (.e c y::xs) (by simp [hl]) fun i x hi=>?_
     cases i with
     | zero =>
      simp only [WT,WJ] at hi;have ha:a.add 0=a:=by simp [Addr.add]
      rw [ha] at h1;exact ⟨c,y,a,u,hi.symm,rfl,h1,h2⟩
     | succ i =>
      simp only [WR] at hi ⊢;exact aL i x hi
   | _=>exact c_
omit hi in
theorem AH {f:FuncId} {first captured:Array Operand} (ho:o.op=.makeFunc (.func f) first captured):Sound P C fr tm w σ D i o p K Q ((AG C p o f first captured).run σ):=by
 unfold AG;refine pI _ _ pq fun d hd hn _ d_=>?_
 split
 ·rename_i c ti eG ap
  split
  ·rename_i hk
   refine Hy hG h hp _ pq fun xs hl aL=>?_
   have ii:first=#[]:=by
    cases first with
    | mk l=>simp only at eG;subst eG;rfl
   have n_:(execOp (Act.eval ⟨tm,[]⟩) o).run P w=.ok (.value (.func (.func f) #[] (captured.map (Act.eval ⟨tm,[]⟩)))) w:=by
    simp [execOp,ho,Instr.makeFunc,ii]
   have hV:V C.tab w (Ob fr γ) c (.func (.func f) #[] (captured.map (Act.eval ⟨tm,[]⟩))) (.f f xs):=by
    refine RX hG ap hk (by rw [Array.size_map];simpa using hl.symm) fun i x hx=>?_
    obtain ⟨c',y,a,u,q1,q2,q3,q4⟩:=aL i x hx;refine ⟨c',y,a,q1,?_,q4⟩;rw [Xa] at q2;rw [Array.getElem?_map,q2];exact Xx some q3
   exact fun hW=>tU hG h g_ f_ hp p_ hn hd d_ n_ hV hW
  ·exact pq
 ·exact pq
theorem AT:Sound P C fr tm w σ D i o p K Q ((opR C i p o).run σ):=by
 unfold opR;split
 ·unfold Sm
  refine pI _ _ pq fun d hd hn hv d_=>?_
  refine qC _ pq fun cr tr hr=>?_
  intro hW;exact (wV hW.1 hp).elim
 split
 ·rename_i x ho
  split
  ·exact xB hG h g_ f_ hi (.inl ho)
  ·exact AL hG h g_ f_ hi hp p_ (.inl ho)
 ·rename_i x ho;exact xB hG h g_ f_ hi (.inr ho)
 ·rename_i c a b ho;exact Fz hG h g_ f_ hp p_ ho
 ·rename_i ty ho;exact Dj hG h g_ f_ hi ho
 ·rename_i ty v ho;exact Hr hG h g_ f_ hi ho
 ·rename_i ty parts ho
  split
  ·exact Hq hG h g_ f_ hi ho
  ·exact Dq hG h g_ f_ hp p_ ho
 ·rename_i ty n parts ho
  split
  ·exact yz hG h g_ f_ hi ho
  ·exact yy hG h g_ f_ hi hp p_ ho
 ·rename_i ty a ho
  split
  ·exact Fj hG h g_ f_ hi ho
  ·exact Fk hG h g_ f_ hp p_ ho
 ·rename_i ty a v ho
  split
  ·rename_i hd;exact Ep hG h g_ f_ hi ho hd
  ·exact pq
 ·rename_i x ho;exact AP hG h g_ f_ hp p_ ho
 ·rename_i op xt x y yt ho;exact Hn hG h g_ f_ hp p_ ho
 ·rename_i op xt x ho;exact Lw hG h g_ f_ hp p_ ho
 ·rename_i src dst x ho;exact ER hG h g_ f_ hp p_ ho
 ·rename_i ty l c ho;exact Fo hG h g_ f_ hi ho
 ·rename_i xt x lo cC mx ho;exact El hG h g_ f_ hp p_ ho
 ·rename_i ty x f ho;exact zv hG h g_ f_ hp p_ ho
 ·rename_i xt x ix ho;exact DL hG h g_ f_ hp p_ ho
 ·rename_i xt x ix ho;exact Iw hG h g_ f_ hp p_ ho
 ·rename_i x ix ho;exact Bz hG h g_ f_ hi hp p_ ho
 ·rename_i f first captured ho;exact AH hG h g_ f_ hp p_ ho
 ·rename_i c ho
  split
  ·rename_i f hc
   exact ym pq fun l h1 h2 _=>EJ hG h g_ f_ hi hp p_ ho hc h1 h2
  ·rename_i s hc
   exact ym pq fun l h1 h2 _=>Dt hG h g_ f_ hi hp p_ ho hc h1 h2
  ·rename_i hc
   split
   ·rename_i x xt h1 h2;exact HT hG h g_ f_ hp p_ ho hc h1 h2
   ·exact pq
  ·rename_i hc
   split
   ·rename_i s x st xt h1 h2;exact Cn hG h g_ f_ hi ho hc h1 h2
   ·exact pq
  ·rename_i hc
   exact ym pq fun l _ _ h3=>wU (isMax:=true) hG h g_ f_ hp p_ ho hc h3
  ·rename_i hc
   exact ym pq fun l _ _ h3=>wU (isMax:=false) hG h g_ f_ hp p_ ho hc h3
  ·exact pq
 ·exact pq
end
section
variable {P:Program} {C:Ctx} {fr:Fr} {tm:Array Value} {w:World} {σ:St} {γ:Key→Option Nat} {D:Nat→Prop}
theorem xS {α β:Type} (f:α→β) (r:Rd α):(HU f r).run σ=f (r.run σ):=by
 induction r with
 | ret a=>rfl
 | get k g ih=>exact ih _
theorem Hp {α β:Type} (f:α→Rd β) (r:Rd α):(IW f r).run σ=(f (r.run σ)).run σ:=by
 induction r with
 | ret a=>rfl
 | get k g ih=>exact ih _
theorem GX {p q:Path} (h:FJ p q=true):p=q:=by
 induction p generalizing q with
 | nil=>cases q<;>simp [FJ] at h ⊢
 | cons x r ih =>
  obtain ⟨j,a⟩:=x
  cases q with
  | nil=>simp [FJ] at h
  | cons y s =>
   obtain ⟨j',a'⟩:=y;simp only [FJ] at h;split at h
   ·rename_i h1 h2
    rw [WO h1,yd h2,ih h]
   ·cases h
inductive GuardR (C:Ctx) (σ:St) (D:Nat→Prop) (d:Option Nat) (p:Path):qO→Prop where
 | upd (n:Nat) (c:Option Prop) (a:AV) (hd:d=some n) (hn:n<C.nt) (d_:σ.get (pp n)=none) (R_:∀h tag,a.home=some (h,tag)→σ.get h≠none) (aM:∀tag,a.re=some tag→Old D tag) :
   GuardR C σ D d p (.upd c [(pp n,⟨p,a⟩)])
 | call (n:Nat) (tag:Nat) (f:Cal) (args:List Arg) (k:Key) (ty:TypeId) (hd:d=some n) (hn:n<C.nt) (d_:σ.get (pp n)=none) :
   GuardR C σ D d p (.call tag f args [] [(k,ty,false)] [(pp n,p)])
theorem AB (g_:Wf C D σ) (d:Option Nat) (p:Path) (r:qO):(guarded C d p r).run σ=.bad∨((guarded C d p r).run σ=r∧GuardR C σ D d p r):=by
 unfold guarded;split
 ·rename_i c k e
  refine pI (motive:=fun x=>x=.bad∨(x=.upd c [(k,e)]∧GuardR C σ D d p (.upd c [(k,e)]))) _ _ (.inl rfl) fun n hd hn hv d_=>?_
  split
  ·rename_i h1 h2
   have h1:=Key.qs.1 h1;subst h1;obtain ⟨q,a⟩:=e;have h2:=GX h2;simp only at h2;subst h2
   cases a with
   | t c' x=>exact .inr ⟨rfl,.upd n c _ hd hn d_ (fun _ _ hh=>by cases hh) (fun _ hh=>by cases hh)⟩
   | pl c' x off=>exact .inr ⟨rfl,.upd n c _ hd hn d_ (fun _ _ hh=>by cases hh) (fun _ hh=>by cases hh)⟩
   | alias h0 tag c' off len =>
    refine qn (motive:=fun x=>x=.bad∨(x=_∧_)) h0 tag (.inl rfl) fun c2 xs hh=>?_
    refine .inr ⟨rfl,.upd n c _ hd hn d_ (fun h tag hx=>?_) (fun tag' hx=>?_)⟩
    ·simp only [AV.home,WJ,WK] at hx
     rw [←hx.1,hh];simp
    ·simp only [AV.re,WJ] at hx
     subst hx;exact g_.tags _ _ tag hh rfl
   | eptr h0 tag j off =>
    refine qn (motive:=fun x=>x=.bad∨(x=_∧_)) h0 tag (.inl rfl) fun c2 xs hh=>?_
    refine .inr ⟨rfl,.upd n c _ hd hn d_ (fun h tag hx=>?_) (fun tag' hx=>?_)⟩
    ·simp only [AV.home,WJ,WK] at hx
     rw [←hx.1,hh];simp
    ·simp only [AV.re,WJ] at hx
     subst hx;exact g_.tags _ _ tag hh rfl
   | ptr s tag off =>
    refine s9 (motive:=fun x=>x=.bad∨(x=_∧_)) s tag (.inl rfl) fun c2 m hh=>?_
    refine .inr ⟨rfl,.upd n c _ hd hn d_ (fun h tag hx=>?_) (fun tag' hx=>?_)⟩
    ·simp only [AV.home,WJ,WK] at hx
     rw [←hx.1,hh];simp
    ·simp only [AV.re,WJ] at hx
     subst hx;exact g_.tags _ _ tag hh rfl
   | _=>exact .inl rfl
  ·exact .inl rfl
 ·rename_i tag f args sh k q
  refine pI (motive:=fun x=>x=.bad∨(x=.call tag f args [] [sh] [(k,q)]∧GuardR C σ D d p (.call tag f args [] [sh] [(k,q)]))) _ _ (.inl rfl) fun n hd hn hv d_=>?_
  split
  ·rename_i k1 ty h1 h2
   have h1:=Key.qs.1 h1;subst h1;have h2:=GX h2;subst h2;exact .inr ⟨rfl,.call n tag f args k1 ty hd hn d_⟩
  ·exact .inl rfl
 ·exact .inl rfl
end
section
variable {P:Program} {C:Ctx} {fr:Fr} {tm:Array Value} {w:World} {σ:St} {γ:Key→Option Nat} {D:Nat→Prop}
 (hG:Good P C.tab) (h:Rel C.tab fr tm w σ γ) (g_:Wf C D σ) (f_:tm.size=C.nt) {i:Nat} (hi:¬ D i) {o:Oper} {K:St→Prop} {Q:Exit→Act→World→Prop}
include hG h g_ f_ hi
theorem DI {ops:Array Oper} (hW:qO.W P C.tab σ ((zx C ops.toList i o).run σ).1 K ((zx C ops.toList i o).run σ).2) :
  if Region.wanted o (yielded ops tm) then o.wp P ⟨tm,[]⟩ w (After C fr (fun j=>D j∨j=i) K) Q else After C fr (fun j=>D j∨j=i) K (Act.put ⟨tm,[]⟩ o.dst undef) w:=by
 unfold zx at hW
 cases hg:o.guard with
 | none =>
  rw [hg] at hW;simp only [xS] at hW;simp only [Region.wanted,hg,Zf];exact AT hG h g_ f_ hi (p:=[]) trivial (fun s b hm=>by simp at hm) hW
 | some g =>
  obtain ⟨j,want⟩:=g;rw [hg] at hW;simp only at hW
  cases hs:Mf ops.toList j with
  | none=>rw [hs] at hW;exact hW.elim
  | some s =>
   rw [hs] at hW;simp only at hW
   cases hv:qY C s with
   | true=>rw [hv] at hW;exact hW.elim
   | false =>
    rw [hv] at hW;have bj:(ops[j]?).bind (·.dst)=some s:=by
     unfold Mf at hs;rw [Xa] at hs
     cases hj:ops[j]? with
     | none=>rw [hj] at hs;cases hs
     | some oj=>rw [hj] at hs;exact hs
    cases dP:QC C s with
    | true =>
     rw [dP] at hW;simp only [Rd.run] at hW;split at hW
     ·rename_i c x he
      split at hW
      ·rename_i hk
       obtain ⟨v,ah,hr,-⟩:=h.ent _ _ he;rw [pz] at ah;have hV:V C.tab w (Ob fr γ) c v (.b x):=hr trivial;obtain ⟨c',ti,h1,h2⟩:=vm hk (by simp);obtain ⟨t2,h3,-⟩:=id hV
       have:=pu h1 h3
       simp only [WK] at this;obtain ⟨rfl,rfl⟩:=this;obtain ⟨q1,-⟩:=ze h1 h2 hV;have aS:σ.truth s=x:=by unfold St.truth;rw [he];rfl
       have hy:yielded ops tm j=some x:=by
        unfold yielded;rw [bj];simp only [Xl,ah,q1];rfl
       split at hW
       ·rename_i q_
        have:=yd q_
        subst this;have hw:Region.wanted o (yielded ops tm)=true:=by simp [Region.wanted,hg,hy]
        rw [WY hw];simp only [xS] at hW;exact AT hG h g_ f_ hi (p:=[]) trivial (fun s b hm=>by simp at hm) hW
       ·rename_i fU
        have t_:x≠want:=by
         intro q;rw [q] at fU;cases want<;>simp [Eg] at fU
        have hw:¬ Region.wanted o (yielded ops tm)=true:=by
         simp [Region.wanted,hg,hy,t_]
        rw [WZ hw];simp only [xS] at hW;unfold TY at hW;revert hW;refine pI (motive:=fun r=>qO.W P C.tab σ [(s,want)] K r→After C fr (fun j=>D j∨j=i) K (Act.put ⟨tm,[]⟩ o.dst undef) w) _ _ (fun q=>q.elim) fun n hd hn _ d_ hK=>?_
        have dU:¬ σ.Holds [(s,want)]:=fun q=>t_ (by rw [←aS];exact q.1);have j_:(∀h tag,(Ek C o.type).home=some (h,tag)→σ.get h≠none)∧∀tag,(Ek C o.type).re=some tag→Old D tag:=by
         unfold Ek;split<;>exact ⟨fun _ _ q=>(by cases q),fun _ q=>(by cases q)⟩
        obtain ⟨p1,p2⟩:=Rel.xn (v:=undef) (p:=[(s,want)]) (a:=Ek C o.type) hG h g_ (by rw [f_];exact hn) d_ (fun s' b hm=>by
         simp only [Xn,WK] at hm;obtain ⟨rfl,rfl⟩:=hm;exact ⟨hv,[],_,_,he⟩) j_.1 j_.2 (fun q=>absurd q dU) (fun _=>rfl)
        rw [hd];exact ⟨rfl,by simp [Act.put,f_],_,_,hK,p1,p2.mono fun _=>.inl⟩
      ·exact hW.elim
     ·exact hW.elim
    | false =>
    rw [dP] at hW;simp only [Rd.run] at hW
    cases he:σ.get (pp s) with
    | none=>rw [he] at hW;exact hW.elim
    | some e =>
     rw [he] at hW;simp only at hW;have bj:(ops[j]?).bind (·.dst)=some s:=by
      unfold Mf at hs;rw [Xa] at hs
      cases hj:ops[j]? with
      | none=>rw [hj] at hs;cases hs
      | some oj=>rw [hj] at hs;exact hs
     split at hW
     ·rename_i c x j_
      split at hW
      ·rename_i hk
       simp only [xS,Hp] at hW;obtain ⟨v,ah,hr,fB⟩:=h.ent _ _ he;rw [pz] at ah;have p_:∀s' b,(s',b)∈e.path++[(s,want)]→qY C s'=false∧∃q c x,σ.get (pp s')=some ⟨q,.t c x⟩:=by
        intro s' b hm
        rcases W2.1 hm with hm | hm
        ·exact g_.paths _ e s' b he hm
        ·simp only [Xn,WK] at hm
         obtain ⟨rfl,rfl⟩:=hm;exact ⟨hv,e.path,c,x,by rw [he,←j_]⟩
       have aS:σ.truth s=x.bool:=by unfold St.truth;rw [he];simp only [j_]
       have hy:yielded ops tm j=some want↔σ.Holds (e.path++[(s,want)]):=by
        rw [vQ];simp only [St.Holds,ZP,aS];unfold yielded;rw [bj];simp only [Xl,ah]
        by_cases hH:σ.Holds e.path
        ·have hV:=hr hH
         rw [j_] at hV;obtain ⟨c',ti,h1,h2⟩:=vm hk (by simp);obtain ⟨t2,h3,-⟩:=id hV
         have:=pu h1 h3
         simp only [WK] at this;obtain ⟨rfl,rfl⟩:=this;obtain ⟨q1,-⟩:=ze h1 h2 hV;rw [q1];simp [hH]
        ·rw [fB hH]
         simp [undef,hH]
       by_cases hH:σ.Holds (e.path++[(s,want)])
       ·have hw:Region.wanted o (yielded ops tm)=true:=by simp [Region.wanted,hg,hy.2 hH]
        rw [WY hw]
        rcases AB (D:=D) g_ o.dst (e.path++[(s,want)]) ((opR C i (e.path++[(s,want)]) o).run σ) with hb | ⟨hb,-⟩
        ·rw [hb] at hW;exact hW.elim
        ·rw [hb] at hW
         exact AT hG h g_ f_ hi hH p_ hW
       ·have hw:¬ Region.wanted o (yielded ops tm)=true:=by
         simp only [Region.wanted,hg,beq_iff_eq];exact fun q=>hH (hy.1 q)
        rw [WZ hw]
        rcases AB (D:=D) g_ o.dst (e.path++[(s,want)]) ((opR C i (e.path++[(s,want)]) o).run σ) with hb | ⟨hb,hR⟩
        ·rw [hb] at hW;exact hW.elim
        ·rw [hb] at hW
         have fin:∀(n:Nat) (a:AV),o.dst=some n→n<C.nt→σ.get (pp n)=none→(∀h tag,a.home=some (h,tag)→σ.get h≠none)→(∀tag,a.re=some tag→Old D tag) →
           K (σ.puts [(pp n,⟨e.path++[(s,want)],a⟩)])→After C fr (fun j=>D j∨j=i) K (Act.put ⟨tm,[]⟩ o.dst undef) w:=by
          intro n a hd hn d_ R_ aM hK;obtain ⟨h1,h2⟩:=Rel.xn (v:=undef) (p:=e.path++[(s,want)]) (a:=a) hG h g_ (by rw [f_];exact hn) d_ p_ R_ aM (fun q=>absurd q hH) (fun _=>rfl);rw [hd];exact ⟨rfl,by simp [Act.put,f_],_,_,hK,h1,h2.mono fun _=>.inl⟩
         generalize (opR C i (e.path++[(s,want)]) o).run σ=r at hW hR
         cases hR with
         | upd n c' a hd hn d_ R_ aM =>
          refine fin n a hd hn d_ R_ aM ?_
          cases c' with
          | none=>exact hW
          | some c'=>exact hW.2
         | call n tag f args k ty hd hn d_ =>
          obtain ⟨ys,ck,-,hK⟩:=Cy.1 hW;obtain ⟨y,rfl⟩:∃y,ys=[y]:=by
           match ys,ck with
           | [y],_=>exact ⟨y,rfl⟩
          exact fin n (.t ty y) hd hn d_ (fun _ _ hh=>by cases hh) (fun _ hh=>by cases hh) hK
      ·exact hW.elim
     ·exact hW.elim
end
section
variable {P:Program} {C:Ctx} {fr:Fr} {K:St→Prop}
def Pinned (C:Ctx) (tm tm':Array Value):Prop:=∀s,Fp C.pins s=true→tm'[s]?=tm[s]?
theorem Pinned.trans {a b c:Array Value} (h:Pinned C a b) (h':Pinned C b c):Pinned C a c:=fun s hs=>(h' s hs).trans (h s hs)
theorem Pinned.put {tm:Array Value} {d:Option Nat} {v:Value} (h:∀n,d=some n→Fp C.pins n=false):Pinned C tm (Act.put ⟨tm,[]⟩ d v).tmps:=by
 intro s hs
 cases d with
 | none=>rfl
 | some n =>
  have hn:n≠s:=fun e=>by have:=h n rfl;rw [e,hs] at this;cases this
  simp [Act.put,Xp,hn]
theorem CS {tm:Array Value} {ds ds':List Deferred} {d:Option Nat} {v:Value}:(Act.put ⟨tm,ds⟩ d v).tmps=(Act.put ⟨tm,ds'⟩ d v).tmps:=by
 cases d<;>rfl
theorem Oper.wp_put {o:Oper} {a:Act} {w:World} {K:Act→World→Prop} {Q:Exit→Act→World→Prop} (h:o.wp P a w K Q) :
  o.wp P a w (fun a' w'=>K a' w'∧∃v,a'.tmps=(Act.put ⟨a.tmps,[]⟩ o.dst v).tmps) Q:=by
 unfold Oper.wp at *
 generalize (execOp a.eval o).run P w=r at *
 cases r with
 | ok n w' =>
  cases n<;>simp only [Oper.upon] at h ⊢
  all_goals first
   | exact h
   | exact ⟨h,_,CS⟩
   | exact Calls.mono h (fun e w'' he=>by cases e<;>first | exact ⟨he,_,CS⟩ | exact he)
   | exact Rows.mono h (fun _ _ he=>⟨he,_,CS⟩)
 | halt x w'=>cases x<;>simp only [Oper.upon] at h ⊢<;>exact h
def Left (C:Ctx) (fr:Fr) (tm:Array Value) (K:St→Prop):Act→World→Prop:=fun a' w'=>a'.defers=[]∧a'.tmps.size=C.nt∧Pinned C tm a'.tmps∧∃σ' γ',K σ'∧Rel C.tab fr a'.tmps w' σ' γ'
theorem Aa {a:Act} (h:a.defers=[]):a=⟨a.tmps,[]⟩:=by
 cases a;simp only at h;subst h;rfl
theorem B2 {l:List Oper} (h:wW C l=true) {o:Oper} (ho:o∈l):∀n,o.dst=some n→Fp C.pins n=false:=by
 induction l with
 | nil=>simp at ho
 | cons x r ih =>
  have hx:(∀n,x.dst=some n→Fp C.pins n=false)∧wW C r=true:=by
   simp only [wW] at h;split at h
   ·rename_i hd;exact ⟨(fun n hn=>by rw [hd] at hn;cases hn),h⟩
   ·rename_i d hd
    split at h
    ·cases h
    ·rename_i hm;exact ⟨(fun n hn=>by rw [hd] at hn;cases hn;exact hm),h⟩
  rcases WW.1 ho with rfl | ho
  ·exact hx.1
  ·exact ih hx.2 ho
theorem Eo (hG:Good P C.tab) {tm:Array Value} {w:World} {σ:St} {γ:Key→Option Nat} {D:Nat→Prop} {o:Oper} {K:St→Prop} (hW:En C o σ K) (h:Rel C.tab fr tm w σ γ) (g_:Wf C D σ) :
  ∃σ',K σ'∧Rel C.tab fr tm w σ' γ∧Wf C D σ' := by
 unfold En at hW;split at hW
 ·rename_i d hd
  split at hW
  ·split at hW
   ·rename_i c x he
    split at hW
    ·rename_i hk
     obtain ⟨v,hv,hr,-⟩:=h.ent _ _ he;have hV:V C.tab w (Ob fr γ) c v x:=hr trivial;obtain ⟨c',ti,h1,h2⟩:=vm hk (by simp);obtain ⟨t2,h3,-⟩:=id hV
     have:=pu h1 h3
     simp only [WK] at this;obtain ⟨rfl,rfl⟩:=this;obtain ⟨-,q2⟩:=ze h1 h2 hV;have hc:∀b,x.bool=b→∀k,(σ.put (pp d) (top (.t c' (.b b)))).get k=σ.get k:=by
      intro b hb k;rw [St.yJ];split
      ·rename_i e;subst e;rw [he,q2,hb];rfl
      ·rfl
     cases hb:x.bool with
     | true=>exact ⟨_,hW.1 hb,h.congr (hc _ hb),g_.congr (hc _ hb)⟩
     | false=>exact ⟨_,hW.2 hb,h.congr (hc _ hb),g_.congr (hc _ hb)⟩
    ·exact hW.elim
   ·exact hW.elim
  ·exact ⟨σ,hW,h,g_⟩
 ·exact ⟨σ,hW,h,g_⟩
theorem Ia (hG:Good P C.tab) {tm0:Array Value} {ops:Array Oper} {Q:Exit→Act→World→Prop} (hQ:∀a w,Left C fr tm0 K a w→Q .normal a w):∀(l:List Oper) (_:wW C l=true) (j:Nat) (D:Nat→Prop) (_:∀k,D k→k<j) (a:Act) (w:World) (σ:St) (γ:Key→Option Nat),
  a.defers=[]→a.tmps.size=C.nt→Pinned C tm0 a.tmps→Rel C.tab fr a.tmps w σ γ→Wf C D σ→TE P C ops.toList (numbered j l) σ K→wpList P ops Q l a w:=by
 intro l
 induction l with
 | nil =>
  intro _ j D _ a w σ γ hd hs hp h _ hW;exact hQ a w ⟨hd,hs,hp,σ,γ,hW,h⟩
 | cons o l ih =>
  intro dS j D hD a w σ γ hd hs hp h g_ hW;have jk:=B2 dS (o:=o) (by simp);have lc:wW C l=true:=by
   simp only [wW] at dS;split at dS
   ·exact dS
   ·split at dS
    ·cases dS
    ·exact dS
  have aH:=DI (Q:=Q) (K:=fun σ'=>En C o σ' fun σ2=>TE P C ops.toList (numbered (j+1) l) σ2 K) hG h g_ hs (i:=j) (fun q=>ZC _ (hD j q)) (o:=o) (ops:=ops) hW;have cP:∀a' w',After C fr (fun k=>D k∨k=j) (fun σ'=>En C o σ' fun σ2=>TE P C ops.toList (numbered (j+1) l) σ2 K) a' w'→Pinned C tm0 a'.tmps→wpList P ops Q l a' w' := by
   rintro a' w' ⟨q1,q2,σ0,γ',q3,q4,q5⟩ eT;obtain ⟨σ',q3,q4,q5⟩:=Eo hG q3 q4 q5;exact ih lc (j+1) _ (fun k hk=>by
    rcases hk with hk | hk
    ·have:=hD k hk;omega
    ·omega) a' w' σ' γ' q1 q2 eT q4 q5 q3
  have ha:=Aa hd;refine wpList_step fun K' ij=>?_
  rw [ha];split
  ·rename_i hw
   rw [WY hw] at aH;refine Oper.wp_mono ?_ (Oper.wp_put aH);rintro a' w' ⟨q,v,hv⟩;exact ij _ _ (cP _ w' q (hp.trans (by rw [hv];exact Pinned.put jk)))
  ·rename_i hw
   rw [WZ hw] at aH;exact ij _ _ (cP _ _ aH (hp.trans (Pinned.put jk)))
end
section
variable {P:Program} {C:Ctx} {fr:Fr} {tm:Array Value} {w:World} {σ:St} {γ:Key→Option Nat}
def wY (C:Ctx) (fz:List Key) (σ0:St) (k:Key) (e:Ent):Ent:=top (match e.path with
 | []=>match wP fz k with
  | true=>(AV.start C σ0 e.av).let
  | false=>AV.start C σ0 e.av
 | _=>.u)
theorem Iu (fz:List Key) (σ0 σ:St) (k:Key):(Ce C fz σ0 σ).get k=if qY C k.a=true∧Nat.ble k.tag 1=true then (σ.get k).map (wY C fz σ0 k) else none:=by
 induction σ with
 | nil=>simp [Ce,St.get]
 | cons x r ih =>
  obtain ⟨k',e⟩:=x;simp only [Ce]
  by_cases hk:k'=k
  ·subst hk
   by_cases hc:qY C k'.a=true∧Nat.ble k'.tag 1=true
   ·rw [WY hc]
    simp only [hc.1,hc.2,St.get,Key.qW,XH];rfl
   ·rw [WZ hc] at ih ⊢
    split
    ·rename_i h1 h2
     exact absurd ⟨h1,h2⟩ hc
    ·exact ih
  ·simp only [St.get,Key.qt hk]
   split
   ·simp only [St.get,Key.qt hk]
    exact ih
   ·exact ih
theorem vH (fz:List Key) (σ:St) (k:Key):(pW C fz σ).get k=if qY C k.a=true∧Nat.ble k.tag 1=true then (σ.get k).map (wY C fz σ k) else none:=Iu fz σ σ k
theorem ur {σ0:St} {s tag c:Nat}:wJ C σ0 s tag c=.u∨(wJ C σ0 s tag c=.ptr s 0 c∧qY C s=true∧∃cb n,σ0.get (pp s)=some ⟨[],.box cb tag n⟩):=by
 unfold wJ;split
 ·rename_i hv
  split
  ·rename_i cb tag' n hb
   split
   ·rename_i ht
    refine .inr ⟨rfl,hv,cb,n,?_⟩;rw [hb,WO ht]
   ·exact .inl rfl
  ·exact .inl rfl
 ·exact .inl rfl
theorem tq {σ0:St} {h:Key} {tag:Nat} {c:TypeId} {off len:Nat}:tX C σ0 h tag c off len=.u∨(tX C σ0 h tag c off len=.alias h 0 c off len∧qY C h.a=true∧Nat.ble h.tag 1=true∧∃xs,σ0.get h=some ⟨[],.own c tag xs⟩):=by
 unfold tX;split
 ·rename_i hv ht
  split
  ·rename_i c' tag' xs hb
   split
   ·rename_i h1 h2
    refine .inr ⟨rfl,hv,ht,xs,?_⟩;rw [hb,WO h1,WO h2]
   ·exact .inl rfl
  ·exact .inl rfl
 ·exact .inl rfl
theorem Rel.start (hG:Good P C.tab) (h:Rel C.tab fr tm w σ γ) (fz:List Key):∃γ',Rel C.tab fr tm w (pW C fz σ) γ'∧Wf C (fun _=>False) (pW C fz σ):=by
 let W:Key→Prop:=fun k=>wP fz k=true∧tR σ k
 have y_:∀k b,qA W γ k=some b→γ k=some b:=by
  intro k b hb
  by_cases hk:W k
  ·rw [sH hk] at hb;cases hb
  ·rw [rq hk] at hb;exact hb
 have gZ:∀b,Ob fr (qA W γ) b→Ob fr γ b:=by
  rintro b (hb | ⟨k,hb⟩)
  ·exact .inl hb
  ·exact .inr ⟨k,y_ k b hb⟩
 have z_:Stays w w (Ob fr γ) (Ob fr (qA W γ)):=fun b _ hb=>⟨rfl,fun q=>hb (gZ b q)⟩;have o_:∀k e,(pW C fz σ).get k=some e→qY C k.a=true∧k.tag≤1∧∃e0,σ.get k=some e0∧e=wY C fz σ k e0:=by
  intro k e he;rw [vH] at he;split at he
  ·rename_i hc
   obtain ⟨e0,h1,h2⟩:=YN.1 he;exact ⟨hc.1,YS hc.2,e0,h1,h2.symm⟩
  ·cases he
 have N_:∀{s c tag m},qY C s=true→σ.get (pp s)=some ⟨[],.box c tag m⟩→(pW C fz σ).get (pp s)=some ⟨[],.box c 0 m⟩∧qA W γ (pp s)=γ (pp s):=by
  intro s c tag m hv hs
  constructor
  ·rw [vH,WY ⟨hv,rfl⟩,hs]
   simp only [XH,wY,AV.start];split<;>rfl
  ·refine rq ?_
   rintro ⟨-,c',t',xs,hh⟩;rw [hs] at hh;cases hh
 refine ⟨qA W γ,⟨h.os,h.tape,h.output,h.size,h.old,h.low,fun k k' b hk e_=>h.inj k k' b (y_ k b hk) (y_ k' b e_),fun k b hk=>h.blk k b (y_ k b hk),?_,?_,?_⟩,⟨?_,?_,?_⟩⟩
 ·intro s n e he
  obtain ⟨hv,-,e0,h1,-⟩:=o_ _ _ he;obtain ⟨c,tag,m,hb⟩:=h.cel s n e0 h1;exact ⟨c,0,m,(N_ hv hb).1⟩
 ·intro s n e he
  obtain ⟨-,ht,-⟩:=o_ _ _ he;simp [comp] at ht
 ·intro k e he
  obtain ⟨hv,ht,e0,h1,rfl⟩:=o_ _ _ he;obtain ⟨v,aq,hr,-⟩:=h.ent k e0 h1;have m_:pJ tm w (qA W γ) k=some v:=by
   rw [←aq];refine rp (fun _=>rfl) fun bu=>?_
   obtain ⟨hk,c,tag,m,hs⟩:=rC h h1 bu;exact ⟨(N_ hv hs).2,fun _ _=>rfl⟩
  refine ⟨v,m_,fun _=>?_,fun q=>absurd trivial q⟩;simp only [wY,top]
  cases hp:e0.path with
  | cons=>trivial
  | nil =>
   have bB:=hr (by rw [hp];trivial);simp only
   cases j_:e0.av with
   | own c tag xs =>
    rw [j_] at bB;have O_:Own C.tab w (Ob fr γ) c v (γ k) xs:=bB;have H_:tR σ k:=⟨c,tag,xs,by rw [h1,←hp,←j_]⟩;split
    ·rename_i hm
     have hW:W k:=⟨hm,H_⟩;refine O_.freeze hG gZ fun b hb q=>?_
     rcases q with q | ⟨k2,q⟩
     ·exact (h.blk k b hb).2.1 q
     ·have:=h.inj k2 k b (y_ k2 b q) hb
      subst this;rw [sH hW] at q;cases q
    ·rename_i hm
     have hW:¬ W k:=fun q=>by rw [q.1] at hm;cases hm
     show Own C.tab w _ c v (qA W γ k) xs
     rw [rq hW];exact O_.mono z_ fun _ _=>rfl
   | box c tag n =>
    rw [j_] at bB;obtain ⟨b,cs,ety,q1,q2,q3,q4⟩:=bB;have hW:¬ W k:=by
     rintro ⟨-,c',t',xs,hh⟩;rw [h1] at hh
     have:=W3 hh
     rw [this] at j_;cases j_
    have:AVR C.tab w (Ob fr (qA W γ)) (pW C fz σ) (pJ tm w (qA W γ)) (qA W γ) k v (.box c 0 n):=⟨b,cs,ety,by rw [rq hW];exact q1,q2,q3,q4⟩
    split<;>exact this
   | t c x =>
    rw [j_] at bB
    have:AVR C.tab w (Ob fr (qA W γ)) (pW C fz σ) (pJ tm w (qA W γ)) (qA W γ) k v (.t c x):=V.mono z_ bB
    split<;>exact this
   | pl c x off =>
    rw [j_] at bB;obtain ⟨a,q1,q2⟩:=bB
    have:AVR C.tab w (Ob fr (qA W γ)) (pW C fz σ) (pJ tm w (qA W γ)) (qA W γ) k v (.pl c x off):=⟨a,q1,q2.mono z_ hG.lv⟩
    split<;>exact this
   | alias h0 tag c off len =>
    rw [j_] at bB
    have:AVR C.tab w (Ob fr (qA W γ)) (pW C fz σ) (pJ tm w (qA W γ)) (qA W γ) k v (tX C σ h0 tag c off len):=by
     rcases tq (C:=C) (σ0:=σ) (h:=h0) (tag:=tag) (c:=c) (off:=off) (len:=len) with q | ⟨q,hv,jg,xs,hb⟩
     ·rw [q];trivial
     ·rw [q]
      intro c' xs' hx;obtain ⟨q1,v_,q2,q3⟩:=bB c xs hb;have aV:(pW C fz σ).get h0=some (wY C fz σ h0 ⟨[],.own c tag xs⟩):=by
       rw [vH,WY ⟨hv,jg⟩,hb];rfl
      rw [aV] at hx;simp only [wY,top,AV.start] at hx;split at hx
      ·simp [AV.let] at hx
      ·simp only [WJ,Ent.mk.injEq,AV.own.injEq,W5] at hx
       obtain ⟨rfl,rfl⟩:=hx;refine ⟨rfl,v_,?_,q3⟩;rw [←q2];refine rp (fun _=>rfl) fun bu=>?_
       obtain ⟨hk,c2,tag2,m,hs⟩:=rC h hb bu;exact ⟨(N_ hv hs).2,fun _ _=>rfl⟩
    split
    ·show AVR _ _ _ _ _ _ _ _ (AV.let (tX C σ h0 tag c off len))
     rcases tq (C:=C) (σ0:=σ) (h:=h0) (tag:=tag) (c:=c) (off:=off) (len:=len) with q | ⟨q,-⟩<;>rw [q] at this ⊢<;>exact this
    ·exact this
   | ptr s tag c =>
    rw [j_] at bB
    have:AVR C.tab w (Ob fr (qA W γ)) (pW C fz σ) (pJ tm w (qA W γ)) (qA W γ) k v (wJ C σ s tag c):=by
     rcases ur (C:=C) (σ0:=σ) (s:=s) (tag:=tag) (c:=c) with q | ⟨q,hv,cb,n,hb⟩
     ·rw [q];trivial
     ·rw [q]
      intro cb' n' _;obtain ⟨b,q1,q2⟩:=bB cb n hb;exact ⟨b,by rw [(N_ hv hb).2];exact q1,q2⟩
    split
    ·show AVR _ _ _ _ _ _ _ _ (AV.let (wJ C σ s tag c))
     rcases ur (C:=C) (σ0:=σ) (s:=s) (tag:=tag) (c:=c) with q | ⟨q,-⟩<;>rw [q] at this ⊢<;>exact this
    ·exact this
   | _=>split<;>trivial
 ·intro k e tag he hh
  obtain ⟨-,-,e0,-,rfl⟩:=o_ _ _ he
  left
  simp only [wY,top] at hh
  cases hp:e0.path with
  | cons=>rw [hp] at hh;cases hh
  | nil =>
   rw [hp] at hh;simp only at hh
   cases j_:e0.av with
   | alias h1 t c off len =>
    rw [j_] at hh
    rcases tq (C:=C) (σ0:=σ) (h:=h1) (tag:=t) (c:=c) (off:=off) (len:=len) with q | ⟨q,-⟩<;>split at hh<;>simp [AV.start,q,AV.let,AV.re] at hh<;>exact hh.symm
   | ptr s t c =>
    rw [j_] at hh
    rcases ur (C:=C) (σ0:=σ) (s:=s) (tag:=t) (c:=c) with q | ⟨q,-⟩<;>split at hh<;>simp [AV.start,q,AV.let,AV.re] at hh<;>exact hh.symm
   | _=>rw [j_] at hh;split at hh<;>simp [AV.start,AV.let,AV.re] at hh<;>exact hh.symm
 ·intro k e h0 tag he hh
  obtain ⟨-,-,e0,-,rfl⟩:=o_ _ _ he;simp only [wY,top] at hh
  cases hp:e0.path with
  | cons=>rw [hp] at hh;cases hh
  | nil =>
   rw [hp] at hh;simp only at hh
   cases j_:e0.av with
   | alias h1 t c off len =>
    rw [j_] at hh
    rcases tq (C:=C) (σ0:=σ) (h:=h1) (tag:=t) (c:=c) (off:=off) (len:=len) with q | ⟨q,hv,jg,xs,hb⟩<;>split at hh<;>simp [AV.start,q,AV.let,AV.home] at hh
    all_goals
     obtain ⟨rfl,rfl⟩:=hh;rw [vH,WY ⟨hv,jg⟩,hb];simp
   | ptr s t c =>
    rw [j_] at hh
    rcases ur (C:=C) (σ0:=σ) (s:=s) (tag:=t) (c:=c) with q | ⟨q,hv,cb,n,hb⟩<;>split at hh<;>simp [AV.start,q,AV.let,AV.home] at hh
    all_goals
     obtain ⟨rfl,rfl⟩:=hh;rw [(N_ hv hb).1];simp
   | _=>rw [j_] at hh;split at hh<;>simp [AV.start,AV.let,AV.home] at hh
 ·intro k e s b he hm
  obtain ⟨-,-,e0,-,rfl⟩:=o_ _ _ he;simp [wY,top] at hm
end
end Go.Pl
