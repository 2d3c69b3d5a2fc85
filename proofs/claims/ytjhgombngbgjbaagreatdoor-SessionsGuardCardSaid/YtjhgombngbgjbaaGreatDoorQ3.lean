/- Part 3 of 11. A session's sealed cut that was changed, shortened, lengthened or emptied is not resumed, and a cut is resumed under another model only where the two models are one. Names are shortened and spaces left out by program, for the size. -/
import Derived.Test.YtjhgombngbgjbaaGreatDoorQ2
import Derived.DataShut
set_option linter.unusedVariables false
set_option linter.unusedSimpArgs false
set_option linter.unusedSectionVars false
set_option linter.constructorNameAsVariable false
set_option maxRecDepth 100000
namespace Go.Pl
section
variable {P:Program} {C:Ctx} {fr:Fr} {tm:Array Value} {w:World} {σ:St} {γ:Key→Option Nat} {D:Nat→Prop}
 (hG:Good P C.tab) (h:Rel C.tab fr tm w σ γ) (g_:Wf C D σ) (f_:tm.size=C.nt) {i:Nat} (hi:¬ D i) {o:Oper} {p:Path} {K:St→Prop} {Q:Exit→Act→World→Prop}
theorem Cb:∀(ys l:List T) (off:Nat),∃l',setCells (.g l) off ys=.g l'∧l'.length=l.length∧∀n,n<l.length→l'[n]?=if off≤n∧n<off+ys.length then ys[n-off]? else l[n]? := by
 intro ys
 induction ys with
 | nil =>
  intro l off;refine ⟨l,rfl,rfl,fun n hn=>?_⟩;rw [WZ (by simp;try omega)]
 | cons y ys ih =>
  intro l off;obtain ⟨l',h1,h2,h3⟩:=ih (l.set off y) (off+1);refine ⟨l',h1,by simpa using h2,fun n hn=>?_⟩;rw [h3 n (by simpa using hn)]
  by_cases hc:off+1≤n∧n<off+1+ys.length
  ·rw [WY hc,WY (by simp;omega)]
   rw [show n-off=(n-(off+1))+1 by omega,WR]
  ·rw [WZ hc,YA]
   by_cases fN:off=n
   ·subst fN
    simp [hn]
   ·rw [WZ fN,WZ (by simp;omega)]
theorem Rel.M6 (hG:Good P C.tab) (h:Rel C.tab fr tm w σ γ) (g_:Wf C D σ) {h0:Key} {c:TypeId} {tag:Nat} {xs xs':List T} (hs:σ.get h0=some ⟨[],.own c tag xs⟩) {b:Nat} (hb:γ h0=some b)
  {cs:Array Value} {e0:TypeId} (hh:w.heap[b]?=some (.cells cs e0 (0,0))) (cs':Array Value) (i_:xs'.length=xs.length)
  (hO:Stays w (w.setRow b cs') (Ob fr γ) (Ob fr γ)→∀v,Own C.tab w (Ob fr γ) c v (γ h0) xs→Own C.tab (w.setRow b cs') (Ob fr γ) c v (γ h0) xs') :
  Rel C.tab fr tm (w.setRow b cs') (σ.put h0 (top (.own c tag xs'))) γ∧Wf C D (σ.put h0 (top (.own c tag xs'))):=by
 have S_:∀b',b'≠b→(w.setRow b cs').heap[b']?=w.heap[b']? := fun b' t_=>setRow_other w b b' _ t_
 have m_:∀k e,σ.get k=some e→pJ tm (w.setRow b cs') γ k=pJ tm w γ k:=by
  intro k e he;refine rp (fun _=>rfl) (fun ht=>⟨rfl,fun b' s_=>?_⟩);obtain ⟨aD,c',tag',m,aa⟩:=rC h he ht
  by_cases cj:b'=b
  ·subst cj
   have:=h.inj _ _ _ s_ hb
   rw [this] at aa;rw [hs] at aa;cases aa
  ·exact sk (S_ b' cj)
 have t_:∀{k:Key} {e:Ent},σ.get k=some e→(∀c tag xs,e≠⟨[],.own c tag xs⟩)→k≠h0:=by
  rintro k e he aA rfl;rw [hs] at he;exact aA _ _ _ (W3 he).symm
 refine Rel.upd hG h g_ (fun k=>k=h0) (fun _=>False) rfl rfl rfl (by simp) ?_ (fun _ _ q=>q.elim) (fun _ _=>rfl) ?_ ?_ (fun k hk=>pD hk) (fun k e _ he=>m_ k e he) ?_ ?_ ?_ ?_ ?_ (fun _ q=>q) ?_ ?_ ?_ ?_
 ·intro b' _ s_
  exact S_ b' fun e=>s_ h0 (.inl rfl) (by rw [e];exact hb)
 ·rintro k b' rfl s_
  exact .inl ⟨k,rfl,s_⟩
 ·rintro k k' b' rfl rfl _ _
  rfl
 ·intro s n e he
  have:∃c tag m,σ.get (pp s)=some ⟨[],.box c tag m⟩:=by
   by_cases hk:cell s n=h0
   ·exact h.cel s n _ (by rw [hk];exact hs)
   ·rw [pD hk] at he
    exact h.cel s n e he
  obtain ⟨c',t',m,s_⟩:=this;exact ⟨c',t',m,by rw [pD (t_ s_ (by simp))];exact s_⟩
 ·intro s n e he
  have:∃q m,σ.get (pp s)=some ⟨q,.tup m⟩:=by
   by_cases hk:comp s n=h0
   ·exact h.cmp s n _ (by rw [hk];exact hs)
   ·rw [pD hk] at he
    exact h.cmp s n e he
  obtain ⟨q,m,s_⟩:=this;exact ⟨q,m,by rw [pD (t_ s_ (by simp))];exact s_⟩
 ·intro s q c' x _ hx
  exact t_ hx (by simp)
 ·rintro k rfl _
  rw [pB];simp
 ·rintro k e tag' rfl he ht
  rw [pB] at he;simp only [WJ] at he;subst he;exact g_.tags k _ tag' hs ht
 ·rintro k tag' rfl _ _
  refine ⟨fun c' ys hx=>?_,fun c' n hx=>?_,fun c' hx=>by rw [pB] at hx;cases hx⟩
  ·rw [pB] at hx
   simp only [top,WJ,Ent.mk.injEq,AV.own.injEq,W5] at hx;obtain ⟨rfl,rfl,rfl⟩:=hx;exact ⟨m_ k _ hs,xs,hs,i_.symm⟩
  ·rw [pB] at hx
   cases hx
 ·rintro k e h1 tag' rfl he dC
  rw [pB] at he;simp only [WJ] at he;subst he;cases dC
 ·rintro k e s b' rfl he hm
  rw [pB] at he;simp only [WJ] at he;subst he;simp [top] at hm
 ·rintro A_ k e rfl he
  rw [pB] at he;simp only [WJ] at he;subst he;obtain ⟨v,hv,hr,-⟩:=h.ent k _ hs;exact ⟨v,by rw [m_ k _ hs];exact hv,fun _=>hO A_ v (hr trivial),fun q=>absurd trivial q⟩
theorem Own.set (hG:Good P C.tab) {O:Nat→Prop} {c:TypeId} {v:Value} {b:Nat} {xs:List T} {cs:Array Value} {e0:TypeId} (ho:Own C.tab w O c v (some b) xs) (hh:w.heap[b]?=some (.cells cs e0 (0,0)))
  {j off:Nat} (hj:j<xs.length) {ti:TI} {e ce:TypeId} {te:TI} (hc:C.tab.at c=some (c,ti)) (hk:ti.k=.sl e) (he:C.tab.at e=some (ce,te)) {vals:List Value} {ys:List T} (fO:ys.length=vals.length)
  (aZ:off+vals.length≤te.cells) {y:T} (nq:y.isG=te.isS) (mr:y.leaves.length=te.cells)
  (ck:∀n,n<te.cells→y.leaves[n]?=if off≤n∧n<off+vals.length then ys[n-off]? else (xs.getD j .u).leaves[n]?)
  (z_:Stays w (w.setRow b (splice cs (j*te.cells+off) vals)) O O)
  (hV:∀(n:Nat) q ty,ys[n]?=some q→(te.lv ce)[off+n]?=some ty→∃u,vals[n]?=some u∧L C.tab w O ty u q) :
  j*te.cells+off+vals.length≤cs.size∧Own C.tab (w.setRow b (splice cs (j*te.cells+off) vals)) O c v (some b) (xs.set j y):=by
 obtain ⟨ti',e',ce',te',h1,h2,h3,hp,ho⟩:=ho;have e1:=pu hc h1;simp only [WK,W5] at e1;subst e1;rw [hk] at h2;simp only [Go.Pl.K.sl.injEq] at h2;subst h2;have e2:=pu he h3;simp only [WK] at e2;obtain ⟨rfl,rfl⟩:=e2
 rcases ho with ⟨-,rfl,-⟩ | ⟨b',cap,cs1,ak,ag,dC,B_,hm,f_,aj⟩
 ·simp at hj
 ·simp only [WJ] at ak
  subst ak;rw [hh] at dC;simp only [WJ,Obj.cells.injEq] at dC;obtain ⟨rfl,rfl,-⟩:=dC;have br:(j+1)*te.cells≤cap*te.cells:=Xb _ (by omega);rw [Xe,Yb] at br;have D_:j*te.cells+off+vals.length≤cs.size:=by omega
  refine ⟨D_,ti,e0,ce,te,hc,hk,he,hp,.inr ⟨b,cap,_,rfl,by rw [Yw];exact ag,setRow_heap w b cs _ _ (0,0) hh,by rw [Yw];exact B_,hm,by rw [qQ D_];exact f_,fun m x hx=>?_⟩⟩;rw [YA] at hx
  by_cases gi:j=m
  ·subst gi
   simp only [Zf,hj] at hx;simp only [WJ] at hx;subst hx;refine ⟨nq,mr,fun n q ty hz ht=>?_⟩;have hn:n<te.cells:=by rw [←mr];exact (WQ.1 hz).1
   rw [ck n hn] at hz
   by_cases dZ:off≤n∧n<off+vals.length
   ·rw [WY dZ] at hz
    obtain ⟨u,hu,hl⟩:=hV (n-off) q ty hz (by rw [show off+(n-off)=n by omega];exact ht);refine ⟨u,?_,hl.mono z_⟩;rw [qq D_,WZ (by omega),WY (by omega),show j*te.cells+n-(j*te.cells+off)=n-off by omega];exact hu
   ·rw [WZ dZ] at hz
    obtain ⟨u,hu,hl⟩:=(aj j _ (CC hj)).2.2 n q ty hz ht;refine ⟨u,?_,hl.mono z_⟩;rw [qq D_];split
    ·exact hu
    ·rw [WZ (by omega)]
     exact hu
  ·rw [WZ gi] at hx
   obtain ⟨k1,k2,k3⟩:=aj m x hx;refine ⟨k1,k2,fun n q ty hz ht=>?_⟩;have hn:n<te.cells:=by rw [←k2];exact (WQ.1 hz).1
   obtain ⟨u,hu,hl⟩:=k3 n q ty hz ht;refine ⟨u,?_,hl.mono z_⟩;rw [qq D_];have kC:m*te.cells+n<j*te.cells+off∨j*te.cells+off+vals.length≤m*te.cells+n:=by
    rcases Nat.lt_or_gt_of_ne gi with q | q
    ·right
     have:=Xb te.cells (show j+1≤m by omega)
     rw [Xe,Yb] at this;omega
    ·left
     have:=Xb te.cells (show m+1≤j by omega)
     rw [Xe,Yb] at this;omega
   rcases kC with q | q
   ·rw [WY q];exact hu
   ·rw [WZ (by omega),WZ (by omega)];exact hu
theorem wp_skip {o:Oper} {w':World} {K:Act→World→Prop} {Q:Exit→Act→World→Prop} (n_:(execOp (Act.eval ⟨tm,[]⟩) o).run P w=.ok .skip w')
  (az:o.dst=none) (hK:K ⟨tm,[]⟩ w'):o.wp P ⟨tm,[]⟩ w K Q:=by
 unfold Oper.wp;rw [n_];simp only [Oper.upon,Act.put,az];exact hK
theorem tT {l:List Key} {k:Key}:wP l k=true↔k∈l:=by
 induction l with
 | nil=>simp [wP]
 | cons x r ih =>
  simp only [wP]
  by_cases hx:x=k
  ·subst hx;simp [Key.qW]
  ·simp only [Key.qt hx,ih,WW]
   exact ⟨.inr,fun q=>q.resolve_left (fun e=>hx e.symm)⟩
theorem yN {ws:List (Key×Ent)} {k:Key}:k∈qh ws↔∃e,(k,e)∈ws:=by
 induction ws with
 | nil=>simp [qh]
 | cons x r ih =>
  obtain ⟨k',e'⟩:=x;simp only [qh,WW,ih,WK]
  constructor
  ·rintro (rfl | ⟨e,he⟩)
   ·exact ⟨e',.inl ⟨rfl,rfl⟩⟩
   ·exact ⟨e,.inr he⟩
  ·rintro ⟨e,he | he⟩
   ·exact .inl he.1
   ·exact .inr ⟨e,he⟩
theorem sM {ti:TI} {c:TypeId} (hS:ti.isS=true):ti.lv c=ti.leaves:=by
 unfold TI.lv;unfold TI.isS at hS;split
 ·rfl
 ·rename_i aA
  split at hS
  ·rename_i hk;exact absurd hk (aA _)
  ·cases hS
theorem Cg {v:Operand} {f:Nat→R} {r:R} {motive:qO→Prop} (ht:∀t tag,v=.tmp t→σ.get (pp t)=some ⟨[],.tup tag⟩→motive ((f t).run σ)) (hr:motive (r.run σ)):motive ((Nz v f r).run σ):=by
 unfold Nz;split
 ·rename_i t
  simp only [Rd.run];split
  ·rename_i tag he
   exact ht t tag rfl he
  ·exact hr
 ·exact hr
theorem xJ {t n:Nat} {motive:qO→Prop} (c_:motive .bad):∀(m q:Nat) (k:List Bc→R) (_:∀as_,as_.length=m→(∀(j:Nat) o a,as_[j]?=some (o,a)→(∃ty y,o=none∧a=.t ty y∧σ.get (fld t n (q+j))=some ⟨[],.t ty y⟩∧∃c tt,C.tab.at ty=some (c,tt)∧tt.isS=false) ∨
   ∃c tag xs,o=some (q+j)∧a=.own c 0 xs∧σ.get (fld t n (q+j))=some ⟨[],.own c tag xs⟩)→motive ((k as_).run σ)),motive ((wv C t n m q k).run σ):=by
 intro m
 induction m with
 | zero=>exact fun q k l_=>l_ [] rfl fun j o a h=>by simp at h
 | succ m ih =>
  intro q k l_;simp only [wv,Rd.run];split
  ·rename_i ty y he
   split
   ·rename_i c0 tt ar
    split
    ·rename_i hS
     refine ih (q+1) _ fun as_ hl hP=>l_ _ (by simp [hl]) fun j o a hj=>?_
     cases j with
     | zero =>
      simp only [WT,WJ,WK] at hj;obtain ⟨rfl,rfl⟩:=hj;exact .inl ⟨ty,y,rfl,rfl,he,c0,tt,ar,hS⟩
     | succ j =>
      simp only [WR] at hj
      have:=hP j o a hj
      rwa [show q+1+j=q+(j+1) by omega] at this
    ·exact c_
   ·exact c_
  ·rename_i ty tag xs he
   refine ih (q+1) _ fun as_ hl hP=>l_ _ (by simp [hl]) fun j o a hj=>?_
   cases j with
   | zero =>
    simp only [WT,WJ,WK] at hj;obtain ⟨rfl,rfl⟩:=hj;exact .inr ⟨ty,tag,xs,rfl,rfl,he⟩
   | succ j =>
    simp only [WR] at hj
    have:=hP j o a hj
    rwa [show q+1+j=q+(j+1) by omega] at this
  ·exact c_
theorem yH {t n q:Nat} {u:Value} (hq:q<1000) (h:pJ tm w γ (fld t n q)=some u):∃vs,tm[t]?=some (.agg vs)∧vs.size=n∧vs[q]?=some u:=by
 have h1:Nat.blt ((n+1)*1000+q) 1000=false:=by
  cases hb:Nat.blt ((n+1)*1000+q) 1000 with
  | false=>rfl
  | true=>simp [Nat.blt] at hb;omega
 simp only [pJ,fld,comp] at h;split at h
 ·rw [h1] at h;cases h
 ·rename_i vs bm
  rw [h1] at h;simp only at h;rw [show ((n+1)*1000+q) / 1000-1=n by omega,show ((n+1)*1000+q)%1000=q by omega] at h;split at h
  ·rename_i hb
   exact ⟨vs,bm,WO hb,h⟩
  ·cases h
 ·cases h
theorem Lx {t n q:Nat} {u:Value} {vs:Array Value} (hq:q<1000) (h1:tm[t]?=some (.agg vs)) (h2:vs.size=n) (h3:vs[q]?=some u):pJ tm w γ (fld t n q)=some u:=by
 have hb:Nat.blt ((n+1)*1000+q) 1000=false:=by
  cases hb:Nat.blt ((n+1)*1000+q) 1000 with
  | false=>rfl
  | true=>simp [Nat.blt] at hb;omega
 simp only [pJ,fld,comp,h1,hb];rw [show ((n+1)*1000+q) / 1000-1=n by omega,show ((n+1)*1000+q)%1000=q by omega,h2];simp [h3]
theorem QX {tab:Tab} {O:Nat→Prop} {c:TypeId} {v:Value} {g:Option Nat} {xs:List T} (h:Own tab w O c v g xs):v.oneCell'=true:=by
 obtain ⟨ti,e,ce,te,-,-,-,-,o5⟩:=h
 rcases o5 with ⟨-,-,a,q⟩ | ⟨b,cap,cs,-,q,-⟩<;>rw [q]<;>rfl
include hG h g_ f_ hi
theorem Ep {ty:TypeId} {a v:Operand} (ho:o.op=.store ty a v) (az:o.dst=none):Sound P C fr tm w σ D i o p K Q ((Lo C i p ty a v).run σ):=by
 unfold Lo
 cases p with
 | cons=>exact pq
 | nil =>
  have hp:σ.Holds []:=trivial;simp only;refine wI hG h [] hp a pq fun sp dP=>?_
  have n_:∀w',(Instr.storeAt ty (ev tm a) (ev tm v)).run P w=.ok () w'→(execOp (Act.eval ⟨tm,[]⟩) o).run P w=.ok .skip w' := by
   intro w' hv;unfold ev at hv;simp only [execOp,ho];rw [Sem.run_bind,hv];rfl
  cases dP with
  | box s c n cb tag b hs hb aQ =>
   simp only;obtain ⟨cs,ety,hh,aJ⟩:=Ai h hs hb;split
   ·rename_i ct ti ap
    have k_:=(hG _ _ _ ap).self;split
    ·rename_i D_
     have D_:=Xd D_;split
     ·rename_i hS
      refine Cg (fun t tag' hv he=>?_) ?_
      ·split
       ·rename_i au r_
        have au:=Xd au;have r_:=Xd r_;refine xJ pq _ _ _ fun as_ hl hP=>?_
        simp only [WV] at hP;intro hW;have look:∀q,q<ti.cells→∃o a,as_[q]?=some (o,a)∧∃u,pJ tm w γ (fld t ti.cells q)=some u∧u.oneCell'=true∧(∀s,o=some s→s=q)∧(∀ty y,a=.t ty y→V C.tab w (Ob fr γ) ty u y)∧(∀c,o=none→a=.own c 0 []→Own C.tab w (Ob fr γ) c u none [])∧∀h0 tag c off len,a≠.alias h0 tag c off len:=by
         intro q hq;obtain ⟨⟨o,a⟩,bC⟩:∃x,as_[q]?=some x:=⟨_,WL (by omega)⟩;refine ⟨o,a,bC,?_⟩
         rcases hP q o a bC with ⟨ty',y,rfl,rfl,hg,c0,tt,ar,mt⟩ | ⟨c0,t6,xs,rfl,rfl,hg⟩
         ·obtain ⟨u,hu,hr,-⟩:=h.ent _ _ hg
          have kD:V C.tab w (Ob fr γ) ty' u y:=hr trivial;obtain ⟨t1,e1,-⟩:=id kD
          have:=pu ar e1
          simp only [WK] at this;obtain ⟨rfl,rfl⟩:=this;exact ⟨u,hu,IP (sG e1 mt kD).1,fun s hs=>(by cases hs),fun ty2 y2 e=>(by cases e;exact kD),fun c _ e=>(by cases e),fun _ _ _ _ _ e=>(by cases e)⟩
         ·obtain ⟨u,hu,hr,-⟩:=h.ent _ _ hg
          exact ⟨u,hu,QX (hr trivial),fun s hs=>(W3 hs).symm,fun ty2 y2 e=>(by cases e),fun c e _=>(by cases e),fun _ _ _ _ _ e=>(by cases e)⟩
        obtain ⟨o0,a0,-,u0,kE,-⟩:=look 0 r_;obtain ⟨vs,bm,dG,-⟩:=yH (by omega) kE;have gl:ev tm v=.agg vs:=by
         subst hv;simp only [ev,Act.eval,XK,bm,XF]
        have cI:(ev tm v).cells=vs:=by rw [gl];rfl
        have at_:∀q,q<ti.cells→∀u,pJ tm w γ (fld t ti.cells q)=some u→vs[q]?=some u:=by
         intro q hq u hu;obtain ⟨vs',h1,-,h3⟩:=yH (by omega) hu;rw [bm] at h1;simp only [WJ,Value.agg.injEq] at h1;rw [h1];exact h3
        have b7:∀u∈(ev tm v).cells.toList,u.oneCell'=true:=by
         intro u hu;rw [cI] at hu;obtain ⟨q,hq,rfl⟩:=Ys hu;obtain ⟨o,a,-,u',aw,h1,-⟩:=look q (by simp at hq;omega)
         have:=at_ q (by simp at hq;omega) u' aw
         have h2:vs.toList[q]=u' := by
          have h3:vs.toList[q]?=some u' := by rw [Xa];exact this
          rw [WL hq] at h3;exact W3 h3
         rw [h2];exact h1
        have i_:vs.toList.length=ti.cells:=by simp [dG]
        have cn:c+vs.toList.length≤cs.size:=by omega
        have o_:(w.setRow b (splice cs c vs.toList)).heap[b]?=some (.cells (splice cs c vs.toList) ety (0,0)):=setRow_heap w b cs _ ety (0,0) hh;have S_:∀b',b'≠b→(w.setRow b (splice cs c vs.toList)).heap[b']?=w.heap[b']? := fun b' t_=>setRow_other w b b' _ t_
        obtain ⟨γ2,q1,q2⟩:=Rel.bcs hG h g_ hi (fun k=>k=pp s) (tm' := tm) (w' := w.setRow b (splice cs c vs.toList)) (as_ :=as_) (fun q=>cell s (c+q)) (fld t ti.cells) (fun k=>k.b-c) none rfl rfl rfl (by simp)
         (fun b' s_=>S_ b' fun e=>s_ (pp s) rfl (by rw [e];exact hb))
         (by
          rintro k rfl;refine ⟨fun q=>px,rfl,cb,tag,n,hs,fun b' cs1 ety1 bk cU=>?_⟩;rw [hb] at bk;simp only [WJ] at bk;subst bk;rw [hh] at cU;simp only [WJ,Obj.cells.injEq] at cU;obtain ⟨rfl,rfl,-⟩:=cU;exact ⟨_,o_,qQ cn⟩)
         (fun q=>by simp [cell]) (fun q q' e=>by have:=(rS.1 e).2;omega) (fun q _=>by simp [cell]) (fun q q' e=>by have:=(sw.1 e).2;omega)
         (fun q s' a hq=>by
          rcases hP q _ a hq with ⟨ty',y,e,-⟩ | ⟨c0,t6,xs,e,rfl,hg⟩
          ·cases e
          ·cases e;exact ⟨c0,t6,xs,hg,rfl⟩)
         (fun q a hq=>by
          rcases hP q _ a hq with ⟨ty',y,-,rfl,-⟩ | ⟨c0,t6,xs,e,-⟩
          ·exact .inl ⟨ty',y,rfl⟩
          ·cases e)
         (fun q q' s' a a' hq bD=>by
          rcases hP q _ a hq with ⟨ty',y,e,-⟩ | ⟨c0,t6,xs,e,-⟩
          ·cases e
          ·rcases hP q' _ a' bD with ⟨ty',y,e',-⟩ | ⟨c0,t6,xs,e',-⟩
           ·cases e'
           ·cases e;cases e';rfl)
         (fun d hd=>by cases hd)
         (fun γ' ez q o a hq=>by
          have b_:=(WQ.1 hq).1;obtain ⟨o',a',bD,u,hu,-,h1,h2,h3,h4⟩:=look q (by omega);rw [hq] at bD;simp only [WJ,WK] at bD;obtain ⟨rfl,rfl⟩:=bD;refine ⟨u,?_,fun s' bj=>by rw [h1 s' bj];exact hu,h2,h3,fun h0 tag c off len e=>absurd e (h4 h0 tag c off len)⟩;simp only [pJ,cell];rw [show γ' (pp s)=some b by rw [ez _ rfl];exact hb];simp only [Xl];rw [pM o_,qq cn,WZ (by omega),WY (by omega),show c+q-c=q by omega,Xa];exact at_ q (by omega) u hu)
         (fun s' n' q e=>by obtain ⟨rfl,-⟩:=rS.1 e;exact ⟨cb,tag,n,hs⟩)
         (fun s' j q e=>absurd e.symm pS)
         (fun γ' ez k e hk he=>by
          refine rp (fun _=>rfl) (fun ht=>?_);obtain ⟨aD,c',tag',m,aa⟩:=rC h he ht;refine ⟨ez _ _ aa (by simp) fun q=>px,fun b' s_=>?_⟩
          by_cases cj:b'=b
          ·subst cj
           have:=pZ.1 (h.inj _ _ _ s_ hb)
           rw [pM o_,pM hh,qq cn];split
           ·rfl
           ·split
            ·rename_i q1 q2
             exact absurd (by rw [aD,this];simp [cell];omega) (hk (k.b-c) (by omega))
            ·rfl
          ·exact sk (S_ b' cj))
        simp only [Gi,XD] at q1 q2;have z_:=ut (w:=w) hG ap (v:=ev tm v) (by rw [cI];exact dG) b7 hh (o:=c) (by omega);rw [cI] at z_;exact wp_skip (n_ _ (by rw [aQ];exact z_)) az ⟨rfl,f_,_,_,hW,q1,q2⟩
       ·exact pq
      refine wn hG h [] hp v ty pq fun cv x ws hf hV=>?_
      split
      ·rename_i ae
       have:=WO ae
       subst this;intro hW;obtain ⟨γ',r1,r2,r3,r4,r5,r6,r7,r8⟩:=Rel.frz hG h g_ hf;have dO:=hV _ r5 r6;obtain ⟨k1,k2,k3,k4,k5⟩:=yn hG k_ dO;have bK:∀c tag xs,σ.get (pp s)≠some ⟨[],.own c tag xs⟩:=fun c tag xs q=>by rw [hs] at q;cases q
       have aa:(σ.puts ws).get (pp s)=some ⟨[],.box cb tag n⟩:=by rw [r3 _ bK];exact hs
       have gg:γ' (pp s)=some b:=by
        rw [(r4 (pp s) fun e hm=>?_).2,hb];obtain ⟨c',xs',tag',-,hg⟩:=hf _ _ hm;exact bK _ _ _ hg
       have ai:=sM (c:=cv) hS;have i_:=(hG _ _ _ k_).len;rw [ai] at i_;obtain ⟨γ2,q1,q2⟩:=Rel.cells hG r1 r2 aa gg hh (c:=c) (vals:=(ev tm v).cells.toList) (xs:=x.leaves) (tys:=ti.leaves) (by omega) (by omega) (by omega) (fun j y t hy ht=>by
        obtain ⟨u,hu,hl⟩:=k5 j y t hy (by rw [ai];exact ht);obtain ⟨t1,bZ,aX⟩:=(hG _ _ _ k_).leaf t (by rw [ai];exact XR ht);have aA:=zY hl;exact ⟨u,hu,sn bZ aX (qz hG bZ aX) aA.2 aA.1 hl⟩)
       have fP:K ((σ.puts ws).puts (cellsOf s c ti.leaves x.leaves)):=by rw [←pV,←qo k3];exact hW
       exact wp_skip (n_ _ (by rw [aQ];exact ut hG ap (by rw [←k2];simp) k4 hh (by omega))) az ⟨rfl,f_,_,_,fP,q1,q2.mono fun _=>.inl⟩
      ·exact pq
     ·rename_i hS
      have bz:=qz hG k_ hS;have one:∀(σ1:St) (γ1:Key→Option Nat) (ks:Key) (av:AV) (g:Option Nat) (σ2:St),Rel C.tab fr tm w σ1 γ1→Wf C D σ1→σ1.get (pp s)=some ⟨[],.box cb tag n⟩→γ1 (pp s)=some b →
        ((∃c y,av=.t c y∧g=none∧V C.tab w (Ob fr γ1) c (ev tm v) y)∨(∃c xs,av=.own c (i+1) xs∧Own C.tab w (Ob fr γ1) c (ev tm v) g xs)) →
        (g=none∨(tR σ1 ks∧g=γ1 ks))→(ks=cell s c∨tR σ1 ks)→(ev tm v).cells=#[ev tm v]→(ev tm v).oneCell'=true →
        (∀k,σ2.get k=((σ1.put ks (top .u)).put (cell s c) (top av)).get k)→K σ2→o.wp P ⟨tm,[]⟩ w (After C fr (fun j=>D j∨j=i) K) Q:=by
       intro σ1 γ1 ks av g σ2 hr hw bL jN j_ hg ax bA b7 hσ hK;have eA:c+[ev tm v].length≤cs.size:=by simp;omega
       have o_:(w.setRow b (splice cs c [ev tm v])).heap[b]?=some (.cells (splice cs c [ev tm v]) ety (0,0)):=setRow_heap w b cs _ ety (0,0) hh;have S_:∀b',b'≠b→(w.setRow b (splice cs c [ev tm v])).heap[b']?=w.heap[b']? := fun b' t_=>setRow_other w b b' _ t_
       have fQ:pp s≠ks:=by
        rcases ax with q | ⟨c',t',xs',q⟩
        ·rw [q];exact px
        ·rintro rfl
         rw [bL] at q;cases q
       have gg:rN (rN γ1 ks none) (cell s c) g (pp s)=some b:=by rw [qa _ _ px,qa _ _ fQ,jN]
       obtain ⟨q1,q2⟩:=Rel.give (w' := w.setRow b (splice cs c [ev tm v])) (tm' := tm) hG hr hw hi (fun k=>k=pp s) (kt:=cell s c) (ks:=ks) (v:=ev tm v) rfl rfl rfl (by simp)
        (fun b' s_=>S_ b' fun e=>s_ (pp s) rfl (by rw [e];exact jN))
        (by
         rintro k rfl;refine ⟨px,fQ,cb,tag,n,bL,fun b' cs1 ety1 bk cU=>?_⟩;rw [jN] at bk;simp only [WJ] at bk;subst bk;rw [hh] at cU;simp only [WJ,Obj.cells.injEq] at cU;obtain ⟨rfl,rfl,-⟩:=cU;exact ⟨_,o_,qQ eA⟩)
        j_ hg ax
        (fun s' e bj _=>absurd bj.symm px)
        (by rintro s' bj;exact absurd bj.symm px) (.inr ⟨rfl,cb,tag,n,bL⟩)
        (by
         simp only [pJ,cell];rw [show pp s=pp s from rfl,show rN (rN γ1 ks none) ⟨1,s,c⟩ g (pp s)=some b from gg];simp only [Xl];rw [pM o_,qq eA,WZ (by omega),WY (by simp)];simp)
        (by
         intro k e t_ he;refine rp (fun _=>rfl) (fun ht=>?_);obtain ⟨aD,c',tag',m,aa⟩:=rC hr he ht;have fu:pp k.a≠ks:=by
          rcases ax with q | ⟨c',t',xs',q⟩
          ·rw [q];exact px
          ·intro q'
           rw [←q',aa] at q;cases q
         refine ⟨by rw [qa _ _ px,qa _ _ fu],fun b' s_=>?_⟩
         by_cases cj:b'=b
         ·subst cj
          have:=pZ.1 (hr.inj _ _ _ s_ jN)
          rw [pM o_,pM hh,qq eA];split
          ·rfl
          ·split
           ·rename_i q1 q2
            simp at q2;exact absurd (by rw [aD,this];simp [cell];omega) t_
           ·rfl
         ·exact sk (S_ b' cj))
       have z_:=ut (w:=w) hG ap (v:=ev tm v) (by rw [bA,bz];rfl) (by rw [bA];simpa using b7) hh (o:=c) (by omega);rw [bA] at z_;exact wp_skip (n_ _ (by rw [aQ];exact z_)) az ⟨rfl,f_,_,_,hK,q1.congr hσ,q2.congr hσ⟩
      have scal:∀(O:Nat→Prop) (c':TypeId) (y:T),C.tab.at ty=some (c',ti)→V C.tab w O c' (ev tm v) y→(ev tm v).cells=#[ev tm v]∧(ev tm v).oneCell'=true:=by
       intro O c' y dZ hV;have gm:=(hG _ _ _ dZ).self;obtain ⟨hl,-,aA⟩:=sG gm hS hV;refine ⟨?_,IP hl⟩;cases ah:ev tm v<;>first | rfl | (rw [ah] at aA;simp [isAgg] at aA)
      have scalo:∀(O:Nat→Prop) (c':TypeId) (g:Option Nat) (xs:List T),Own C.tab w O c' (ev tm v) g xs→(ev tm v).cells=#[ev tm v]∧(ev tm v).oneCell'=true:=by
       intro O c' g xs hO;have bc:=hO.uU;unfold tC at bc;obtain ⟨t2,e2,ce2,te2,a2,cap2,-,-,-,-,ah,-⟩:=bc;rw [ah];exact ⟨rfl,rfl⟩
      have tyeq:∀{c':TypeId},(∃ti,C.tab.at ty=some (c',ti))→C.tab.at ty=some (c',ti):=by
       rintro c' ⟨ti',h'⟩
       have:=pu ap h'
       simp only [WK] at this;rw [h',this.2]
      refine zj hG h pq (fun fz c' y dZ hf hV=>?_) (fun c' xs dZ hO=>?_) (fun ks c' xs dZ ax hO=>?_)
      ·intro hW
       obtain ⟨γ',r1,r2,r3,r4,r5,r6,r7,r8⟩:=Rel.frz hG h g_ hf;have bK:∀c tag xs,σ.get (pp s)≠some ⟨[],.own c tag xs⟩:=fun c tag xs q=>by rw [hs] at q;cases q
       have aa:(σ.puts fz).get (pp s)=some ⟨[],.box cb tag n⟩:=by rw [r3 _ bK];exact hs
       have gg:γ' (pp s)=some b:=by
        rw [(r4 (pp s) fun e hm=>?_).2,hb];obtain ⟨c',xs',tag',-,hg⟩:=hf _ _ hm;exact bK _ _ _ hg
       have dO:=hV _ r5 r6;obtain ⟨s1,s2⟩:=scal _ _ _ (tyeq dZ) dO;exact one _ γ' (cell s c) (.t c' y) none _ r1 r2 aa gg (.inl ⟨c',y,rfl,rfl,dO⟩) (.inl rfl) (.inl rfl) s1 s2 (fun k=>by rw [pV];exact ug _ _ _ _ _) hW
      ·intro hW
       obtain ⟨s1,s2⟩:=scalo _ _ _ _ hO;exact one σ γ (cell s c) (.own c' (i+1) xs) none _ h g_ hs hb (.inr ⟨c',xs,rfl,hO⟩) (.inl rfl) (.inl rfl) s1 s2 (ug σ _ _ _) hW
      ·intro hW
       obtain ⟨s1,s2⟩:=scalo _ _ _ _ hO;exact one σ γ ks (.own c' (i+1) xs) (γ ks) _ h g_ hs hb (.inr ⟨c',xs,rfl,hO⟩) (.inr ⟨ax,rfl⟩) (.inr ax) s1 s2 (fun _=>rfl) hW
    ·exact pq
   ·exact pq
  | row h0 c xs tag j off b cap ti e ce te hs hj m_ hc hk he hb aQ =>
   simp only;split
   ·rename_i e' aj
    have cD:e'=e:=by
     obtain ⟨c',ti',r1,r2⟩:=DA aj
     have:=pu hc r1
     simp only [WK] at this;rw [←this.2,hk] at r2;simp only [Go.Pl.K.sl.injEq] at r2;exact r2.symm
    subst cD;split
    ·rename_i ce' te' ct t1 aO ap
     have:=pu he aO
     simp only [WK] at this;obtain ⟨rfl,rfl⟩:=this;have k_:=(hG _ _ _ ap).self;have iP:=(hG _ _ _ k_).len;have iQ:=(hG _ _ _ (hG _ _ _ he).self).len;split
     ·rename_i bc
      have bc:=vF bc;have aZ:off+t1.cells≤te.cells:=by
       have:=Xx List.length bc
       have r_:=(hG _ _ _ k_).pos;simp only [Xg,Xi,iP,iQ] at this;omega
      have iR:∀n,n<t1.cells→(te.lv ce)[off+n]?=(t1.lv ct)[n]? := by
       intro n hn;rw [←bc,Xy,WY hn,YM]
      refine wn hG h [] hp v ty pq fun cv x ws hf hV=>?_
      split
      ·rename_i ae T_
       have:=WO ae
       subst this;have dU:∀e',(h0,e') ∉ ws:=by
        intro e' hm
        have:=tT.2 (yN.2 ⟨e',hm⟩)
        rw [T_] at this;cases this
       obtain ⟨γ',r1,r2,r3,r4,r5,r6,r7,r8⟩:=Rel.frz hG h g_ hf;obtain ⟨gn,nr⟩:=r4 h0 dU;have bj:(σ.puts ws).get h0=some ⟨[],.own c tag xs⟩:=gn.trans hs;have s_:γ' h0=some b:=nr.trans hb;obtain ⟨k1,k2,k3,k4,k5⟩:=yn hG k_ (hV _ r5 r6);obtain ⟨cs,e0,hh⟩:∃cs e0,w.heap[b]?=some (.cells cs e0 (0,0)):=by
        obtain ⟨v0,v_,hr,-⟩:=h.ent h0 _ hs;obtain ⟨_,_,_,_,_,_,_,_,dH⟩:=hr trivial
        rcases dH with ⟨-,rfl,-⟩ | ⟨b1,cap1,cs,ak,-,hh,-⟩
        ·simp at hj
        ·rw [hb] at ak
         simp only [WJ] at ak;subst ak;exact ⟨cs,_,hh⟩
       have fin:∀y:T,y.isG=te.isS→y.leaves.length=te.cells→(∀n,n<te.cells→y.leaves[n]?=if off≤n∧n<off+(ev tm v).cells.toList.length then x.leaves[n-off]? else (xs.getD j .u).leaves[n]?) →
         K (σ.puts (ws++[(h0,top (.own c tag (xs.set j y)))]))→o.wp P ⟨tm,[]⟩ w (After C fr (fun j=>D j∨j=i) K) Q:=by
        intro y mu mv mw hK;have aC:=fun z_=>Own.set (v:=.slice (some ⟨b,0,none⟩) xs.length cap) (O:=Ob fr γ') hG (by
          obtain ⟨v0,v_,hr,-⟩:=r1.ent h0 _ bj;have hO:Own C.tab w (Ob fr γ') c v0 (γ' h0) xs:=hr trivial;rw [s_] at hO;obtain ⟨_,_,_,_,_,_,_,_,dH⟩:=id hO
          rcases dH with ⟨dQ,-⟩ | ⟨b1,cap1,cs,ak,aq,-⟩
          ·cases dQ
          ·have ej:=h.ent h0 _ hs
           obtain ⟨v2,af,cV,-⟩:=ej;have jO:Own C.tab w (Ob fr γ) c v2 (γ h0) xs:=cV trivial;rw [m_] at af;simp only [WJ] at af;subst af;rw [hb] at jO;exact jO.mono (fun b2 _ bV=>⟨rfl,fun q=>bV (r5 _ q)⟩) (fun _ _=>rfl)) hh hj hc hk he (vals:=(ev tm v).cells.toList) (ys:=x.leaves) (by omega) (by omega) mu mv mw z_ (fun n q t hq ht=>by
          have hn:n<t1.cells:=by rw [←k3];exact (WQ.1 hq).1
          exact k5 n q t hq (by rw [←iR n hn];exact ht))
        have D_:j*te.cells+off+(ev tm v).cells.toList.length≤cs.size:=by
         obtain ⟨v0,v_,hr,-⟩:=h.ent h0 _ hs;have hO:Own C.tab w (Ob fr γ) c v0 (γ h0) xs:=hr trivial;obtain ⟨ti2,e2,ce2,te2,q1,q2,q3,-,dH⟩:=hO
         have:=pu hc q1
         simp only [WK,W5] at this;subst this;rw [hk] at q2;simp only [Go.Pl.K.sl.injEq] at q2;subst q2
         have:=pu he q3
         simp only [WK] at this;obtain ⟨rfl,rfl⟩:=this
         rcases dH with ⟨dQ,-⟩ | ⟨b1,cap1,cs1,ak,-,cU,B_,-,ns,-⟩
         ·rw [hb] at dQ;cases dQ
         ·rw [hb] at ak
          simp only [WJ] at ak;subst ak;rw [hh] at cU;simp only [WJ,Obj.cells.injEq] at cU;obtain ⟨rfl,-,-⟩:=cU;have br:(j+1)*te.cells≤cap1*te.cells:=Xb _ (by omega);rw [Xe,Yb] at br;omega
        obtain ⟨q1,q2⟩:=Rel.M6 hG r1 r2 bj s_ hh (splice cs (j*te.cells+off) (ev tm v).cells.toList) (xs' := xs.set j y) (by simp) (fun z_ v1 kF=>by
         rw [s_] at kF ⊢;obtain ⟨_,_,_,_,_,_,_,_,dH⟩:=id kF
         rcases dH with ⟨dQ,-⟩ | ⟨b1,cap1,cs1,ak,aq,-⟩
         ·cases dQ
         ·refine (Own.set (O:=Ob fr γ') hG kF hh hj hc hk he (vals:=(ev tm v).cells.toList) (ys:=x.leaves) (by omega) (by omega) mu mv mw z_ (fun n q t hq ht=>by
           have hn:n<t1.cells:=by rw [←k3];exact (WQ.1 hq).1
           exact k5 n q t hq (by rw [←iR n hn];exact ht))).2)
        have ij:K ((σ.puts ws).put h0 (top (.own c tag (xs.set j y)))):=by
         rw [pV] at hK;exact hK
        exact wp_skip (n_ _ (by rw [aQ];exact ut hG ap (by rw [←k2];simp) k4 hh (by omega))) az ⟨rfl,f_,_,_,ij,q1,q2.mono fun _=>.inl⟩
       obtain ⟨m1,m2,-⟩:=GG (O:=Ob fr γ) (hv:=.slice (some ⟨b,0,none⟩) xs.length cap) (by
        obtain ⟨v0,v_,hr,-⟩:=h.ent h0 _ hs;rw [m_] at v_;simp only [WJ] at v_;subst v_;exact hr trivial) hb hj hc hk he
       split
       ·rename_i hS
        intro hW
        cases dR:xs.getD j .u with
        | g l =>
         rw [dR] at m1 m2 hW;simp only [T.leaves] at m2;obtain ⟨l',s1,s2,s3⟩:=Cb (rh x t1.cells) l off;rw [s1] at hW;refine fin (.g l') (by rw [hS];rfl) (by simp only [T.leaves];omega) (fun n hn=>?_) hW;rw [dR];simp only [T.leaves];rw [s3 n (by omega),qo k3,k3,k2];rfl
        | _=>rw [dR,hS] at m1;cases m1
       ·rename_i hS my
        intro hW;have c0:=qz hG (hG _ _ _ he).self hS;have c1:=qz hG k_ my;refine fin x (by rw [k1,hS,my]) (by rw [k3,c0,c1]) (fun n hn=>?_) hW;have fN:n=0:=by omega
        have nu:off=0:=by omega
        subst fN;subst nu;rw [WY (by omega)]
       ·exact pq
      ·exact pq
     ·exact pq
    ·exact pq
   ·exact pq
  | tree=>exact pq
end
section
variable {P:Program} {C:Ctx} {fr:Fr} {tm:Array Value} {w w':World} {σ:St} {γ:Key→Option Nat} {D:Nat→Prop}
theorem Rel.E9 (hG:Good P C.tab) (h:Rel C.tab fr tm w σ γ) (g_:Wf C D σ) {i:Nat} (hi:¬ D i) {d:Nat} {ks:Key} {c:TypeId} {xs:List T} {v:Value} {g:Option Nat} (hd:d<tm.size)
  (d_:σ.get (pp d)=none) (cK:w'.os=w.os) (Y_:w'.tape=w.tape) (Q_:w'.output=w.output) (Z_:w.heap.size≤w'.heap.size)
  (F_:∀b,b<w.heap.size→(tR σ ks→γ ks≠some b)→w'.heap[b]?=w.heap[b]?)
  (hg:g=none∨(tR σ ks∧g=γ ks)∨∃b,g=some b∧w.heap.size≤b∧b<w'.heap.size) (ax:ks=pp d∨tR σ ks)
  (hO:∀O',Stays w w' (Ob fr γ) O'→Own C.tab w' O' c v g xs) :
  Rel C.tab fr (tm.setIfInBounds d v) w' ((σ.put ks (top .u)).put (pp d) (top (.own c (i+1) xs))) (rN (rN γ ks none) (pp d) g) ∧
   Wf C (fun j=>D j∨j=i) ((σ.put ks (top .u)).put (pp d) (top (.own c (i+1) xs))):=by
 have o_:∀k,k≠pp d→k≠ks→((σ.put ks (top .u)).put (pp d) (top (.own c (i+1) xs))).get k=σ.get k:=fun k h1 h2=>by rw [pD h1,pD h2]
 have iK:((σ.put ks (top .u)).put (pp d) (top (.own c (i+1) xs))).get (pp d)=some (top (.own c (i+1) xs)):=pB;have iL:ks≠pp d→((σ.put ks (top .u)).put (pp d) (top (.own c (i+1) xs))).get ks=some (top .u):=fun q=>by rw [pD q,pB]
 have x_:∀k e,((σ.put ks (top .u)).put (pp d) (top (.own c (i+1) xs))).get k=some e→k=pp d∧e=top (.own c (i+1) xs)∨k≠pp d∧k=ks∧e=top .u∨k≠pp d∧k≠ks∧σ.get k=some e:=by
  intro k e he
  by_cases h1:k=pp d
  ·subst h1;rw [iK] at he;exact .inl ⟨rfl,(W3 he).symm⟩
  ·by_cases h2:k=ks
   ·subst h2;rw [iL h1] at he;exact .inr (.inl ⟨h1,rfl,(W3 he).symm⟩)
   ·rw [o_ k h1 h2] at he;exact .inr (.inr ⟨h1,h2,he⟩)
 have ex_ne:∀{k:Key} {e:Ent},σ.get k=some e→k≠pp d:=by
  rintro k e he rfl;rw [d_] at he;cases he
 have ks_ne:∀{k:Key} {e:Ent},σ.get k=some e→(∀c tag xs,e≠⟨[],.own c tag xs⟩)→k≠ks:=by
  rintro k e he t_ rfl
  rcases ax with rfl | ⟨c,tag,xs,hh⟩
  ·exact ex_ne he rfl
  ·rw [he] at hh;exact t_ c tag xs (W3 hh)
 have aE:¬ Old D (i+1):=by
  rintro (q | ⟨j,hj,q⟩)
  ·cases q
  ·have:i=j:=by omega
   subst this;exact hi hj
 have m_:∀k e,k≠pp d→σ.get k=some e→pJ (tm.setIfInBounds d v) w' (rN (rN γ ks none) (pp d) g) k=pJ tm w γ k:=by
  intro k e t_ he;refine rp (fun ht=>?_) (fun ht=>?_)
  ·have:d≠k.a:=by
    intro q
    by_cases h0:k.tag=0
    ·exact t_ (by rw [sT h he h0,q])
    ·obtain ⟨v0,v_,-⟩:=h.ent k e he
     have h2:k.tag=2:=by
      obtain ⟨t,a,b⟩:=k;unfold pJ at v_
      match t with
      | 0=>exact absurd rfl h0
      | 1=>exact absurd rfl ht
      | 2=>rfl
      | n+3=>cases v_
     obtain ⟨-,q',m,hh⟩:=uq h he h2;rw [←q,d_] at hh;cases hh
   simp [Xp,this]
  ·obtain ⟨hk,c,tag,m,hs⟩:=rC h he ht
   have q1:=ex_ne hs;have q2:=ks_ne hs (by simp);refine ⟨by rw [qa _ _ q1,qa _ _ q2],fun b hb=>sk ?_⟩;exact F_ b (h.blk _ b hb).1 fun _ s_=>q2 (h.inj _ _ b hb s_)
 refine Rel.upd hG h g_ (fun k=>k=pp d∨k=ks) (fun _=>False) cK Y_ Q_ Z_ ?_ (fun _ _ q=>q.elim) ?_ ?_ ?_ ?_ ?_ ?_ ?_ ?_ ?_ ?_ (fun tag ho=>ho.mono fun _=>.inl) ?_ ?_ ?_ ?_
 ·exact fun b hb hk=>F_ b hb fun _=>hk ks (.inl (.inr rfl))
 ·intro k hk
  rw [qa _ _ fun q=>hk (.inl q),qa _ _ fun q=>hk (.inr q)]
 ·intro k b hk hb
  have ak:g=some b:=by
   by_cases h1:k=pp d
   ·subst h1;rw [qg] at hb;exact hb
   ·rcases hk with hk | hk
    ·exact absurd hk h1
    ·subst hk
     rw [qa _ _ h1,qg] at hb;cases hb
  rcases hg with hg | ⟨-,hg⟩ | ⟨b',hg,h1,h2⟩
  ·rw [hg] at ak;cases ak
  ·exact .inl ⟨ks,.inr rfl,by rw [←hg];exact ak⟩
  ·rw [hg] at ak
   simp only [WJ] at ak;subst ak;exact .inr ⟨h1,h2⟩
 ·intro k k' b hk e_ hb s_
  have one:∀k,k=pp d∨k=ks→rN (rN γ ks none) (pp d) g k=some b→k=pp d:=by
   intro k hk hb
   by_cases h1:k=pp d
   ·exact h1
   ·rcases hk with hk | hk
    ·exact hk
    ·subst hk
     rw [qa _ _ h1,qg] at hb;cases hb
  rw [one k hk hb,one k' e_ s_]
 ·intro k hk
  exact o_ k (fun q=>hk (.inl q)) fun q=>hk (.inr q)
 ·intro k e hk he
  exact m_ k e (fun q=>hk (.inl q)) he
 ·intro s n e he
  have:∃c tag m,σ.get (pp s)=some ⟨[],.box c tag m⟩:=by
   rcases x_ _ e he with ⟨h1,-⟩ | ⟨h0,h2,-⟩ | ⟨-,-,h3⟩
   ·exact absurd h1.symm px
   ·rcases ax with q | ⟨c,tag,xs,hh⟩
    ·exact absurd (h2.trans q) h0
    ·rw [←h2] at hh;exact h.cel s n _ hh
   ·exact h.cel s n e h3
  obtain ⟨c,tag,m,hb⟩:=this;exact ⟨c,tag,m,by rw [o_ _ (ex_ne hb) (ks_ne hb (by simp))];exact hb⟩
 ·intro s j e he
  have:∃q m,σ.get (pp s)=some ⟨q,.tup m⟩:=by
   rcases x_ _ e he with ⟨h1,-⟩ | ⟨h0,h2,-⟩ | ⟨-,-,h3⟩
   ·exact absurd h1.symm pK
   ·rcases ax with q | ⟨c,tag,xs,hh⟩
    ·exact absurd (h2.trans q) h0
    ·rw [←h2] at hh;exact h.cmp s j _ hh
   ·exact h.cmp s j e h3
  obtain ⟨q,m,hb⟩:=this;exact ⟨q,m,by rw [o_ _ (ex_ne hb) (ks_ne hb (by simp))];exact hb⟩
 ·rintro s q c x hs hh hk
  rcases hk with hk | hk
  ·exact ex_ne hh hk
  ·exact ks_ne hh (by simp) hk
 ·intro k hk _
  by_cases h1:k=pp d
  ·rw [h1,iK];simp
  ·rcases hk with hk | hk
   ·exact absurd hk h1
   ·subst hk;rw [iL h1];simp
 ·intro k e tag hk he ht
  rcases x_ k e he with ⟨-,rfl⟩ | ⟨-,-,rfl⟩ | ⟨h1,h2,-⟩
  ·simp only [top,AV.re,WJ] at ht
   subst ht;exact uZ
  ·cases ht
  ·exact absurd hk (by rintro (q | q);exact h1 q;exact h2 q)
 ·intro k tag hk _ ho
  refine uK (D:=D) (fun e t he ht q=>?_) ho
  rcases x_ k e he with ⟨-,rfl⟩ | ⟨-,-,rfl⟩ | ⟨h1,h2,-⟩
  ·simp only [top,AV.re,WJ] at ht
   subst ht;exact aE q
  ·cases ht
  ·exact absurd hk (by rintro (q | q);exact h1 q;exact h2 q)
 ·intro k e h0 tag hk he hh
  rcases x_ k e he with ⟨-,rfl⟩ | ⟨-,-,rfl⟩ | ⟨h1,h2,-⟩
  ·cases hh
  ·cases hh
  ·exact absurd hk (by rintro (q | q);exact h1 q;exact h2 q)
 ·intro k e s b hk he hm
  rcases x_ k e he with ⟨-,rfl⟩ | ⟨-,-,rfl⟩ | ⟨h1,h2,-⟩
  ·simp [top] at hm
  ·simp [top] at hm
  ·exact absurd hk (by rintro (q | q);exact h1 q;exact h2 q)
 ·intro A_ k e hk he
  rcases x_ k e he with ⟨rfl,rfl⟩ | ⟨h1,rfl,rfl⟩ | ⟨h1,h2,-⟩
  ·refine ⟨v,by rw [pz];simp [hd],fun _=>?_,fun q=>absurd trivial q⟩
   show Own C.tab w' _ c v (rN (rN γ ks none) (pp d) g (pp d)) xs
   rw [qg];exact hO _ A_
  ·rcases ax with q | ⟨c,tag,xs,hh⟩
   ·exact absurd q h1
   ·obtain ⟨v0,v_,-⟩:=h.ent k _ hh
    exact ⟨v0,by rw [m_ k _ h1 hh];exact v_,fun _=>trivial,fun q=>absurd trivial q⟩
  ·exact absurd hk (by rintro (q | q);exact h1 q;exact h2 q)
theorem Good.zero (hG:Good P C.tab) {t c:TypeId} {ti:TI} (h:C.tab.at t=some (c,ti)):∃i z,P.info? t=some i∧i.size=ti.cells∧i.bytes=ti.bytes∧i.zero=some z ∧
  ti.zero.isG=ti.isS∧z.cells.size=ti.cells∧ti.zero.leaves.length=ti.cells∧∀w O (j:Nat) y ty,ti.zero.leaves[j]?=some y→(ti.lv c)[j]?=some ty→∃u,z.cells[j]?=some u∧L C.tab w O ty u y:=by
 obtain ⟨i,z,h1,h2,h3,h4,h5,-⟩:=(hG t c ti h).info;have k_:=(hG t c ti h).self;refine ⟨i,z,h1,h2,h3,h4,?_⟩;obtain ⟨ti',q1,q2,q3,q4,q5,-⟩:=h5 default (fun _=>False)
 have:=pu k_ q1
 simp only [WK,W5] at this;subst this;refine ⟨q2,q4,q5,fun w O j y ty hy ht=>?_⟩;obtain ⟨ti',q1,q2,q3,q4,q5,q6⟩:=h5 w O
 have:=pu k_ q1
 simp only [WK,W5] at this;subst this;exact q6 j y ty hy ht
theorem CH {z:Array Value} {n m k:Nat} (hz:0<z.size) (hk:m*z.size+k<n) (jP:k<z.size):(madeCells z n)[m*z.size+k]?=z[k]? := by
 have e:(m*z.size+k)%z.size=k:=by
  rw [W8,Zp,Xj jP]
 simp [madeCells,hk,e,jP]
variable (hG:Good P C.tab) (h:Rel C.tab fr tm w σ γ) (g_:Wf C D σ) (f_:tm.size=C.nt) {i:Nat} (hi:¬ D i) {o:Oper} {p:Path} {K:St→Prop} {Q:Exit→Act→World→Prop}
theorem pY (w:World) (x:Obj):(w.alloc x).heap.size=w.heap.size+1:=Array.size_push _
theorem zJ {ti:TI} {e:TypeId} (h:ti.k.elem=some e):ti.k=.sl e:=by
 cases hk:ti.k<;>simp [hk,K.elem] at h;rw [h]
include hG h g_ f_ hi
theorem Fo {ty:TypeId} {l c:Operand} (ho:o.op=.makeSlice ty l c):Sound P C fr tm w σ D i o p K Q ((QH C i p o ty l c).run σ):=by
 unfold QH
 cases p with
 | cons=>exact pq
 | nil =>
  have hp:σ.Holds []:=trivial;simp only;refine pI _ _ pq fun d hd hn hv d_=>?_
  refine ru hG h [] hp l 3 pq fun cl vl hl=>?_
  refine ru hG h [] hp c 3 pq fun cc vc hc=>?_
  refine qC _ pq fun cr tr hr=>?_
  split
  ·rename_i kl kc e bh aD aj
   have hk:=zJ aj;split
   ·rename_i ce te he
    obtain ⟨el,-,-⟩:=hl.int bh;obtain ⟨ec,-,-⟩:=hc.int aD;have k_:=(hG _ _ _ hr).self;have r_:=(hG _ _ _ he).pos;have hu:=hG.slice (t:=ty) (e:=e) (by unfold Ctx.el Ctx.kd;rw [hr];exact aj);obtain ⟨inf,z,z1,z2,z3,z4,z5,z6,z7,z8⟩:=hG.zero he;intro hW;obtain ⟨⟨b0,b1,b2,b3⟩,hK⟩:(0≤vl.int∧vl.int≤vc.int∧(te.bytes:Int)*vc.int≤281474976710656∧vc.int≤9223372036854775807)∧K (σ.puts [(pp d,top (.own cr (i+1) (List.replicate vl.int.toNat te.zero)))]):=hW;have n_:=run_make w ty e inf z hu z1 z4 kl kc vl.int vc.int b0 b1 (by rw [z3];exact b2) b3;have ay:(execOp (Act.eval ⟨tm,[]⟩) o).run P w=.ok (.value (.slice (some ⟨w.heap.size,0,none⟩) vl.int.toNat vc.int.toNat)) (w.alloc (.cells (madeCells z.cells (vc.int.toNat*inf.size)) e)):=by
     unfold ev at el ec;simp only [execOp,ho,el,ec];rw [Sem.run_bind,n_];rfl
    have V_:=heap_alloc_new w (.cells (madeCells z.cells (vc.int.toNat*inf.size)) e);obtain ⟨r1,r2⟩:=Rel.E9 (w' := w.alloc (.cells (madeCells z.cells (vc.int.toNat*inf.size)) e)) (ks:=pp d) (d:=d) (c:=cr) (xs:=List.replicate vl.int.toNat te.zero) (v:=.slice (some ⟨w.heap.size,0,none⟩) vl.int.toNat vc.int.toNat) (g:=some w.heap.size)
     hG h g_ hi (by rw [f_];exact hn) d_ rfl rfl rfl (by rw [pY];omega) (fun b hb _=>heap_alloc_old w _ b hb) (.inr (.inr ⟨_,rfl,WU _,by rw [pY];omega⟩)) (.inl rfl) (fun O' z_=>by
      refine ⟨tr,e,ce,te,k_,hk,he,r_,.inr ⟨_,vc.int.toNat,_,rfl,by rw [Xm],V_,by rw [Xm];omega,by simp only [maxLen];omega,by rw [size_madeCells,z2],fun j x hx=>?_⟩⟩;have hj:j<vl.int.toNat:=by
       have:=(WQ.1 hx).1
       simpa using this
      rw [YK,WY hj] at hx;simp only [WJ] at hx;subst hx;refine ⟨z5,z7,fun n y t hy ht=>?_⟩;have fH:n<te.cells:=by rw [←z7];exact (WQ.1 hy).1
      obtain ⟨u,aw,hL⟩:=z8 (w.alloc (.cells (madeCells z.cells (vc.int.toNat*inf.size)) e)) O' n y t hy ht;refine ⟨u,?_,hL⟩;rw [←z6,CH (by rw [z6];exact r_) ?_ (by rw [z6];exact fH)]
      ·exact aw
      ·have:=Xb te.cells (show j+1≤vc.int.toNat by omega)
       rw [Xe,Yb] at this;rw [z6,z2];omega)
    exact rU ay hd ⟨rfl,by simp [f_],_,_,hK,r1.congr (ug σ _ _ _),r2.congr (ug σ _ _ _)⟩
   ·exact pq
  ·exact pq
end
section
variable {P:Program} {C:Ctx} {fr:Fr} {tm:Array Value} {w w':World} {σ:St} {γ:Key→Option Nat} {D:Nat→Prop}
theorem Mm (off:Nat):∀(vs:List Value) (k:Nat) (cs:Array Value),off+k+vs.length≤cs.size →
  ((vs.zipIdx k).foldl (fun cs (x:Value×Nat)=>cs.setIfInBounds (off+x.2) x.1) cs).size=cs.size ∧
  ∀m:Nat,((vs.zipIdx k).foldl (fun cs (x:Value×Nat)=>cs.setIfInBounds (off+x.2) x.1) cs)[m]?=if off+k≤m∧m<off+k+vs.length then vs[m-(off+k)]? else cs[m]? := by
 intro vs
 induction vs with
 | nil =>
  intro k cs _;refine ⟨rfl,fun m=>?_⟩;rw [WZ (by simp)];rfl
 | cons v vs ih =>
  intro k cs hl;simp only [W4] at hl;obtain ⟨q1,q2⟩:=ih (k+1) (cs.setIfInBounds (off+k) v) (by simp;omega);simp only [List.zipIdx_cons,ZL];refine ⟨by rw [q1];simp,fun m=>?_⟩;rw [q2 m]
  by_cases h1:off+(k+1)≤m∧m<off+(k+1)+vs.length
  ·rw [WY h1,WY (by simp;omega),show m-(off+k)=(m-(off+(k+1)))+1 by omega,WR]
  ·rw [WZ h1,Xp]
   by_cases h2:off+k=m
   ·subst h2
    rw [WY rfl,WY (by omega),WY (by simp)];simp
   ·rw [WZ h2,WZ (by simp;omega)]
theorem E4 {cs:Array Value} {off:Nat} {vs:Array Value} (h:off+vs.size≤cs.size) :
  vs.zipIdx.foldl (fun cs (x:Value×Nat)=>cs.setIfInBounds (off+x.2) x.1) cs=splice cs off vs.toList:=by
 have hl:=Ye (xs:=vs);obtain ⟨q1,q2⟩:=Mm off vs.toList 0 cs (by rw [hl];omega);rw [←Array.foldl_toList,Array.toList_zipIdx];apply Array.ext_getElem?;intro m;rw [q2 m,qq (by rw [hl];exact h)];simp only [XW]
 by_cases h1:m<off
 ·rw [WY h1,WZ (by omega)]
 ·rw [WZ h1]
  by_cases h2:m<off+vs.toList.length
  ·rw [WY h2,WY (by omega)]
  ·rw [WZ h2,WZ (by omega)]
theorem xF {place:Nat→Option (Nat×Nat)} {cs:Array Value} {j off size:Nat} {v:Value} {rest:List (Nat×Value)} (hp:place j=some (off,size)) (hv:v.cells.size=size) (hf:off+size≤cs.size) :
  Instr.fill place cs ((j,v)::rest)=Instr.fill place (splice cs off v.cells.toList) rest:=by
 have h1:=E4 (cs:=cs) (off:=off) (vs:=v.cells) (by rw [hv];exact hf);rw [←h1];have h2:¬ (off+size > cs.size):=by omega
 simp only [Instr.fill,hp,hv,ne_eq,not_true_eq_false,h2,decide_false,Bool.or_self,if_false];rfl
def Elems (tab:Tab) (w:World) (O:Nat→Prop) (ce:TypeId) (te:TI) (cs:Array Value) (xs:List T):Prop :=
 cs.size=xs.length*te.cells∧∀(j:Nat) x,xs[j]?=some x→x.isG=te.isS∧x.leaves.length=te.cells ∧
  ∀(n:Nat) y ty,x.leaves[n]?=some y→(te.lv ce)[n]?=some ty→∃u,cs[j*te.cells+n]?=some u∧L tab w O ty u y
theorem Elems.put (hG:Good P C.tab) {O:Nat→Prop} {ce:TypeId} {te:TI} {cs:Array Value} {xs:List T} (h:Elems C.tab w O ce te cs xs) (bA:C.tab.at ce=some (ce,te)) {j:Nat} (hj:j<xs.length) {v:Value} {y:T}
  (hV:V C.tab w O ce v y):j*te.cells+te.cells≤cs.size∧v.cells.size=te.cells∧Elems C.tab w O ce te (splice cs (j*te.cells) v.cells.toList) (xs.set j y):=by
 obtain ⟨h1,h2⟩:=h;obtain ⟨k1,k2,k3,k4,k5⟩:=yn hG bA hV;have br:=Xb te.cells (show j+1≤xs.length by omega);rw [Xe,Yb] at br;have D_:j*te.cells+v.cells.toList.length≤cs.size:=by omega
 refine ⟨by omega,by rw [←k2];simp,by rw [qQ D_,h1,Yw],fun m x hx=>?_⟩;rw [YA] at hx
 by_cases gi:j=m
 ·subst gi
  simp only [Zf,hj] at hx;simp only [WJ] at hx;subst hx;refine ⟨k1,k3,fun n q ty hq ht=>?_⟩;have hn:n<te.cells:=by rw [←k3];exact (WQ.1 hq).1
  obtain ⟨u,hu,hl⟩:=k5 n q ty hq ht;exact ⟨u,by rw [qq D_,WZ (by omega),WY (by omega),show j*te.cells+n-j*te.cells=n by omega];exact hu,hl⟩
 ·rw [WZ gi] at hx
  obtain ⟨q1,q2,q3⟩:=h2 m x hx;refine ⟨q1,q2,fun n q ty hq ht=>?_⟩;have hn:n<te.cells:=by rw [←q2];exact (WQ.1 hq).1
  obtain ⟨u,hu,hl⟩:=q3 n q ty hq ht;refine ⟨u,?_,hl⟩;rw [qq D_]
  rcases Nat.lt_or_gt_of_ne gi with q | q
  ·have:=Xb te.cells (show j+1≤m by omega)
   rw [Xe,Yb] at this;rw [WZ (by omega),WZ (by omega)];exact hu
  ·have:=Xb te.cells (show m+1≤j by omega)
   rw [Xe,Yb] at this;rw [WY (by omega)];exact hu
inductive Di (C:Ctx) (tm:Array Value) (w:World) (O:Nat→Prop) (γ:Key→Option Nat) (e:TypeId):List (Nat×Operand)→List T→List T→List (Key×Ent)→Prop where
 | nil (xs:List T):Di C tm w O γ e [] xs xs []
 | cons (j:Nat) (x:Operand) (r:List (Nat×Operand)) (xs xs':List T) (c:TypeId) (te:TI) (y:T) (ws ws':List (Key×Ent)) (ht:C.tab.at e=some (c,te))
   (hV:zr C.tab w O γ ws c (ev tm x) y) (hj:j<xs.length) (hr:Di C tm w O γ e r (xs.set j y) xs' ws'):Di C tm w O γ e ((j,x)::r) xs xs' (ws++ws')
theorem A0 (hG:Good P C.tab) (h:Rel C.tab fr tm w σ γ) (e:TypeId) {k:List T→List (Key×Ent)→R} {motive:qO→Prop} (c_:motive .bad) :
  ∀(parts:List (Nat×Operand)) (xs:List T) (ws0:List (Key×Ent)) (_:Frz σ ws0) (_:∀xs' ws,Frz σ (ws0++ws)→Di C tm w (Ob fr γ) γ e parts xs xs' ws→motive ((k xs' (ws0++ws)).run σ)),motive ((B1 C e parts xs ws0 k).run σ):=by
 intro parts
 induction parts with
 | nil =>
  intro xs ws0 hf l_
  have:=l_ xs [] (by simpa using hf) (.nil xs)
  simpa [B1] using this
 | cons a r ih =>
  intro xs ws0 hf l_;obtain ⟨j,x⟩:=a;simp only [B1];refine wn hG h [] trivial x e c_ fun c y ws jQ hV=>?_
  split
  ·rename_i ce bA
   split
   ·rename_i ae
    have ae:=WO ae;subst ae;split
    ·rename_i hj
     have hj:=Xd hj;obtain ⟨te,fk⟩:∃te,C.tab.at e=some (c,te):=by
      cases ht:C.tab.at e with
      | none=>rw [ht] at bA;cases bA
      | some q =>
       obtain ⟨c',te⟩:=q;rw [ht] at bA;simp only [XH,WJ] at bA;subst bA;exact ⟨te,rfl⟩
     refine ih (xs.set j y) (ws0++ws) (hf.append jQ) fun xs' ws' dN hP=>?_
     rw [W7] at dN ⊢;exact l_ xs' (ws++ws') dN (.cons j x r xs xs' c te y ws ws' fk hV hj hP)
    ·exact c_
   ·exact c_
  ·exact c_
theorem BO (hG:Good P C.tab) {O O':Nat→Prop} {e ce:TypeId} {te:TI} (he:C.tab.at e=some (ce,te)) {parts:List (Nat×Operand)} {xs xs':List T} {ws:List (Key×Ent)} (hP:Di C tm w O γ e parts xs xs' ws)
  (hO:∀b,O' b→O b):Free γ ws O'→∀cs,Elems C.tab w O' ce te cs xs→xs'.length=xs.length ∧
   ∃cs',Instr.fill (fun i=>some (i*te.cells,te.cells)) cs (parts.map fun q=>(q.1,ev tm q.2))=some cs'∧Elems C.tab w O' ce te cs' xs' := by
 induction hP with
 | nil xs=>exact fun _ cs hE=>⟨rfl,cs,rfl,hE⟩
 | cons j x r xs xs' c te' y ws ws' ht hV hj hr ih =>
  intro hF cs hE
  have:=pu he ht
  simp only [WK] at this;obtain ⟨rfl,rfl⟩:=this;have bA:=(hG _ _ _ he).self;obtain ⟨q1,q2,q3⟩:=hE.put hG bA hj (hV O' hO hF.left);obtain ⟨l1,cs',f1,f2⟩:=ih hF.right _ q3;refine ⟨by rw [l1,Yw],cs',?_,f2⟩;simp only [XP];rw [xF (place:=fun i=>some (i*te.cells,te.cells)) rfl q2 q1];exact f1
theorem wi {ty e ce:TypeId} {te:TI} {n:Nat} {inf:TypeInfo} {z:Value} (hu:P.underlying ty=some (.slice e)) (he:C.tab.at e=some (ce,te)) (hG:Good P C.tab) (P_:n*te.cells≤16777216) (z1:P.info? e=some inf)
  (z4:inf.zero=some z) {parts:Array (Nat×Value)} {cs':Array Value} (hf:Instr.fill (fun i=>some (i*te.cells,te.cells)) (madeCells z.cells (n*te.cells)) parts.toList=some cs') :
  (Instr.buildSlice ty n parts).run P w=.ok (.slice (some ⟨w.heap.size,0,none⟩) n n) (w.alloc (.cells cs' e)):=by
 have nv:¬ (2 ^ 24<n*te.cells):=by omega
 by_cases h0:n*te.cells=0
 ·have hm:∀f:Nat→Value,(Array.range 0).map f=#[]:=by intro f;simp [Array.range_zero']
  unfold madeCells at hf;rw [h0,hm] at hf;simp only [Instr.buildSlice,Sem.run_bind,run_underlying hu,Result.andThen_ok,vE hG he,h0];simp only [hm,hf];simp [newRow]
 ·unfold madeCells at hf
  simp [Instr.buildSlice,run_underlying hu,vE hG he,nv,zeroValue,typeInfo,z1,z4,h0,newRow,hf]
variable (hG:Good P C.tab) (h:Rel C.tab fr tm w σ γ) (g_:Wf C D σ) (f_:tm.size=C.nt) {i:Nat} (hi:¬ D i) {o:Oper} {p:Path} {K:St→Prop} {Q:Exit→Act→World→Prop}
theorem uL {ws:List (Key×Ent)} {k:Key} (h3:∀k,(∀c tag xs,σ.get k≠some ⟨[],.own c tag xs⟩)→(σ.puts ws).get k=σ.get k) (d_:σ.get k=none):(σ.puts ws).get k=none:=by
 rw [h3 k fun c tag xs q=>by rw [d_] at q;cases q];exact d_
include hG h g_ f_ hi
theorem yz {ty:TypeId} {n:Nat} {parts:Array (Nat×Operand)} (ho:o.op=.buildSlice ty n parts):Sound P C fr tm w σ D i o p K Q ((w8 C i p o ty n parts).run σ):=by
 unfold w8
 cases p with
 | cons=>exact pq
 | nil =>
  simp only;refine pI _ _ pq fun d hd hn hv d_=>?_
  refine qC _ pq fun cr tr hr=>?_
  split
  ·rename_i e aj
   have hk:=zJ aj;split
   ·rename_i ce te he
    split
    ·rename_i P_
     have P_:=Xd P_;have k_:=(hG _ _ _ hr).self;have r_:=(hG _ _ _ he).pos;have hu:=hG.slice (t:=ty) (e:=e) (by unfold Ctx.el Ctx.kd;rw [hr];exact aj);obtain ⟨inf,z,z1,z2,z3,z4,z5,z6,z7,z8⟩:=hG.zero he;refine A0 hG h e pq _ _ [] Frz.nil fun xs' ws hf hP=>?_
     simp only [Yc] at hf ⊢;intro hW;obtain ⟨γ',r1,r2,r3,r4,r5,r6,r7,r8⟩:=Rel.frz hG h g_ hf;have iS:Elems C.tab w (Ob fr γ') ce te (madeCells z.cells (n*te.cells)) (List.replicate n te.zero):=by
      refine ⟨by rw [size_madeCells,Xm],fun j x hx=>?_⟩;have hj:j<n:=by
       have:=(WQ.1 hx).1
       simpa using this
      rw [YK,WY hj] at hx;simp only [WJ] at hx;subst hx;refine ⟨z5,z7,fun m y t hy ht=>?_⟩;have fH:m<te.cells:=by rw [←z7];exact (WQ.1 hy).1
      obtain ⟨u,aw,hL⟩:=z8 w (Ob fr γ') m y t hy ht;refine ⟨u,?_,hL⟩;rw [←z6,CH (by rw [z6];exact r_) ?_ (by rw [z6];exact fH)]
      ·exact aw
      ·have:=Xb te.cells (show j+1≤n by omega)
       rw [Xe,Yb] at this;rw [z6];omega
     obtain ⟨i_,cs',bM,hE⟩:=BO hG he hP r5 r6 _ iS;rw [Xm] at i_;have da:Instr.fill (fun i=>some (i*te.cells,te.cells)) (madeCells z.cells (n*te.cells)) (parts.map fun q=>(q.1,Act.eval ⟨tm,[]⟩ q.2)).toList=some cs' := by
      rw [Zj];exact bM
     have bL:(Instr.buildSlice ty n (parts.map fun q=>(q.1,Act.eval ⟨tm,[]⟩ q.2))).run P w=.ok (.slice (some ⟨w.heap.size,0,none⟩) n n) (w.alloc (.cells cs' e)):=by
      exact wi hu he hG P_ z1 z4 da
     have ay:(execOp (Act.eval ⟨tm,[]⟩) o).run P w=.ok (.value (.slice (some ⟨w.heap.size,0,none⟩) n n)) (w.alloc (.cells cs' e)):=by
      simp only [execOp,ho];rw [Sem.run_bind,bL];rfl
     have V_:=heap_alloc_new w (.cells cs' e);obtain ⟨s1,s2⟩:=Rel.E9 (w' := w.alloc (.cells cs' e)) (ks:=pp d) (d:=d) (c:=cr) (xs:=xs') (v:=.slice (some ⟨w.heap.size,0,none⟩) n n) (g:=some w.heap.size)
      hG r1 r2 hi (by rw [f_];exact hn) (uL r3 d_) rfl rfl rfl (by rw [pY];omega) (fun b hb _=>heap_alloc_old w _ b hb) (.inr (.inr ⟨_,rfl,WU _,by rw [pY];omega⟩)) (.inl rfl) (fun O' z_=>by
       refine ⟨tr,e,ce,te,k_,hk,he,r_,.inr ⟨_,n,cs',rfl,by rw [i_],V_,by omega,?_,by rw [hE.1,i_],fun j x hx=>?_⟩⟩
       ·have:=Yt n r_
        simp only [maxLen];omega
       ·obtain ⟨k1,k2,k3⟩:=hE.2 j x hx
        refine ⟨k1,k2,fun m y t hy ht=>?_⟩;obtain ⟨u,aw,hL⟩:=k3 m y t hy ht;exact ⟨u,aw,hL.mono z_⟩)
     refine rU ay hd ⟨rfl,by simp [f_],_,_,hW,s1.congr ?_,s2.congr ?_⟩
     ·intro k;rw [pV];exact ug _ _ _ _ _
     ·intro k;rw [pV];exact ug _ _ _ _ _
    ·exact pq
   ·exact pq
  ·exact pq
end
section
variable {P:Program} {C:Ctx} {fr:Fr} {tm:Array Value} {w w':World} {σ:St} {γ:Key→Option Nat} {D:Nat→Prop}
def StE (tab:Tab) (w:World) (O:Nat→Prop) (ti:TI) (cs:Array Value) (x:T):Prop :=
 cs.size=ti.cells∧x.isG=true∧x.leaves.length=ti.cells∧∀(j:Nat) y ty,x.leaves[j]?=some y→ti.leaves[j]?=some ty→∃u,cs[j]?=some u∧L tab w O ty u y
theorem StE.put (hG:Good P C.tab) {O:Nat→Prop} {ti:TI} {cs:Array Value} {x:T} (h:StE C.tab w O ti cs x) {cf:TypeId} {tf:TI} (fK:C.tab.at cf=some (cf,tf)) {off:Nat}
  (hl:(ti.leaves.drop off).take tf.cells=tf.lv cf) (P_:off+tf.cells≤ti.cells) {v:Value} {y:T} (hV:V C.tab w O cf v y) :
  off+tf.cells≤cs.size∧v.cells.size=tf.cells∧StE C.tab w O ti (splice cs off v.cells.toList) (setCells x off (rh y tf.cells)):=by
 obtain ⟨h1,h2,h3,h4⟩:=h;obtain ⟨k1,k2,k3,k4,k5⟩:=yn hG fK hV;have D_:off+v.cells.toList.length≤cs.size:=by omega
 refine ⟨by omega,by rw [←k2];simp,by rw [qQ D_,h1],?_⟩
 cases x with
 | g l =>
  simp only [T.leaves] at h3 h4;obtain ⟨l',s1,s2,s3⟩:=Cb (rh y tf.cells) l off;rw [s1];have eV:(rh y tf.cells).length=tf.cells:=by rw [qo k3,k3]
  refine ⟨rfl,by simp only [T.leaves];omega,fun j q ty hq ht=>?_⟩;simp only [T.leaves] at hq;have hj:j<l.length:=by
   have:=(WQ.1 hq).1
   omega
  rw [s3 j hj] at hq;rw [qq D_]
  by_cases hc:off≤j∧j<off+tf.cells
  ·rw [WY (by rw [eV];exact hc),qo k3] at hq
   obtain ⟨u,hu,hL⟩:=k5 (j-off) q ty hq (by rw [←hl,Xy,WY (by omega),YM,show off+(j-off)=j by omega];exact ht);exact ⟨u,by rw [WZ (by omega),WY (by omega)];exact hu,hL⟩
  ·rw [WZ (by rw [eV];exact hc)] at hq
   obtain ⟨u,hu,hL⟩:=h4 j q ty hq ht;refine ⟨u,?_,hL⟩;split
   ·exact hu
   ·rw [WZ (by omega)];exact hu
 | _=>simp [T.isG] at h2
inductive zX (C:Ctx) (tm:Array Value) (w:World) (O:Nat→Prop) (γ:Key→Option Nat) (fs:List (Nat×TypeId)):List (Nat×Operand)→T→T→List (Key×Ent)→Prop where
 | nil (x:T):zX C tm w O γ fs [] x x []
 | cons (j:Nat) (a:Operand) (r:List (Nat×Operand)) (x x':T) (off:Nat) (ft cf:TypeId) (tf:TI) (y:T) (ws ws':List (Key×Ent)) (hf:fs[j]?=some (off,ft)) (ht:C.tab.at ft=some (cf,tf))
   (hV:zr C.tab w O γ ws cf (ev tm a) y) (hr:zX C tm w O γ fs r (setCells x off (rh y tf.cells)) x' ws'):zX C tm w O γ fs ((j,a)::r) x x' (ws++ws')
theorem DD (hG:Good P C.tab) (h:Rel C.tab fr tm w σ γ) {p:Path} (hp:σ.Holds p) (fs:List (Nat×TypeId)) {k:T→List (Key×Ent)→R} {motive:qO→Prop} (c_:motive .bad) :
  ∀(parts:List (Nat×Operand)) (x:T) (ws0:List (Key×Ent)) (_:Frz σ ws0) (_:∀x' ws,Frz σ (ws0++ws)→zX C tm w (Ob fr γ) γ fs parts x x' ws→motive ((k x' (ws0++ws)).run σ)),motive ((Av C p fs parts x ws0 k).run σ):=by
 intro parts
 induction parts with
 | nil =>
  intro x ws0 hf l_
  have:=l_ x [] (by simpa using hf) (.nil x)
  simpa [Av] using this
 | cons a r ih =>
  intro x ws0 hf l_;obtain ⟨j,a⟩:=a;simp only [Av];split
  ·rename_i off ft fR
   split
   ·rename_i cf tf eU
    refine wn hG h p hp a ft c_ fun c y ws jQ hV=>?_
    split
    ·rename_i ae
     have ae:=WO ae;subst ae;refine ih _ (ws0++ws) (hf.append jQ) fun x' ws' dN hP=>?_
     rw [W7] at dN ⊢;exact l_ x' (ws++ws') dN (.cons j a r x x' off ft c tf y ws ws' fR eU hV hP)
    ·exact c_
   ·exact c_
  ·exact c_
theorem EY (hG:Good P C.tab) {O O':Nat→Prop} {ti:TI} {t:TypeId} {c:TypeId} (hc:C.tab.at t=some (c,ti)) {fs:List (Nat×TypeId)} (hk:ti.k=.st fs) {places:List (Nat×Nat)}
  (eW:∀(j off:Nat) cf tf,fs[j]?=some (off,cf)→C.tab.at cf=some (cf,tf)→places[j]?=some (off,tf.cells)) {parts:List (Nat×Operand)} {x x':T} {ws:List (Key×Ent)}
  (hP:zX C tm w O γ fs parts x x' ws) (hO:∀b,O' b→O b):Free γ ws O'→∀cs,StE C.tab w O' ti cs x →
   ∃cs',Instr.fill (places.toArray[·]?) cs (parts.map fun q=>(q.1,ev tm q.2))=some cs'∧StE C.tab w O' ti cs' x' := by
 induction hP with
 | nil x=>exact fun _ cs hE=>⟨cs,rfl,hE⟩
 | cons j a r x x' off ft cf tf y ws ws' hf ht hV hr ih =>
  intro hF cs hE;obtain ⟨fa,fl,tf',i,-,-,-,-,g5,g6,g7,g8,-⟩:=hG.field hc hk hf
  have:=pu g5 ht
  simp only [WK] at this;obtain ⟨rfl,rfl⟩:=this;obtain ⟨q1,q2,q3⟩:=hE.put hG g5 g7 g8 (hV O' hO hF.left);obtain ⟨cs',f1,f2⟩:=ih hF.right _ q3;refine ⟨cs',?_,f2⟩;simp only [XP];have hp:=eW j off _ _ hf g5;rw [xF (place:=fun x=>places.toArray[x]?) (by simpa using hp) q2 q1];exact f1
theorem LL {O:Nat→Prop} {c:TypeId} {ti:TI} (hc:C.tab.at c=some (c,ti)) (hS:ti.isS=true) {cs:Array Value} {x:T} (h:StE C.tab w O ti cs x):V C.tab w O c (.agg cs) x:=by
 obtain ⟨h1,h2,h3,h4⟩:=h;exact ⟨ti,hc,by rw [h2,hS],by rw [hS];rfl,h1,h3,fun j y ty hy ht=>h4 j y ty hy (by rw [←sM hS];exact ht)⟩
def Uk (tab:Tab) (w:World) (O:Nat→Prop) (σ:St) (tm:Array Value) (cs:Array Value) (as_ :List Bc):Prop :=
 cs.size=as_.length∧∀(q:Nat) o a,as_[q]?=some (o,a)→∃u,cs[q]?=some u ∧
  ((∃ty y,o=none∧a=.t ty y∧V tab w O ty u y)∨(∃s c tag xs,o=some s∧a=.own c 0 xs∧σ.get (pp s)=some ⟨[],.own c tag xs⟩∧tm[s]?=some u)∨∃c,o=none∧a=.own c 0 []∧Own tab w O c u none [])
theorem Ie {a:Operand} {f:Nat→TypeId→List T→R} {r:R} {motive:qO→Prop} (O_:∀s c tag xs,a=.tmp s→σ.get (pp s)=some ⟨[],.own c tag xs⟩→motive ((f s c xs).run σ)) (hr:motive (r.run σ)):motive ((QW a f r).run σ):=by
 unfold QW;split
 ·rename_i s
  simp only [Rd.run];split
  ·rename_i c tag xs he
   exact O_ s c tag xs rfl he
  ·exact hr
 ·exact hr
theorem Kl (hG:Good P C.tab) {O:Nat→Prop} {c:TypeId} {ti:TI} (hc:C.tab.at c=some (c,ti)) {ty:TypeId} (hm:ty∈ti.lv c) {u:Value} {y:T} (hl:L C.tab w O ty u y):V C.tab w O ty u y:=by
 obtain ⟨t1,bZ,aX⟩:=(hG _ _ _ hc).leaf ty hm;have aA:=zY hl;exact sn bZ aX (qz hG bZ aX) aA.2 aA.1 hl
theorem IY (hG:Good P C.tab) (h:Rel C.tab fr tm w σ γ) {ti:TI} {t c:TypeId} (hc:C.tab.at t=some (c,ti)) {fs:List (Nat×TypeId)} (hk:ti.k=.st fs) {places:List (Nat×Nat)}
  (eW:∀(j off:Nat) cf tf,fs[j]?=some (off,cf)→C.tab.at cf=some (cf,tf)→places[j]?=some (off,tf.cells)) {k:List Bc→R} {motive:qO→Prop} (c_:motive .bad) :
  ∀(parts:List (Nat×Operand)) (as_ :List Bc) (_:as_.length=ti.cells) (_:∀as',as'.length=ti.cells →
   (∀cs,Uk C.tab w (Ob fr γ) σ tm cs as_→∃cs',Instr.fill (places.toArray[·]?) cs (parts.map fun q=>(q.1,ev tm q.2))=some cs'∧Uk C.tab w (Ob fr γ) σ tm cs' as')→motive ((k as').run σ)),motive ((Sb C fs parts as_ k).run σ):=by
 intro parts
 induction parts with
 | nil=>exact fun as_ hl l_=>l_ as_ hl fun cs h=>⟨cs,rfl,h⟩
 | cons x r ih =>
  obtain ⟨j,a⟩:=x;intro as_ hl l_;simp only [Sb];split
  ·rename_i off ft fR
   split
   ·rename_i cf tf eU
    obtain ⟨fa,fl,tf',i,-,-,-,-,g5,g6,g7,g8,-⟩:=hG.field hc hk fR
    have:=pu g5 eU
    simp only [WK] at this;obtain ⟨rfl,rfl⟩:=this;have hp:=eW j off _ _ fR g5;refine Ie (fun s c' tag xs ha he=>?_) ?_
    ·split
     ·rename_i ae
      have ae:=WO ae;subst ae;obtain ⟨v,hv,hr,-⟩:=h.ent _ _ he;obtain ⟨t1,e1,ce,te,o1,o2,o3,o4,o5⟩:=id (hr trivial);have bm:∃a n cap,v=.slice a n cap:=by
       rcases o5 with ⟨-,-,a,q⟩ | ⟨b,cap,cs,-,q,-⟩
       ·exact ⟨_,_,_,q⟩
       ·exact ⟨_,_,_,q⟩
      obtain ⟨a1,n1,cap1,bm⟩:=bm;have L_:v.cells=#[v]:=by rw [bm];rfl
      have:=pu g5 o1
      simp only [WK,W5] at this;subst this;have hS:tf'.isS=false:=by simp [TI.isS,o2]
      have h1:=qz hG g5 hS;rw [pz] at hv;have aQ:ev tm a=v:=by
       subst ha;simp only [ev,Act.eval,XK,hv,XF]
      refine ih _ (by simpa using hl) fun as' fG hP=>l_ as' fG fun cs hB=>?_
      obtain ⟨b1,b2⟩:=hB;have D_:off+[v].length≤cs.size:=by simp only [W4,YH];omega
      obtain ⟨cs',f1,f2⟩:=hP (splice cs off [v]) ⟨by rw [qQ D_,b1];simp,fun q o y hq=>by
       rw [YA] at hq;rw [qq D_]
       by_cases mz:off=q
       ·subst mz
        rw [WY rfl,WY (by omega)] at hq;simp only [WJ,WK] at hq;obtain ⟨rfl,rfl⟩:=hq;refine ⟨v,by rw [WZ (by omega),WY (by simp)];simp,.inr (.inl ⟨s,c',tag,xs,rfl,rfl,he,hv⟩)⟩
       ·rw [WZ mz] at hq
        obtain ⟨u,hu,iT⟩:=b2 q o y hq;refine ⟨u,?_,iT⟩;split
        ·exact hu
        ·rw [WZ (by simp;omega)];exact hu⟩
      refine ⟨cs',?_,f2⟩;simp only [XP];rw [xF (place:=fun x=>places.toArray[x]?) (by simpa using hp) (by rw [aQ,L_,h1];rfl) (by omega),aQ,L_];exact f1
     ·exact c_
    ·refine wn hG h [] trivial a ft c_ fun c' y ws jQ hV=>?_
     split
     ·rename_i ae
      have ae:=WO ae;subst ae;have dO:=hV (Ob fr γ) (fun _ q=>q) (fun k e b hm=>by simp at hm);obtain ⟨k1,k2,k3,k4,k5⟩:=yn hG g5 dO;have i_:=(hG _ _ _ g5).len;obtain ⟨s1,s2,s3⟩:=La (tf'.lv c') (rh y tf'.cells) as_ off (by rw [qo k3,k3,i_]) (by rw [qo k3];omega);refine ih _ (by rw [s1];exact hl) fun as' fG hP=>l_ as' fG fun cs hB=>?_
      obtain ⟨b1,b2⟩:=hB;have D_:off+(ev tm a).cells.toList.length≤cs.size:=by omega
      obtain ⟨cs',f1,f2⟩:=hP (splice cs off (ev tm a).cells.toList) ⟨by rw [qQ D_,b1,s1],fun q o z hq=>by
       rw [qq D_]
       by_cases bi:off≤q∧q<off+tf'.cells
       ·have e1:(tf'.lv c')[q-off]?=some ((tf'.lv c')[q-off]'(by omega)):=WL _
        obtain ⟨x2,e2⟩:∃x2,(rh y tf'.cells)[q-off]?=some x2:=⟨_,WL (by rw [qo k3];omega)⟩;have e3:=s2 (q-off) _ _ e1 e2;rw [show off+(q-off)=q by omega,hq] at e3;simp only [WJ,WK] at e3;obtain ⟨rfl,rfl⟩:=e3;rw [qo k3] at e2;obtain ⟨u,hu,hL⟩:=k5 (q-off) _ _ e2 e1;exact ⟨u,by rw [WZ (by omega),WY (by omega)];exact hu,.inl ⟨_,_,rfl,rfl,by
         exact Kl hG g5 (XR e1) hL⟩⟩
       ·rw [s3 q (by rw [qo k3];omega)] at hq
        obtain ⟨u,hu,iT⟩:=b2 q o z hq;refine ⟨u,?_,iT⟩;split
        ·exact hu
        ·rw [WZ (by omega)];exact hu⟩
      refine ⟨cs',?_,f2⟩;simp only [XP];rw [xF (place:=fun x=>places.toArray[x]?) (by simpa using hp) (by rw [←k2];simp) (by omega)];exact f1
     ·exact c_
   ·exact c_
  ·exact c_
theorem tC.news (hG:Good P C.tab) {O:Nat→Prop} {c:TypeId} {v:Value} {ys:List T} (hS:tC C.tab w O c v ys) {ti:TI} {e ce:TypeId} {te:TI} (hc:C.tab.at c=some (c,ti)) (hk:ti.k=.sl e) (he:C.tab.at e=some (ce,te)) :
  ∃(a:Option Go.Addr) (cap:Nat) (news:List Value),v=.slice a ys.length cap∧ys.length≤maxLen∧news.length=ys.length*te.cells∧(∀u∈news,u.oneCell'=true)∧(a=none→ys=[]) ∧
   (∀b,a=some b→∀(k:Nat) u,news[k]?=some u→w.cell? (b.add k)=some u) ∧
   ∀(j:Nat) x,ys[j]?=some x→x.isG=te.isS∧x.leaves.length=te.cells∧∀(n:Nat) y ty,x.leaves[n]?=some y→(te.lv ce)[n]?=some ty→∃u,news[j*te.cells+n]?=some u∧L C.tab w O ty u y:=by
 obtain ⟨ti',e',ce',te',a,cap,q1,q2,q3,hp,hv,B_,hm,aW,aj⟩:=hS
 have:=pu hc q1
 simp only [WK,W5] at this;subst this;rw [hk] at q2;simp only [Go.Pl.K.sl.injEq] at q2;subst q2
 have:=pu he q3
 simp only [WK] at this;obtain ⟨rfl,rfl⟩:=this;have ai:=(hG _ _ _ he).len
 cases a with
 | none =>
  have hy:ys=[]:=by
   cases ys with
   | nil=>rfl
   | cons x r=>obtain ⟨b,hb,-⟩:=aj 0 x rfl;cases hb
  subst hy;exact ⟨none,cap,[],hv,by simp,by simp,by simp,fun _=>rfl,(fun b hb=>nomatch hb),fun j x hx=>by simp at hx⟩
 | some b =>
  have G_:∀k,k<ys.length*te.cells→∃u,w.cell? (b.add k)=some u∧u.oneCell'=true:=by
   intro k e_;have hj:k / te.cells<ys.length:=Nat.div_lt_of_lt_mul (by rw [W8];exact e_);have hr:=XA k hp;obtain ⟨b',s_,k1,k2,k3⟩:=aj (k / te.cells) _ (WL hj);simp only [WJ] at s_;subst s_;obtain ⟨u,hu,hl⟩:=k3 (k%te.cells) _ _ (WL (by omega)) (WL (by rw [ai];exact hr));rw [Nat.div_add_mod'] at hu;exact ⟨u,hu,IP hl⟩
  refine ⟨some b,cap,(List.range (ys.length*te.cells)).map fun k=>(w.cell? (b.add k)).getD undef,hv,by omega,by simp,?_,(fun q=>nomatch q),?_,?_⟩
  ·intro u hu
   obtain ⟨k,e_,rfl⟩:=Xw.1 hu;obtain ⟨u,h1,h2⟩:=G_ k (XJ.1 e_);rw [h1];exact h2
  ·intro b' s_ k u hu
   simp only [WJ] at s_;subst s_;rw [Xs] at hu
   cases hr:(List.range (ys.length*te.cells))[k]? with
   | none=>rw [hr] at hu;cases hu
   | some m =>
    rw [hr] at hu;have bh:=(WQ.1 hr).1;rw [YV] at bh;have kG:m=k:=by
     rw [Yl bh] at hr;exact (W3 hr).symm
    subst kG;obtain ⟨u',h1,-⟩:=G_ m bh;simp only [XH,h1,XF,WJ] at hu;rw [h1,hu]
  ·intro j x hx
   obtain ⟨b',s_,k1,k2,k3⟩:=aj j x hx;simp only [WJ] at s_;subst s_;refine ⟨k1,k2,fun n y ty hy ht=>?_⟩;obtain ⟨u,hu,hl⟩:=k3 n y ty hy ht;have hj:=(WQ.1 hx).1;have hn:n<te.cells:=by rw [←k2];exact (WQ.1 hy).1
   have:=Xb te.cells (show j+1≤ys.length by omega)
   rw [Xe,Yb] at this;exact ⟨u,by rw [Xs,Yl (by omega),XH,hu];rfl,hl⟩
variable (hG:Good P C.tab) (h:Rel C.tab fr tm w σ γ) (g_:Wf C D σ) (f_:tm.size=C.nt) {i:Nat} (hi:¬ D i) {o:Oper} {p:Path} (hp:σ.Holds p)
 (p_:∀s b,(s,b)∈p→qY C s=false∧∃q c x,σ.get (pp s)=some ⟨q,.t c x⟩) {K:St→Prop} {Q:Exit→Act→World→Prop}
include hG h g_ f_ hp p_
theorem Dq {ty:TypeId} {parts:Array (Nat×Operand)} (ho:o.op=.build ty parts):Sound P C fr tm w σ D i o p K Q ((Jc C p o ty parts).run σ):=by
 unfold Jc;refine pI _ _ pq fun d hd hn hv d_=>?_
 refine qC _ pq fun cr tr hr=>?_
 split
 ·rename_i fs hk
  have k_:=(hG _ _ _ hr).self;have hS:tr.isS=true:=by simp [TI.isS,hk]
  obtain ⟨inf,z,z1,z2,z3,z4,z5,z6,z7,z8⟩:=hG.zero hr;refine DD hG h hp fs pq _ _ [] Frz.nil fun x' ws hf hP=>?_
  simp only [Yc] at hf ⊢;intro hW;obtain ⟨γ',r1,r2,r3,r4,r5,r6,r7,r8⟩:=Rel.frz hG h g_ hf;obtain ⟨eT,gf⟩:=Gn r3 hp p_;obtain ⟨dd,hu,fS⟩:=(hG _ _ _ hr).und;rw [hk] at fS;cases dd<;>simp at fS;rename_i fa;obtain ⟨i_,fR⟩:=fS;have eW:∃places:List (Nat×Nat),fa.toList.mapM (fun f=>(P.info? f.type).map fun i=>(f.offset,i.size))=some places ∧
    ∀(j off:Nat) cf tf,fs[j]?=some (off,cf)→C.tab.at cf=some (cf,tf)→places[j]?=some (off,tf.cells):=by
   refine ⟨fs.map fun q=>(q.1,match C.tab.at q.2 with | some (_,tf)=>tf.cells | none=>0),mapM_some_of_get _ _ (by simp [i_]) (fun j f iU=>?_),fun j off cf tf hj ht=>?_⟩
   ·have hj:j<fs.length:=by
     have:=(WQ.1 iU).1
     rw [i_];simpa using this
    obtain ⟨⟨off,cf⟩,bD⟩:∃q,fs[j]?=some q:=⟨_,WL hj⟩;obtain ⟨f',h1,h2,tf,h3,-⟩:=fR j off cf bD;have kH:f'=f:=by
     have:fa.toList[j]?=some f' := by rw [Xa];exact h1
     rw [iU] at this;exact (W3 this).symm
    subst kH;obtain ⟨inf2,h7,h8,-⟩:=hG.size (C:=C) h3;have fK:=(hG _ _ _ h3).self;rw [Xs,bD,XH];simp [h7,h8,h2,fK]
   ·rw [Xs,hj,XH]
    simp [ht]
  obtain ⟨places,gp,gq⟩:=eW;have iS:StE C.tab w (Ob fr γ') tr z.cells tr.zero:=⟨z6,by rw [z5,hS],z7,fun j y t hy ht=>z8 w _ j y t hy (by rw [sM hS];exact ht)⟩;obtain ⟨cs',bM,hE⟩:=EY hG hr hk gq hP r5 r6 _ iS;have db:P.built ty (parts.map fun q=>(q.1,Act.eval ⟨tm,[]⟩ q.2)).toList=some cs' := by
   unfold Program.built;simp only [z1,hu,z4,gp];rw [Zj];exact bM
  have iV:=run_build (P:=P) w ty _ cs' db;have ay:(execOp (Act.eval ⟨tm,[]⟩) o).run P w=.ok (.value (.agg cs')) w:=by
   simp only [execOp,ho];rw [Sem.run_bind,iV];rfl
  refine tU hG r1 r2 f_ eT gf hn hd (uL r3 d_) ay (LL k_ hS hE) ?_;rw [←pV];exact hW
 ·exact pq
include hi in
omit hp p_ in
theorem Hq {ty:TypeId} {parts:Array (Nat×Operand)} (ho:o.op=.build ty parts):Sound P C fr tm w σ D i o [] K Q ((Uz C i o ty parts).run σ):=by
 unfold Uz;refine pI _ _ pq fun d hd hn hv d_=>?_
 refine qC _ pq fun cr tr hr=>?_
 split
 ·rename_i fs hk au
  have au:=Xd au;have k_:=(hG _ _ _ hr).self;have hS:tr.isS=true:=by simp [TI.isS,hk]
  obtain ⟨inf,z,z1,z2,z3,z4,z5,z6,z7,z8⟩:=hG.zero hr;obtain ⟨dd,hu,fS⟩:=(hG _ _ _ hr).und;rw [hk] at fS;cases dd<;>simp at fS;rename_i fa;obtain ⟨i_,fR⟩:=fS;have eW:∃places:List (Nat×Nat),fa.toList.mapM (fun f=>(P.info? f.type).map fun i=>(f.offset,i.size))=some places ∧
    ∀(j off:Nat) cf tf,fs[j]?=some (off,cf)→C.tab.at cf=some (cf,tf)→places[j]?=some (off,tf.cells):=by
   refine ⟨fs.map fun q=>(q.1,match C.tab.at q.2 with | some (_,tf)=>tf.cells | none=>0),mapM_some_of_get _ _ (by simp [i_]) (fun j f iU=>?_),fun j off cf tf hj ht=>?_⟩
   ·have hj:j<fs.length:=by
     have:=(WQ.1 iU).1
     rw [i_];simpa using this
    obtain ⟨⟨off,cf⟩,bD⟩:∃q,fs[j]?=some q:=⟨_,WL hj⟩;obtain ⟨f',h1,h2,tf,h3,-⟩:=fR j off cf bD;have kH:f'=f:=by
     have:fa.toList[j]?=some f' := by rw [Xa];exact h1
     rw [iU] at this;exact (W3 this).symm
    subst kH;obtain ⟨inf2,h7,h8,-⟩:=hG.size (C:=C) h3;have fK:=(hG _ _ _ h3).self;rw [Xs,bD,XH];simp [h7,h8,h2,fK]
   ·rw [Xs,hj,XH]
    simp [ht]
  obtain ⟨places,gp,gq⟩:=eW;have eV:=(hG _ _ _ k_).len;rw [sM hS] at eV;have aA:∀u∈z.cells.toList,QN u=true:=by
   obtain ⟨inf',z',q1,q2,q3,q4,-,q6⟩:=(hG _ _ _ hr).info;rw [z1] at q1;simp only [WJ] at q1;subst q1;rw [z4] at q4;simp only [WJ] at q4;subst q4;intro u hu;exact (YI.1 q6) u (by simpa using hu)
  obtain ⟨zl,zg⟩:=II C d tr.cells tr.leaves (rh tr.zero tr.cells) 0 (by rw [qo z7,z7,eV]);rw [qo z7] at zl;refine IY hG h hr hk gq pq _ _ (by rw [qo z7] at *;omega) fun as_ hl hB=>?_
  split
  ·rename_i eu
   intro hW;have nw:Uk C.tab w (Ob fr γ) σ tm z.cells (yl C d tr.cells 0 tr.leaves (rh tr.zero tr.cells)):=by
    refine ⟨by rw [z6,qo z7,zl,z7],fun q o' a hq=>?_⟩;have b_:=(WQ.1 hq).1;rw [qo z7,zl] at b_;have e1:tr.leaves[q]?=some (tr.leaves[q]'(by omega)):=WL _;have e2:tr.zero.leaves[q]?=some (tr.zero.leaves[q]'b_):=WL _;have e3:=zg q _ _ e1 (by rw [qo z7];exact e2);obtain ⟨u,hu,hL⟩:=z8 w (Ob fr γ) q _ _ e2 (by rw [sM hS];exact e1);rw [hq] at e3;simp only [WJ,WK] at e3
    rcases e3 with ⟨rfl,rfl⟩ | ⟨e0,rfl,rfl⟩
    ·exact ⟨u,hu,.inl ⟨_,_,rfl,rfl,Kl hG k_ (by rw [sM hS];exact XR e1) hL⟩⟩
    ·refine ⟨u,hu,.inr (.inr ⟨_,rfl,rfl,?_⟩)⟩
     rw [e0] at hL;have kJ:=aA u (by
      have:z.cells.toList[q]?=some u:=by rw [Xa];exact hu
      exact XR this)
     cases hL with
     | nil h' e_=>exact v7 hG rfl h' e_ rfl
     | sl=>simp [QN] at kJ
   obtain ⟨cs',bM,aJ,ar⟩:=hB _ nw;have db:P.built ty (parts.map fun q=>(q.1,Act.eval ⟨tm,[]⟩ q.2)).toList=some cs' := by
    unfold Program.built;simp only [z1,hu,z4,gp];rw [Zj];exact bM
   have iV:=run_build (P:=P) w ty _ cs' db;have ay:(execOp (Act.eval ⟨tm,[]⟩) o).run P w=.ok (.value (.agg cs')) w:=by
    simp only [execOp,ho];rw [Sem.run_bind,iV];rfl
   have t_:∀{s:Nat} {e:Ent},σ.get (pp s)=some e→s≠d:=by
    rintro s e he rfl;rw [d_] at he;cases he
   have x_:∀s,s≠d→(tm.setIfInBounds d (.agg cs'))[s]?=tm[s]? := fun s hs=>by
    rw [Xp,WZ (YL hs)]
   have V_:(tm.setIfInBounds d (.agg cs'))[d]?=some (.agg cs'):=by simp [f_,hn]
   obtain ⟨γ2,q1,q2⟩:=Rel.bcs hG h g_ hi (fun _=>False) (tm' := tm.setIfInBounds d (.agg cs')) (w' := w) (as_ :=as_) (fld d tr.cells) pp (fun k=>k.b%1000) (some d) rfl rfl rfl rfl
    (fun _ _=>rfl) (fun _ q=>q.elim) (fun q=>by simp [fld,comp]) (fun q q' e=>by have:=(sw.1 e).2;omega) (fun q hq=>by simp only [fld,comp];omega) (fun q q' e=>pZ.1 e)
    (fun q s a hq=>by
     obtain ⟨u,-,⟨ty',y,e,-⟩ | ⟨s',c',tag,xs,e,rfl,hg,-⟩ | ⟨c',e,-⟩⟩:=ar q _ a hq
     ·cases e
     ·cases e;exact ⟨c',tag,xs,hg,rfl⟩
     ·cases e)
    (fun q a hq=>by
     obtain ⟨u,-,⟨ty',y,-,rfl,-⟩ | ⟨s',c',tag,xs,e,-⟩ | ⟨c',-,rfl,-⟩⟩:=ar q _ a hq
     ·exact .inl ⟨ty',y,rfl⟩
     ·cases e
     ·exact .inr (.inl ⟨c',rfl⟩))
    (It eu)
    (fun d' bN=>by
     cases bN;exact ⟨d_,fun γ'=>⟨cs',by rw [pz];exact V_⟩⟩)
    (fun γ' _ q o' a hq=>by
     have b_:=(WQ.1 hq).1;obtain ⟨u,hu,hh⟩:=ar q o' a hq;refine ⟨u,Lx (by omega) V_ (by omega) hu,fun s hs=>?_,fun ty' y he=>?_,fun c' ho he=>?_,fun h0 tag c off len he=>?_⟩
     ·rcases hh with ⟨ty',y,e,-⟩ | ⟨s',c',tag,xs,e,-,-,ag⟩ | ⟨c',e,-⟩
      ·rw [hs] at e;cases e
      ·rw [hs] at e
       simp only [WJ] at e;subst e;rw [pz];exact ag
      ·rw [hs] at e;cases e
     ·rcases hh with ⟨ty2,y2,-,e,hV⟩ | ⟨s',c',tag,xs,-,e,-⟩ | ⟨c',-,e,-⟩
      ·rw [he] at e;cases e;exact hV
      ·rw [he] at e;cases e
      ·rw [he] at e;cases e
     ·rcases hh with ⟨ty2,y2,-,e,hV⟩ | ⟨s',c',tag,xs,e,-⟩ | ⟨c2,-,e,hO⟩
      ·rw [he] at e;cases e
      ·rw [ho] at e;cases e
      ·rw [he] at e;cases e;exact hO
     ·rcases hh with ⟨ty2,y2,-,e,hV⟩ | ⟨s',c',tag,xs,-,e,-⟩ | ⟨c2,-,e,hO⟩<;>rw [he] at e<;>cases e)
    (fun s n' q e=>absurd e pS)
    (fun s j q e=>by rw [(sw.1 e).1])
    (fun γ' ez k e hk he=>by
     refine rp (fun ht=>?_) (fun ht=>?_)
     ·refine x_ _ fun e'=>?_
      by_cases h0:k.tag=0
      ·have aT:=sT h he h0
       rw [aT,e',d_] at he;cases he
      ·obtain ⟨v0,v_,-⟩:=h.ent k e he
       have h2:k.tag=2:=by
        obtain ⟨t,a,b⟩:=k;unfold pJ at v_
        match t with
        | 0=>exact absurd rfl h0
        | 1=>exact absurd rfl ht
        | 2=>rfl
        | n+3=>cases v_
       obtain ⟨-,q',m,hh⟩:=uq h he h2;rw [e',d_] at hh;cases hh
     ·obtain ⟨aD,c',tag',m,aa⟩:=rC h he ht
      exact ⟨ez _ _ aa (by simp) fun q=>by simp [pp,fld,comp],fun _ _=>rfl⟩)
   refine rU ay hd ⟨rfl,by simp [f_],_,_,?_,q1,q2⟩;simp only [Gi,W7,Yy,Yc];exact hW
  ·exact pq
 ·exact pq
omit hG h g_ f_ hp p_ in
theorem Fl {s c:Nat} {motive:qO→Prop} (c_:motive .bad):∀(m q:Nat) (k:List Bc→R) (_:∀as_,as_.length=m→(∀(j:Nat) o a,as_[j]?=some (o,a)→o=none∧((∃ty y,a=.t ty y∧σ.get (cell s (c+(q+j)))=some ⟨[],.t ty y⟩∧∃c tt,C.tab.at ty=some (c,tt)∧tt.isS=false) ∨
   ∃ty tag xs,a=.alias (cell s (c+(q+j))) tag ty 0 xs.length∧σ.get (cell s (c+(q+j)))=some ⟨[],.own ty tag xs⟩))→motive ((k as_).run σ)),motive ((DT C s c m q k).run σ):=by
 intro m
 induction m with
 | zero=>exact fun q k l_=>l_ [] rfl fun j o a h=>by simp at h
 | succ m ih =>
  intro q k l_;simp only [DT,Rd.run];split
  ·rename_i ty y he
   split
   ·rename_i c0 tt ar
    split
    ·rename_i hS
     refine ih (q+1) _ fun as_ hl hP=>l_ _ (by simp [hl]) fun j o a hj=>?_
     cases j with
     | zero =>
      simp only [WT,WJ,WK] at hj;obtain ⟨rfl,rfl⟩:=hj;exact ⟨rfl,.inl ⟨ty,y,rfl,he,c0,tt,ar,hS⟩⟩
     | succ j =>
      simp only [WR] at hj
      have:=hP j o a hj
      rwa [show q+1+j=q+(j+1) by omega] at this
    ·exact c_
   ·exact c_
  ·rename_i ty tag xs he
   refine ih (q+1) _ fun as_ hl hP=>l_ _ (by simp [hl]) fun j o a hj=>?_
   cases j with
   | zero =>
    simp only [WT,WJ,WK] at hj;obtain ⟨rfl,rfl⟩:=hj;exact ⟨rfl,.inr ⟨ty,tag,xs,rfl,he⟩⟩
   | succ j =>
    simp only [WR] at hj
    have:=hP j o a hj
    rwa [show q+1+j=q+(j+1) by omega] at this
  ·exact c_
include hi in
omit hp p_ in
theorem Fj {ty:TypeId} {a:Operand} (ho:o.op=.load ty a):Sound P C fr tm w σ D i o [] K Q ((QF C i o ty a).run σ):=by
 unfold QF;refine pI _ _ pq fun d hd hn hv d_=>?_
 refine wI hG h [] trivial a pq fun sp dP=>?_
 have n_:∀v,(Instr.loadAt ty (ev tm a)).run P w=.ok v w→(execOp (Act.eval ⟨tm,[]⟩) o).run P w=.ok (.value v) w:=by
  intro v hv;unfold ev at hv;simp only [execOp,ho];rw [Sem.run_bind,hv];rfl
 cases dP with
 | box s c n cb tag b hs hb aQ =>
  simp only;split
  ·rename_i ct ti ap
   have k_:=(hG _ _ _ ap).self;split
   ·rename_i hS D_ au
    have D_:=Xd D_;have au:=Xd au;refine Fl pq _ _ _ fun as_ hl hP=>?_
    simp only [WV] at hP;intro hW;have look:∀q,q<ti.cells→∃u,pJ tm w γ (cell s (c+q))=some u∧w.cell? ⟨b,c+q,none⟩=some u:=by
     intro q hq;obtain ⟨⟨o',a'⟩,bC⟩:∃x,as_[q]?=some x:=⟨_,WL (by omega)⟩;have ay:∃e,σ.get (cell s (c+q))=some e:=by
      rcases (hP q o' a' bC).2 with ⟨_,_,_,hg,-⟩ | ⟨_,_,_,_,hg⟩<;>exact ⟨_,hg⟩
     obtain ⟨e,he⟩:=ay;obtain ⟨u,hu,-⟩:=h.ent _ _ he;refine ⟨u,hu,?_⟩;simp only [pJ,cell,hb,Xl] at hu;exact hu
    have fq:=ui (w:=w) hG ap ⟨b,c,none⟩ (fun j=>(w.cell? ((⟨b,c,none⟩:Go.Addr).add j)).getD undef) (fun j hj=>by
     obtain ⟨u,-,hu⟩:=look j hj;rw [rB,hu];rfl)
    rw [hS] at fq
    let vs:Array Value:=((List.range ti.cells).map fun j=>(w.cell? ((⟨b,c,none⟩:Go.Addr).add j)).getD undef).toArray
    have dG:vs.size=ti.cells:=by simp [vs]
    have ny:∀q,q<ti.cells→∀u,pJ tm w γ (cell s (c+q))=some u→vs[q]?=some u:=by
     intro q hq u hu;obtain ⟨u',h1,h2⟩:=look q hq;rw [hu] at h1;simp only [WJ] at h1;subst h1;simp only [vs,List.getElem?_toArray,Xs,Yl hq,XH,rB,h2];rfl
    have V_:(tm.setIfInBounds d (.agg vs))[d]?=some (.agg vs):=by simp [f_,hn]
    have x_:∀s,s≠d→(tm.setIfInBounds d (.agg vs))[s]?=tm[s]? := fun s hs=>by
     rw [Xp,WZ (YL hs)]
    obtain ⟨γ2,q1,q2⟩:=Rel.bcs hG h g_ hi (fun _=>False) (tm' := tm.setIfInBounds d (.agg vs)) (w' := w) (as_ :=as_) (fld d ti.cells) pp (fun k=>k.b%1000) (some d) rfl rfl rfl rfl
     (fun _ _=>rfl) (fun _ q=>q.elim) (fun q=>by simp [fld,comp]) (fun q q' e=>by have:=(sw.1 e).2;omega) (fun q hq=>by simp only [fld,comp];omega) (fun q q' e=>pZ.1 e)
     (fun q s a hq=>by have:=(hP q _ a hq).1;cases this)
     (fun q a hq=>by
      rcases (hP q _ a hq).2 with ⟨ty',y,rfl,-⟩ | ⟨ty',tag',xs,rfl,hg⟩
      ·exact .inl ⟨ty',y,rfl⟩
      ·exact .inr (.inr ⟨_,_,_,_,_,rfl,by rw [hg];simp,fun q=>pS,(fun q' s' a' bD=>by have:=(hP q' _ a' bD).1;cases this),g_.tags _ _ _ hg rfl⟩))
     (fun q q' s' a a' hq bD=>by have:=(hP q _ a hq).1;cases this)
     (fun d' bN=>by
      cases bN;exact ⟨d_,fun γ'=>⟨vs,by rw [pz];exact V_⟩⟩)
     (fun γ' _ q o' a hq=>by
      have b_:=(WQ.1 hq).1;obtain ⟨u,hu,-⟩:=look q (by omega);refine ⟨u,Lx (by omega) V_ dG (ny q (by omega) u hu),fun s hs=>?_,fun ty' y he=>?_,fun c' ho he=>?_,fun h0 t6 c0 off len he=>?_⟩
      ·have:=(hP q _ a hq).1
       rw [hs] at this;cases this
      ·rcases (hP q _ a hq).2 with ⟨ty2,y2,e,hg,-⟩ | ⟨ty2,tag2,xs,e,hg⟩
       ·rw [he] at e;cases e
        obtain ⟨u',aw,hr,-⟩:=h.ent _ _ hg;rw [hu] at aw;simp only [WJ] at aw;subst aw;exact hr trivial
       ·rw [he] at e;cases e
      ·rcases (hP q _ a hq).2 with ⟨ty2,y2,e,hg,-⟩ | ⟨ty2,tag2,xs,e,hg⟩<;>rw [he] at e<;>cases e
      ·rcases (hP q _ a hq).2 with ⟨ty2,y2,e,hg,-⟩ | ⟨ty2,tag2,xs,e,hg⟩
       ·rw [he] at e;cases e
       ·rw [e]
        exact wm h hg hu)
     (fun s n' q e=>absurd e pS)
     (fun s j q e=>by rw [(sw.1 e).1])
     (fun γ' ez k e hk he=>by
      refine rp (fun ht=>?_) (fun ht=>?_)
      ·refine x_ _ fun e'=>?_
       by_cases h0:k.tag=0
       ·have aT:=sT h he h0
        rw [aT,e',d_] at he;cases he
       ·obtain ⟨v0,v_,-⟩:=h.ent k e he
        have h2:k.tag=2:=by
         obtain ⟨t,a,b⟩:=k;unfold pJ at v_
         match t with
         | 0=>exact absurd rfl h0
         | 1=>exact absurd rfl ht
         | 2=>rfl
         | n+3=>cases v_
        obtain ⟨-,q',m,hh⟩:=uq h he h2;rw [e',d_] at hh;cases hh
      ·obtain ⟨aD,c',tag',m,aa⟩:=rC h he ht
       exact ⟨ez _ _ aa (by simp) fun q=>by simp [pp,fld,comp],fun _ _=>rfl⟩)
    refine rU (n_ _ (by rw [aQ];exact fq)) hd ⟨rfl,by simp [f_],_,_,?_,q1,q2⟩;have aA:su pp as_=[]:=by
     have:∀(l:List Bc),(∀(q:Nat) o a,l[q]?=some (o,a)→o=none)→su pp l=[]:=by
      intro l
      induction l with
      | nil=>intro _;rfl
      | cons x r ih =>
       obtain ⟨o',a'⟩:=x;intro hq;have h0:=hq 0 o' a' rfl;subst h0;exact ih fun q o a h'=>hq (q+1) o a (by simpa using h')
     exact this as_ fun q o a hq=>(hP q o a hq).1
    rw [aA];simp only [Gi,Yy,Yc];exact hW
   ·exact pq
  ·exact pq
 | _=>exact pq
end
section
variable {P:Program} {C:Ctx} {fr:Fr} {tm:Array Value} {w w':World} {σ:St} {γ:Key→Option Nat} {D:Nat→Prop}
theorem Bg {t ty e:TypeId} {i:TypeInfo} (ht:P.underlying t=some (.slice e)) (hi:P.info? e=some i) (a a2:Option Go.Addr) (n cap cap2:Nat) (P_:n≤cap) :
  (Builtin.append_ #[t,t] ty #[.slice a n cap,.slice a2 0 cap2]).run P w=.ok (.slice a n cap) w:=by
 cases a<;>cases a2<;>simp [Builtin.append_,run_underlying ht,sizeOf,typeInfo,hi,Builtin.lenOf,Builtin.firstCells,P_,storeCells,loadCells,loadCellsFrom]
theorem D1 (hG:Good P C.tab) {O O':Nat→Prop} {c:TypeId} {xs ys:List T} {ti:TI} {e ce:TypeId} {te:TI} (hc:C.tab.at c=some (c,ti)) (hk:ti.k=.sl e) (he:C.tab.at e=some (ce,te))
  {b cap:Nat} {cs:Array Value} {olds news:List Value} (hh:w'.heap[b]?=some (.cells cs e (0,0))) (B_:xs.length+ys.length≤cap) (hm:cap≤maxLen) (f_:cs.size=cap*te.cells)
  (fw:olds.length=xs.length*te.cells) (o8:news.length=ys.length*te.cells) (cM:∀(k:Nat) u,(olds++news)[k]?=some u→cs[k]?=some u) (z_:Stays w w' O O')
  (ho:∀(j:Nat) x,xs[j]?=some x→x.isG=te.isS∧x.leaves.length=te.cells∧∀(n:Nat) y ty,x.leaves[n]?=some y→(te.lv ce)[n]?=some ty→∃u,olds[j*te.cells+n]?=some u∧L C.tab w O ty u y)
  (hn:∀(j:Nat) x,ys[j]?=some x→x.isG=te.isS∧x.leaves.length=te.cells∧∀(n:Nat) y ty,x.leaves[n]?=some y→(te.lv ce)[n]?=some ty→∃u,news[j*te.cells+n]?=some u∧L C.tab w O ty u y) :
  Own C.tab w' O' c (.slice (some ⟨b,0,none⟩) (xs.length+ys.length) cap) (some b) (xs++ys):=by
 refine ⟨ti,e,ce,te,hc,hk,he,(hG _ _ _ he).pos,.inr ⟨b,cap,cs,rfl,by rw [WN],hh,by rw [WN];exact B_,hm,f_,fun j x hx=>?_⟩⟩
 by_cases hj:j<xs.length
 ·rw [Xr hj] at hx
  obtain ⟨k1,k2,k3⟩:=ho j x hx;refine ⟨k1,k2,fun n y ty hy ht=>?_⟩;obtain ⟨u,hu,hl⟩:=k3 n y ty hy ht;refine ⟨u,cM _ u ?_,hl.mono z_⟩;rw [Xr (WQ.1 hu).1];exact hu
 ·rw [Xf (by omega)] at hx
  obtain ⟨k1,k2,k3⟩:=hn (j-xs.length) x hx;refine ⟨k1,k2,fun n y ty hy ht=>?_⟩;obtain ⟨u,hu,hl⟩:=k3 n y ty hy ht;refine ⟨u,cM _ u ?_,hl.mono z_⟩;have br:j*te.cells=xs.length*te.cells+(j-xs.length)*te.cells:=by rw [←Xe];congr 1;omega
  rw [Xf (by rw [fw];omega),fw,show j*te.cells+n-xs.length*te.cells=(j-xs.length)*te.cells+n by omega];exact hu
theorem ED (hG:Good P C.tab) {O:Nat→Prop} {c st ty:TypeId} {v vx:Value} {g:Option Nat} {xs ys:List T} (O_:Own C.tab w O c v g xs) (hS:tC C.tab w O c vx ys)
  {ti:TI} {e ce:TypeId} {te:TI} (hc:C.tab.at c=some (c,ti)) (hk:ti.k=.sl e) (he:C.tab.at e=some (ce,te)) (hu:P.underlying st=some (.slice e))
  (C_:(xs.length+ys.length)*te.bytes≤room) (bW:xs.length+ys.length≤maxLen) :
  ∃v' w' g',(Builtin.append_ #[st,st] ty #[v,vx]).run P w=.ok v' w'∧w'.os=w.os∧w'.tape=w.tape∧w'.output=w.output∧w.heap.size≤w'.heap.size ∧
   (∀b,b<w.heap.size→g≠some b→w'.heap[b]?=w.heap[b]?)∧(g'=g∨∃b,g'=some b∧w.heap.size≤b∧b<w'.heap.size) ∧
   ∀O',Stays w w' O O'→Own C.tab w' O' c v' g' (xs++ys):=by
 obtain ⟨inf,z,z1,z2,z3,z4,-,z6,-,-⟩:=hG.zero he;obtain ⟨a2,cap2,news,n1,n2,n3,n4,n5,n6,n7⟩:=hS.news hG hc hk he;subst n1;have r_:=(hG _ _ _ he).pos;have iW:=O_;obtain ⟨ti',e',ce',te',q1,q2,q3,q4,q5⟩:=O_
 have:=pu hc q1
 simp only [WK,W5] at this;subst this;rw [hk] at q2;simp only [Go.Pl.K.sl.injEq] at q2;subst q2
 have:=pu he q3
 simp only [WK] at this;obtain ⟨rfl,rfl⟩:=this
 by_cases hm:ys.length=0
 ·have hy:ys=[]:=List.eq_nil_of_length_eq_zero hm
  subst hy
  have:∃a n cap,v=.slice a n cap∧n≤cap:=by
   rcases q5 with ⟨-,rfl,a,rfl⟩ | ⟨b,cap,cs,-,rfl,-,B_,-⟩
   ·exact ⟨a,0,0,rfl,WU _⟩
   ·exact ⟨_,_,_,rfl,B_⟩
  obtain ⟨a,n,cap,rfl,P_⟩:=this;refine ⟨_,w,g,Bg hu z1 a a2 n cap cap2 P_,rfl,rfl,rfl,WU _,fun _ _ _=>rfl,.inl rfl,fun O' z_=>?_⟩;rw [XD];exact iW.mono z_ fun _ _=>rfl
 ·cases a2 with
  | none=>exact absurd (by rw [n5 rfl];rfl) hm
  | some a2 =>
   have bn:=n6 a2 rfl;have jR:((xs.length+ys.length:Nat):Int)≤9223372036854775807:=by simp only [maxLen] at bW;omega
   rw [←z3] at C_;unfold room at C_;have jS:z.cells.size=te.cells:=z6;have grown:∀(old:Nat) (olds:List Value),olds.length=xs.length*te.cells→old<xs.length+ys.length →
     (∀(j:Nat) x,xs[j]?=some x→x.isG=te.isS∧x.leaves.length=te.cells∧∀(n:Nat) y ty,x.leaves[n]?=some y→(te.lv ce)[n]?=some ty→∃u,olds[j*te.cells+n]?=some u∧L C.tab w O ty u y) →
     ∀O',Stays w (w.drew.alloc (.cells (olds.toArray++news.toArray++Builtin.zeroCells z.cells (grownCap w (xs.length+ys.length) old e-(xs.length+ys.length))) e)) O O' →
      Own C.tab (w.drew.alloc (.cells (olds.toArray++news.toArray++Builtin.zeroCells z.cells (grownCap w (xs.length+ys.length) old e-(xs.length+ys.length))) e)) O' c
       (.slice (some ⟨w.heap.size,0,none⟩) (xs.length+ys.length) (grownCap w (xs.length+ys.length) old e)) (some w.heap.size) (xs++ys):=by
    intro old olds fw b_ ho O' z_;have fx:=grownCap_ge w (xs.length+ys.length) old e;refine D1 hG hc hk he (heap_alloc_new w.drew _) fx (grownCap_le_maxLen w _ old e bW) ?_ fw n3 ?_ z_ ho n7
    ·simp only [ZA,ZB,size_zeroCells,jS,fw,n3,←Xe]
     congr 1
     omega
    ·intro k u iX
     have e_:=(WQ.1 iX).1;rw [YG (by simpa using e_)];rw [←iX];simp
   rcases q5 with ⟨rfl,rfl,a,rfl⟩ | ⟨b,cap,cs,rfl,rfl,hh,B_,nz,f_,aj⟩
   ·simp only [YH,WV,Yc] at grown jR C_ ⊢
    have key:(Builtin.append_ #[st,st] ty #[.slice a 0 0,.slice (some a2) ys.length cap2]).run P w=.ok (.slice (some ⟨w.heap.size,0,none⟩) ys.length (grownCap w ys.length 0 e))
      (w.drew.alloc (.cells (([]:List Value).toArray++news.toArray++Builtin.zeroCells z.cells (grownCap w ys.length 0 e-ys.length)) e)):=by
     cases a with
     | none =>
      have hr:=run_append_nil (P:=P) w st ty e inf z hu z1 z4 a2 ys.length cap2 news (by rw [n3,z2]) bn (by omega) jR (by omega);rw [hr];simp
     | some a =>
      have hr:=run_append_grow (P:=P) w st ty e inf z hu z1 z4 a 0 0 [] (by simp) (fun j v hv=>by simp at hv) a2 ys.length cap2 news (by rw [n3,z2]) bn (by omega) (by rw [WV];exact jR) (growslice_fits (by omega) (by rw [WV];exact C_));rw [hr];simp
    exact ⟨_,_,some w.heap.size,key,rfl,rfl,rfl,by rw [pY];show w.heap.size≤w.heap.size+1;omega,fun k e_ _=>heap_alloc_old w.drew _ k e_,.inr ⟨_,rfl,WU _,by rw [pY];show w.heap.size<w.heap.size+1;omega⟩,
     grown 0 [] (by simp) (by omega) (fun j x hx=>by simp at hx)⟩
   ·have br:=Xb te.cells B_
    have bX:∀(j:Nat) x,xs[j]?=some x→x.isG=te.isS∧x.leaves.length=te.cells∧∀(n:Nat) y ty,x.leaves[n]?=some y→(te.lv ce)[n]?=some ty→∃u,(cs.toList.take (xs.length*te.cells))[j*te.cells+n]?=some u∧L C.tab w O ty u y:=by
     intro j x hx;obtain ⟨k1,k2,k3⟩:=aj j x hx;refine ⟨k1,k2,fun n y t hy ht=>?_⟩;obtain ⟨u,aw,hl⟩:=k3 n y t hy ht;have hj:=(WQ.1 hx).1;have hn:n<te.cells:=by rw [←k2];exact (WQ.1 hy).1
     have:=Xb te.cells (show j+1≤xs.length by omega)
     rw [Xe,Yb] at this;exact ⟨u,by rw [Xy,WY (by omega),Xa];exact aw,hl⟩
    have fw:(cs.toList.take (xs.length*te.cells)).length=xs.length*te.cells:=by
     have:=Ye (xs:=cs)
     simp;omega
    by_cases kK:xs.length+ys.length≤cap
    ·have iY:=Xb te.cells kK
     rw [Xe] at iY;have D_:xs.length*te.cells+news.length≤cs.size:=by omega
     have hr:=run_append_room (P:=P) w st ty e inf hu z1 b xs.length cap cs hh a2 ys.length cap2 news (by rw [n3,z2]) bn n4 kK (by rw [z2];exact D_);rw [z2] at hr;refine ⟨_,_,some b,hr,rfl,rfl,rfl,by simp,fun k _ e_=>setRow_other w b k _ (fun q=>e_ (by rw [q])),.inl rfl,fun O' z_=>?_⟩;refine D1 hG hc hk he (setRow_heap w b cs _ e _ hh) kK nz ?_ fw n3 ?_ z_ bX n7
     ·have:=qQ D_
      unfold splice at this;rw [this];exact f_
     ·intro k u iX
      have e_:=(WQ.1 iX).1;rw [List.getElem?_toArray,Xr e_];exact iX
    ·have iZ:∀(j:Nat) u,(cs.toList.take (xs.length*te.cells))[j]?=some u→w.cell? ((⟨b,0,none⟩:Go.Addr).add j)=some u:=by
      intro j u aw;rw [rB,WV,pM hh,←Xa];rw [Xy] at aw;split at aw
      ·exact aw
      ·cases aw
     have hr:=run_append_grow (P:=P) w st ty e inf z hu z1 z4 ⟨b,0,none⟩ xs.length cap _ (by rw [z2];exact fw) iZ a2 ys.length cap2 news (by rw [n3,z2]) bn (by omega) jR (growslice_fits (by omega) C_);exact ⟨_,_,some w.heap.size,hr,rfl,rfl,rfl,by rw [pY];show w.heap.size≤w.heap.size+1;omega,fun k e_ _=>heap_alloc_old w.drew _ k e_,.inr ⟨_,rfl,WU _,by rw [pY];show w.heap.size<w.heap.size+1;omega⟩,
      grown cap _ fw (by omega) bX⟩
end
section
variable {P:Program} {C:Ctx} {fr:Fr} {tm:Array Value} {w w':World} {σ:St} {γ:Key→Option Nat} {D:Nat→Prop}
theorem GH {O:Nat→Prop} {c:TypeId} {hv v:Value} {g:Option Nat} {xs:List T} {len:Nat} (O_:Own C.tab w O c hv g xs) (y_:Sub C.tab c hv v 0 len xs.length):Own C.tab w O c v g (xs.take len):=by
 obtain ⟨ti,e1,ce,te,a,cap,a',cap',q1,q2,q3,q4,q5,q6,q7,q8,q9,q10,q11⟩:=y_;obtain ⟨rfl,rfl⟩:=q9 rfl;obtain ⟨ti',e2,ce2,te2,r1,r2,r3,r4,r5⟩:=O_;refine ⟨ti',e2,ce2,te2,r1,r2,r3,r4,?_⟩;have i_:(xs.take len).length=len:=by simp;omega
 rcases r5 with ⟨s1,rfl,a2,s3⟩ | ⟨b,cap2,cs,s1,s2,s3,s4,s5,s6,s7⟩
 ·simp at q6
  subst q6;refine .inl ⟨s1,by simp,a',?_⟩;rw [q4] at s3;simp only [Value.slice.injEq] at s3;rw [q5,s3.2.2]
 ·rw [q4] at s2
  simp only [Value.slice.injEq,W5] at s2;obtain ⟨rfl,rfl⟩:=s2;refine .inr ⟨b,cap',cs,s1,by rw [q5,i_],s3,by omega,s5,s6,fun j x aV=>s7 j x ?_⟩;rw [Xy] at aV;split at aV
  ·exact aV
  ·cases aV
variable (hG:Good P C.tab) (h:Rel C.tab fr tm w σ γ) (g_:Wf C D σ) (f_:tm.size=C.nt) {i:Nat} (hi:¬ D i) {o:Oper} {p:Path} {K:St→Prop} {Q:Exit→Act→World→Prop}
include hG h g_ f_ hi
theorem Cn {st xt:TypeId} {s x:Operand} {c:Call} (ho:o.op=.call c) (hc:c.callee=.builtin .append) (E_:c.args.toList=[s,x]) (ap:c.argTypes.toList=[st,xt]) :
  Sound P C fr tm w σ D i o p K Q ((EC C i p o st xt s x).run σ):=by
 unfold EC
 cases p with
 | cons=>exact pq
 | nil =>
  have hp:σ.Holds []:=trivial;simp only;refine pI _ _ pq fun d hd hn hv d_=>?_
  split
  ·rename_i z_
   have z_:=WO z_;subst z_;refine qC _ pq fun cs ts hr=>?_
   split
   ·rename_i e aj
    have hk:=zJ aj;split
    ·rename_i ce te he
     have k_:=(hG _ _ _ hr).self;have hu:=hG.slice (t:=st) (e:=e) (by unfold Ctx.el Ctx.kd;rw [hr];exact aj);have ha:c.args=#[s,x]:=by rw [←E_]
     have ht:c.argTypes=#[st,st]:=by rw [←ap]
     refine ru hG h [] hp x st pq fun cx vx hx=>?_
     split
     ·rename_i gr
      have gr:=WO gr;subst gr;obtain ⟨-,hS⟩:=hx.slice hG (e:=e) (by unfold Ctx.el Ctx.kd;rw [k_];exact aj);have core:∀(ks:Key) (g:Option Nat) (xs:List T),Own C.tab w (Ob fr γ) cx (ev tm s) g xs→(g=none∨(tR σ ks∧g=γ ks))→(ks=pp d∨tR σ ks) →
        (xs.length+vx.list.length)*te.bytes≤room→xs.length+vx.list.length≤maxLen→∀σ',(∀k,σ'.get k=((σ.put ks (top .u)).put (pp d) (top (.own cx (i+1) (xs++vx.list)))).get k)→K σ' →
        o.wp P ⟨tm,[]⟩ w (After C fr (fun j=>D j∨j=i) K) Q:=by
       intro ks g xs O_ hg ax C_ bW σ' hσ hK;obtain ⟨v',w',g',r1,r2,r3,r4,r5,r6,r7,r8⟩:=ED (ty:=o.type) (st:=st) hG O_ hS k_ hk he hu C_ bW;have ay:(execOp (Act.eval ⟨tm,[]⟩) o).run P w=.ok (.value v') w' := by
        unfold ev at r1;simp only [execOp,ho,resolve,hc,ha,ht];simp [invoke,builtin,r1]
       obtain ⟨s1,s2⟩:=Rel.E9 (w' := w') (ks:=ks) (d:=d) (c:=cx) (xs:=xs++vx.list) (v:=v') (g:=g') hG h g_ hi (by rw [f_];exact hn) d_ r2 r3 r4 r5 (fun b hb hq=>r6 b hb (by
         rcases hg with hg | ⟨h1,hg⟩
         ·rw [hg];simp
         ·rw [hg];exact hq h1))
        (by
         rcases r7 with r7 | r7
         ·rw [r7]
          rcases hg with hg | hg
          ·exact .inl hg
          ·exact .inr (.inl hg)
         ·exact .inr (.inr r7)) ax r8
       exact rU ay hd ⟨rfl,by simp [f_],_,_,hK,s1.congr hσ,s2.congr hσ⟩
      refine qB hG h [] hp s st pq fun ko a hx=>?_
      cases hx with
      | const=>exact pq
      | nil c' e' ti' _ aV cN dZ e_ =>
       simp only;split
       ·rename_i ae
        have ae:=WO ae;subst ae;intro hW;exact core (pp d) none [] (v7 hG aV dZ e_ rfl) (.inl rfl) (.inl rfl) hW.1.1 hW.1.2 _ (ug σ _ _ _) hW.2
       ·exact pq
      | tmp s' e' aV aO K_ j_ =>
       cases h_:e'.av with
       | own c' tag xs =>
        rw [h_] at j_;simp only;split
        ·rename_i ae
         have ae:=WO ae;subst ae;split
         ·rename_i k e_
          simp only [WJ,WK] at e_;obtain ⟨rfl,w_⟩:=e_;have H_:tR σ (pp s'):=⟨c',tag,xs,by rw [aO,←w_,←h_]⟩;intro hW;exact core (pp s') _ xs j_ (.inr ⟨H_,rfl⟩) (.inr H_) hW.1.1 hW.1.2 _ (fun _=>rfl) hW.2
         ·exact pq
         ·rename_i e_;cases e_
        ·exact pq
       | alias h0 tag c' off len =>
        rw [h_] at j_;simp only;split
        ·rename_i ae aZ
         have ae:=WO ae;subst ae;have aZ:=WO aZ;subst aZ;refine qn h0 tag pq fun c2 xs hh=>?_
         obtain ⟨rfl,-,v_,m_,O_,y_⟩:=rg h j_ hh;intro hW;exact core h0 _ (xs.take len) (GH O_ y_) (.inr ⟨⟨_,_,_,hh⟩,rfl⟩) (.inr ⟨_,_,_,hh⟩) hW.1.1 hW.1.2 _ (fun _=>rfl) hW.2
        ·exact pq
       | _=>exact pq
     ·exact pq
    ·exact pq
   ·exact pq
  ·exact pq
end
section
variable {P:Program} {C:Ctx} {fr:Fr} {tm:Array Value} {w w':World} {σ:St} {γ:Key→Option Nat} {D:Nat→Prop}
theorem u7 (s:Nat):∀(as_ :List AV) (c:Nat) (σ:St),
  (∀(j:Nat) a,as_[j]?=some a→(σ.puts (qd s c as_)).get (cell s (c+j))=some (top a)) ∧
  (∀k,(∀j,j<as_.length→k≠cell s (c+j))→(σ.puts (qd s c as_)).get k=σ.get k):=by
 intro as_
 induction as_ with
 | nil=>exact fun c σ=>⟨fun j a hy=>by simp at hy,fun k _=>rfl⟩
 | cons x as_ ih =>
  intro c σ;obtain ⟨q1,q2⟩:=ih (c+1) (σ.put (cell s c) (top x));refine ⟨fun j y hy=>?_,fun k hk=>?_⟩
  ·show ((σ.put (cell s c) (top x)).puts (qd s (c+1) as_)).get _=_
   cases j with
   | zero =>
    simp at hy;subst hy;rw [q2 _ fun j _ hh=>by have:=(rS.1 hh).2;omega];exact pB
   | succ j =>
    simp at hy;rw [show c+(j+1)=c+1+j by omega];exact q1 j y hy
  ·show ((σ.put (cell s c) (top x)).puts (qd s (c+1) as_)).get _=_
   rw [q2 k fun j hj hh=>hk (j+1) (by simpa using hj) (by rw [hh,show c+1+j=c+(j+1) by omega])];exact pD (by simpa using hk 0 (by simp))
theorem Rel.alloc (hG:Good P C.tab) (h:Rel C.tab fr tm w σ γ) (g_:Wf C D σ) (o:Obj):Rel C.tab fr tm (w.alloc o) σ γ:=by
 refine Rel.step hG h (fun _=>False) rfl rfl rfl (by rw [pY];omega) (fun b hb _=>heap_alloc_old w _ b (Xz hb h.size)) (fun b hb ho=>⟨heap_alloc_old w _ b hb,ho⟩) h.inj
  (fun k b hk=>by rw [pY];have:=h.blk k b hk;exact ⟨by omega,this.2⟩) h.cel h.cmp (fun _ _=>rfl) ?_ (fun _ _ q=>q.elim)
 intro k e _ hk;refine ⟨?_,rfl,fun _ _ _=>id,fun b hb=>?_,fun _ _ _ q=>q.elim,fun h0 tag hh _=>g_.dom k e h0 tag hk hh⟩
 ·refine rp (fun _=>rfl) fun ht=>⟨rfl,fun b hb=>?_⟩
  exact sk (heap_alloc_old w _ b (h.blk _ b hb).1)
 ·have b_:=(h.blk k b hb).1
  exact ⟨fun _ _ _ _=>heap_alloc_old w _ b b_,fun _ _ _ _ cs ety hh=>⟨cs,by rw [heap_alloc_old w _ b b_];exact hh,rfl⟩⟩
theorem Rel.AM (hG:Good P C.tab) (h:Rel C.tab fr tm w σ γ) (g_:Wf C D σ) {i:Nat} (hi:¬ D i) {d:Nat} (hd:d<tm.size) {cr n:Nat} {cs:Array Value} {ety:TypeId} {as_ :List AV}
  (U_:σ.get (pp d)=none∨∃c tag,σ.get (pp d)=some ⟨[],.box c tag n⟩) (i_:as_.length=n) (aJ:cs.size=n)
  (dc:∀(j:Nat) a,as_[j]?=some a→(∃c y u,a=.t c y∧cs[j]?=some u∧V C.tab w (Ob fr γ) c u y)∨(∃c u,a=.own c (i+1) []∧cs[j]?=some u∧Own C.tab w (Ob fr γ) c u none [])) :
  ∃γ',Rel C.tab fr (tm.setIfInBounds d (.pointer (some ⟨w.heap.size,0,none⟩))) (w.alloc (.cells cs ety)) (σ.puts ((pp d,top (.box cr (i+1) n))::qd d 0 as_)) γ' ∧
   Wf C (fun j=>D j∨j=i) (σ.puts ((pp d,top (.box cr (i+1) n))::qd d 0 as_)):=by
 let W:Key→Prop:=fun k=>k=pp d∨∃j,j<n∧k=cell d j
 have aF:∀k,(σ.puts ((pp d,top (.box cr (i+1) n))::qd d 0 as_)).get k=((σ.put (pp d) (top (.box cr (i+1) n))).puts (qd d 0 as_)).get k:=fun _=>rfl;obtain ⟨g1,g2⟩:=u7 d as_ 0 (σ.put (pp d) (top (.box cr (i+1) n)));simp only [WV] at g1 g2;have eX:(σ.puts ((pp d,top (.box cr (i+1) n))::qd d 0 as_)).get (pp d)=some (top (.box cr (i+1) n)):=by
  rw [aF,g2 _ fun j _=>px,pB]
 have q_:∀k,¬ W k→(σ.puts ((pp d,top (.box cr (i+1) n))::qd d 0 as_)).get k=σ.get k:=by
  intro k hk;rw [aF,g2 _ fun j hj he=>hk (.inr ⟨j,by omega,he⟩),pD fun e=>hk (.inl e)]
 have eY:∀k e,W k→(σ.puts ((pp d,top (.box cr (i+1) n))::qd d 0 as_)).get k=some e→(k=pp d∧e=top (.box cr (i+1) n))∨∃j a,k=cell d j∧as_[j]?=some a∧e=top a:=by
  rintro k e (rfl | ⟨j,hj,rfl⟩) he
  ·rw [eX] at he
   exact .inl ⟨rfl,(W3 he).symm⟩
  ·have e1:=WL (show j<as_.length by omega)
   rw [aF,g1 j _ e1] at he;exact .inr ⟨j,_,rfl,e1,(W3 he).symm⟩
 have aE:¬ Old D (i+1):=by
  rintro (q | ⟨j,hj,q⟩)
  ·cases q
  ·have:i=j:=by omega
   subst this;exact hi hj
 have df:∀m e,σ.get (cell d m)=some e→m<n:=by
  intro m e he;obtain ⟨c,tag,m',hb⟩:=h.cel d m e he;have N_:∃c tag,σ.get (pp d)=some ⟨[],.box c tag n⟩:=by
   rcases U_ with q | q
   ·rw [q] at hb;cases hb
   ·exact q
  obtain ⟨c1,t1,bk⟩:=N_;obtain ⟨v,hv,hr,-⟩:=h.ent _ _ bk;obtain ⟨b,cs0,ety0,k1,-,k3,k4⟩:=hr trivial;obtain ⟨v2,af,-⟩:=h.ent _ _ he;simp only [pJ,cell,k1,Xl] at af;rw [pM k3] at af;rw [←k4];exact (Yg.1 af).1
 have hbox_ne:∀{s:Nat},s≠d→¬ W (pp s):=by
  rintro s hs (q | ⟨j,-,q⟩)
  ·exact hs (pZ.1 q)
  ·exact px q
 have bJ:∀t j,¬ W (comp t j):=by
  rintro t j (q | ⟨j',-,he⟩)
  ·exact pK q.symm
  ·exact pS he.symm
 have bO:∀q m,σ.get (pp d)≠some ⟨q,.tup m⟩:=by
  intro q m hh
  rcases U_ with q' | ⟨c,tag,q'⟩<;>rw [q'] at hh<;>cases hh
 have V_:=heap_alloc_new w (.cells cs ety);refine ⟨rN (qA W γ) (pp d) (some w.heap.size),Rel.upd hG h g_ W (fun _=>False) rfl rfl rfl (by rw [pY];omega) (fun b hb _=>heap_alloc_old w _ b hb) (fun _ _ q=>q.elim) ?_ ?_ ?_ q_ ?_ ?_ ?_ ?_ ?_ ?_ (fun tag ho=>ho.mono fun _=>.inl) ?_ ?_ ?_ ?_⟩
 ·intro k hk
  rw [qa _ _ fun q=>hk (.inl q),rq hk]
 ·intro k b hk hb
  by_cases h1:k=pp d
  ·subst h1
   rw [qg] at hb;simp only [WJ] at hb;subst hb;exact .inr ⟨WU _,by rw [pY];omega⟩
  ·rw [qa _ _ h1,sH hk] at hb
   cases hb
 ·intro k k' b hk e_ hb s_
  have one:∀k,W k→rN (qA W γ) (pp d) (some w.heap.size) k=some b→k=pp d:=by
   intro k hk hb
   by_cases h1:k=pp d
   ·exact h1
   ·rw [qa _ _ h1,sH hk] at hb
    cases hb
  rw [one k hk hb,one k' e_ s_]
 ·intro k e hk he
  refine rp (fun ht=>?_) (fun ht=>?_)
  ·have:d≠k.a:=by
    intro q
    by_cases h0:k.tag=0
    ·exact hk (.inl (by rw [sT h he h0,q]))
    ·obtain ⟨v0,v_,-⟩:=h.ent k e he
     have h2:k.tag=2:=by
      obtain ⟨t,a,b⟩:=k;unfold pJ at v_
      match t with
      | 0=>exact absurd rfl h0
      | 1=>exact absurd rfl ht
      | 2=>rfl
      | n+3=>cases v_
     obtain ⟨-,q',m,hh⟩:=uq h he h2;rw [←q] at hh;exact bO _ _ hh
   simp [Xp,this]
  ·obtain ⟨aD,c,tag,m,hs⟩:=rC h he ht
   have t_:k.a≠d:=by
    intro q;rw [aD,q] at he;exact hk (.inr ⟨k.b,df _ _ he,by rw [←q];exact aD⟩)
   refine ⟨by rw [qa _ _ fun q=>t_ (pZ.1 q),rq (hbox_ne t_)],fun b hb=>sk ?_⟩;exact heap_alloc_old w _ b (h.blk _ b hb).1
 ·intro s m e he
  by_cases hs:s=d
  ·subst hs
   exact ⟨cr,i+1,n,eX⟩
  ·have hk:¬ W (cell s m):=by
    rintro (q | ⟨j,-,q⟩)
    ·exact px q.symm
    ·exact hs (rS.1 q).1
   rw [q_ _ hk] at he;obtain ⟨c,tag,m',hb⟩:=h.cel s m e he;exact ⟨c,tag,m',by rw [q_ _ (hbox_ne hs)];exact hb⟩
 ·intro s j e he
  rw [q_ _ (bJ s j)] at he;obtain ⟨q,m,hb⟩:=h.cmp s j e he;have hs:s≠d:=by
   rintro rfl;exact bO _ _ hb
  exact ⟨q,m,by rw [q_ _ (hbox_ne hs)];exact hb⟩
 ·rintro s q c x hs hh (hk | ⟨j,-,hk⟩)
  ·have:=pZ.1 hk
   subst this
   rcases U_ with q' | ⟨c',tag,q'⟩<;>rw [q'] at hh<;>cases hh
  ·exact px hk
 ·rintro k (rfl | ⟨j,hj,rfl⟩) _
  ·rw [eX];simp
  ·rw [aF,g1 j _ (WL (show j<as_.length by omega))]
   simp
 ·intro k e tag hk he ht
  rcases eY k e hk he with ⟨-,rfl⟩ | ⟨j,a,-,ha,rfl⟩
  ·simp only [top,AV.re,WJ] at ht
   subst ht;exact uZ
  ·rcases dc j a ha with ⟨c,y,u,rfl,-⟩ | ⟨c,u,rfl,-⟩
   ·cases ht
   ·simp only [top,AV.re,WJ] at ht
    subst ht;exact uZ
 ·intro k tag hk _ ho
  refine uK (D:=D) (fun e t he ht q=>?_) ho
  rcases eY k e hk he with ⟨-,rfl⟩ | ⟨j,a,-,ha,rfl⟩
  ·simp only [top,AV.re,WJ] at ht
   subst ht;exact aE q
  ·rcases dc j a ha with ⟨c,y,u,rfl,-⟩ | ⟨c,u,rfl,-⟩
   ·cases ht
   ·simp only [top,AV.re,WJ] at ht
    subst ht;exact aE q
 ·intro k e h0 tag hk he hh
  rcases eY k e hk he with ⟨-,rfl⟩ | ⟨j,a,-,ha,rfl⟩
  ·cases hh
  ·rcases dc j a ha with ⟨c,y,u,rfl,-⟩ | ⟨c,u,rfl,-⟩<;>cases hh
 ·intro k e s b hk he hm
  rcases eY k e hk he with ⟨-,rfl⟩ | ⟨j,a,-,ha,rfl⟩<;>simp [top] at hm
 ·intro A_ k e hk he
  rcases eY k e hk he with ⟨rfl,rfl⟩ | ⟨j,a,rfl,ha,rfl⟩
  ·exact ⟨.pointer (some ⟨w.heap.size,0,none⟩),by rw [pz];simp [hd],fun _=>⟨w.heap.size,cs,ety,qg _ _ _,rfl,V_,aJ⟩,fun q=>absurd trivial q⟩
  ·have m_:∀u,cs[j]?=some u→pJ (tm.setIfInBounds d (.pointer (some ⟨w.heap.size,0,none⟩))) (w.alloc (.cells cs ety)) (rN (qA W γ) (pp d) (some w.heap.size)) (cell d j)=some u:=by
    intro u hu;simp only [pJ,cell];rw [show rN (qA W γ) (pp d) (some w.heap.size) (pp d)=some w.heap.size from qg _ _ _];simp only [Xl];rw [pM V_];exact hu
   rcases dc j a ha with ⟨c,y,u,rfl,hu,hV⟩ | ⟨c,u,rfl,hu,hO⟩
   ·exact ⟨u,m_ u hu,fun _=>V.mono A_ hV,fun q=>absurd trivial q⟩
   ·refine ⟨u,m_ u hu,fun _=>?_,fun q=>absurd trivial q⟩
    show Own C.tab _ _ c u (rN (qA W γ) (pp d) (some w.heap.size) (cell d j)) []
    rw [qa _ _ px.symm,sH hk];exact hO.mono A_ fun b hb=>by cases hb
theorem AN {d n:Nat} {r:R} {motive:qO→Prop} (c_:motive .bad) (l_:(σ.get (pp d)=none∨∃c tag,σ.get (pp d)=some ⟨[],.box c tag n⟩)→motive (r.run σ)):motive ((AM d n r).run σ):=by
 simp only [AM,Rd.run];split
 ·rename_i he
  exact l_ (.inl he)
 ·rename_i c tag n' he
  split
  ·rename_i hn
   have:=WO hn
   subst this;exact l_ (.inr ⟨c,tag,he⟩)
  ·exact c_
 ·exact c_
theorem Hz (s:Nat):∀(tys:List TypeId) (xs:List T) (c:Nat),tys.length=xs.length→cellsOf s c tys xs=qd s c (List.zipWith AV.t tys xs):=by
 intro tys
 induction tys with
 | nil=>intro xs c hl;cases xs<;>rfl
 | cons ty tys ih =>
  intro xs c hl
  cases xs with
  | nil=>rfl
  | cons x xs =>
   simp only [cellsOf,List.zipWith_cons_cons,qd];rw [ih xs (c+1) (by simpa using hl)]
theorem EH (C:Ctx) (s i:Nat):∀(tys:List TypeId) (xs:List T) (c:Nat),tys.length=xs.length→∃as_ :List AV,zB C s i c tys xs=qd s c as_∧as_.length=xs.length ∧
  ∀(j:Nat) a,as_[j]?=some a→∃y ty,xs[j]?=some y∧tys[j]?=some ty∧(a=.t ty y∨(y=.l []∧a=.own ty (i+1) [])):=by
 intro tys
 induction tys with
 | nil =>
  intro xs c hl
  cases xs with
  | nil=>exact ⟨[],rfl,rfl,fun j a ha=>by simp at ha⟩
  | cons=>simp at hl
 | cons ty tys ih =>
  intro xs c hl
  cases xs with
  | nil=>simp at hl
  | cons x xs =>
   obtain ⟨as_,h1,h2,h3⟩:=ih xs (c+1) (by simpa using hl);clear hl
   refine ⟨(match x,wP C.homes (cell s c) with
    | .l [],true=>.own ty (i+1) []
    | x,_=>.t ty x)::as_,by simp only [zB,qd,h1];rfl,by simp [h2],fun j a ha=>?_⟩
   cases j with
   | zero =>
    simp only [WT,WJ] at ha;subst ha;refine ⟨x,ty,rfl,rfl,?_⟩;split
    ·exact .inr ⟨rfl,rfl⟩
    ·exact .inl rfl
   | succ j =>
    simp only [WR] at ha;obtain ⟨y,t,q1,q2,q3⟩:=h3 j a ha;exact ⟨y,t,by simpa using q1,by simpa using q2,q3⟩
variable (hG:Good P C.tab) (h:Rel C.tab fr tm w σ γ) (g_:Wf C D σ) (f_:tm.size=C.nt) {i:Nat} (hi:¬ D i) {o:Oper} {p:Path} {K:St→Prop} {Q:Exit→Act→World→Prop}
include hG h g_ f_ hi
theorem Dj {ty:TypeId} (ho:o.op=.alloc ty):Sound P C fr tm w σ D i o p K Q ((IQ C i p o ty).run σ):=by
 unfold IQ
 cases p with
 | cons=>exact pq
 | nil =>
  simp only;split
  ·exact pq
  ·rename_i d hd
   split
   ·rename_i hn
    have hn:=Xd hn;refine qC _ pq fun cr tr hr=>?_
    refine AN pq fun U_=>?_
    intro hW;have k_:=(hG _ _ _ hr).self;have i_:=(hG _ _ _ k_).len;obtain ⟨inf,z,z1,z2,z3,z4,z5,z6,z7,z8⟩:=hG.zero hr;have aA:∀u∈z.cells.toList,QN u=true:=by
     obtain ⟨inf',z',q1,q2,q3,q4,-,q6⟩:=(hG _ _ _ hr).info;rw [z1] at q1;simp only [WJ] at q1;subst q1;rw [z4] at q4;simp only [WJ] at q4;subst q4;intro u hu;exact (YI.1 q6) u (by simpa using hu)
    have ay:(execOp (Act.eval ⟨tm,[]⟩) o).run P w=.ok (.value (.pointer (some ⟨w.heap.size,0,none⟩))) (w.alloc (.cells z.cells ty)):=by
     simp [execOp,ho,Instr.alloc,zeroValue,typeInfo,z1,z4,newVar,newRow]
    have ai:(rh tr.zero tr.cells)=tr.zero.leaves:=qo z7;obtain ⟨as_,a1,a2,a3⟩:=EH C d i (tr.lv cr) (rh tr.zero tr.cells) 0 (by rw [ai,i_,z7]);have hK:K (σ.puts ((pp d,top (.box cr (i+1) tr.cells))::qd d 0 as_)):=by rw [←a1];exact hW
    obtain ⟨γ',r1,r2⟩:=Rel.AM (ety:=ty) (cr:=cr) (cs:=z.cells) (as_ :=as_) hG h g_ hi (by rw [f_];exact hn) U_ (by rw [a2,ai,z7]) z6 (fun j a ha=>by
     obtain ⟨y,t,q1,q2,q3⟩:=a3 j a ha;rw [ai] at q1;obtain ⟨u,hu,hL⟩:=z8 w (Ob fr γ) j y t q1 q2;obtain ⟨t1,bZ,aX⟩:=(hG _ _ _ k_).leaf t (XR q2)
     rcases q3 with rfl | ⟨rfl,rfl⟩
     ·have hp:=zY hL
      exact .inl ⟨t,y,u,rfl,hu,sn bZ aX (qz hG bZ aX) hp.2 hp.1 hL⟩
     ·refine .inr ⟨t,u,rfl,hu,?_⟩
      have kJ:=aA u (by
       have:z.cells.toList[j]?=some u:=by rw [Xa];exact hu
       exact XR this)
      cases hL with
      | nil h' e_=>exact v7 hG rfl h' e_ rfl
      | sl=>simp [QN] at kJ)
    exact rU ay hd ⟨rfl,by simp [f_],_,_,hK,r1,r2⟩
   ·exact pq
theorem Hu {ty:TypeId} {v:Operand} (ho:o.op=.box ty v):Sound P C fr tm w σ D i o p K Q ((UB C i p o ty v).run σ):=by
 unfold UB
 cases p with
 | cons=>exact pq
 | nil =>
  have hp:σ.Holds []:=trivial;simp only;split
  ·exact pq
  ·rename_i d hd
   split
   ·rename_i hn
    have hn:=Xd hn;refine qC _ pq fun cr tr hr=>?_
    refine wn hG h [] hp v ty pq fun cv x ws hf hV=>?_
    split
    ·rename_i ae
     have ae:=WO ae;subst ae;have kL:(execOp (Act.eval ⟨tm,[]⟩) o).run P w=.ok (.value (.pointer (some ⟨w.heap.size,0,none⟩))) (w.alloc (.cells (ev tm v).cells ty)):=by
      simp only [execOp,ho,Instr.box,newVar,newRow];rfl
     split
     ·simp only [Rd.run]
      cases d_:σ.get (pp d) with
      | some e=>exact pq
      | none =>
       intro hW;obtain ⟨γ',r1,r2,r3,r4,r5,r6,r7,r8⟩:=Rel.frz hG h g_ hf;have nA:=r1.alloc hG r2 (.cells (ev tm v).cells ty);have nB:=hV _ r5 r6;have nC:¬ Ob fr γ' w.heap.size:=by
        rintro (q | ⟨k,q⟩)
        ·have:=(r1.low _ q).1
         have:=r1.size
         omega
        ·have:=(r1.blk k _ q).1
         omega
       have im:At C.tab (w.alloc (.cells (ev tm v).cells ty)) (Ob fr γ') cv ⟨w.heap.size,0,none⟩ x:=by
        obtain ⟨ti,q1,q2,q3,q4,q5,q6⟩:=nB;refine ⟨ti,q1,q2,q5,nC,fun j y t hy ht=>?_⟩;obtain ⟨u,hu,hL⟩:=q6 j y t hy ht;refine ⟨u,?_,hL.mono fun b hb gZ=>⟨heap_alloc_old w _ b hb,gZ⟩⟩;rw [rB,WV,pM (heap_alloc_new w _)];exact hu
       have i6:(σ.puts ws).get (pp d)=none:=uL r3 d_;obtain ⟨q1,q2⟩:=Rel.xn (v:=.pointer (some ⟨w.heap.size,0,none⟩)) (p:=[]) (a:=.pl cv x 0) hG nA r2 (by rw [f_];exact hn) i6 (fun s b hm=>by simp at hm) (fun _ _ hh=>by cases hh) (fun _ hh=>by cases hh)
        (fun _=>⟨⟨w.heap.size,0,none⟩,by simp [Addr.add],im⟩) (fun q=>absurd trivial q)
       refine rU kL hd ⟨rfl,by simp [f_],_,_,?_,q1,q2.mono fun _=>.inl⟩;have fP:K (σ.puts (ws++[(pp d,top (AV.pl cv x 0))])):=hW;rw [pV] at fP;exact fP
     refine AN pq fun U_=>?_
     intro hW;have k_:=(hG _ _ _ hr).self;have i_:=(hG _ _ _ k_).len;obtain ⟨γ',r1,r2,r3,r4,r5,r6,r7,r8⟩:=Rel.frz hG h g_ hf;obtain ⟨k1,k2,k3,k4,k5⟩:=yn hG k_ (hV _ r5 r6);have ay:(execOp (Act.eval ⟨tm,[]⟩) o).run P w=.ok (.value (.pointer (some ⟨w.heap.size,0,none⟩))) (w.alloc (.cells (ev tm v).cells ty)):=by
      simp only [execOp,ho,Instr.box,newVar,newRow];rfl
     have gu:(σ.puts ws).get (pp d)=none∨∃c tag,(σ.puts ws).get (pp d)=some ⟨[],.box c tag tr.cells⟩:=by
      rcases U_ with q | ⟨c,tag,q⟩
      ·exact .inl (uL r3 q)
      ·exact .inr ⟨c,tag,by rw [r3 _ fun c' t' xs' q'=>by rw [q] at q';cases q'];exact q⟩
     have e1:cellsOf d 0 (tr.lv cv) (rh x tr.cells)=qd d 0 (List.zipWith AV.t (tr.lv cv) x.leaves):=by
      rw [qo k3];exact Hz d _ _ 0 (by rw [i_,k3])
     have hK:K ((σ.puts ws).puts ((pp d,top (.box cv (i+1) tr.cells))::qd d 0 (List.zipWith AV.t (tr.lv cv) x.leaves))):=by
      rw [←pV,←e1];exact hW
     obtain ⟨γ2,q1,q2⟩:=Rel.AM (ety:=ty) (cr:=cv) (cs:=(ev tm v).cells) (as_ :=List.zipWith AV.t (tr.lv cv) x.leaves) hG r1 r2 hi (by rw [f_];exact hn) gu (by rw [List.length_zipWith,i_,k3];omega) (by rw [←k2];simp) (fun j a ha=>by
      rw [List.getElem?_zipWith] at ha;split at ha
      ·rename_i t y ht hy
       simp only [WJ] at ha;subst ha;obtain ⟨u,hu,hL⟩:=k5 j y t hy ht;obtain ⟨t1,bZ,aX⟩:=(hG _ _ _ k_).leaf t (XR ht);have hp:=zY hL;exact .inl ⟨t,y,u,rfl,by rw [←Xa];exact hu,sn bZ aX (qz hG bZ aX) hp.2 hp.1 hL⟩
      ·cases ha)
     exact rU ay hd ⟨rfl,by simp [f_],_,_,hK,q1,q2⟩
    ·exact pq
   ·exact pq
theorem yy (hp:σ.Holds p) (p_:∀s b,(s,b)∈p→qY C s=false∧∃q c x,σ.get (pp s)=some ⟨q,.t c x⟩) {ty:TypeId} {n:Nat} {parts:Array (Nat×Operand)} (ho:o.op=.buildSlice ty n parts) :
  Sound P C fr tm w σ D i o p K Q ((w7 C p o ty n parts).run σ):=by
 unfold w7;refine pI _ _ pq fun d hd hn hv d_=>?_
 refine qC _ pq fun cr tr hr=>?_
 split
 ·rename_i e aj
  have hk:=zJ aj;split
  ·rename_i ce te he
   split
   ·rename_i P_
    have P_:=Xd P_;have k_:=(hG _ _ _ hr).self;have r_:=(hG _ _ _ he).pos;have hu:=hG.slice (t:=ty) (e:=e) (by unfold Ctx.el Ctx.kd;rw [hr];exact aj);obtain ⟨inf,z,z1,z2,z3,z4,z5,z6,z7,z8⟩:=hG.zero he;refine A0 hG h e pq _ _ [] Frz.nil fun xs' ws hf hP=>?_
    simp only [Yc] at hf ⊢;split
    ·intro hW
     have iS:Elems C.tab w (Ob fr γ) ce te (madeCells z.cells (n*te.cells)) (List.replicate n te.zero):=by
      refine ⟨by rw [size_madeCells,Xm],fun j x hx=>?_⟩;have hj:j<n:=by
       have:=(WQ.1 hx).1
       simpa using this
      rw [YK,WY hj] at hx;simp only [WJ] at hx;subst hx;refine ⟨z5,z7,fun m y t hy ht=>?_⟩;have fH:m<te.cells:=by rw [←z7];exact (WQ.1 hy).1
      obtain ⟨u,aw,hL⟩:=z8 w (Ob fr γ) m y t hy ht;refine ⟨u,?_,hL⟩;rw [←z6,CH (by rw [z6];exact r_) ?_ (by rw [z6];exact fH)]
      ·exact aw
      ·have:=Xb te.cells (show j+1≤n by omega)
       rw [Xe,Yb] at this;rw [z6];omega
     obtain ⟨i_,cs',bM,hE⟩:=BO (O' := Ob fr γ) hG he hP (fun _ q=>q) (fun k e b hm=>by simp at hm) _ iS;rw [Xm] at i_;have da:Instr.fill (fun i=>some (i*te.cells,te.cells)) (madeCells z.cells (n*te.cells)) (parts.map fun q=>(q.1,Act.eval ⟨tm,[]⟩ q.2)).toList=some cs' := by
      rw [Zj];exact bM
     have bL:(Instr.buildSlice ty n (parts.map fun q=>(q.1,Act.eval ⟨tm,[]⟩ q.2))).run P w=.ok (.slice (some ⟨w.heap.size,0,none⟩) n n) (w.alloc (.cells cs' e)):=by
      exact wi hu he hG P_ z1 z4 da
     have ay:(execOp (Act.eval ⟨tm,[]⟩) o).run P w=.ok (.value (.slice (some ⟨w.heap.size,0,none⟩) n n)) (w.alloc (.cells cs' e)):=by
      simp only [execOp,ho];rw [Sem.run_bind,bL];rfl
     have V_:=heap_alloc_new w (.cells cs' e);have hR:=Rel.alloc hG h g_ (.cells cs' e);have dz:¬ Ob fr γ w.heap.size:=by
      rintro (q | ⟨k,q⟩)
      ·have:=(h.low _ q).1
       have:=h.size
       omega
      ·have:=(h.blk k _ q).1
       omega
     have A_:Stays w (w.alloc (.cells cs' e)) (Ob fr γ) (Ob fr γ):=fun b hb hO=>⟨heap_alloc_old w _ b hb,hO⟩;have hV:V C.tab (w.alloc (.cells cs' e)) (Ob fr γ) cr (.slice (some ⟨w.heap.size,0,none⟩) n n) (.l xs'):=by
      refine sn k_ (by simp [TI.isS,hk]) (qz hG k_ (by simp [TI.isS,hk])) rfl rfl ?_;have hL:=L.sl (tab:=C.tab) (w:=w.alloc (.cells cs' e)) (O:=Ob fr γ) (c:=cr) (ti:=tr) (e:=e) (ce:=ce) (te:=te) (a:=⟨w.heap.size,0,none⟩) (cap:=n) (xs:=xs') k_ hk he r_ (by omega) (by
       have:=Yt n r_
       simp only [maxLen];omega) (fun _=>dz) (fun j m=>(cs'[j*te.cells+m]?).getD undef) (fun j x hx=>⟨(hE.2 j x hx).1,(hE.2 j x hx).2.1⟩) (fun j x m y hx hy=>by
        obtain ⟨k1,k2,k3⟩:=hE.2 j x hx;have hm:m<te.cells:=by rw [←k2];exact (WQ.1 hy).1
        have ai:=(hG _ _ _ he).len;obtain ⟨u,aw,-⟩:=k3 m y _ hy (WL (by omega));rw [rB,pM V_,WV,aw];rfl) (fun j x m y t hx hy ht=>by
        obtain ⟨k1,k2,k3⟩:=hE.2 j x hx;obtain ⟨u,aw,hL⟩:=k3 m y t hy ht;rw [aw];exact hL.mono A_)
      rw [i_] at hL;exact hL
     obtain ⟨h1,h2⟩:=Rel.xn (D:=fun j=>D j∨j=i) (d:=d) (v:=.slice (some ⟨w.heap.size,0,none⟩) n n) (p:=p) (a:=.t cr (.l xs')) hG hR (g_.mono fun _=>.inl) (by rw [f_];exact hn) d_ p_ (fun _ _ q=>by cases q) (fun _ q=>by cases q) (fun _=>hV) (fun q=>absurd hp q);exact rU ay hd ⟨rfl,by simp [f_],_,_,hW,h1,h2⟩
    ·exact pq
   ·exact pq
  ·exact pq
 ·exact pq
end
section
variable {P:Program} {C:Ctx} {fr:Fr} {tm:Array Value} {w w':World} {σ:St} {γ:Key→Option Nat} {D:Nat→Prop}
abbrev KMap:=List (Key×Key)
def KMap.find:KMap→Key→Option Key
 | [],_=>none
 | (a,b)::r,k=>match a.eq k with
  | true=>some b
  | false=>KMap.find r k
theorem KMap.sy (m1 m2:KMap) (k:Key):KMap.find (m1++m2) k=match KMap.find m1 k with | some x=>some x | none=>KMap.find m2 k:=by
 induction m1 with
 | nil=>rfl
 | cons x r ih =>
  obtain ⟨a,b⟩:=x;simp only [Yy,KMap.find]
  cases a.eq k with
  | true=>rfl
  | false=>exact ih
theorem KMap.zF {m:KMap} {k x:Key} (h:KMap.find m k=some x):(k,x)∈m:=by
 induction m with
 | nil=>cases h
 | cons y r ih =>
  obtain ⟨a,b⟩:=y;simp only [KMap.find] at h;split at h
  ·rename_i he
   have:=Key.qs.1 he
   subst this;simp only [WJ] at h;subst h;simp
  ·exact XV _ (ih h)
theorem KMap.vV {m:KMap} {k:Key} (h:∀x,(k,x) ∉ m):KMap.find m k=none:=by
 cases hf:KMap.find m k with
 | none=>rfl
 | some x=>exact absurd (KMap.zF hf) (h x)
def wS (j s:Nat):Nat→Nat→KMap
 | _,0=>[]
 | c,n+1=>(cell j c,cell s c)::wS j s (c+1) n
theorem sX {j s:Nat}:∀{n c:Nat} {k x:Key},(k,x)∈wS j s c n↔∃m,c≤m∧m<c+n∧k=cell j m∧x=cell s m:=by
 intro n
 induction n with
 | zero =>
  intro c k x;simp only [wS,List.not_mem_nil,false_iff];rintro ⟨m,h1,h2,-⟩;omega
 | succ n ih =>
  intro c k x;simp only [wS,WW,WK,ih]
  constructor
  ·rintro (⟨rfl,rfl⟩ | ⟨m,h1,h2,h3,h4⟩)
   ·exact ⟨c,WU _,by omega,rfl,rfl⟩
   ·exact ⟨m,by omega,by omega,h3,h4⟩
  ·rintro ⟨m,h1,h2,rfl,rfl⟩
   by_cases hm:m=c
   ·subst hm;exact .inl ⟨rfl,rfl⟩
   ·exact .inr ⟨m,by omega,by omega,rfl,rfl⟩
theorem w6 {j s n c m:Nat} (h1:c≤m) (h2:m<c+n):KMap.find (wS j s c n) (cell j m)=some (cell s m):=by
 induction n generalizing c with
 | zero=>omega
 | succ n ih =>
  simp only [wS,KMap.find]
  by_cases hm:c=m
  ·subst hm;simp [Key.qW]
  ·rw [Key.qt (by simp [cell];omega)]
   exact ih (by omega) (by omega)
theorem Ht (j s:Nat):∀n c,(wS j s c n).map (·.2)=tw s c n:=by
 intro n
 induction n with
 | zero=>intro c;rfl
 | succ n ih=>intro c;simp only [wS,XP,tw,ih]
inductive ArgsP (C:Ctx) (tm:Array Value) (w:World) (O:Nat→Prop) (σ:St) (γ:Key→Option Nat):Nat→List (Operand×TypeId)→Acc→KMap→Prop where
 | nil (j:Nat):ArgsP C tm w O σ γ j [] Acc.nil []
 | t (j:Nat) (x:Operand) (ty:TypeId) (r:List (Operand×TypeId)) (acc:Acc) (mp:KMap) (c:TypeId) (y:T) (hV:zr C.tab w O γ [] c (ev tm x) y) (hr:ArgsP C tm w O σ γ (j+1) r acc mp) :
   ArgsP C tm w O σ γ j ((x,ty)::r) (acc.arg (.t c y)) mp
 | pl (j:Nat) (x:Operand) (ty:TypeId) (r:List (Operand×TypeId)) (acc:Acc) (mp:KMap) (c:TypeId) (y:T) (hP:∃a,ev tm x=.pointer (some a)∧At C.tab w O c a y) (hr:ArgsP C tm w O σ γ (j+1) r acc mp) :
   ArgsP C tm w O σ γ j ((x,ty)::r) (acc.arg (.pl c y)) mp
 | frz (j:Nat) (x:Operand) (ty:TypeId) (r:List (Operand×TypeId)) (acc:Acc) (mp:KMap) (c:TypeId) (y:T) (k:Key) (e:Ent) (hf:Frz σ [(k,e)]) (hV:zr C.tab w O γ [(k,e)] c (ev tm x) y)
   (hr:ArgsP C tm w O σ γ (j+1) r acc mp):ArgsP C tm w O σ γ j ((x,ty)::r) ((acc.arg (.t c y)).frz k e) mp
 | lend (j:Nat) (x:Operand) (ty:TypeId) (r:List (Operand×TypeId)) (acc:Acc) (mp:KMap) (c:TypeId) (y:T) (k:Key) (hV:zr C.tab w O γ [(k,top .u)] c (ev tm x) y)
   (hr:ArgsP C tm w O σ γ (j+1) r acc mp):ArgsP C tm w O σ γ j ((x,ty)::r) ((acc.arg (.t c y)).lend k) mp
 | lends (j:Nat) (x:Operand) (ty:TypeId) (r:List (Operand×TypeId)) (acc:Acc) (mp:KMap) (c:TypeId) (y:T) (ks:List Key) (hV:zr C.tab w O γ (ks.map fun k=>(k,top .u)) c (ev tm x) y)
   (hr:ArgsP C tm w O σ γ (j+1) r acc mp):ArgsP C tm w O σ γ j ((x,ty)::r) ((acc.arg (.t c y)).lends ks) mp
 | own (j:Nat) (x:Operand) (ty:TypeId) (r:List (Operand×TypeId)) (acc:Acc) (mp:KMap) (c:TypeId) (xs:List T) (k:Key) (hk:tR σ k) (hO:Own C.tab w O c (ev tm x) (γ k) xs)
   (hr:ArgsP C tm w O σ γ (j+1) r acc mp):ArgsP C tm w O σ γ j ((x,ty)::r) ((acc.arg (.own c xs)).take k) ((pp j,k)::mp)
 | ownNil (j:Nat) (x:Operand) (ty:TypeId) (r:List (Operand×TypeId)) (acc:Acc) (mp:KMap) (c:TypeId) (xs:List T) (hO:Own C.tab w O c (ev tm x) none xs)
   (hr:ArgsP C tm w O σ γ (j+1) r acc mp):ArgsP C tm w O σ γ j ((x,ty)::r) (acc.arg (.own c xs)) mp
 | box (j:Nat) (x:Operand) (ty:TypeId) (r:List (Operand×TypeId)) (acc:Acc) (mp:KMap) (s c n tag b:Nat) (as_ :List AV) (sh:Shape) (ks:List (Key×Path)) (hs:σ.get (pp s)=some ⟨[],.box c tag n⟩)
   (hb:γ (pp s)=some b) (hv:ev tm x=.pointer (some ⟨b,0,none⟩)) (hl:as_.length=n)
   (hc:∀(m:Nat) a,as_[m]?=some a→∃c' ,(∃y,a=.t c' y∧σ.get (cell s m)=some (top (.t c' y)))∨∃xs t,a=.own c' 0 xs∧σ.get (cell s m)=some (top (.own c' t xs)))
   (bc:sh.length=n) (bh:ks.length=n) (dA:∀m,m<n→∃ty o,sh[m]?=some (cell j m,ty,o)∧ks[m]?=some (cell s m,[]))
   (hr:ArgsP C tm w O σ γ (j+1) r acc mp):ArgsP C tm w O σ γ j ((x,ty)::r) ((acc.arg (.box c n as_)).box j s n sh ks) ((pp j,pp s)::(wS j s 0 n++mp))
theorem EG (s:Nat):∀(n c:Nat) {k:List AV→R} {motive:qO→Prop} (_:motive .bad)
  (_:∀as_,as_.length=n→(∀(m:Nat) a,as_[m]?=some a→∃c',(∃y,a=.t c' y∧σ.get (cell s (c+m))=some (top (.t c' y)))∨∃xs t,a=.own c' 0 xs∧σ.get (cell s (c+m))=some (top (.own c' t xs)))→motive ((k as_).run σ)),
  motive ((Do s c n k).run σ):=by
 intro n
 induction n with
 | zero =>
  intro c k motive c_ l_;exact l_ [] rfl (fun m a ha=>by simp at ha)
 | succ n ih =>
  intro c k motive c_ l_;simp only [Do,Rd.run];split
  ·rename_i c' x he
   refine ih (c+1) c_ fun as_ hl dc=>l_ _ (by simp [hl]) fun m a ha=>?_
   cases m with
   | zero =>
    simp at ha;subst ha;exact ⟨c',.inl ⟨x,rfl,he⟩⟩
   | succ m =>
    simp at ha;rw [show c+(m+1)=c+1+m by omega];exact dc m a ha
  ·rename_i c' t xs he
   refine ih (c+1) c_ fun as_ hl dc=>l_ _ (by simp [hl]) fun m a ha=>?_
   cases m with
   | zero =>
    simp at ha;subst ha;exact ⟨c',.inr ⟨xs,t,rfl,he⟩⟩
   | succ m =>
    simp at ha;rw [show c+(m+1)=c+1+m by omega];exact dc m a ha
  ·exact c_
theorem I7 (j s:Nat):∀(tys:List TypeId) (fl:List Bool) (c:Nat),(vR j s c tys fl).1.length=(vR j s c tys fl).2.length ∧
  ∀m,m<(vR j s c tys fl).1.length→∃ty o,(vR j s c tys fl).1[m]?=some (cell j (c+m),ty,o)∧(vR j s c tys fl).2[m]?=some (cell s (c+m),[]):=by
 intro tys
 induction tys with
 | nil=>intro fl c;cases fl<;>exact ⟨rfl,fun m hm=>by simp [vR] at hm⟩
 | cons ty tys ih =>
  intro fl c
  cases fl with
  | nil=>exact ⟨rfl,fun m hm=>by simp [vR] at hm⟩
  | cons f fl =>
   obtain ⟨h1,h2⟩:=ih fl (c+1);simp only [vR];refine ⟨by simp [h1],fun m hm=>?_⟩
   cases m with
   | zero=>exact ⟨ty,f,rfl,rfl⟩
   | succ m =>
    obtain ⟨t,o,q1,q2⟩:=h2 m (by simpa using hm);rw [show c+(m+1)=c+1+m by omega];exact ⟨t,o,by simpa using q1,by simpa using q2⟩
theorem yx {j s:Nat} {c:TypeId} {n:Nat} {fl:List Bool} {k:Arg→Nat→Shape→List (Key×Path)→R} {motive:qO→Prop} (c_:motive .bad)
  (l_:∀as_ sh ks,as_.length=n→(∀(m:Nat) a,as_[m]?=some a→∃c',(∃y,a=.t c' y∧σ.get (cell s m)=some (top (.t c' y)))∨∃xs t,a=.own c' 0 xs∧σ.get (cell s m)=some (top (.own c' t xs))) →
   sh.length=n→ks.length=n→(∀m,m<n→∃ty o,sh[m]?=some (cell j m,ty,o)∧ks[m]?=some (cell s m,[]))→motive ((k (.box c n as_) n sh ks).run σ)):motive ((I8 C j s c n fl k).run σ):=by
 unfold I8;refine EG s n 0 c_ fun as_ hl dc=>?_
 simp only [WV] at dc;split
 ·rename_i c' tc hc
  obtain ⟨h1,h2⟩:=I7 j s (tc.lv c) fl 0;simp only [WV] at h2
  generalize vR j s 0 (tc.lv c) fl=q at h1 h2
  obtain ⟨sh,ks⟩:=q;simp only at h1 h2 ⊢;split
  ·rename_i hn
   have hn:=WO hn;exact l_ as_ sh ks hl dc hn (by omega) (fun m hm=>h2 m (by omega))
  ·exact c_
 ·exact c_
theorem Ok {tab:Tab} {O:Nat→Prop} {c:TypeId} {v:Value} {y:T} (hv:V tab w O c v y):zr tab w O γ [] c v y :=
 fun O' hO _=>hv.mono fun b _ hb=>⟨rfl,fun q=>hb (hO b q)⟩
theorem DH (hG:Good P C.tab) (h:Rel C.tab fr tm w σ γ) {t n:Nat} {motive:qO→Prop} (c_:motive .bad):∀(tys:List TypeId) (q:Nat) (k:List T→List Key→R) (_:q+tys.length≤1000) (_:∀ty∈tys,∃tt,C.tab.at ty=some (ty,tt)∧tt.isS=false)
  (_:∀xs ks,xs.length=tys.length→(∀O':Nat→Prop,(∀b,O' b→Ob fr γ b)→Free γ (ks.map fun k=>(k,top .u)) O'→∀(j:Nat) y ty,xs[j]?=some y→tys[j]?=some ty→∃vs u,tm[t]?=some (.agg vs)∧vs.size=n∧vs[q+j]?=some u∧L C.tab w O' ty u y)→motive ((k xs ks).run σ)),motive ((AA t n q tys k).run σ):=by
 intro tys
 induction tys with
 | nil=>exact fun q k _ _ l_=>l_ [] [] rfl fun _ _ _ j y ty hy=>by simp at hy
 | cons ty tys ih =>
  intro q k hq ap l_;simp only [W4] at hq;obtain ⟨tt,ar,hS⟩:=ap ty (by simp);simp only [AA,Rd.run];split
  ·rename_i c y he
   split
   ·rename_i ae
    have ae:=WO ae;subst ae;obtain ⟨u,hu,hr,-⟩:=h.ent _ _ he;have hV:V C.tab w (Ob fr γ) c u y:=hr trivial;obtain ⟨vs,v1,v2,v3⟩:=yH (by omega) hu;refine ih (q+1) _ (by omega) (fun ty hm=>ap ty (by simp [hm])) fun xs ks hl hP=>l_ _ ks (by simp [hl]) fun O' hO hF j y' ty' hy ht=>?_
    cases j with
    | zero =>
     simp only [WT,WJ] at hy ht;subst hy;subst ht;exact ⟨vs,u,v1,v2,v3,(sG ar hS (hV.mono fun b _ hb=>⟨rfl,fun q=>hb (hO b q)⟩)).1⟩
    | succ j =>
     simp only [WR] at hy ht
     have:=hP O' hO hF j y' ty' hy ht
     rwa [show q+1+j=q+(j+1) by omega] at this
   ·exact c_
  ·rename_i h0 tag c off len he
   split
   ·rename_i ae
    have ae:=WO ae;subst ae;obtain ⟨u,hu,hr,-⟩:=h.ent _ _ he;have j_:AVR C.tab w (Ob fr γ) σ (pJ tm w γ) γ (fld t n q) u (.alias h0 tag c off len):=hr trivial;obtain ⟨vs,v1,v2,v3⟩:=yH (by omega) hu;refine qn h0 tag c_ fun c' ys hh=>?_
    obtain ⟨rfl,mj,v_,m_,O_,K_⟩:=rg h j_ hh;refine ih (q+1) _ (by omega) (fun ty hm=>ap ty (by simp [hm])) fun xs ks hl hP=>l_ _ (h0::ks) (by simp [hl]) fun O' hO hF j y' ty' hy ht=>?_
    cases j with
    | zero =>
     simp only [WT,WJ] at hy ht;subst hy;subst ht;have hV:V C.tab w O' c' u (.l ((ys.drop off).take len)):=by
      refine mj.V hG hO fun a n cap hv r_=>?_
      have i_:0<len:=by
       simp only [Xg,Xi] at r_;omega
      obtain ⟨ti,e1,ce,te,b,cap1,cap2,q1,q2,q3,q4,q5,q6,q7,q8⟩:=Sub.pos O_ K_ i_;rw [q6] at hv;simp only [Value.slice.injEq,WJ] at hv;rw [←hv.1];exact hF h0 (top .u) b (by simp) q4
     exact ⟨vs,u,v1,v2,v3,(sG ar hS hV).1⟩
    | succ j =>
     simp only [WR] at hy ht
     have:=hP O' hO (fun k e b hm=>hF k e b (XV _ hm)) j y' ty' hy ht
     rwa [show q+1+j=q+(j+1) by omega] at this
   ·exact c_
  ·exact c_
theorem tY (hG:Good P C.tab) (h:Rel C.tab fr tm w σ γ) {p:Path} (hp:σ.Holds p) (m:Mode) (keep:Bool):∀(args:List (Operand×TypeId)) (j:Nat) {k:Acc→R} {motive:qO→Prop} (_:motive .bad)
  (_:∀acc mp,ArgsP C tm w (Ob fr γ) σ γ j args acc mp→(keep=false→acc.ln=[])→(m.boxes=[]→acc.sh=[])→motive ((k acc).run σ)),motive ((uk C m p keep j args k).run σ):=by
 intro args
 induction args with
 | nil=>intro j k motive c_ l_;exact l_ _ _ (.nil j) (fun _=>rfl) (fun _=>rfl)
 | cons a r ih =>
  intro j k motive c_ l_;obtain ⟨x,ty⟩:=a;simp only [uk];refine qB hG h p hp x ty c_ fun ko a hx=>?_
  split
  ·rename_i fl dI
   cases p with
   | cons=>exact c_
   | nil =>
    cases hx with
    | const=>exact c_
    | nil=>exact c_
    | tmp s e hx he y_ j_ =>
     cases h_:e.av with
     | box c tag n =>
      rw [h_] at j_;obtain ⟨b,cs,ety,hb,ah,-⟩:=j_
      cases w_:e.path with
      | cons=>exact c_
      | nil =>
       have H_:σ.get (pp s)=some ⟨[],.box c tag n⟩:=by rw [he,←w_,←h_]
       refine yx c_ fun as_ sh ks h1 h2 h3 h4 h5=>?_
       exact ih (j+1) c_ fun acc mp hA hl bo=>l_ _ _ (.box j x ty r acc mp s c n tag b as_ sh ks H_ hb ah h1 h2 h3 h4 h5 hA) hl (fun h0=>by rw [h0] at dI;cases dI)
     | ptr s' tag c0 =>
      rw [h_] at j_
      cases c0 with
      | succ=>exact c_
      | zero =>
       refine s9 s' tag c_ fun c n aa=>?_
       obtain ⟨b,hb,ah⟩:=j_ c n aa;refine yx c_ fun as_ sh ks h1 h2 h3 h4 h5=>?_
       exact ih (j+1) c_ fun acc mp hA hl bo=>l_ _ _ (.box j x ty r acc mp s' c n tag b as_ sh ks aa hb ah h1 h2 h3 h4 h5 hA) hl (fun h0=>by rw [h0] at dI;cases dI)
     | _=>exact c_
  ·split
   ·cases p with
    | cons=>exact c_
    | nil =>
     cases hx with
     | const=>exact c_
     | nil c e ti _ hx ht hc hk =>
      exact ih (j+1) c_ fun acc mp hA hl bo=>l_ _ _ (.ownNil j x ty r acc mp c [] (v7 hG hx hc hk rfl) hA) hl bo
     | tmp s e hx he y_ j_ =>
      cases h_:e.av with
      | own c tag xs =>
       rw [h_] at j_
       cases w_:e.path with
       | cons=>exact c_
       | nil =>
        have H_:tR σ (pp s):=⟨c,tag,xs,by rw [he,←w_,←h_]⟩;exact ih (j+1) c_ fun acc mp hA hl bo=>l_ _ _ (.own j x ty r acc mp c xs (pp s) H_ j_ hA) hl bo
      | alias h0 tag c off len =>
       rw [h_] at j_;simp only;split
       ·rename_i aZ
        have aZ:=WO aZ;subst aZ;refine qn h0 tag c_ fun c2 xs hh=>?_
        obtain ⟨rfl,-,v_,m_,O_,K_⟩:=rg h j_ hh;exact ih (j+1) c_ fun acc mp hA hl bo=>l_ _ _ (.own j x ty r acc mp c2 _ h0 ⟨_,_,_,hh⟩ (GH O_ K_) hA) hl bo
       ·exact c_
      | _=>exact c_
   ·cases hx with
    | const c y _ hV=>exact ih (j+1) c_ fun acc mp hA hl bo=>l_ _ _ (.t j x ty r acc mp c y (Ok hV) hA) hl bo
    | nil c e ti _ hx ht hc hk =>
     exact ih (j+1) c_ fun acc mp hA hl bo=>l_ _ _ (.t j x ty r acc mp c (.l []) (fun O' hO _=>(v7 hG (O:=Ob fr γ) (g:=none) hx hc hk rfl).freeze hG hO fun b hb=>by cases hb) hA) hl bo
    | tmp s e hx he y_ j_ =>
     cases h_:e.av with
     | t c y =>
      rw [h_] at j_;exact ih (j+1) c_ fun acc mp hA hl bo=>l_ _ _ (.t j x ty r acc mp c y (Ok j_) hA) hl bo
     | own c tag xs =>
      rw [h_] at j_
      cases w_:e.path with
      | cons=>exact c_
      | nil =>
       have H_:σ.get (pp s)=some ⟨[],.own c tag xs⟩:=by rw [he,←w_,←h_]
       cases keep with
       | true=>exact ih (j+1) c_ fun acc mp hA hl bo=>l_ _ _ (.lend j x ty r acc mp c (.l xs) (pp s) (fun O' hO hF=>Own.freeze hG j_ hO fun b hb=>hF _ _ b (Xn.2 rfl) hb) hA) (fun h0=>by cases h0) bo
       | false=>exact ih (j+1) c_ fun acc mp hA hl bo=>l_ _ _ (.frz j x ty r acc mp c (.l xs) (pp s) _ (Frz.one H_) (fun O' hO hF=>Own.freeze hG j_ hO fun b hb=>hF _ _ b (Xn.2 rfl) hb) hA) hl bo
     | alias h0 tag c off len =>
      rw [h_] at j_;refine qn h0 tag c_ fun c' xs hh=>?_
      obtain ⟨rfl,hS,v_,m_,O_,K_⟩:=rg h j_ hh;have fv:∀e,zr C.tab w (Ob fr γ) γ [(h0,e)] c' (ev tm x) (.l ((xs.drop off).take len)):=by
       intro e' O' hO hF;refine hS.V hG hO fun a n cap hv r_=>?_
       have i_:0<len:=by
        simp only [Xg,Xi] at r_;omega
       obtain ⟨ti,e1,ce,te,b,cap1,cap2,q1,q2,q3,q4,q5,q6,q7,q8⟩:=Sub.pos O_ K_ i_;rw [q6] at hv;simp only [Value.slice.injEq,WJ] at hv;rw [←hv.1];exact hF _ _ b (Xn.2 rfl) q4
      cases keep with
      | true=>exact ih (j+1) c_ fun acc mp hA hl bo=>l_ _ _ (.lend j x ty r acc mp c' _ h0 (fv _) hA) (fun h0=>by cases h0) bo
      | false=>exact ih (j+1) c_ fun acc mp hA hl bo=>l_ _ _ (.frz j x ty r acc mp c' _ h0 _ (Frz.one hh) (fv _) hA) hl bo
     | tup t6 =>
      simp only;unfold Tt
      cases p with
      | cons=>exact c_
      | nil =>
       cases keep with
       | false=>exact c_
       | true =>
        cases w_:e.path with
        | cons=>exact c_
        | nil =>
         cases ar:C.tab.at ty with
         | none=>exact c_
         | some cti =>
          obtain ⟨c,ti⟩:=cti;simp only;split
          ·rename_i hS au
           have au:=Xd au;have k_:=(hG _ _ _ ar).self;have i_:=(hG _ _ _ k_).len;have r_:=(hG _ _ _ k_).pos;rw [sM hS] at i_;refine DH hG h c_ ti.leaves 0 _ (by omega) (fun ty hm=>(hG _ _ _ k_).leaf ty (by rw [sM hS];exact hm)) fun xs ks hl hP=>?_
           refine ih (j+1) c_ fun acc mp hA jT bo=>l_ _ _ (.lends j x ty r acc mp c (.g xs) ks (fun O' hO hF=>?_) hA) (fun h0=>by cases h0) bo
           have mA:=hP O' hO hF;obtain ⟨y0,nD⟩:∃y,xs[0]?=some y:=⟨_,WL (by omega)⟩;obtain ⟨t0,mB⟩:∃y,ti.leaves[0]?=some y:=⟨_,WL (by omega)⟩;obtain ⟨vs,u,v1,v2,-⟩:=mA 0 y0 t0 nD mB;have aQ:ev tm x=.agg vs:=by
            rw [hx];simp only [pp] at v1;simp only [ev,Act.eval,XK,v1,XF]
           refine ⟨ti,k_,by rw [hS];rfl,by rw [aQ,hS];rfl,by rw [aQ];exact v2,by simp [T.leaves];omega,fun j y t hy ht=>?_⟩;rw [sM hS] at ht;obtain ⟨vs',u',w1,w2,w3,w4⟩:=mA j y t hy ht;rw [v1] at w1;simp only [WJ,Value.agg.injEq] at w1;subst w1;rw [WV] at w3;exact ⟨u',by rw [aQ];exact w3,w4⟩
          ·exact c_
     | pl c y off =>
      rw [h_] at j_
      cases off with
      | succ=>exact c_
      | zero =>
       obtain ⟨a,h1,h2⟩:=j_;have ha:a.add 0=a:=by simp [Addr.add]
       rw [ha] at h1;exact ih (j+1) c_ fun acc mp hA hl bo=>l_ _ _ (.pl j x ty r acc mp c y ⟨a,h1,h2⟩ hA) hl bo
     | _=>exact c_
end
section
variable {P:Program} {C:Ctx} {fr:Fr} {tm:Array Value} {w w':World} {σ:St} {γ:Key→Option Nat} {D:Nat→Prop} {O:Nat→Prop}
 {j:Nat} {args:List (Operand×TypeId)} {acc:Acc} {mp:KMap}
theorem ArgsP.keys (h:ArgsP C tm w O σ γ j args acc mp):∀k x,(k,x)∈mp→j≤k.a∧k.a<j+args.length∧k.tag≤1:=by
 induction h with
 | nil j=>intro k x hm;simp at hm
 | t j x ty r acc mp c y hV hr ih=>intro k x hm;obtain ⟨q1,q2,q3⟩:=ih k x hm;simp only [W4];exact ⟨by omega,by omega,q3⟩
 | pl j x ty r acc mp c y hV hr ih=>intro k x hm;obtain ⟨q1,q2,q3⟩:=ih k x hm;simp only [W4];exact ⟨by omega,by omega,q3⟩
 | frz j x ty r acc mp c y k0 e hf hV hr ih=>intro k x hm;obtain ⟨q1,q2,q3⟩:=ih k x hm;simp only [W4];exact ⟨by omega,by omega,q3⟩
 | lend j x ty r acc mp c y k0 hV hr ih=>intro k x hm;obtain ⟨q1,q2,q3⟩:=ih k x hm;simp only [W4];exact ⟨by omega,by omega,q3⟩
 | lends j x ty r acc mp c y k0 hV hr ih=>intro k x hm;obtain ⟨q1,q2,q3⟩:=ih k x hm;simp only [W4];exact ⟨by omega,by omega,q3⟩
 | ownNil j x ty r acc mp c xs hO hr ih=>intro k x hm;obtain ⟨q1,q2,q3⟩:=ih k x hm;simp only [W4];exact ⟨by omega,by omega,q3⟩
 | own j x ty r acc mp c xs k0 hk hO hr ih =>
  intro k x hm;simp only [W4]
  rcases WW.1 hm with q | q
  ·simp only [WK] at q
   rw [q.1];exact ⟨WU _,by simp [pp],by simp [pp]⟩
  ·obtain ⟨q1,q2,q3⟩:=ih k x q;exact ⟨by omega,by omega,q3⟩
 | box j x ty r acc mp s c n tag b as_ sh ks hs hb hv hl hc bc bh dA hr ih =>
  intro k x hm;simp only [W4]
  rcases WW.1 hm with q | q
  ·simp only [WK] at q
   rw [q.1];exact ⟨WU _,by simp [pp],by simp [pp]⟩
  ·rcases W2.1 q with q | q
   ·obtain ⟨m,-,-,rfl,-⟩:=sX.1 q
    exact ⟨WU _,by simp [cell],by simp [cell]⟩
   ·obtain ⟨q1,q2,q3⟩:=ih k x q;exact ⟨by omega,by omega,q3⟩
theorem ArgsP.perm (h:ArgsP C tm w O σ γ j args acc mp):(mp.map (·.2)).Perm (acc.tk++qI acc.bx):=by
 induction h with
 | nil j=>exact List.Perm.refl _
 | t j x ty r acc mp c y hV hr ih=>exact ih
 | pl j x ty r acc mp c y hV hr ih=>exact ih
 | frz j x ty r acc mp c y k0 e hf hV hr ih=>exact ih
 | lend j x ty r acc mp c y k0 hV hr ih=>exact ih
 | lends j x ty r acc mp c y k0 hV hr ih=>exact ih
 | ownNil j x ty r acc mp c xs hO hr ih=>exact ih
 | own j x ty r acc mp c xs k0 hk hO hr ih=>exact ih.cons k0
 | box j x ty r acc mp s c n tag b as_ sh ks hs hb hv hl hc bc bh dA hr ih =>
  simp only [XP,XY,Ht,Acc.box,Acc.arg,qI];have h1:(pp s::(tw s 0 n++mp.map (·.2))).Perm ((pp s::tw s 0 n)++(acc.tk++qI acc.bx)):=by
   rw [Yy];exact (List.Perm.append_left _ ih).cons _
  refine h1.trans ?_
  have:=List.perm_append_comm_assoc (pp s::tw s 0 n) acc.tk (qI acc.bx)
  simpa using this
theorem ArgsP.there (h:ArgsP C tm w O σ γ j args acc mp):∀k x,(k,x)∈mp→σ.get x≠none:=by
 induction h with
 | nil j=>intro k x hm;simp at hm
 | t j x ty r acc mp c y hV hr ih=>exact ih
 | pl j x ty r acc mp c y hV hr ih=>exact ih
 | frz j x ty r acc mp c y k0 e hf hV hr ih=>exact ih
 | lend j x ty r acc mp c y k0 hV hr ih=>exact ih
 | lends j x ty r acc mp c y k0 hV hr ih=>exact ih
 | ownNil j x ty r acc mp c xs hO hr ih=>exact ih
 | own j x ty r acc mp c xs k0 hk hO hr ih =>
  intro k x hm
  rcases WW.1 hm with q | q
  ·simp only [WK] at q
   obtain ⟨c',t',xs',hh⟩:=hk;rw [q.2,hh];simp
  ·exact ih k x q
 | box j x ty r acc mp s c n tag b as_ sh ks hs hb hv hl hc bc bh dA hr ih =>
  intro k x hm
  rcases WW.1 hm with q | q
  ·simp only [WK] at q
   rw [q.2,hs];simp
  ·rcases W2.1 q with q | q
   ·obtain ⟨m,-,bU,-,rfl⟩:=sX.1 q
    obtain ⟨c',hh⟩:=hc m _ (WL (show m<as_.length by omega))
    rcases hh with ⟨y,-,hh⟩ | ⟨xs,t,-,hh⟩<;>rw [hh]<;>simp
   ·exact ih k x q
theorem ArgsP.len (h:ArgsP C tm w O σ γ j args acc mp):acc.args.length=args.length:=by
 induction h with
 | nil j=>rfl
 | _=>simp_all [Acc.arg,Acc.frz,Acc.lend,Acc.lends,Acc.take,Acc.box]
theorem ArgsP.frzs (h:ArgsP C tm w O σ γ j args acc mp):Frz σ acc.fz:=by
 induction h with
 | nil j=>exact Frz.nil
 | t j x ty r acc mp c y hV hr ih=>exact ih
 | pl j x ty r acc mp c y hV hr ih=>exact ih
 | lend j x ty r acc mp c y k0 hV hr ih=>exact ih
 | lends j x ty r acc mp c y k0 hV hr ih=>exact ih
 | ownNil j x ty r acc mp c xs hO hr ih=>exact ih
 | own j x ty r acc mp c xs k0 hk hO hr ih=>exact ih
 | box j x ty r acc mp s c n tag b as_ sh ks hs hb hv hl hc bc bh dA hr ih=>exact ih
 | frz j x ty r acc mp c y k0 e hf hV hr ih =>
  intro k e' hm
  rcases WW.1 hm with q | q
  ·exact hf k e' (by rw [q];simp)
  ·exact ih k e' q
theorem ArgsP.takes (h:ArgsP C tm w O σ γ j args acc mp):∀k∈acc.tk,tR σ k:=by
 induction h with
 | nil j=>intro k hm;simp [Acc.nil] at hm
 | t j x ty r acc mp c y hV hr ih=>exact ih
 | pl j x ty r acc mp c y hV hr ih=>exact ih
 | frz j x ty r acc mp c y k0 e hf hV hr ih=>exact ih
 | lend j x ty r acc mp c y k0 hV hr ih=>exact ih
 | lends j x ty r acc mp c y k0 hV hr ih=>exact ih
 | ownNil j x ty r acc mp c xs hO hr ih=>exact ih
 | box j x ty r acc mp s c n tag b as_ sh ks hs hb hv hl hc bc bh dA hr ih=>exact ih
 | own j x ty r acc mp c xs k0 hk hO hr ih =>
  intro k hm
  rcases WW.1 hm with q | q
  ·rw [q];exact hk
  ·exact ih k q
theorem ArgsP.boxes (h:ArgsP C tm w O σ γ j args acc mp):∀j' s n,(j',s,n)∈acc.bx→j≤j'∧∃c tag b x ty,σ.get (pp s)=some ⟨[],.box c tag n⟩∧γ (pp s)=some b∧args[j'-j]?=some (x,ty)∧ev tm x=.pointer (some ⟨b,0,none⟩) ∧
  (sY j acc.args).get (pp j')=some (top (.box c 0 n))∧mp.find (pp j')=some (pp s)∧(∀m,m<n→mp.find (cell j' m)=some (cell s m)) ∧
  ∀m,m<n→∃(i:Nat) (ty:TypeId) (o:Bool),acc.sh[i]?=some (cell j' m,ty,o)∧acc.ks[i]?=some (cell s m,[]):=by
 have boxSt_low:∀(l:List Arg) (j:Nat) (k:Key),k.a<j→(sY j l).get k=none:=by
  intro l
  induction l with
  | nil=>intro j k _;rfl
  | cons a l ih =>
   intro j k hk
   cases a with
   | box c n as_ =>
    simp only [sY,St.get];rw [Key.qt (by intro e;rw [←e] at hk;simp [pp] at hk)];exact ih (j+1) k (by omega)
   | _=>exact ih (j+1) k (by omega)
 induction h with
 | nil j=>intro j' s n hm;simp [Acc.nil] at hm
 | box j x ty r acc mp s c n tag b as_ sh ks hs hb hv hl hc bc bh dA hr ih =>
  intro j' s' n' hm;simp only [Acc.box,Acc.arg,WW,WK] at hm
  rcases hm with ⟨rfl,rfl,rfl⟩ | hm
  ·refine ⟨WU _,c,tag,b,x,ty,hs,hb,by simp,hv,?_,?_,fun m hm=>?_,fun m hm=>?_⟩
   ·simp [Acc.box,Acc.arg,sY,St.get,Key.qW]
   ·simp [KMap.find,Key.qW]
   ·simp only [KMap.find]
    rw [Key.qt px,KMap.sy,w6 (WS _) (by omega)]
   ·obtain ⟨ty',o,q1,q2⟩:=dA m hm
    refine ⟨m,ty',o,?_,?_⟩
    ·simp only [Acc.box,Acc.arg];rw [Xr (by omega)];exact q1
    ·simp only [Acc.box,Acc.arg];rw [Xr (by omega)];exact q2
  ·obtain ⟨q0,c',tag',b',x',ty',q1,q2,q3,q4,q5,q6,q7,q8⟩:=ih j' s' n' hm
   have t_:j≠j' := by omega
   refine ⟨by omega,c',tag',b',x',ty',q1,q2,?_,q4,?_,?_,fun m hm=>?_,fun m hm=>?_⟩
   ·rw [show j'-j=(j'-(j+1))+1 by omega,WR];exact q3
   ·simp only [Acc.box,Acc.arg,sY,St.get]
    rw [Key.qt (fun e=>t_ (pZ.1 e))];exact q5
   ·simp only [KMap.find]
    rw [Key.qt (fun e=>t_ (pZ.1 e)),KMap.sy,KMap.vV (fun x hx=>by obtain ⟨m,-,-,hh,-⟩:=sX.1 hx;exact px hh)];exact q6
   ·simp only [KMap.find]
    rw [Key.qt px,KMap.sy,KMap.vV (fun x hx=>by obtain ⟨m',-,-,hh,-⟩:=sX.1 hx;exact t_ (rS.1 hh).1.symm)];exact q7 m hm
   ·obtain ⟨i,t,o,r1,r2⟩:=q8 m hm
    refine ⟨n+i,t,o,?_,?_⟩
    ·simp only [Acc.box,Acc.arg];rw [Xf (by omega),show n+i-sh.length=i by omega];exact r1
    ·simp only [Acc.box,Acc.arg];rw [Xf (by omega),show n+i-ks.length=i by omega];exact r2
 | own j x ty r acc mp c xs k0 hk hO hr ih =>
  intro j' s' n' hm;obtain ⟨q0,c',tag',b',x',ty',q1,q2,q3,q4,q5,q6,q7,q8⟩:=ih j' s' n' hm;have t_:j≠j' := by omega
  refine ⟨by omega,c',tag',b',x',ty',q1,q2,?_,q4,q5,?_,fun m hm=>?_,q8⟩
  ·rw [show j'-j=(j'-(j+1))+1 by omega,WR];exact q3
  ·simp only [KMap.find]
   rw [Key.qt (fun e=>t_ (pZ.1 e))];exact q6
  ·simp only [KMap.find]
   rw [Key.qt px];exact q7 m hm
 | t j x ty r acc mp c y hV hr ih =>
  intro j' s' n' hm;obtain ⟨q0,c',tag',b',x',ty',q1,q2,q3,q4,q5,q6,q7,q8⟩:=ih j' s' n' hm;exact ⟨by omega,c',tag',b',x',ty',q1,q2,by rw [show j'-j=(j'-(j+1))+1 by omega,WR];exact q3,q4,q5,q6,q7,q8⟩
 | pl j x ty r acc mp c y hV hr ih =>
  intro j' s' n' hm;obtain ⟨q0,c',tag',b',x',ty',q1,q2,q3,q4,q5,q6,q7,q8⟩:=ih j' s' n' hm;exact ⟨by omega,c',tag',b',x',ty',q1,q2,by rw [show j'-j=(j'-(j+1))+1 by omega,WR];exact q3,q4,q5,q6,q7,q8⟩
 | frz j x ty r acc mp c y k0 e hf hV hr ih =>
  intro j' s' n' hm;obtain ⟨q0,c',tag',b',x',ty',q1,q2,q3,q4,q5,q6,q7,q8⟩:=ih j' s' n' hm;exact ⟨by omega,c',tag',b',x',ty',q1,q2,by rw [show j'-j=(j'-(j+1))+1 by omega,WR];exact q3,q4,q5,q6,q7,q8⟩
 | lend j x ty r acc mp c y k0 hV hr ih =>
  intro j' s' n' hm;obtain ⟨q0,c',tag',b',x',ty',q1,q2,q3,q4,q5,q6,q7,q8⟩:=ih j' s' n' hm;exact ⟨by omega,c',tag',b',x',ty',q1,q2,by rw [show j'-j=(j'-(j+1))+1 by omega,WR];exact q3,q4,q5,q6,q7,q8⟩
 | lends j x ty r acc mp c y k0 hV hr ih =>
  intro j' s' n' hm;obtain ⟨q0,c',tag',b',x',ty',q1,q2,q3,q4,q5,q6,q7,q8⟩:=ih j' s' n' hm;exact ⟨by omega,c',tag',b',x',ty',q1,q2,by rw [show j'-j=(j'-(j+1))+1 by omega,WR];exact q3,q4,q5,q6,q7,q8⟩
 | ownNil j x ty r acc mp c xs hO hr ih =>
  intro j' s' n' hm;obtain ⟨q0,c',tag',b',x',ty',q1,q2,q3,q4,q5,q6,q7,q8⟩:=ih j' s' n' hm;exact ⟨by omega,c',tag',b',x',ty',q1,q2,by rw [show j'-j=(j'-(j+1))+1 by omega,WR];exact q3,q4,q5,q6,q7,q8⟩
theorem ArgsP.backs (h:ArgsP C tm w O σ γ j args acc mp):acc.sh.length=acc.ks.length∧∀(i:Nat) k ty o,acc.sh[i]?=some (k,ty,o)→∃j' s n m,(j',s,n)∈acc.bx∧m<n∧k=cell j' m∧acc.ks[i]?=some (cell s m,[]):=by
 induction h with
 | nil j=>exact ⟨rfl,fun i k ty o hi=>by simp [Acc.nil] at hi⟩
 | t j x ty r acc mp c y hV hr ih=>exact ih
 | pl j x ty r acc mp c y hV hr ih=>exact ih
 | frz j x ty r acc mp c y k0 e hf hV hr ih=>exact ih
 | lend j x ty r acc mp c y k0 hV hr ih=>exact ih
 | lends j x ty r acc mp c y k0 hV hr ih=>exact ih
 | ownNil j x ty r acc mp c xs hO hr ih=>exact ih
 | own j x ty r acc mp c xs k0 hk hO hr ih=>exact ih
 | box j x ty r acc mp s c n tag b as_ sh ks hs hb hv hl hc bc bh dA hr ih =>
  obtain ⟨h1,h2⟩:=ih;refine ⟨by simp only [Acc.box,Acc.arg,WN];omega,fun i k t o hi=>?_⟩;simp only [Acc.box,Acc.arg] at hi ⊢
  by_cases bi:i<n
  ·rw [Xr (by omega)] at hi
   obtain ⟨ty',o',q1,q2⟩:=dA i bi;rw [q1] at hi;simp only [WJ,WK] at hi;exact ⟨j,s,n,i,by simp,bi,hi.1.symm,by rw [Xr (by omega)];exact q2⟩
  ·rw [Xf (by omega)] at hi
   obtain ⟨j',s',n',m,q1,q2,q3,q4⟩:=h2 (i-sh.length) k t o hi;exact ⟨j',s',n',m,by simp [q1],q2,q3,by rw [Xf (by omega),bh,←bc];exact q4⟩
end
end Go.Pl
