/- Part 2 of 11. A session's sealed cut that was changed, shortened, lengthened or emptied is not resumed, and a cut is resumed under another model only where the two models are one. Names are shortened and spaces left out by program, for the size. -/
import Derived.Test.YtjhgombngbgjbaaGreatDoorQ1
set_option linter.unusedVariables false
set_option linter.unusedSimpArgs false
set_option linter.unusedSectionVars false
set_option linter.constructorNameAsVariable false
set_option maxRecDepth 100000
namespace Go.Pl
section
variable {P:Program} {C:Ctx} {w:World}
theorem Good.size (hG:Good P C.tab) {t c:TypeId} {ti:TI} (h:C.tab.at t=some (c,ti)):∃i,P.info? t=some i∧i.size=ti.cells∧i.bytes=ti.bytes:=by
 obtain ⟨i,z,h1,h2,h3,-⟩:=(hG t c ti h).info;exact ⟨i,h1,h2,h3⟩
theorem Good.slice (hG:Good P C.tab) {t:TypeId} {e:TypeId} (h:C.el t=some e):P.underlying t=some (.slice e):=by
 obtain ⟨c,ti,h1,h2⟩:=DA h;obtain ⟨d,hd,hm⟩:=(hG _ _ _ h1).und;rw [h2] at hm;cases d<;>simp at hm;obtain ⟨rfl,-⟩:=hm;exact hd
theorem Good.field (hG:Good P C.tab) {t c:TypeId} {ti:TI} {fs:List (Nat×TypeId)} (h:C.tab.at t=some (c,ti)) (hk:ti.k=.st fs) {f off:Nat} {cf:TypeId} (hf:fs[f]?=some (off,cf)) :
  ∃fa fl tf i,P.underlying t=some (.struct fa)∧fa[f]?=some fl∧fl.offset=off∧C.tab.at fl.type=some (cf,tf)∧C.tab.at cf=some (cf,tf)∧0<tf.cells ∧
   (ti.leaves.drop off).take tf.cells=tf.lv cf∧off+tf.cells≤ti.cells∧P.info? fl.type=some i∧i.size=tf.cells:=by
 obtain ⟨d,hd,hm⟩:=(hG _ _ _ h).und;rw [hk] at hm;cases d<;>simp at hm;rename_i fa;obtain ⟨-,hm⟩:=hm;obtain ⟨fl,h1,h2,tf,h3,h4,h5,h6⟩:=hm f off cf hf;obtain ⟨i,h7,h8,-⟩:=hG.size (C:=C) h3;exact ⟨fa,fl,tf,i,hd,h1,h2,h3,(hG _ _ _ h3).self,h4,h5,h6,h7,h8⟩
theorem Ee {s:TypeId} {fa:Array Field} {f:Nat} {fl:Field} {i:TypeInfo} (hu:P.underlying s=some (.struct fa)) (hf:fa[f]?=some fl) (hi:P.info? fl.type=some i) (hz:0<i.size) (a:Go.Addr) :
  (Instr.fieldAt s (.pointer (some a)) f).run P w=.ok (.pointer (some (a.add fl.offset))) w:=by
 have dw:i.size≠0:=by omega
 simp [Instr.fieldAt,run_underlying hu,hf,Instr.sureAddr,fieldPlace,sizeOf,typeInfo,hi,dw]
theorem Ef {t e:TypeId} {i:TypeInfo} (hu:P.underlying t=some (.slice e)) (hi:P.info? e=some i) (a:Go.Addr) (len cap:Nat) (k:IntKind) (j:Int) (h0:0≤j) (h1:j<len) :
  (Instr.indexAt t (.slice (some a) len cap) (.int k j)).run P w=.ok (.pointer (some (a.add (j.toNat*i.size)))) w:=by
 simp [Instr.indexAt,asIntOf,run_underlying hu,sizeOf,typeInfo,hi,h0,h1]
theorem yc {t:TypeId} {e:TypeId} (hu:P.underlying t=some (.slice e)) (a:Option Go.Addr) (n cap:Nat) (ty:TypeId):(Builtin.len_ #[t] ty #[.slice a n cap]).run P w=.ok (.int .i64 n) w:=by
 simp [Builtin.len_,run_underlying hu,goInt]
theorem Bh {t:TypeId} (hu:P.underlying t=some .string) (s:ByteArray) (ty:TypeId):(Builtin.len_ #[t] ty #[.string s]).run P w=.ok (.int .i64 s.size) w:=by
 simp [Builtin.len_,run_underlying hu,goInt]
theorem Io {t e:TypeId} {i:TypeInfo} (hu:P.underlying t=some (.slice e)) (hi:P.info? e=some i) (a:Option Go.Addr) (len cap:Nat) (lo cC:Option Value)
  (l h:Int) (fh:match lo with | none=>l=0 | some v=>∃k,v=.int k l) (fI:match cC with | none=>h=len | some v=>∃k,v=.int k h)
  (h0:0≤l) (h1:l≤h) (h2:h≤len) (hc:len≤cap) :
  ∃a',(Instr.sliceAt t (.slice a len cap) lo cC none).run P w=.ok (.slice a' (h-l).toNat (cap-l.toNat)) w∧(a'=none↔a=none)∧(l=0→a'=a) ∧
   (0<(h-l).toNat→∀b,a=some b→a'=some (b.add (l.toNat*i.size))):=by
 have e1:(h-l).toNat=h.toNat-l.toNat:=by omega
 refine ⟨if cap=l.toNat then a else a.map (·.add (l.toNat*i.size)),?_,?_,?_,?_⟩
 ·have hh:0≤h:=by omega
  have B_:h≤(cap:Int):=by omega
  have hl:l≤(h.toNat:Int):=by omega
  have aN:l≤(len:Int):=by omega
  have bW:¬ max h 0<l:=by omega
  have iF:l≤max h 0:=by omega
  cases lo with
  | none =>
   simp only at fh;subst fh
   cases cC with
   | none =>
    simp only at fI;subst fI;simp [Instr.sliceAt,Instr.slice,run_underlying hu,Instr.sliceBounds,Instr.sliceBound,asIntOf,sizeOf,typeInfo,hi]
   | some v =>
    obtain ⟨k,rfl⟩:=fI;simp [Instr.sliceAt,Instr.slice,run_underlying hu,Instr.sliceBounds,Instr.sliceBound,asIntOf,sizeOf,typeInfo,hi,hh,B_]
  | some v =>
   obtain ⟨k,rfl⟩:=fh
   cases cC with
   | none =>
    simp only at fI;subst fI;simp [Instr.sliceAt,Instr.slice,run_underlying hu,Instr.sliceBounds,Instr.sliceBound,asIntOf,sizeOf,typeInfo,hi,h0,aN,e1]
   | some v =>
    obtain ⟨k',rfl⟩:=fI;simp [Instr.sliceAt,Instr.slice,run_underlying hu,Instr.sliceBounds,Instr.sliceBound,asIntOf,sizeOf,typeInfo,hi,hh,B_,h0,hl,e1,bW,iF]
 ·split
  ·exact Iff.rfl
  ·simp
 ·intro hl
  subst hl;split
  ·rfl
  ·cases a<;>simp [Addr.add]
 ·intro r_ b hb
  have:¬ cap=l.toNat:=by omega
  rw [WZ this,hb];rfl
theorem Ip {t e:TypeId} {i:TypeInfo} (hu:P.underlying t=some (.slice e)) (hi:P.info? e=some i) (a:Option Go.Addr) (len cap:Nat) (lo:Option Value) (k k':IntKind)
  (fh:match lo with | none=>True | some v=>∃k,v=.int k 0) :
  (Instr.sliceAt t (.slice a len cap) lo (some (.int k 0)) (some (.int k' 0))).run P w=.ok (.slice a 0 0) w:=by
 cases lo with
 | none=>simp [Instr.sliceAt,Instr.slice,run_underlying hu,Instr.sliceBounds,Instr.sliceBound,asIntOf,sizeOf,typeInfo,hi]
 | some v =>
  obtain ⟨k2,rfl⟩:=fh;simp [Instr.sliceAt,Instr.slice,run_underlying hu,Instr.sliceBounds,Instr.sliceBound,asIntOf,sizeOf,typeInfo,hi]
theorem vF {xs ys:List Nat} (h:tV xs ys=true):xs=ys:=by
 induction xs generalizing ys with
 | nil=>cases ys<;>simp [tV] at h ⊢
 | cons x r ih =>
  cases ys with
  | nil=>simp [tV] at h
  | cons y s =>
   simp only [tV] at h;split at h
   ·rename_i h1
    rw [WO h1,ih h]
   ·cases h
theorem F6 {x:T} {j:Nat} (h:j<x.leaves.length):x.leaves[j]?=some (x.cell j):=by
 unfold T.cell;rw [WM,WL h];rfl
theorem zY {tab:Tab} {O:Nat→Prop} {c:TypeId} {v:Value} {x:T} (h:L tab w O c v x):isAgg v=false∧x.isG=false:=by cases h<;>exact ⟨rfl,rfl⟩
theorem TJ {tab:Tab} (hG:Good P tab) {O:Nat→Prop} {c0 c:TypeId} {t0 ti:TI} {x:T} {off:Nat} (h0:tab.at c0=some (c0,t0)) (hc:tab.at c=some (c,ti))
  (i_:x.leaves.length=t0.cells) (hs:((t0.lv c0).drop off).take ti.cells=ti.lv c) (rd:Nat→Value)
  (dX:∀(j:Nat) y ty,x.leaves[j]?=some y→(t0.lv c0)[j]?=some ty→L tab w O ty (rd j) y) :
  off+ti.cells≤t0.cells∧(ti.isS=true→V tab w O c (.agg ((List.range ti.cells).map fun j=>rd (off+j)).toArray) (x.part off ti.cells)) ∧
  (ti.isS=false→V tab w O c (rd off) (x.cell off)):=by
 have g9:=(hG c c ti hc).len;have o7:=(hG c c ti hc).pos;have fi:=(hG c0 c0 t0 h0).len;have P_:off+ti.cells≤t0.cells:=by
  have:=Xx List.length hs
  simp only [Xg,Xi,g9,fi] at this;omega
 have ap:∀j,j<ti.cells→(ti.lv c)[j]?=(t0.lv c0)[off+j]? := by
  intro j hj;rw [←hs,Xy,WY hj,YM]
 have fJ:∀(j:Nat) ty,j<ti.cells→(ti.lv c)[j]?=some ty→L tab w O ty (rd (off+j)) (x.cell (off+j)):=by
  intro j ty hj ht;exact dX (off+j) _ ty (F6 (by omega)) (by rw [←ap j hj];exact ht)
 refine ⟨P_,fun hS=>?_,fun hS=>?_⟩
 ·refine ⟨ti,hc,by rw [hS];rfl,by rw [hS];rfl,by simp [Value.cells],by simp [T.part,T.leaves],fun j y ty hy ht=>?_⟩
  have hj:j<ti.cells:=by rw [←g9];exact (WQ.1 ht).1
  simp only [T.part,T.leaves,Xs,Yl hj,XH,WJ] at hy;subst hy;exact ⟨rd (off+j),by simp [Value.cells,hj],fJ j ty hj ht⟩
 ·have h1:=qz (C:=⟨tab,[],0,[],[],[],[],[],[]⟩) hG hc hS
  have ai:ti.lv c=[c]:=by
   unfold TI.lv;unfold TI.isS at hS;split
   ·rename_i fs hk;simp [hk] at hS
   ·rfl
  have hL:=fJ 0 c (by omega) (by rw [ai];rfl);simp only [XW] at hL;have aA:=zY hL;exact sn hc hS h1 aA.2 aA.1 hL
theorem RF (hG:Good P C.tab) {t c:TypeId} {ti:TI} (h:C.tab.at t=some (c,ti)):∃d,P.underlying t=some d∧((∃fa,d=.struct fa)↔ti.isS=true)∧(∀n e,d≠.array n e):=by
 obtain ⟨d,hd,hm⟩:=(hG _ _ _ h).und;refine ⟨d,hd,?_,?_⟩
 ·unfold TI.isS
  cases hk:ti.k<;>cases d<;>simp [hk] at hm ⊢
 ·intro n e he
  subst he;cases hk:ti.k<;>simp [hk] at hm
theorem In (hG:Good P C.tab) {t c:TypeId} {ti:TI} (h:C.tab.at t=some (c,ti)):(Go.isAgg t).run P w=.ok ti.isS w:=by
 obtain ⟨d,hd,hS,hA⟩:=RF hG h;simp only [Go.isAgg,Sem.run_bind,run_underlying hd,Result.andThen_ok]
 cases d with
 | struct fa=>rw [hS.1 ⟨fa,rfl⟩];rfl
 | array n e=>exact absurd rfl (hA n e)
 | _ =>
  have:ti.isS=false:=by
   cases hs:ti.isS with
   | false=>rfl
   | true=>obtain ⟨fa,hh⟩:=hS.2 hs;cases hh
  rw [this];rfl
theorem vE (hG:Good P C.tab) {t c:TypeId} {ti:TI} (h:C.tab.at t=some (c,ti)):(sizeOf t).run P w=.ok ti.cells w:=by
 obtain ⟨i,hi,f_,-⟩:=hG.size h;simp [sizeOf,typeInfo,hi,f_]
theorem ui (hG:Good P C.tab) {t c:TypeId} {ti:TI} (h:C.tab.at t=some (c,ti)) (a:Go.Addr) (rd:Nat→Value) (dX:∀j,j<ti.cells→w.cell? (a.add j)=some (rd j)) :
  (Instr.loadAt t (.pointer (some a))).run P w=.ok (match ti.isS with
   | true=>.agg ((List.range ti.cells).map rd).toArray
   | false=>rd 0) w:=by
 have r_:=(hG _ _ _ h).pos;simp only [Instr.loadAt,Instr.sureAddr,loadVar,Sem.run_bind,Sem.run_pure,Result.andThen_ok,In hG h]
 cases hs:ti.isS with
 | true =>
  have hl:=run_loadCells (P:=P) w a ti.cells rd dX;simp only [Zf,Sem.run_bind,vE hG h,Result.andThen_ok,hl,Sem.run_pure]
 | false =>
  have h0:=dX 0 r_;have ha:a.add 0=a:=by simp [Addr.add]
  rw [ha] at h0;simp [h0]
end
section
variable {P:Program} {C:Ctx} {fr:Fr} {tm:Array Value} {w:World} {σ:St} {γ:Key→Option Nat} {D:Nat→Prop}
 (hG:Good P C.tab) (h:Rel C.tab fr tm w σ γ) (g_:Wf C D σ) (f_:tm.size=C.nt) {i:Nat} {o:Oper} {p:Path} (hp:σ.Holds p)
 (p_:∀s b,(s,b)∈p→qY C s=false∧∃q c x,σ.get (pp s)=some ⟨q,.t c x⟩) {K:St→Prop} {Q:Exit→Act→World→Prop}
theorem Sub.pos {tab:Tab} {O:Nat→Prop} {c:TypeId} {hv v:Value} {g:Option Nat} {xs:List T} {off len:Nat} (ho:Own tab w O c hv g xs) (hs:Sub tab c hv v off len xs.length) (r_:0<len) :
  ∃ti e ce te b cap cap',tab.at c=some (c,ti)∧ti.k=.sl e∧tab.at e=some (ce,te)∧g=some b∧hv=.slice (some ⟨b,0,none⟩) xs.length cap∧v=.slice (some ⟨b,off*te.cells,none⟩) len cap'∧off+len≤xs.length∧len≤cap' := by
 obtain ⟨ti,e,ce,te,h1,h2,h3,hp,ho⟩:=ho;obtain ⟨ti',e',ce',te',a1,cap1,a',cap',k1,k2,k3,k4,k5,k6,k7,k8,k9,k10,k11⟩:=hs;have e1:=pu h1 k1;simp only [WK,W5] at e1;subst e1;rw [h2] at k2;simp only [K.sl.injEq] at k2;subst k2;have e2:=pu h3 k3;simp only [WK] at e2;obtain ⟨rfl,rfl⟩:=e2
 rcases ho with ⟨-,rfl,-⟩ | ⟨b,cap,cs,ak,ag,-⟩
 ·simp at k6;omega
 ·obtain ⟨b',bk,bV⟩:=k11 r_
  rw [ag] at k4;simp only [Value.slice.injEq] at k4;obtain ⟨rfl,-,rfl⟩:=k4;simp only [WJ] at bk;subst bk;refine ⟨ti,e,ce,te,b,cap,cap',h1,h2,h3,ak,ag,?_,k6,k7⟩;rw [k5,bV,rB,WV]
include hG h g_ f_ hp p_
theorem zv {ty:TypeId} {x:Operand} {f:Nat} (ho:o.op=.fieldAddr ty x f):Sound P C fr tm w σ D i o p K Q ((yE C p o ty x f).run σ):=by
 unfold yE;refine pI _ _ pq fun d hd hn hv d_=>?_
 refine qC _ pq fun ct tr hr=>?_
 split
 ·rename_i fs hk
  split
  ·rename_i off cf hf
   obtain ⟨fa,fl,tf,inf,hu,dN,aZ,eU,fK,r_,-,-,hi,dY⟩:=hG.field hr hk hf;have n_:∀q,ev tm x=.pointer (some q)→(execOp (Act.eval ⟨tm,[]⟩) o).run P w=.ok (.value (.pointer (some (q.add off)))) w:=by
    intro q hq;unfold ev at hq;simp only [execOp,ho,hq];rw [Sem.run_bind,Ee hu dN hi (by omega),aZ];rfl
   refine qB hG h p hp x 0 pq fun ko a hx=>?_
   cases hx with
   | const=>exact pq
   | nil=>exact pq
   | tmp s e hx he y_ j_ =>
    cases h_:e.av with
    | box c tag n =>
     simp only;split
     ·rename_i k e_
      simp only [WJ,WK] at e_;obtain ⟨rfl,w_⟩:=e_;rw [h_] at j_;obtain ⟨b,cs,ety,hb,ah,-⟩:=j_;refine ue off pq fun b_=>?_
      intro hW;have H_:σ.get (pp s)=some ⟨[],.box c tag n⟩:=by rw [he,←w_,←h_]
      have t_:pp s≠pp d:=fun e'=>by rw [←e',he] at d_;cases d_
      refine rJ (a:=.ptr s tag off) hG h g_ f_ hn hd d_ hp p_ (n_ _ ah) ?_ ?_ ?_ hW
      ·intro h0 t6 hh
       simp only [AV.home,WJ,WK] at hh;obtain ⟨rfl,rfl⟩:=hh;rw [he];simp
      ·intro t6 hh
       exact g_.tags _ _ t6 he (by rw [h_];exact hh)
      ·exact zQ H_ hb off (by rw [A3 b_,rB,WV]) (qa _ _ t_)
     ·exact pq
    | ptr s' tag c =>
     rw [h_] at j_;refine ue c pq fun hlt1=>?_
     refine ue (c+off) pq fun kk=>?_
     refine s9 s' tag pq fun cb n hb=>?_
     obtain ⟨b,cj,ah⟩:=j_ cb n hb;rw [A3 hlt1] at ah;intro hW;refine sP (a:=.ptr s' tag (c+off)) hG h g_ f_ hp p_ hn hd d_ he (n_ _ ah) ?_ (by simp [h_,AV.home]) (by simp [h_,AV.re]) (by simp) (by simp) hW;exact zQ hb cj (c+off) (by rw [A3 kk,rB]) rfl
    | eptr h0 tag j c =>
     rw [h_] at j_;refine qn h0 tag pq fun c' xs hb=>?_
     obtain ⟨-,b,cap,ti,e1,ce,te,-,-,-,-,ah⟩:=j_ c' xs hb;intro hW;refine sP (a:=.eptr h0 tag j (c+off)) hG h g_ f_ hp p_ hn hd d_ he (n_ _ ah) ?_ (by simp [h_,AV.home]) (by simp [h_,AV.re]) (by simp) (by simp) hW;intro c2 xs2 bV;obtain ⟨q0,b2,cap2,ti2,e2,ce2,te2,q1,q2,q3,q4,q5⟩:=j_ c2 xs2 bV;refine ⟨q0,b2,cap2,ti2,e2,ce2,te2,q1,q2,q3,q4,?_⟩;rw [ah] at q5;simp only [Value.pointer.injEq,WJ,Addr.mk.injEq,ZP] at q5;rw [rB];simp only [Value.pointer.injEq,WJ,Addr.mk.injEq,ZP];exact ⟨q5.1,by omega⟩
    | pl c y off' =>
     rw [h_] at j_;obtain ⟨a,ah,ar⟩:=j_;intro hW;refine sP (a:=.pl c y (off'+off)) hG h g_ f_ hp p_ hn hd d_ he (n_ _ ah) ?_ (by simp [AV.home]) (by simp [AV.re]) (by simp) (by simp) hW;exact ⟨a,by rw [Ab],ar⟩
    | _=>exact pq
  ·exact pq
 ·exact pq
theorem HT {xt:TypeId} {x:Operand} {c:Call} (ho:o.op=.call c) (hc:c.callee=.builtin .len) (E_:c.args.toList=[x]) (ap:c.argTypes.toList=[xt]) :
  Sound P C fr tm w σ D i o p K Q ((UI C p o xt x).run σ):=by
 unfold UI;refine pI _ _ pq fun d hd hn hv d_=>?_
 refine qC _ pq fun cr tr hr=>?_
 have cA:=(hG _ _ _ hr).self;have ha:c.args=#[x]:=by rw [←E_]
 have ht:c.argTypes=#[xt]:=by rw [←ap]
 have n_:∀n:Nat,(Builtin.len_ #[xt] o.type #[ev tm x]).run P w=.ok (.int .i64 (n:Int)) w→(execOp (Act.eval ⟨tm,[]⟩) o).run P w=.ok (.value (.int .i64 (n:Int))) w:=by
  intro n hl;unfold ev at hl;simp only [execOp,ho,resolve,hc,ha,ht];simp [invoke,builtin,hl]
 have put:∀n:Nat,n≤maxLen→tr.k=.int .i64→(Builtin.len_ #[xt] o.type #[ev tm x]).run P w=.ok (.int .i64 (n:Int)) w →
   Sound P C fr tm w σ D i o p K Q (.upd none [(pp d,⟨p,.t cr (.i .i64 (n:Int))⟩)]):=by
  intro n hm hk hl hW;refine tU hG h g_ f_ hp p_ hn hd d_ (n_ n hl) (Fc hG cA hk ?_) hW;rw [RI];simp only [maxLen] at hm;omega
 split
 ·rename_i hk
  refine qB hG h p hp x xt pq fun ko a hx=>?_
  have sl:∀{y:T} {cx:TypeId} {e:TypeId},C.kd xt=.sl e→∀xs,tC C.tab w (Ob fr γ) cx (ev tm x) xs →
    (Builtin.len_ #[xt] o.type #[ev tm x]).run P w=.ok (.int .i64 (xs.length:Int)) w∧xs.length≤maxLen:=by
   intro y cx e bc xs hS;obtain ⟨ti,e',ce,te,a',cap,-,-,-,-,ah,B_,hm,-⟩:=hS;rw [ah];exact ⟨yc (hG.slice (by unfold Ctx.el;rw [bc];rfl)) _ _ _ _,by omega⟩
  cases hx with
  | const cx y _ hV =>
   simp only;split
   ·rename_i e1 e2 h1 h2
    obtain ⟨c1,t1,bz,bq⟩:=vm h1 (by simp);obtain ⟨t2,bT,-⟩:=id hV
    have:=pu bz bT
    simp only [WK] at this;obtain ⟨rfl,rfl⟩:=this;obtain ⟨-,hS,-⟩:=yo hG bz bq hV;obtain ⟨q1,q2⟩:=sl (y:=y) h2 _ hS;exact put _ q2 hk q1
   ·rename_i h1 h2
    obtain ⟨c1,t1,bz,bq⟩:=vm h1 (by simp);obtain ⟨t2,bT,-⟩:=id hV
    have:=pu bz bT
    simp only [WK] at this;obtain ⟨rfl,rfl⟩:=this;obtain ⟨q1,-,q3⟩:=OE bz bq hV;obtain ⟨c3,t3,ff,bw⟩:=vm h2 (by simp);obtain ⟨dd,hu,J_⟩:=(hG _ _ _ ff).und;rw [bw] at J_;have aw:P.underlying xt=some .string:=by cases dd<;>simp at J_;exact hu
    exact put _ q3 hk (by rw [q1];exact Bh aw _ _)
   ·exact pq
  | nil cx e ti _ hx ht dZ e_ =>
   simp only;split
   ·rename_i e2 h2
    exact put 0 (by simp [maxLen]) hk (by rw [hx];exact yc (hG.slice (by unfold Ctx.el;rw [h2];rfl)) _ _ _ _)
   ·exact pq
  | tmp s e hx he y_ j_ =>
   cases h_:e.av with
   | t cx y =>
    rw [h_] at j_;simp only;split
    ·rename_i e1 e2 h1 h2
     obtain ⟨c1,t1,bz,bq⟩:=vm h1 (by simp);obtain ⟨t2,bT,-⟩:=id j_
     have:=pu bz bT
     simp only [WK] at this;obtain ⟨rfl,rfl⟩:=this;obtain ⟨-,hS,-⟩:=yo hG bz bq j_;obtain ⟨q1,q2⟩:=sl (y:=y) h2 _ hS;exact put _ q2 hk q1
    ·rename_i h1 h2
     obtain ⟨c1,t1,bz,bq⟩:=vm h1 (by simp);obtain ⟨t2,bT,-⟩:=id j_
     have:=pu bz bT
     simp only [WK] at this;obtain ⟨rfl,rfl⟩:=this;obtain ⟨q1,-,q3⟩:=OE bz bq j_;obtain ⟨c3,t3,ff,bw⟩:=vm h2 (by simp);obtain ⟨dd,hu,J_⟩:=(hG _ _ _ ff).und;rw [bw] at J_;have aw:P.underlying xt=some .string:=by cases dd<;>simp at J_;exact hu
     exact put _ q3 hk (by rw [q1];exact Bh aw _ _)
    ·exact pq
   | own cx tag xs =>
    rw [h_] at j_;simp only;split
    ·rename_i e2 h2
     obtain ⟨q1,q2⟩:=sl (y:=.u) h2 _ (Own.uU j_);exact put _ q2 hk q1
    ·exact pq
   | alias h0 tag cx off len =>
    rw [h_] at j_;simp only;split
    ·rename_i e2 h2
     refine qn h0 tag pq fun c' xs hh=>?_
     obtain ⟨-,hS,v_,-,-,y_⟩:=rg h j_ hh;obtain ⟨_,_,_,_,_,_,_,_,-,-,-,-,-,P_,-⟩:=y_;have hl:((xs.drop off).take len).length=len:=by simp;omega
     obtain ⟨q1,q2⟩:=sl (y:=.u) h2 _ hS;rw [hl] at q1 q2;exact put _ q2 hk q1
    ·exact pq
   | _=>exact pq
 ·exact pq
omit g_ f_ hp p_ in
theorem xY (s:Nat) (want:Bool) (x:Operand) (ty:TypeId) {k:TypeId→T→R} {motive:qO→Prop} (c_:motive .bad)
  (l_:∀c y,(σ.Holds (p++[(s,want)])→V C.tab w (Ob fr γ) c (ev tm x) y)→motive ((k c y).run σ)):motive ((wH C p s want x ty k).run σ):=by
 unfold wH
 by_cases hh:σ.Holds (p++[(s,want)])
 ·refine qB hG h _ hh x ty c_ fun ko a hx=>?_
  cases hx with
  | const c y _ hV=>exact l_ c y fun _=>hV
  | nil=>exact c_
  | tmp s' e hx he y_ j_ =>
   cases h_:e.av with
   | t c y =>
    rw [h_] at j_;exact l_ c y fun _=>j_
   | _=>exact c_
 ·cases x with
  | tmp s' =>
   simp only [opnd,Rd.run]
   cases he:σ.get (pp s') with
   | none=>exact c_
   | some e =>
    simp only
    cases hs:e.path.sub (p++[(s,want)]) with
    | false=>exact c_
    | true =>
     simp only
     cases h_:e.av with
     | t c y=>exact l_ c y fun q=>absurd q hh
     | _=>exact c_
  | const v =>
   simp only [opnd]
   cases ht:C.tab.at ty with
   | none=>exact c_
   | some r =>
    obtain ⟨c,ti⟩:=r;simp only
    cases hn:tZ v with
    | true =>
     simp only
     cases hk:ti.k.elem with
     | none=>exact c_
     | some e=>exact c_
    | false =>
     simp only
     cases hf:ti.k.fits v with
     | false=>exact c_
     | true =>
      simp only
      cases hx:Dw v with
      | none=>exact c_
      | some y=>exact l_ c y fun q=>absurd q hh
  | global g=>exact c_
  | func f =>
   simp only [opnd]
   cases ht:C.tab.at ty with
   | none=>exact c_
   | some r =>
    obtain ⟨c,ti⟩:=r;simp only;split
    ·exact l_ c _ fun q=>absurd q hh
    ·exact c_
omit hG h g_ f_ hp p_ in
theorem vQ {q r:Path}:σ.Holds (q++r)↔σ.Holds q∧σ.Holds r:=by
 induction q with
 | nil=>simp [St.Holds]
 | cons x q ih =>
  obtain ⟨s,b⟩:=x;simp only [Yy,St.Holds,ih,and_assoc]
theorem Fz {c a b:Operand} (ho:o.op=.pick c a b):Sound P C fr tm w σ D i o p K Q ((Q3 C p o c a b).run σ):=by
 unfold Q3;refine pI _ _ pq fun d hd hn hv d_=>?_
 cases c with
 | tmp s =>
  simp only;split
  ·exact pq
  ·
   rename_i fj;have key:∀(cc:TypeId) (vc:T),(∃e,σ.get (pp s)=some e∧e.av=.t cc vc)→V C.tab w (Ob fr γ) cc (ev tm (.tmp s)) vc →
     Sound P C fr tm w σ D i o p K Q ((match C.kd cc with
      | .bool=>wH C p s true a o.type fun ca va=>wH C p s false b o.type fun cb vb=>match Nat.beq ca cb with
       | true=>okR [(pp d,⟨p,.t ca (T.ite vc.bool va vb)⟩)]
       | false=>pP
      | _=>pP).run σ):=by
    intro cc vc he hV;split
    ·rename_i hk
     refine xY hG h s true a o.type pq fun ca va ha=>?_
     refine xY hG h s false b o.type pq fun cb vb hb=>?_
     split
     ·rename_i ae
      have km:=WO ae;subst km;obtain ⟨ex,-⟩:=Ez.bool (.inl hV) hk;obtain ⟨e,gc,bg⟩:=he;have aS:σ.truth s=vc.bool:=by unfold St.truth;rw [gc];simp only [bg]
      intro hW;unfold ev at ex ha hb
      cases ga:vc.bool with
      | true =>
       rw [ga] at aS ex;have dO:=ha (vQ.2 ⟨hp,aS,a_⟩);refine tU hG h g_ f_ hp p_ hn hd d_ ?_ dO (by rw [ga] at hW;exact hW);simp [execOp,ho,ex,asBool]
      | false =>
       rw [ga] at aS ex;have dO:=hb (vQ.2 ⟨hp,aS,a_⟩);refine tU hG h g_ f_ hp p_ hn hd d_ ?_ dO (by rw [ga] at hW;exact hW);simp [execOp,ho,ex,asBool]
     ·exact pq
    ·exact pq
   refine qB hG h p hp (.tmp s) 0 pq fun ko a' hx=>?_
   cases hx with
   | const c y hx _=>exact absurd rfl (hx s)
   | nil c e ti hx=>exact absurd rfl (hx s)
   | tmp s' e hx he y_ j_ =>
    simp only [Operand.tmp.injEq] at hx;subst hx
    cases h_:e.av with
    | t cc vc =>
     rw [h_] at j_;exact key cc vc ⟨e,he,h_⟩ j_
    | _=>exact pq
 | const v=>exact pq
 | global g=>exact pq
 | func f=>exact pq
end
section
variable {P:Program} {C:Ctx} {fr:Fr} {tm:Array Value} {w:World} {σ:St} {γ:Key→Option Nat} {D:Nat→Prop}
 (hG:Good P C.tab) (h:Rel C.tab fr tm w σ γ) (g_:Wf C D σ) (f_:tm.size=C.nt) {i:Nat} {o:Oper} {p:Path} (hp:σ.Holds p)
 (p_:∀s b,(s,b)∈p→qY C s=false∧∃q c x,σ.get (pp s)=some ⟨q,.t c x⟩) {K:St→Prop} {Q:Exit→Act→World→Prop}
theorem Ur {c:TypeId} {v:Value} {y:T} {e:TypeId} {O:Nat→Prop} (hV:V C.tab w O c v y) (he:C.el c=some e):∃ti,C.tab.at c=some (c,ti)∧ti.k=.sl e:=by
 obtain ⟨c',ti,h1,h2⟩:=DA he;obtain ⟨t2,bT,-⟩:=hV
 have:=pu h1 bT
 simp only [WK] at this;obtain ⟨rfl,rfl⟩:=this;exact ⟨ti,h1,h2⟩
theorem CC {xs:List T} {n:Nat} (h:n<xs.length):xs[n]?=some (xs.getD n .u):=by
 rw [WM,WL h];rfl
def ex2:Bool→Value→Value→Sem Value
 | true=>Builtin.max2
 | false=>Builtin.min2
include hG h g_ f_ hp p_
theorem DL {xt:TypeId} {x ix:Operand} (ho:o.op=.indexAddr xt x ix):Sound P C fr tm w σ D i o p K Q ((Kf C p o xt x ix).run σ):=by
 unfold Kf;refine pI _ _ pq fun d hd hn hv d_=>?_
 refine ru hG h p hp ix 3 pq fun ci vi hi=>?_
 split
 ·exact pq
 ·rename_i k hk
  obtain ⟨eix,-,-⟩:=hi.int hk;split
  ·exact pq
  ·rename_i e aj
   have hu:=hG.slice aj;have n_:∀(a:Go.Addr) (len cap:Nat) (te:TI) (ce:TypeId),C.tab.at e=some (ce,te)→ev tm x=.slice (some a) len cap→0≤vi.int→vi.int<len →
     (execOp (Act.eval ⟨tm,[]⟩) o).run P w=.ok (.value (.pointer (some (a.add (vi.int.toNat*te.cells))))) w:=by
    intro a len cap te ce fk hx h0 h1;obtain ⟨inf,eh,dY,-⟩:=hG.size fk;unfold ev at hx eix;simp only [execOp,ho,hx,eix];rw [Sem.run_bind,Ef hu eh a len cap k vi.int h0 h1,dY];rfl
   refine qB hG h p hp x xt pq fun ko a hx=>?_
   have tree:∀(c:TypeId) (v:T),V C.tab w (Ob fr γ) c (ev tm x) v→Sound P C fr tm w σ D i o p K Q ((match C.el c,C.tab.at e with
     | some e',some (ce,_)=>match Nat.beq e e' with
      | true=>IF (0≤vi.int∧vi.int<lenOf v.list) [(pp d,⟨p,.pl ce (v.list.getD vi.int.toNat .u) 0⟩)]
      | false=>pP
     | _,_=>pP).run σ):=by
    intro c v hV;split
    ·rename_i e' ce te bX fk
     split
     ·rename_i cD
      have:=WO cD
      subst this;obtain ⟨ti,hc,aD⟩:=Ur hV bX;obtain ⟨-,hS,hO⟩:=yo hG hc aD hV;obtain ⟨ti',e2,ce2,te2,a2,cap,q1,q2,q3,q4,q5,q6,q7,q8,q9⟩:=hS
      have:=pu hc q1
      simp only [WK,W5] at this;subst this;rw [aD] at q2;simp only [Go.Pl.K.sl.injEq] at q2;subst q2
      have:=pu fk q3
      simp only [WK] at this;obtain ⟨rfl,rfl⟩:=this;intro hW;obtain ⟨⟨h0,h1⟩,hK⟩:(0≤vi.int∧vi.int<lenOf v.list)∧K (σ.puts [(pp d,⟨p,.pl ce (v.list.getD vi.int.toNat .u) 0⟩)]):=⟨wV hW.1 hp,hW.2⟩;have b_:vi.int.toNat<v.list.length:=by unfold lenOf at h1;omega
      obtain ⟨b,hb,k1,k2,k3⟩:=q9 _ _ (CC b_);subst hb;refine rJ (a:=.pl ce (v.list.getD vi.int.toNat .u) 0) hG h g_ f_ hn hd d_ hp p_ (n_ b _ cap te ce fk q5 h0 (by unfold lenOf at h1;exact h1)) (fun _ _ hh=>by cases hh) (fun _ hh=>by cases hh) ?_ hK;refine ⟨b.add (vi.int.toNat*te.cells),by simp [Addr.add],te,(hG _ _ _ fk).self,k1,k2,?_,fun j y ty hy ht=>?_⟩
      ·rw [tD]
       exact hO b _ _ q5 (by omega)
      ·obtain ⟨u,aw,hl⟩:=k3 j y ty hy ht
       exact ⟨u,by rw [Ab];exact aw,hl⟩
     ·exact pq
    ·exact pq
   cases hx with
   | const c y _ hV=>exact tree c y hV
   | nil c e' ti _ hx ht hc e_ =>
    simp only;split
    ·rename_i h1 h2
     simp at h2
    ·exact pq
   | tmp s e' hx he y_ j_ =>
    cases h_:e'.av with
    | t c y =>
     rw [h_] at j_;exact tree c y j_
    | own c tag xs =>
     rw [h_] at j_;simp only;split
     ·rename_i e2 k0 bX mg
      simp only [WJ,WK] at mg;obtain ⟨rfl,w_⟩:=mg;split
      ·rename_i cD
       have:=WO cD
       subst this;intro hW;obtain ⟨⟨h0,h1⟩,hK⟩:(0≤vi.int∧vi.int<lenOf xs)∧K (σ.puts [(pp d,⟨p,.eptr (pp s) tag vi.int.toNat 0⟩)]):=⟨wV hW.1 hp,hW.2⟩;have b_:vi.int.toNat<xs.length:=by unfold lenOf at h1;omega
       obtain ⟨ti,e3,ce,te,q1,q2,q3,q4,q5⟩:=id j_;have bA:ti.k=.sl e:=by
        obtain ⟨c',ti',r1,r2⟩:=DA bX
        have:=pu q1 r1
        simp only [WK] at this;rw [this.2];exact r2
       rw [q2] at bA;simp only [Go.Pl.K.sl.injEq] at bA;subst bA
       rcases q5 with ⟨-,rfl,-⟩ | ⟨b,cap,cs,ak,ah,-⟩
       ·simp at b_
       ·have H_:σ.get (pp s)=some ⟨[],.own c tag xs⟩:=by rw [he,←w_,←h_]
        refine rJ (a:=.eptr (pp s) tag vi.int.toNat 0) hG h g_ f_ hn hd d_ hp p_ (n_ _ _ cap te ce q3 ah h0 (by unfold lenOf at h1;exact h1)) ?_ ?_ ?_ hK
        ·intro h0 t6 hh
         simp only [AV.home,WJ,WK] at hh;obtain ⟨rfl,rfl⟩:=hh;rw [he];simp
        ·intro t6 hh
         exact g_.tags _ _ t6 he (by rw [h_];exact hh)
        ·intro c2 xs2 bV
         rw [H_] at bV;simp only [WJ,Ent.mk.injEq,AV.own.injEq,W5] at bV;obtain ⟨rfl,rfl⟩:=bV;refine ⟨b_,b,cap,ti,_,ce,te,?_,q1,q2,q3,?_⟩
         ·rw [NU h he,←hx,ah]
         ·rw [rB];simp
      ·exact pq
     ·exact pq
    | alias h0 tag c off len =>
     rw [h_] at j_;simp only;split
     ·rename_i e2 bX
      split
      ·rename_i cD
       have:=WO cD
       subst this;refine qn h0 tag pq fun c' xs hh=>?_
       obtain ⟨rfl,-,v_,m_,O_,K_⟩:=rg h j_ hh;intro hW;obtain ⟨⟨ej,h1⟩,hK⟩:(0≤vi.int∧vi.int<(len:Int))∧K (σ.puts [(pp d,⟨p,.eptr h0 tag (off+vi.int.toNat) 0⟩)]):=⟨wV hW.1 hp,hW.2⟩;obtain ⟨ti,e3,ce,te,b,cap,cap',q1,q2,q3,q4,q5,q6,q7,q8⟩:=Sub.pos O_ K_ (by omega);have bA:ti.k=.sl e:=by
        obtain ⟨c',ti',r1,r2⟩:=DA bX
        have:=pu q1 r1
        simp only [WK] at this;rw [this.2];exact r2
       rw [q2] at bA;simp only [Go.Pl.K.sl.injEq] at bA;subst bA;refine rJ (a:=.eptr h0 tag (off+vi.int.toNat) 0) hG h g_ f_ hn hd d_ hp p_ (n_ _ _ cap' te ce q3 q6 ej h1) ?_ ?_ ?_ hK
       ·intro h2 t6 hJ
        simp only [AV.home,WJ,WK] at hJ;obtain ⟨rfl,rfl⟩:=hJ;rw [hh];simp
       ·intro t6 hJ
        exact g_.tags _ _ t6 he (by rw [h_];exact hJ)
       ·intro c2 xs2 bV
        rw [hh] at bV;simp only [WJ,Ent.mk.injEq,AV.own.injEq,W5] at bV;obtain ⟨rfl,rfl⟩:=bV;refine ⟨by omega,b,cap,ti,_,ce,te,by rw [m_,q5],q1,q2,q3,?_⟩;rw [rB,Xe,XW]
      ·exact pq
     ·exact pq
    | _=>exact pq
theorem wU {isMax:Bool} {args:List (Operand×TypeId)} {c:Call} (ho:o.op=.call c) (hc:c.callee=.builtin (exB isMax)) (E_:args.map (·.1)=c.args.toList) :
  Sound P C fr tm w σ D i o p K Q ((zE C p o isMax args).run σ):=by
 unfold zE;refine pI _ _ pq fun d hd hn hv d_=>?_
 refine qC _ pq fun cr tr hr=>?_
 have cA:=(hG _ _ _ hr).self;split
 ·rename_i k hk
  have sees:∀(l:List (Operand×TypeId)) (f:List (TypeId×T)→R),(∀ys:List (TypeId×T),ys.length=l.length→(∀(j:Nat) x y,l[j]?=some x→ys[j]?=some y→Ez C.tab w (Ob fr γ) y.1 (ev tm x.1) y.2) →
    Sound P C fr tm w σ D i o p K Q ((f ys).run σ))→Sound P C fr tm w σ D i o p K Q ((Nf C p l f).run σ):=by
   intro l
   induction l with
   | nil =>
    intro f hf;exact hf [] rfl (fun j x y hx=>by simp at hx)
   | cons a l ih =>
    intro f hf;obtain ⟨x,ty⟩:=a;simp only [Nf];refine ru hG h p hp x ty pq fun cx vx hx=>?_
    refine ih _ fun ys hl ck=>hf _ (by simp [hl]) ?_
    intro j x' y' aV fo
    cases j with
    | zero =>
     simp at aV fo;subst aV;subst fo;exact hx
    | succ j=>exact ck j x' y' (by simpa using aV) (by simpa using fo)
  refine sees args _ fun ys hl ck=>?_
  cases ys with
  | nil=>exact pq
  | cons y r =>
   simp only;split
   ·rename_i bY
    intro hW;have iG:∀(l:List (TypeId×T)),F1 C k l=true→∀z∈l,C.ik z.1=some k:=by
     intro l
     induction l with
     | nil=>intro _ z hz;simp at hz
     | cons z l ih =>
      intro hh z' dw;obtain ⟨c0,v0⟩:=z;simp only [F1] at hh;split at hh
      ·rename_i k' e_
       split at hh
       ·rename_i aR
        have:=Xd aR
        subst this
        rcases WW.1 dw with rfl | dw
        ·exact e_
        ·exact ih hh z' dw
       ·cases hh
      ·cases hh
    have fL:=iG _ bY;have u_:args.map (fun x=>ev tm x.1)=(y::r).map fun z=>Value.int k z.2.int:=by
     apply List.ext_getElem?;intro j
     by_cases hj:j<args.length
     ·have f7:j<(y::r).length:=by rw [hl];exact hj
      have h1:=WL hj;have h2:=WL f7;obtain ⟨q,-,-⟩:=(ck j _ _ h1 h2).int (fL _ (YE f7));rw [Xs,Xs,h1,h2,XH,XH,q]
     ·rw [Ym (by simpa using Nat.le_of_not_lt hj),Ym (by rw [Xk,hl];exact Nat.le_of_not_lt hj)]
    have iH:∀z∈(y::r),k.wrap z.2.int=z.2.int:=by
     intro z hz;obtain ⟨j,hj,rfl⟩:=Ys hz;have f7:j<args.length:=by rw [←hl];exact hj
     exact ((ck j _ _ (WL f7) (WL hj)).int (fL _ hz)).2.2
    have ek:c.args.toList.map (Act.eval ⟨tm,[]⟩)=Value.int k y.2.int::r.map fun z=>Value.int k z.2.int:=by
     rw [←E_,Yo];exact u_
    have iI:∀(l:List (TypeId×T)) (a:Int),k.wrap a=a→(∀z∈l,k.wrap z.2.int=z.2.int) →
      ((l.map fun z=>Value.int k z.2.int).foldlM (ex2 isMax) (.int k a)).run P w=.ok (.int k (EZ (exI isMax) a l)) w ∧
       k.wrap (EZ (exI isMax) a l)=EZ (exI isMax) a l:=by
     intro l
     induction l with
     | nil=>intro a ha _;exact ⟨rfl,ha⟩
     | cons z l ih =>
      intro a ha hz;have jK:=hz z (by simp)
      cases isMax with
      | true =>
       have:=ih (exI true a z.2.int) (by simp only [exI,xk];split<;>assumption) (fun z' h'=>hz z' (by simp [h']))
       simp only [XP,List.foldlM_cons,EZ];refine ⟨?_,this.2⟩;rw [Sem.run_bind];simp only [ex2,Builtin.max2,Sem.run_pure,Result.andThen_ok];exact this.1
      | false =>
       have:=ih (exI false a z.2.int) (by simp only [exI,xT];split<;>assumption) (fun z' h'=>hz z' (by simp [h']))
       simp only [XP,List.foldlM_cons,EZ];refine ⟨?_,this.2⟩;rw [Sem.run_bind];simp only [ex2,Builtin.min2,Sem.run_pure,Result.andThen_ok];exact this.1
    obtain ⟨f1,f2⟩:=iI r y.2.int (iH y (by simp)) (fun z hz=>iH z (by simp [hz]));refine tU hG h g_ f_ hp p_ hn hd d_ ?_ (Fc hG cA hk f2) hW;simp only [execOp,ho,resolve,hc]
    cases isMax with
    | true =>
     simp only [ex2] at f1;simp [invoke,builtin,Builtin.max_,ek,f1,exB]
    | false =>
     simp only [ex2] at f1;simp [invoke,builtin,Builtin.min_,ek,f1,exB]
   ·exact pq
 ·exact pq
end
section
variable {P:Program} {C:Ctx} {fr:Fr} {tm:Array Value} {w:World} {σ:St} {γ:Key→Option Nat} {D:Nat→Prop}
theorem pV (σ:St) (a b:List (Key×Ent)):σ.puts (a++b)=(σ.puts a).puts b:=by
 induction a generalizing σ with
 | nil=>rfl
 | cons x r ih=>obtain ⟨k,e⟩:=x;exact ih _
theorem IG {k k0:Key} {g:Option Nat} (h:k0.tag≠0∨∀n,σ.get (cell k0.a n)=none) {e:Ent} (hk:σ.get k=some e):pJ tm w (rN γ k0 g) k=pJ tm w γ k:=by
 obtain ⟨t,a,b⟩:=k;unfold pJ
 match t with
 | 0=>rfl
 | 1 =>
  simp only
  have:pp a≠k0:=by
   rintro rfl
   rcases h with h | h
   ·exact h rfl
   ·have:=h b
    rw [show (⟨1,a,b⟩:Key)=cell a b from rfl] at hk;simp only [pp] at this;rw [this] at hk;cases hk
  rw [qa _ _ this]
 | 2=>rfl
 | n+3=>rfl
theorem ME (h:Rel C.tab fr tm w σ γ) {s:Nat} {e:Ent} (hs:σ.get (pp s)=some e) (hb:∀c tag n,e≠⟨[],.box c tag n⟩):∀n,σ.get (cell s n)=none:=by
 intro n
 cases hc:σ.get (cell s n) with
 | none=>rfl
 | some e' =>
  obtain ⟨c,tag,m,hh⟩:=h.cel s n e' hc;rw [hs] at hh;exact absurd (W3 hh) (hb c tag m)
theorem sT {k:Key} (h:Rel C.tab fr tm w σ γ) {e:Ent} (hk:σ.get k=some e) (ht:k.tag=0):k=pp k.a:=by
 obtain ⟨v,hv,-⟩:=h.ent k e hk;obtain ⟨t,a,b⟩:=k;simp only at ht;subst ht;unfold pJ at hv;simp only at hv;split at hv
 ·rename_i hb;subst hb;rfl
 ·cases hv
theorem Rel.freeze (hG:Good P C.tab) (h:Rel C.tab fr tm w σ γ) (g_:Wf C D σ) {k:Key} {c:TypeId} {tag:Nat} {xs:List T} (hk:σ.get k=some ⟨[],.own c tag xs⟩) :
  Rel C.tab fr tm w (σ.put k (top (.t c (.l xs)))) (rN γ k none)∧Wf C D (σ.put k (top (.t c (.l xs)))):=by
 have L_:k.tag≠0∨∀n,σ.get (cell k.a n)=none:=by
  by_cases ht:k.tag=0
  ·refine .inr (ME h (e:=⟨[],.own c tag xs⟩) (by rw [←sT h hk ht];exact hk) (by simp))
  ·exact .inl ht
 have m_:∀k' e,σ.get k'=some e→pJ tm w (rN γ k none) k'=pJ tm w γ k' := fun k' e he=>IG L_ he
 have U_:∀{s:Nat} {c':TypeId} {t m:Nat},σ.get (pp s)=some ⟨[],.box c' t m⟩→pp s≠k:=by
  rintro s c' t m hs rfl;rw [hk] at hs;cases hs
 refine Rel.upd hG h g_ (fun k'=>k'=k) (fun _=>False) rfl rfl rfl (WU _) (fun _ _ _=>rfl) (fun _ _ q=>q.elim) (fun k' e_=>qa _ _ e_) ?_ ?_
  (fun k' e_=>pD e_) (fun k' e _ he=>m_ k' e he) ?_ ?_ ?_ ?_ ?_ (fun _ q=>q) ?_ ?_ ?_ ?_
 ·rintro k' b rfl hb
  rw [qg] at hb;cases hb
 ·rintro k' k'' b rfl rfl _ _
  rfl
 ·intro s n e he
  have:∃e0,σ.get (cell s n)=some e0:=by
   by_cases hc:cell s n=k
   ·exact ⟨_,by rw [hc];exact hk⟩
   ·exact ⟨e,by rw [pD hc] at he;exact he⟩
  obtain ⟨e0,dL⟩:=this;obtain ⟨c',t,m,hb⟩:=h.cel s n e0 dL;exact ⟨c',t,m,by rw [pD (U_ hb)];exact hb⟩
 ·intro s j e he
  have:∃e0,σ.get (comp s j)=some e0:=by
   by_cases hc:comp s j=k
   ·exact ⟨_,by rw [hc];exact hk⟩
   ·exact ⟨e,by rw [pD hc] at he;exact he⟩
  obtain ⟨e0,dL⟩:=this;obtain ⟨q,m,hb⟩:=h.cmp s j e0 dL;refine ⟨q,m,?_⟩;rw [pD (by rintro rfl;rw [hk] at hb;cases hb)];exact hb
 ·rintro s q c' x _ hs rfl
  rw [hk] at hs;cases hs
 ·rintro k' rfl _
  rw [pB];simp
 ·rintro k' e tag' rfl he ht
  rw [pB] at he;simp only [WJ] at he;subst he;cases ht
 ·rintro k' tag' rfl _ _
  refine ⟨fun c' xs' hx=>?_,fun c' n hx=>?_,fun c' hx=>?_⟩
  ·rw [pB] at hx;cases hx
  ·rw [pB] at hx;cases hx
  ·rw [pB] at hx;cases hx
 ·rintro k' e h0 tag' rfl he hh
  rw [pB] at he;simp only [WJ] at he;subst he;cases hh
 ·rintro k' e s b rfl he hm
  rw [pB] at he;simp only [WJ] at he;subst he;simp [top] at hm
 ·rintro A_ k' e rfl he
  rw [pB] at he;simp only [WJ] at he;subst he;obtain ⟨v,hv,hr,-⟩:=h.ent k' _ hk;refine ⟨v,by rw [m_ k' _ hk];exact hv,fun _=>?_,fun q=>absurd trivial q⟩;have ho:Own C.tab w (Ob fr γ) c v (γ k') xs:=hr trivial;refine ho.freeze hG (fun b hb=>zd hb) fun b hb q=>?_
  rcases q with q | ⟨k2,q⟩
  ·exact (h.blk k' b hb).2.1 q
  ·unfold rN at q
   split at q
   ·cases q
   ·rename_i t_
    exact t_ (h.inj k2 k' b q hb)
theorem GO {k:Key} {e:Ent} (h:σ.get k=some e):∀n,(σ.put k e).get n=σ.get n:=by
 intro n;rw [St.yJ];split
 ·rename_i hk;rw [←hk];exact h.symm
 ·rfl
theorem Rel.congr {σ':St} (h:Rel C.tab fr tm w σ γ) (he:∀k,σ'.get k=σ.get k):Rel C.tab fr tm w σ' γ where
 os:=h.os
 tape:=h.tape
 output:=h.output
 size:=h.size
 old:=h.old
 low:=h.low
 inj:=h.inj
 blk:=h.blk
 cel s n e hh:=by
  rw [he] at hh;obtain ⟨c,t,m,hb⟩:=h.cel s n e hh;exact ⟨c,t,m,by rw [he];exact hb⟩
 cmp s j e hh:=by
  rw [he] at hh;obtain ⟨q,m,hb⟩:=h.cmp s j e hh;exact ⟨q,m,by rw [he];exact hb⟩
 ent k e hk:=by
  rw [he] at hk;obtain ⟨v,hv,h1,h2⟩:=h.ent k e hk;have hH:σ'.Holds e.path↔σ.Holds e.path:=sW _ fun s b _=>he _
  refine ⟨v,hv,fun q=>?_,fun q=>h2 fun q'=>q (hH.2 q')⟩
  have:=h1 (hH.1 q)
  cases ha:e.av with
  | alias h0 tag c off len=>rw [ha] at this;intro c' xs hx;rw [he] at hx;exact this c' xs hx
  | ptr s tag c=>rw [ha] at this;intro cb n hx;rw [he] at hx;exact this cb n hx
  | tcp s tag=>rw [ha] at this;intro p hx;rw [he] at hx;exact this p hx
  | eptr h0 tag j c=>rw [ha] at this;intro c' xs hx;rw [he] at hx;exact this c' xs hx
  | _=>rw [ha] at this;exact this
theorem Wf.congr {σ':St} (h:Wf C D σ) (he:∀k,σ'.get k=σ.get k):Wf C D σ' where
 tags k e tag hk ht:=by rw [he] at hk;exact h.tags k e tag hk ht
 dom k e h0 tag hk ht:=by rw [he] at hk;rw [he];exact h.dom k e h0 tag hk ht
 paths k e s b hk hm:=by
  rw [he] at hk;obtain ⟨q1,q,c,x,q2⟩:=h.paths k e s b hk hm;exact ⟨q1,q,c,x,by rw [he];exact q2⟩
theorem Rel.freezes (hG:Good P C.tab):∀(ws:List (Key×Ent)) (σ:St) (γ:Key→Option Nat),Rel C.tab fr tm w σ γ→Wf C D σ →
  (∀k e,(k,e)∈ws→∃c xs,e=top (.t c (.l xs))∧((∃tag,σ.get k=some ⟨[],.own c tag xs⟩)∨σ.get k=some e)) →
  ∃γ',Rel C.tab fr tm w (σ.puts ws) γ'∧Wf C D (σ.puts ws)∧(∀k,(∀e,(k,e) ∉ ws)→(σ.puts ws).get k=σ.get k∧γ' k=γ k)∧(∀k b,γ' k=some b→γ k=some b) ∧
   (∀k e,(k,e)∈ws→(σ.puts ws).get k=some e∧((∃c tag xs,σ.get k=some ⟨[],.own c tag xs⟩)→γ' k=none)):=by
 intro ws
 induction ws with
 | nil =>
  intro σ γ h g_ _;exact ⟨γ,h,g_,fun k _=>⟨rfl,rfl⟩,fun k b hb=>hb,fun k e hm=>by simp at hm⟩
 | cons x r ih =>
  intro σ γ h g_ l_;obtain ⟨k0,e0⟩:=x;obtain ⟨c,xs,rfl,cL⟩:=l_ k0 e0 (by simp);have first:∃γ1,Rel C.tab fr tm w (σ.put k0 (top (.t c (.l xs)))) γ1∧Wf C D (σ.put k0 (top (.t c (.l xs))))∧(∀k,k≠k0→γ1 k=γ k)∧(∀k b,γ1 k=some b→γ k=some b) ∧
    ((∃c tag xs,σ.get k0=some ⟨[],.own c tag xs⟩)→γ1 k0=none):=by
   rcases cL with ⟨tag,O_⟩ | q_
   ·obtain ⟨q1,q2⟩:=Rel.freeze hG h g_ O_
    refine ⟨_,q1,q2,fun k hk=>qa _ _ hk,fun k b hb=>?_,fun _=>qg _ _ _⟩;unfold rN at hb;split at hb
    ·cases hb
    ·exact hb
   ·exact ⟨γ,h.congr (GO q_),g_.congr (GO q_),fun _ _=>rfl,fun _ _ hb=>hb,fun ⟨_,_,_,hh⟩=>by rw [q_] at hh;cases hh⟩
  obtain ⟨γ1,h1,kn,gd,c9,mh⟩:=first;obtain ⟨γ2,h2,kq,k1,k2,k3⟩:=ih (σ.put k0 (top (.t c (.l xs)))) γ1 h1 kn (by
   intro k e hm;obtain ⟨c',xs',rfl,hc⟩:=l_ k e (by simp [hm]);refine ⟨c',xs',rfl,?_⟩
   by_cases hk:k=k0
   ·subst hk
    rw [pB]
    rcases hc with ⟨tag',hc⟩ | hc<;>rcases cL with ⟨tag,cL⟩ | cL<;>rw [cL] at hc<;>simp [top] at hc ⊢
    ·exact ⟨hc.1,hc.2.2⟩
    ·exact hc
   ·rw [pD hk]
    exact hc)
  refine ⟨γ2,h2,kq,fun k hk=>?_,fun k b hb=>c9 k b (k2 k b hb),fun k e hm=>?_⟩
  ·have t_:k≠k0:=fun q=>hk (top (.t c (.l xs))) (by rw [q];simp)
   obtain ⟨q1,q2⟩:=k1 k (fun e hm=>hk e (by simp [hm]));exact ⟨by rw [show σ.puts ((k0,top (.t c (.l xs)))::r)=(σ.put k0 (top (.t c (.l xs)))).puts r from rfl,q1,pD t_],by rw [q2,gd k t_]⟩
  ·by_cases bi:∃e',(k,e')∈r
   ·obtain ⟨e',bi⟩:=bi
    obtain ⟨q1,q2⟩:=k3 k e' bi;have cD:e=e' := by
     obtain ⟨c1,x1,rfl,bz⟩:=l_ k e hm;obtain ⟨c2,x2,rfl,bT⟩:=l_ k e' (by simp [bi])
     rcases bz with ⟨t1,bz⟩ | bz<;>rcases bT with ⟨t2,bT⟩ | bT<;>rw [bz] at bT<;>simp [top] at bT ⊢
     ·exact ⟨bT.1,bT.2.2⟩
     ·exact bT
    subst cD;refine ⟨q1,fun hh=>?_⟩
    by_cases hk:k=k0
    ·subst hk
     cases hb:γ2 k with
     | none=>rfl
     | some b=>have:=k2 k b hb;rw [mh hh] at this;cases this
    ·exact q2 (by rw [pD hk];exact hh)
   ·have hk:k=k0∧e=top (.t c (.l xs)):=by
     rcases WW.1 hm with q | q
     ·simpa using q
     ·exact absurd ⟨e,q⟩ bi
    obtain ⟨rfl,rfl⟩:=hk;obtain ⟨q1,q2⟩:=k1 k (fun e' aO=>bi ⟨e',aO⟩);refine ⟨by rw [show σ.puts ((k,top (.t c (.l xs)))::r)=(σ.put k (top (.t c (.l xs)))).puts r from rfl,q1,pB],fun hh=>by rw [q2,mh hh]⟩
end
section
variable {P:Program} {C:Ctx} {fr:Fr} {tm:Array Value} {w:World} {σ:St} {γ:Key→Option Nat} {D:Nat→Prop}
 (hG:Good P C.tab) (h:Rel C.tab fr tm w σ γ) (g_:Wf C D σ) (f_:tm.size=C.nt) {i:Nat} {o:Oper} {p:Path} (hp:σ.Holds p)
 (p_:∀s b,(s,b)∈p→qY C s=false∧∃q c x,σ.get (pp s)=some ⟨q,.t c x⟩) {K:St→Prop} {Q:Exit→Act→World→Prop}
theorem Wf.mono {D':Nat→Prop} (h:Wf C D σ) (hD:∀j,D j→D' j):Wf C D' σ :=
 ⟨fun k e tag he hh=>(h.tags k e tag he hh).imp id fun ⟨j,hj,e⟩=>⟨j,hD j hj,e⟩,h.dom,h.paths⟩
theorem uZ:Old (fun j=>D j∨j=i) (i+1):=.inr ⟨i,.inr rfl,rfl⟩
theorem Old.mono {D':Nat→Prop} {tag:Nat} (h:Old D tag) (hD:∀j,D j→D' j):Old D' tag:=h.imp id fun ⟨j,hj,e⟩=>⟨j,hD j hj,e⟩
def Bnd (tm:Array Value) (dflt:Int) (l:Int):Option Operand→Prop
 | none=>l=dflt
 | some x=>∃k,ev tm x=.int k l
theorem Ih (hG:Good P C.tab) (h:Rel C.tab fr tm w σ γ) (g_:Wf C D σ) (f_:tm.size=C.nt) {i:Nat} {o:Oper} {d:Nat} {p:Path} {a:AV} {v:Value} {Q:Exit→Act→World→Prop}
  {K:St→Prop} (hn:d<C.nt) (az:o.dst=some d) (d_:σ.get (pp d)=none) (hp:σ.Holds p) (p_:∀s b,(s,b)∈p→qY C s=false∧∃q c x,σ.get (pp s)=some ⟨q,.t c x⟩)
  (n_:(execOp (Act.eval ⟨tm,[]⟩) o).run P w=.ok (.value v) w)
  (R_:∀h tag,a.home=some (h,tag)→σ.get h≠none) (aM:∀tag,a.re=some tag→Old (fun j=>D j∨j=i) tag)
  (m_:AVR C.tab w (Ob fr γ) σ (pJ tm w γ) (rN γ (pp d) none) (pp d) v a) (hK:K (σ.puts [(pp d,⟨p,a⟩)])) :
  o.wp P ⟨tm,[]⟩ w (After C fr (fun j=>D j∨j=i) K) Q:=by
 obtain ⟨h1,h2⟩:=Rel.xn (D:=fun j=>D j∨j=i) hG h (g_.mono fun _=>.inl) (by rw [f_];exact hn) d_ p_ R_ aM (fun _=>m_) (fun q=>absurd hp q);exact rU n_ az ⟨rfl,by simp [f_],_,_,hK,h1,h2⟩
theorem tC.sub {tab:Tab} {O:Nat→Prop} {c:TypeId} {v:Value} {xs:List T} (ho:tC tab w O c v xs):Sub tab c v v 0 xs.length xs.length:=by
 obtain ⟨ti,e,ce,te,a,cap,h1,h2,h3,hp,hv,B_,hm,aW,aj⟩:=ho;refine ⟨ti,e,ce,te,a,cap,a,cap,h1,h2,h3,hv,hv,by omega,B_,WU _,fun _=>⟨rfl,rfl⟩,id,fun r_=>?_⟩;obtain ⟨b,hb,-⟩:=aj 0 _ (WL r_);exact ⟨b,hb,by rw [hb];simp [Addr.add]⟩
theorem Sub.cut {tab:Tab} {c:TypeId} {hv:Value} {a0 a':Option Go.Addr} {off len n cap0 l len':Nat} (hs:Sub tab c hv (.slice a0 len cap0) off len n) {ti:TI} {e ce:TypeId} {te:TI}
  (hc:tab.at c=some (c,ti)) (hk:ti.k=.sl e) (he:tab.at e=some (ce,te)) (P_:l+len'≤len) (h1:a'=none↔a0=none) (h2:l=0→a'=a0)
  (h3:0<len'→∀b,a0=some b→a'=some (b.add (l*te.cells))):Sub tab c hv (.slice a' len' (cap0-l)) (off+l) len' n:=by
 obtain ⟨ti',e',ce',te',a1,cap1,a2,cap',k1,k2,k3,k4,k5,k6,k7,k8,k9,k10,k11⟩:=hs;have e1:=pu hc k1;simp only [WK,W5] at e1;subst e1;rw [hk] at k2;simp only [K.sl.injEq] at k2;subst k2;have e2:=pu he k3;simp only [WK] at e2;obtain ⟨rfl,rfl⟩:=e2;simp only [Value.slice.injEq,W5] at k5;obtain ⟨rfl,rfl⟩:=k5;refine ⟨ti,e,ce,te,a1,cap1,a',cap0-l,hc,hk,he,k4,rfl,by omega,by omega,by omega,fun q=>?_,fun q=>k10 (h1.1 q),fun q=>?_⟩
 ·obtain ⟨q1,q2⟩:=k9 (by omega)
  have hl:l=0:=by omega
  exact ⟨(h2 hl).trans q1,by omega⟩
 ·obtain ⟨b,bk,bV⟩:=k11 (by omega)
  refine ⟨b,bk,?_⟩;rw [h3 q _ bV,Ab,Xe]
include hG h g_ f_ hp p_
omit g_ f_ p_ in
theorem u5 (x:Option Operand) (dflt:Int) {f:Int→R} {motive:qO→Prop} (c_:motive .bad)
  (l_:∀l,Bnd tm dflt l x→motive ((f l).run σ)):motive ((zh C p x dflt f).run σ):=by
 cases x with
 | none=>exact l_ dflt rfl
 | some x =>
  simp only [zh];refine ru hG h p hp x 3 c_ fun c v hv=>?_
  split
  ·rename_i k hk
   exact l_ v.int ⟨k,(hv.int hk).1⟩
  ·exact c_
omit hG h g_ f_ hp p_ in
theorem Dn {x:Option Operand} {dflt l:Int} (h:Bnd tm dflt l x) :
  match x.map (Act.eval ⟨tm,[]⟩) with | none=>l=dflt | some v=>∃k,v=.int k l:=by
 cases x with
 | none=>exact h
 | some x=>exact h
omit hG h g_ f_ hp p_ in
theorem xO {x:Operand} (hz:vM (some x)=true):∃k,ev tm x=.int k 0:=by
 cases x with
 | const v =>
  cases v with
  | int k n =>
   cases n with
   | ofNat m =>
    simp only [vM] at hz
    have:=WO hz
    subst this;exact ⟨k,rfl⟩
   | negSucc m=>simp [vM] at hz
  | _=>simp [vM] at hz
 | _=>simp [vM] at hz
omit hG h g_ f_ hp p_ in
theorem DP {x:Option Operand} {l:Int} (hz:vM x=true) (h:Bnd tm 0 l x):l=0:=by
 cases x with
 | none=>exact h
 | some x =>
  obtain ⟨k,hk⟩:=xO (tm:=tm) hz;obtain ⟨k',e_⟩:=h;rw [hk] at e_;simp only [Value.int.injEq] at e_;exact e_.2.symm
theorem El {xt:TypeId} {x:Operand} {lo hi mx:Option Operand} (ho:o.op=.slice xt x lo hi mx):Sound P C fr tm w σ D i o p K Q ((uU C i p o xt x lo hi mx).run σ):=by
 unfold uU;split
 ·exact pq
 ·rename_i e aj
  have hu:=hG.slice aj;refine pI _ _ pq fun d hd hn hv d_=>?_
  refine qB hG h p hp x xt pq fun ko a hx=>?_
  have n_:∀v,(Instr.sliceAt xt (ev tm x) (lo.map (Act.eval ⟨tm,[]⟩)) (hi.map (Act.eval ⟨tm,[]⟩)) (mx.map (Act.eval ⟨tm,[]⟩))).run P w=.ok v w→(execOp (Act.eval ⟨tm,[]⟩) o).run P w=.ok (.value v) w:=by
   intro v hv;unfold ev at hv;simp only [execOp,ho];rw [Sem.run_bind,hv];rfl
  have elem:∀{c:TypeId} {e':TypeId},C.el c=some e'→Nat.beq e e'=true→∀{ti:TI},C.tab.at c=some (c,ti)→ti.k=.sl e:=by
   intro c e' aO cD ti hc
   have:=WO cD
   subst this;obtain ⟨c',ti',r1,r2⟩:=DA aO
   have:=pu hc r1
   simp only [WK] at this;rw [this.2];exact r2
  cases mx with
  | some m =>
   simp only;split
   ·rename_i cC cT fM nh
    obtain ⟨k1,ek1⟩:=xO (tm:=tm) fM;obtain ⟨k2,ek2⟩:=xO (tm:=tm) nh
    have tree:∀(c:TypeId) (v:T),V C.tab w (Ob fr γ) c (ev tm x) v→Sound P C fr tm w σ D i o [] K Q ((match C.el c with
      | some e'=>match Nat.beq e e' with
       | true=>okR [(pp d,top (.own c (i+1) []))]
       | false=>pP
      | none=>pP).run σ):=by
     intro c v hV;split
     ·rename_i e' aO
      split
      ·rename_i cD
       obtain ⟨ti,hc,aD⟩:=Ur hV aO;have bH:=elem aO cD hc;rw [aD] at bH;simp only [Go.Pl.K.sl.injEq] at bH;subst bH;obtain ⟨-,hS,-⟩:=yo hG hc aD hV;obtain ⟨ti',e2,ce2,te2,a2,cap,q1,q2,q3,q4,q5,q6,q7,q8,q9⟩:=hS
       have:=pu hc q1
       simp only [WK,W5] at this;subst this;rw [aD] at q2;simp only [Go.Pl.K.sl.injEq] at q2;subst q2;obtain ⟨inf,eh,dY,-⟩:=hG.size q3;intro hW
       have fh:match lo.map (Act.eval ⟨tm,[]⟩) with | none=>True | some v=>∃k,v=.int k 0:=by
        cases lo with
        | none=>trivial
        | some l=>exact xO (tm:=tm) cT
       have hr:=Ip (w:=w) hu eh a2 v.list.length cap (lo.map (Act.eval ⟨tm,[]⟩)) k1 k2 fh;unfold ev at ek1 ek2;refine Ih (a:=.own c (i+1) []) hG h g_ f_ hn hd d_ (p:=[]) trivial (fun _ _ hm=>by simp at hm) (v:=.slice a2 0 0) (n_ _ ?_) (fun _ _ hh=>by cases hh) ?_ ?_ hW
       ·rw [q5]
        simp only [XH,ek1,ek2];exact hr
       ·intro tag hh
        simp only [AV.re,WJ] at hh;subst hh;exact uZ
       ·refine ⟨ti,_,ce2,te2,hc,aD,q3,q4,.inl ⟨qg _ _ _,rfl,a2,rfl⟩⟩
      ·exact pq
     ·exact pq
    cases hx with
    | const c y _ hV=>exact tree c y hV
    | nil=>exact pq
    | tmp s e' hx he y_ j_ =>
     cases h_:e'.av with
     | t c y =>
      rw [h_] at j_;exact tree c y j_
     | _=>exact pq
   ·exact pq
  | none =>
   simp only;have cut:∀{c:TypeId} {ti:TI} {ce:TypeId} {te:TI} (a:Option Go.Addr) (len cap:Nat),C.tab.at c=some (c,ti)→C.tab.at e=some (ce,te)→ev tm x=.slice a len cap→len≤cap →
     ∀l hh:Int,Bnd tm 0 l lo→Bnd tm (len:Int) hh hi →
     0≤l→l≤hh→hh≤len→∃a',(execOp (Act.eval ⟨tm,[]⟩) o).run P w=.ok (.value (.slice a' (hh-l).toNat (cap-l.toNat))) w∧(a'=none↔a=none)∧(l.toNat=0→a'=a) ∧
      (0<(hh-l).toNat→∀b,a=some b→a'=some (b.add (l.toNat*te.cells))):=by
    intro c ti ce te a len cap hc fk aQ B_ l hh fh fI h0 h1 h2;obtain ⟨inf,eh,dY,-⟩:=hG.size fk;obtain ⟨a',r1,r2,r3,r4⟩:=Io (w:=w) hu eh a len cap _ _ l hh (Dn fh) (Dn fI) h0 h1 h2 B_;refine ⟨a',n_ _ (by rw [aQ];exact r1),r2,fun q=>r3 (by omega),?_⟩;rw [←dY];exact r4
   have tree:∀(c:TypeId) (v:T),V C.tab w (Ob fr γ) c (ev tm x) v→Sound P C fr tm w σ D i o p K Q ((match C.el c with
     | some e'=>match Nat.beq e e' with
      | true=>zh C p lo 0 fun l=>zh C p hi (lenOf v.list) fun h =>
       IF (0≤l∧l≤h∧h≤lenOf v.list) [(pp d,⟨p,.t c (.l ((v.list.drop l.toNat).take (h-l).toNat))⟩)]
      | false=>pP
     | none=>pP).run σ):=by
    intro c v hV;split
    ·rename_i e' aO
     split
     ·rename_i cD
      obtain ⟨ti,hc,aD⟩:=Ur hV aO;have bH:=elem aO cD hc;obtain ⟨-,hS,hO⟩:=yo hG hc bH hV;obtain ⟨ti',e2,ce2,te2,a2,cap,q1,q2,q3,q4,q5,q6,q7,q8,q9⟩:=id hS
      have:=pu hc q1
      simp only [WK,W5] at this;subst this;rw [bH] at q2;simp only [Go.Pl.K.sl.injEq] at q2;subst q2;refine u5 hG h hp lo 0 pq fun l hl=>?_
      refine u5 hG h hp hi _ pq fun hh jL=>?_
      intro hW;obtain ⟨⟨b0,b1,b2⟩,hK⟩:(0≤l∧l≤hh∧hh≤lenOf v.list)∧K (σ.puts [(pp d,⟨p,.t c (.l ((v.list.drop l.toNat).take (hh-l).toNat))⟩)]):=⟨wV hW.1 hp,hW.2⟩;unfold lenOf at jL b2;obtain ⟨a',r1,r2,r3,r4⟩:=cut a2 v.list.length cap hc q3 q5 q6 l hh hl jL b0 b1 b2;have y_:=(tC.sub hS);have K_:=y_;rw [q5] at K_;have fp:=Sub.cut (l:=l.toNat) (len' := (hh-l).toNat) K_ hc bH q3 (by omega) r2 r3 r4;rw [←q5,WV] at fp;have ni:=Sub.uU hS fp;refine tU hG h g_ f_ hp p_ hn hd d_ r1 (ni.V hG (fun _ q=>q) ?_) hK;intro a3 n3 cap3 mi r_;simp only [Value.slice.injEq] at mi;obtain ⟨rfl,rfl,-⟩:=mi
      cases a2 with
      | none=>simp at r2
      | some b =>
       have i_:0<(hh-l).toNat:=by
        simp only [Xg,Xi] at r_;omega
       have:=r4 i_ b rfl
       simp only [WJ] at this;rw [this,tD];exact hO b _ _ q5 (by omega)
     ·exact pq
    ·exact pq
   cases hx with
   | const c y _ hV=>exact tree c y hV
   | nil=>exact pq
   | tmp s e' hx he y_ j_ =>
    cases h_:e'.av with
    | t c y =>
     rw [h_] at j_;exact tree c y j_
    | alias h0 tag c off len =>
     rw [h_] at j_;simp only;split
     ·rename_i e2 bX
      split
      ·rename_i cD
       refine qn h0 tag pq fun c' xs hh=>?_
       obtain ⟨rfl,mj,v_,m_,O_,K_⟩:=rg h j_ hh;refine u5 hG h hp lo 0 pq fun l hl=>?_
       refine u5 hG h hp hi _ pq fun hb jL=>?_
       intro hW
       obtain ⟨⟨b0,b1,b2⟩,hK⟩:(0≤l∧l≤hb∧hb≤(len:Int))∧K (σ.puts [(pp d,⟨p,.alias h0 tag c' (match vM lo with | true=>off | false=>off+l.toNat) (hb-l).toNat⟩)]):=⟨wV hW.1 hp,hW.2⟩;obtain ⟨ti,e3,ce,te,a1,cap1,a2,cap2,q1,q2,q3,q4,q5,q6,q7,q8,q9,q10,q11⟩:=id K_;have bH:=elem bX cD q1;rw [q2] at bH;simp only [Go.Pl.K.sl.injEq] at bH;subst bH;obtain ⟨a',r1,r2,r3,r4⟩:=cut a2 len cap2 q1 q3 q5 q7 l hb hl jL b0 b1 b2;rw [q5] at K_;have fp:=Sub.cut (l:=l.toNat) (len' := (hb-l).toNat) K_ q1 q2 q3 (by omega) r2 r3 r4
       have aZ:(match vM lo with | true=>off | false=>off+l.toNat)=off+l.toNat:=by
        split
        ·rename_i hz
         rw [DP hz hl];rfl
        ·rfl
       rw [aZ] at hK;refine sP (a:=.alias h0 tag c' (off+l.toNat) (hb-l).toNat) hG h g_ f_ hp p_ hn hd d_ he r1 ?_ (by simp [h_,AV.home]) (by simp [h_,AV.re]) (by simp) (by simp) hK;intro c2 xs2 bV;rw [hh] at bV;simp only [WJ,Ent.mk.injEq,AV.own.injEq,W5] at bV;obtain ⟨rfl,rfl⟩:=bV;exact ⟨rfl,v_,m_,fp⟩
      ·exact pq
     ·exact pq
    | _=>exact pq
end
section
variable {P:Program} {C:Ctx} {fr:Fr} {tm:Array Value} {w:World} {σ:St} {γ:Key→Option Nat} {D:Nat→Prop}
def Frz (σ:St) (ws:List (Key×Ent)):Prop:=∀k e,(k,e)∈ws→∃c xs tag,e=top (.t c (.l xs))∧σ.get k=some ⟨[],.own c tag xs⟩
theorem Frz.nil:Frz σ []:=fun k e hm=>by simp at hm
theorem Frz.append {a b:List (Key×Ent)} (ha:Frz σ a) (hb:Frz σ b):Frz σ (a++b):=fun k e hm=>(W2.1 hm).elim (ha k e) (hb k e)
theorem Frz.one {k:Key} {c:TypeId} {tag:Nat} {xs:List T} (h:σ.get k=some ⟨[],.own c tag xs⟩):Frz σ [(k,top (.t c (.l xs)))]:=by
 intro k' e hm;simp only [Xn,WK] at hm;obtain ⟨rfl,rfl⟩:=hm;exact ⟨c,xs,tag,rfl,h⟩
def Free (γ:Key→Option Nat) (ws:List (Key×Ent)) (O':Nat→Prop):Prop:=∀k e b,(k,e)∈ws→γ k=some b→¬ O' b
theorem Free.left {a b:List (Key×Ent)} {O':Nat→Prop} (h:Free γ (a++b) O'):Free γ a O' := fun k e b hm=>h k e b (W2.2 (.inl hm))
theorem Free.right {a b:List (Key×Ent)} {O':Nat→Prop} (h:Free γ (a++b) O'):Free γ b O' := fun k e b hm=>h k e b (W2.2 (.inr hm))
theorem Rel.frz (hG:Good P C.tab) (h:Rel C.tab fr tm w σ γ) (g_:Wf C D σ) {ws:List (Key×Ent)} (hf:Frz σ ws) :
  ∃γ',Rel C.tab fr tm w (σ.puts ws) γ'∧Wf C D (σ.puts ws)∧(∀k,(∀c tag xs,σ.get k≠some ⟨[],.own c tag xs⟩)→(σ.puts ws).get k=σ.get k) ∧
   (∀k,(∀e,(k,e) ∉ ws)→(σ.puts ws).get k=σ.get k∧γ' k=γ k)∧(∀b,Ob fr γ' b→Ob fr γ b)∧Free γ ws (Ob fr γ')∧(∀k b,γ' k=some b→γ k=some b) ∧
   ∀k e,(k,e)∈ws→(σ.puts ws).get k=some e:=by
 obtain ⟨γ',h1,h2,h3,h4,h5⟩:=Rel.freezes hG ws σ γ h g_ fun k e hm=>by
  obtain ⟨c,xs,tag,he,hk⟩:=hf k e hm;exact ⟨c,xs,he,.inl ⟨tag,hk⟩⟩
 refine ⟨γ',h1,h2,fun k hk=>(h3 k fun e hm=>?_).1,h3,fun b hb=>?_,fun k e b hm hb hO=>?_,h4,fun k e hm=>(h5 k e hm).1⟩
 ·obtain ⟨c,xs,tag,-,hg⟩:=hf k e hm
  exact hk c tag xs hg
 ·rcases hb with hb | ⟨k,hb⟩
  ·exact .inl hb
  ·exact .inr ⟨k,h4 k b hb⟩
 ·obtain ⟨c,xs,tag,he,hk⟩:=hf k e hm
  have aW:=(h5 k e hm).2 ⟨c,tag,xs,hk⟩
  rcases hO with hO | ⟨k',hO⟩
  ·exact (h.blk k b hb).2.1 hO
  ·have:=h.inj k' k b (h4 k' b hO) hb
   subst this;rw [aW] at hO;cases hO
def zr (tab:Tab) (w:World) (O:Nat→Prop) (γ:Key→Option Nat) (ws:List (Key×Ent)) (c:TypeId) (v:Value) (y:T):Prop :=
 ∀O':Nat→Prop,(∀b,O' b→O b)→Free γ ws O'→V tab w O' c v y
theorem v7 (hG:Good P C.tab) {O:Nat→Prop} {c e:TypeId} {ti:TI} {v:Value} (hv:v=.slice none 0 0) (hc:C.tab.at c=some (c,ti)) (hk:ti.k=.sl e) {g:Option Nat} (hg:g=none) :
  Own C.tab w O c v g []:=by
 obtain ⟨ce,te,he,hp,-,-⟩:=hG.elem hc hk;exact ⟨ti,e,ce,te,hc,hk,he,hp,.inl ⟨hg,rfl,none,hv⟩⟩
theorem wn (hG:Good P C.tab) (h:Rel C.tab fr tm w σ γ) (p:Path) (hp:σ.Holds p) (x:Operand) (ty:TypeId) {k:TypeId→T→List (Key×Ent)→R} {motive:qO→Prop}
  (c_:motive .bad) (l_:∀c y ws,Frz σ ws→zr C.tab w (Ob fr γ) γ ws c (ev tm x) y→motive ((k c y ws).run σ)):motive ((asT C p x ty k).run σ):=by
 unfold asT;refine qB hG h p hp x ty c_ fun ko a ho=>?_
 have plain:∀{c:TypeId} {y:T},V C.tab w (Ob fr γ) c (ev tm x) y→zr C.tab w (Ob fr γ) γ [] c (ev tm x) y :=
  fun hv O' hO _=>hv.mono fun b _ hb=>⟨rfl,fun q=>hb (hO b q)⟩
 cases ho with
 | const c y _ hv=>exact l_ c y [] Frz.nil (plain hv)
 | nil c e ti _ hx ht hc hk =>
  exact l_ c (.l []) [] Frz.nil (fun O' hO _=>(v7 hG (O:=Ob fr γ) (g:=none) hx hc hk rfl).freeze hG hO fun b hb=>by cases hb)
 | tmp s e hx he y_ j_ =>
  cases h_:e.av with
  | t c y =>
   rw [h_] at j_;exact l_ c y [] Frz.nil (plain j_)
  | own c tag xs =>
   rw [h_] at j_;simp only;split
   ·rename_i key hk
    simp only [WJ,WK] at hk;obtain ⟨rfl,w_⟩:=hk;have H_:σ.get (pp s)=some ⟨[],.own c tag xs⟩:=by rw [he,←w_,←h_]
    exact l_ c (.l xs) _ (Frz.one H_) (fun O' hO hF=>Own.freeze hG j_ hO fun b hb=>hF _ _ b (Xn.2 rfl) hb)
   ·exact c_
   ·rename_i hk;cases hk
  | alias h0 tag c off len =>
   rw [h_] at j_;refine qn h0 tag c_ fun c' xs hh=>?_
   obtain ⟨rfl,hS,v_,m_,O_,K_⟩:=rg h j_ hh;refine l_ c' _ _ (Frz.one hh) (fun O' hO hF=>hS.V hG hO ?_);intro a n cap hv r_;have i_:0<len:=by
    simp only [Xg,Xi] at r_;omega
   obtain ⟨ti,e1,ce,te,b,cap1,cap2,q1,q2,q3,q4,q5,q6,q7,q8⟩:=Sub.pos O_ K_ i_;rw [q6] at hv;simp only [Value.slice.injEq,WJ] at hv;rw [←hv.1];exact hF _ _ b (Xn.2 rfl) q4
  | _=>exact c_
inductive LJ (C:Ctx) (fr:Fr) (tm:Array Value) (w:World) (σ:St) (γ:Key→Option Nat) (v:Value):Spot→Prop where
 | box (s c n:Nat) (cb:TypeId) (tag b:Nat) (hs:σ.get (pp s)=some ⟨[],.box cb tag n⟩) (hb:γ (pp s)=some b) (hv:v=.pointer (some ⟨b,c,none⟩)):LJ C fr tm w σ γ v (.box s c n)
 | row (h0:Key) (c:TypeId) (xs:List T) (tag i off b cap:Nat) (ti:TI) (e ce:TypeId) (te:TI) (hs:σ.get h0=some ⟨[],.own c tag xs⟩) (hi:i<xs.length)
   (m_:pJ tm w γ h0=some (.slice (some ⟨b,0,none⟩) xs.length cap)) (hc:C.tab.at c=some (c,ti)) (hk:ti.k=.sl e) (he:C.tab.at e=some (ce,te))
   (hb:γ h0=some b) (hv:v=.pointer (some ⟨b,i*te.cells+off,none⟩)):LJ C fr tm w σ γ v (.row h0 c xs tag i off)
 | tree (c:TypeId) (x:T) (off:Nat) (a:Go.Addr) (hv:v=.pointer (some (a.add off))) (ha:At C.tab w (Ob fr γ) c a x):LJ C fr tm w σ γ v (.tree c x off)
theorem wI (hG:Good P C.tab) (h:Rel C.tab fr tm w σ γ) (p:Path) (hp:σ.Holds p) (x:Operand) {f:Spot→R} {motive:qO→Prop}
  (c_:motive .bad) (l_:∀sp,LJ C fr tm w σ γ (ev tm x) sp→motive ((f sp).run σ)):motive ((place C p x f).run σ):=by
 unfold place;refine qB hG h p hp x 0 c_ fun ko a ho=>?_
 cases ho with
 | const c y _ hv=>exact c_
 | nil c e ti _ hx ht hc hk=>exact c_
 | tmp s e hx he y_ j_ =>
  cases h_:e.av with
  | ptr s' tag c =>
   rw [h_] at j_;refine ue c c_ fun b_=>?_
   refine s9 s' tag c_ fun cb n hb=>?_
   obtain ⟨b,h1,h2⟩:=j_ cb n hb;rw [A3 b_] at h2;exact l_ _ (.box s' c n cb tag b hb h1 h2)
  | box c tag n =>
   rw [h_] at j_;simp only;split
   ·rename_i k hk
    simp only [WJ,WK] at hk;obtain ⟨rfl,w_⟩:=hk;have H_:σ.get (pp s)=some ⟨[],.box c tag n⟩:=by rw [he,←w_,←h_]
    obtain ⟨b,cs,ety,hb,ah,-⟩:=j_;exact l_ _ (.box s 0 n c tag b H_ hb ah)
   ·exact c_
  | eptr h0 tag i c =>
   rw [h_] at j_;refine qn h0 tag c_ fun c' xs hh=>?_
   obtain ⟨hi,b,cap,ti,e1,ce,te,h1,h2,h3,h4,h5⟩:=j_ c' xs hh;obtain ⟨v0,v_,hr,-⟩:=h.ent h0 _ hh;rw [h1] at v_;simp only [WJ] at v_;subst v_;have ho:Own C.tab w (Ob fr γ) c' _ (γ h0) xs:=hr trivial;obtain ⟨_,_,_,_,_,_,_,_,ho⟩:=ho
   rcases ho with ⟨-,rfl,-⟩ | ⟨b',cap',cs,hg,ag,-⟩
   ·simp at hi
   ·simp only [Value.slice.injEq,WJ,Addr.mk.injEq,W5,ZP] at ag
    refine l_ _ (.row h0 c' xs tag i c b cap ti e1 ce te hh hi h1 h2 h3 h4 ?_ h5);rw [hg,ag.1]
  | pl c y off =>
   rw [h_] at j_;obtain ⟨a,h1,h2⟩:=j_;exact l_ _ (.tree c y off a h1 h2)
  | _=>exact c_
theorem E7 (s:Nat):∀(n c:Nat) (tys:List TypeId) {k:List T→List (Key×Ent)→R} {motive:qO→Prop} (_:motive .bad)
  (_:∀l ws,l.length=n→tys.length=n→Frz σ ws→(∀(j:Nat) y ty,l[j]?=some y→tys[j]?=some ty →
   σ.get (cell s (c+j))=some (top (.t ty y))∨((cell s (c+j),top (.t ty y))∈ws))→(∀k e,(k,e)∈ws→∃j,k=cell s j)→motive ((k l ws).run σ)),motive ((gather s c n tys k).run σ):=by
 intro n
 induction n with
 | zero =>
  intro c tys k motive c_ l_
  cases tys with
  | nil=>exact l_ [] [] rfl rfl Frz.nil (fun j y ty hy=>by simp at hy) (fun k e hm=>by simp at hm)
  | cons t r=>exact c_
 | succ n ih =>
  intro c tys k motive c_ l_
  cases tys with
  | nil=>exact c_
  | cons ty tys =>
   simp only [gather,Rd.run];split
   ·rename_i c' x he
    split
    ·rename_i hc
     have:=WO hc
     subst this;refine ih (c+1) tys c_ fun l ws h1 h2 h3 h4 h5=>l_ (x::l) ws (by simp [h1]) (by simp [h2]) h3 (fun j y ty hy ht=>?_) h5
     cases j with
     | zero =>
      simp at hy ht;subst hy;subst ht;exact .inl he
     | succ j =>
      simp at hy ht
      have:=h4 j y ty hy ht
      rw [show c+(j+1)=c+1+j by omega];exact this
    ·exact c_
   ·rename_i c' tag xs he
    split
    ·rename_i hc
     have:=WO hc
     subst this;refine ih (c+1) tys c_ fun l ws h1 h2 h3 h4 h5=>l_ (.l xs::l) _ (by simp [h1]) (by simp [h2]) (fun k e hm=>?_) (fun j y ty hy ht=>?_) (fun k e hm=>?_)
     ·rcases WW.1 hm with hm | hm
      ·exact Frz.one he k e (by simpa using hm)
      ·exact h3 k e hm
     ·cases j with
      | zero =>
       simp at hy ht;subst hy;subst ht;exact .inr (by simp)
      | succ j =>
       simp at hy ht;rw [show c+(j+1)=c+1+j by omega];exact (h4 j y ty hy ht).imp id fun q=>by simp [q]
     ·rcases WW.1 hm with hm | hm
      ·simp only [WK] at hm
       exact ⟨c,hm.1⟩
      ·exact h5 k e hm
    ·exact c_
   ·exact c_
end
section
variable {P:Program} {C:Ctx} {fr:Fr} {tm:Array Value} {w:World} {σ:St} {γ:Key→Option Nat} {D:Nat→Prop}
 (hG:Good P C.tab) (h:Rel C.tab fr tm w σ γ) (g_:Wf C D σ) (f_:tm.size=C.nt) {i:Nat} {o:Oper} {p:Path} (hp:σ.Holds p)
 (p_:∀s b,(s,b)∈p→qY C s=false∧∃q c x,σ.get (pp s)=some ⟨q,.t c x⟩) {K:St→Prop} {Q:Exit→Act→World→Prop}
theorem Gn {σ':St} (hk:∀k,(∀c tag xs,σ.get k≠some ⟨[],.own c tag xs⟩)→σ'.get k=σ.get k) (hp:σ.Holds p)
  (p_:∀s b,(s,b)∈p→qY C s=false∧∃q c x,σ.get (pp s)=some ⟨q,.t c x⟩) :
  σ'.Holds p∧∀s b,(s,b)∈p→qY C s=false∧∃q c x,σ'.get (pp s)=some ⟨q,.t c x⟩:=by
 have hs:∀s b,(s,b)∈p→σ'.get (pp s)=σ.get (pp s):=fun s b hm=>hk _ fun c tag xs hh=>by
  obtain ⟨-,q,c',x,h2⟩:=p_ s b hm;rw [h2] at hh;cases hh
 refine ⟨(sW p hs).2 hp,fun s b hm=>?_⟩;obtain ⟨h1,q,c,x,h2⟩:=p_ s b hm;exact ⟨h1,q,c,x,by rw [hs s b hm];exact h2⟩
theorem AZ {c0:TypeId} {x:T} {off:Nat} {ty:TypeId} {k:TypeId→T→R} {motive:qO→Prop} (c_:motive .bad)
  (l_:∀r t0 ct ti,C.tab.at c0=some (r,t0)→C.tab.at ty=some (ct,ti)→((t0.lv c0).drop off).take ti.cells=ti.lv ct →
   motive ((k ct (match ti.isS with | true=>x.part off ti.cells | false=>x.cell off)).run σ)):motive ((GL C c0 x off ty k).run σ):=by
 unfold GL;split
 ·rename_i r t0 h0
  split
  ·rename_i ct ti h1
   split
   ·rename_i hs
    have:=l_ r t0 ct ti h0 h1 (vF hs)
    cases hS:ti.isS with
    | true=>rw [hS] at this;exact this
    | false=>rw [hS] at this;exact this
   ·exact c_
  ·exact c_
 ·exact c_
theorem D4 (hG:Good P C.tab) {O:Nat→Prop} {c0 ct ty:TypeId} {t0 ti:TI} {x:T} {off:Nat} (h0:C.tab.at c0=some (c0,t0)) (hc:C.tab.at ty=some (ct,ti))
  (i_:x.leaves.length=t0.cells) (hs:((t0.lv c0).drop off).take ti.cells=ti.lv ct) (a:Go.Addr)
  (dX:∀(j:Nat) y ty,x.leaves[j]?=some y→(t0.lv c0)[j]?=some ty→∃u,w.cell? (a.add j)=some u∧L C.tab w O ty u y) :
  ∃v,(Instr.loadAt ty (.pointer (some (a.add off)))).run P w=.ok v w∧V C.tab w O ct v (match ti.isS with | true=>x.part off ti.cells | false=>x.cell off):=by
 have fi:=(hG c0 c0 t0 h0).len;have k_:=(hG _ _ _ hc).self;have kr:∀(j:Nat) y ty,x.leaves[j]?=some y→(t0.lv c0)[j]?=some ty→L C.tab w O ty ((w.cell? (a.add j)).getD undef) y:=by
  intro j y ty hy ht;obtain ⟨u,hu,hl⟩:=dX j y ty hy ht;rw [hu];exact hl
 obtain ⟨P_,hA,hB⟩:=TJ hG h0 k_ i_ hs (fun j=>(w.cell? (a.add j)).getD undef) kr;have G_:∀j,j<ti.cells→w.cell? ((a.add off).add j)=some ((w.cell? (a.add (off+j))).getD undef):=by
  intro j hj;have h1:off+j<x.leaves.length:=by omega
  have h2:off+j<(t0.lv c0).length:=by omega
  obtain ⟨u,hu,-⟩:=dX (off+j) _ _ (WL h1) (WL h2);rw [Ab,hu];rfl
 refine ⟨_,ui hG hc (a.add off) _ G_,?_⟩
 cases hS:ti.isS with
 | true=>exact hA hS
 | false=>exact hB hS
theorem GG {O:Nat→Prop} {c:TypeId} {hv:Value} {g:Option Nat} {xs:List T} {b j:Nat} {ti:TI} {e ce:TypeId} {te:TI} (ho:Own C.tab w O c hv g xs) (hg:g=some b) (hj:j<xs.length)
  (hc:C.tab.at c=some (c,ti)) (hk:ti.k=.sl e) (he:C.tab.at e=some (ce,te)) :
  (xs.getD j .u).isG=te.isS∧(xs.getD j .u).leaves.length=te.cells∧∀(n:Nat) y ty,(xs.getD j .u).leaves[n]?=some y→(te.lv ce)[n]?=some ty →
   ∃u,w.cell? ((⟨b,j*te.cells,none⟩:Go.Addr).add n)=some u∧L C.tab w O ty u y:=by
 obtain ⟨ti',e',ce',te',h1,h2,h3,hp,ho⟩:=ho;have e1:=pu hc h1;simp only [WK,W5] at e1;subst e1;rw [hk] at h2;simp only [Go.Pl.K.sl.injEq] at h2;subst h2;have e2:=pu he h3;simp only [WK] at e2;obtain ⟨rfl,rfl⟩:=e2
 rcases ho with ⟨-,rfl,-⟩ | ⟨b',cap,cs,ak,ag,hh,B_,hm,f_,aj⟩
 ·simp at hj
 ·rw [hg] at ak
  simp only [WJ] at ak;subst ak;obtain ⟨k1,k2,k3⟩:=aj j _ (CC hj);refine ⟨k1,k2,fun n y ty hy ht=>?_⟩;obtain ⟨u,hu,hl⟩:=k3 n y ty hy ht;exact ⟨u,by rw [rB,pM hh];exact hu,hl⟩
include hG h g_ f_ hp p_
theorem Fk {ty:TypeId} {a:Operand} (ho:o.op=.load ty a):Sound P C fr tm w σ D i o p K Q ((QG C p o ty a).run σ):=by
 unfold QG;refine pI _ _ pq fun d hd hn hv d_=>?_
 refine wI hG h p hp a pq fun sp dP=>?_
 have n_:∀v,(Instr.loadAt ty (ev tm a)).run P w=.ok v w→(execOp (Act.eval ⟨tm,[]⟩) o).run P w=.ok (.value v) w:=by
  intro v hv;unfold ev at hv;simp only [execOp,ho];rw [Sem.run_bind,hv];rfl
 cases dP with
 | box s c n cb tag b hs hb aQ =>
  simp only;split
  ·rename_i ct ti ap
   have k_:=(hG _ _ _ ap).self;have i_:=(hG _ _ _ k_).len;split
   ·rename_i hS
    have ai:ti.lv ct=ti.leaves:=by
     unfold TI.lv;unfold TI.isS at hS;split
     ·rfl
     ·rename_i aA
      split at hS
      ·rename_i hk;exact absurd hk (aA _)
      ·cases hS
    refine E7 s _ _ _ pq fun l ws h1 h2 hf L_ iJ=>?_
    intro hW;obtain ⟨γ',r1,r2,r3,r4,r5,r6,r7,r8⟩:=Rel.frz hG h g_ hf;obtain ⟨eT,gf⟩:=Gn r3 hp p_;have gg:γ' (pp s)=some b:=by
     rw [(r4 (pp s) fun e hm=>?_).2,hb];obtain ⟨j,hj⟩:=iJ _ _ hm;exact px hj
    have G_:∀(j:Nat) y t,l[j]?=some y→ti.leaves[j]?=some t→∃u,w.cell? ((⟨b,c,none⟩:Go.Addr).add j)=some u∧L C.tab w (Ob fr γ') t u y:=by
     intro j y t hy ht;have hg:(σ.puts ws).get (cell s (c+j))=some (top (.t t y)):=by
      rcases L_ j y t hy ht with q | q
      ·rw [r3 _ fun c' tag' xs' q'=>by rw [q] at q';cases q'];exact q
      ·exact r8 _ _ q
     obtain ⟨v,ag,hr,-⟩:=r1.ent _ _ hg;have nj:V C.tab w (Ob fr γ') t v y:=hr trivial;obtain ⟨t1,bZ,aX⟩:=(hG _ _ _ k_).leaf t (by rw [ai];exact XR ht);refine ⟨v,?_,(sG bZ aX nj).1⟩;simp only [pJ,cell,gg,Xl] at ag;rw [rB];exact ag
    have fq:=ui (w:=w) hG ap ⟨b,c,none⟩ (fun j=>(w.cell? ((⟨b,c,none⟩:Go.Addr).add j)).getD undef) (fun j hj=>by
     obtain ⟨u,hu,-⟩:=G_ j (l[j]'(by omega)) (ti.leaves[j]'(by omega)) (by simp) (by simp);rw [hu];rfl)
    rw [hS] at fq;have nk:V C.tab w (Ob fr γ') ct (.agg ((List.range ti.cells).map fun j=>(w.cell? ((⟨b,c,none⟩:Go.Addr).add j)).getD undef).toArray) (.g l):=by
     refine ⟨ti,k_,by rw [hS];rfl,by rw [hS];rfl,by simp [Value.cells],by simp [T.leaves,h1],fun j y t hy ht=>?_⟩;rw [ai] at ht;obtain ⟨u,hu,hL⟩:=G_ j y t hy ht;have hj:j<ti.cells:=by rw [←h2];exact (WQ.1 ht).1
     exact ⟨u,by simp [Value.cells,hj,hu],hL⟩
    refine tU hG r1 r2 f_ eT gf hn hd (by rw [r3 _ fun c' tag' xs' q'=>by rw [d_] at q';cases q'];exact d_) (n_ _ (by rw [aQ];exact fq)) nk ?_;rw [←pV];exact hW
   ·rename_i hS
    have scal:∀v,w.cell? ⟨b,c,none⟩=some v→(Instr.loadAt ty (ev tm a)).run P w=.ok v w:=by
     intro v ag;have h1:=qz hG k_ hS
     have:=ui (w:=w) hG ap ⟨b,c,none⟩ (fun _=>v) (fun j hj=>by
      have:j=0:=by omega
      subst this;rw [rB];exact ag)
     rw [hS] at this;rw [aQ];exact this
    simp only [Rd.run];split
    ·rename_i c' x he
     split
     ·rename_i hc
      have:=WO hc
      subst this;intro hW;obtain ⟨v,ag,hr,-⟩:=h.ent _ _ he;simp only [pJ,cell,hb,Xl] at ag;exact tU hG h g_ f_ hp p_ hn hd d_ (n_ _ (scal v ag)) (hr trivial) hW
     ·exact pq
    ·rename_i c' tag' xs he
     split
     ·rename_i hc
      have:=WO hc
      subst this;intro hW;obtain ⟨v,ag,hr,-⟩:=h.ent _ _ he;have af:=ag;simp only [pJ,cell,hb,Xl] at ag;refine rJ (a:=.alias (cell s c) tag' c' 0 xs.length) hG h g_ f_ hn hd d_ hp p_ (n_ _ (scal v ag)) ?_ ?_ ?_ hW
      ·intro h0 t6 hh
       simp only [AV.home,WJ,WK] at hh;obtain ⟨rfl,rfl⟩:=hh;rw [he];simp
      ·intro t6 hh
       exact g_.tags _ _ t6 he (by exact hh)
      ·exact wm (k' := pp d) h he af
     ·exact pq
    ·exact pq
  ·exact pq
 | row h0 c xs tag j off b cap ti e ce te hs hi m_ hc hk he hb aQ =>
  simp only;split
  ·rename_i e' aj
   have cD:e'=e:=by
    obtain ⟨c',ti',r1,r2⟩:=DA aj
    have:=pu hc r1
    simp only [WK] at this;rw [←this.2,hk] at r2;simp only [Go.Pl.K.sl.injEq] at r2;exact r2.symm
   subst cD;split
   ·rename_i ce' te' aO
    have:=pu he aO
    simp only [WK] at this;obtain ⟨rfl,rfl⟩:=this;refine AZ pq fun r t0 ct t1 q0 q1 q2=>?_
    have bA:=(hG _ _ _ he).self
    have:=pu bA q0
    simp only [WK] at this;obtain ⟨rfl,rfl⟩:=this;intro hW;obtain ⟨v0,v_,hr,-⟩:=h.ent h0 _ hs;obtain ⟨k1,k2,k3⟩:=GG (hr trivial) hb hi hc hk he;obtain ⟨v,aq,af⟩:=D4 hG (O:=Ob fr γ) bA q1 k2 q2 _ k3;rw [rB,←aQ] at aq;exact tU hG h g_ f_ hp p_ hn hd d_ (n_ _ aq) af hW
   ·exact pq
  ·exact pq
 | tree c x off a' aQ ar =>
  simp only;obtain ⟨t0',k0,k1,k2,k3,k4⟩:=ar;refine AZ pq fun r t0 ct t1 q0 q1 q2=>?_
  have:=pu k0 q0
  simp only [WK] at this;obtain ⟨rfl,rfl⟩:=this;intro hW;obtain ⟨v,aq,af⟩:=D4 hG (O:=Ob fr γ) k0 q1 k2 q2 a' k4;rw [←aQ] at aq;exact tU hG h g_ f_ hp p_ hn hd d_ (n_ _ aq) af hW
end
section
variable {P:Program} {C:Ctx} {fr:Fr} {tm tm':Array Value} {w w':World} {σ:St} {γ γ':Key→Option Nat} {D:Nat→Prop}
theorem rp {k:Key} (h0:k.tag≠1→tm'[k.a]?=tm[k.a]?) (h1:k.tag=1→γ' (pp k.a)=γ (pp k.a)∧∀b,γ (pp k.a)=some b→w'.cell? ⟨b,k.b,none⟩=w.cell? ⟨b,k.b,none⟩) :
  pJ tm' w' γ' k=pJ tm w γ k:=by
 obtain ⟨t,a,b⟩:=k;unfold pJ
 match t with
 | 0=>simp only at h0 ⊢;rw [h0 (by simp)]
 | 1 =>
  obtain ⟨q1,q2⟩:=h1 rfl;simp only at q1 q2 ⊢;rw [q1]
  cases hb:γ (pp a) with
  | none=>rfl
  | some b'=>simp only [Xl];exact q2 b' hb
 | 2=>simp only at h0 ⊢;rw [h0 (by simp)]
 | n+3=>rfl
def tR (σ:St) (k:Key):Prop:=∃c tag xs,σ.get k=some ⟨[],.own c tag xs⟩
theorem rC (h:Rel C.tab fr tm w σ γ) {k:Key} {e:Ent} (hk:σ.get k=some e) (ht:k.tag=1):k=cell k.a k.b∧∃c tag m,σ.get (pp k.a)=some ⟨[],.box c tag m⟩:=by
 obtain ⟨t,a,b⟩:=k;simp only at ht;subst ht;exact ⟨rfl,h.cel a b e hk⟩
theorem uq (h:Rel C.tab fr tm w σ γ) {k:Key} {e:Ent} (hk:σ.get k=some e) (ht:k.tag=2):k=comp k.a k.b∧∃q m,σ.get (pp k.a)=some ⟨q,.tup m⟩:=by
 obtain ⟨t,a,b⟩:=k;simp only at ht;subst ht;exact ⟨rfl,h.cmp a b e hk⟩
theorem Rel.give (hG:Good P C.tab) (h:Rel C.tab fr tm w σ γ) (g_:Wf C D σ) {i:Nat} (hi:¬ D i) (Bx:Key→Prop) {kt ks:Key} {av:AV} {v:Value} {g:Option Nat}
  (cK:w'.os=w.os) (Y_:w'.tape=w.tape) (Q_:w'.output=w.output) (Z_:w'.heap.size=w.heap.size)
  (F_:∀b,(∀k,Bx k→γ k≠some b)→w'.heap[b]?=w.heap[b]?)
  (aa:∀k,Bx k→k≠kt∧k≠ks∧∃c tag n,σ.get k=some ⟨[],.box c tag n⟩∧∀b cs ety,γ k=some b→w.heap[b]?=some (.cells cs ety (0,0))→∃cs',w'.heap[b]?=some (.cells cs' ety (0,0))∧cs'.size=cs.size)
  (j_:(∃c y,av=.t c y∧g=none∧V C.tab w (Ob fr γ) c v y)∨(∃c xs,av=.own c (i+1) xs∧Own C.tab w (Ob fr γ) c v g xs))
  (hg:g=none∨(tR σ ks∧g=γ ks)) (ax:ks=kt∨tR σ ks)
  (dy:∀s e,kt=pp s→σ.get kt=some e→(∀c tag n,e.av≠.box c tag n)∧(∀n,e.av≠.tup n))
  (hU:∀s,kt=pp s→qY C s=true∨σ.get (pp s)=none)
  (aD:kt.tag=0∧kt.b=0∨(kt.tag=1∧∃c tag m,σ.get (pp kt.a)=some ⟨[],.box c tag m⟩))
  (ku:pJ tm' w' (rN (rN γ ks none) kt g) kt=some v)
  (m_:∀k e,k≠kt→σ.get k=some e→pJ tm' w' (rN (rN γ ks none) kt g) k=pJ tm w γ k) :
  Rel C.tab fr tm' w' ((σ.put ks (top .u)).put kt (top av)) (rN (rN γ ks none) kt g)∧Wf C (fun j=>D j∨j=i) ((σ.put ks (top .u)).put kt (top av)):=by
 have o_:∀k,k≠kt→k≠ks→((σ.put ks (top .u)).put kt (top av)).get k=σ.get k:=fun k h1 h2=>by rw [pD h1,pD h2]
 have iK:((σ.put ks (top .u)).put kt (top av)).get kt=some (top av):=pB;have iL:ks≠kt→((σ.put ks (top .u)).put kt (top av)).get ks=some (top .u):=fun q=>by rw [pD q,pB]
 have x_:∀k e,((σ.put ks (top .u)).put kt (top av)).get k=some e→k=kt∧e=top av∨k≠kt∧k=ks∧e=top .u∨k≠kt∧k≠ks∧σ.get k=some e:=by
  intro k e he
  by_cases h1:k=kt
  ·subst h1;rw [iK] at he;exact .inl ⟨rfl,(W3 he).symm⟩
  ·by_cases h2:k=ks
   ·subst h2;rw [iL h1] at he;exact .inr (.inl ⟨h1,rfl,(W3 he).symm⟩)
   ·rw [o_ k h1 h2] at he;exact .inr (.inr ⟨h1,h2,he⟩)
 have ks_ne:∀{k:Key} {e:Ent},σ.get k=some e→(∀c tag xs,e≠⟨[],.own c tag xs⟩)→k≠kt→k≠ks:=by
  rintro k e he t_ h1 rfl
  rcases ax with rfl | ⟨c,tag,xs,hh⟩
  ·exact h1 rfl
  ·rw [he] at hh;exact t_ c tag xs (W3 hh)
 have hbox_ne:∀{s:Nat} {c:TypeId} {tag m:Nat},σ.get (pp s)=some ⟨[],.box c tag m⟩→pp s≠kt∧pp s≠ks:=by
  intro s c tag m hs;have h1:pp s≠kt:=by
   intro q;exact (dy s _ q.symm (by rw [←q];exact hs)).1 c tag m rfl
  exact ⟨h1,ks_ne hs (by simp) h1⟩
 have htup_ne:∀{s:Nat} {q:Path} {m:Nat},σ.get (pp s)=some ⟨q,.tup m⟩→pp s≠kt∧pp s≠ks:=by
  intro s q m hs;have h1:pp s≠kt:=by
   intro q;exact (dy s _ q.symm (by rw [←q];exact hs)).2 m rfl
  exact ⟨h1,ks_ne hs (by simp) h1⟩
 have aE:¬ Old D (i+1):=by
  rintro (q | ⟨j,hj,q⟩)
  ·cases q
  ·have:i=j:=by omega
   subst this;exact hi hj
 have ks_ex:σ.get ks≠none∨ks=kt:=by
  rcases ax with q | ⟨c,tag,xs,hh⟩
  ·exact .inr q
  ·exact .inl (by rw [hh];simp)
 refine Rel.upd hG h g_ (fun k=>k=kt∨k=ks) Bx cK Y_ Q_ (by omega) ?_ ?_ ?_ ?_ ?_ ?_ ?_ ?_ ?_ ?_ ?_ ?_ ?_ ?_ ?_ ?_ ?_
 ·exact fun b _ hb=>F_ b fun k hk=>hb k (.inr hk)
 ·intro k _ hk
  exact (aa k hk).2.2
 ·intro k hk
  rw [qa _ _ fun q=>hk (.inl q),qa _ _ fun q=>hk (.inr q)]
 ·intro k b hk hb
  have:g=some b:=by
   by_cases h1:k=kt
   ·subst h1;rw [qg] at hb;exact hb
   ·rcases hk with hk | hk
    ·exact absurd hk h1
    ·subst hk
     rw [qa _ _ h1,qg] at hb;cases hb
  rcases hg with hg | ⟨-,hg⟩
  ·rw [hg] at this;cases this
  ·exact .inl ⟨ks,.inr rfl,by rw [←hg];exact this⟩
 ·intro k k' b hk e_ hb s_
  have one:∀k,k=kt∨k=ks→rN (rN γ ks none) kt g k=some b→k=kt:=by
   intro k hk hb
   by_cases h1:k=kt
   ·exact h1
   ·rcases hk with hk | hk
    ·exact hk
    ·subst hk
     rw [qa _ _ h1,qg] at hb;cases hb
  rw [one k hk hb,one k' e_ s_]
 ·intro k hk
  exact o_ k (fun q=>hk (.inl q)) fun q=>hk (.inr q)
 ·intro k e hk he
  exact m_ k e (fun q=>hk (.inl q)) he
 ·intro s n e he
  have:∃c tag m,σ.get (pp s)=some ⟨[],.box c tag m⟩:=by
   rcases x_ _ e he with ⟨h1,-⟩ | ⟨-,h2,-⟩ | ⟨-,-,h3⟩
   ·rcases aD with ⟨q,-⟩ | ⟨-,q⟩
    ·rw [←h1] at q;simp [cell] at q
    ·rw [←h1] at q;exact q
   ·rcases ax with q | ⟨c,tag,xs,hh⟩
    ·rcases aD with ⟨q',-⟩ | ⟨-,q'⟩
     ·rw [←q,←h2] at q';simp [cell] at q'
     ·rw [←q,←h2] at q';exact q'
    ·rw [←h2] at hh;exact h.cel s n _ hh
   ·exact h.cel s n e h3
  obtain ⟨c,tag,m,hb⟩:=this;obtain ⟨q1,q2⟩:=hbox_ne hb;exact ⟨c,tag,m,by rw [o_ _ q1 q2];exact hb⟩
 ·intro s j e he
  have:∃q m,σ.get (pp s)=some ⟨q,.tup m⟩:=by
   rcases x_ _ e he with ⟨h1,-⟩ | ⟨-,h2,-⟩ | ⟨-,-,h3⟩
   ·rcases aD with ⟨q,-⟩ | ⟨q,-⟩<;>rw [←h1] at q<;>simp [comp] at q
   ·rcases ax with q | ⟨c,tag,xs,hh⟩
    ·rcases aD with ⟨q',-⟩ | ⟨q',-⟩<;>rw [←q,←h2] at q'<;>simp [comp] at q'
    ·rw [←h2] at hh;exact h.cmp s j _ hh
   ·exact h.cmp s j e h3
  obtain ⟨q,m,hb⟩:=this;obtain ⟨q1,q2⟩:=htup_ne hb;exact ⟨q,m,by rw [o_ _ q1 q2];exact hb⟩
 ·rintro s q c x hs hh hk
  have h1:pp s≠kt:=by
   intro e
   rcases hU s e.symm with q1 | q1
   ·rw [hs] at q1;cases q1
   ·rw [hh] at q1;cases q1
  rcases hk with hk | hk
  ·exact h1 hk
  ·exact ks_ne hh (by simp) h1 hk
 ·intro k hk _
  by_cases h1:k=kt
  ·rw [h1,iK];simp
  ·rcases hk with hk | hk
   ·exact absurd hk h1
   ·subst hk;rw [iL h1];simp
 ·intro k e tag hk he ht
  rcases x_ k e he with ⟨-,rfl⟩ | ⟨-,-,rfl⟩ | ⟨h1,h2,-⟩
  ·rcases j_ with ⟨c,y,rfl,-⟩ | ⟨c,xs,rfl,-⟩
   ·cases ht
   ·simp only [top,AV.re,WJ] at ht
    subst ht;exact uZ
  ·cases ht
  ·exact absurd hk (by rintro (q | q);exact h1 q;exact h2 q)
 ·exact fun tag ho=>ho.mono fun _=>.inl
 ·intro k tag hk _ ho
  refine uK (D:=D) (fun e t he ht q=>?_) ho
  rcases x_ k e he with ⟨-,rfl⟩ | ⟨-,-,rfl⟩ | ⟨h1,h2,-⟩
  ·rcases j_ with ⟨c,y,rfl,-⟩ | ⟨c,xs,rfl,-⟩
   ·cases ht
   ·simp only [top,AV.re,WJ] at ht
    subst ht;exact aE q
  ·cases ht
  ·exact absurd hk (by rintro (q | q);exact h1 q;exact h2 q)
 ·intro k e h0 tag hk he hh
  rcases x_ k e he with ⟨-,rfl⟩ | ⟨-,-,rfl⟩ | ⟨h1,h2,-⟩
  ·rcases j_ with ⟨c,y,rfl,-⟩ | ⟨c,xs,rfl,-⟩<;>cases hh
  ·cases hh
  ·exact absurd hk (by rintro (q | q);exact h1 q;exact h2 q)
 ·intro k e s b hk he hm
  rcases x_ k e he with ⟨-,rfl⟩ | ⟨-,-,rfl⟩ | ⟨h1,h2,-⟩
  ·simp [top] at hm
  ·simp [top] at hm
  ·exact absurd hk (by rintro (q | q);exact h1 q;exact h2 q)
 ·intro A_ k e hk he
  rcases x_ k e he with ⟨rfl,rfl⟩ | ⟨h1,rfl,rfl⟩ | ⟨h1,h2,-⟩
  ·refine ⟨v,ku,fun _=>?_,fun q=>absurd trivial q⟩
   rcases j_ with ⟨c,y,rfl,-,hV⟩ | ⟨c,xs,rfl,hO⟩
   ·exact V.mono A_ hV
   ·show Own C.tab w' _ c v (rN (rN γ ks none) k g k) xs
    rw [qg];refine hO.mono A_ fun b hb=>F_ b fun k' e_ s_=>?_
    rcases hg with hg | ⟨-,hg⟩
    ·rw [hg] at hb;cases hb
    ·rw [hg] at hb
     exact (aa k' e_).2.1 (h.inj k' ks b s_ hb)
  ·rcases ax with q | ⟨c,tag,xs,hh⟩
   ·exact absurd q h1
   ·obtain ⟨v0,v_,-⟩:=h.ent k _ hh
    exact ⟨v0,by rw [m_ k _ h1 hh];exact v_,fun _=>trivial,fun q=>absurd trivial q⟩
  ·exact absurd hk (by rintro (q | q);exact h1 q;exact h2 q)
theorem Rel.Gq (hG:Good P C.tab) (h:Rel C.tab fr tm w σ γ) (g_:Wf C D σ) {i:Nat} (hi:¬ D i) {d:Nat} {ks:Key} {av:AV} {v:Value} {g:Option Nat} (hd:d<tm.size)
  (j_:(∃c y,av=.t c y∧g=none∧V C.tab w (Ob fr γ) c v y)∨(∃c xs,av=.own c (i+1) xs∧Own C.tab w (Ob fr γ) c v g xs))
  (hg:g=none∨(tR σ ks∧g=γ ks)) (ax:ks=pp d∨tR σ ks)
  (dy:∀e,σ.get (pp d)=some e→(∀c tag n,e.av≠.box c tag n)∧(∀n,e.av≠.tup n)) (hU:qY C d=true∨σ.get (pp d)=none) :
  Rel C.tab fr (tm.setIfInBounds d v) w ((σ.put ks (top .u)).put (pp d) (top av)) (rN (rN γ ks none) (pp d) g)∧Wf C (fun j=>D j∨j=i) ((σ.put ks (top .u)).put (pp d) (top av)):=by
 refine Rel.give hG h g_ hi (fun _=>False) rfl rfl rfl rfl (fun _ _=>rfl) (fun _ q=>q.elim) j_ hg ax (fun _ e _ he=>dy e he) (fun s hs=>?_) (.inl ⟨rfl,rfl⟩) ?_ ?_
 ·rw [pZ.1 hs] at hU;exact hU
 ·rw [pz];simp [hd]
 ·intro k e t_ he
  have ksne:∀{c:TypeId} {tag m:Nat} {s:Nat},σ.get (pp s)=some ⟨[],.box c tag m⟩→pp s≠pp d∧pp s≠ks:=by
   intro c tag m s hs;have h1:pp s≠pp d:=by
    intro q;rw [q] at hs;exact (dy _ hs).1 c tag m rfl
   refine ⟨h1,fun q=>?_⟩
   rcases ax with q' | ⟨c',t',xs,hh⟩
   ·exact h1 (q.trans q')
   ·rw [←q,hs] at hh;cases hh
  refine rp (fun ht=>?_) (fun ht=>?_)
  ·have:d≠k.a:=by
    intro q
    by_cases h0:k.tag=0
    ·exact t_ (by rw [sT h he h0,q])
    ·obtain ⟨v0,v_,-⟩:=h.ent k e he
     have h2:k.tag=2:=by
      obtain ⟨t,a,b⟩:=k;unfold pJ at v_
      match t with
      | 0=>exact absurd rfl h0
      | 1=>exact absurd rfl ht
      | 2=>rfl
      | n+3=>cases v_
     obtain ⟨-,q',m,hh⟩:=uq h he h2;rw [←q] at hh;exact (dy _ hh).2 m rfl
   simp [Xp,this]
  ·obtain ⟨hk,c,tag,m,hs⟩:=rC h he ht
   obtain ⟨q1,q2⟩:=ksne hs;exact ⟨by rw [qa _ _ q1,qa _ _ q2],fun _ _=>rfl⟩
end
section
variable {P:Program} {C:Ctx} {fr:Fr} {tm:Array Value} {w:World} {σ:St} {γ:Key→Option Nat} {D:Nat→Prop}
 (hG:Good P C.tab) (h:Rel C.tab fr tm w σ γ) (g_:Wf C D σ) (f_:tm.size=C.nt) {i:Nat} (hi:¬ D i) {o:Oper} {p:Path} (hp:σ.Holds p)
 (p_:∀s b,(s,b)∈p→qY C s=false∧∃q c x,σ.get (pp s)=some ⟨q,.t c x⟩) {K:St→Prop} {Q:Exit→Act→World→Prop}
theorem xV (hG:Good P C.tab) (h:Rel C.tab fr tm w σ γ) (g_:Wf C D σ) (f_:tm.size=C.nt) {i:Nat} (hi:¬ D i) {o:Oper} {K:St→Prop} {Q:Exit→Act→World→Prop}
  {d:Nat} {ks:Key} {c:TypeId} {xs:List T} {v:Value} {g:Option Nat} (hn:d<C.nt) (hd:o.dst=some d)
  (n_:(execOp (Act.eval ⟨tm,[]⟩) o).run P w=.ok (.value v) w) (ho:Own C.tab w (Ob fr γ) c v g xs) (hg:g=none∨(tR σ ks∧g=γ ks)) (ax:ks=pp d∨tR σ ks)
  (dy:∀e,σ.get (pp d)=some e→(∀c tag n,e.av≠.box c tag n)∧(∀n,e.av≠.tup n)) (hU:qY C d=true∨σ.get (pp d)=none)
  {σ':St} (he:∀k,σ'.get k=((σ.put ks (top .u)).put (pp d) (top (.own c (i+1) xs))).get k) (hK:K σ') :
  o.wp P ⟨tm,[]⟩ w (After C fr (fun j=>D j∨j=i) K) Q:=by
 obtain ⟨h1,h2⟩:=Rel.Gq hG h g_ hi (by rw [f_];exact hn) (.inr ⟨c,xs,rfl,ho⟩) hg ax dy hU;exact rU n_ hd ⟨rfl,by simp [f_],_,_,hK,h1.congr he,h2.congr he⟩
theorem ug (σ:St) (k:Key) (a b:Ent) (n:Key):(σ.put k b).get n=((σ.put k a).put k b).get n:=by
 simp only [St.yJ];split<;>rfl
theorem uB {d:Nat} (d_:σ.get (pp d)=none):∀e,σ.get (pp d)=some e→(∀c tag n,e.av≠.box c tag n)∧(∀n,e.av≠.tup n):=by
 intro e he;rw [d_] at he;cases he
include hG h g_ f_ hi hp p_
theorem AL {x:Operand} (ho:o.op=.move x∨o.op=.assign x):Sound P C fr tm w σ D i o p K Q ((Ku C i p o x).run σ):=by
 unfold Ku;refine pI _ _ pq fun d hd hn hv d_=>?_
 refine qB hG h p hp x _ pq fun ko a hx=>?_
 have n_:(execOp (Act.eval ⟨tm,[]⟩) o).run P w=.ok (.value (ev tm x)) w:=by rcases ho with ho | ho<;>simp only [execOp,ho]<;>rfl
 cases hx with
 | const c y _ hV=>exact fun hW=>tU hG h g_ f_ hp p_ hn hd d_ n_ hV hW
 | nil c e ti _ hx ht hc hk =>
  cases p with
  | cons=>exact pq
  | nil =>
   intro hW;exact xV hG h g_ f_ hi hn hd n_ (v7 hG hx hc hk (g:=none) rfl) (.inl rfl) (.inl rfl) (uB d_) (.inr d_) (ug σ _ _ _) hW
 | tmp s e hx he y_ j_ =>
  cases h_:e.av with
  | t c y =>
   rw [h_] at j_;exact fun hW=>tU hG h g_ f_ hp p_ hn hd d_ n_ j_ hW
  | own c tag xs =>
   rw [h_] at j_;simp only;split
   ·rename_i k hk
    simp only [WJ,WK] at hk;obtain ⟨rfl,w_⟩:=hk;have H_:σ.get (pp s)=some ⟨[],.own c tag xs⟩:=by rw [he,←w_,←h_]
    split
    ·intro hW
     refine rJ (a:=.alias (pp s) tag c 0 xs.length) hG h g_ f_ hn hd d_ hp p_ n_ ?_ ?_ ?_ hW
     ·intro h0 t6 hh
      simp only [AV.home,WJ,WK] at hh;obtain ⟨rfl,rfl⟩:=hh;rw [he];simp
     ·intro t6 hh
      exact g_.tags _ _ t6 he (by rw [h_];exact hh)
     ·refine wm (k' := pp d) h H_ ?_
      rw [NU h he,hx]
    ·cases p with
     | cons=>exact pq
     | nil =>
      intro hW;exact xV hG h g_ f_ hi hn hd n_ j_ (.inr ⟨⟨c,tag,xs,H_⟩,rfl⟩) (.inr ⟨c,tag,xs,H_⟩) (uB d_) (.inr d_) (fun _=>rfl) hW
   ·exact pq
   ·rename_i hk;cases hk
  | box c tag n =>
   rw [h_] at j_;simp only;split
   ·rename_i k hk
    simp only [WJ,WK] at hk;obtain ⟨rfl,w_⟩:=hk;obtain ⟨b,cs,ety,hb,ah,-⟩:=j_;intro hW;have H_:σ.get (pp s)=some ⟨[],.box c tag n⟩:=by rw [he,←w_,←h_]
    have t_:pp s≠pp d:=fun e'=>by rw [←e',he] at d_;cases d_
    refine rJ (a:=.ptr s tag 0) hG h g_ f_ hn hd d_ hp p_ n_ ?_ ?_ ?_ hW
    ·intro h0 t6 hh
     simp only [AV.home,WJ,WK] at hh;obtain ⟨rfl,rfl⟩:=hh;rw [he];simp
    ·intro t6 hh
     exact g_.tags _ _ t6 he (by rw [h_];exact hh)
    ·exact zQ H_ hb 0 ah (qa _ _ t_)
   ·exact pq
  | alias h0 tag c off len =>
   rw [h_] at j_;exact fun hW=>sP hG h g_ f_ hp p_ hn hd d_ he n_ j_ (by simp [h_]) (by simp [h_]) (by simp) (by simp) hW
  | ptr s' tag c =>
   rw [h_] at j_;exact fun hW=>sP hG h g_ f_ hp p_ hn hd d_ he n_ j_ (by simp [h_]) (by simp [h_]) (by simp) (by simp) hW
  | eptr h0 tag j c =>
   rw [h_] at j_;exact fun hW=>sP hG h g_ f_ hp p_ hn hd d_ he n_ j_ (by simp [h_]) (by simp [h_]) (by simp) (by simp) hW
  | pl c y off =>
   rw [h_] at j_;exact fun hW=>sP hG h g_ f_ hp p_ hn hd d_ he n_ j_ (by simp [h_]) (by simp [h_]) (by simp) (by simp) hW
  | tup tag =>
   intro hW;refine rJ (a:=.tcp s tag) hG h g_ f_ hn hd d_ hp p_ n_ ?_ ?_ ?_ hW
   ·intro h0 t6 hh
    simp only [AV.home,WJ,WK] at hh;obtain ⟨rfl,rfl⟩:=hh;rw [he];simp
   ·intro t6 hh
    exact g_.tags _ _ t6 he (by rw [h_];exact hh)
   ·intro p' _
    obtain ⟨v0,h1,-⟩:=h.ent _ _ he;rw [h1];rw [pz] at h1
    have:ev tm (.tmp s)=v0:=by
     simp only [ev,Act.eval,XK,h1,XF]
    rw [hx,this]
  | _=>exact pq
theorem uJ {x:Operand} {ix s d:Nat} (ho:o.op=.extract x ix) (hd:o.dst=some d) (hn:d<C.nt) (d_:σ.get (pp d)=none) (hx:∀v,tm[s]?=some v→ev tm x=v) :
  Sound P C fr tm w σ D i o p K Q ((vf i p d s ix).run σ):=by
 unfold vf;split
 ·exact pq
 rename_i ml;simp only [Rd.run]
 cases aO:σ.get (comp s ix) with
 | none=>exact pq
 | some e' =>
  simp only;split
  ·rename_i K_
   obtain ⟨v,ag,hr,-⟩:=h.ent _ _ aO;have n_:(execOp (Act.eval ⟨tm,[]⟩) o).run P w=.ok (.value v) w:=by
    simp only [pJ,comp] at ag;split at ag
    ·rename_i vs bm
     rw [ml] at ag;simp only at ag;have aQ:=hx _ bm;unfold ev at aQ;simp only [execOp,ho,aQ,Instr.extract,ag];rfl
    ·rw [ml] at ag;cases ag
    ·cases ag
   have bB:=hr (Bn K_ hp);split
   ·rename_i c y j_
    rw [j_] at bB;exact fun hW=>tU hG h g_ f_ hp p_ hn hd d_ n_ bB hW
   ·rename_i c tag xs j_
    rw [j_] at bB
    cases p with
    | cons=>exact pq
    | nil =>
     cases w_:e'.path with
     | cons=>exact pq
     | nil =>
      intro hW;have H_:tR σ (comp s ix):=⟨c,tag,xs,by rw [aO,←w_,←j_]⟩;exact xV hG h g_ f_ hi hn hd n_ bB (.inr ⟨H_,rfl⟩) (.inr H_) (uB d_) (.inr d_) (fun _=>rfl) hW
   ·rename_i s' tag c j_
    rw [j_] at bB;intro hW;have iM:=g_.dom _ _ (pp s') tag aO (by rw [j_];rfl);refine rJ (a:=.ptr s' tag c) hG h g_ f_ hn hd d_ hp p_ n_ ?_ ?_ ?_ hW
    ·intro h0 t6 hh
     simp only [AV.home,WJ,WK] at hh;obtain ⟨rfl,rfl⟩:=hh;exact iM
    ·intro t6 hh
     exact g_.tags _ _ t6 aO (by rw [j_];exact hh)
    ·intro cb n hx
     obtain ⟨b,q1,q2⟩:=bB cb n hx;exact ⟨b,by rw [qa _ _ fun q=>iM (by rw [q];exact d_)];exact q1,q2⟩
   ·exact pq
  ·exact pq
theorem Bz {x:Operand} {ix:Nat} (ho:o.op=.extract x ix):Sound P C fr tm w σ D i o p K Q ((Cz C i p o x ix).run σ):=by
 unfold Cz;refine pI _ _ pq fun d hd hn hv d_=>?_
 cases x with
 | tmp s =>
  have k_:∀v,tm[s]?=some v→ev tm (.tmp s)=v:=by
   intro v hv;simp only [ev,Act.eval,XK,hv,XF]
  simp only [Rd.run]
  cases he:σ.get (pp s) with
  | none=>exact pq
  | some e =>
   simp only;split
   ·rename_i y_
    split
    ·exact uJ hG h g_ f_ hi hp p_ ho hd hn d_ k_
    ·rename_i s' tag j_
     simp only [Rd.run]
     cases bg:σ.get (pp s') with
     | none=>exact pq
     | some e2 =>
      simp only;split
      ·rename_i tag' iN
       split
       ·rename_i ht
        have ht:=WO ht;subst ht;refine uJ hG h g_ f_ hi hp p_ ho hd hn d_ fun v hv=>?_
        obtain ⟨v0,h1,h2,-⟩:=h.ent _ _ he;have h3:=h2 (Bn y_ hp);rw [j_] at h3;have h4:=h3 e2.path (by rw [bg,←iN]);rw [pz] at h1 h4;rw [hv] at h4;simp only [WJ] at h4;rw [h4];exact k_ v0 h1
       ·exact pq
      ·exact pq
    ·exact pq
   ·exact pq
 | _=>exact pq
omit hG h g_ f_ hi hp p_ in
theorem uF {ty c:TypeId} {r:R} {motive:qO→Prop} (c_:motive .bad) (l_:(∃ti,C.tab.at ty=some (c,ti))→motive (r.run σ)):motive ((Jm C ty c r).run σ):=by
 unfold Jm;split
 ·rename_i ct ti h1
  split
  ·rename_i hc
   have:=WO hc
   subst this;exact l_ ⟨ti,h1⟩
  ·exact c_
 ·exact c_
omit g_ f_ hi hp p_ in
theorem zj {kt:Key} {x:Operand} {ty:TypeId} {fin:List (Key×Ent)→R} {motive:qO→Prop} (c_:motive .bad)
  (hA:∀fz c y,(∃ti,C.tab.at ty=some (c,ti))→Frz σ fz→zr C.tab w (Ob fr γ) γ fz c (ev tm x) y→motive ((fin (fz++[(kt,top (.t c y))])).run σ))
  (hB:∀c xs,(∃ti,C.tab.at ty=some (c,ti))→Own C.tab w (Ob fr γ) c (ev tm x) none xs→motive ((fin [(kt,top (.own c (i+1) xs))]).run σ))
  (hC:∀ks c xs,(∃ti,C.tab.at ty=some (c,ti))→tR σ ks→Own C.tab w (Ob fr γ) c (ev tm x) (γ ks) xs→motive ((fin [(ks,top .u),(kt,top (.own c (i+1) xs))]).run σ)) :
  motive ((xj C i kt x ty fin).run σ):=by
 have dD:σ.Holds []:=trivial;unfold xj;refine qB hG h [] dD x ty c_ fun ko a hx=>?_
 have plain:∀{c:TypeId} {y:T},V C.tab w (Ob fr γ) c (ev tm x) y→zr C.tab w (Ob fr γ) γ [] c (ev tm x) y :=
  fun hv O' hO _=>hv.mono fun b _ hb=>⟨rfl,fun q=>hb (hO b q)⟩
 cases hx with
 | const c y _ hV=>exact uF c_ fun ap=>hA [] c y ap Frz.nil (plain hV)
 | nil c e ti _ hx ht hc hk =>
  have hO:=v7 (w:=w) hG (O:=Ob fr γ) hx hc hk (g:=none) rfl;refine uF c_ fun ap=>?_
  simp only;split
  ·exact hB c [] ap hO
  ·exact hA [] c (.l []) ap Frz.nil (fun O' jM _=>hO.freeze hG jM fun b hb=>by cases hb)
 | tmp s e hx he y_ j_ =>
  cases h_:e.av with
  | t c y =>
   rw [h_] at j_;exact uF c_ fun ap=>hA [] c y ap Frz.nil (plain j_)
  | own c tag xs =>
   rw [h_] at j_;refine uF c_ fun ap=>?_
   split
   ·split
    ·rename_i hk;cases hk
    ·rename_i ks hk
     simp only [WJ,WK] at hk;obtain ⟨rfl,w_⟩:=hk;have H_:tR σ (pp s):=⟨c,tag,xs,by rw [he,←w_,←h_]⟩;exact hC _ c xs ap H_ j_
    ·exact c_
   ·split
    ·rename_i hk;cases hk
    ·rename_i ks hk
     simp only [WJ,WK] at hk;obtain ⟨rfl,w_⟩:=hk;have H_:σ.get (pp s)=some ⟨[],.own c tag xs⟩:=by rw [he,←w_,←h_]
     exact hA [_] c _ ap (Frz.one H_) (fun O' hO hF=>Own.freeze hG j_ hO fun b hb=>hF _ _ b (Xn.2 rfl) hb)
    ·exact c_
  | alias h0 tag c off len =>
   rw [h_] at j_;refine uF c_ fun ap=>?_
   refine qn h0 tag c_ fun c' xs hh=>?_
   obtain ⟨rfl,hS,v_,m_,O_,K_⟩:=rg h j_ hh;split
   ·split
    ·rename_i aZ
     have:=WO aZ
     subst this;refine hC h0 c' _ ap ⟨c',tag,xs,hh⟩ ?_;obtain ⟨ti,e1,ce,te,a,cap,a',cap',q1,q2,q3,q4,q5,q6,q7,q8,q9,q10,q11⟩:=K_;obtain ⟨rfl,rfl⟩:=q9 rfl;obtain ⟨ti',e2,ce2,te2,r1,r2,r3,r4,r5⟩:=O_;refine ⟨ti',e2,ce2,te2,r1,r2,r3,r4,?_⟩;have i_:(xs.take len).length=len:=by simp;omega
     rcases r5 with ⟨s1,rfl,a2,s3⟩ | ⟨b,cap2,cs,s1,s2,s3,s4,s5,s6,s7⟩
     ·simp at q6
      subst q6;refine .inl ⟨s1,by simp,a',?_⟩;rw [q4] at s3;simp only [Value.slice.injEq] at s3;rw [q5,s3.2.2]
     ·rw [q4] at s2
      simp only [Value.slice.injEq,W5] at s2;obtain ⟨rfl,rfl⟩:=s2;refine .inr ⟨b,cap',cs,s1,by rw [q5,i_],s3,by omega,s5,s6,fun j x aV=>s7 j x ?_⟩;rw [Xy] at aV;split at aV
      ·exact aV
      ·cases aV
    ·exact c_
   ·refine hA [_] c' _ ap (Frz.one hh) (fun O' hO hF=>hS.V hG hO ?_)
    intro a n cap hv r_;have i_:0<len:=by
     simp only [Xg,Xi] at r_;omega
    obtain ⟨ti,e1,ce,te,b,cap1,cap2,q1,q2,q3,q4,q5,q6,q7,q8⟩:=Sub.pos O_ K_ i_;rw [q6] at hv;simp only [Value.slice.injEq,WJ] at hv;rw [←hv.1];exact hF _ _ b (Xn.2 rfl) q4
  | _=>exact c_
omit p_ hp in
theorem xB {x:Operand} (ho:o.op=.move x∨o.op=.assign x):Sound P C fr tm w σ D i o p K Q ((Co C i p o x).run σ):=by
 unfold Co
 have n_:(execOp (Act.eval ⟨tm,[]⟩) o).run P w=.ok (.value (ev tm x)) w:=by rcases ho with ho | ho<;>simp only [execOp,ho]<;>rfl
 cases p with
 | cons=>exact pq
 | nil =>
  simp only;split
  ·exact pq
  ·rename_i d hd
   split
   ·rename_i hn
    have hn:=Xd hn;split
    ·rename_i fj
     have main:(∀e,σ.get (pp d)=some e→(∀c tag n,e.av≠.box c tag n)∧(∀n,e.av≠.tup n)) →
       Sound P C fr tm w σ D i o [] K Q ((xj C i (pp d) x o.type fun ws=>okR ws).run σ):=by
      intro dy;refine zj hG h pq (fun fz c y _ hf hV=>?_) (fun c xs _ hO=>?_) (fun ks c xs _ ax hO=>?_)
      ·intro hW
       obtain ⟨γ',r1,r2,r3,r4,r5,r6,r7,r8⟩:=Rel.frz hG h g_ hf;have kv:∀e,(σ.puts fz).get (pp d)=some e→(∀c tag n,e.av≠.box c tag n)∧(∀n,e.av≠.tup n):=by
        intro e he
        by_cases bi:∃e',(pp d,e')∈fz
        ·obtain ⟨e',bi⟩:=bi
         rw [r8 _ _ bi] at he;obtain ⟨c',xs',tag',rfl,-⟩:=hf _ _ bi;simp only [WJ] at he;subst he;simp [top]
        ·rw [(r4 _ fun e' hm=>bi ⟨e',hm⟩).1] at he
         exact dy e he
       obtain ⟨h1,h2⟩:=Rel.Gq hG r1 r2 hi (ks:=pp d) (d:=d) (v:=ev tm x) (by rw [f_];exact hn) (.inl ⟨c,y,rfl,rfl,hV _ r5 r6⟩) (.inl rfl) (.inl rfl) kv (.inl fj);refine rU n_ hd ⟨rfl,by simp [f_],_,_,hW,h1.congr ?_,h2.congr ?_⟩
       ·intro k;rw [pV];exact ug _ _ _ _ _
       ·intro k;rw [pV];exact ug _ _ _ _ _
      ·intro hW
       exact xV hG h g_ f_ hi hn hd n_ hO (.inl rfl) (.inl rfl) dy (.inl fj) (ug σ _ _ _) hW
      ·intro hW
       exact xV hG h g_ f_ hi hn hd n_ hO (.inr ⟨ax,rfl⟩) (.inr ax) dy (.inl fj) (fun _=>rfl) hW
     simp only [Rd.run]
     cases he:σ.get (pp d) with
     | none =>
      simp only;refine qB hG h [] trivial x o.type pq fun ko a hx=>?_
      have hm:=AL (P:=P) (K:=K) (Q:=Q) (o:=o) (p:=[]) hG h g_ f_ hi trivial (fun s b hm=>by simp at hm) ho
      cases hx with
      | tmp s e hx bg y_ j_=>cases iN:e.av<;>first | exact hm | exact main (uB he) | (simp only;split;exact hm;exact main (uB he))
      | _=>exact main (uB he)
     | some e =>
      have dy:(∀c tag n,e.av≠.box c tag n)→(∀n,e.av≠.tup n)→(∀e',σ.get (pp d)=some e'→(∀c tag n,e'.av≠.box c tag n)∧(∀n,e'.av≠.tup n)):=by
       intro q1 q2 e' aO;rw [he] at aO;simp only [WJ] at aO;subst aO;exact ⟨q1,q2⟩
      simp only;split
      ·exact pq
      ·exact pq
      ·rename_i q1 q2
       exact main (dy q1 q2)
    ·exact pq
   ·exact pq
end
def splice (cs:Array Value) (o:Nat) (vs:List Value):Array Value:=(cs.toList.take o++vs++cs.toList.drop (o+vs.length)).toArray
theorem qQ {cs:Array Value} {o:Nat} {vs:List Value} (h:o+vs.length≤cs.size):(splice cs o vs).size=cs.size:=by
 have:=Ye (xs:=cs)
 simp [splice];omega
theorem qq {cs:Array Value} {o:Nat} {vs:List Value} (h:o+vs.length≤cs.size) (k:Nat) :
  (splice cs o vs)[k]?=if k<o then cs[k]? else if k<o+vs.length then vs[k-o]? else cs[k]? := by
 have hl:=Ye (xs:=cs);have e:(splice cs o vs)[k]?=(cs.toList.take o++vs++cs.toList.drop (o+vs.length))[k]? := by simp [splice]
 have ht:(cs.toList.take o).length=o:=by simp;omega
 rw [e];split
 ·rename_i h1
  rw [W7,Xr (by omega),Xy,WY h1,Xa]
 ·rename_i h1
  split
  ·rename_i h2
   rw [W7,Xf (by omega),ht,Xr (by omega)]
  ·rename_i h2
   rw [Xf (by simp;omega),YM,Xa]
   congr 1
   simp;omega
section
variable {P:Program} {C:Ctx} {fr:Fr} {tm:Array Value} {w:World} {σ:St} {γ:Key→Option Nat} {D:Nat→Prop}
 (hG:Good P C.tab) (h:Rel C.tab fr tm w σ γ) (g_:Wf C D σ) (f_:tm.size=C.nt) {i:Nat} (hi:¬ D i) {o:Oper} {p:Path} {K:St→Prop} {Q:Exit→Act→World→Prop}
theorem ut (hG:Good P C.tab) {t c:TypeId} {ti:TI} (hc:C.tab.at t=some (c,ti)) {v:Value} (hv:v.cells.size=ti.cells) (b7:∀u∈v.cells.toList,u.oneCell'=true) {b:Nat} {cs:Array Value} {e:TypeId}
  (hh:w.heap[b]?=some (.cells cs e (0,0))) {o:Nat} (D_:o+ti.cells≤cs.size) :
  (Instr.storeAt t (.pointer (some ⟨b,o,none⟩)) v).run P w=.ok () (w.setRow b (splice cs o v.cells.toList)):=by
 have i_:v.cells.toList.length=ti.cells:=by simp [hv]
 have z_:=run_storeCells_at P b o e v.cells.toList 0 cs w hh (by rw [XW,i_];exact D_) b7;have f_:=vE (w:=w) hG hc;simp only [Instr.storeAt,Instr.sureAddr,storeVar,Sem.run_bind,Sem.run_pure,Result.andThen_ok,f_,hv];simp only [ne_eq,not_true_eq_false,if_false,z_,XW];rfl
theorem IP {tab:Tab} {O:Nat→Prop} {c:TypeId} {v:Value} {x:T} (h:L tab w O c v x):v.oneCell'=true:=by cases h<;>rfl
theorem yn (hG:Good P C.tab) {O:Nat→Prop} {c:TypeId} {v:Value} {x:T} {ti:TI} (hc:C.tab.at c=some (c,ti)) (hV:V C.tab w O c v x) :
  x.isG=ti.isS∧v.cells.toList.length=ti.cells∧x.leaves.length=ti.cells∧(∀u∈v.cells.toList,u.oneCell'=true) ∧
   ∀(j:Nat) y ty,x.leaves[j]?=some y→(ti.lv c)[j]?=some ty→∃u,v.cells.toList[j]?=some u∧L C.tab w O ty u y:=by
 obtain ⟨ti',h1,h2,h3,h4,h5,h6⟩:=hV
 have:=pu hc h1
 simp only [WK,W5] at this;subst this;refine ⟨h2,by simp [h4],h5,fun u hu=>?_,fun j y ty hy ht=>?_⟩
 ·obtain ⟨j,hj,rfl⟩:=Ys hu
  have f7:j<ti.cells:=by rw [←h4];simpa using hj
  obtain ⟨u,hu,hl⟩:=h6 j _ _ (WL (by omega)) (WL (by rw [(hG _ _ _ hc).len];omega))
  have:v.cells.toList[j]=u:=by
   have h7:v.cells.toList[j]?=some u:=by rw [Xa];exact hu
   rw [WL hj] at h7;exact W3 h7
  rw [this];exact IP hl
 ·obtain ⟨u,hu,hl⟩:=h6 j y ty hy ht
  exact ⟨u,by rw [Xa];exact hu,hl⟩
theorem EL (s:Nat):∀(tys:List TypeId) (xs:List T) (c:Nat) (σ:St),tys.length=xs.length →
  (∀(j:Nat) y ty,xs[j]?=some y→tys[j]?=some ty→(σ.puts (cellsOf s c tys xs)).get (cell s (c+j))=some (top (.t ty y))) ∧
  (∀k,(∀j,j<xs.length→k≠cell s (c+j))→(σ.puts (cellsOf s c tys xs)).get k=σ.get k):=by
 intro tys
 induction tys with
 | nil =>
  intro xs c σ hl
  cases xs with
  | nil=>exact ⟨fun j y ty hy=>by simp at hy,fun k _=>rfl⟩
  | cons=>simp at hl
 | cons ty tys ih =>
  intro xs c σ hl
  cases xs with
  | nil=>simp at hl
  | cons x xs =>
   obtain ⟨q1,q2⟩:=ih xs (c+1) (σ.put (cell s c) (top (.t ty x))) (by simpa using hl);refine ⟨fun j y t hy ht=>?_,fun k hk=>?_⟩
   ·show ((σ.put (cell s c) (top (.t ty x))).puts (cellsOf s (c+1) tys xs)).get _=_
    cases j with
    | zero =>
     simp at hy ht;subst hy;subst ht;rw [q2 _ fun j _ hh=>by have:=(rS.1 hh).2;omega];exact pB
    | succ j =>
     simp at hy ht;rw [show c+(j+1)=c+1+j by omega];exact q1 j y t hy ht
   ·show ((σ.put (cell s c) (top (.t ty x))).puts (cellsOf s (c+1) tys xs)).get _=_
    rw [q2 k fun j hj hh=>hk (j+1) (by simpa using hj) (by rw [hh,show c+1+j=c+(j+1) by omega])];exact pD (by simpa using hk 0 (by simp))
theorem qo {x:T} {n:Nat} (h:x.leaves.length=n):rh x n=x.leaves:=by
 apply List.ext_getElem?;intro j;unfold rh
 by_cases hj:j<n
 ·rw [Xs,Yl hj,XH,F6 (by omega)]
 ·rw [Ym (by simp;omega),Ym (by omega)]
theorem Ai (h:Rel C.tab fr tm w σ γ) {s:Nat} {c:TypeId} {tag n b:Nat} (hs:σ.get (pp s)=some ⟨[],.box c tag n⟩) (hb:γ (pp s)=some b) :
  ∃cs ety,w.heap[b]?=some (.cells cs ety (0,0))∧cs.size=n:=by
 obtain ⟨v,hv,hr,-⟩:=h.ent _ _ hs;obtain ⟨b',cs,ety,h1,h2,h3,h4⟩:=hr trivial;rw [hb] at h1;simp only [WJ] at h1;subst h1;exact ⟨cs,ety,h3,h4⟩
open Classical in
noncomputable def qA (W:Key→Prop) (γ:Key→Option Nat):Key→Option Nat:=fun k=>if W k then none else γ k
theorem sH {W:Key→Prop} {k:Key} (h:W k):qA W γ k=none:=by simp [qA,h]
theorem rq {W:Key→Prop} {k:Key} (h:¬ W k):qA W γ k=γ k:=by simp [qA,h]
theorem Rel.cells (hG:Good P C.tab) (h:Rel C.tab fr tm w σ γ) (g_:Wf C D σ) {s:Nat} {cb:TypeId} {tag n b:Nat} (hs:σ.get (pp s)=some ⟨[],.box cb tag n⟩) (hb:γ (pp s)=some b)
  {cs:Array Value} {ety:TypeId} (hh:w.heap[b]?=some (.cells cs ety (0,0))) {c:Nat} {vals:List Value} {xs:List T} {tys:List TypeId} (h1:tys.length=xs.length) (h2:vals.length=xs.length)
  (D_:c+vals.length≤cs.size) (hV:∀(j:Nat) y ty,xs[j]?=some y→tys[j]?=some ty→∃u,vals[j]?=some u∧V C.tab w (Ob fr γ) ty u y) :
  ∃γ',Rel C.tab fr tm (w.setRow b (splice cs c vals)) (σ.puts (cellsOf s c tys xs)) γ'∧Wf C D (σ.puts (cellsOf s c tys xs)):=by
 obtain ⟨g1,g2⟩:=EL s tys xs c σ h1
 let W:Key→Prop:=fun k=>∃j,j<xs.length∧k=cell s (c+j)
 have q_:∀k,¬ W k→(σ.puts (cellsOf s c tys xs)).get k=σ.get k:=fun k hk=>g2 k fun j hj he=>hk ⟨j,hj,he⟩
 have hW:∀k e,W k→(σ.puts (cellsOf s c tys xs)).get k=some e→∃j y ty,k=cell s (c+j)∧xs[j]?=some y∧tys[j]?=some ty∧e=top (.t ty y):=by
  rintro k e ⟨j,hj,rfl⟩ he;have e1:=WL hj;have e2:=WL (show j<tys.length by omega);rw [g1 j _ _ e1 e2] at he;exact ⟨j,_,_,rfl,e1,e2,(W3 he).symm⟩
 have bI:∀t,¬ W (pp t):=by
  rintro t ⟨j,-,he⟩;exact px he
 have bJ:∀t j,¬ W (comp t j):=by
  rintro t j ⟨j',-,he⟩;exact pS he.symm
 have o_:(w.setRow b (splice cs c vals)).heap[b]?=some (.cells (splice cs c vals) ety (0,0)):=setRow_heap w b cs _ ety (0,0) hh;have S_:∀b',b'≠b→(w.setRow b (splice cs c vals)).heap[b']?=w.heap[b']? := fun b' t_=>setRow_other w b b' _ t_
 have dE:∀j,(w.setRow b (splice cs c vals)).cell? ⟨b,j,none⟩=(splice cs c vals)[j]? := fun j=>pM o_ j
 have kw:∀j,w.cell? ⟨b,j,none⟩=cs[j]? := fun j=>pM hh j
 refine ⟨qA W γ,Rel.upd hG h g_ W (fun k=>k=pp s) rfl rfl rfl (by simp) ?_ ?_ ?_ ?_ ?_ q_ ?_ ?_ ?_ ?_ ?_ ?_ (fun _ q=>q) ?_ ?_ ?_ ?_⟩
 ·intro b' _ s_
  exact S_ b' fun e=>s_ (pp s) (.inr rfl) (by rw [e];exact hb)
 ·rintro k _ rfl
  refine ⟨cb,tag,n,hs,fun b' cs' ety' s_ dC=>?_⟩;rw [hb] at s_;simp only [WJ] at s_;subst s_;rw [hh] at dC;simp only [WJ,Obj.cells.injEq] at dC;obtain ⟨rfl,rfl,-⟩:=dC;exact ⟨_,o_,qQ D_⟩
 ·intro k hk
  exact rq hk
 ·intro k b' hk s_
  rw [sH hk] at s_;cases s_
 ·intro k k' b' hk e_ s_
  rw [sH hk] at s_;cases s_
 ·intro k e hk he
  refine rp (fun _=>rfl) (fun ht=>?_);obtain ⟨aD,c',tag',m,aa⟩:=rC h he ht;refine ⟨rq (bI _),fun b' s_=>?_⟩
  by_cases cj:b'=b
  ·subst cj
   have:=pZ.1 (h.inj _ _ _ s_ hb)
   rw [dE,kw,qq D_];split
   ·rfl
   ·split
    ·rename_i q1 q2
     exact absurd ⟨k.b-c,by omega,by rw [aD,this];simp [cell];omega⟩ hk
    ·rfl
  ·exact sk (S_ b' cj)
 ·intro t m e he
  have:∃c' tag' m',σ.get (pp t)=some ⟨[],.box c' tag' m'⟩:=by
   by_cases hk:W (cell t m)
   ·obtain ⟨j,hj,aO⟩:=hk
    obtain ⟨rfl,-⟩:=rS.1 aO;exact ⟨cb,tag,n,hs⟩
   ·rw [q_ _ hk] at he
    exact h.cel t m e he
  obtain ⟨c',t',m',aa⟩:=this;exact ⟨c',t',m',by rw [q_ _ (bI t)];exact aa⟩
 ·intro t j e he
  rw [q_ _ (bJ t j)] at he;obtain ⟨q,m,s_⟩:=h.cmp t j e he;exact ⟨q,m,by rw [q_ _ (bI t)];exact s_⟩
 ·intro t q c' x _ _
  exact bI t
 ·intro k hk _
  obtain ⟨j,hj,rfl⟩:=hk;rw [g1 j _ _ (WL hj) (WL (show j<tys.length by omega))];simp
 ·intro k e tag' hk he ht
  obtain ⟨j,y,ty,-,-,-,rfl⟩:=hW k e hk he;cases ht
 ·intro k tag' hk _ _
  refine ⟨fun c' xs' hx=>?_,fun c' n' hx=>?_,fun c' hx=>?_⟩
  ·obtain ⟨j,y,ty,-,-,-,hc⟩:=hW k _ hk hx
   cases hc
  ·obtain ⟨j,y,ty,-,-,-,hc⟩:=hW k _ hk hx
   cases hc
  ·obtain ⟨j,y,ty,-,-,-,hc⟩:=hW k _ hk hx
   cases hc
 ·intro k e h0 tag' hk he dC
  obtain ⟨j,y,ty,-,-,-,rfl⟩:=hW k e hk he;cases dC
 ·intro k e s' b' hk he hm
  obtain ⟨j,y,ty,-,-,-,rfl⟩:=hW k e hk he;simp [top] at hm
 ·intro A_ k e hk he
  obtain ⟨j,y,ty,rfl,hy,ap,rfl⟩:=hW k e hk he;obtain ⟨u,hu,dO⟩:=hV j y ty hy ap;refine ⟨u,?_,fun _=>V.mono A_ dO,fun q=>absurd trivial q⟩
  have:qA W γ (pp s)=some b:=by rw [rq (bI s),hb]
  simp only [pJ,cell,this,Xl];have hj:j<vals.length:=(WQ.1 hu).1;rw [dE,qq D_,WZ (by omega),WY (by omega),show c+j-c=j by omega];exact hu
theorem Rel.gives (hG:Good P C.tab) (h:Rel C.tab fr tm w σ γ) (g_:Wf C D σ) {i:Nat} (hi:¬ D i) (T S Bx:Key→Prop) (A:Key→AV) (G:Key→Option Nat) {tm':Array Value} {w':World} {σ':St} {γ':Key→Option Nat}
  (cK:w'.os=w.os) (Y_:w'.tape=w.tape) (Q_:w'.output=w.output) (Z_:w'.heap.size=w.heap.size)
  (F_:∀b,(∀k,Bx k→γ k≠some b)→w'.heap[b]?=w.heap[b]?)
  (aa:∀k,Bx k→¬ T k∧¬ S k∧∃c tag n,σ.get k=some ⟨[],.box c tag n⟩∧∀b cs ety,γ k=some b→w.heap[b]?=some (.cells cs ety (0,0))→∃cs',w'.heap[b]?=some (.cells cs' ety (0,0))∧cs'.size=cs.size)
  (hT:∀k,T k→σ'.get k=some (top (A k))) (mm:∀k,S k→¬ T k→σ'.get k=some (top .u)) (q_:∀k,¬ T k→¬ S k→σ'.get k=σ.get k)
  (gT:∀k,T k→γ' k=G k) (gS:∀k,S k→¬ T k→γ' k=none) (gN:∀k,¬ T k→¬ S k→γ' k=γ k)
  (hS:∀k,S k→tR σ k)
  (mn:∀k b,T k→G k=some b→∃k0,S k0∧γ k0=some b) (nl:∀k k' b,T k→T k'→G k=some b→G k'=some b→k=k')
  (hA:∀k,T k→∃v,pJ tm' w' γ' k=some v∧((∃c y,A k=.t c y∧V C.tab w (Ob fr γ) c v y)∨(∃c xs,A k=.own c (i+1) xs∧Own C.tab w (Ob fr γ) c v (G k) xs)∨(A k=.tup (i+1)∧((∃vs,v=.tuple vs)∨∃vs,v=.agg vs)) ∨
   (∃s tag c,A k=.ptr s tag c∧σ.get (pp s)≠none∧¬ T (pp s)∧¬ S (pp s)∧Old D tag∧AVR C.tab w (Ob fr γ) σ (pJ tm w γ) γ k v (A k)) ∨
   ∃h0 tag c off len,A k=.alias h0 tag c off len∧σ.get h0≠none∧¬ T h0∧¬ S h0∧Old D tag∧AVR C.tab w (Ob fr γ) σ (pJ tm w γ) γ k v (A k)))
  (iO:∀s,T (pp s)→σ.get (pp s)=none)
  (kx:∀s n,T (cell s n)→∃c tag m,σ.get (pp s)=some ⟨[],.box c tag m⟩)
  (ky:∀s j,T (comp s j)→(∃p m,σ.get (pp s)=some ⟨p,.tup m⟩)∨(T (pp s)∧A (pp s)=.tup (i+1)))
  (m_:∀k e,¬ T k→σ.get k=some e→pJ tm' w' γ' k=pJ tm w γ k) :
  Rel C.tab fr tm' w' σ' γ'∧Wf C (fun j=>D j∨j=i) σ' := by
 have x_:∀k e,T k∨S k→σ'.get k=some e→T k∧e=top (A k)∨¬ T k∧S k∧e=top .u:=by
  intro k e hk he
  by_cases h1:T k
  ·rw [hT k h1] at he;exact .inl ⟨h1,(W3 he).symm⟩
  ·have h2:=hk.resolve_left h1
   rw [mm k h2 h1] at he;exact .inr ⟨h1,h2,(W3 he).symm⟩
 have notS:∀{k:Key} {e:Ent},σ.get k=some e→(∀c tag xs,e≠⟨[],.own c tag xs⟩)→¬ S k:=by
  intro k e he t_ hk;obtain ⟨c,tag,xs,hh⟩:=hS k hk;rw [he] at hh;exact t_ c tag xs (W3 hh)
 have notT:∀{s:Nat} {e:Ent},σ.get (pp s)=some e→¬ T (pp s):=by
  intro s e he hk;rw [iO s hk] at he;cases he
 have aE:¬ Old D (i+1):=by
  rintro (q | ⟨j,hj,q⟩)
  ·cases q
  ·have:i=j:=by omega
   subst this;exact hi hj
 have kz:∀k,T k→(∃c y,A k=.t c y)∨(∃c xs,A k=.own c (i+1) xs)∨A k=.tup (i+1)∨(∃s tag c,A k=.ptr s tag c∧σ.get (pp s)≠none∧¬ T (pp s)∧¬ S (pp s)∧Old D tag)∨∃h0 tag c off len,A k=.alias h0 tag c off len∧σ.get h0≠none∧¬ T h0∧¬ S h0∧Old D tag:=by
  intro k hk;obtain ⟨v,-,hv⟩:=hA k hk
  rcases hv with ⟨c,y,q,-⟩ | ⟨c,xs,q,-⟩ | ⟨q,-⟩ | ⟨s,tag,c,q1,q2,q3,q4,q5,-⟩ | ⟨h0,tag,c,off,len,q1,q2,q3,q4,q5,-⟩
  ·exact .inl ⟨c,y,q⟩
  ·exact .inr (.inl ⟨c,xs,q⟩)
  ·exact .inr (.inr (.inl q))
  ·exact .inr (.inr (.inr (.inl ⟨s,tag,c,q1,q2,q3,q4,q5⟩)))
  ·exact .inr (.inr (.inr (.inr ⟨h0,tag,c,off,len,q1,q2,q3,q4,q5⟩)))
 have keep:∀{s:Nat} {e:Ent},σ.get (pp s)=some e→(∀c tag xs,e≠⟨[],.own c tag xs⟩)→σ'.get (pp s)=some e:=by
  intro s e he t_;rw [q_ _ (notT he) (notS he t_)];exact he
 refine Rel.upd hG h g_ (fun k=>T k∨S k) Bx cK Y_ Q_ (by omega) ?_ ?_ ?_ ?_ ?_ ?_ ?_ ?_ ?_ ?_ ?_ ?_ ?_ ?_ ?_ ?_ ?_
 ·exact fun b _ hb=>F_ b fun k hk=>hb k (.inr hk)
 ·intro k _ hk
  exact (aa k hk).2.2
 ·intro k hk
  exact gN k (fun q=>hk (.inl q)) fun q=>hk (.inr q)
 ·intro k b hk hb
  by_cases h1:T k
  ·rw [gT k h1] at hb
   obtain ⟨k0,q1,q2⟩:=mn k b h1 hb;exact .inl ⟨k0,.inr q1,q2⟩
  ·rw [gS k (hk.resolve_left h1) h1] at hb;cases hb
 ·intro k k' b hk e_ hb s_
  have one:∀k,T k∨S k→γ' k=some b→T k∧G k=some b:=by
   intro k hk hb
   by_cases h1:T k
   ·exact ⟨h1,by rw [←gT k h1];exact hb⟩
   ·rw [gS k (hk.resolve_left h1) h1] at hb;cases hb
  obtain ⟨q1,q2⟩:=one k hk hb;obtain ⟨q3,q4⟩:=one k' e_ s_;exact nl k k' b q1 q3 q2 q4
 ·intro k hk
  exact q_ k (fun q=>hk (.inl q)) fun q=>hk (.inr q)
 ·intro k e hk he
  exact m_ k e (fun q=>hk (.inl q)) he
 ·intro s n e he
  have:∃c tag m,σ.get (pp s)=some ⟨[],.box c tag m⟩:=by
   by_cases h1:T (cell s n)
   ·exact kx s n h1
   ·by_cases h2:S (cell s n)
    ·obtain ⟨c,tag,xs,hh⟩:=hS _ h2
     exact h.cel s n _ hh
    ·rw [q_ _ h1 h2] at he
     exact h.cel s n e he
  obtain ⟨c,tag,m,hb⟩:=this;exact ⟨c,tag,m,keep hb (by simp)⟩
 ·intro s j e he
  have:(∃p m,σ.get (pp s)=some ⟨p,.tup m⟩)∨(T (pp s)∧A (pp s)=.tup (i+1)):=by
   by_cases h1:T (comp s j)
   ·exact ky s j h1
   ·by_cases h2:S (comp s j)
    ·obtain ⟨c,tag,xs,hh⟩:=hS _ h2
     exact .inl (h.cmp s j _ hh)
    ·rw [q_ _ h1 h2] at he
     exact .inl (h.cmp s j e he)
  rcases this with ⟨q,m,hb⟩ | ⟨q1,q2⟩
  ·exact ⟨q,m,keep hb (by simp)⟩
  ·exact ⟨[],i+1,by rw [hT _ q1,q2];rfl⟩
 ·rintro s q c x hs hh (hk | hk)
  ·exact notT hh hk
  ·exact notS hh (by simp) hk
 ·intro k hk _
  by_cases h1:T k
  ·rw [hT k h1];simp
  ·rw [mm k (hk.resolve_left h1) h1];simp
 ·intro k e tag hk he ht
  rcases x_ k e hk he with ⟨h1,rfl⟩ | ⟨-,-,rfl⟩
  ·rcases kz k h1 with ⟨c,y,q⟩ | ⟨c,xs,q⟩ | q | ⟨s,tag',c,q,-,-,-,ep⟩ | ⟨h0,tag',c,off,len,q,-,-,-,ep⟩
   ·rw [q] at ht;cases ht
   ·rw [q] at ht
    simp only [top,AV.re,WJ] at ht;subst ht;exact uZ
   ·rw [q] at ht
    simp only [top,AV.re,WJ] at ht;subst ht;exact uZ
   ·rw [q] at ht
    simp only [top,AV.re,WJ] at ht;subst ht;exact ep.mono fun _=>.inl
   ·rw [q] at ht
    simp only [top,AV.re,WJ] at ht;subst ht;exact ep.mono fun _=>.inl
  ·cases ht
 ·exact fun tag ho=>ho.mono fun _=>.inl
 ·intro k tag hk _ ho
  have aA:∀e t,σ'.get k=some e→e.av.re=some t→(∀h0 tag c off len,e.av≠.alias h0 tag c off len)→(∀s tag c,e.av≠.ptr s tag c)→¬ Old D t:=by
   intro e t he ht bd nm q
   rcases x_ k e hk he with ⟨h1,rfl⟩ | ⟨-,-,rfl⟩
   ·rcases kz k h1 with ⟨c,y,q'⟩ | ⟨c,xs,q'⟩ | q' | ⟨s,tag',c,q',-⟩ | ⟨h0,tag',c,off,len,q',-⟩
    ·rw [q'] at ht;cases ht
    ·rw [q'] at ht
     simp only [top,AV.re,WJ] at ht;subst ht;exact aE q
    ·rw [q'] at ht
     simp only [top,AV.re,WJ] at ht;subst ht;exact aE q
    ·exact nm _ _ _ q'
    ·exact bd _ _ _ _ _ q'
   ·cases ht
  exact ⟨fun c xs hx=>absurd ho (aA _ tag hx rfl (by simp) (by simp)),fun c n hx=>absurd ho (aA _ tag hx rfl (by simp) (by simp)),fun p hx=>absurd ho (aA _ tag hx rfl (by simp) (by simp))⟩
 ·intro k e h0 tag hk he hh
  rcases x_ k e hk he with ⟨h1,rfl⟩ | ⟨-,-,rfl⟩
  ·rcases kz k h1 with ⟨c,y,q'⟩ | ⟨c,xs,q'⟩ | q' | ⟨s,tag',c,q',p1,p2,p3,-⟩ | ⟨gh,tag',c,off,len,q',p1,p2,p3,-⟩
   ·rw [q'] at hh;cases hh
   ·rw [q'] at hh;cases hh
   ·rw [q'] at hh;cases hh
   ·rw [q'] at hh
    simp only [top,AV.home,WJ,WK] at hh;rw [←hh.1,q_ _ p2 p3];exact p1
   ·rw [q'] at hh
    simp only [top,AV.home,WJ,WK] at hh;rw [←hh.1,q_ _ p2 p3];exact p1
  ·cases hh
 ·intro k e s b hk he hm
  rcases x_ k e hk he with ⟨h1,rfl⟩ | ⟨-,-,rfl⟩<;>simp [top] at hm
 ·intro A_ k e hk he
  rcases x_ k e hk he with ⟨h1,rfl⟩ | ⟨h1,h2,rfl⟩
  ·obtain ⟨v,hv,np⟩:=hA k h1
   refine ⟨v,hv,fun _=>?_,fun q=>absurd trivial q⟩
   rcases np with ⟨c,y,q,hV⟩ | ⟨c,xs,q,hO⟩ | ⟨q,hq⟩ | ⟨s,tag,c,q,p1,p2,p3,-,bd⟩ | ⟨h0,tag,c,off,len,q,p1,p2,p3,-,bd⟩
   ·simp only [top];rw [q];exact V.mono A_ hV
   ·simp only [top];rw [q]
    show Own C.tab w' _ c v (γ' k) xs
    rw [gT k h1];refine hO.mono A_ fun b hb=>F_ b fun k' e_ s_=>?_
    obtain ⟨k0,q1,q2⟩:=mn k b h1 hb
    have:=h.inj k' k0 b s_ q2
    subst this;exact (aa k' e_).2.1 q1
   ·simp only [top];rw [q];exact hq
   ·simp only [top];rw [q] at bd ⊢
    intro cb n hx;rw [q_ _ p2 p3] at hx;obtain ⟨b,a1,a2⟩:=bd cb n hx;exact ⟨b,by rw [gN _ p2 p3];exact a1,a2⟩
   ·simp only [top];rw [q] at bd ⊢
    intro c' xs' hx;rw [q_ _ p2 p3] at hx;obtain ⟨a1,v_,a2,a3⟩:=bd c' xs' hx;exact ⟨a1,v_,by rw [m_ h0 _ p2 hx];exact a2,a3⟩
  ·obtain ⟨c,tag,xs,hh⟩:=hS k h2
   obtain ⟨v0,v_,-⟩:=h.ent k _ hh;exact ⟨v0,by rw [m_ k _ h1 hh];exact v_,fun _=>trivial,fun q=>absurd trivial q⟩
theorem La:∀(tys:List TypeId) (xs:List T) (as_ :List Bc) (off:Nat),tys.length=xs.length→off+xs.length≤as_.length→(FL as_ off tys xs).length=as_.length ∧
  (∀(j:Nat) ty x,tys[j]?=some ty→xs[j]?=some x→(FL as_ off tys xs)[off+j]?=some (none,.t ty x)) ∧
  ∀q,q<off∨off+xs.length≤q→(FL as_ off tys xs)[q]?=as_[q]? := by
 intro tys
 induction tys with
 | nil =>
  intro xs as_ off hl _
  cases xs with
  | nil=>exact ⟨rfl,fun j ty x h=>by simp at h,fun q _=>rfl⟩
  | cons=>simp at hl
 | cons ty tys ih =>
  intro xs as_ off hl P_
  cases xs with
  | nil=>simp at hl
  | cons x xs =>
   simp only [W4] at hl P_;obtain ⟨h1,h2,h3⟩:=ih xs (as_.set off (none,.t ty x)) (off+1) (by omega) (by simp only [Yw];omega);simp only [FL];refine ⟨by rw [h1];simp,fun j ty' x' hj hx=>?_,fun q hq=>?_⟩
   ·cases j with
    | zero =>
     simp only [WT,WJ] at hj hx;subst hj;subst hx
     show (FL _ _ tys xs)[off]?=_
     rw [h3 off (.inl (by omega)),YA,WY rfl,WY (by omega)]
    | succ j =>
     simp only [WR] at hj hx;rw [show off+(j+1)=off+1+j by omega];exact h2 j ty' x' hj hx
   ·simp only [W4] at hq
    rw [h3 q (by omega),YA,WZ (by omega)]
theorem II (C:Ctx) (d n:Nat):∀(tys:List TypeId) (xs:List T) (q:Nat),tys.length=xs.length→(yl C d n q tys xs).length=xs.length ∧
  ∀(j:Nat) ty x,tys[j]?=some ty→xs[j]?=some x→(yl C d n q tys xs)[j]?=some (none,.t ty x)∨(x=.l []∧(yl C d n q tys xs)[j]?=some (none,.own ty 0 [])):=by
 intro tys
 induction tys with
 | nil =>
  intro xs q hl
  cases xs with
  | nil=>exact ⟨rfl,fun j ty x h=>by simp at h⟩
  | cons=>simp at hl
 | cons ty tys ih =>
  intro xs q hl
  cases xs with
  | nil=>simp at hl
  | cons x xs =>
   obtain ⟨h1,h2⟩:=ih xs (q+1) (by simpa using hl);refine ⟨by simp [yl,h1],fun j ty' x' hj hx=>?_⟩
   cases j with
   | zero =>
    simp only [WT,WJ] at hj hx;subst hj;subst hx;simp only [yl,WT];split
    ·exact .inr ⟨rfl,rfl⟩
    ·exact .inl rfl
   | succ j =>
    simp only [WR] at hj hx;simpa [yl] using h2 j ty' x' hj hx
theorem Ks {s:Nat}:∀{as_ :List Bc},HV s as_=false→∀(q:Nat) a,as_[q]?≠some (some s,a):=by
 intro as_
 induction as_ with
 | nil=>intro _ q a h;simp at h
 | cons x r ih =>
  obtain ⟨o,y⟩:=x;intro hm q a h
  cases o with
  | none =>
   simp only [HV] at hm
   cases q with
   | zero=>simp at h
   | succ q=>simp only [WR] at h;exact ih hm q a h
  | some t =>
   simp only [HV] at hm;split at hm
   ·cases hm
   ·rename_i t_
    cases q with
    | zero=>simp only [WT,WJ,WK] at h;rw [h.1] at t_;simp at t_
    | succ q=>simp only [WR] at h;exact ih hm q a h
theorem It:∀{as_ :List Bc},Cd as_=true→∀(q q' s:Nat) a a',as_[q]?=some (some s,a)→as_[q']?=some (some s,a')→q=q' := by
 intro as_
 induction as_ with
 | nil=>intro _ q q' s a a' h;simp at h
 | cons x r ih =>
  obtain ⟨o,y⟩:=x;intro hm q q' s a a' h h';have key:Cd r=true∧(o=some s→∀(q:Nat) a,r[q]?≠some (some s,a)):=by
   cases o with
   | none=>exact ⟨hm,fun q=>by cases q⟩
   | some t =>
    simp only [Cd] at hm;split at hm
    ·cases hm
    ·rename_i t_
     refine ⟨hm,fun q=>?_⟩;cases q;exact Ks t_
  cases q with
  | zero =>
   simp only [WT,WJ,WK] at h
   cases q' with
   | zero=>rfl
   | succ q'=>simp only [WR] at h';exact absurd h' (key.2 h.1 q' a')
  | succ q =>
   simp only [WR] at h
   cases q' with
   | zero=>simp only [WT,WJ,WK] at h';exact absurd h (key.2 h'.1 q a)
   | succ q'=>simp only [WR] at h';rw [ih key.1 q q' s a a' h h']
theorem Cf (f:Nat→Key):∀(as_ :List Bc) (σ:St) (k:Key),((∃(q s:Nat) (a:AV),as_[q]?=some (some s,a)∧k=f s)→(σ.puts (su f as_)).get k=some (top .u)) ∧
  ((∀(q s:Nat) (a:AV),as_[q]?=some (some s,a)→k≠f s)→(σ.puts (su f as_)).get k=σ.get k):=by
 intro as_
 induction as_ with
 | nil=>exact fun σ k=>⟨fun ⟨q,s,a,h,_⟩=>by simp at h,fun _=>rfl⟩
 | cons x r ih =>
  obtain ⟨o,y⟩:=x;intro σ k
  cases o with
  | none =>
   simp only [su];obtain ⟨h1,h2⟩:=ih σ k;refine ⟨fun ⟨q,s,a,h,e⟩=>h1 ?_,fun h=>h2 fun q s a hq=>h (q+1) s a (by simpa using hq)⟩
   cases q with
   | zero=>simp at h
   | succ q=>exact ⟨q,s,a,by simpa using h,e⟩
  | some t =>
   simp only [su,St.puts];obtain ⟨h1,h2⟩:=ih (σ.put (f t) (top .u)) k
   constructor
   ·rintro ⟨q,s,a,h,e⟩
    by_cases ay:∃(q s:Nat) (a:AV),r[q]?=some (some s,a)∧k=f s
    ·exact h1 ay
    ·rw [h2 fun q s a hq e'=>ay ⟨q,s,a,hq,e'⟩]
     cases q with
     | zero =>
      simp only [WT,WJ,WK] at h;rw [e,←h.1,pB]
     | succ q=>exact absurd ⟨q,s,a,by simpa using h,e⟩ ay
   ·intro h
    rw [h2 fun q s a hq=>h (q+1) s a (by simpa using hq),pD (h 0 t y (by simp))]
theorem yL (f:Nat→Key) (hf:∀q q',f q=f q'→q=q') (i:Nat):∀(as_ :List Bc) (q:Nat) (σ:St),
  (∀(j:Nat) o a,as_[j]?=some (o,a)→(σ.puts (vZ f i q as_)).get (f (q+j))=some (top (TQ i a))) ∧
  (∀k,(∀j,j<as_.length→k≠f (q+j))→(σ.puts (vZ f i q as_)).get k=σ.get k):=by
 intro as_
 induction as_ with
 | nil=>exact fun q σ=>⟨fun j o a h=>by simp at h,fun k _=>rfl⟩
 | cons x r ih =>
  obtain ⟨o,y⟩:=x;intro q σ;simp only [vZ,St.puts];obtain ⟨h1,h2⟩:=ih (q+1) (σ.put (f q) (top (TQ i y)))
  constructor
  ·intro j o' a hj
   cases j with
   | zero =>
    simp only [WT,WJ,WK] at hj;rw [h2 (f (q+0)) fun j _ e=>?_,←hj.2,XW,pB]
    have:=hf _ _ e
    omega
   | succ j =>
    simp only [WR] at hj;rw [show q+(j+1)=q+1+j by omega];exact h1 j o' a hj
  ·intro k hk
   rw [h2 k fun j hj=>?_,pD (by have:=hk 0 (by simp);simpa using this)]
   have:=hk (j+1) (by simp;omega)
   rwa [show q+(j+1)=q+1+j by omega] at this
def Gi (ex:Option Nat) (i:Nat):List (Key×Ent):=match ex with
 | some d=>[(pp d,top (.tup (i+1)))]
 | none=>[]
theorem Rel.bcs (hG:Good P C.tab) (h:Rel C.tab fr tm w σ γ) (g_:Wf C D σ) {i:Nat} (hi:¬ D i) (Bx:Key→Prop) {tm':Array Value} {w':World} {as_ :List Bc} (f g:Nat→Key) (qf:Key→Nat) (ex:Option Nat)
  (cK:w'.os=w.os) (Y_:w'.tape=w.tape) (Q_:w'.output=w.output) (Z_:w'.heap.size=w.heap.size)
  (F_:∀b,(∀k,Bx k→γ k≠some b)→w'.heap[b]?=w.heap[b]?)
  (aa:∀k,Bx k→(∀q,k≠f q)∧ex=none∧∃c tag n,σ.get k=some ⟨[],.box c tag n⟩∧∀b cs ety,γ k=some b→w.heap[b]?=some (.cells cs ety (0,0))→∃cs',w'.heap[b]?=some (.cells cs' ety (0,0))∧cs'.size=cs.size)
  (ii:∀q,(f q).tag≠0) (hf:∀q q',f q=f q'→q=q') (mo:∀q,q<as_.length→qf (f q)=q) (hg:∀q q',g q=g q'→q=q')
  (b8:∀(q s:Nat) a,as_[q]?=some (some s,a)→∃c tag xs,σ.get (g s)=some ⟨[],.own c tag xs⟩∧a=.own c 0 xs)
  (aW:∀(q:Nat) a,as_[q]?=some (none,a)→(∃ty y,a=.t ty y)∨(∃c,a=.own c 0 [])∨∃h0 tag c off len,a=.alias h0 tag c off len∧σ.get h0≠none∧(∀q,h0≠f q)∧(∀(q s:Nat) a,as_[q]?=some (some s,a)→h0≠g s)∧Old D tag) (eu:∀(q q' s:Nat) a a',as_[q]?=some (some s,a)→as_[q']?=some (some s,a')→q=q')
  (ay:∀d,ex=some d→σ.get (pp d)=none∧∀γ',∃vs,pJ tm' w' γ' (pp d)=some (.agg vs))
  (ku:∀γ':Key→Option Nat,(∀k,Bx k→γ' k=γ k)→∀(q:Nat) o a,as_[q]?=some (o,a)→∃u,pJ tm' w' γ' (f q)=some u∧(∀s,o=some s→pJ tm w γ (g s)=some u)∧(∀ty y,a=.t ty y→V C.tab w (Ob fr γ) ty u y)∧(∀c,o=none→a=.own c 0 []→Own C.tab w (Ob fr γ) c u none [])∧∀h0 tag c off len,a=.alias h0 tag c off len→AVR C.tab w (Ob fr γ) σ (pJ tm w γ) γ (f q) u a)
  (kx:∀s n q,cell s n=f q→∃c tag m,σ.get (pp s)=some ⟨[],.box c tag m⟩)
  (ky:∀s j q,comp s j=f q→ex=some s)
  (m_:∀γ':Key→Option Nat,(∀k e,σ.get k=some e→(∀c tag xs,e≠⟨[],.own c tag xs⟩)→(∀q,k≠f q)→γ' k=γ k)→∀k e,(∀q,q<as_.length→k≠f q)→σ.get k=some e→pJ tm' w' γ' k=pJ tm w γ k) :
  ∃γ',Rel C.tab fr tm' w' (σ.puts (su g as_++Gi ex i++vZ f i 0 as_)) γ' ∧
   Wf C (fun j=>D j∨j=i) (σ.puts (su g as_++Gi ex i++vZ f i 0 as_)):=by
 classical
 let T:Key→Prop:=fun k=>(∃d,ex=some d∧k=pp d)∨∃q,q<as_.length∧k=f q
 let S:Key→Prop:=fun k=>∃(q s:Nat) (a:AV),as_[q]?=some (some s,a)∧k=g s
 let A:Key→AV:=fun k=>if k.tag=0 then .tup (i+1) else match as_[qf k]? with | some (_,a)=>TQ i a | none=>.u
 let G:Key→Option Nat:=fun k=>if k.tag=0 then none else match as_[qf k]? with | some (some s,_)=>γ (g s) | _=>none
 have hS:∀k,S k→tR σ k:=by
  rintro k ⟨q,s,a,hq,rfl⟩;obtain ⟨c,tag,xs,hh,-⟩:=b8 q s a hq;exact ⟨c,tag,xs,hh⟩
 have exT:∀d,ex=some d→∀q,pp d≠f q:=fun d _ q e=>ii q (by rw [←e];rfl);have exS:∀d,ex=some d→¬ S (pp d):=by
  intro d hd hs;obtain ⟨c,tag,xs,hh⟩:=hS _ hs;rw [(ay d hd).1] at hh;cases hh
 have mq:∀(q:Nat) o a,as_[q]?=some (o,a)→A (f q)=TQ i a:=by
  intro q o a hq;have b_:=(WQ.1 hq).1
  show (if (f q).tag=0 then _ else _)=_
  rw [WZ (ii q),mo q b_,hq]
 have kA:∀(q:Nat) o a,as_[q]?=some (o,a)→G (f q)=match o with | some s=>γ (g s) | none=>none:=by
  intro q o a hq;have b_:=(WQ.1 hq).1
  show (if (f q).tag=0 then _ else _)=_
  rw [WZ (ii q),mo q b_,hq];cases o<;>rfl
 let γ':Key→Option Nat:=fun k=>if T k then G k else if S k then none else γ k
 have gkeep:∀k e,σ.get k=some e→(∀c tag xs,e≠⟨[],.own c tag xs⟩)→(∀q,k≠f q)→γ' k=γ k:=by
  intro k e he t_ hk;have h1:¬ T k:=by
   rintro (⟨d,hd,rfl⟩ | ⟨q,-,hq⟩)
   ·rw [(ay d hd).1] at he;cases he
   ·exact hk q hq
  have h2:¬ S k:=by
   intro hs;obtain ⟨c,tag,xs,hh⟩:=hS k hs;rw [he] at hh;exact t_ c tag xs (W3 hh)
  show (if T k then _ else _)=_
  rw [WZ h1,WZ h2]
 have gbx:∀k,Bx k→γ' k=γ k:=by
  intro k hk;obtain ⟨h1,h2,c,tag,n,h3,-⟩:=aa k hk;exact gkeep k _ h3 (by simp) h1
 refine ⟨γ',Rel.gives hG h g_ hi T S Bx A G cK Y_ Q_ Z_ F_ ?_ ?_ ?_ ?_ ?_ ?_ ?_ hS ?_ ?_ ?_ ?_ ?_ ?_ ?_⟩
 ·intro k hk
  obtain ⟨h1,h2,c,tag,n,h3,h4⟩:=aa k hk;refine ⟨?_,?_,c,tag,n,h3,h4⟩
  ·rintro (⟨d,hd,rfl⟩ | ⟨q,-,hq⟩)
   ·rw [h2] at hd;cases hd
   ·exact h1 q hq
  ·intro hs
   obtain ⟨c',tag',xs,hh⟩:=hS k hs;rw [h3] at hh;cases hh
 ·intro k hk
  rw [pV];obtain ⟨i1,i2⟩:=yL f hf i as_ 0 (σ.puts (su g as_++Gi ex i))
  rcases hk with ⟨d,hd,rfl⟩ | ⟨q,hq,rfl⟩
  ·rw [i2 _ fun j _=>exT d hd _,pV,hd]
   simp only [Gi,St.puts];rw [pB];rfl
  ·obtain ⟨⟨o,a⟩,bC⟩:∃x,as_[q]?=some x:=⟨_,WL hq⟩
   have:=i1 q o a bC
   rw [WV] at this;rw [this,mq q o a bC]
 ·intro k hk dF
  rw [pV];obtain ⟨i1,i2⟩:=yL f hf i as_ 0 (σ.puts (su g as_++Gi ex i));rw [i2 k fun j hj e=>dF (.inr ⟨j,hj,by rw [e,WV]⟩),pV]
  have:((σ.puts (su g as_)).puts (Gi ex i)).get k=(σ.puts (su g as_)).get k:=by
   cases hx:ex with
   | none=>rfl
   | some d =>
    simp only [Gi,St.puts];exact pD fun e=>dF (.inl ⟨d,hx,e⟩)
  rw [this];exact (Cf g as_ σ k).1 hk
 ·intro k dF kB
  rw [pV];obtain ⟨i1,i2⟩:=yL f hf i as_ 0 (σ.puts (su g as_++Gi ex i));rw [i2 k fun j hj e=>dF (.inr ⟨j,hj,by rw [e,WV]⟩),pV]
  have:((σ.puts (su g as_)).puts (Gi ex i)).get k=(σ.puts (su g as_)).get k:=by
   cases hx:ex with
   | none=>rfl
   | some d =>
    simp only [Gi,St.puts];exact pD fun e=>dF (.inl ⟨d,hx,e⟩)
  rw [this];exact (Cf g as_ σ k).2 fun q s a hq e=>kB ⟨q,s,a,hq,e⟩
 ·intro k hk
  show (if T k then _ else _)=_
  rw [WY hk]
 ·intro k hk dF
  show (if T k then _ else _)=_
  rw [WZ dF,WY hk]
 ·intro k dF kB
  show (if T k then _ else _)=_
  rw [WZ dF,WZ kB]
 ·rintro k b (⟨d,hd,rfl⟩ | ⟨q,hq,rfl⟩) hb
  ·have:G (pp d)=none:=WY rfl
   rw [this] at hb;cases hb
  ·obtain ⟨⟨o,a⟩,bC⟩:∃x,as_[q]?=some x:=⟨_,WL hq⟩
   rw [kA q o a bC] at hb
   cases o with
   | none=>cases hb
   | some s=>exact ⟨g s,⟨q,s,a,bC,rfl⟩,hb⟩
 ·intro k k' b hk e_ hb s_
  have one:∀k,T k→G k=some b→∃(q s:Nat) (a:AV),as_[q]?=some (some s,a)∧k=f q∧γ (g s)=some b:=by
   rintro k (⟨d,hd,rfl⟩ | ⟨q,hq,rfl⟩) hb
   ·have:G (pp d)=none:=WY rfl
    rw [this] at hb;cases hb
   ·obtain ⟨⟨o,a⟩,bC⟩:∃x,as_[q]?=some x:=⟨_,WL hq⟩
    rw [kA q o a bC] at hb
    cases o with
    | none=>cases hb
    | some s=>exact ⟨q,s,a,bC,rfl,hb⟩
  obtain ⟨q,s,a,q1,rfl,q3⟩:=one k hk hb;obtain ⟨q',s',a',p1,rfl,p3⟩:=one k' e_ s_
  have:=hg _ _ (h.inj _ _ b q3 p3)
  subst this;rw [eu q q' s a a' q1 p1]
 ·rintro k (⟨d,hd,rfl⟩ | ⟨q,hq,rfl⟩)
  ·obtain ⟨vs,bm⟩:=(ay d hd).2 γ'
   exact ⟨_,bm,.inr (.inr (.inl ⟨WY rfl,.inr ⟨vs,rfl⟩⟩))⟩
  ·obtain ⟨⟨o,a⟩,bC⟩:∃x,as_[q]?=some x:=⟨_,WL hq⟩
   obtain ⟨u,hu,h1,h2,h3,h4⟩:=ku γ' gbx q o a bC;refine ⟨u,hu,?_⟩;rw [mq q o a bC,kA q o a bC]
   cases o with
   | none =>
    rcases aW q a bC with ⟨ty,y,rfl⟩ | ⟨c,rfl⟩ | ⟨h0,tag,c,off,len,rfl,p1,p2,p3,p4⟩
    ·exact .inl ⟨ty,y,rfl,h2 ty y rfl⟩
    ·exact .inr (.inl ⟨c,[],rfl,h3 c rfl rfl⟩)
    ·refine .inr (.inr (.inr (.inr ⟨h0,tag,c,off,len,rfl,p1,?_,?_,p4,h4 h0 tag c off len rfl⟩)))
     ·rintro (⟨d,hd,e⟩ | ⟨q',-,e⟩)
      ·rw [e] at p1;exact p1 (ay d hd).1
      ·exact p2 q' e
     ·rintro ⟨q',s',a',bD,e⟩
      exact p3 q' s' a' bD e
   | some s =>
    obtain ⟨c,tag,xs,hh,rfl⟩:=b8 q s a bC;refine .inr (.inl ⟨c,xs,rfl,?_⟩);obtain ⟨v,hv,hr,-⟩:=h.ent _ _ hh
    have:=h1 s rfl
    rw [hv] at this;simp only [WJ] at this;subst this;exact hr trivial
 ·rintro s (⟨d,hd,e⟩ | ⟨q,hq,e⟩)
  ·rw [pZ.1 e];exact (ay d hd).1
  ·exact absurd (by rw [←e];rfl) (ii q)
 ·rintro s n (⟨d,hd,e⟩ | ⟨q,hq,e⟩)
  ·exact absurd e.symm px
  ·exact kx s n q e
 ·rintro s j (⟨d,hd,e⟩ | ⟨q,hq,e⟩)
  ·exact absurd e.symm pK
  ·exact .inr ⟨.inl ⟨s,ky s j q e,rfl⟩,WY rfl⟩
 ·intro k e dF he
  exact m_ γ' gkeep k e (fun q hq e'=>dF (.inr ⟨q,hq,e'⟩)) he
end
end Go.Pl
