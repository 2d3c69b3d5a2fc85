/- Part 5 of 11. A session's sealed cut that was changed, shortened, lengthened or emptied is not resumed, and a cut is resumed under another model only where the two models are one. Names are shortened and spaces left out by program, for the size. -/
import Derived.Test.YtjhgombngbgjbaaGreatDoorQ4
import Derived.LoopN
import Derived.Test.YtjhgombngbgjbaaGreatDoorProg
set_option linter.unusedVariables false
set_option linter.unusedSimpArgs false
set_option linter.unusedSectionVars false
set_option linter.constructorNameAsVariable false
set_option maxRecDepth 100000
namespace Go.Pl
section
variable {P:Program} {C:Ctx} {ops:List Oper} {lg:Log} {K:St→Prop}
def Bm (P:Program) (C:Ctx) (ops:List Oper) (i:Nat) (o:Oper) (σ:St) (ws:List (Key×Ent)):Prop :=
 match ((zx C ops i o).run σ).2 with
 | .bad=>False
 | .all _ _ _=>False
 | .bind _ _ _ _=>False
 | .view f n ws'=>Hk P f∧n=0∧ws=ws'
 | .upd none ws'=>ws=ws'
 | .upd (some c) ws'=>imp σ ((zx C ops i o).run σ).1 c∧ws=ws'
 | .call tag f args pre sh ks=>∃ys:List T,ys.length=sh.length∧imp σ ((zx C ops i o).run σ).1 (FnC P C.tab f args sh ys)∧ws=pre++rE tag sh ks ys
theorem KB {i:Nat} {o:Oper} {σ:St} (f9:(∀c k f,((zx C ops i o).run σ).2≠.all c k f)∧∀f k g ws,((zx C ops i o).run σ).2≠.bind f k g ws):opW P C ops i o σ K↔∃ws,Bm P C ops i o σ ws∧K (σ.puts ws):=by
 unfold opW Bm
 cases hr:((zx C ops i o).run σ).2 with
 | bad=>simp [qO.W]
 | all c k f=>exact absurd hr (f9.1 c k f)
 | bind f k g ws=>exact absurd hr (f9.2 f k g ws)
 | view f n ws=>exact ⟨fun ⟨a,b,c⟩=>⟨ws,⟨a,b,rfl⟩,c⟩,fun ⟨_,⟨a,b,e⟩,c⟩=>⟨a,b,e ▸ c⟩⟩
 | upd c ws =>
  cases c with
  | none=>simp [qO.W]
  | some c=>exact ⟨fun ⟨a,b⟩=>⟨ws,⟨a,rfl⟩,b⟩,fun ⟨_,⟨a,e⟩,b⟩=>⟨a,e ▸ b⟩⟩
 | call tag f args pre sh ks =>
  simp only [qO.W,Cy]
  constructor
  ·rintro ⟨ys,h1,h2,h3⟩
   exact ⟨_,⟨ys,h1,h2,rfl⟩,h3⟩
  ·rintro ⟨ws,⟨ys,h1,h2,rfl⟩,h3⟩
   exact ⟨ys,h1,h2,h3⟩
theorem CF (a b:List (Key×Ent)):qh (a++b)=qh a++qh b:=by
 induction a with
 | nil=>rfl
 | cons x r ih=>obtain ⟨k,e⟩:=x;simp only [Yy,qh,ih]
theorem D0 (tag:Nat):∀(sh:Shape) (ks:List (Key×Path)) (ys ys':List T),ys.length=sh.length→ys'.length=sh.length→qh (rE tag sh ks ys)=qh (rE tag sh ks ys'):=by
 intro sh
 induction sh with
 | nil=>intro ks ys ys' _ _;cases ks<;>rfl
 | cons a sh ih =>
  intro ks ys ys' h1 h2;obtain ⟨k,ty,o⟩:=a
  cases ks with
  | nil=>rfl
  | cons b ks =>
   obtain ⟨k',q⟩:=b
   cases ys with
   | nil=>simp at h1
   | cons y ys =>
    cases ys' with
    | nil=>simp at h2
    | cons y' ys' =>
     simp only [rE,qh];rw [ih ks ys ys' (by simpa using h1) (by simpa using h2)]
theorem Ln {i:Nat} {o:Oper} {σ:St} {ws:List (Key×Ent)} (h:Bm P C ops i o σ ws):qh ws=qh (Uc ((zx C ops i o).run σ).2):=by
 unfold Bm at h
 cases hr:((zx C ops i o).run σ).2 with
 | bad=>rw [hr] at h;exact h.elim
 | all c k f=>rw [hr] at h;exact h.elim
 | bind f k g ws=>rw [hr] at h;exact h.elim
 | view f n ws'=>rw [hr] at h;rw [show ws=ws' from h.2.2];rfl
 | upd c ws' =>
  rw [hr] at h
  cases c with
  | none=>rw [show ws=ws' from h];rfl
  | some c=>rw [show ws=ws' from h.2];rfl
 | call tag f args pre sh ks =>
  rw [hr] at h;obtain ⟨ys,h1,-,rfl⟩:=h;simp only [Uc,CF];rw [D0 tag sh ks ys (List.replicate sh.length .u) h1 (by simp)]
theorem D6 {p:Path} {s:Nat} {b:Bool} (h:(s,b)∈p):pp s∈wG p:=by
 induction p with
 | nil=>simp at h
 | cons x r ih =>
  obtain ⟨t,c⟩:=x;simp only [wG,WW]
  rcases WW.1 h with q | q
  ·simp only [WK] at q
   exact .inl (by rw [q.1])
  ·exact .inr (ih q)
theorem DK {σ τ:St} {p:Path} {c:Prop} (h:∀k∈wG p,τ.get k=σ.get k) (hi:imp σ p c):imp τ p c:=by
 cases p with
 | nil=>exact hi
 | cons x r =>
  obtain ⟨s,b⟩:=x;intro hH;exact hi ((sW (σ:=σ) (σ' := τ) _ fun s b hm=>h _ (D6 hm)).1 hH)
theorem Iv {i:Nat} {o:Oper} {σ τ:St} {ws:List (Key×Ent)} (hk:∀k∈A9 C ops i o σ,τ.get k=σ.get k) (h:Bm P C ops i o σ ws):Bm P C ops i o τ ws:=by
 have hr:(zx C ops i o).run τ=(zx C ops i o).run σ:=(Rd.agree _ σ τ fun k q=>hk k (W2.2 (.inl q))).1;have hp:∀k∈wG ((zx C ops i o).run σ).1,τ.get k=σ.get k:=fun k q=>hk k (W2.2 (.inr q));unfold Bm at h ⊢;rw [hr]
 cases cV:((zx C ops i o).run σ).2 with
 | bad=>rw [cV] at h;exact h.elim
 | all c k f=>rw [cV] at h;exact h.elim
 | bind f k g ws=>rw [cV] at h;exact h.elim
 | view f n ws'=>rw [cV] at h;exact h
 | upd c ws' =>
  rw [cV] at h
  cases c with
  | none=>exact h
  | some c=>exact ⟨DK hp h.1,h.2⟩
 | call tag f args pre sh ks =>
  rw [cV] at h;obtain ⟨ys,h1,h2,h3⟩:=h;exact ⟨ys,h1,DK hp h2,h3⟩
def xx (W:Nat→List (Key×Ent)) (σ:St):List Nat→St
 | []=>σ
 | i::r=>xx W (σ.puts (W i)) r
theorem FH (W:Nat→List (Key×Ent)):∀(a b:List Nat) (σ:St),xx W σ (a++b)=xx W (xx W σ a) b:=by
 intro a
 induction a with
 | nil=>intro b σ;rfl
 | cons i r ih=>intro b σ;exact ih b _
theorem Im {W W':Nat→List (Key×Ent)}:∀(l:List Nat) (σ:St),(∀i∈l,W i=W' i)→xx W σ l=xx W' σ l:=by
 intro l
 induction l with
 | nil=>intro σ _;rfl
 | cons i r ih =>
  intro σ h;simp only [xx];rw [h i (by simp)];exact ih _ fun j hj=>h j (by simp [hj])
theorem Ff:∀{ws:List (Key×Ent)} {k:Key},k ∉ qh ws→BS ws k=none:=by
 intro ws
 induction ws with
 | nil=>intro k _;rfl
 | cons x r ih =>
  obtain ⟨k',e⟩:=x;intro k h;simp only [qh,WW,not_or] at h;simp only [BS,ih h.2,Key.qt (fun e=>h.1 e.symm)]
theorem vD (W:Nat→List (Key×Ent)) (k:Key) (p:Nat→Bool):∀(l:List Nat) (σ σ':St),(∀i∈l,p i=false→k ∉ qh (W i))→σ.get k=σ'.get k→(xx W σ l).get k=(xx W σ' (l.filter p)).get k:=by
 intro l
 induction l with
 | nil=>intro σ σ' _ h;exact h
 | cons i r ih =>
  intro σ σ' hp h;have hr:=fun j (hj:j∈r)=>hp j (XV _ hj)
  cases lf:p i with
  | true =>
   rw [ZE lf];refine ih _ _ hr ?_;rw [St.CD,St.CD,h]
  | false =>
   rw [ZF (by rw [lf];simp)];refine ih _ _ hr ?_;rw [St.CD,Ff (hp i (by simp) lf)];exact h
theorem KE:∀(l:List Oper) (j:Nat) (σ:St),KD P C ops lg (numbered j l) σ K→∃W:Nat→List (Key×Ent),K (xx W σ (List.range' j l.length)) ∧
  ∀(m:Nat) o,l[m]?=some o→Bm P C ops (j+m) o (xx W σ (List.range' j m)) (W (j+m))∧(∀k∈A9 C ops (j+m) o (xx W σ (List.range' j m)),k∈(lg.getD (j+m) ([],[])).1) ∧
   ∀k∈qh (W (j+m)),k∈(lg.getD (j+m) ([],[])).2:=by
 have y_:∀{a b:List Key},T0 a b=true→∀k∈a,k∈b:=by
  intro a
  induction a with
  | nil=>intro b _ k hk;simp at hk
  | cons x r ih =>
   intro b h k hk;simp only [T0] at h;split at h
   ·rename_i hm
    rcases WW.1 hk with rfl | hk
    ·exact tT.1 hm
    ·exact ih h k hk
   ·cases h
 intro l
 induction l with
 | nil=>intro j σ h;exact ⟨fun _=>[],h,fun m o hm=>by simp at hm⟩
 | cons o l ih =>
  intro j σ h;simp only [numbered,KD,UV] at h;split at h
  ·rename_i h1 h2
   have f9:(∀c k f,((zx C ops j o).run σ).2≠.all c k f)∧∀f k g ws,((zx C ops j o).run σ).2≠.bind f k g ws:=by
    constructor
    ·intro c k f hh
     rw [hh] at h;exact h
    ·intro c k f ws hh
     rw [hh] at h;exact h
   have h:opW P C ops j o σ (fun σ'=>KD P C ops lg (numbered (j+1) l) σ' K):=by
    split at h
    ·exact h.elim
    ·exact h.elim
    ·exact h
   obtain ⟨ws,z_,hK⟩:=(KB f9).1 h;obtain ⟨W,q1,q2⟩:=ih (j+1) (σ.puts ws) hK;have hc:∀m,xx (fun i=>if i=j then ws else W i) (σ.puts ws) (List.range' (j+1) m)=xx W (σ.puts ws) (List.range' (j+1) m):=by
    intro m;refine Im _ _ fun i hi=>?_
    have:=(List.mem_range'_1.1 hi).1
    rw [WZ (by omega)]
   refine ⟨fun i=>if i=j then ws else W i,?_,fun m o' hm=>?_⟩
   ·rw [W4,List.range'_succ]
    simp only [xx,Zf];rw [hc];exact q1
   ·cases m with
    | zero =>
     simp only [WT,WJ] at hm;subst hm;simp only [XW,List.range'_zero,xx,Zf];exact ⟨z_,y_ h1,fun k hk=>y_ h2 k (by rw [←Ln z_];exact hk)⟩
    | succ m =>
     simp only [WR] at hm;rw [List.range'_succ];simp only [xx,Zf];rw [hc,show j+(m+1)=j+1+m by omega,WZ (by omega)];exact q2 m o' hm
  ·exact h.elim
theorem Em:∀{a b:List Nat},a.Pairwise (·<·)→b.Pairwise (·<·)→(∀x,x∈a↔x∈b)→a=b:=by
 intro a
 induction a with
 | nil =>
  intro b _ _ h
  cases b with
  | nil=>rfl
  | cons y s=>exact absurd ((h y).2 (by simp)) (by simp)
 | cons x r ih =>
  intro b ha hb h
  cases b with
  | nil=>exact absurd ((h x).1 (by simp)) (by simp)
  | cons y s =>
   rw [List.pairwise_cons] at ha hb;have nN:x=y:=by
    rcases WW.1 ((h x).1 (by simp)) with q | q
    ·exact q
    ·rcases WW.1 ((h y).2 (by simp)) with q' | q'
     ·exact q'.symm
     ·have:=ha.1 y q'
      have:=hb.1 x q
      omega
   subst nN
   congr 1
   refine ih ha.2 hb.2 fun z'=>⟨fun hz=>?_,fun hz=>?_⟩
   ·rcases WW.1 ((h z').1 (by simp [hz])) with q | q
    ·have:=ha.1 z' hz;omega
    ·exact q
   ·rcases WW.1 ((h z').2 (by simp [hz])) with q | q
    ·have:=hb.1 z' hz;omega
    ·exact q
def zt (ops:List Oper):List Nat→Prop
 | []=>True
 | i::d=>i ∉ d∧(∃o,ops[i]?=some o∧∀e∈o.after.toList,Region.binds .any e=true→e.on∈d)∧zt ops d
theorem MD {x:Nat} {f:List Nat→List Nat} {a:List Nat} (hf:∀b j,j∈f b→j∈a∨j∈b):∀(b:List Nat) (j:Nat),j∈TA x f b→j∈x::a∨j∈b:=by
 intro b
 induction b with
 | nil=>intro j h;simp only [TA,WW] at h ⊢;rcases h with h | h;exact Or.inl (Or.inl h);rcases hf _ _ h with h | h;exact Or.inl (Or.inr h);exact Or.inr h
 | cons y b ih =>
  intro j h;simp only [TA] at h;split at h
  ·rcases WW.1 h with h | h
   ·exact Or.inl (WW.2 (Or.inl h))
   ·rcases hf _ _ h with h | h
    ·exact Or.inl (XV _ h)
    ·exact Or.inr (XV _ h)
  ·split at h
   ·rcases WW.1 h with h | h
    ·exact Or.inl (WW.2 (Or.inl h))
    ·rcases hf _ _ h with h | h
     ·exact Or.inl (XV _ h)
     ·exact Or.inr h
   ·rcases WW.1 h with h | h
    ·exact Or.inr (WW.2 (Or.inl h))
    ·rcases ih _ h with h | h
     ·exact Or.inl h
     ·exact Or.inr (XV _ h)
theorem MC:∀(a b:List Nat) (j:Nat),j∈UJ a b→j∈a∨j∈b:=by
 intro a
 induction a with
 | nil=>intro b j h;exact Or.inr h
 | cons x a ih=>intro b j h;exact MD (fun b j=>ih b j) b j h
theorem IR {acc:List (List Nat)}:∀{es:List Edge} {j:Nat},j∈Cm acc es→∃e∈es,Region.binds .any e=true∧(j=e.on∨j∈acc.getD e.on []):=by
 intro es
 induction es with
 | nil=>intro j h;simp [Cm] at h
 | cons e r ih =>
  intro j h;simp only [Cm] at h;split at h
  ·rename_i hb
   rcases MC _ _ _ h with h | q
   ·rcases WW.1 h with q | q
    ·exact ⟨e,by simp,hb,.inl q⟩
    ·exact ⟨e,by simp,hb,.inr q⟩
   ·obtain ⟨e',h1,h2,h3⟩:=ih q
    exact ⟨e',by simp [h1],h2,h3⟩
  ·obtain ⟨e',h1,h2,h3⟩:=ih h
   exact ⟨e',by simp [h1],h2,h3⟩
theorem LO:∀(l:List Oper) (acc:List (List Nat)),∃t,ancs l acc=acc++t∧t.length=l.length∧∀(m:Nat) o,l[m]?=some o→t[m]?=some (Cm (acc++t.take m) o.after.toList):=by
 intro l
 induction l with
 | nil=>intro acc;exact ⟨[],by simp [ancs],rfl,fun m o hm=>by simp at hm⟩
 | cons o l ih =>
  intro acc;obtain ⟨t,h1,h2,h3⟩:=ih (acc++[Cm acc o.after.toList]);refine ⟨Cm acc o.after.toList::t,by simp only [ancs];rw [h1];simp,by simp [h2],fun m o' hm=>?_⟩
  cases m with
  | zero =>
   simp only [WT,WJ] at hm;subst hm;simp
  | succ m =>
   simp only [WR] at hm ⊢;rw [h3 m o' hm];simp
theorem wa {d1 d2:List Nat} {i:Nat} (h:zt ops (d1++i::d2)):zt ops (i::d2):=by
 induction d1 with
 | nil=>exact h
 | cons x r ih=>exact ih h.2.2
theorem yp {A:List (List Nat)} (hA:A=ancs ops []):∀(i:Nat) (d:List Nat),zt ops (i::d)→∀j∈A.getD i [],j∈d:=by
 obtain ⟨t,h1,h2,h3⟩:=LO ops [];rw [Yc] at h1;intro i
 induction i using Nat.strongRecOn with
 | _ i ih =>
  intro d hd j hj;obtain ⟨-,⟨o,ho,he⟩,-⟩:=id hd;have ht:=h3 i o ho;rw [hA,h1,WM,ht,XF,Yc] at hj;obtain ⟨e,gc,bg,gG⟩:=IR hj;have mH:=he e gc bg
  rcases gG with rfl | gG
  ·exact mH
  ·have b_:e.on<i:=by
    rw [WM,Xy] at gG;split at gG
    ·assumption
    ·simp at gG
   have jW:j∈A.getD e.on []:=by
    rw [hA,h1,WM];rw [WM,Xy,WY b_] at gG;exact gG
   obtain ⟨d1,d2,rfl⟩:=Zb mH
   have:=ih e.on b_ d2 (wa hd.2.2) j jW
   simp [this]
def Pairs (A:List (List Nat)) (lg:Log):Prop:=∀i j,j<i→i<lg.length→j∈A.getD i []∨BF (lg.getD j ([],[])) (lg.getD i ([],[]))=true
theorem My {l:List Nat} {n:Nat} (h:Fp l n=true):n∈l:=by
 induction l with
 | nil=>simp [Fp] at h
 | cons x r ih =>
  simp only [Fp] at h;split at h
  ·rename_i hx;rw [WO hx];simp
  ·simp [ih h]
theorem If {a:List Nat} {y:List Key×List Key}:∀(r:Log) (i:Nat),AY a y i r=true→∀(m:Nat) x,r[m]?=some x→(i+m)∈a∨BF x y=true:=by
 intro r
 induction r with
 | nil=>intro i _ m x hm;simp at hm
 | cons z r ih =>
  intro i h m x hm;have hz:(i∈a∨BF z y=true)∧AY a y (i+1) r=true:=by
   simp only [AY] at h;split at h
   ·rename_i nO;exact ⟨.inl (My nO),h⟩
   ·split at h
    ·rename_i nP;exact ⟨.inr nP,h⟩
    ·cases h
  cases m with
  | zero =>
   simp only [WT,WJ] at hm;subst hm;exact hz.1
  | succ m =>
   simp only [WR] at hm;rw [show i+(m+1)=i+1+m by omega];exact ih (i+1) hz.2 m x hm
theorem Fy:∀(r done:Log) (as_ :List (List Nat)),yW done as_ r=true→∀(m:Nat) y,r[m]?=some y→∃a,as_[m]?=some a∧AY a y 0 (done++r.take m)=true:=by
 intro r
 induction r with
 | nil=>intro done as_ _ m y hm;simp at hm
 | cons z r ih =>
  intro done as_ h m y hm
  cases as_ with
  | nil=>simp [yW] at h
  | cons a as_ =>
   simp only [yW] at h;split at h
   ·rename_i hp
    cases m with
    | zero =>
     simp only [WT,WJ] at hm;subst hm;exact ⟨a,rfl,by simpa using hp⟩
    | succ m =>
     simp only [WR] at hm;obtain ⟨a',q1,q2⟩:=ih _ _ h m y hm;exact ⟨a',by simpa using q1,by simpa using q2⟩
   ·cases h
theorem ML {A:List (List Nat)} (h:yW [] A lg=true):Pairs A lg:=by
 intro i j hj hi;obtain ⟨a,h1,h2⟩:=Fy lg [] A h i _ (WL hi);rw [Yc] at h2;have hm:(lg.take i)[j]?=some (lg.getD j ([],[])):=by
  rw [Xy,WY hj,WM,WL (by omega)];rfl
 have:=If _ 0 h2 j _ hm
 rw [WV] at this;rw [WM,h1,XF,WM (l:=lg) (i:=i),WL hi];exact this
theorem yq {x y:List Key×List Key} (h:BF x y=true):(∀k∈x.2,k ∉ y.1)∧(∀k∈x.2,k ∉ y.2)∧(∀k∈x.1,k ∉ y.2):=by
 unfold BF at h;split at h
 ·rename_i h1 h2 h3
  exact ⟨uC.1 h1,uC.1 h2,uC.1 h3⟩
 ·cases h
theorem wZ {A:List (List Nat)} (hA:A=ancs ops []) (hP:Pairs A lg) (hl:lg.length=ops.length) (k:Key):∀(d:List Nat),zt ops d→(d.reverse.filter fun m=>decide (k∈(lg.getD m ([],[])).2)).Pairwise (·<·):=by
 intro d
 induction d with
 | nil=>intro _;simp
 | cons i d ih =>
  intro h;rw [List.reverse_cons,List.filter_append,List.pairwise_append];refine ⟨ih h.2.2,?_,?_⟩
  ·by_cases hw:k∈(lg.getD i ([],[])).2
   ·rw [ZE (by simpa using hw)];simp
   ·rw [ZF (by simpa using hw)];simp
  ·intro m hm i' cC
   simp only [Y0,List.mem_reverse,Xn,Xo] at hm cC;obtain ⟨rfl,nQ⟩:=cC;obtain ⟨cQ,nR⟩:=hm
   rcases YW m i' with q | q | q
   ·exact q
   ·subst q;exact absurd cQ h.1
   ·
    have a7:m<lg.length:=by
     rw [hl];obtain ⟨d1,d2,rfl⟩:=Zb cQ;obtain ⟨-,⟨o,ho,-⟩,-⟩:=wa h.2.2;exact (WQ.1 ho).1
    rcases hP m i' q a7 with hh | hh
    ·obtain ⟨d1,d2,rfl⟩:=Zb cQ
     have:=yp hA m d2 (wa h.2.2) i' hh
     exact absurd (by simp [this]) h.1
    ·exact absurd nR ((yq hh).2.1 k nQ)
theorem wF (hl:lg.length=ops.length) {d:List Nat} (h:zt ops d) {m:Nat} (hm:m∈d):m<ops.length:=by
 obtain ⟨d1,d2,rfl⟩:=Zb hm;obtain ⟨-,⟨o,ho,-⟩,-⟩:=wa h;exact (WQ.1 ho).1
theorem zm (p:Nat→Bool) (n:Nat):((List.range n).filter p).Pairwise (·<·):=List.Pairwise.filter _ List.pairwise_lt_range
theorem FE {A:List (List Nat)} (hA:A=ancs ops []) (hP:Pairs A lg) (hl:lg.length=ops.length) {W:Nat→List (Key×Ent)} (hW:∀m,m<ops.length→∀k∈qh (W m),k∈(lg.getD m ([],[])).2)
  {i:Nat} {d:List Nat} (h:zt ops (i::d)) {k:Key} (hk:k∈(lg.getD i ([],[])).1) (σ:St):(xx W σ d.reverse).get k=(xx W σ (List.range i)).get k:=by
 have lh:i<ops.length:=wF hl h (by simp);rw [vD W k (fun m=>decide (k∈(lg.getD m ([],[])).2)) d.reverse σ σ (fun m hm hp hh=>by
   have:=hW m (wF hl h.2.2 (by simpa using hm)) k hh
   exact Zv hp this) rfl,
  vD W k (fun m=>decide (k∈(lg.getD m ([],[])).2)) (List.range i) σ σ (fun m hm hp hh=>by
   have:=hW m (by have:=XJ.1 hm;omega) k hh
   exact Zv hp this) rfl]
 congr 2
 refine Em (wZ hA hP hl k d h.2.2) (zm _ _) fun m=>?_
 simp only [Y0,List.mem_reverse,XJ,Xo]
 constructor
 ·rintro ⟨cQ,hw⟩
  refine ⟨?_,hw⟩
  rcases YW m i with q | q | q
  ·exact q
  ·subst q;exact absurd cQ h.1
  ·have a7:m<lg.length:=by rw [hl];exact wF hl h.2.2 cQ
   rcases hP m i q a7 with hh | hh
   ·obtain ⟨d1,d2,rfl⟩:=Zb cQ
    have:=yp hA m d2 (wa h.2.2) i hh
    exact absurd (by simp [this]) h.1
   ·exact absurd hw ((yq hh).2.2 k hk)
 ·rintro ⟨nS,hw⟩
  refine ⟨?_,hw⟩
  rcases hP i m nS (by rw [hl];exact lh) with hh | hh
  ·exact yp hA i d h m hh
  ·exact absurd hk ((yq hh).1 k hw)
theorem JQ {A:List (List Nat)} (hA:A=ancs ops []) (hP:Pairs A lg) (hl:lg.length=ops.length) {W:Nat→List (Key×Ent)} (hW:∀m,m<ops.length→∀k∈qh (W m),k∈(lg.getD m ([],[])).2)
  {d:List Nat} (h:zt ops d) (bY:∀m,m<ops.length→m∈d) (σ:St) (k:Key):(xx W σ d.reverse).get k=(xx W σ (List.range ops.length)).get k:=by
 rw [vD W k (fun m=>decide (k∈(lg.getD m ([],[])).2)) d.reverse σ σ (fun m hm hp hh=>by
   have:=hW m (wF hl h (by simpa using hm)) k hh
   exact Zv hp this) rfl,
  vD W k (fun m=>decide (k∈(lg.getD m ([],[])).2)) (List.range ops.length) σ σ (fun m hm hp hh=>by
   have:=hW m (XJ.1 hm) k hh
   exact Zv hp this) rfl]
 congr 2
 refine Em (wZ hA hP hl k d h) (zm _ _) fun m=>?_
 simp only [Y0,List.mem_reverse,XJ,Xo];exact ⟨fun ⟨h1,h2⟩=>⟨wF hl h h1,h2⟩,fun ⟨h1,h2⟩=>⟨bY m h1,h2⟩⟩
end
section
variable {P:Program} {C:Ctx} {fr:Fr} {lg:Log} {K:St→Prop}
theorem yu {i:Nat}:∀{es:List Edge},BH i es=true→∀e∈es,Region.binds .any e=true→e.on<i:=by
 intro es
 induction es with
 | nil=>intro _ e he;simp at he
 | cons x r ih =>
  intro h e he hb;simp only [BH] at h;split at h
  ·rename_i hx
   split at h
   ·rename_i b_
    rcases WW.1 he with rfl | he
    ·simp only [Nat.blt_eq] at b_;exact b_
    ·exact ih h e he hb
   ·cases h
  ·rename_i hx
   rcases WW.1 he with rfl | he
   ·rw [hb] at hx;cases hx
   ·exact ih h e he hb
theorem w5:∀{l:List Oper} {j:Nat},yv j l=true→∀(m:Nat) o,l[m]?=some o→BH (j+m) o.after.toList=true:=by
 intro l
 induction l with
 | nil=>intro j _ m o hm;simp at hm
 | cons x r ih =>
  intro j h m o hm;simp only [yv] at h;split at h
  ·rename_i hb
   cases m with
   | zero =>
    simp only [WT,WJ] at hm;subst hm;exact hb
   | succ m =>
    simp only [WR] at hm;rw [show j+(m+1)=j+1+m by omega];exact ih h m o hm
  ·cases h
def Lists (ops:Array Oper) (listed:Array Bool) (d:List Nat):Prop:=listed.size=ops.size∧∀i,i<ops.size→(listed[i]?=some true↔i∈d)∧(listed[i]?=some true∨listed[i]?=some false)
theorem Lists.getD {ops:Array Oper} {listed:Array Bool} {d:List Nat} (h:Lists ops listed d) {i:Nat} (hi:i<ops.size) (x:Bool):listed.getD i x=decide (i∈d):=by
 obtain ⟨h1,h2⟩:=h.2 i hi;rw [XK]
 by_cases hm:i∈d
 ·rw [h1.2 hm];simp [hm]
 ·rcases h2 with h2 | h2
  ·exact absurd (h1.1 h2) hm
  ·rw [h2];simp [hm]
theorem Ba {ops:Array Oper} {listed:Array Bool} {d:List Nat} (h:Lists ops listed d) (aG:yv 0 ops.toList=true) {i:Nat} :
  i∈Region.ready .any ops listed↔i ∉ d∧∃o,ops.toList[i]?=some o∧∀e∈o.after.toList,Region.binds .any e=true→e.on∈d:=by
 unfold Region.ready;simp only [Y0,XJ,XG,YX]
 constructor
 ·rintro ⟨hi,hl,ha⟩
  rw [h.getD hi] at hl;refine ⟨by simpa using hl,ops[i],by simp [hi],fun e he hb=>?_⟩;rw [W6 hi] at ha;simp only [XH,XF,YI] at ha
  have:=ha e (by simpa using he)
  simp only [hb,Bool.not_true,Bool.false_or] at this;have b_:e.on<ops.size:=by
   have:=yu (w5 aG i ops[i] (by simp [hi])) e he hb
   omega
  rw [h.getD b_] at this;simpa using this
 ·rintro ⟨hd,o,ho,he⟩
  rw [Xa] at ho;obtain ⟨hi,dH⟩:=Yg.1 ho;refine ⟨hi,by rw [h.getD hi];simpa using hd,?_⟩;rw [ho];simp only [XH,XF,YI];intro e hm
  cases hb:Region.binds .any e with
  | false=>rfl
  | true =>
   have b_:e.on<ops.size:=by
    have:=yu (w5 aG i o (by rw [Xa];exact ho)) e (by simpa using hm) hb
    omega
   rw [h.getD b_];simpa using he e (by simpa using hm) hb
theorem Lists.set {ops:Array Oper} {listed:Array Bool} {d:List Nat} (h:Lists ops listed d) {i:Nat} (hi:i<ops.size):Lists ops (listed.setIfInBounds i true) (i::d):=by
 refine ⟨by simp [h.1],fun j hj=>?_⟩;obtain ⟨h1,h2⟩:=h.2 j hj;rw [Xp]
 by_cases he:i=j
 ·subst he
  rw [WY rfl,WY (by rw [h.1];exact hi)];simp
 ·rw [WZ he]
  refine ⟨?_,h2⟩;rw [h1,WW];exact ⟨.inr,fun q=>q.elim (fun e=>absurd e.symm he) id⟩
theorem Lists.nil (ops:Array Oper):Lists ops (Array.replicate ops.size false) [] :=
 ⟨by simp,fun i hi=>by simp [Array.getElem?_replicate,hi]⟩
theorem Ft {ops:List Oper}:∀{d:List Nat},zt ops d→d.Nodup:=by
 intro d
 induction d with
 | nil=>intro _;exact List.nodup_nil
 | cons i d ih=>intro h;exact Yd.2 ⟨h.1,ih h.2.2⟩
theorem Fq:∀(n:Nat) (d:List Nat),d.Nodup→(∀m∈d,m<n)→d.length≤n:=by
 intro n
 induction n with
 | zero =>
  intro d _ h
  cases d with
  | nil=>simp
  | cons x r=>exact absurd (h x (by simp)) (by omega)
 | succ n ih =>
  intro d hd h;have h1:(d.erase n).Nodup:=hd.erase n;have h2:=ih (d.erase n) h1 fun m hm=>by
   have:=(hd.mem_erase_iff).1 hm
   have:=h m this.2
   omega
  have:=List.length_erase (a:=n) (l:=d)
  split at this<;>omega
theorem IT (hG:Good P C.tab) {ops:Array Oper} {Q:Exit→Act→World→Prop} {tm0:Array Value} (dS:wW C ops.toList=true) (hQ:∀a w,Left C fr tm0 K a w→Q .normal a w) {W:Nat→List (Key×Ent)} {σ0:St}
  (hP:Pairs (ancs ops.toList []) lg) (aG:yv 0 ops.toList=true) (hl:lg.length=ops.toList.length)
  (hK:K (xx W σ0 (List.range ops.toList.length)))
  (aH:∀(m:Nat) o,ops.toList[m]?=some o→Bm P C ops.toList m o (xx W σ0 (List.range m)) (W m)∧(∀k∈A9 C ops.toList m o (xx W σ0 (List.range m)),k∈(lg.getD m ([],[])).1) ∧
   ∀k∈qh (W m),k∈(lg.getD m ([],[])).2) :
  ∀(fuel:Nat) (d:List Nat) (listed:Array Bool) (a:Act) (w:World) (γ:Key→Option Nat),Lists ops listed d→zt ops.toList d→ops.size≤fuel+d.length →
   a.defers=[]→a.tmps.size=C.nt→Pinned C tm0 a.tmps→Rel C.tab fr a.tmps w (xx W σ0 d.reverse) γ→Wf C (fun j=>j∈d) (xx W σ0 d.reverse)→wpAny P .any ops Q fuel listed a w:=by
 have mI:∀m,m<ops.toList.length→∀k∈qh (W m),k∈(lg.getD m ([],[])).2:=fun m hm=>(aH m _ (WL hm)).2.2;have fin:∀(d:List Nat) (listed:Array Bool) (a:Act) (w:World) (γ:Key→Option Nat),Lists ops listed d→zt ops.toList d→Region.ready .any ops listed=[]→a.defers=[]→a.tmps.size=C.nt→Pinned C tm0 a.tmps →
   Rel C.tab fr a.tmps w (xx W σ0 d.reverse) γ→Q .normal a w:=by
  intro d listed a w γ hL hd hr h1 h2 hp h3;have bY:∀m,m<ops.toList.length→m∈d:=by
   intro m
   induction m using Nat.strongRecOn with
   | _ m ih =>
    intro hm
    by_cases cQ:m∈d
    ·exact cQ
    ·have:m∈Region.ready .any ops listed:=(Ba hL aG).2 ⟨cQ,_,WL hm,fun e he hb=>by
      have:=yu (w5 aG m _ (WL hm)) e he hb
      rw [WV] at this;exact ih e.on this (by omega)⟩
     rw [hr] at this;simp at this
  exact hQ a w ⟨h1,h2,hp,_,γ,hK,h3.congr fun k=>(JQ rfl hP hl mI hd bY σ0 k).symm⟩
 intro fuel
 induction fuel with
 | zero =>
  intro d listed a w γ hL hd hf h1 h2 hp h3 h4;have hr:Region.ready .any ops listed=[]:=by
   cases hr:Region.ready .any ops listed with
   | nil=>rfl
   | cons i r =>
    obtain ⟨hid,o,ho,-⟩:=(Ba hL aG (i:=i)).1 (by rw [hr];simp);have jU:=Yd.2 ⟨hid,Ft hd⟩
    have:=Fq ops.size (i::d) jU fun m hm=>by
     rcases WW.1 hm with rfl | hm
     ·have:=(WQ.1 ho).1;simpa using this
     ·have:=wF hl hd hm;simpa using this
    simp at this;omega
  exact ⟨hr,fin d listed a w γ hL hd hr h1 h2 hp h3⟩
 | succ fuel ih =>
  intro d listed a w γ hL hd hf h1 h2 hp h3 h4;refine ⟨fun hr=>fin d listed a w γ hL hd hr h1 h2 hp h3,fun i hi=>?_⟩;obtain ⟨hid,o,ho,nT⟩:=(Ba hL aG (i:=i)).1 hi;have jY:zt ops.toList (i::d):=⟨hid,⟨o,ho,nT⟩,hd⟩;have lh:i<ops.size:=by have:=(WQ.1 ho).1;simpa using this
  obtain ⟨hs,gH,jZ⟩:=aH i o ho;have bj:=Iv (τ:=xx W σ0 d.reverse) (fun k hk=>FE rfl hP hl mI jY (gH k hk) σ0) hs;have jk:=B2 dS (o:=o) (XR ho);have hg:=DI (Q:=Q) (K:=fun σ'=>σ'=xx W σ0 (i::d).reverse) hG h3 h4 h2 (i:=i) hid (o:=o) (ops:=ops)
   ((KB ⟨(fun c k f hh=>by unfold Bm at bj;rw [hh] at bj;exact bj),(fun c k f ws hh=>by unfold Bm at bj;rw [hh] at bj;exact bj)⟩).2 ⟨W i,bj,by rw [List.reverse_cons,FH];rfl⟩)
  have cP:∀a' w',After C fr (fun k=>k∈d∨k=i) (fun σ'=>σ'=xx W σ0 (i::d).reverse) a' w'→Pinned C tm0 a'.tmps→wpAny P .any ops Q fuel (listed.setIfInBounds i true) a' w' := by
   rintro a' w' ⟨q1,q2,σ',γ',rfl,q4,q5⟩ eT;refine ih (i::d) _ a' w' γ' (hL.set lh) jY (by simp;omega) q1 q2 eT q4 ⟨fun k e tag he hh=>(q5.tags k e tag he hh).imp id fun ⟨j,hj,e⟩=>⟨j,?_,e⟩,q5.dom,q5.paths⟩
   rcases hj with hj | hj
   ·simp [hj]
   ·simp [hj]
  have ha:=Aa h1;have dH:ops[i]?=some o:=by rw [←Xa];exact ho
  unfold wpOp;rw [dH];simp only;rw [ha];split
  ·rename_i hw
   rw [WY hw] at hg;refine .inl (Oper.wp_mono ?_ (Oper.wp_put hg));rintro a' w' ⟨q,v,hv⟩;exact cP _ _ q (hp.trans (by rw [hv];exact Pinned.put jk))
  ·rename_i hw
   rw [WZ hw] at hg;exact cP _ _ hg (hp.trans (Pinned.put jk))
theorem CG (ops:List Oper):∀(l:List (Nat×Oper)) (σ:St),(BV C ops l σ).length=l.length:=by
 intro l
 induction l with
 | nil=>intro σ;rfl
 | cons x r ih=>intro σ;obtain ⟨i,o⟩:=x;simp only [BV,W4,ih]
theorem AR:∀(l:List Oper) (j:Nat),(numbered j l).length=l.length:=by
 intro l
 induction l with
 | nil=>intro j;rfl
 | cons x r ih=>intro j;simp only [numbered,W4,ih]
theorem CW (hG:Good P C.tab) (hm:P.follows .mixedOrders=true) {id:Nat} {ops:Array Oper} {draw:Bool} {Q:Exit→Act→World→Prop} {tm:Array Value} (hQ:∀a w,Left C fr tm K a w→Q .normal a w)
  {w:World} {σ:St} {γ:Key→Option Nat} (f_:tm.size=C.nt) (h:Rel C.tab fr tm w σ γ) (hW:CV P C id ops.toList draw K σ):(Code.region id ops draw).wp P Q ⟨tm,[]⟩ w:=by
 obtain ⟨γ',h',g_⟩:=h.start (C:=C) hG (Qw C id);unfold CV at hW;split at hW
 ·exact hW.elim
 ·rename_i dS
  cases draw with
  | false =>
   simp only at hW;exact wp_region_list (Ia hG hQ ops.toList dS 0 (fun _=>False) (fun k hk=>hk.elim) ⟨tm,[]⟩ w _ γ' rfl f_ (fun _ _=>rfl) h' g_ hW)
  | true =>
   simp only at hW;split at hW
   ·rename_i hp hb
    refine wp_region_any hm ?_;obtain ⟨W,q1,q2⟩:=KE ops.toList 0 _ hW
    have n_:Rel C.tab fr tm { w with drawn:=w.drawn+1 } (pW C (Qw C id) σ) γ' := h'.world hG g_ (w' := { w with drawn:=w.drawn+1 }) rfl rfl rfl rfl;refine IT (lg:=BV C ops.toList (numbered 0 ops.toList) (pW C (Qw C id) σ)) hG dS hQ (ML hp) hb (by rw [CG,AR]) (by rw [List.range_eq_range'];exact q1) (fun m o hm=>?_) ops.size [] _ _ _ γ' (Lists.nil ops) trivial (by simp) rfl f_ (fun _ _=>rfl) n_ ?_
    ·have:=q2 m o hm
     rw [WV] at this;rw [List.range_eq_range'];exact this
    ·exact ⟨fun k e tag he hh=>(g_.tags k e tag he hh).imp (fun q=>q) fun ⟨j,hj,_⟩=>hj.elim,g_.dom,g_.paths⟩
   ·exact hW.elim
end
section
variable {P:Program} {C:Ctx}
def Uo (C:Ctx) (fr:Fr) (tm:Array Value) (Q:Exit→St→Prop):Exit→Act→World→Prop:=fun e a' w'=>a'.defers=[]∧a'.tmps.size=C.nt∧Pinned C tm a'.tmps∧∃σ' γ',Q e σ'∧Rel C.tab fr a'.tmps w' σ' γ'
theorem SW.mono {c:Code} {Q Q':Exit→St→Prop} (hq:∀e σ,Q e σ→Q' e σ) {σ:St} (h:SW P C c Q σ):SW P C c Q' σ:=by
 intro fr tm w γ f_ hr;refine wp_mono (h fr tm w γ f_ hr) ?_;rintro e a' w' ⟨h1,h2,hp,σ',γ',h3,h4⟩;exact ⟨h1,h2,hp,σ',γ',hq _ _ h3,h4⟩
theorem SW.congr {c:Code} {Q:Exit→St→Prop} {σ σ':St} (h:SW P C c Q σ) (he:∀k,σ.get k=σ'.get k):SW P C c Q σ' :=
 fun fr tm w γ f_ hr=>h fr tm w γ f_ (hr.congr he)
theorem vd (hG:Good P C.tab) (hm:P.follows .mixedOrders=true):∀(c:Code) (Q:Exit→St→Prop) (σ:St),Cv P C c Q σ→SW P C c Q σ:=by
 intro c
 induction c with
 | skip=>intro Q σ h fr tm w γ f_ hr;refine Go.wp_skip ?_;exact ⟨rfl,f_,fun _ _=>rfl,σ,γ,h,hr⟩
 | exit id=>intro Q σ h fr tm w γ f_ hr;refine wp_exit ?_;exact ⟨rfl,f_,fun _ _=>rfl,σ,γ,h,hr⟩
 | ret=>intro Q σ h fr tm w γ f_ hr;refine wp_ret ?_;exact ⟨rfl,f_,fun _ _=>rfl,σ,γ,h,hr⟩
 | region id ops draw =>
  intro Q σ h fr tm w γ f_ hr;refine CW (fr:=fr) (K:=Q .normal) hG hm ?_ f_ hr h;rintro a w' ⟨h1,h2,hp,σ',γ',h3,h4⟩;exact ⟨h1,h2,hp,σ',γ',h3,h4⟩
 | seq a b iha ihb =>
  intro Q σ h fr tm w γ f_ hr;refine wp_seq (wp_mono (iha _ σ h fr tm w γ f_ hr) ?_);rintro e a' w' ⟨h1,h2,hp,σ',γ',h3,h4⟩
  cases e with
  | normal =>
   rw [Aa h1];refine wp_mono (ihb Q σ' h3 fr a'.tmps w' γ' h2 h4) ?_;rintro e a2 w2 ⟨k1,k2,kp,k⟩;exact ⟨k1,k2,Pinned.trans hp kp,k⟩
  | _=>exact ⟨h1,h2,hp,σ',γ',h3,h4⟩
 | cond c x y ihx ihy =>
  intro Q σ h fr tm w γ f_ hr;simp only [Cv] at h;split at h
  ·rename_i s
   split at h
   ·rename_i ty t hs
    split at h
    ·rename_i hk
     obtain ⟨v,hv,hV,-⟩:=hr.ent _ _ hs;rw [pz] at hv;have hV:=hV trivial;obtain ⟨c',ti,h1,h2⟩:=vm hk (by simp);obtain ⟨t2,h3,-⟩:=id hV
     have:=pu h1 h3
     simp only [WK] at this;obtain ⟨rfl,rfl⟩:=this;obtain ⟨q1,-⟩:=ze h1 h2 hV;refine wp_cond_split (t:=t.bool) ?_ (fun e=>ihx Q σ (h.1 e) fr tm w γ f_ hr) (fun e=>ihy Q σ (h.2 e) fr tm w γ f_ hr)
     have:Act.eval ⟨tm,[]⟩ (.tmp s)=v:=by
      simp [Act.eval,hv]
     rw [this,q1]
    ·exact h.elim
   ·exact h.elim
  ·exact wp_cond_true rfl (ihx Q σ h fr tm w γ f_ hr)
  ·exact wp_cond_false rfl (ihy Q σ h fr tm w γ f_ hr)
  ·exact h.elim
 | block id body ih =>
  intro Q σ h fr tm w γ f_ hr;refine wp_block (wp_mono (ih _ σ h fr tm w γ f_ hr) ?_);rintro e a' w' ⟨h1,h2,hp,σ',γ',h3,h4⟩
  cases e with
  | exit i =>
   simp only [F4] at h3;simp only [Exit.inBlock];split at h3
   ·rename_i hb
    rw [WY (WO hb)];exact ⟨h1,h2,hp,σ',γ',h3,h4⟩
   ·rename_i hb
    rw [WZ (fun q=>by subst q;simp at hb)];exact ⟨h1,h2,hp,σ',γ',h3,h4⟩
  | _=>exact ⟨h1,h2,hp,σ',γ',h3,h4⟩
 | loop body ih=>intro Q σ h;exact h
 | rangeFunc=>intro Q σ h;exact h.elim
 | scope=>intro Q σ h;exact h.elim
 | label=>intro Q σ h;exact h.elim
 | goto=>intro Q σ h;exact h.elim
 | refuse=>intro Q σ h;exact h.elim
end
abbrev Sk:=List (Key×AV)
def He:Sk→St
 | []=>[]
 | (k,a)::r=>(k,top a)::He r
def BA:AV→Option Ent→Prop
 | .t c x,some ⟨[],.t c' x'⟩=>match Nat.beq c c' with
  | true=>x'=x
  | false=>False
 | .own c _ xs,some ⟨[],.own c' _ xs'⟩=>match Nat.beq c c' with
  | true=>xs'=xs
  | false=>False
 | .box c _ n,some ⟨[],.box c' _ n'⟩=>match Nat.beq c c',Nat.beq n n' with
  | true,true=>True
  | _,_=>False
 | .pl c x off,some ⟨[],.pl c' x' off'⟩=>match Nat.beq c c',Nat.beq off off' with
  | true,true=>x'=x
  | _,_=>False
 | .ptr s _ c,some ⟨[],.ptr s' _ c'⟩=>match Nat.beq s s',Nat.beq c c' with
  | true,true=>True
  | _,_=>False
 | .alias h _ c off len,some ⟨[],.alias h' _ c' off' len'⟩=>match h.eq h',Nat.beq c c',Nat.beq off off' with
  | true,true,true=>len'=len
  | _,_,_=>False
 | _,_=>False
def UG:Sk→St→Prop
 | [],_=>True
 | (k,a)::r,σ=>BA a (σ.get k)∧UG r σ
def AV.t6:AV→Bool
 | .t ..=>true
 | .own _ tag _=>Nat.beq tag 0
 | .box _ tag _=>Nat.beq tag 0
 | .pl ..=>true
 | .ptr _ tag _=>Nat.beq tag 0
 | .alias _ tag _ _ _=>Nat.beq tag 0
 | _=>false
def AV.Tm:AV→Bool
 | .box ..=>true
 | _=>false
def Dp (s:Nat):Sk→Bool
 | []=>false
 | (k,a)::r=>match k.eq (pp s) with
  | true=>a.Tm
  | false=>Dp s r
def AV.TM (S:Sk):AV→Bool
 | .ptr s _ _=>Dp s S
 | _=>true
def QQ (C:Ctx) (S:Sk):Sk→Bool
 | []=>true
 | (k,a)::r=>match qY C k.a,a.t6,a.TM S with
  | true,true,true=>match k.tag with
   | 0=>QQ C S r
   | 1=>match Dp k.a S with
    | true=>QQ C S r
    | false=>false
   | _=>false
  | _,_,_=>false
def Lh:Sk→List Key
 | []=>[]
 | (k,_)::r=>k::Lh r
def okS (C:Ctx) (S:Sk):Bool:=match v8 (Lh S) with
 | true=>QQ C S S
 | false=>false
def HN:Sk→List Key
 | []=>[]
 | (k,.t _ _)::r=>k::HN r
 | _::r=>HN r
def Qu (C:Ctx) (S:Sk) (σ:St):Prop:=UG S (pW C (HN S) σ)
section
variable {P:Program} {C:Ctx} {fr:Fr} {tm:Array Value} {w:World} {σ:St} {γ:Key→Option Nat}
theorem Rel.sub {τ:St} (h:Rel C.tab fr tm w σ γ) (hs:∀k e,τ.get k=some e→σ.get k=some e∧e.path=[])
  (dT:∀s n e,τ.get (cell s n)=some e→∃c tag m,τ.get (pp s)=some ⟨[],.box c tag m⟩) (bF:∀s j,τ.get (comp s j)=none):Rel C.tab fr tm w τ γ where
 os:=h.os
 tape:=h.tape
 output:=h.output
 size:=h.size
 old:=h.old
 low:=h.low
 inj:=h.inj
 blk:=h.blk
 cel:=dT
 cmp s j e he:=by rw [bF] at he;cases he
 ent k e hk:=by
  obtain ⟨q1,q2⟩:=hs k e hk;obtain ⟨v,h1,h2,-⟩:=h.ent k e q1;refine ⟨v,h1,fun _=>?_,fun q=>absurd (by rw [q2];trivial) q⟩
  have:=h2 (by rw [q2];trivial)
  cases j_:e.av with
  | alias h0 tag c off len=>rw [j_] at this;intro c' xs hx;exact this c' xs (hs _ _ hx).1
  | ptr s tag c=>rw [j_] at this;intro cb n hx;exact this cb n (hs _ _ hx).1
  | tcp s tag=>rw [j_] at this;intro p hx;exact this p (hs _ _ hx).1
  | eptr h0 tag j c=>rw [j_] at this;intro c' xs hx;exact this c' xs (hs _ _ hx).1
  | _=>rw [j_] at this;exact this
theorem Ny {S:Sk} {k:Key} {e:Ent} (h:(He S).get k=some e):∃a,(k,a)∈S∧e=top a:=by
 induction S with
 | nil=>simp [He,St.get] at h
 | cons x r ih =>
  obtain ⟨k',a⟩:=x;simp only [He,St.get] at h;split at h
  ·rename_i hk
   have:=Key.qs.1 hk
   subst this;exact ⟨a,by simp,(W3 h).symm⟩
  ·obtain ⟨a',h1,h2⟩:=ih h
   exact ⟨a',by simp [h1],h2⟩
theorem Ml {S:Sk} (h:UG S σ) {k:Key} {a:AV} (hm:(k,a)∈S):BA a (σ.get k):=by
 induction S with
 | nil=>simp at hm
 | cons x r ih =>
  obtain ⟨k',a'⟩:=x
  rcases WW.1 hm with q | q
  ·simp only [WK] at q
   rw [q.1,q.2];exact h.1
  ·exact ih h.2 q
theorem I6 {s:Nat} {S:Sk} (h:Dp s S=true):∃c tag m,(He S).get (pp s)=some ⟨[],.box c tag m⟩:=by
 induction S with
 | nil=>simp [Dp] at h
 | cons x r ih =>
  obtain ⟨k,a⟩:=x;simp only [Dp] at h;simp only [He,St.get];split at h
  ·rename_i hk
   rw [hk];cases a<;>simp [AV.Tm] at h;exact ⟨_,_,_,rfl⟩
  ·rename_i hk
   rw [hk];exact ih h
theorem CL {S:Sk}:∀{r:Sk},QQ C S r=true→∀{k:Key} {a:AV},(k,a)∈r→qY C k.a=true∧a.t6=true∧(k.tag=0∨(k.tag=1∧Dp k.a S=true))∧a.TM S=true:=by
 intro r
 induction r with
 | nil=>intro _ k a h;simp at h
 | cons x r ih =>
  obtain ⟨k',a'⟩:=x;intro h k a hm;simp only [QQ] at h;split at h
  ·rename_i h1 h2 nU
   have hr:QQ C S r=true∧(k'.tag=0∨(k'.tag=1∧Dp k'.a S=true)):=by
    split at h
    ·rename_i ht;exact ⟨h,.inl ht⟩
    ·rename_i ht
     split at h
     ·rename_i hb;exact ⟨h,.inr ⟨ht,hb⟩⟩
     ·cases h
    ·cases h
   rcases WW.1 hm with q | q
   ·simp only [WK] at q
    obtain ⟨rfl,rfl⟩:=q;exact ⟨h1,h2,hr.2,nU⟩
   ·exact ih hr.1 q
  ·cases h
theorem QR {S:Sk} (h:okS C S=true):v8 (Lh S)=true∧QQ C S S=true:=by
 unfold okS at h;split at h
 ·rename_i h1;exact ⟨h1,h⟩
 ·cases h
theorem Mj {a:AV} {e:Ent} (h:BA a (some e)) (ht:a.t6=true) (hz:∀tag,e.av.re=some tag→tag=0):e=top a:=by
 obtain ⟨p,av⟩:=e
 cases p with
 | cons=>cases a<;>cases av<;>exact h.elim
 | nil =>
  cases a<;>cases av<;>first | exact h.elim | skip
  ·simp only [BA] at h
   split at h
   ·rename_i hc;subst h;rw [WO hc];rfl
   ·exact h.elim
  ·rename_i c tag xs c' tag' xs'
   simp only [BA] at h;split at h
   ·rename_i hc
    subst h;have h1:=WO ht;have h2:=hz tag' rfl;subst h1;subst h2;rw [WO hc];rfl
   ·exact h.elim
  ·rename_i c tag n c' tag' n'
   simp only [BA] at h;split at h
   ·rename_i hc hn
    have h1:=WO ht;have h2:=hz tag' rfl;subst h1;subst h2;rw [WO hc,WO hn];rfl
   ·exact h.elim
  ·rename_i k tag c off len k' tag' c' off' len'
   simp only [BA] at h;split at h
   ·rename_i hk hc hn
    subst h;have h1:=WO ht;have h2:=hz tag' rfl;subst h1;subst h2;rw [Key.qs.1 hk,WO hc,WO hn];rfl
   ·exact h.elim
  ·rename_i s tag c s' tag' c'
   simp only [BA] at h;split at h
   ·rename_i hc hn
    have h1:=WO ht;have h2:=hz tag' rfl;subst h1;subst h2;rw [WO hc,WO hn];rfl
   ·exact h.elim
  ·simp only [BA] at h
   split at h
   ·rename_i hc hn;subst h;rw [WO hc,WO hn];rfl
   ·exact h.elim
theorem Rel.fit (hG:Good P C.tab) (h:Rel C.tab fr tm w σ γ) {S:Sk} (l_:okS C S=true) (hf:Qu C S σ):∃γ',Rel C.tab fr tm w (He S) γ' := by
 obtain ⟨hn,gI⟩:=QR l_;obtain ⟨γ',h',g_⟩:=h.start (C:=C) hG (HN S);have o_:∀k e,(He S).get k=some e→∃a,(k,a)∈S∧e=top a∧(pW C (HN S) σ).get k=some e:=by
  intro k e he;obtain ⟨a,hm,rfl⟩:=Ny he;obtain ⟨q1,q2,q3,q4⟩:=CL gI hm;refine ⟨a,hm,rfl,?_⟩;have dN:=Ml hf hm
  cases hk:(pW C (HN S) σ).get k with
  | none=>rw [hk] at dN;cases a<;>exact dN.elim
  | some e0 =>
   rw [hk] at dN;rw [Mj dN q2 fun tag ht=>(g_.tags k e0 tag hk ht).elim id fun ⟨_,q,_⟩=>q.elim]
 refine ⟨γ',h'.sub (fun k e he=>?_) (fun s n e he=>?_) (fun s j=>?_)⟩
 ·obtain ⟨a,hm,rfl,hh⟩:=o_ k e he
  exact ⟨hh,rfl⟩
 ·obtain ⟨a,hm,rfl,-⟩:=o_ _ e he
  obtain ⟨-,-,q3,-⟩:=CL gI hm
  rcases q3 with q | ⟨-,q⟩
  ·simp [cell] at q
  ·exact I6 q
 ·cases hx:(He S).get (comp s j) with
  | none=>rfl
  | some e =>
   obtain ⟨a,hm,-,-⟩:=o_ _ e hx;obtain ⟨-,-,q3,-⟩:=CL gI hm
   rcases q3 with q | ⟨q,-⟩<;>simp [comp] at q
theorem SW.fit (hG:Good P C.tab) {c:Code} {Q:Exit→St→Prop} {S:Sk} (l_:okS C S=true) (h:SW P C c Q (He S)) (hf:Qu C S σ):SW P C c Q σ:=by
 intro fr tm w γ f_ hr;obtain ⟨γ',h'⟩:=hr.fit hG l_ hf;exact h fr tm w γ' f_ h'
theorem NI {a b:Code} {Q:Exit→St→Prop} (h:SW P C a (Iz (SW P C b Q) Q) σ):SW P C (.seq a b) Q σ:=by
 intro fr tm w γ f_ hr;refine wp_seq (wp_mono (h fr tm w γ f_ hr) ?_);rintro e a' w' ⟨h1,h2,hp,σ',γ',h3,h4⟩
 cases e with
 | normal =>
  rw [Aa h1];refine wp_mono (h3 fr a'.tmps w' γ' h2 h4) ?_;rintro e a2 w2 ⟨k1,k2,kp,k⟩;exact ⟨k1,k2,Pinned.trans hp kp,k⟩
 | _=>exact ⟨h1,h2,hp,σ',γ',h3,h4⟩
theorem OC (hG:Good P C.tab) {ι:Type} (S:ι→Sk) (μ:ι→Nat) {body:Code} {Q:Exit→St→Prop} (l_:∀i,okS C (S i)=true) (i0:ι) (h0:Qu C (S i0) σ)
  (round:∀i,SW P C body (Iz (fun σ'=>∃j,μ j<μ i∧Qu C (S j) σ') Q) (He (S i))):SW P C (.loop body) Q σ:=by
 refine SW.fit hG (l_ i0) ?_ h0;intro fr tm0 w γ f_ hr;have key:∀(n:Nat) (i:ι),μ i<n→∀(tm:Array Value) (w:World) (γ:Key→Option Nat),tm.size=C.nt→Pinned C tm0 tm→Rel C.tab fr tm w (He (S i)) γ→Code.rounds P body (Uo C fr tm0 Q) n ⟨tm,[]⟩ w:=by
  intro n
  induction n with
  | zero=>intro i hi;omega
  | succ n ih =>
   intro i hi tm w γ f_ dD hr;rw [rounds_succ];refine wp_mono (round i fr tm w γ f_ hr) ?_;rintro e a' w' ⟨h1,h2,hp,σ',γ',h3,h4⟩
   cases e with
   | normal =>
    obtain ⟨j,hj,hf⟩:=h3;obtain ⟨γ2,h5⟩:=h4.fit hG (l_ j) hf;rw [Aa h1];exact ih j (by omega) a'.tmps w' γ2 h2 (dD.trans hp) h5
   | _=>exact ⟨h1,h2,dD.trans hp,σ',γ',h3,h4⟩
 exact wp_loop_rounds _ (key (μ i0+1) i0 (by omega) tm0 w γ f_ (fun _ _=>rfl) hr)
end
def GR (s:Nat):Nat→Nat→List Key
 | _,0=>[]
 | c,n+1=>cell s c::GR s (c+1) n
def sD (tab:Tab):List ResultVar→Shape→List Key
 | .tmp t::rs,(_,_,false)::sh=>pp t::sD tab rs sh
 | .tmp _::rs,(_,_,true)::sh=>sD tab rs sh
 | .cell a ty::rs,_::sh=>match tab.at ty with
  | some (_,ti)=>GR a 0 ti.cells++sD tab rs sh
  | none=>sD tab rs sh
 | [],(k,_,false)::sh=>k::sD tab [] sh
 | [],(_,_,true)::sh=>sD tab [] sh
 | _,[]=>[]
def MQ (s:Nat):(c:Nat)→List TypeId→St→(List T→Prop)→Prop
 | _,[],_,k=>k []
 | c,ty::tys,σ,k=>match σ.get (cell s c) with
  | some ⟨[],.t c' x⟩=>match Nat.beq c' ty with
   | true=>MQ s (c+1) tys σ fun l=>k (x::l)
   | false=>False
  | _=>False
def N5 (σ:St) (k:Key) (ty:TypeId) (o:Bool) (y:T):Prop:=match o with
 | false=>BA (.t ty y) (σ.get k)
 | true=>match σ.get k with
  | some ⟨[],.own c _ xs⟩=>match Nat.beq c ty with
   | true=>T.l xs=y
   | false=>False
  | _=>False
def Ui (tab:Tab) (σ:St) (r:ResultVar) (ty:TypeId) (o:Bool) (y:T):Prop :=
 match r with
 | .tmp t=>N5 σ (pp t) ty o y
 | .cell a t=>match o,tab.at t with
  | false,some (ct,ti)=>match Nat.beq ct ty,ti.isS with
   | true,true=>match σ.get (pp a) with
    | some ⟨[],.box _ _ _⟩=>MQ a 0 ti.leaves σ fun l=>T.g l=y
    | _=>False
   | _,_=>False
  | _,_=>False
def OL:Nat→List Arg→St→Prop
 | _,[],_=>True
 | j,.box c n _::r,σ=>BA (.box c 0 n) (σ.get (pp j))∧OL (j+1) r σ
 | j,_::r,σ=>OL (j+1) r σ
def RQ (tab:Tab):List ResultVar→Shape→List T→St→Prop
 | r::rs,(_,ty,o)::sh,y::ys,σ=>Ui tab σ r ty o y∧RQ tab rs sh ys σ
 | [],(k,ty,o)::sh,y::ys,σ=>N5 σ k ty o y∧RQ tab [] sh ys σ
 | [],[],[],_=>True
 | _,_,_,_=>False
def RW (C:Ctx) (args:List Arg) (res:List ResultVar) (sh:Shape) (ys:List T):Exit→St→Prop
 | .normal,σ | .ret,σ=>OL 0 args (pW C (sD C.tab res sh) σ)∧RQ C.tab res sh ys (pW C (sD C.tab res sh) σ)
 | _,_=>False
def qU:List ResultVar→Shape→List (Key×Key)
 | .tmp t::rs,(k,_,true)::sh=>(k,pp t)::qU rs sh
 | _::rs,_::sh=>qU rs sh
 | [],(k,_,true)::sh=>(k,k)::qU [] sh
 | [],(_,_,false)::sh=>qU [] sh
 | _,[]=>[]
def w9:Nat→List Arg→List (Key×Key)
 | _,[]=>[]
 | j,.box _ _ _::r=>(pp j,pp j)::w9 (j+1) r
 | j,_::r=>w9 (j+1) r
def TZ:List (Key×Key)→List Key
 | []=>[]
 | (_,k)::r=>k::TZ r
def Gs:Option Arg→Nat→Bool
 | some (.box _ n _),c=>Nat.blt c n
 | _,_=>false
def yA (args:List Arg):Shape→Bool
 | []=>true
 | (k,_,_)::sh=>match k.eq (cell k.a k.b),Gs args[k.a]? k.b with
  | true,true=>yA args sh
  | _,_=>false
def An (args:List Arg) (n:Nat):Nat→List ResultVar→Shape→Bool
 | _,[],sh=>yA args sh
 | j,_::rs,(k,_,_)::sh=>match k.eq (comp n j) with
  | true=>An args n (j+1) rs sh
  | false=>false
 | _,_::_,[]=>false
def zn (args:List Arg) (res:List ResultVar) (sh:Shape):Bool:=match res with
 | []=>yA args sh
 | [_]=>match sh with
  | (k,_,_)::sh=>match k.eq (pp args.length) with
   | true=>yA args sh
   | false=>false
  | []=>false
 | res=>match Nat.ble res.length 1000 with
  | true=>An args args.length 0 res sh
  | false=>false
def RR:List AV→Bool
 | []=>true
 | .t _ _::r=>RR r
 | .own _ _ _::r=>RR r
 | _=>false
def Ae:List Arg→Bool
 | []=>true
 | .box _ _ cs::r=>match RR cs with
  | true=>Ae r
  | false=>false
 | _::r=>Ae r
def Bj (args:List Arg) (res:List ResultVar) (sh:Shape):Bool :=
 match v8 (sV sh),v8 (TZ (qU res sh++w9 0 args)),zn args res sh,Ae args with
 | true,true,true,true=>true
 | _,_,_,_=>false
def A1:Nat→List Arg→List Nat
 | _,[]=>[]
 | j,.box _ _ _::r=>j::A1 (j+1) r
 | j,_::r=>A1 (j+1) r
def T1:List Nat→List Nat→Bool
 | [],_=>true
 | x::r,l=>match Fp l x with
  | true=>T1 r l
  | false=>false
section
variable {P:Program} {C:Ctx} {fr:Fr} {tm tm':Array Value} {w:World} {σ τ:St} {γ:Key→Option Nat}
theorem Rel.tmps (h:Rel C.tab fr tm w σ γ) (hs:∀k e,σ.get k=some e→pJ tm' w γ k=pJ tm w γ k∧e.av.home=none):Rel C.tab fr tm' w σ γ where
 os:=h.os
 tape:=h.tape
 output:=h.output
 size:=h.size
 old:=h.old
 low:=h.low
 inj:=h.inj
 blk:=h.blk
 cel:=h.cel
 cmp:=h.cmp
 ent k e hk:=by
  obtain ⟨q1,q3⟩:=hs k e hk;obtain ⟨v,h1,h2,h4⟩:=h.ent k e hk;refine ⟨v,by rw [q1];exact h1,fun hh=>?_,h4⟩
  have:=h2 hh
  cases j_:e.av<;>rw [j_] at this q3<;>first | exact this | simp [AV.home] at q3
theorem Nr {cs:List AV} (h:RR cs=true) {m:Nat} {a:AV} (hm:cs[m]?=some a):a.home=none:=by
 induction cs generalizing m with
 | nil=>simp at hm
 | cons x r ih =>
  cases m with
  | zero =>
   simp only [WT,WJ] at hm;subst hm;cases x<;>simp [RR] at h<;>rfl
  | succ m =>
   simp only [WR] at hm;cases x<;>simp only [RR] at h<;>first | exact ih h hm | cases h
theorem IU:∀(l:List Arg) (j:Nat) (k:Key) (e:Ent),Ae l=true→(rO j l).get k=some e→(∃t c,(k=pp t∨k=cell t c)∧j≤t∧t<j+l.length)∧e.av.home=none:=by
 intro l
 induction l with
 | nil=>intro j k e _ he;simp [rO,St.get] at he
 | cons a r ih =>
  intro j k e l_ he;have rest:∀{r'},Ae r'=true→r'=r→(rO (j+1) r).get k=some e→(∃t c,(k=pp t∨k=cell t c)∧j≤t∧t<j+(a::r).length)∧e.av.home=none:=by
   intro r' h1 h2 h3;subst h2;obtain ⟨⟨t,c,q1,q2,q3⟩,q4⟩:=ih (j+1) k e h1 h3;exact ⟨⟨t,c,q1,by omega,by simp only [W4];omega⟩,q4⟩
  cases a with
  | t c x =>
   simp only [rO,St.get] at he;split at he
   ·rename_i hk
    have:=Key.qs.1 hk
    simp only [WJ] at he;subst he;exact ⟨⟨j,0,.inl this.symm,WU _,by simp⟩,rfl⟩
   ·exact rest (r' := r) l_ rfl he
  | own c xs =>
   simp only [rO,St.get] at he;split at he
   ·rename_i hk
    have:=Key.qs.1 hk
    simp only [WJ] at he;subst he;exact ⟨⟨j,0,.inl this.symm,WU _,by simp⟩,rfl⟩
   ·exact rest (r' := r) l_ rfl he
  | pl c x =>
   simp only [rO,St.get] at he;split at he
   ·rename_i hk
    have:=Key.qs.1 hk
    simp only [WJ] at he;subst he;exact ⟨⟨j,0,.inl this.symm,WU _,by simp⟩,rfl⟩
   ·exact rest (r' := r) l_ rfl he
  | box c n cs =>
   simp only [Ae] at l_;split at l_
   ·rename_i nV
    simp only [rO,St.get] at he;split at he
    ·rename_i hk
     have:=Key.qs.1 hk
     simp only [WJ] at he;subst he;exact ⟨⟨j,0,.inl this.symm,WU _,by simp⟩,rfl⟩
    ·rw [qN] at he
     split at he
     ·rename_i e' hc
      simp only [WJ] at he;subst he;obtain ⟨m,a,h1,h2,h3⟩:=xc j cs 0 k _ hc;refine ⟨⟨j,0+m,.inr h2,WU _,by simp⟩,?_⟩;rw [h3];exact Nr nV h1
     ·exact rest (r' := r) l_ rfl he
   ·cases l_
theorem I9:∀(l:List Arg) (j:Nat) (k:Key) (e:Ent),(sY j l).get k=some e→∃t c n cs,k=pp (j+t)∧l[t]?=some (.box c n cs)∧e=top (.box c 0 n):=by
 intro l
 induction l with
 | nil=>intro j k e he;simp [sY,St.get] at he
 | cons a r ih =>
  intro j k e he;have rest:(sY (j+1) r).get k=some e→∃t c n cs,k=pp (j+t)∧(a::r)[t]?=some (.box c n cs)∧e=top (.box c 0 n):=by
   intro h;obtain ⟨t,c,n,cs,h1,h2,h3⟩:=ih (j+1) k e h;exact ⟨t+1,c,n,cs,by rw [h1];congr 1;omega,by simpa using h2,h3⟩
  cases a with
  | box c n cs =>
   simp only [sY,St.get] at he;split at he
   ·rename_i hk
    have:=Key.qs.1 hk
    simp only [WJ] at he;subst he;exact ⟨0,c,n,cs,this.symm,rfl,rfl⟩
   ·exact rest he
  | _=>exact rest he
theorem Ja:∀(l:List Arg) (j t:Nat) {c n:Nat} {cs:List AV},l[t]?=some (.box c n cs)→(sY j l).get (pp (j+t))=some (top (.box c 0 n)):=by
 intro l
 induction l with
 | nil=>intro j t c n cs h;simp at h
 | cons a r ih =>
  intro j t c n cs h
  cases t with
  | zero =>
   simp only [WT,WJ] at h;subst h;simp [sY,St.get,Key.qW]
  | succ t =>
   simp only [WR] at h
   have:=ih (j+1) t h
   rw [show j+1+t=j+(t+1) by omega] at this
   cases a with
   | box c' n' cs' =>
    simp only [sY,St.get];rw [Key.qt (by simp [pp])];exact this
   | _=>exact this
theorem LT:∀(l:List Arg) (j t:Nat) {c n:Nat} {cs:List AV},OL j l τ→l[t]?=some (.box c n cs)→BA (.box c 0 n) (τ.get (pp (j+t))):=by
 intro l
 induction l with
 | nil=>intro j t c n cs _ h;simp at h
 | cons a r ih =>
  intro j t c n cs hq h
  cases t with
  | zero =>
   simp only [WT,WJ] at h;subst h;exact hq.1
  | succ t =>
   simp only [WR] at h;have bD:OL (j+1) r τ:=by
    cases a<;>first | exact hq.2 | exact hq
   have:=ih (j+1) t bD h
   rw [show j+1+t=j+(t+1) by omega] at this;exact this
theorem Aj:∀(l:List Arg) (j:Nat) {k x:Key},(k,x)∈w9 j l→k=x∧∃t,k=pp (j+t)∧t<l.length:=by
 intro l
 induction l with
 | nil=>intro j k x h;simp [w9] at h
 | cons a r ih =>
  intro j k x h;have rest:(k,x)∈w9 (j+1) r→k=x∧∃t,k=pp (j+t)∧t<(a::r).length:=by
   intro h;obtain ⟨h1,t,h2,h3⟩:=ih (j+1) h;exact ⟨h1,t+1,by rw [h2];congr 1;omega,by simp only [W4];omega⟩
  cases a with
  | box c n cs =>
   simp only [w9,WW,WK] at h
   rcases h with ⟨rfl,rfl⟩ | h
   ·exact ⟨rfl,0,rfl,by simp⟩
   ·exact rest h
  | _=>exact rest h
theorem Hv:∀(l:List Arg) (j t:Nat) {c n:Nat} {cs:List AV},l[t]?=some (.box c n cs)→KMap.find (w9 j l) (pp (j+t))=some (pp (j+t)):=by
 intro l
 induction l with
 | nil=>intro j t c n cs h;simp at h
 | cons a r ih =>
  intro j t c n cs h
  cases t with
  | zero =>
   simp only [WT,WJ] at h;subst h;simp [w9,KMap.find,Key.qW]
  | succ t =>
   simp only [WR] at h
   have:=ih (j+1) t h
   rw [show j+1+t=j+(t+1) by omega] at this
   cases a with
   | box c' n' cs' =>
    simp only [w9,KMap.find];rw [Key.qt (by simp [pp])];exact this
   | _=>exact this
theorem Lm {fz:List Key} {k:Key} {e:Ent} (_:(pW C fz σ).get k=some e) (_:wP fz k=true) {c:TypeId} {x:T} (hf:BA (.t c x) (some e)):e=top (.t c x):=by
 obtain ⟨p,av⟩:=e
 cases p with
 | cons=>cases av<;>exact hf.elim
 | nil =>
  cases av with
  | t c' x' =>
   simp only [BA] at hf;split at hf
   ·rename_i hc;subst hf;rw [WO hc];rfl
   ·exact hf.elim
  | _=>exact hf.elim
theorem Mi {c n:Nat} {e:Option Ent} (h:BA (.box c 0 n) e):∃tag,e=some ⟨[],.box c tag n⟩:=by
 cases e with
 | none=>exact h.elim
 | some e =>
  obtain ⟨p,av⟩:=e
  cases p with
  | cons=>cases av<;>exact h.elim
  | nil =>
   cases av with
   | box c' tag n' =>
    simp only [BA] at h;split at h
    ·rename_i hc hn;exact ⟨tag,by rw [WO hc,WO hn]⟩
    ·exact h.elim
   | _=>exact h.elim
theorem J5 {c:TypeId} {x:T} {e:Option Ent} (h:BA (.t c x) e):∃e',e=some e'∧BA (.t c x) (some e'):=by
 cases e with
 | none=>exact h.elim
 | some e=>exact ⟨e,rfl,h⟩
end
section
variable {P:Program} {C:Ctx} {fr:Fr} {tm:Array Value} {w:World} {σ:St} {γ:Key→Option Nat} {fz:List Key}
def vB (tm:Array Value):ResultVar→Sem Value
 | .tmp t=>pure (tm.getD t undef)
 | .cell a t=>do loadVar t (←asAddr (tm.getD a undef))
def Up (C:Ctx) (fr:Fr) (tm:Array Value) (w:World) (τ:St) (γ:Key→Option Nat) (r:ResultVar) (ty:TypeId) (o:Bool) (y:T) (v:Value):Prop :=
 (o=false∧V C.tab w (Ob fr γ) ty v y)∨(o=true∧∃t tag xs,r=.tmp t∧y=.l xs∧τ.get (pp t)=some ⟨[],.own ty tag xs⟩∧tm[t]?=some v)
theorem KX {s:Nat} {τ:St}:∀(tys:List TypeId) (c:Nat) {k:List T→Prop},MQ s c tys τ k→∃l,k l∧l.length=tys.length∧∀(j:Nat) y ty,l[j]?=some y→tys[j]?=some ty→BA (.t ty y) (τ.get (cell s (c+j))):=by
 intro tys
 induction tys with
 | nil=>intro c k h;exact ⟨[],h,rfl,fun j y ty hy=>by simp at hy⟩
 | cons t tys ih =>
  intro c k h;simp only [MQ] at h;split at h
  ·rename_i c' x he
   split at h
   ·rename_i hc
    obtain ⟨l,h1,h2,h3⟩:=ih (c+1) h;refine ⟨x::l,h1,by simp [h2],fun j y' ty hy ht=>?_⟩
    cases j with
    | zero =>
     simp only [WT,WJ] at hy ht;subst hy;subst ht;rw [XW,he,WO hc];simp [BA]
    | succ j =>
     simp only [WR] at hy ht;rw [show c+(j+1)=c+1+j by omega];exact h3 j y' ty hy ht
   ·exact h.elim
  ·exact h.elim
theorem Gu {τ:St} {k:Key} {ty:TypeId} {y:T} (h:N5 τ k ty true y):∃tag xs,y=.l xs∧τ.get k=some ⟨[],.own ty tag xs⟩:=by
 simp only [N5] at h;split at h
 ·rename_i c tag xs he
  split at h
  ·rename_i hc
   exact ⟨tag,xs,h.symm,by rw [he,WO hc]⟩
  ·exact h.elim
 ·exact h.elim
theorem Ii {s:Nat}:∀(n c j:Nat),c≤j→j<c+n→cell s j∈GR s c n:=by
 intro n
 induction n with
 | zero=>intro c j h1 h2;omega
 | succ n ih =>
  intro c j h1 h2;simp only [GR,WW]
  by_cases h:j=c
  ·exact .inl (by rw [h])
  ·exact .inr (ih (c+1) j (by omega) (by omega))
theorem FP (hτ:Rel C.tab fr tm w (pW C fz σ) γ) {k:Key} (hm:wP fz k=true) {ty:TypeId} {y:T} (hf:BA (.t ty y) ((pW C fz σ).get k)) :
  (pW C fz σ).get k=some (top (.t ty y))∧∃v,pJ tm w γ k=some v∧V C.tab w (Ob fr γ) ty v y:=by
 obtain ⟨e,he,nW⟩:=J5 hf
 have:=Lm he hm nW
 subst this;obtain ⟨v,h1,h2,-⟩:=hτ.ent _ _ he;exact ⟨he,v,h1,h2 trivial⟩
theorem MV (hG:Good P C.tab) (hτ:Rel C.tab fr tm w (pW C fz σ) γ) {r:ResultVar} {k:Key} {ty:TypeId} {o:Bool} {y:T} (bp:∀k',k'∈sD C.tab [r] [(k,ty,o)]→wP fz k'=true)
  (h:Ui C.tab (pW C fz σ) r ty o y):∃v,(vB tm r).run P w=.ok v w∧Up C fr tm w (pW C fz σ) γ r ty o y v:=by
 cases r with
 | tmp t =>
  simp only [Ui] at h
  cases o with
  | false =>
   simp only [N5] at h;obtain ⟨he,v,h1,h2⟩:=FP hτ (bp (pp t) (by simp [sD])) h;rw [pz] at h1;exact ⟨v,by simp [vB,h1],.inl ⟨rfl,h2⟩⟩
  | true =>
   obtain ⟨tag,xs,rfl,he⟩:=Gu h;obtain ⟨v,h1,-,-⟩:=hτ.ent _ _ he;rw [pz] at h1;exact ⟨v,by simp [vB,h1],.inr ⟨rfl,t,tag,xs,rfl,rfl,he,h1⟩⟩
 | cell a t =>
  simp only [Ui] at h;split at h
  ·rename_i ct ti ht
   split at h
   ·rename_i hc hS
    have hc:=WO hc;subst hc;split at h
    ·rename_i cb tag n N_
     have k_:=(hG _ _ _ ht).self;have i_:=(hG _ _ _ k_).len;have ai:ti.lv ct=ti.leaves:=by
      unfold TI.lv;unfold TI.isS at hS;split
      ·rfl
      ·rename_i aA
       split at hS
       ·rename_i hk;exact absurd hk (aA _)
       ·cases hS
     obtain ⟨l,rfl,hl,L_⟩:=KX _ _ h;obtain ⟨v0,v_,eB,-⟩:=hτ.ent _ _ N_;obtain ⟨b,cs,ety,hb,rfl,-⟩:=eB trivial;rw [pz] at v_;have G_:∀(j:Nat) y t,l[j]?=some y→ti.leaves[j]?=some t→∃u,w.cell? ((⟨b,0,none⟩:Go.Addr).add j)=some u∧L C.tab w (Ob fr γ) t u y:=by
      intro j y t hy cN;have hj:j<ti.cells:=by
       rw [←i_,ai];exact (WQ.1 cN).1
      obtain ⟨he,v,h1,h2⟩:=FP hτ (bp (cell a (0+j)) (by
       simp only [sD,ht,XD];exact Ii _ _ _ (by omega) (by omega))) (L_ j y t hy cN)
      obtain ⟨t1,bZ,aX⟩:=(hG _ _ _ k_).leaf t (by rw [ai];exact XR cN);refine ⟨v,?_,(sG bZ aX h2).1⟩;simp only [pJ,cell,hb,Xl] at h1;rw [rB];exact h1
     have jT:l.length=ti.cells:=by rw [hl,←ai,i_]
     have fq:=ui (w:=w) hG ht ⟨b,0,none⟩ (fun j=>(w.cell? ((⟨b,0,none⟩:Go.Addr).add j)).getD undef) (fun j hj=>by
      obtain ⟨u,hu,-⟩:=G_ j (l[j]'(by omega)) (ti.leaves[j]'(by omega)) (by simp) (by simp);rw [hu];rfl)
     rw [hS] at fq;refine ⟨.agg ((List.range ti.cells).map fun j=>(w.cell? ((⟨b,0,none⟩:Go.Addr).add j)).getD undef).toArray,?_,.inl ⟨rfl,?_⟩⟩
     ·simp only [Instr.loadAt,Instr.sureAddr,Sem.run_bind,Sem.run_pure,Result.andThen_ok] at fq
      simp only [vB,XK,v_,XF,asAddr,Sem.run_bind,Sem.run_pure,Result.andThen_ok];exact fq
     ·refine ⟨ti,k_,by rw [hS];rfl,by rw [hS];rfl,by simp [Value.cells],by simp [T.leaves,jT],fun j y t hy cN=>?_⟩
      rw [ai] at cN;obtain ⟨u,hu,hL⟩:=G_ j y t hy cN;have hj:j<ti.cells:=by rw [←jT];exact (WQ.1 hy).1
      exact ⟨u,by simp [Value.cells,hj,hu],hL⟩
    ·exact h.elim
   ·exact h.elim
  ·exact h.elim
theorem BN {tab:Tab} {r:ResultVar} {rs:List ResultVar} {a:Key×TypeId×Bool} {sh:Shape} (k:Key):k∈sD tab (r::rs) (a::sh)↔k∈sD tab [r] [a]∨k∈sD tab rs sh:=by
 obtain ⟨k0,ty,o⟩:=a
 cases r with
 | tmp t=>cases o<;>simp [sD]
 | cell b t =>
  simp only [sD];split<;>simp [sD]
theorem JO {tab:Tab}:∀{sh:Shape} {i:Nat} {k:Key} {ty:TypeId},sh[i]?=some (k,ty,false)→k∈sD tab [] sh:=by
 intro sh
 induction sh with
 | nil=>intro i k ty h;simp at h
 | cons a sh ih =>
  intro i k ty h;obtain ⟨k0,t0,o0⟩:=a
  cases i with
  | zero =>
   simp only [WT,WJ,WK] at h;rw [h.1,h.2.2];simp [sD]
  | succ i =>
   simp only [WR] at h
   have:=ih h
   cases o0<;>simp [sD,this]
theorem MX {tab:Tab} {τ:St}:∀{sh:Shape} {ys:List T},RQ tab [] sh ys τ→ys.length=sh.length∧∀(i:Nat) k ty o y,sh[i]?=some (k,ty,o)→ys[i]?=some y→N5 τ k ty o y:=by
 intro sh
 induction sh with
 | nil =>
  intro ys h
  cases ys with
  | nil=>exact ⟨rfl,fun i k ty o y hs=>by simp at hs⟩
  | cons=>exact h.elim
 | cons a sh ih =>
  intro ys h;obtain ⟨k0,t0,o0⟩:=a
  cases ys with
  | nil=>exact h.elim
  | cons y ys =>
   obtain ⟨h1,h2⟩:=ih h.2;refine ⟨by simp [h1],fun i k ty o y' hs hy=>?_⟩
   cases i with
   | zero =>
    simp only [WT,WJ,WK] at hs hy;rw [←hs.1,←hs.2.1,←hs.2.2,←hy];exact h.1
   | succ i =>
    simp only [WR] at hs hy;exact h2 i k ty o y' hs hy
theorem MY (hG:Good P C.tab) (hτ:Rel C.tab fr tm w (pW C fz σ) γ):∀(res:List ResultVar) (sh:Shape) (ys:List T),(∀k,k∈sD C.tab res sh→wP fz k=true)→RQ C.tab res sh ys (pW C fz σ) →
  ∃vs:List Value,(res.mapM (vB tm)).run P w=.ok vs w∧vs.length=res.length∧ys.length=sh.length∧res.length≤sh.length ∧
   (∀(i:Nat) r k ty o y,res[i]?=some r→sh[i]?=some (k,ty,o)→ys[i]?=some y→∃v,vs[i]?=some v∧Up C fr tm w (pW C fz σ) γ r ty o y v) ∧
   ∀(i:Nat) k ty o y,res.length≤i→sh[i]?=some (k,ty,o)→ys[i]?=some y→N5 (pW C fz σ) k ty o y∧(o=false→wP fz k=true):=by
 intro res
 induction res with
 | nil =>
  intro sh ys bp h;obtain ⟨h1,h2⟩:=MX h;refine ⟨[],rfl,rfl,h1,WS _,fun i r k ty o y hr=>by simp at hr,fun i k ty o y _ hs hy=>⟨h2 i k ty o y hs hy,fun ho=>?_⟩⟩;subst ho;exact bp k (JO hs)
 | cons r rs ih =>
  intro sh ys bp h
  cases sh with
  | nil=>cases ys<;>exact h.elim
  | cons a sh =>
   obtain ⟨k0,t0,o0⟩:=a
   cases ys with
   | nil=>exact h.elim
   | cons y ys =>
    obtain ⟨v,hv,hR⟩:=MV (k:=k0) hG hτ (fun k' hk=>bp k' ((BN k').2 (.inl hk))) h.1;obtain ⟨vs,h1,h2,h3,h4,h5,h6⟩:=ih sh ys (fun k hk=>bp k ((BN k).2 (.inr hk))) h.2;refine ⟨v::vs,?_,by simp [h2],by simp [h3],by simp [h4],fun i r' k ty o y' hr hs hy=>?_,fun i k ty o y' hi hs hy=>?_⟩
    ·rw [List.mapM_cons]
     simp only [Sem.run_bind,hv,h1,Result.andThen_ok,Sem.run_pure]
    ·cases i with
     | zero =>
      simp only [WT,WJ,WK] at hr hs hy;subst hr;obtain ⟨-,rfl,rfl⟩:=hs;subst hy;exact ⟨v,rfl,hR⟩
     | succ i =>
      simp only [WR] at hr hs hy ⊢;exact h5 i r' k ty o y' hr hs hy
    ·cases i with
     | zero=>simp at hi
     | succ i =>
      simp only [WR,W4] at hs hy hi;exact h6 i k ty o y' (by omega) hs hy
end
section
variable {P:Program} {C:Ctx}
def yS:List Value→Value
 | [v]=>v
 | vs=>.tuple vs.toArray
theorem FI {fn:Func} {tm:Array Value} {w:World} {res:List ResultVar} (b9:fn.results=res.toArray) {vs:List Value} (h:(res.mapM (vB tm)).run P w=.ok vs w) :
  (results fn tm).run P w=.ok (yS vs) w:=by
 have e:results fn tm=((List.toArray res).mapM (vB tm) >>= fun vs=>pure (if h:vs.size=1 then vs[0] else .tuple vs)):=by
  unfold results;rw [b9]
  congr 1
 have hm:(List.toArray res).mapM (vB tm)=List.toArray <$> res.mapM (vB tm):=by
  exact List.mapM_toArray
 rw [e,hm];rw [map_eq_pure_bind];simp only [Sem.run_bind,h,Result.andThen_ok,Sem.run_pure]
 match vs with
 | []=>simp [yS]
 | [v]=>simp [yS]
 | v::u::r=>simp [yS]
theorem Bk {args:List Arg} {res:List ResultVar} {sh:Shape} (h:Bj args res sh=true) :
  (sV sh).Nodup∧(TZ (qU res sh++w9 0 args)).Nodup∧zn args res sh=true∧Ae args=true:=by
 unfold Bj at h;split at h
 ·rename_i h1 h2 h3 h4
  exact ⟨uO.1 h1,uO.1 h2,h3,h4⟩
 ·cases h
theorem Nl (m:KMap):TZ m=m.map (·.2):=by
 induction m with
 | nil=>rfl
 | cons a r ih=>obtain ⟨k,x⟩:=a;simp only [TZ,XP,ih]
theorem xb {args:List Arg}:∀{sh:Shape},yA args sh=true→∀{i:Nat} {k:Key} {ty:TypeId} {o:Bool},sh[i]?=some (k,ty,o)→∃j m c n cs,k=cell j m∧args[j]?=some (.box c n cs)∧m<n:=by
 intro sh
 induction sh with
 | nil=>intro _ i k ty o h;simp at h
 | cons a sh ih =>
  intro hc i k ty o h;obtain ⟨k0,t0,o0⟩:=a;simp only [yA] at hc;split at hc
  ·rename_i h1 h2
   cases i with
   | zero =>
    simp only [WT,WJ,WK] at h;obtain ⟨rfl,-,-⟩:=h;have h1:=Key.qs.1 h1;unfold Gs at h2;split at h2
    ·rename_i c n cs hb
     exact ⟨k0.a,k0.b,c,n,cs,h1,by assumption,by simpa [Nat.blt_eq] using h2⟩
    ·cases h2
   | succ i =>
    simp only [WR] at h;exact ih hc h
  ·cases hc
theorem EQ {args:List Arg} {n:Nat}:∀{res:List ResultVar} {sh:Shape} {j:Nat},An args n j res sh=true→∀{i:Nat} {k:Key} {ty:TypeId} {o:Bool},sh[i]?=some (k,ty,o) →
  (i<res.length∧k=comp n (j+i))∨(res.length≤i∧∃j m c n cs,k=cell j m∧args[j]?=some (.box c n cs)∧m<n):=by
 intro res
 induction res with
 | nil =>
  intro sh j hc i k ty o h;exact .inr ⟨WS _,xb hc h⟩
 | cons r rs ih =>
  intro sh j hc i k ty o h
  cases sh with
  | nil=>simp at h
  | cons a sh =>
   obtain ⟨k0,t0,o0⟩:=a;simp only [An] at hc;split at hc
   ·rename_i h1
    cases i with
    | zero =>
     simp only [WT,WJ,WK] at h;obtain ⟨rfl,-,-⟩:=h;exact .inl ⟨by simp,Key.qs.1 h1⟩
    | succ i =>
     simp only [WR] at h
     rcases ih hc h with ⟨q1,q2⟩ | ⟨q1,q2⟩
     ·exact .inl ⟨by simp;omega,by rw [q2];congr 1;omega⟩
     ·exact .inr ⟨by simp;omega,q2⟩
   ·cases hc
theorem uT {args:List Arg} {res:List ResultVar} {sh:Shape} (h:zn args res sh=true) {i:Nat} {k:Key} {ty:TypeId} {o:Bool} (hs:sh[i]?=some (k,ty,o)) :
  (i<res.length∧((res.length=1∧k=pp args.length)∨(res.length≠1∧k=comp args.length i)))∨(res.length≤i∧∃j m c n cs,k=cell j m∧args[j]?=some (.box c n cs)∧m<n):=by
 unfold zn at h;split at h
 ·exact .inr ⟨WS _,xb h hs⟩
 ·split at h
  ·split at h
   ·rename_i h1
    cases i with
    | zero =>
     simp only [WT,WJ,WK] at hs;obtain ⟨rfl,-,-⟩:=hs;exact .inl ⟨by simp,.inl ⟨rfl,Key.qs.1 h1⟩⟩
    | succ i =>
     simp only [WR] at hs;exact .inr ⟨by simp,xb h hs⟩
   ·cases h
  ·cases h
 ·rename_i jj fu
  have i_:res.length≠1:=by
   intro q
   match res,q with
   | [r],_=>exact fu r rfl
  split at h
  ·rcases EQ h hs with ⟨q1,q2⟩ | ⟨q1,q2⟩
   ·exact .inl ⟨q1,.inr ⟨i_,by rw [q2,WV]⟩⟩
   ·exact .inr ⟨q1,q2⟩
  ·cases h
theorem Ir {args:List Arg} {res:List ResultVar} {sh:Shape} (h:zn args res sh=true):res.length≤1000:=by
 unfold zn at h;split at h
 ·simp
 ·simp
 ·split at h
  ·rename_i hb;exact YS hb
  ·cases h
theorem Bi {args:List Arg} {res:List ResultVar} {sh:Shape} (h:zn args res sh=true) (n:Nat) :
  (2≤res.length∧IE n sh=[(pp n,top (.tup 0))])∨(res.length≤1∧IE n sh=[]):=by
 cases sh with
 | nil =>
  match res,h with
  | [],_=>exact .inr ⟨by simp,rfl⟩
  | _::_::_,h =>
   simp only [zn,An] at h;split at h<;>cases h
 | cons a sh =>
  obtain ⟨k,ty,o⟩:=a
  rcases uT h (i:=0) rfl with ⟨q1,⟨q2,rfl⟩ | ⟨q2,rfl⟩⟩ | ⟨q1,j,m,c,n',cs,rfl,-⟩
  ·exact .inr ⟨by omega,rfl⟩
  ·exact .inl ⟨by omega,rfl⟩
  ·exact .inr ⟨by omega,rfl⟩
theorem yX:∀{res:List ResultVar} {sh:Shape} {k x:Key},(k,x)∈qU res sh→∃(i:Nat) (ty:TypeId),sh[i]?=some (k,ty,true)∧((res.length≤i∧x=k)∨∃t,res[i]?=some (.tmp t)∧x=pp t):=by
 have a6:∀{sh:Shape} {k x:Key},(k,x)∈qU [] sh→x=k∧∃(i:Nat) (ty:TypeId),sh[i]?=some (k,ty,true):=by
  intro sh
  induction sh with
  | nil=>intro k x h;simp [qU] at h
  | cons a sh ih =>
   obtain ⟨k0,t0,o0⟩:=a;intro k x h
   cases o0 with
   | true =>
    simp only [qU,WW,WK] at h
    rcases h with ⟨rfl,rfl⟩ | h
    ·exact ⟨rfl,0,t0,rfl⟩
    ·obtain ⟨q1,i,ty,q2⟩:=ih h
     exact ⟨q1,i+1,ty,by simpa using q2⟩
   | false =>
    simp only [qU] at h;obtain ⟨q1,i,ty,q2⟩:=ih h;exact ⟨q1,i+1,ty,by simpa using q2⟩
 intro res
 induction res with
 | nil =>
  intro sh k x h;obtain ⟨q1,i,ty,q2⟩:=a6 h;exact ⟨i,ty,q2,.inl ⟨WS _,q1⟩⟩
 | cons r rs ih =>
  intro sh k x h
  cases sh with
  | nil=>cases r<;>simp [qU] at h
  | cons a sh =>
   obtain ⟨k0,t0,o0⟩:=a;have rest:(k,x)∈qU rs sh→∃(i:Nat) (ty:TypeId),((k0,t0,o0)::sh)[i]?=some (k,ty,true)∧(((r::rs).length≤i∧x=k)∨∃t,(r::rs)[i]?=some (.tmp t)∧x=pp t):=by
    intro h;obtain ⟨i,ty,q1,q2⟩:=ih h;refine ⟨i+1,ty,by simpa using q1,?_⟩
    rcases q2 with ⟨q2,q3⟩ | ⟨t,q2,q3⟩
    ·exact .inl ⟨by simp;omega,q3⟩
    ·exact .inr ⟨t,by simpa using q2,q3⟩
   cases r with
   | tmp t =>
    cases o0 with
    | true =>
     simp only [qU,WW,WK] at h
     rcases h with ⟨rfl,rfl⟩ | h
     ·exact ⟨0,t0,rfl,.inr ⟨t,rfl,rfl⟩⟩
     ·exact rest h
    | false=>exact rest h
   | cell b t=>cases o0<;>exact rest h
theorem Ea:∀{res:List ResultVar} {sh:Shape} {i:Nat} {k:Key} {ty:TypeId},sh[i]?=some (k,ty,true)→(res.length≤i→(k,k)∈qU res sh)∧∀t,res[i]?=some (.tmp t)→(k,pp t)∈qU res sh:=by
 intro res
 induction res with
 | nil =>
  intro sh
  induction sh with
  | nil=>intro i k ty h;simp at h
  | cons a sh ih =>
   intro i k ty h;obtain ⟨k0,t0,o0⟩:=a;refine ⟨fun _=>?_,fun t ht=>by simp at ht⟩
   cases i with
   | zero =>
    simp only [WT,WJ,WK] at h;obtain ⟨rfl,-,rfl⟩:=h;simp [qU]
   | succ i =>
    simp only [WR] at h
    have:=(ih h).1 (WS _)
    cases o0<;>simp [qU,this]
 | cons r rs ih =>
  intro sh i k ty h
  cases sh with
  | nil=>simp at h
  | cons a sh =>
   obtain ⟨k0,t0,o0⟩:=a
   cases i with
   | zero =>
    simp only [WT,WJ,WK] at h;obtain ⟨rfl,-,rfl⟩:=h;refine ⟨fun q=>by simp at q,fun t ht=>?_⟩;simp only [WT,WJ] at ht;subst ht;simp [qU]
   | succ i =>
    simp only [WR] at h;obtain ⟨q1,q2⟩:=ih h;have y_:∀y,y∈qU rs sh→y∈qU (r::rs) ((k0,t0,o0)::sh):=by
     intro y hy;cases r<;>cases o0<;>simp [qU,hy]
    exact ⟨fun q=>y_ _ (q1 (by simp at q;omega)),fun t ht=>y_ _ (q2 t (by simpa using ht))⟩
theorem xh {m:KMap} (hn:(m.map (·.1)).Nodup) {k x:Key} (h:(k,x)∈m):m.find k=some x:=by
 induction m with
 | nil=>simp at h
 | cons a r ih =>
  obtain ⟨k0,x0⟩:=a;simp only [XP,Yd] at hn;simp only [KMap.find]
  rcases WW.1 h with q | q
  ·simp only [WK] at q
   rw [q.1,q.2];simp [Key.qW]
  ·rw [Key.qt (fun e=>hn.1 (by rw [e];exact Xw.2 ⟨_,q,rfl⟩))]
   exact ih hn.2 q
theorem G6:∀{sh:Shape} {ys:List T} {k:Key} {e:Ent},ys.length=sh.length→(Rn sh ys).get k=some e→∃(i:Nat) (ty:TypeId) (o:Bool) (y:T),sh[i]?=some (k,ty,o)∧ys[i]?=some y∧e=top (yT 0 ty o y):=by
 intro sh
 induction sh with
 | nil=>intro ys k e hl h;cases ys<;>simp [Rn,St.get] at h
 | cons a sh ih =>
  intro ys k e hl h;obtain ⟨k0,t0,o0⟩:=a
  cases ys with
  | nil=>simp at hl
  | cons y ys =>
   simp only [Rn,St.get] at h;split at h
   ·rename_i hk
    have:=Key.qs.1 hk
    subst this;exact ⟨0,t0,o0,y,rfl,rfl,(W3 h).symm⟩
   ·obtain ⟨i,ty,o,y',h1,h2,h3⟩:=ih (by simpa using hl) h
    exact ⟨i+1,ty,o,y',by simpa using h1,by simpa using h2,h3⟩
end
section
variable {P:Program} {C:Ctx}
theorem O1 (hG:Good P C.tab) {fr:Fr} {vals tm:Array Value} {w:World} {σ:St} {γ2:Key→Option Nat} {args:List Arg} {res:List ResultVar} {sh:Shape} {ys:List T}
  (bm:vals.size=args.length) (l_:Bj args res sh=true) (hτ:Rel C.tab fr tm w (pW C (sD C.tab res sh) σ) γ2) (N_:OL 0 args (pW C (sD C.tab res sh) σ))
  (li:∀(j:Nat) c n cs,args[j]?=some (.box c n cs)→tm[j]?=vals[j]?) {vs:List Value} (ai:vs.length=res.length) (mJ:ys.length=sh.length) (P_:res.length≤sh.length)
  (b9:∀(i:Nat) r k ty o y,res[i]?=some r→sh[i]?=some (k,ty,o)→ys[i]?=some y→∃v,vs[i]?=some v∧Up C fr tm w (pW C (sD C.tab res sh) σ) γ2 r ty o y v)
  (lj:∀(i:Nat) k ty o y,res.length≤i→sh[i]?=some (k,ty,o)→ys[i]?=some y→N5 (pW C (sD C.tab res sh) σ) k ty o y∧(o=false→wP (sD C.tab res sh) k=true)) :
  ∃γ',Rel C.tab fr (vals.push (yS vs)) w (sO args sh ys) γ' := by
 obtain ⟨bq,fc,bw,mK⟩:=Bk l_
 generalize jl:(qU res sh++w9 0 args:KMap)=mp at fc
 rw [Nl] at fc;have T_:∀{k x},(k,x)∈mp→(∃(i:Nat) (ty:TypeId),sh[i]?=some (k,ty,true)∧((res.length≤i∧x=k)∨∃t,res[i]?=some (.tmp t)∧x=pp t))∨(k=x∧∃t,k=pp t∧t<args.length):=by
  intro k x h;rw [←jl] at h
  rcases W2.1 h with h | h
  ·exact .inl (yX h)
  ·obtain ⟨q1,t,q2,q3⟩:=Aj args 0 h
   exact .inr ⟨q1,t,by rw [q2,WV],q3⟩
 have lk:∀{i:Nat} {k:Key} {ty:TypeId} {o:Bool},sh[i]?=some (k,ty,o)→k=pp args.length∨k.tag≠0:=by
  intro i k ty o h
  rcases uT bw h with ⟨-,⟨-,rfl⟩ | ⟨-,rfl⟩⟩ | ⟨-,j,m,c,n,cs,rfl,-⟩
  ·exact .inl rfl
  ·exact .inr (by simp [comp])
  ·exact .inr (by simp [cell])
 have gJ:(mp.map (·.1)).Nodup:=by
  rw [←jl,XY,List.nodup_append];refine ⟨?_,?_,?_⟩
  ·
   have:∀(res:List ResultVar) (sh:Shape),(sV sh).Nodup→((qU res sh).map (·.1)).Nodup:=by
    have bi:∀(res:List ResultVar) (sh:Shape) (k:Key),k∈(qU res sh).map (·.1)→k∈sV sh:=by
     intro res sh k h;obtain ⟨⟨k',x⟩,h1,h2⟩:=Xw.1 h;simp only at h2;subst h2;obtain ⟨i,ty,h3,-⟩:=yX h1;exact Is h3
    have base:∀(sh:Shape),(sV sh).Nodup→((qU [] sh).map (·.1)).Nodup:=by
     intro sh
     induction sh with
     | nil=>intro _;simp [qU]
     | cons a sh ih =>
      obtain ⟨k0,t0,o0⟩:=a;intro hn;simp only [sV,Yd] at hn
      cases o0 with
      | true =>
       simp only [qU,XP,Yd];exact ⟨fun q=>hn.1 (bi _ _ _ q),ih hn.2⟩
      | false=>exact ih hn.2
    intro res
    induction res with
    | nil=>exact base
    | cons r rs ih =>
     intro sh hn
     cases sh with
     | nil=>cases r<;>simp [qU]
     | cons a sh =>
      obtain ⟨k0,t0,o0⟩:=a;simp only [sV,Yd] at hn
      cases r with
      | tmp t =>
       cases o0 with
       | true =>
        simp only [qU,XP,Yd];exact ⟨fun q=>hn.1 (bi _ _ _ q),ih sh hn.2⟩
       | false=>exact ih sh hn.2
      | cell b t=>cases o0<;>exact ih sh hn.2
   exact this res sh bq
  ·have:∀(l:List Arg) (j:Nat),((w9 j l).map (·.1)).Nodup:=by
    intro l
    induction l with
    | nil=>intro j;simp [w9]
    | cons a r ih =>
     intro j
     cases a with
     | box c n cs =>
      simp only [w9,XP,Yd];refine ⟨fun q=>?_,ih (j+1)⟩;obtain ⟨⟨k',x⟩,h1,h2⟩:=Xw.1 q;simp only at h2;subst h2;obtain ⟨-,t,h3,-⟩:=Aj r (j+1) h1;simp [pp] at h3;omega
     | _=>exact ih (j+1)
   exact this args 0
  ·intro k h k' h' e
   subst e;obtain ⟨⟨k1,x⟩,h1,h2⟩:=Xw.1 h;simp only at h2;subst h2;obtain ⟨⟨k1',x'⟩,gh,ll⟩:=Xw.1 h';simp only at ll;subst ll;obtain ⟨i,ty,h3,-⟩:=yX h1;obtain ⟨-,t,h4,h5⟩:=Aj args 0 gh;rw [WV] at h4
   rcases lk h3 with q | q
   ·rw [h4] at q;simp [pp] at q;omega
   ·rw [h4] at q;simp [pp] at q
 have lq:∀b,Ob fr (zO mp γ2) b→Ob fr γ2 b:=by
  rintro b (hb | ⟨k,hb⟩)
  ·exact .inl hb
  ·obtain ⟨x,-,hx⟩:=rI hb
   exact .inr ⟨x,hx⟩
 have A_:Stays w w (Ob fr γ2) (Ob fr (zO mp γ2)):=fun b _ hb=>⟨rfl,fun q=>hb (lq b q)⟩;have aa:∀{j c n cs},args[j]?=some (.box c n cs)→zO mp γ2 (pp j)=γ2 (pp j)∧(∃tag,(pW C (sD C.tab res sh) σ).get (pp j)=some ⟨[],.box c tag n⟩):=by
  intro j c n cs hj;have h1:(pp j,pp j)∈mp:=by
   rw [←jl]
   have:=KMap.zF (Hv args 0 j hj)
   rw [WV] at this;exact W2.2 (.inr this)
  have h2:=LT args 0 j N_ hj;rw [WV] at h2;refine ⟨?_,Mi h2⟩;unfold zO;rw [xh gJ h1];rfl
 have Q_:∀{k e},(sO args sh ys).get k=some e→(∃j c n cs,k=pp j∧args[j]?=some (.box c n cs)∧e=top (.box c 0 n))∨(k=pp args.length∧2≤res.length∧e=top (.tup 0)) ∨
   (∃(i:Nat) (ty:TypeId) (o:Bool) (y:T),sh[i]?=some (k,ty,o)∧ys[i]?=some y∧e=top (yT 0 ty o y)):=by
  intro k e he;unfold sO at he;rw [qN] at he;split at he
  ·rename_i e' hb
   simp only [WJ] at he;subst he;obtain ⟨t,c,n,cs,h1,h2,h3⟩:=I9 args 0 k _ hb;rw [WV] at h1;exact .inl ⟨t,c,n,cs,h1,h2,h3⟩
  ·rw [qN] at he
   rcases Bi bw args.length with ⟨q1,q2⟩ | ⟨q1,q2⟩
   ·rw [q2] at he
    simp only [St.get] at he;split at he
    ·rename_i e' hb
     simp only [WJ] at he;subst he;split at hb
     ·rename_i hk
      have:=Key.qs.1 hk
      exact .inr (.inl ⟨this.symm,q1,(W3 hb).symm⟩)
     ·cases hb
    ·exact .inr (.inr (G6 mJ he))
   ·rw [q2] at he
    simp only [St.get] at he;exact .inr (.inr (G6 mJ he))
 have jm:∀{j c n cs},args[j]?=some (.box c n cs)→(sO args sh ys).get (pp j)=some (top (.box c 0 n)):=by
  intro j c n cs hj;unfold sO;rw [qN]
  have:=Ja args 0 j hj
  rw [WV] at this;rw [this]
 have jn:2≤res.length→(sO args sh ys).get (pp args.length)=some (top (.tup 0)):=by
  intro h2;unfold sO;rw [qN];have hn:(sY 0 args).get (pp args.length)=none:=by
   cases hb:(sY 0 args).get (pp args.length) with
   | none=>rfl
   | some e =>
    obtain ⟨t,h1,h3,h4⟩:=Ah args 0 _ e hb;simp [pp] at h1;omega
  rw [hn];simp only;rw [qN]
  rcases Bi bw args.length with ⟨q1,q2⟩ | ⟨q1,q2⟩
  ·rw [q2];simp [St.get,Key.qW]
  ·omega
 have be:∀{j:Nat},j<args.length→(vals.push (yS vs))[j]?=vals[j]? := by
  intro j hj;rw [Array.getElem?_push];rw [WZ (by omega)]
 have bf:(vals.push (yS vs))[args.length]?=some (yS vs):=by
  rw [Array.getElem?_push,WY (by omega)]
 refine ⟨zO mp γ2,hτ.os,hτ.tape,hτ.output,hτ.size,hτ.old,hτ.low,?_,?_,?_,?_,?_⟩
 ·intro k k' b hk e_
  obtain ⟨x,hx,aB⟩:=rI hk;obtain ⟨x',aV,gv⟩:=rI e_
  have:=hτ.inj x x' b aB gv
  subst this;exact Li fc hx aV
 ·intro k b hk
  obtain ⟨x,-,aB⟩:=rI hk;exact hτ.blk x b aB
 ·intro s n e he
  rcases Q_ he with ⟨j,c,n',cs,h1,-⟩ | ⟨h1,-⟩ | ⟨i,ty,o,y,h1,-⟩
  ·simp [cell,pp] at h1
  ·simp [cell,pp] at h1
  ·rcases uT bw h1 with ⟨-,⟨-,q⟩ | ⟨-,q⟩⟩ | ⟨-,j,m,c,n',cs,q,q2,-⟩
   ·simp [cell,pp] at q
   ·simp [cell,comp] at q
   ·simp only [cell,Key.mk.injEq,W5] at q
    exact ⟨c,0,n',by rw [q.1];exact jm q2⟩
 ·intro s n e he
  rcases Q_ he with ⟨j,c,n',cs,h1,-⟩ | ⟨h1,-⟩ | ⟨i,ty,o,y,h1,-⟩
  ·simp [comp,pp] at h1
  ·simp [comp,pp] at h1
  ·rcases uT bw h1 with ⟨h0,⟨-,q⟩ | ⟨h2,q⟩⟩ | ⟨-,j,m,c,n',cs,q,q2,-⟩
   ·simp [comp,pp] at q
   ·simp only [comp,Key.mk.injEq,W5] at q
    exact ⟨[],0,by rw [q.1];exact jn (by omega)⟩
   ·simp [cell,comp] at q
 ·intro k e he
  rcases Q_ he with ⟨j,c,n,cs,rfl,hj,rfl⟩ | ⟨rfl,h2,rfl⟩ | ⟨i,ty,o,y,hs,hy,rfl⟩
  ·obtain ⟨q1,tag,q2⟩:=aa hj
   obtain ⟨v,hv,hr,-⟩:=hτ.ent _ _ q2;obtain ⟨b,cs',ety,r1,r2,r3,r4⟩:=hr trivial;have ip:j<args.length:=(WQ.1 hj).1;refine ⟨v,?_,fun _=>⟨b,cs',ety,by rw [q1];exact r1,r2,r3,r4⟩,fun q=>absurd trivial q⟩;rw [pz] at hv ⊢;rw [be ip,←li j c n cs hj];exact hv
  ·refine ⟨yS vs,by rw [pz];exact bf,fun _=>?_,fun q=>absurd trivial q⟩
   match vs,ai with
   | [],h=>rw [←h] at h2;simp at h2
   | [v],h=>rw [←h] at h2;simp at h2
   | v::u::r,_=>exact .inl ⟨_,rfl⟩
  ·rcases uT bw hs with ⟨hi,jo⟩ | ⟨hi,j,m,c,n,cs,rfl,hj,hm⟩
   ·obtain ⟨r,hr⟩:∃r,res[i]?=some r:=⟨_,WL hi⟩
    obtain ⟨v,hv,hR⟩:=b9 i r k ty o y hr hs hy;have m_:pJ (vals.push (yS vs)) w (zO mp γ2) k=some v:=by
     rcases jo with ⟨h1,rfl⟩ | ⟨h1,rfl⟩
     ·rw [pz,bf]
      match vs,ai,hv with
      | [],h,_=>rw [←h] at h1;simp at h1
      | [u],_,hv =>
       have:i=0:=by omega
       subst this;simpa [yS] using hv
      | u::u'::r,h,_=>rw [←h] at h1;simp at h1
     ·simp only [pJ,comp]
      rw [bf]
      match vs,ai,hv with
      | [],h,hv=>simp at hv
      | [u],h,_=>rw [←h] at h1;simp at h1
      | u::u'::r,h,hv =>
       have hb:Nat.blt i 1000=true:=by
        have:=Ir bw
        simp [Nat.blt];omega
       simp only [yS,hb];simpa using hv
    refine ⟨v,m_,fun _=>?_,fun q=>absurd trivial q⟩
    rcases hR with ⟨rfl,hV⟩ | ⟨rfl,t,tag,xs,rfl,rfl,H_,jh⟩
    ·exact hV.mono A_
    ·obtain ⟨v',ag,bB,-⟩:=hτ.ent _ _ H_
     rw [pz,jh] at ag;simp only [WJ] at ag;subst ag;have hO:Own C.tab w (Ob fr γ2) ty v (γ2 (pp t)) xs:=bB trivial;have hg:zO mp γ2 k=γ2 (pp t):=by
      unfold zO;rw [xh gJ (x:=pp t) (by rw [←jl];exact W2.2 (.inl ((Ea hs).2 t hr)))];rfl
     show Own C.tab w _ ty v (zO mp γ2 k) xs
     rw [hg];exact hO.mono A_ fun _ _=>rfl
   ·obtain ⟨hq,bp⟩:=lj i _ ty o y hi hs hy
    obtain ⟨q1,tag,q2⟩:=aa hj;have m_:pJ (vals.push (yS vs)) w (zO mp γ2) (cell j m)=pJ tm w γ2 (cell j m):=by
     simp only [pJ,cell];rw [q1]
    cases o with
    | false =>
     obtain ⟨-,v,h1,h2⟩:=FP hτ (bp rfl) hq;exact ⟨v,by rw [m_];exact h1,fun _=>h2.mono A_,fun q=>absurd trivial q⟩
    | true =>
     obtain ⟨tag',xs,rfl,aO⟩:=Gu hq
     ·obtain ⟨v,h1,h2,-⟩:=hτ.ent _ _ aO
      have hO:Own C.tab w (Ob fr γ2) ty v (γ2 (cell j m)) xs:=h2 trivial;have hg:zO mp γ2 (cell j m)=γ2 (cell j m):=by
       unfold zO;rw [xh gJ (x:=cell j m) (by rw [←jl];exact W2.2 (.inl ((Ea hs).1 hi)))];rfl
      refine ⟨v,by rw [m_];exact h1,fun _=>?_,fun q=>absurd trivial q⟩
      show Own C.tab w _ ty v (zO mp γ2 (cell j m)) xs
      rw [hg];exact hO.mono A_ fun _ _=>rfl
theorem No {a b:List Nat} (h:T1 a b=true) {x:Nat} (hx:x∈a):Fp b x=true:=by
 induction a with
 | nil=>simp at hx
 | cons y r ih =>
  simp only [T1] at h;split at h
  ·rename_i hm
   rcases WW.1 hx with rfl | hx
   ·exact hm
   ·exact ih h hx
  ·cases h
theorem Ig:∀(l:List Arg) (j t:Nat) {c n:Nat} {cs:List AV},l[t]?=some (.box c n cs)→j+t∈A1 j l:=by
 intro l
 induction l with
 | nil=>intro j t c n cs h;simp at h
 | cons a r ih =>
  intro j t c n cs h
  cases t with
  | zero =>
   simp only [WT,WJ] at h;subst h;simp [A1]
  | succ t =>
   simp only [WR] at h
   have:=ih (j+1) t h
   rw [show j+1+t=j+(t+1) by omega] at this;cases a<;>simp [A1,this]
theorem Un (hG:Good P C.tab) {f:FuncId} {fn:Func} {c:Code} {args:List Arg} {sh:Shape} {ys:List T} {res:List ResultVar}
  (hf : P.funcs[f]? = some fn) (bP : (fn.name == "runtime.NumGoroutine") = false) (hb : fn.body = some c) (b9 : fn.results = res.toArray) (dF : fn.ntmps = C.nt)
  (hn:Nat.ble args.length C.nt=true) (jp:T1 (A1 0 args) C.pins=true) (l_:Bj args res sh=true)
  (nX:SW P C c (RW C args res sh ys) (rO 0 args)):Fn P C.tab f args sh ys:=by
 refine ⟨fun w A vals γ f_ hr=>?_⟩;obtain ⟨bq,fc,bw,mK⟩:=Bk l_;have hn:=YS hn;have aY:(callFunc f vals).run P w=.ok (.enter f vals) w:=by
  have : ¬ fn.name = "runtime.NumGoroutine" := by simpa using bP
  simp [callFunc,hf,this,hb]
 unfold CallsF;rw [aY]
 show Calls P f vals w _
 refine calls_of_wp hf hb ?_;have dJ:(vals++Array.replicate (fn.ntmps-vals.size) undef).size=C.nt:=by
  simp only [ZA,Array.size_replicate,dF];omega
 have eB:Rel C.tab ⟨w.heap.size,w,A,fun b=>∃k,γ k=some b⟩ (vals++Array.replicate (fn.ntmps-vals.size) undef) w (rO 0 args) γ:=hr.tmps fun k e he=>by
  obtain ⟨⟨t,c',hk,-,ht⟩,hh⟩:=IU args 0 k e mK he;refine ⟨?_,hh⟩
  rcases hk with rfl | rfl
  ·rw [pz,pz,YG (by omega)]
  ·rfl
 have key:∀(a':Act) (w':World),a'.defers=[]→Pinned C (vals++Array.replicate (fn.ntmps-vals.size) undef) a'.tmps→(∃σ' γ1,(OL 0 args (pW C (sD C.tab res sh) σ')∧RQ C.tab res sh ys (pW C (sD C.tab res sh) σ')) ∧
   Rel C.tab ⟨w.heap.size,w,A,fun b=>∃k,γ k=some b⟩ a'.tmps w' σ' γ1) →
   a'.defers=[]∧∃v,(results fn a'.tmps).run P w'=.ok v w'∧∃v',Ending.returned v=.returned v'∧∃γ',Rel C.tab ⟨w.heap.size,w,A,fun b=>∃k,γ k=some b⟩ (vals.push v') w' (sO args sh ys) γ' := by
  rintro a' w' h1 hp ⟨σ',γ1,⟨nY,nZ⟩,hR⟩;obtain ⟨γ2,hτ,-⟩:=hR.start (C:=C) hG (sD C.tab res sh);obtain ⟨vs,q1,q2,q3,q4,q5,q6⟩:=MY hG hτ res sh ys (fun k hk=>tT.2 hk) nZ;refine ⟨h1,_,FI b9 q1,_,rfl,?_⟩;refine O1 hG f_ l_ hτ nY (fun j c n cs hj=>?_) q2 q3 q4 q5 q6;have hm:=Ig args 0 j hj;rw [WV] at hm;rw [hp j (No jp hm)]
  have:j<args.length:=(WQ.1 hj).1
  rw [YG (by omega)]
 refine wp_mono (nX _ _ w γ dJ eB) ?_;rintro e a' w' ⟨h1,-,hp,σ',γ1,hE,hR⟩
 cases e with
 | normal=>exact key a' w' h1 hp ⟨σ',γ1,hE,hR⟩
 | ret=>exact key a' w' h1 hp ⟨σ',γ1,hE,hR⟩
 | _=>exact hE.elim
end
def K.eqB:K→K→Bool
 | .int k,.int k'=>decide (k=k')
 | .bool,.bool=>true
 | .str,.str=>true
 | .sl e,.sl e'=>Nat.beq e e'
 | .st fs,.st fs'=>decide (fs=fs')
 | .ptr e,.ptr e'=>Nat.beq e e'
 | .fn,.fn=>true
 | .ifc,.ifc=>true
 | .no,.no=>true
 | _,_=>false
theorem K.JR {a b:K} (h:K.eqB a b=true):a=b:=by
 cases a<;>cases b<;>simp_all [K.eqB]
def Gw:T→T→Bool
 | .i k n,.i k' n'=>decide (k=k'∧n=n')
 | .b x,.b y=>decide (x=y)
 | .s x,.s y=>decide (x.data.toList=y.data.toList)
 | .l [],.l []=>true
 | .z,.z=>true
 | _,_=>false
theorem DQ {a b:T} (h:Gw a b=true):a=b:=by
 unfold Gw at h;split at h
 ·simp at h;rw [h.1,h.2]
 ·simp at h;rw [h]
 ·rename_i x y
  simp only [Xo] at h
  have:x.data=y.data:=Array.toList_inj.1 h
  cases x;cases y;simp only at this;rw [this]
 ·rfl
 ·rfl
 ·cases h
def wD:List T→List T→Bool
 | [],[]=>true
 | x::r,y::s=>match Gw x y with
  | true=>wD r s
  | false=>false
 | _,_=>false
theorem Fg:∀{a b:List T},wD a b=true→a=b:=by
 intro a
 induction a with
 | nil=>intro b h;cases b<;>simp_all [wD]
 | cons x r ih =>
  intro b h
  cases b with
  | nil=>simp [wD] at h
  | cons y s =>
   simp only [wD] at h;split at h
   ·rename_i hx;rw [DQ hx,ih h]
   ·cases h
def LE:T→T→Bool
 | .g xs,.g ys=>wD xs ys
 | x,y=>Gw x y
theorem LF {a b:T} (h:LE a b=true):a=b:=by
 unfold LE at h;split at h
 ·rw [Fg h]
 ·exact DQ h
def TI.eqB (a b:TI):Bool:=K.eqB a.k b.k && Nat.beq a.cells b.cells && Nat.beq a.bytes b.bytes && tV a.leaves b.leaves && LE a.zero b.zero
theorem TI.JR {a b:TI} (h:TI.eqB a b=true):a=b:=by
 unfold TI.eqB at h;simp only [XG] at h;obtain ⟨⟨⟨⟨h1,h2⟩,h3⟩,h4⟩,h5⟩:=h;cases a;cases b;simp only at h1 h2 h3 h4 h5;rw [K.JR h1,WO h2,WO h3,vF h4,LF h5]
def Dd:K→Value→T→Bool
 | .int k,.int k' n,.i k'' n'=>decide (k'=k∧k''=k∧n'=n∧k.wrap n=n)
 | .bool,.bool x,.b y=>decide (x=y)
 | .str,.string x,.s y=>decide (x.data.toList=y.data.toList∧x.data.toList=[])
 | .sl _,.slice none 0 0,.l []=>true
 | .ptr _,.pointer none,.z=>true
 | .ifc,.nilIface,.z=>true
 | .fn,.nilFunc,.z=>true
 | _,_,_=>false
def xw (tab:Tab):List Value→List T→List TypeId→Bool
 | [],[],[]=>true
 | u::us,y::ys,ty::tys=>match tab.at ty with
  | some (ct,t1)=>match Nat.beq ct ty,Dd t1.k u y with
   | true,true=>xw tab us ys tys
   | _,_=>false
  | none=>false
 | _,_,_=>false
def yF (tab:Tab) (ti:TI):List (Nat×TypeId)→List Field→Bool
 | [],[]=>true
 | (off,cf)::r,f::fs=>match tab.at f.type with
  | some (cf',tf)=>Nat.beq cf' cf && Nat.beq f.offset off && Nat.blt 0 tf.cells && tV ((ti.leaves.drop off).take tf.cells) (tf.lv cf) && Nat.ble (off+tf.cells) ti.cells && yF tab ti r fs
  | none=>false
 | _,_=>false
def UY (tab:Tab) (ti:TI):K→TypeDesc→Bool
 | .int k,.int k'=>decide (k=k')
 | .bool,.bool=>true
 | .str,.string=>true
 | .sl e,.slice e'=>Nat.beq e e' && (tab.at e).isSome
 | .st fs,.struct fa=>yF tab ti fs fa.toList
 | .ptr e,.pointer e'=>Nat.beq e e'
 | .fn,.func ..=>true
 | .ifc,.interface _=>true
 | _,_=>false
def Mv (tab:Tab):List TypeId→Bool
 | []=>true
 | ty::r=>match tab.at ty with
  | some (ct,t1)=>match Nat.beq ct ty,t1.isS with
   | true,false=>Mv tab r
   | _,_=>false
  | none=>false
def UO (P:Program) (tab:Tab) (t c:TypeId) (ti:TI):Bool :=
 (match tab.at c with
  | some (c',ti')=>Nat.beq c' c && TI.eqB ti' ti
  | none=>false) &&
 (match P.info? t with
  | some i=>Nat.beq i.size ti.cells && Nat.beq i.bytes ti.bytes && (match i.zero with
   | some z=>Eg ti.zero.isG ti.isS && Eg (isAgg z) ti.isS && Nat.beq z.cells.size ti.cells && Nat.beq ti.zero.leaves.length ti.cells && xw tab z.cells.toList ti.zero.leaves (ti.lv c)
   | none=>false)
  | none=>false) &&
 (match P.underlying t with
  | some d=>UY tab ti ti.k d
  | none=>false) &&
 Nat.beq (ti.lv c).length ti.cells && Nat.blt 0 ti.cells && Mv tab (ti.lv c)
def Mn (P:Program) (tab:Tab):Tab→Bool
 | []=>true
 | (t,c,ti)::r=>match UO P tab t c ti with
  | true=>Mn P tab r
  | false=>false
theorem R0:∀{tab:Tab} {t:TypeId} {r:TypeId×TI},tab.at t=some r→(t,r)∈tab:=by
 intro tab
 induction tab with
 | nil=>intro t r h;simp [Tab.at] at h
 | cons a tab ih =>
  obtain ⟨t',r'⟩:=a;intro t r h;simp only [Tab.at] at h;split at h
  ·rename_i hb
   rw [WO hb,←W3 h];simp
  ·simp [ih h]
theorem Kk {tab:Tab}:∀{l:List TypeId},Mv tab l=true→∀ty∈l,∃t1,tab.at ty=some (ty,t1)∧t1.isS=false:=by
 intro l
 induction l with
 | nil=>intro _ ty h;simp at h
 | cons a r ih =>
  intro h ty hm;simp only [Mv] at h;split at h
  ·rename_i ct t1 ha
   split at h
   ·rename_i h1 h2
    rcases WW.1 hm with rfl | hm
    ·rw [WO h1] at ha;exact ⟨t1,ha,h2⟩
    ·exact ih h ty hm
   ·cases h
  ·cases h
theorem IJ {tab:Tab} {w:World} {O:Nat→Prop} {ty:TypeId} {t1:TI} {u:Value} {y:T} (ha:tab.at ty=some (ty,t1)) (h:Dd t1.k u y=true):L tab w O ty u y∧QN u=true:=by
 generalize hk:t1.k=k at h
 unfold Dd at h;split at h
 ·simp only [Xo] at h
  obtain ⟨rfl,rfl,rfl,h4⟩:=h;exact ⟨.int ha hk h4,rfl⟩
 ·simp only [Xo] at h
  subst h;exact ⟨.bool ha hk,rfl⟩
 ·rename_i x z
  simp only [Xo] at h;have h0:x=z:=by
   have:=Array.toList_inj.1 h.1
   cases x;cases z;simp only at this;rw [this]
  subst h0;refine ⟨.str ha hk ?_,rfl⟩
  have:x.size=0:=by
   show x.data.size=0
   rw [←Ye,h.2];rfl
  rw [this];exact WS _
 ·exact ⟨.nil ha hk,rfl⟩
 ·exact ⟨.ptr ha hk,rfl⟩
 ·exact ⟨.ifc ha hk,rfl⟩
 ·exact ⟨.fn ha hk,rfl⟩
 ·cases h
theorem Bu {tab:Tab} {w:World} {O:Nat→Prop}:∀{us:List Value} {ys:List T} {tys:List TypeId},xw tab us ys tys=true→us.all QN=true∧∀(j:Nat) y ty,ys[j]?=some y→tys[j]?=some ty→∃u,us[j]?=some u∧L tab w O ty u y:=by
 intro us
 induction us with
 | nil =>
  intro ys tys h;cases ys<;>cases tys<;>simp [xw] at h;exact ⟨rfl,fun j y ty hy=>by simp at hy⟩
 | cons u us ih =>
  intro ys tys h
  cases ys with
  | nil=>simp [xw] at h
  | cons y ys =>
   cases tys with
   | nil=>simp [xw] at h
   | cons ty tys =>
    simp only [xw] at h;split at h
    ·rename_i ct t1 ha
     split at h
     ·rename_i h1 h2
      rw [WO h1] at ha;obtain ⟨q1,q2⟩:=ih h;obtain ⟨q3,q4⟩:=IJ (w:=w) (O:=O) ha h2;refine ⟨by simp [q4,q1],fun j y' ty' hy ht=>?_⟩
      cases j with
      | zero =>
       simp only [WT,WJ] at hy ht;subst hy;subst ht;exact ⟨u,rfl,q3⟩
      | succ j =>
       simp only [WR] at hy ht ⊢;exact q2 j y' ty' hy ht
     ·cases h
    ·cases h
theorem EX {tab:Tab} {ti:TI}:∀{fs:List (Nat×TypeId)} {fa:List Field},yF tab ti fs fa=true→fs.length=fa.length∧∀(j off cf:Nat),fs[j]?=some (off,cf)→∃f tf,fa[j]?=some f∧f.offset=off∧tab.at f.type=some (cf,tf) ∧
    0<tf.cells∧(ti.leaves.drop off).take tf.cells=tf.lv cf∧off+tf.cells≤ti.cells:=by
 intro fs
 induction fs with
 | nil =>
  intro fa h
  cases fa with
  | nil=>exact ⟨rfl,fun j off cf hj=>by simp at hj⟩
  | cons=>simp [yF] at h
 | cons a fs ih =>
  obtain ⟨off,cf⟩:=a;intro fa h
  cases fa with
  | nil=>simp [yF] at h
  | cons f fa =>
   simp only [yF] at h;split at h
   ·rename_i cf' tf ha
    simp only [XG] at h;obtain ⟨⟨⟨⟨⟨h1,h2⟩,h3⟩,h4⟩,h5⟩,h6⟩:=h;obtain ⟨q1,q2⟩:=ih h6;refine ⟨by simp [q1],fun j off' cf2 hj=>?_⟩
    cases j with
    | zero =>
     simp only [WT,WJ,WK] at hj;obtain ⟨rfl,rfl⟩:=hj;rw [WO h1] at ha;exact ⟨f,tf,rfl,WO h2,ha,by simpa [Nat.blt_eq] using h3,vF h4,YS h5⟩
    | succ j =>
     simp only [WR] at hj ⊢;exact q2 j off' cf2 hj
   ·cases h
theorem RD {P:Program} {tab:Tab} {t c:TypeId} {ti:TI} (h:UO P tab t c ti=true):TOk P tab t c ti:=by
 unfold UO at h;simp only [XG] at h;obtain ⟨⟨⟨⟨⟨h1,h2⟩,h3⟩,h4⟩,h5⟩,h6⟩:=h;have k_:tab.at c=some (c,ti):=by
  split at h1
  ·rename_i c' ti' ha
   simp only [XG] at h1;rw [ha,WO h1.1,TI.JR h1.2]
  ·cases h1
 refine ⟨k_,?_,?_,WO h4,by simpa [Nat.blt_eq] using h5,Kk h6⟩
 ·split at h2
  ·rename_i i hi
   simp only [XG] at h2;obtain ⟨⟨k1,k2⟩,k3⟩:=h2;split at k3
   ·rename_i z hz
    simp only [XG] at k3;obtain ⟨⟨⟨⟨m1,m2⟩,m3⟩,m4⟩,m5⟩:=k3;refine ⟨i,z,hi,WO k1,WO k2,hz,fun w O=>⟨ti,k_,yd m1,yd m2,WO m3,WO m4,fun j y ty hy ht=>?_⟩,?_⟩
    ·obtain ⟨u,hu,hL⟩:=(Bu (w:=w) (O:=O) m5).2 j y ty hy ht
     exact ⟨u,by rw [Xa] at hu;exact hu,hL⟩
    ·have:=(Bu (w:=default) (O:=fun _=>False) m5).1
     rw [←Array.all_toList];exact this
   ·cases k3
  ·cases h2
 ·split at h3
  ·rename_i d hd
   refine ⟨d,hd,?_⟩
   generalize ti.k=k at h3
   unfold UY at h3;split at h3
   ·simpa using h3
   ·trivial
   ·trivial
   ·rename_i e e'
    simp only [XG] at h3;refine ⟨WO h3.1,?_⟩
    cases ha:tab.at e with
    | none=>rw [ha] at h3;simp at h3
    | some r=>exact ⟨r.1,r.2,rfl⟩
   ·obtain ⟨q1,q2⟩:=EX h3
    refine ⟨by simpa using q1,fun j off cf hj=>?_⟩;obtain ⟨f,tf,r1,r2⟩:=q2 j off cf hj;exact ⟨f,tf,by rw [←Xa];exact r1,r2⟩
   ·exact WO h3
   ·trivial
   ·trivial
   ·cases h3
  ·cases h3
theorem Mo {P:Program} {tab:Tab} (h:Mn P tab tab=true):Good P tab:=by
 have:∀l:Tab,Mn P tab l=true→∀t r,(t,r)∈l→TOk P tab t r.1 r.2:=by
  intro l
  induction l with
  | nil=>intro _ t r hm;simp at hm
  | cons a l ih =>
   obtain ⟨t',c',ti'⟩:=a;intro h t r hm;simp only [Mn] at h;split at h
   ·rename_i hb
    rcases WW.1 hm with q | q
    ·simp only [WK] at q
     obtain ⟨rfl,rfl⟩:=q;exact RD hb
    ·exact ih h t r q
   ·cases h
 intro t c ti ar;exact this tab h t (c,ti) (R0 ar)
inductive Sp:Type 1 where
 | no
 | two (a b:Sp)
 | lp {ι:Type} (S:ι→Sk) (I:ι→Prop) (μ:ι→Nat) (r:ι→Sp)
 | cut {ι:Type} (S:ι→Sk) (I:ι→Prop) (a:Sp) (b:ι→Sp)
def Sp.l:Sp→Sp
 | .two a _=>a
 | _=>.no
def Sp.r:Sp→Sp
 | .two _ b=>b
 | _=>.no
def Tv (C:Ctx) (body:Code) (rec:Sp→(Exit→St→Prop)→St→Prop):Sp→(Exit→St→Prop)→St→Prop
 | .lp (ι:=ι) S I μ r,Q,σ=>(∃i:ι,I i∧Qu C (S i) σ)∧(∀i:ι,okS C (S i)=true)∧∀i:ι,I i→rec (r i) (Iz (fun σ'=>∃j:ι,I j∧μ j<μ i∧Qu C (S j) σ') Q) (He (S i))
 | _,_,_=>False
def UX (C:Ctx) (ra rb:Sp→(Exit→St→Prop)→St→Prop):Sp→(Exit→St→Prop)→St→Prop
 | .cut (ι:=ι) S I x y,Q,σ=>ra x (Iz (fun σ'=>∃i:ι,I i∧Qu C (S i) σ') Q) σ∧(∀i:ι,okS C (S i)=true)∧∀i:ι,I i→rb (y i) Q (He (S i))
 | s,Q,σ=>ra s.l (Iz (rb s.r Q) Q) σ
def xd (P:Program) (C:Ctx):Code→Sp→(Exit→St→Prop)→St→Prop
 | .skip,_,Q,σ=>Q .normal σ
 | .seq a b,s,Q,σ=>UX C (fun s' Q' σ'=>xd P C a s' Q' σ') (fun s' Q' σ'=>xd P C b s' Q' σ') s Q σ
 | .region id ops draw,_,Q,σ=>CV P C id ops.toList draw (Q .normal) σ
 | .cond c a b,s,Q,σ=>match c with
  | .tmp t=>match σ.get (pp t) with
   | some ⟨[],.t ty x⟩=>match C.kd ty with
    | .bool=>(x.bool=true→xd P C a s.l Q σ)∧(x.bool=false→xd P C b s.r Q σ)
    | _=>False
   | _=>False
  | .const (.bool true)=>xd P C a s.l Q σ
  | .const (.bool false)=>xd P C b s.r Q σ
  | _=>False
 | .block id body,s,Q,σ=>xd P C body s (F4 id Q) σ
 | .loop body,s,Q,σ=>Tv C body (fun s' Q' σ'=>xd P C body s' Q' σ') s Q σ
 | .exit id,_,Q,σ=>Q (.exit id) σ
 | .ret,_,Q,σ=>Q .ret σ
 | _,_,_,_=>False
def tO (fn:Func):Code:=match fn.body with
 | some c=>c
 | none=>.skip
def Ik (fn:Func):List ResultVar:=fn.results.toList
theorem EN {P:Program} {C:Ctx} (hG:Good P C.tab) (hm:P.follows .mixedOrders=true):∀(c:Code) (s:Sp) (Q:Exit→St→Prop) (σ:St),xd P C c s Q σ→SW P C c Q σ:=by
 intro c
 induction c with
 | skip=>intro s Q σ h;exact vd hG hm .skip Q σ h
 | exit id=>intro s Q σ h;exact vd hG hm (.exit id) Q σ h
 | ret=>intro s Q σ h;exact vd hG hm .ret Q σ h
 | region id ops draw=>intro s Q σ h;exact vd hG hm (.region id ops draw) Q σ h
 | seq a b iha ihb =>
  intro s Q σ h;simp only [xd] at h;unfold UX at h;split at h
  ·rename_i ι S I x y
   obtain ⟨h1,l_,h2⟩:=h;refine NI (SW.mono ?_ (iha x _ σ h1));intro e σ' h'
   cases e with
   | normal =>
    obtain ⟨i,hI,hf⟩:=h';exact SW.fit hG (l_ i) (ihb (y i) Q _ (h2 i hI)) hf
   | _=>exact h'
  ·refine NI (SW.mono ?_ (iha _ _ σ h))
   intro e σ' h'
   cases e with
   | normal=>exact ihb _ Q σ' h'
   | _=>exact h'
 | cond c x y ihx ihy =>
  intro s Q σ h fr tm w γ f_ hr;simp only [xd] at h;split at h
  ·rename_i t0
   split at h
   ·rename_i ty t hs
    split at h
    ·rename_i hk
     obtain ⟨v,hv,hV,-⟩:=hr.ent _ _ hs;rw [pz] at hv;have hV:=hV trivial;obtain ⟨c',ti,h1,h2⟩:=vm hk (by simp);obtain ⟨t2,h3,-⟩:=id hV
     have:=pu h1 h3
     simp only [WK] at this;obtain ⟨rfl,rfl⟩:=this;obtain ⟨q1,-⟩:=ze h1 h2 hV;refine wp_cond_split (t:=t.bool) ?_ (fun e=>ihx s.l Q σ (h.1 e) fr tm w γ f_ hr) (fun e=>ihy s.r Q σ (h.2 e) fr tm w γ f_ hr)
     have:Act.eval ⟨tm,[]⟩ (.tmp t0)=v:=by
      simp [Act.eval,hv]
     rw [this,q1]
    ·exact h.elim
   ·exact h.elim
  ·exact wp_cond_true rfl (ihx s.l Q σ h fr tm w γ f_ hr)
  ·exact wp_cond_false rfl (ihy s.r Q σ h fr tm w γ f_ hr)
  ·exact h.elim
 | block id body ih =>
  intro s Q σ h fr tm w γ f_ hr;refine wp_block (wp_mono (ih s _ σ h fr tm w γ f_ hr) ?_);rintro e a' w' ⟨h1,h2,hp,σ',γ',h3,h4⟩
  cases e with
  | exit i =>
   simp only [F4] at h3;simp only [Exit.inBlock];split at h3
   ·rename_i hb
    rw [WY (WO hb)];exact ⟨h1,h2,hp,σ',γ',h3,h4⟩
   ·rename_i hb
    rw [WZ (fun q=>by subst q;simp at hb)];exact ⟨h1,h2,hp,σ',γ',h3,h4⟩
  | _=>exact ⟨h1,h2,hp,σ',γ',h3,h4⟩
 | loop body ih =>
  intro s Q σ h;simp only [xd] at h;unfold Tv at h;split at h
  ·rename_i ι S I μ r
   obtain ⟨⟨i0,n8,h0⟩,l_,hr⟩:=h;refine OC hG (ι:={ i // I i }) (fun i=>S i.1) (fun i=>μ i.1) (fun i=>l_ i.1) ⟨i0,n8⟩ h0 fun i=>?_
   refine SW.mono ?_ (ih _ _ _ (hr i.1 i.2));intro e σ' h'
   cases e with
   | normal =>
    obtain ⟨j,hj,hm,hf⟩:=h';exact ⟨⟨j,hj⟩,hm,hf⟩
   | _=>exact h'
  ·exact h.elim
 | rangeFunc=>intro s Q σ h;exact h.elim
 | scope=>intro s Q σ h;exact h.elim
 | label=>intro s Q σ h;exact h.elim
 | goto=>intro s Q σ h;exact h.elim
 | refuse=>intro s Q σ h;exact h.elim
def Tj (C:Ctx) (fn:Func) (args:List Arg) (sh:Shape):Bool :=
 match fn.name == "runtime.NumGoroutine", fn.body, Nat.beq fn.ntmps C.nt, Nat.ble args.length C.nt, T1 (A1 0 args) C.pins, Bj args (Ik fn) sh with
 | false,some _,true,true,true,true=>true
 | _,_,_,_,_,_=>false
theorem OA {P:Program} {C:Ctx} (hG:Good P C.tab) {f:FuncId} {fn:Func} {args:List Arg} {sh:Shape} {ys:List T}
  (hf:P.funcs[f]?=some fn) (l_:Tj C fn args sh=true) (h:SW P C (tO fn) (RW C args (Ik fn) sh ys) (rO 0 args)):Fn P C.tab f args sh ys:=by
 unfold Tj at l_;split at l_
 ·rename_i c h1 h2 h3 h4 h5 h6
  refine Un hG hf h1 h2 (by simp [Ik]) (WO h3) h4 h5 h6 ?_
  have:tO fn=c:=by unfold tO;rw [h2]
  rw [←this];exact h
 ·cases l_
theorem Um {P:Program} {C:Ctx} (hG:Good P C.tab) (hm:P.follows .mixedOrders=true) {f:FuncId} {fn:Func} {args:List Arg} {sh:Shape} {ys:List T}
  (hf:P.funcs[f]?=some fn) (l_:Tj C fn args sh=true) (s:Sp) {N:Prop} (hN:xd P C (tO fn) s (RW C args (Ik fn) sh ys) (rO 0 args)=N) (h:N):Fn P C.tab f args sh ys :=
 OA hG hf l_ (EN hG hm _ _ _ _ (hN ▸ h))
theorem IM {P:Program} {t:Tab} (hG:Good P t) (hm:P.follows .mixedOrders=true) {C:Ctx} (ht:C.tab=t) {f:FuncId} {fn:Func} {args:List Arg} {sh:Shape} {ys:List T}
  (hf:P.funcs[f]?=some fn) (l_:Tj C fn args sh=true) (s:Sp) {N:Prop} (hN:xd P C (tO fn) s (RW C args (Ik fn) sh ys) (rO 0 args)=N) (h:N):Fn P t f args sh ys:=by
 subst ht;exact Um hG hm hf l_ s hN h
end Go.Pl
namespace Go.Pq
open Go.Pl Go.Proofs
def tab:Tab:=[
(3,2,⟨.int .i64,1,8,[],.i .i64 0⟩),
(4,4,⟨.bool,1,1,[],.b false⟩),
(24,23,⟨.st [(0,4),(1,22),(2,22)],3,56,[4,22,22],.g [.b false,.l [],.l []]⟩),
(28,28,⟨.sl 3,1,24,[],.l []⟩),
(22,22,⟨.sl 155,1,24,[],.l []⟩),
(25,25,⟨.sl 24,1,24,[],.l []⟩),
(30,29,⟨.st [(0,2),(1,2),(2,23),(5,25),(6,26),(7,25),(8,26),(9,27),(10,28)],11,216,[2,2,4,22,22,25,26,25,26,27,28],.g [.i .i64 0,.i .i64 0,.b false,.l [],.l [],.l [],.l [],.l [],.l [],.l [],.l []]⟩),
(33,32,⟨.st [(0,29),(11,31),(12,2)],13,248,[2,2,4,22,22,25,26,25,26,27,28,31,2],.g [.i .i64 0,.i .i64 0,.b false,.l [],.l [],.l [],.l [],.l [],.l [],.l [],.l [],.l [],.i .i64 0]⟩),
(175,22,⟨.sl 155,1,24,[],.l []⟩),
(39,2,⟨.int .i64,1,8,[],.i .i64 0⟩),
(31,31,⟨.sl 63,1,24,[],.l []⟩),
(61,60,⟨.st [(0,29),(11,2),(12,25),(13,59),(14,28)],15,296,[2,2,4,22,22,25,26,25,26,27,28,2,25,59,28],.g [.i .i64 0,.i .i64 0,.b false,.l [],.l [],.l [],.l [],.l [],.l [],.l [],.l [],.i .i64 0,.l [],.l [],.l []]⟩),
(142,12,⟨.int .u64,1,8,[],.i .u64 0⟩),
(41,40,⟨.st [(0,2),(1,2),(2,28),(3,34),(4,28),(5,23)],8,144,[2,2,28,34,28,4,22,22],.g [.i .i64 0,.i .i64 0,.l [],.l [],.l [],.b false,.l [],.l []]⟩),
(26,26,⟨.sl 25,1,24,[],.l []⟩),
(155,155,⟨.int .u32,1,4,[],.i .u32 0⟩),
(34,34,⟨.sl 5,1,24,[],.l []⟩),
(59,59,⟨.sl 28,1,24,[],.l []⟩),
(63,62,⟨.st [(0,2),(1,60)],16,304,[2,2,2,4,22,22,25,26,25,26,27,28,2,25,59,28],.g [.i .i64 0,.i .i64 0,.i .i64 0,.b false,.l [],.l [],.l [],.l [],.l [],.l [],.l [],.l [],.i .i64 0,.l [],.l [],.l []]⟩),
(27,27,⟨.sl 4,1,24,[],.l []⟩),
(36,35,⟨.st [(0,2),(1,2),(2,2),(3,28),(4,34)],5,72,[2,2,2,28,34],.g [.i .i64 0,.i .i64 0,.i .i64 0,.l [],.l []]⟩),
(179,23,⟨.st [(0,4),(1,22),(2,22)],3,56,[4,22,22],.g [.b false,.l [],.l []]⟩),
(97,97,⟨.sl 100,1,24,[],.l []⟩),
(192,192,⟨.ptr 198,1,8,[],.z⟩),
(225,225,⟨.ptr 196,1,8,[],.z⟩),
(110,110,⟨.ptr 112,1,8,[],.z⟩),
(209,209,⟨.ptr 211,1,8,[],.z⟩),
(5,5,⟨.int .u8,1,1,[],.i .u8 0⟩),
(100,99,⟨.st [(0,28),(1,23)],4,80,[28,4,22,22],.g [.l [],.b false,.l [],.l []]⟩),
(196,195,⟨.st [(0,34),(1,2),(2,193)],3,40,[34,2,193],.g [.l [],.i .i64 0,.i .i8 0]⟩),
(50,49,⟨.st [(0,2),(1,2),(2,28)],3,40,[2,2,28],.g [.i .i64 0,.i .i64 0,.l []]⟩),
(161,12,⟨.int .u64,1,8,[],.i .u64 0⟩),
(134,134,⟨.sl 97,1,24,[],.l []⟩),
(112,111,⟨.st [(0,32)],13,248,[2,2,4,22,22,25,26,25,26,27,28,31,2],.g [.i .i64 0,.i .i64 0,.b false,.l [],.l [],.l [],.l [],.l [],.l [],.l [],.l [],.l [],.i .i64 0]⟩),
(51,51,⟨.sl 58,1,24,[],.l []⟩),
(128,128,⟨.ptr 130,1,8,[],.z⟩),
(55,55,⟨.sl 34,1,24,[],.l []⟩),
(78,78,⟨.sl 41,1,24,[],.l []⟩),
(204,20,⟨.ifc,1,16,[],.z⟩),
(114,1,⟨.fn,1,8,[],.z⟩),
(154,1,⟨.fn,1,8,[],.z⟩),
(198,197,⟨.st [(0,195)],3,40,[34,2,193],.g [.l [],.i .i64 0,.i .i8 0]⟩),
(9,9,⟨.str,1,16,[],.s ⟨#[]⟩⟩),
(58,57,⟨.st [(0,2),(1,2),(2,2),(3,28)],4,48,[2,2,2,28],.g [.i .i64 0,.i .i64 0,.i .i64 0,.l []]⟩),
(82,82,⟨.sl 36,1,24,[],.l []⟩),
(104,1,⟨.fn,1,8,[],.z⟩),
(130,129,⟨.st [(0,28),(1,2)],2,32,[28,2],.g [.l [],.i .i64 0]⟩),
(211,210,⟨.st [(0,34)],1,24,[34],.g [.l []]⟩),
(20,20,⟨.ifc,1,16,[],.z⟩),
(123,1,⟨.fn,1,8,[],.z⟩),
(103,1,⟨.fn,1,8,[],.z⟩),
(191,1,⟨.fn,1,8,[],.z⟩),
(119,1,⟨.fn,1,8,[],.z⟩),
(121,1,⟨.fn,1,8,[],.z⟩),
(136,1,⟨.fn,1,8,[],.z⟩),
(194,193,⟨.int .i8,1,1,[],.i .i8 0⟩),
(251,250,⟨.st [(0,9)],1,16,[9],.g [.s ⟨#[]⟩]⟩),
(235,235,⟨.ptr 251,1,8,[],.z⟩),
(1,1,⟨.fn,1,8,[],.z⟩),
(2,2,⟨.int .i64,1,8,[],.i .i64 0⟩),
(12,12,⟨.int .u64,1,8,[],.i .u64 0⟩),
(23,23,⟨.st [(0,4),(1,22),(2,22)],3,56,[4,22,22],.g [.b false,.l [],.l []]⟩),
(29,29,⟨.st [(0,2),(1,2),(2,23),(5,25),(6,26),(7,25),(8,26),(9,27),(10,28)],11,216,[2,2,4,22,22,25,26,25,26,27,28],.g [.i .i64 0,.i .i64 0,.b false,.l [],.l [],.l [],.l [],.l [],.l [],.l [],.l []]⟩),
(32,32,⟨.st [(0,29),(11,31),(12,2)],13,248,[2,2,4,22,22,25,26,25,26,27,28,31,2],.g [.i .i64 0,.i .i64 0,.b false,.l [],.l [],.l [],.l [],.l [],.l [],.l [],.l [],.l [],.i .i64 0]⟩),
(35,35,⟨.st [(0,2),(1,2),(2,2),(3,28),(4,34)],5,72,[2,2,2,28,34],.g [.i .i64 0,.i .i64 0,.i .i64 0,.l [],.l []]⟩),
(40,40,⟨.st [(0,2),(1,2),(2,28),(3,34),(4,28),(5,23)],8,144,[2,2,28,34,28,4,22,22],.g [.i .i64 0,.i .i64 0,.l [],.l [],.l [],.b false,.l [],.l []]⟩),
(49,49,⟨.st [(0,2),(1,2),(2,28)],3,40,[2,2,28],.g [.i .i64 0,.i .i64 0,.l []]⟩),
(57,57,⟨.st [(0,2),(1,2),(2,2),(3,28)],4,48,[2,2,2,28],.g [.i .i64 0,.i .i64 0,.i .i64 0,.l []]⟩),
(60,60,⟨.st [(0,29),(11,2),(12,25),(13,59),(14,28)],15,296,[2,2,4,22,22,25,26,25,26,27,28,2,25,59,28],.g [.i .i64 0,.i .i64 0,.b false,.l [],.l [],.l [],.l [],.l [],.l [],.l [],.l [],.i .i64 0,.l [],.l [],.l []]⟩),
(62,62,⟨.st [(0,2),(1,60)],16,304,[2,2,2,4,22,22,25,26,25,26,27,28,2,25,59,28],.g [.i .i64 0,.i .i64 0,.i .i64 0,.b false,.l [],.l [],.l [],.l [],.l [],.l [],.l [],.l [],.i .i64 0,.l [],.l [],.l []]⟩),
(99,99,⟨.st [(0,28),(1,23)],4,80,[28,4,22,22],.g [.l [],.b false,.l [],.l []]⟩),
(111,111,⟨.st [(0,32)],13,248,[2,2,4,22,22,25,26,25,26,27,28,31,2],.g [.i .i64 0,.i .i64 0,.b false,.l [],.l [],.l [],.l [],.l [],.l [],.l [],.l [],.l [],.i .i64 0]⟩),
(129,129,⟨.st [(0,28),(1,2)],2,32,[28,2],.g [.l [],.i .i64 0]⟩),
(193,193,⟨.int .i8,1,1,[],.i .i8 0⟩),
(195,195,⟨.st [(0,34),(1,2),(2,193)],3,40,[34,2,193],.g [.l [],.i .i64 0,.i .i8 0]⟩),
(197,197,⟨.st [(0,195)],3,40,[34,2,193],.g [.l [],.i .i64 0,.i .i8 0]⟩),
(210,210,⟨.st [(0,34)],1,24,[34],.g [.l []]⟩),
(250,250,⟨.st [(0,9)],1,16,[9],.g [.s ⟨#[]⟩]⟩)]
def sigs:List (FuncId×List TypeId×List TypeId):=[
(2,[],[]),(3,[32,35],[4]),(4,[49,51],[4]),(5,[49,28,28,4],[4]),(6,[49,49,28,2,2],[4]),(7,[49,28],[4]),(8,[32],[4]),(9,[],[4]),
(10,[32,35],[32,40,2]),(11,[32],[4]),(12,[32],[4]),(13,[32,35,31,2],[32,40]),(14,[40,40],[4]),(15,[32,32],[4]),(16,[49,2],[29]),(17,[29],[32,2]),
(18,[29],[32,2]),(19,[2,2],[2]),(20,[28,2,2],[28]),(21,[29,28],[28,23,2]),(22,[28,28],[4]),(23,[23,23],[2]),(24,[29,29],[4]),(25,[29],[60,2]),
(26,[60,2],[60,28,2]),(27,[29,82],[78,32,2]),(28,[],[29]),(29,[32,35],[32,40]),(30,[32],[32]),(31,[29],[4]),(32,[60],[4]),(33,[29],[4]),
(34,[60],[4]),(35,[29,29],[4]),(36,[32,2],[32,40]),(37,[32,62],[32]),(38,[32,2],[2]),(39,[32,2],[32]),(40,[60],[28,23,2]),(41,[28,28],[2]),
(42,[60,60],[4]),(43,[49,2,4],[29]),(44,[29],[60,2]),(45,[29],[2]),(46,[29,28],[2]),(47,[29,28,59,2],[97]),(48,[23],[2]),(49,[23,23],[23]),
(50,[23,23],[4]),(51,[25,25],[4]),(52,[23,23],[23]),(53,[60,59],[2]),(54,[60,2],[4]),(55,[2,2],[23,2]),(56,[2],[23]),(57,[31],[31]),
(58,[110,2],[1,4]),(59,[29],[29]),(60,[25],[25]),(61,[59],[59]),(62,[28],[28]),(63,[29],[2]),(64,[28,2],[4]),(65,[23],[4]),
(66,[29],[2]),(67,[27,4],[4]),(68,[23],[4]),(69,[60,2],[4]),(70,[60,2],[4]),(71,[60,59],[2]),(72,[25,25],[4]),(73,[25,25,1],[4]),
(74,[23,23],[4]),(75,[26,26,1],[4]),(76,[27,27],[4]),(77,[28,28],[4]),(78,[23,23],[23]),(79,[25,25],[4]),(80,[128,2],[25]),(81,[128,2],[2]),
(82,[25,25],[4]),(83,[29],[2]),(84,[28,2],[4]),(85,[97,99,2],[97]),(86,[29,28,59,2],[134]),(87,[23],[23]),(88,[23],[23]),(89,[22,22],[4]),
(90,[4,22,22],[23]),(91,[22,22],[22]),(92,[23],[22]),(93,[12],[22]),(94,[2],[12]),(95,[110,35],[40,2]),(96,[110,35],[40,2]),(97,[110,35],[40,2]),
(98,[110,35],[40,2]),(99,[110,35],[40,2]),(100,[23],[23]),(101,[26],[26]),(102,[27],[27]),(103,[25,1],[25]),(104,[59,1],[59]),(105,[29],[4]),
(106,[23,25],[4]),(107,[29],[4]),(108,[23],[4]),(109,[29],[4]),(110,[29],[4]),(111,[29],[28,4]),(112,[29],[4]),(113,[27,4],[2]),
(114,[2,2],[23,2]),(115,[23],[4]),(116,[23],[2]),(117,[23,23],[2]),(118,[59],[28]),(119,[28,1],[4]),(120,[2],[4]),(121,[22,22],[4]),
(122,[22,22],[22]),(123,[22,22],[2]),(124,[22,22],[22]),(125,[2],[4]),(126,[99,99],[4]),(127,[28,2],[4]),(128,[22,22],[22]),(129,[22,22],[22,22]),
(130,[22],[4]),(131,[22],[22]),(132,[110,2],[2,4]),(133,[60,2],[60,28,2]),(134,[62],[34]),(135,[31,2,2],[31]),(136,[34,29],[62,4]),(137,[31,2,31],[31]),
(138,[60],[28,23,2]),(139,[22],[22]),(140,[26,1],[26]),(141,[25],[4]),(142,[25],[23]),(143,[23],[4]),(144,[25],[4]),(145,[25,25],[4]),
(146,[2],[4]),(147,[28],[]),(148,[25,25],[4]),(149,[2],[4,22]),(150,[23],[23]),(151,[22],[4]),(152,[22,22],[2]),(153,[],[22]),
(154,[22,22],[22]),(155,[23],[23]),(156,[23,23],[23]),(157,[28,2],[28]),(158,[28,1],[2]),(159,[22,2],[12]),(160,[2],[2]),(161,[22],[2]),
(162,[22,2],[22]),(163,[31,2,1],[2,4]),(164,[62,2],[2]),(165,[2,2],[2]),(166,[23,23],[23]),(167,[28,28],[2]),(168,[192,2],[]),(169,[192,28],[]),
(170,[192,25],[]),(171,[192,29],[]),(172,[225],[2]),(173,[225,34],[2,20]),(174,[225],[34]),(175,[34],[2]),(176,[209],[2]),(177,[209],[28]),
(178,[209],[25]),(179,[209],[2]),(180,[34,34],[4]),(182,[31,2],[]),(183,[],[23]),(184,[25,1],[4]),(185,[23],[4]),(186,[26],[25]),
(187,[23,23],[23]),(188,[23,23],[4]),(189,[22],[22]),(190,[22],[22]),(191,[22,22],[22,22]),(192,[22,2],[12]),(193,[23,23],[23]),(194,[23],[23]),
(195,[2],[4]),(196,[22,22],[22]),(197,[225,5],[20]),(198,[192,22],[]),(199,[225,2],[2,4]),(200,[225,2],[2]),(201,[209],[22]),(202,[31,2],[]),
(203,[25,1],[2]),(204,[25,2],[25]),(205,[22,155],[22,155]),(206,[22],[2]),(207,[22,2],[22]),(208,[22,22],[22]),(209,[22,2],[22]),(210,[22,22],[22]),
(211,[225],[]),(212,[34,2],[34]),(213,[31],[]),(214,[155],[2]),(215,[],[]),(216,[155],[2]),(237,[9],[20]),(241,[],[])]
theorem good:Good Tryz.prog tab:=Mo (by kernel_rfl)
theorem mixed:Tryz.prog.follows .mixedOrders=true:=by kernel_rfl
abbrev F (f:FuncId) (args:List Arg) (sh:Shape) (ys:List T):Prop:=Go.Pl.Fn Tryz.prog tab f args sh ys
def bs (l:List Nat):ByteArray:=⟨(l.map UInt8.ofNat).toArray⟩
theorem p7 (C:Ctx) (ht:C.tab=tab) {f:FuncId} {fn:Func} {args:List Arg} {sh:Shape} {ys:List T}
  (hf:Tryz.prog.funcs[f]?=some fn) (l_:Tj C fn args sh=true) (s:Sp) {N:Prop} (hN:xd Tryz.prog C (tO fn) s (RW C args (Ik fn) sh ys) (rO 0 args)=N) (h:N):F f args sh ys :=
 IM good mixed ht hf l_ s hN h
end Go.Pq
namespace Go.Pl
def bxS (s : Nat) (x : T) (k : Nat) : List TypeId → List (Key × AV)
  | [] => []
  | t :: r => (cell s k, .t t (x.cell k)) :: bxS s x (k + 1) r
abbrev kI (n : Int) : T := T.i .i64 n
abbrev zo (s : Nat) (t : TypeId) : Shape := [(pp s, t, false)]
abbrev zw (s : Nat) (t : TypeId) : Shape := [(pp s, t, true)]
abbrev Z1 : Shape := [(comp 2 0, 23, false), (comp 2 1, 2, false)]
abbrev Z2 : Shape := [(comp 1 0, 4, false), (comp 1 1, 22, false)]
abbrev Z3 : Shape := [(comp 2 0, 22, false), (comp 2 1, 22, false)]
abbrev Z4 : Shape := [(comp 2 0, 22, false), (comp 2 1, 155, false)]
abbrev Z5 : Shape := [(comp 1 0, 28, false), (comp 1 1, 4, false)]
abbrev Z6 : Shape := [(pp 2, 2, false), (cell 0 0, 28, false), (cell 0 1, 2, false)]
abbrev Z7 : Shape := [(pp 2, 25, false), (cell 0 0, 28, false), (cell 0 1, 2, false)]
abbrev Z8 : Shape := [(comp 3 0, 2, false), (comp 3 1, 4, false)]
abbrev Z9 : Shape := [(comp 1 0, 60, false), (comp 1 1, 2, false)]
abbrev Z10 : Shape := [(comp 2 0, 32, false), (comp 2 1, 40, false)]
abbrev Z11 : Shape := [(comp 2 0, 32, false), (comp 2 1, 40, false), (comp 2 2, 2, false)]
abbrev Z12 : Shape := [(comp 1 0, 32, false), (comp 1 1, 2, false)]
abbrev Z13 : Shape := [(comp 2 0, 40, false), (comp 2 1, 2, false), (cell 0 0, 2, false), (cell 0 1, 2, false), (cell 0 2, 4, false), (cell 0 3, 22, false), (cell 0 4, 22, false), (cell 0 5, 25, false), (cell 0 6, 26, false), (cell 0 7, 25, false), (cell 0 8, 26, false), (cell 0 9, 27, false), (cell 0 10, 28, false), (cell 0 11, 31, true), (cell 0 12, 2, false)]
abbrev Z14 : Shape := [(comp 2 0, 2, false), (comp 2 1, 4, false), (cell 0 0, 2, false), (cell 0 1, 2, false), (cell 0 2, 4, false), (cell 0 3, 22, false), (cell 0 4, 22, false), (cell 0 5, 25, false), (cell 0 6, 26, false), (cell 0 7, 25, false), (cell 0 8, 26, false), (cell 0 9, 27, false), (cell 0 10, 28, false), (cell 0 11, 31, true), (cell 0 12, 2, false)]
abbrev Z15 : Shape := [(comp 1 0, 28, false), (comp 1 1, 23, false), (comp 1 2, 2, false)]
abbrev Z16 : Shape := [(comp 2 0, 60, false), (comp 2 1, 28, false), (comp 2 2, 2, false)]
abbrev Z17 : Shape := [(comp 2 0, 78, false), (comp 2 1, 32, false), (comp 2 2, 2, false)]
abbrev Z18 : Shape := [(pp 1, 2, false), (cell 0 0, 34, false)]
abbrev Z19 : Shape := [(pp 1, 28, false), (cell 0 0, 34, false)]
abbrev Z20 : Shape := [(pp 1, 22, false), (cell 0 0, 34, false)]
abbrev Z21 : Shape := [(pp 1, 25, false), (cell 0 0, 34, false)]
abbrev Z22 : Shape := [(pp 2, 20, false), (cell 0 0, 34, true), (cell 0 1, 2, false), (cell 0 2, 193, false)]
abbrev Z23 : Shape := [(cell 0 0, 34, true), (cell 0 1, 2, false), (cell 0 2, 193, false)]
abbrev Z24 : Shape := [(comp 2 0, 2, false), (comp 2 1, 20, false), (cell 0 0, 34, true), (cell 0 1, 2, false), (cell 0 2, 193, false)]
abbrev Z25 : Shape := [(pp 1, 2, false), (cell 0 0, 34, true), (cell 0 1, 2, false), (cell 0 2, 193, false)]
abbrev Z26 : Shape := [(comp 2 0, 62, false), (comp 2 1, 4, false)]
abbrev Bd (x y : Int) : Prop := 0 ≤ x ∧ x < y
abbrev Rm (x k : Nat) : Prop := x * k ≤ room ∧ x ≤ 9223372036854775807
abbrev E3 (p q : T) (r : Prop) : Prop := p.cell 0 = q.cell 0 ∧ p.cell 1 = q.cell 1 ∧ p.cell 2 = q.cell 2 ∧ r
abbrev E5 (p q : T) (r : Prop) : Prop := p.cell 0 = q.cell 0 ∧ p.cell 1 = q.cell 1 ∧ p.cell 2 = q.cell 2 ∧ p.cell 3 = q.cell 3 ∧ p.cell 4 = q.cell 4 ∧ r
abbrev E6 (p q : T) (r : Prop) : Prop := p.cell 0 = q.cell 0 ∧ p.cell 1 = q.cell 1 ∧ p.cell 2 = q.cell 2 ∧ p.cell 3 = q.cell 3 ∧ p.cell 4 = q.cell 4 ∧ p.cell 5 = q.cell 5 ∧ r
abbrev E8 (p q : T) (r : Prop) : Prop := p.cell 0 = q.cell 0 ∧ p.cell 1 = q.cell 1 ∧ p.cell 2 = q.cell 2 ∧ p.cell 3 = q.cell 3 ∧ p.cell 4 = q.cell 4 ∧ p.cell 5 = q.cell 5 ∧ p.cell 6 = q.cell 6 ∧ p.cell 7 = q.cell 7 ∧ r
abbrev E11 (p q : T) (r : Prop) : Prop := p.cell 0 = q.cell 0 ∧ p.cell 1 = q.cell 1 ∧ p.cell 2 = q.cell 2 ∧ p.cell 3 = q.cell 3 ∧ p.cell 4 = q.cell 4 ∧ p.cell 5 = q.cell 5 ∧ p.cell 6 = q.cell 6 ∧ p.cell 7 = q.cell 7 ∧ p.cell 8 = q.cell 8 ∧ p.cell 9 = q.cell 9 ∧ p.cell 10 = q.cell 10 ∧ r
abbrev E13 (p q : T) (r : Prop) : Prop := p.cell 0 = q.cell 0 ∧ p.cell 1 = q.cell 1 ∧ p.cell 2 = q.cell 2 ∧ p.cell 3 = q.cell 3 ∧ p.cell 4 = q.cell 4 ∧ p.cell 5 = q.cell 5 ∧ p.cell 6 = q.cell 6 ∧ p.cell 7 = q.cell 7 ∧ p.cell 8 = q.cell 8 ∧ p.cell 9 = q.cell 9 ∧ p.cell 10 = q.cell 10 ∧ p.cell 11 = q.cell 11 ∧ p.cell 12 = q.cell 12 ∧ r
abbrev E14 (p q : T) (r : Prop) : Prop := p.cell 0 = q.cell 0 ∧ p.cell 1 = q.cell 1 ∧ p.cell 2 = q.cell 2 ∧ p.cell 3 = q.cell 3 ∧ p.cell 4 = q.cell 4 ∧ p.cell 5 = q.cell 5 ∧ p.cell 6 = q.cell 6 ∧ p.cell 7 = q.cell 7 ∧ p.cell 8 = q.cell 8 ∧ p.cell 9 = q.cell 9 ∧ p.cell 10 = q.cell 10 ∧ p.cell 11 = q.cell 11 ∧ p.cell 12 = q.cell 12 ∧ p.cell 13 = q.cell 13 ∧ r
abbrev E15 (p q : T) (r : Prop) : Prop := p.cell 0 = q.cell 0 ∧ p.cell 1 = q.cell 1 ∧ p.cell 2 = q.cell 2 ∧ p.cell 3 = q.cell 3 ∧ p.cell 4 = q.cell 4 ∧ p.cell 5 = q.cell 5 ∧ p.cell 6 = q.cell 6 ∧ p.cell 7 = q.cell 7 ∧ p.cell 8 = q.cell 8 ∧ p.cell 9 = q.cell 9 ∧ p.cell 10 = q.cell 10 ∧ p.cell 11 = q.cell 11 ∧ p.cell 12 = q.cell 12 ∧ p.cell 13 = q.cell 13 ∧ p.cell 14 = q.cell 14 ∧ r
abbrev E16 (p q : T) (r : Prop) : Prop := p.cell 0 = q.cell 0 ∧ p.cell 1 = q.cell 1 ∧ p.cell 2 = q.cell 2 ∧ p.cell 3 = q.cell 3 ∧ p.cell 4 = q.cell 4 ∧ p.cell 5 = q.cell 5 ∧ p.cell 6 = q.cell 6 ∧ p.cell 7 = q.cell 7 ∧ p.cell 8 = q.cell 8 ∧ p.cell 9 = q.cell 9 ∧ p.cell 10 = q.cell 10 ∧ p.cell 11 = q.cell 11 ∧ p.cell 12 = q.cell 12 ∧ p.cell 13 = q.cell 13 ∧ p.cell 14 = q.cell 14 ∧ p.cell 15 = q.cell 15 ∧ r
abbrev G3 (p : T) : T := T.g [p.cell 0, p.cell 1, p.cell 2]
abbrev G5 (p : T) : T := T.g [p.cell 0, p.cell 1, p.cell 2, p.cell 3, p.cell 4]
abbrev G8 (p : T) : T := T.g [p.cell 0, p.cell 1, p.cell 2, p.cell 3, p.cell 4, p.cell 5, p.cell 6, p.cell 7]
abbrev G11 (p : T) : T := T.g [p.cell 0, p.cell 1, p.cell 2, p.cell 3, p.cell 4, p.cell 5, p.cell 6, p.cell 7, p.cell 8, p.cell 9, p.cell 10]
abbrev G13 (p : T) : T := T.g [p.cell 0, p.cell 1, p.cell 2, p.cell 3, p.cell 4, p.cell 5, p.cell 6, p.cell 7, p.cell 8, p.cell 9, p.cell 10, p.cell 11, p.cell 12]
abbrev G15 (p : T) : T := T.g [p.cell 0, p.cell 1, p.cell 2, p.cell 3, p.cell 4, p.cell 5, p.cell 6, p.cell 7, p.cell 8, p.cell 9, p.cell 10, p.cell 11, p.cell 12, p.cell 13, p.cell 14]
abbrev G16 (p : T) : T := T.g [p.cell 0, p.cell 1, p.cell 2, p.cell 3, p.cell 4, p.cell 5, p.cell 6, p.cell 7, p.cell 8, p.cell 9, p.cell 10, p.cell 11, p.cell 12, p.cell 13, p.cell 14, p.cell 15]
abbrev Y1 : List TypeId := [2, 2, 4, 22, 22, 25, 26, 25, 26, 27, 28]
abbrev Y2 : List TypeId := [2, 2, 4, 22, 22, 25, 26, 25, 26, 27, 28, 2, 25, 59, 28]
abbrev Y3 : List TypeId := [4, 22, 22]
abbrev Y4 : List TypeId := [2, 2, 4, 22, 22, 25, 26, 25, 26, 27, 28, 31, 2]
abbrev Y5 : List TypeId := [2, 2, 2, 28, 34]
abbrev Y6 : List TypeId := [2, 2, 28]
abbrev Y7 : List TypeId := [2, 2, 4, 22, 22, 25]
abbrev Y8 : List TypeId := [2, 2, 28, 34, 28, 4, 22, 22]
abbrev Y9 : List TypeId := [2, 2, 2, 4, 22, 22, 25, 26, 25, 26, 27, 28, 2, 25, 59, 28]
abbrev Y10 : List TypeId := [2, 2, 2, 4, 22, 22, 25, 26, 25, 26, 27, 28, 2, 25]
abbrev X1 := Nat × Int × List T
abbrev X2 := Nat × T × T × List T
abbrev X3 := Nat × T × T × T × List T
abbrev X4 := List T × Nat × Nat
abbrev X5 := List T × Nat × Nat × Nat
abbrev X6 := List T × List T × Nat × Nat × Nat
abbrev X7 := Int × T × Nat
abbrev X8 := T × T × Nat
abbrev X9 := T × List T × List T × Bool × Nat
abbrev X10 := T × List T × List T × T × Nat × Nat
abbrev X11 := T × List T × Nat × T × Nat × T
abbrev X12 := T × List T × Nat
abbrev X13 := T × List T × List T × List T × List T × List T × Nat × Nat
abbrev X14 := Nat × Nat × T × Bool
abbrev X15 := Bool × Nat × T
abbrev X16 := List T × List T × List T × T × Bool × Nat
abbrev X17 := T × T × T × T × T × Nat
abbrev X18 := List T × T × Nat × Nat
abbrev X19 := List T × T × T × Nat
abbrev X20 := T × List T × T × Nat × Nat
abbrev R1 {α0 : Type} (p0 : α0) {α1 : Type} (p1 : α1) (r : Prop) : Prop := p0 = p0 ∧ p1 = p1 ∧ T.b false = T.b false ∧ r
abbrev R2 {α0 : Type} (p0 : α0) {α1 : Type} (p1 : α1) (r : Prop) : Prop := p0 = p0 ∧ p1 = p1 ∧ T.l [] = T.l [] ∧ r
abbrev R3 {α0 : Type} (p0 : α0) (r : Prop) : Prop := p0 = p0 ∧ T.i .i64 0 = T.i .i64 0 ∧ r
abbrev R4 {α0 : Type} (p0 : α0) {α1 : Type} (p1 : α1) (r : Prop) : Prop := p0 = p0 ∧ p1 = p1 ∧ T.l [] = T.l [] ∧ T.l [] = T.l [] ∧ r
abbrev R5 {α0 : Type} (p0 : α0) {α1 : Type} (p1 : α1) (r : Prop) : Prop := p0 = p0 ∧ p1 = p1 ∧ T.i .i64 0 = T.i .i64 0 ∧ r
abbrev R6 {α0 : Type} (p0 : α0) {α1 : Type} (p1 : α1) {α2 : Type} (p2 : α2) {α3 : Type} (p3 : α3) {α4 : Type} (p4 : α4) (p5 : T) (p6 : Nat) (r : Prop) : Prop := p0 = p0 ∧ p1 = p1 ∧ p2 = p2 ∧ T.l [] = T.l [] ∧ p3 = p3 ∧ p4 = p4 ∧ p5 = p5 ∧ T.i .i64 ((↑p6 : Int) - (1 : Int)) = T.i .i64 ((↑p6 : Int) - (1 : Int)) ∧ T.i .i64 (pL .i64 ((↑p6 : Int) - (1 : Int)) (lenOf p5.list)) = T.i .i64 (pL .i64 ((↑p6 : Int) - (1 : Int)) (lenOf p5.list)) ∧ r
abbrev R7 (p0 : T) (r : Prop) : Prop := p0 = p0 ∧ T.i .i64 (lenOf p0.list) = T.i .i64 (lenOf p0.list) ∧ r
abbrev R8 (p0 : T) (p1 : Nat) (r : Prop) : Prop := T.i .i64 (lenOf p0.list) = T.i .i64 (lenOf p0.list) ∧ T.i .i64 ↑p1 = T.i .i64 ↑p1 ∧ T.i .i64 ↑p1 = T.i .i64 ↑p1 ∧ r
abbrev R9 (p0 : T) (r : Prop) : Prop := p0 = p0 ∧ True ∧ E11 p0 p0 (T.b false = T.b false ∧ p0.cell 1 = p0.cell 1 ∧ r)
abbrev R10 (p0 : T) (p1 : Nat) (r : Prop) : Prop := p0 = p0 ∧ True ∧ E11 p0 p0 (T.b false = T.b false ∧ p0.cell 1 = p0.cell 1 ∧ T.i .i64 ↑p1 = T.i .i64 ↑p1 ∧ T.i .i64 ↑p1 = T.i .i64 ↑p1 ∧ T.i .i64 ↑p1 = T.i .i64 ↑p1 ∧ r)
abbrev R11 {α0 : Type} (p0 : α0) (r : Prop) : Prop := p0 = p0 ∧ T.l [] = T.l [] ∧ r
abbrev R12 (p0 : T) {α1 : Type} (p1 : α1) (r : Prop) : Prop := p0 = p0 ∧ p1 = p1 ∧ True ∧ E15 p0 p0 (T.i .i64 0 = T.i .i64 0 ∧ r)
abbrev R13 (p0 : T) (p1 : Nat) (r : Prop) : Prop := p0 = p0 ∧ T.i .i64 (lenOf p0.list) = T.i .i64 (lenOf p0.list) ∧ T.i .i64 ↑p1 = T.i .i64 ↑p1 ∧ T.i .i64 ↑p1 = T.i .i64 ↑p1 ∧ (p0.list.getD (↑p1 : Int).toNat T.u).cell 0 = (p0.list.getD (↑p1 : Int).toNat T.u).cell 0 ∧ r
abbrev R14 (p0 : T) {α1 : Type} (p1 : α1) (r : Prop) : Prop := p0 = p0 ∧ p1 = p1 ∧ T.i .i64 0 = T.i .i64 0 ∧ T.i .i64 (lenOf p0.list) = T.i .i64 (lenOf p0.list) ∧ r
abbrev R15 {α0 : Type} (p0 : α0) {α1 : Type} (p1 : α1) (r : Prop) : Prop := p0 = p0 ∧ p1 = p1 ∧ T.b false = T.b false ∧ True ∧ r
abbrev R16 (p0 : T) (r : Prop) : Prop := T.i .i64 0 = T.i .i64 0 ∧ T.i .i64 (lenOf p0.list) = T.i .i64 (lenOf p0.list) ∧ r
abbrev R17 (p0 : T) (r : Prop) : Prop := T.b false = T.b false ∧ p0 = p0 ∧ T.i .i64 (lenOf p0.list) = T.i .i64 (lenOf p0.list) ∧ r
abbrev R18 (p0 : T) {α1 : Type} (p1 : α1) (r : Prop) : Prop := p0 = p0 ∧ p1 = p1 ∧ T.b false = T.b false ∧ T.i .i64 (lenOf p0.list) = T.i .i64 (lenOf p0.list) ∧ r
abbrev R19 (p0 : T) {α1 : Type} (p1 : α1) (r : Prop) : Prop := p0 = p0 ∧ p1 = p1 ∧ T.i .i64 0 = T.i .i64 0 ∧ p0 = p0 ∧ T.i .i64 (lenOf p0.list) = T.i .i64 (lenOf p0.list) ∧ r
abbrev R20 (p0 : T) (r : Prop) : Prop := T.i .i64 0 = T.i .i64 0 ∧ T.b false = T.b false ∧ T.i .i64 (lenOf p0.list) = T.i .i64 (lenOf p0.list) ∧ r
abbrev R21 {α0 : Type} (p0 : α0) {α1 : Type} (p1 : α1) {α2 : Type} (p2 : α2) (r : Prop) : Prop := p0 = p0 ∧ p1 = p1 ∧ p2 = p2 ∧ T.l [] = T.l [] ∧ r
abbrev R22 (p0 : T) (r : Prop) : Prop := p0 = p0 ∧ True ∧ E11 p0 p0 (T.b false = T.b false ∧ p0.cell 1 = p0.cell 1 ∧ p0.cell 1 = p0.cell 1 ∧ r)
abbrev R23 (p0 : T) (r : Prop) : Prop := p0.cell 11 = p0.cell 11 ∧ T.i .i64 (lenOf (p0.cell 11).list) = T.i .i64 (lenOf (p0.cell 11).list) ∧ r
abbrev R24 (p0 : T) (r : Prop) : Prop := p0 = p0 ∧ True ∧ E13 p0 p0 (T.b false = T.b false ∧ r)
abbrev R25 (p0 : T) (r : Prop) : Prop := p0.cell 12 = p0.cell 12 ∧ T.i .i64 (lenOf (p0.cell 12).list) = T.i .i64 (lenOf (p0.cell 12).list) ∧ r
abbrev R26 (p0 : T) (r : Prop) : Prop := p0 = p0 ∧ True ∧ E15 p0 p0 (T.b false = T.b false ∧ r)
abbrev R27 (p0 : T) {α1 : Type} (p1 : α1) (r : Prop) : Prop := p0 = p0 ∧ p1 = p1 ∧ True ∧ E15 p0 p0 (True ∧ T.i .i64 0 = T.i .i64 0 ∧ T.i .i64 0 = T.i .i64 0 ∧ T.b false = T.b false ∧ T.l [] = T.l [] ∧ T.l [] = T.l [] ∧ T.l [] = T.l [] ∧ T.l [] = T.l [] ∧ T.l [] = T.l [] ∧ T.l [] = T.l [] ∧ T.l [] = T.l [] ∧ T.l [] = T.l [] ∧ T.i .i64 0 = T.i .i64 0 ∧ T.l [] = T.l [] ∧ T.l [] = T.l [] ∧ T.l [] = T.l [] ∧ T.l [] = T.l [] ∧ T.i .i64 0 = T.i .i64 0 ∧ True ∧ r)
abbrev R28 (p0 : T) {α1 : Type} (p1 : α1) (p2 : T) {α3 : Type} (p3 : α3) {α4 : Type} (p4 : α4) (p5 : Bool) (p6 : Nat) (r : Prop) : Prop := p0 = p0 ∧ p1 = p1 ∧ True ∧ E15 p0 p0 (True ∧ T.i .i64 0 = T.i .i64 0 ∧ T.i .i64 0 = T.i .i64 0 ∧ T.b false = T.b false ∧ T.l [] = T.l [] ∧ T.l [] = T.l [] ∧ T.l [] = T.l [] ∧ T.l [] = T.l [] ∧ T.l [] = T.l [] ∧ T.l [] = T.l [] ∧ T.l [] = T.l [] ∧ T.l [] = T.l [] ∧ T.i .i64 0 = T.i .i64 0 ∧ T.l [] = T.l [] ∧ T.l [] = T.l [] ∧ T.l [] = T.l [] ∧ T.l [] = T.l [] ∧ T.i .i64 0 = T.i .i64 0 ∧ True ∧ E11 p2 p2 (True ∧ E11 p2 p2 (T.i .i64 (pL .i64 (p0.cell 11).int (1 : Int)) = T.i .i64 (pL .i64 (p0.cell 11).int (1 : Int)) ∧ p3 = p3 ∧ p4 = p4 ∧ T.l [] = T.l [] ∧ T.b p5 = T.b p5 ∧ p2.cell 1 = p2.cell 1 ∧ T.i .i64 ↑p6 = T.i .i64 ↑p6 ∧ T.i .i64 ↑p6 = T.i .i64 ↑p6 ∧ True ∧ T.l [] = T.l [] ∧ r)))
abbrev R29 (p0 : T) {α1 : Type} (p1 : α1) (p2 : T) {α3 : Type} (p3 : α3) {α4 : Type} (p4 : α4) (p5 : Bool) (p6 : Nat) (r : Prop) : Prop := p0 = p0 ∧ p1 = p1 ∧ True ∧ E15 p0 p0 (True ∧ T.i .i64 0 = T.i .i64 0 ∧ T.i .i64 0 = T.i .i64 0 ∧ T.b false = T.b false ∧ T.l [] = T.l [] ∧ T.l [] = T.l [] ∧ T.l [] = T.l [] ∧ T.l [] = T.l [] ∧ T.l [] = T.l [] ∧ T.l [] = T.l [] ∧ T.l [] = T.l [] ∧ T.l [] = T.l [] ∧ T.i .i64 0 = T.i .i64 0 ∧ T.l [] = T.l [] ∧ T.l [] = T.l [] ∧ T.l [] = T.l [] ∧ T.l [] = T.l [] ∧ T.i .i64 0 = T.i .i64 0 ∧ True ∧ E11 p2 p2 (True ∧ E11 p2 p2 (T.i .i64 (pL .i64 (p0.cell 11).int (1 : Int)) = T.i .i64 (pL .i64 (p0.cell 11).int (1 : Int)) ∧ p3 = p3 ∧ p4 = p4 ∧ T.l [] = T.l [] ∧ T.b p5 = T.b p5 ∧ p2.cell 1 = p2.cell 1 ∧ T.i .i64 ↑p6 = T.i .i64 ↑p6 ∧ T.i .i64 ↑p6 = T.i .i64 ↑p6 ∧ True ∧ r)))
abbrev R30 (p0 : T) (r : Prop) : Prop := p0 = p0 ∧ True ∧ E15 p0 p0 (T.l [] = T.l [] ∧ True ∧ T.b false = T.b false ∧ T.l [] = T.l [] ∧ T.l [] = T.l [] ∧ T.i .i64 0 = T.i .i64 0 ∧ True ∧ r)
abbrev R31 (p0 : T) (r : Prop) : Prop := p0 = p0 ∧ True ∧ E5 p0 p0 (True ∧ T.i .i64 0 = T.i .i64 0 ∧ T.i .i64 0 = T.i .i64 0 ∧ T.l [] = T.l [] ∧ T.l [] = T.l [] ∧ T.l [] = T.l [] ∧ T.b false = T.b false ∧ T.l [] = T.l [] ∧ T.l [] = T.l [] ∧ T.i .i64 0 = T.i .i64 0 ∧ r)
abbrev R32 (p0 : T) {α1 : Type} (p1 : α1) (r : Prop) : Prop := p0 = p0 ∧ p1 = p1 ∧ True ∧ E11 p0 p0 (T.l [] = T.l [] ∧ True ∧ T.i .i64 0 = T.i .i64 0 ∧ T.i .i64 0 = T.i .i64 0 ∧ T.b false = T.b false ∧ T.l [] = T.l [] ∧ T.l [] = T.l [] ∧ T.l [] = T.l [] ∧ T.l [] = T.l [] ∧ T.l [] = T.l [] ∧ T.l [] = T.l [] ∧ T.l [] = T.l [] ∧ T.l [] = T.l [] ∧ T.l [] = T.l [] ∧ T.i .i64 0 = T.i .i64 0 ∧ T.i .i64 0 = T.i .i64 0 ∧ True ∧ r)
abbrev R33 (p0 : T) (r : Prop) : Prop := (p0.cell 12).cell 0 = (p0.cell 12).cell 0 ∧ p0.cell 11 = p0.cell 11 ∧ T.i .i64 (lenOf (p0.cell 11).list) = T.i .i64 (lenOf (p0.cell 11).list) ∧ r
abbrev R34 (p0 : T) (r : Prop) : Prop := p0 = p0 ∧ True ∧ E13 p0 p0 (True ∧ T.i .i64 0 = T.i .i64 0 ∧ T.i .i64 0 = T.i .i64 0 ∧ T.b false = T.b false ∧ T.l [] = T.l [] ∧ T.l [] = T.l [] ∧ T.l [] = T.l [] ∧ T.l [] = T.l [] ∧ T.l [] = T.l [] ∧ T.l [] = T.l [] ∧ T.l [] = T.l [] ∧ T.l [] = T.l [] ∧ T.l [] = T.l [] ∧ T.i .i64 0 = T.i .i64 0 ∧ True ∧ r)
abbrev R35 (p0 : T) {α1 : Type} (p1 : α1) {α2 : Type} (p2 : α2) (r : Prop) : Prop := p0 = p0 ∧ p1 = p1 ∧ p2 = p2 ∧ True ∧ E3 p0 p0 (True ∧ T.i .i64 0 = T.i .i64 0 ∧ T.i .i64 0 = T.i .i64 0 ∧ T.b false = T.b false ∧ T.l [] = T.l [] ∧ T.l [] = T.l [] ∧ T.l [] = T.l [] ∧ T.l [] = T.l [] ∧ T.l [] = T.l [] ∧ T.l [] = T.l [] ∧ T.l [] = T.l [] ∧ T.l [] = T.l [] ∧ True ∧ r)
abbrev R36 (p0 : T) {α1 : Type} (p1 : α1) {α2 : Type} (p2 : α2) {α3 : Type} (p3 : α3) {α4 : Type} (p4 : α4) {α5 : Type} (p5 : α5) (p6 : Nat) (r : Prop) : Prop := True ∧ True ∧ E6 p0 p0 (p1 = p1 ∧ p2 = p2 ∧ p3 = p3 ∧ p4 = p4 ∧ p5 = p5 ∧ T.i .i64 ↑p6 = T.i .i64 ↑p6 ∧ r)
abbrev R37 (p0 : T) {α1 : Type} (p1 : α1) {α2 : Type} (p2 : α2) (r : Prop) : Prop := p0 = p0 ∧ p1 = p1 ∧ p2 = p2 ∧ True ∧ E3 p0 p0 (True ∧ T.i .i64 0 = T.i .i64 0 ∧ T.i .i64 0 = T.i .i64 0 ∧ T.b false = T.b false ∧ T.l [] = T.l [] ∧ T.l [] = T.l [] ∧ T.l [] = T.l [] ∧ T.l [] = T.l [] ∧ T.l [] = T.l [] ∧ T.l [] = T.l [] ∧ T.l [] = T.l [] ∧ T.l [] = T.l [] ∧ True ∧ p0.cell 2 = p0.cell 2 ∧ r)
abbrev R38 {α0 : Type} (p0 : α0) (p1 : Nat) (r : Prop) : Prop := p0 = p0 ∧ T.i .i64 ↑p1 = T.i .i64 ↑p1 ∧ r
abbrev R39 (p0 : T) (r : Prop) : Prop := True ∧ True ∧ E6 p0 p0 (r)
abbrev R40 {α0 : Type} (p0 : α0) {α1 : Type} (p1 : α1) (p2 : Nat) {α3 : Type} (p3 : α3) (p4 : Bool) (r : Prop) : Prop := p0 = p0 ∧ p1 = p1 ∧ T.i .i64 ↑p2 = T.i .i64 ↑p2 ∧ p3 = p3 ∧ T.b p4 = T.b p4 ∧ r
abbrev R41 (p0 : T) {α1 : Type} (p1 : α1) {α2 : Type} (p2 : α2) (r : Prop) : Prop := True ∧ True ∧ E6 p0 p0 (p1 = p1 ∧ p2 = p2 ∧ r)
abbrev R42 (p0 : T) (p1 : T) (r : Prop) : Prop := p0 = p0 ∧ p1 = p1 ∧ True ∧ E11 p0 p0 (True ∧ E11 p1 p1 (T.b false = T.b false ∧ r))
abbrev R43 (p0 : T) (p1 : T) {α2 : Type} (p2 : α2) {α3 : Type} (p3 : α3) {α4 : Type} (p4 : α4) (r : Prop) : Prop := p0 = p0 ∧ p1 = p1 ∧ p2 = p2 ∧ p3 = p3 ∧ p4 = p4 ∧ True ∧ E3 p0 p0 (True ∧ E3 p1 p1 (T.b false = T.b false ∧ True ∧ r))
abbrev R44 {α0 : Type} (p0 : α0) (r : Prop) : Prop := True ∧ p0 = p0 ∧ T.i .i64 0 = T.i .i64 0 ∧ r
abbrev R45 (p0 : T) (p1 : Nat) (r : Prop) : Prop := p0 = p0 ∧ T.i .i64 (lenOf p0.list) = T.i .i64 (lenOf p0.list) ∧ T.i .i64 ↑p1 = T.i .i64 ↑p1 ∧ (p0.list.getD (↑p1 : Int).toNat T.u).cell 0 = (p0.list.getD (↑p1 : Int).toNat T.u).cell 0 ∧ r
abbrev R46 (p0 : T) (r : Prop) : Prop := p0 = p0 ∧ p0 = p0 ∧ T.i .i64 (lenOf p0.list) = T.i .i64 (lenOf p0.list) ∧ r
abbrev R47 (p0 : T) (r : Prop) : Prop := p0 = p0 ∧ True ∧ E11 p0 p0 (p0.cell 1 = p0.cell 1 ∧ r)
abbrev R48 (p0 : T) (r : Prop) : Prop := True ∧ p0.cell 14 = p0.cell 14 ∧ T.i .i64 (lenOf (p0.cell 14).list) = T.i .i64 (lenOf (p0.cell 14).list) ∧ r
abbrev R49 (p0 : T) (r : Prop) : Prop := p0 = p0 ∧ True ∧ E16 p0 p0 (T.l [] = T.l [] ∧ True ∧ r)
abbrev R50 {α0 : Type} (p0 : α0) (p1 : T) (r : Prop) : Prop := p0 = p0 ∧ p1 = p1 ∧ True ∧ E11 p1 p1 (True ∧ T.i .i64 0 = T.i .i64 0 ∧ T.i .i64 0 = T.i .i64 0 ∧ T.i .i64 0 = T.i .i64 0 ∧ T.b false = T.b false ∧ T.l [] = T.l [] ∧ T.l [] = T.l [] ∧ T.l [] = T.l [] ∧ T.l [] = T.l [] ∧ T.l [] = T.l [] ∧ T.l [] = T.l [] ∧ T.l [] = T.l [] ∧ T.l [] = T.l [] ∧ T.i .i64 0 = T.i .i64 0 ∧ T.l [] = T.l [] ∧ T.l [] = T.l [] ∧ T.l [] = T.l [] ∧ T.b false = T.b false ∧ True ∧ r)
theorem wk {P : Program} {tab : Tab} {f : FuncId} {fn : Func} {c : Code} {args : List Arg} {sh : Shape} {ys : List T} (hf : P.funcs[f]? = some fn) (bP : (fn.name == "runtime.NumGoroutine") = false) (hb : fn.body = some c)
  (h:∀(w:World) (A:Nat→Prop) (vals:Array Value) (γ:Key→Option Nat),vals.size=args.length→Rel tab ⟨w.heap.size,w,A,fun b=>∃k,γ k=some b⟩ vals w (rO 0 args) γ →
   Calls P f vals w fun e w'=>∃v,e=.returned v∧∃γ',Rel tab ⟨w.heap.size,w,A,fun b=>∃k,γ k=some b⟩ (vals.push v) w' (sO args sh ys) γ'):Fn P tab f args sh ys:=by
 refine ⟨fun w A vals γ f_ hr=>?_⟩;have aY:(callFunc f vals).run P w=.ok (.enter f vals) w:=by
  have : ¬ fn.name = "runtime.NumGoroutine" := by simpa using bP
  simp [callFunc,hf,this,hb]
 unfold CallsF;rw [aY];exact h w A vals γ f_ hr
theorem KH {tab:Tab} {w w':World} {A:Nat→Prop} {vals:Array Value} {γ:Key→Option Nat} {args:List Arg} {c:TypeId} {v:Value} {g:Option Nat} {xs:List T} {σ:St}
  (hr:Rel tab ⟨w.heap.size,w,A,fun b=>∃k,γ k=some b⟩ vals w σ γ) (f_:vals.size=args.length) (hb:sY 0 args=[])
  (cK:w'.os=w.os) (Y_:w'.tape=w.tape) (Q_:w'.output=w.output) (Z_:w.heap.size≤w'.heap.size) (x_:∀b,b<w.heap.size→w'.heap[b]?=w.heap[b]?)
  (hg:∀b,g=some b→(∃k,γ k=some b)∨(w.heap.size≤b∧b<w'.heap.size))
  (hO:∀O,(∀b,O b→A b∨g=some b)→Own tab w' O c v g xs) :
  ∃γ',Rel tab ⟨w.heap.size,w,A,fun b=>∃k,γ k=some b⟩ (vals.push v) w' (sO args [(pp args.length,c,true)] [.l xs]) γ' := by
 have z_:sO args [(pp args.length,c,true)] [.l xs]=[(pp args.length,top (.own c 0 xs))]:=by
  unfold sO;rw [hb];rfl
 rw [z_];have o_:∀k e,St.get [(pp args.length,top (.own c 0 xs))] k=some e→k=pp args.length∧e=top (.own c 0 xs):=by
  intro k e he;simp only [St.get] at he;split at he
  ·rename_i hk;exact ⟨(Key.qs.1 hk).symm,(W3 he).symm⟩
  ·cases he
 have hγ:∀k b,rN (fun _=>none) (pp args.length) g k=some b→k=pp args.length∧g=some b:=by
  intro k b hk;unfold rN at hk;split at hk
  ·rename_i e;exact ⟨e,hk⟩
  ·cases hk
 refine ⟨rN (fun _=>none) (pp args.length) g,⟨cK,Y_,Q_,Z_,fun b s_ _=>x_ b s_,hr.low,?_,?_,?_,?_,?_⟩⟩
 ·intro k k' b h1 h2
  rw [(hγ k b h1).1,(hγ k' b h2).1]
 ·intro k b h1
  rcases hg b (hγ k b h1).2 with ⟨k0,h0⟩ | ⟨h0,ej⟩
  ·obtain ⟨q1,q2,q3⟩:=hr.blk k0 b h0
   exact ⟨Xz q1 Z_,q2,fun _=>⟨k0,h0⟩⟩
  ·exact ⟨ej,fun q=>by have:=(hr.low b q).1;simp only at this;omega,fun q=>by simp only at q;omega⟩
 ·intro s n e he
  exact absurd (o_ _ _ he).1.symm px
 ·intro s j e he
  exact absurd (o_ _ _ he).1.symm pK
 ·intro k e he
  obtain ⟨rfl,rfl⟩:=o_ _ _ he;refine ⟨v,by rw [pz,←f_];simp,fun _=>?_,fun q=>absurd trivial q⟩
  show Own tab w' _ c v (rN (fun _=>none) (pp args.length) g (pp args.length)) xs
  rw [qg];exact hO _ fun b s_=>s_.imp id fun ⟨k,hk⟩=>(hγ k b hk).2
theorem IL {P : Program} {tab : Tab} (hG : Good P tab) {f : FuncId} {fn : Func} {cd : Code} (hf : P.funcs[f]? = some fn) (bP : (fn.name == "runtime.NumGoroutine") = false) (hb : fn.body = some cd)
  {c ci e ce:TypeId} {ti te tn:TI} (hc:tab.at c=some (c,ti)) (hk:ti.k=.sl e) (he:tab.at e=some (ce,te)) (hi:tab.at ci=some (ci,tn)) (bi:tn.k=.int .i64) {i0:TypeInfo} {z:Value}
  (hz:z.cells.size=te.cells) (gx:i0.size=te.cells)
  (room:∀(base:Option Go.Addr) (l c n:Nat) (w:World),l≤c→c≤9223372036854775807→n≤9223372036854775807→l+n≤c →
   Calls P f #[.slice base l c,.int .i64 n] w fun r w'=>r=.returned (.slice base l c)∧w'=w)
  (grow:∀(base:Option Go.Addr) (l c n:Nat) (cs:List Value) (w:World),l≤c→c<l+n→(l+n)*i0.bytes≤140737488355328→l+n≤4611686018427387904 →
   cs.length=c*i0.size→(base=none→c=0)→(∀a,base=some a→∀j v,cs[j]?=some v→w.cell? (a.add j)=some v) →
   Calls P f #[.slice base l c,.int .i64 n] w fun r w'=>r=.returned (.slice (some ⟨w.heap.size,0,none⟩) l (grownCap w (l+n) c e)) ∧
    w'=w.drew.alloc (.cells (cs.toArray++Builtin.zeroCells z.cells (l+n-c)++Builtin.zeroCells z.cells (grownCap w (l+n) c e-(l+n))) e))
  (n:Nat) (hn:n*i0.bytes≤140737488355328) (o9:n≤4611686018427387904):Fn P tab f [.own c [],.t ci (.i .i64 (n:Int))] [(pp 2,c,true)] [.l []]:=by
 refine wk hf bP hb fun w A vals γ f_ hr=>?_
 have r_:=(hG _ _ _ he).pos;obtain ⟨v0,v_,eB,-⟩:=hr.ent (pp 0) (top (.own c 0 [])) rfl;obtain ⟨v1,aq,gB,-⟩:=hr.ent (pp 1) (top (.t ci (.i .i64 (n:Int)))) rfl;have hO:Own tab w _ c v0 (γ (pp 0)) []:=eB trivial;have hV:V tab w _ ci v1 (.i .i64 (n:Int)):=gB trivial;rw [pz] at v_ aq;have e1:v1=.int .i64 (n:Int):=by
  obtain ⟨hl,-,-⟩:=sG hi (by simp [TI.isS,bi]) hV;cases hl;rfl
 have evals:vals=#[v0,v1]:=by
  apply Ze
  ·simp [f_]
  ·intro i h1 h2
   have jq:i<2:=by simpa using h2
   match i,jq with
   | 0,_=>rw [W6 h1] at v_;simpa using v_
   | 1,_=>rw [W6 h1] at aq;simpa using aq
 obtain ⟨ti',e',ce',te',q1,q2,q3,q4,q5⟩:=hO
 have:=pu hc q1
 simp only [WK,W5] at this;subst this;rw [hk] at q2;simp only [K.sl.injEq] at q2;subst q2
 have:=pu he q3
 simp only [WK] at this;obtain ⟨rfl,rfl⟩:=this;have main:∀(base:Option Go.Addr) (cap:Nat) (cs:List Value),v0=.slice base 0 cap→cap≤maxLen→cs.length=cap*te.cells→(base=none→cap=0) →
   (∀a,base=some a→∀(j:Nat) v,cs[j]?=some v→w.cell? (a.add j)=some v)→(∀O,(∀b,O b→A b∨γ (pp 0)=some b)→Own tab w O c (.slice base 0 cap) (γ (pp 0)) []) →
   Calls P f vals w fun r w'=>∃v,r=.returned v∧∃γ',Rel tab ⟨w.heap.size,w,A,fun b=>∃k,γ k=some b⟩ (vals.push v) w' (sO [.own c [],.t ci (.i .i64 (n:Int))] [(pp 2,c,true)] [.l []]) γ' := by
  intro base cap cs hv B_ aJ a6 G_ O_;rw [evals,hv,e1];have hm:maxLen=9223372036854775807:=rfl
  by_cases P_:n≤cap
  ·refine (room base 0 cap n w (WS _) (by omega) (by omega) (by omega)).mono ?_
   rintro r w' ⟨rfl,rfl⟩;refine ⟨_,rfl,?_⟩;have e9:(#[Value.slice base 0 cap,Value.int .i64 (n:Int)]:Array Value).size=[Arg.own c [],Arg.t ci (.i .i64 (n:Int))].length:=rfl;rw [evals,hv,e1] at hr;exact KH (w' := w') (g:=γ (pp 0)) hr e9 rfl rfl rfl rfl (WU _) (fun _ _=>rfl) (fun b hb=>.inl ⟨_,hb⟩) O_
  ·have lw:cs.length=cap*i0.size:=by rw [gx];exact aJ
   refine (grow base 0 cap n cs w (WS _) (by omega) (by rw [WV];exact hn) (by omega) lw a6 G_).mono ?_;rintro r w' ⟨rfl,rfl⟩;refine ⟨_,rfl,?_⟩;have e9:(#[Value.slice base 0 cap,Value.int .i64 (n:Int)]:Array Value).size=[Arg.own c [],Arg.t ci (.i .i64 (n:Int))].length:=rfl;rw [evals,hv,e1] at hr;refine KH (w' := w.drew.alloc _) (g:=some w.heap.size) hr e9 rfl rfl rfl rfl (by rw [pY];show w.heap.size≤w.heap.size+1;omega) (fun b hb=>heap_alloc_old w.drew _ b hb) (fun b hb=>.inr ?_) fun O jM=>?_
   ·simp only [WJ] at hb
    subst hb;exact ⟨WU _,by rw [pY];show w.heap.size<w.heap.size+1;omega⟩
   ·have fx:=grownCap_ge w (0+n) cap e
    refine ⟨ti,e,ce,te,hc,hk,he,r_,.inr ⟨w.heap.size,_,_,rfl,rfl,heap_alloc_new w.drew _,WS _,grownCap_le_maxLen w _ cap e (by rw [hm];omega),?_,fun j x hx=>by simp at hx⟩⟩;simp only [ZA,ZB,size_zeroCells,hz,aJ,←Xe]
    congr 1
    omega
 rcases q5 with ⟨hg,-,a,hv⟩ | ⟨b,cap,cs,hg,hv,hh,h1,h2,h3,-⟩
 ·refine main a 0 [] hv (WS _) (by simp) (fun _=>rfl) (fun a _ j v hj=>by simp at hj) fun O _=>⟨ti,e,ce,te,hc,hk,he,r_,.inl ⟨hg,rfl,a,rfl⟩⟩
 ·refine main (some ⟨b,0,none⟩) cap cs.toList hv h2 (by rw [Ye,h3]) (fun q=>by cases q) (fun a ha j v hj=>?_) fun O _=>⟨ti,e,ce,te,hc,hk,he,r_,.inr ⟨b,cap,cs,hg,rfl,hh,h1,h2,h3,fun j x hx=>by simp at hx⟩⟩
  simp only [WJ] at ha;subst ha;rw [rB,pM hh,WV,←Xa];exact hj
end Go.Pl
namespace Go.Pq
open Go.Pl Go.Proofs
def C56:Ctx:=⟨tab,sigs,11,[0,2,3,4],[],[],[],[],[]⟩
theorem SN (a0:T) (y0:T) (h:∃y y_1:T,F 55 [.t 2 a0,.t 2 (kI 1)] Z1 [y,y_1]∧True∧(G3 y)=y0∧True):F 56 [.t 2 a0] (zo 1 23) [y0] :=
 p7 C56 (by kernel_rfl) Tryz.func56 (by kernel_rfl) .no (by kernel_rfl) h
def Vb:Ctx:=⟨tab,sigs,30,[0,1,4,5,6,7,8,9],[],[],[],[],[]⟩
theorem Pd (a0:T) (a1:T) (y0:T) (y1:T) (h:(eqI a1.int 0=true→True∧T.g [T.b false,T.l [],T.l []]=y0∧kI 11=y1∧True)∧(eqI a1.int 0=false→∃y y_1:T,F 149 [.t 2 a0] Z2 [y,y_1]∧∃y_2 y_3:T,F 149 [.t 2 a1] Z2 [y_2,y_3]∧∃y_4:T,F 150 [.t 23 (T.g [T.b !y.bool == y_2.bool,y_1.cell 0,y_3.cell 0])] (zo 1 23) [y_4]∧True∧(G3 y_4)=y0∧kI 0=y1∧True)):F 114 [.t 2 a0,.t 2 a1] Z1 [y0,y1] :=
 p7 Vb (by kernel_rfl) Tryz.func114 (by kernel_rfl) .no (by kernel_rfl) h
def Vc:Ctx:=⟨tab,sigs,48,[0,1,2,3,14,28],[],[],[],[],[]⟩
theorem Au (a0:T) (y0:T) (h:∃y:T,F 151 [.t 22 (a0.cell 1)] (zo 1 4) [y]∧∃y_1:T,((!y.bool)=false∧True→F 151 [.t 22 (a0.cell 2)] (zo 1 4) [y_1])∧((T.ite (!y.bool) (T.b true) (T.b !y_1.bool)).bool=true→True∧T.b false=y0∧True)∧((T.ite (!y.bool) (T.b true) (T.b !y_1.bool)).bool=false→(eqI (lenOf (a0.cell 1).list) 0=true→True∧T.ite (!(a0.cell 0).bool) (T.b (eqI (lenOf (a0.cell 2).list) 0)) (T.b false)=y0∧True)∧(eqI (lenOf (a0.cell 1).list) 0=false→(eqI (lenOf (a0.cell 2).list) 0=true→True∧T.b true=y0∧True)∧(eqI (lenOf (a0.cell 2).list) 0=false→∃y:T,F 153 [] (zo 0 22) [y]∧∃y_2:T,F 152 [.t 22 (a0.cell 2),.t 22 y] (zo 2 2) [y_2]∧∃y:T,(neI y_2.int 0=true∧True→F 154 [.t 22 (a0.cell 1),.t 22 (a0.cell 2)] (zo 2 22) [y])∧∃y_3:T,(neI y_2.int 0=true∧True→F 153 [] (zo 0 22) [y_3])∧∃y_4:T,(neI y_2.int 0=true∧True→F 152 [.t 22 y,.t 22 y_3] (zo 2 2) [y_4])∧True∧T.ite (neI y_2.int 0) (T.b (eqI y_4.int 0)) (T.b false)=y0∧True)))):F 115 [.t 23 a0] (zo 1 4) [y0] :=
 p7 Vc (by kernel_rfl) Tryz.func115 (by kernel_rfl) .no (by kernel_rfl) h
def Vd:Ctx:=⟨tab,sigs,14,[0,1,2,3,6,11],[],[],[],[],[]⟩
theorem Pe (a0:T) (y0:T) (h:∃y:T,F 155 [.t 23 (G3 a0)] (zo 1 23) [y]∧(eqI (lenOf (y.cell 1).list) 0=true→True∧kI 0=y0∧True)∧(eqI (lenOf (y.cell 1).list) 0=false→((y.cell 0).bool=true→True∧kI (-1:Int)=y0∧True)∧((y.cell 0).bool=false→True∧kI 1=y0∧True))):F 116 [.t 23 a0] (zo 1 2) [y0] :=
 p7 Vd (by kernel_rfl) Tryz.func116 (by kernel_rfl) .no (by kernel_rfl) h
def Ve:Ctx:=⟨tab,sigs,9,[0,1,2,3,4],[],[],[],[],[]⟩
theorem Pf (a0:T) (a1:T) (y0:T) (h:∃y:T,F 156 [.t 23 (G3 a0),.t 23 (G3 a1)] (zo 2 23) [y]∧∃y_1:T,F 116 [.t 23 y] (zo 1 2) [y_1]∧True∧y_1=y0∧True):F 117 [.t 23 a0,.t 23 a1] (zo 2 2) [y0] :=
 p7 Ve (by kernel_rfl) Tryz.func117 (by kernel_rfl) .no (by kernel_rfl) h
def VB:Ctx:=⟨tab,sigs,20,[0,2,3,4],[],[],[],[],[]⟩
theorem PA (a0:T) (y0:T) (y1:T) (h:(ltI a0.int 0=true→0≤(32:Int)∧∃y:T,F 189 [.t 22 (T.l (((List.replicate 2 (T.i .u32 0)).set 0 (T.i .u32 (pG .u32 (qc .u64 0 (pG .u64 a0.int))))).set 1 (T.i .u32 (pG .u32 (sE .u64 (qc .u64 0 (pG .u64 a0.int)) (32:Int))))))] (zo 1 22) [y]∧True∧T.b (ltI a0.int 0)=y0∧y=y1∧True)∧(ltI a0.int 0=false→0≤(32:Int)∧∃y:T,F 189 [.t 22 (T.l (((List.replicate 2 (T.i .u32 0)).set 0 (T.i .u32 (pG .u32 (pG .u64 a0.int)))).set 1 (T.i .u32 (pG .u32 (sE .u64 (pG .u64 a0.int) 32)))))] (zo 1 22) [y]∧True∧T.b (ltI a0.int 0)=y0∧y=y1∧True)):F 149 [.t 2 a0] Z2 [y0,y1] :=
 p7 VB (by kernel_rfl) Tryz.func149 (by kernel_rfl) .no (by kernel_rfl) h
def VC:Ctx:=⟨tab,sigs,45,[0,1,2,3,4,5],[],[],[],[],[]⟩
theorem PB (a0:T) (y0:T) (h:(eqI (lenOf (a0.cell 1).list) 0=true→True∧T.g [T.b false,T.l [],T.l []]=y0∧True)∧(eqI (lenOf (a0.cell 1).list) 0=false→∃y:T,F 190 [.t 22 (a0.cell 1)] (zo 1 22) [y]∧∃y_1:T,F 190 [.t 22 (a0.cell 2)] (zo 1 22) [y_1]∧∃y_2:T,F 154 [.t 22 y,.t 22 y_1] (zo 2 22) [y_2]∧∃y_3:T,F 153 [] (zo 0 22) [y_3]∧∃y_4:T,F 152 [.t 22 y_2,.t 22 y_3] (zo 2 2) [y_4]∧(neI y_4.int 0=true→∃y_5 y_6:T,F 191 [.t 22 y,.t 22 y_2] Z3 [y_5,y_6]∧∃y y_7:T,F 191 [.t 22 y_1,.t 22 y_2] Z3 [y,y_7]∧∃y_8:T,F 153 [] (zo 0 22) [y_8]∧∃y_9:T,F 152 [.t 22 y,.t 22 y_8] (zo 2 2) [y_9]∧(eqI y_9.int 0=true→True∧T.g [(a0.cell 0).cell 0,y_5.cell 0,T.l []]=y0∧True)∧(eqI y_9.int 0=false→True∧T.g [(a0.cell 0).cell 0,y_5.cell 0,y.cell 0]=y0∧True))∧(neI y_4.int 0=false→∃y_5:T,F 153 [] (zo 0 22) [y_5]∧∃y_6:T,F 152 [.t 22 y_1,.t 22 y_5] (zo 2 2) [y_6]∧(eqI y_6.int 0=true→True∧T.g [(a0.cell 0).cell 0,y.cell 0,T.l []]=y0∧True)∧(eqI y_6.int 0=false→True∧T.g [(a0.cell 0).cell 0,y.cell 0,y_1.cell 0]=y0∧True)))):F 150 [.t 23 a0] (zo 1 23) [y0] :=
 p7 VC (by kernel_rfl) Tryz.func150 (by kernel_rfl) .no (by kernel_rfl) h
def VD:Ctx:=⟨tab,sigs,15,[0,2],[],[],[],[],[]⟩
theorem JW (a0:T) (y0:T) (h:(eqI (lenOf a0.list) 0=false∧True→0≤qc .i64 (lenOf a0.list) 1∧qc .i64 (lenOf a0.list) 1<lenOf a0.list)∧True∧T.ite (eqI (lenOf a0.list) 0) (T.b true) (T.b (neI ((a0.list.getD (qc .i64 (lenOf a0.list) 1).toNat T.u).cell 0).int (0:Int)))=y0∧True):F 151 [.t 22 a0] (zo 1 4) [y0] :=
 p7 VD (by kernel_rfl) Tryz.func151 (by kernel_rfl) .no (by kernel_rfl) h
def VH:Ctx:=⟨tab,sigs,27,[0,1,2,3,9],[],[],[],[],[]⟩
theorem PF (a0:T) (y0:T) (h:∃y:T,F 115 [.t 23 (G3 a0)] (zo 1 4) [y]∧((!y.bool)=true→∃y:T,F 153 [] (zo 0 22) [y]∧True∧T.g [T.b false,T.l [],y.cell 0]=y0∧True)∧((!y.bool)=false→(eqI (lenOf (a0.cell 2).list) 0=true→∃y:T,F 153 [] (zo 0 22) [y]∧True∧T.g [(a0.cell 0).cell 0,(a0.cell 1).cell 0,y.cell 0]=y0∧True)∧(eqI (lenOf (a0.cell 2).list) 0=false→True∧T.g [(a0.cell 0).cell 0,(a0.cell 1).cell 0,(a0.cell 2).cell 0]=y0∧True))):F 155 [.t 23 a0] (zo 1 23) [y0] :=
 p7 VH (by kernel_rfl) Tryz.func155 (by kernel_rfl) .no (by kernel_rfl) h
def VI:Ctx:=⟨tab,sigs,12,[0,1,2,3,4],[],[],[],[],[]⟩
theorem PG (a0:T) (a1:T) (y0:T) (h:∃y:T,F 155 [.t 23 (G3 a0)] (zo 1 23) [y]∧∃y_1:T,F 155 [.t 23 (G3 a1)] (zo 1 23) [y_1]∧∃y_2:T,F 194 [.t 23 y_1] (zo 1 23) [y_2]∧∃y_3:T,F 193 [.t 23 y,.t 23 y_2] (zo 2 23) [y_3]∧∃y:T,F 150 [.t 23 y_3] (zo 1 23) [y]∧True∧(G3 y)=y0∧True):F 156 [.t 23 a0,.t 23 a1] (zo 2 23) [y0] :=
 p7 VI (by kernel_rfl) Tryz.func156 (by kernel_rfl) .no (by kernel_rfl) h
def VR:Ctx:=⟨tab,sigs,28,[0,1,2,3,4,5,6],[],[],[],[],[]⟩
theorem PN (a0:T) (a1:T) (y0:T) (h:∃y:T,F 155 [.t 23 (G3 a0)] (zo 1 23) [y]∧∃y_1:T,F 155 [.t 23 (G3 a1)] (zo 1 23) [y_1]∧∃y_2:T,F 196 [.t 22 (y.cell 1),.t 22 (y_1.cell 1)] (zo 2 22) [y_2]∧∃y_3:T,F 196 [.t 22 (y.cell 2),.t 22 (y_1.cell 2)] (zo 2 22) [y_3]∧∃y_4:T,F 150 [.t 23 (T.g [T.b !(y.cell 0).bool == (y_1.cell 0).bool,y_2.cell 0,y_3.cell 0])] (zo 1 23) [y_4]∧True∧(G3 y_4)=y0∧True):F 166 [.t 23 a0,.t 23 a1] (zo 2 23) [y0] :=
 p7 VR (by kernel_rfl) Tryz.func166 (by kernel_rfl) .no (by kernel_rfl) h
def Wc:Ctx:=⟨tab,sigs,11,[0,1,2,3,4],[],[],[],[],[]⟩
theorem P3 (a0:T) (a1:T) (y0:T) (h:∃y:T,F 155 [.t 23 (G3 a0)] (zo 1 23) [y]∧∃y_1:T,F 155 [.t 23 (G3 a1)] (zo 1 23) [y_1]∧∃y_2:T,F 193 [.t 23 y,.t 23 y_1] (zo 2 23) [y_2]∧∃y:T,F 150 [.t 23 y_2] (zo 1 23) [y]∧True∧(G3 y)=y0∧True):F 187 [.t 23 a0,.t 23 a1] (zo 2 23) [y0] :=
 p7 Wc (by kernel_rfl) Tryz.func187 (by kernel_rfl) .no (by kernel_rfl) h
def Wg:Ctx:=⟨tab,sigs,8,[0,2],[],[],[],[],[]⟩
theorem P6 (a0:T) (y0:T) (h:∀y:T,IK a0 y→(y.bool=true→True∧T.l []=y0∧True)∧(y.bool=false→(Rm (0+a0.list.length) 4)∧True∧T.l (List.replicate 0 (T.i .u32 0)++a0.list)=y0∧True)):F 190 [.t 22 a0] (zo 1 22) [y0] :=
 p7 Wg (by kernel_rfl) Tryz.func190 (by kernel_rfl) .no (by kernel_rfl) h
def Wj:Ctx:=⟨tab,sigs,53,[0,1,2,3,4,5,6,7],[],[],[],[],[]⟩
theorem EU (a0:T) (a1:T) (y0:T) (h:∃y:T,F 196 [.t 22 (a0.cell 1),.t 22 (a1.cell 2)] (zo 2 22) [y]∧∃y_1:T,F 196 [.t 22 (a1.cell 1),.t 22 (a0.cell 2)] (zo 2 22) [y_1]∧∃y_2:T,F 196 [.t 22 (a0.cell 2),.t 22 (a1.cell 2)] (zo 2 22) [y_2]∧(((a0.cell 0).bool == (a1.cell 0).bool)=true→∃y_3:T,F 210 [.t 22 y,.t 22 y_1] (zo 2 22) [y_3]∧True∧T.g [(a0.cell 0).cell 0,y_3.cell 0,y_2.cell 0]=y0∧True)∧(((a0.cell 0).bool == (a1.cell 0).bool)=false→∃y_3:T,F 152 [.t 22 y,.t 22 y_1] (zo 2 2) [y_3]∧(leI 0 y_3.int=true→∃y_4:T,F 208 [.t 22 y,.t 22 y_1] (zo 2 22) [y_4]∧True∧T.g [(a0.cell 0).cell 0,y_4.cell 0,y_2.cell 0]=y0∧True)∧(leI 0 y_3.int=false→∃y_4:T,F 208 [.t 22 y_1,.t 22 y] (zo 2 22) [y_4]∧True∧T.g [(a1.cell 0).cell 0,y_4.cell 0,y_2.cell 0]=y0∧True))):F 193 [.t 23 a0,.t 23 a1] (zo 2 23) [y0] :=
 p7 Wj (by kernel_rfl) Tryz.func193 (by kernel_rfl) .no (by kernel_rfl) h
def Wk:Ctx:=⟨tab,sigs,11,[0,1,2],[],[],[],[],[]⟩
theorem P9 (a0:T) (y0:T) (h:True∧T.g [T.b !(a0.cell 0).bool,(a0.cell 1).cell 0,(a0.cell 2).cell 0]=y0∧True):F 194 [.t 23 a0] (zo 1 23) [y0] :=
 p7 Wk (by kernel_rfl) Tryz.func194 (by kernel_rfl) .no (by kernel_rfl) h
def C23:Ctx:=⟨tab,sigs,9,[0,1,2,3,4],[],[],[],[],[]⟩
theorem Sz (a0:T) (a1:T) (y0:T) (h:∃y:T,F 49 [.t 23 (G3 a0),.t 23 (G3 a1)] (zo 2 23) [y]∧∃y_1:T,F 48 [.t 23 y] (zo 1 2) [y_1]∧True∧y_1=y0∧True):F 23 [.t 23 a0,.t 23 a1] (zo 2 2) [y0] :=
 p7 C23 (by kernel_rfl) Tryz.func23 (by kernel_rfl) .no (by kernel_rfl) h
def C48:Ctx:=⟨tab,sigs,13,[0,1,2,5,8],[],[],[],[],[]⟩
theorem SI (a0:T) (y0:T) (h:∃y:T,F 87 [.t 23 (G3 a0)] (zo 1 23) [y]∧((y.cell 0).bool=true→True∧kI (-1:Int)=y0∧True)∧((y.cell 0).bool=false→(ltI 0 (lenOf (y.cell 1).list)=true→True∧kI 1=y0∧True)∧(ltI 0 (lenOf (y.cell 1).list)=false→True∧kI 0=y0∧True))):F 48 [.t 23 a0] (zo 1 2) [y0] :=
 p7 C48 (by kernel_rfl) Tryz.func48 (by kernel_rfl) .no (by kernel_rfl) h
def C49:Ctx:=⟨tab,sigs,9,[0,1,2,3,4],[],[],[],[],[]⟩
theorem SJ (a0:T) (a1:T) (y0:T) (h:∃y:T,F 88 [.t 23 (G3 a1)] (zo 1 23) [y]∧∃y_1:T,F 78 [.t 23 (G3 a0),.t 23 y] (zo 2 23) [y_1]∧True∧(G3 y_1)=y0∧True):F 49 [.t 23 a0,.t 23 a1] (zo 2 23) [y0] :=
 p7 C49 (by kernel_rfl) Tryz.func49 (by kernel_rfl) .no (by kernel_rfl) h
def C55:Ctx:=⟨tab,sigs,21,[0,1,4,5],[],[],[],[],[]⟩
theorem SM (a0:T) (a1:T) (y0:T) (y1:T) (h:(eqI a1.int 0=true→True∧T.g [T.b false,T.l [],T.l []]=y0∧kI 11=y1∧True)∧(eqI a1.int 0=false→∃y:T,F 94 [.t 2 a0] (zo 1 12) [y]∧∃y_1:T,F 93 [.t 12 y] (zo 1 22) [y_1]∧∃y:T,F 94 [.t 2 a1] (zo 1 12) [y]∧∃y_2:T,F 93 [.t 12 y] (zo 1 22) [y_2]∧∃y:T,F 90 [.t 4 (T.b !ltI a0.int 0 == ltI a1.int 0),.t 22 y_1,.t 22 y_2] (zo 3 23) [y]∧True∧(G3 y)=y0∧kI 0=y1∧True)):F 55 [.t 2 a0,.t 2 a1] Z1 [y0,y1] :=
 p7 C55 (by kernel_rfl) Tryz.func55 (by kernel_rfl) .no (by kernel_rfl) h
def C78:Ctx:=⟨tab,sigs,59,[0,1,2,3,4,5,6,7,27,40],[],[],[],[],[]⟩
theorem S3 (a0:T) (a1:T) (y0:T) (h:∃y:T,F 87 [.t 23 (G3 a0)] (zo 1 23) [y]∧∃y_1:T,F 87 [.t 23 (G3 a1)] (zo 1 23) [y_1]∧∃y_2:T,F 92 [.t 23 (G3 y_1)] (zo 1 22) [y_2]∧∃y_3:T,F 91 [.t 22 (y.cell 1),.t 22 y_2] (zo 2 22) [y_3]∧∃y_4:T,F 92 [.t 23 (G3 y)] (zo 1 22) [y_4]∧∃y_5:T,F 91 [.t 22 (y_1.cell 1),.t 22 y_4] (zo 2 22) [y_5]∧∃y_6:T,F 92 [.t 23 (G3 y)] (zo 1 22) [y_6]∧∃y_7:T,F 92 [.t 23 (G3 y_1)] (zo 1 22) [y_7]∧∃y_8:T,F 91 [.t 22 y_6,.t 22 y_7] (zo 2 22) [y_8]∧(((y.cell 0).bool == (y_1.cell 0).bool)=true→∃y_9:T,F 122 [.t 22 y_3,.t 22 y_5] (zo 2 22) [y_9]∧∃y_10:T,F 90 [.t 4 (y.cell 0),.t 22 y_9,.t 22 y_8] (zo 3 23) [y_10]∧True∧(G3 y_10)=y0∧True)∧(((y.cell 0).bool == (y_1.cell 0).bool)=false→∃y_9:T,F 123 [.t 22 y_3,.t 22 y_5] (zo 2 2) [y_9]∧(leI 0 y_9.int=true→∃y_10:T,F 124 [.t 22 y_3,.t 22 y_5] (zo 2 22) [y_10]∧∃y_11:T,F 90 [.t 4 (y.cell 0),.t 22 y_10,.t 22 y_8] (zo 3 23) [y_11]∧True∧(G3 y_11)=y0∧True)∧(leI 0 y_9.int=false→∃y:T,F 124 [.t 22 y_5,.t 22 y_3] (zo 2 22) [y]∧∃y_10:T,F 90 [.t 4 (y_1.cell 0),.t 22 y,.t 22 y_8] (zo 3 23) [y_10]∧True∧(G3 y_10)=y0∧True))):F 78 [.t 23 a0,.t 23 a1] (zo 2 23) [y0] :=
 p7 C78 (by kernel_rfl) Tryz.func78 (by kernel_rfl) .no (by kernel_rfl) h
def C87:Ctx:=⟨tab,sigs,16,[0,1,2],[],[],[],[],[]⟩
theorem S9 (a0:T) (y0:T) (h:∃y:T,F 108 [.t 23 (G3 a0)] (zo 1 4) [y]∧((!y.bool)=true→True∧T.g [T.b false,T.l [],T.l []]=y0∧True)∧((!y.bool)=false→(Rm (0+(a0.cell 1).list.length) 4)∧(Rm (0+(a0.cell 2).list.length) 4)∧True∧T.g [(a0.cell 0).cell 0,T.l ([]++(a0.cell 1).list),T.l ([]++(a0.cell 2).list)]=y0∧True)):F 87 [.t 23 a0] (zo 1 23) [y0] :=
 p7 C87 (by kernel_rfl) Tryz.func87 (by kernel_rfl) .no (by kernel_rfl) h
def C88:Ctx:=⟨tab,sigs,16,[0,1,2],[],[],[],[],[]⟩
theorem Ta (a0:T) (y0:T) (h:∃y:T,F 87 [.t 23 (G3 a0)] (zo 1 23) [y]∧True∧T.g [T.ite (ltI 0 (lenOf (y.cell 1).list)) (T.b !(y.cell 0).bool) (T.b false),y.cell 1,y.cell 2]=y0∧True):F 88 [.t 23 a0] (zo 1 23) [y0] :=
 p7 C88 (by kernel_rfl) Tryz.func88 (by kernel_rfl) .no (by kernel_rfl) h
def C90:Ctx:=⟨tab,sigs,37,[0,1,2,6,7,8,9,10,11],[],[],[],[],[]⟩
theorem Tc (a0:T) (a1:T) (a2:T) (y0:T) (h:(eqI (lenOf a1.list) 0=true→True∧T.g [T.b false,T.l [],T.l []]=y0∧True)∧(eqI (lenOf a1.list) 0=false→∃y:T,F 128 [.t 22 a1,.t 22 a2] (zo 2 22) [y]∧∃y_1 y_2:T,F 129 [.t 22 a1,.t 22 y] Z3 [y_1,y_2]∧∃y_3 y_4:T,F 129 [.t 22 a2,.t 22 y] Z3 [y_3,y_4]∧∃y:T,F 130 [.t 22 y_3] (zo 1 4) [y]∧(y.bool=true→True∧T.g [a0.cell 0,y_1.cell 0,T.l []]=y0∧True)∧(y.bool=false→True∧T.g [a0.cell 0,y_1.cell 0,y_3.cell 0]=y0∧True))):F 90 [.t 4 a0,.t 22 a1,.t 22 a2] (zo 3 23) [y0] :=
 p7 C90 (by kernel_rfl) Tryz.func90 (by kernel_rfl) .no (by kernel_rfl) h
def U6:Ctx:=⟨tab,sigs,65,[0,1,2],[],[],[],[],[]⟩
theorem O8 (a0:T) (y0:T) (h:(ltI 0 (lenOf (a0.cell 1).list)=true∧True→0≤qc .i64 (lenOf (a0.cell 1).list) (1:Int)∧qc .i64 (lenOf (a0.cell 1).list) (1:Int)<lenOf (a0.cell 1).list)∧((T.ite (ltI 0 (lenOf (a0.cell 1).list)) (T.b (eqI (((a0.cell 1).list.getD (qc .i64 (lenOf (a0.cell 1).list) (1:Int)).toNat T.u).cell 0).int (0:Int))) (T.b false)).bool=false∧ltI 0 (lenOf (a0.cell 2).list)=true∧True→0≤qc .i64 (lenOf (a0.cell 2).list) (1:Int)∧qc .i64 (lenOf (a0.cell 2).list) (1:Int)<lenOf (a0.cell 2).list)∧∃y:T,((T.ite (T.ite (ltI 0 (lenOf (a0.cell 1).list)) (T.b (eqI (((a0.cell 1).list.getD (qc .i64 (lenOf (a0.cell 1).list) (1:Int)).toNat T.u).cell 0).int (0:Int))) (T.b false)).bool (T.b true) (T.ite (ltI 0 (lenOf (a0.cell 2).list)) (T.b (eqI (((a0.cell 2).list.getD (qc .i64 (lenOf (a0.cell 2).list) (1:Int)).toNat T.u).cell 0).int (0:Int))) (T.b false))).bool=false∧True→F 130 [.t 22 (a0.cell 2)] (zo 1 4) [y])∧((T.ite (T.ite (T.ite (ltI 0 (lenOf (a0.cell 1).list)) (T.b (eqI (((a0.cell 1).list.getD (qc .i64 (lenOf (a0.cell 1).list) (1:Int)).toNat T.u).cell 0).int (0:Int))) (T.b false)).bool (T.b true) (T.ite (ltI 0 (lenOf (a0.cell 2).list)) (T.b (eqI (((a0.cell 2).list.getD (qc .i64 (lenOf (a0.cell 2).list) (1:Int)).toNat T.u).cell 0).int (0:Int))) (T.b false))).bool (T.b true) y).bool=true→True∧T.b false=y0∧True)∧((T.ite (T.ite (T.ite (ltI 0 (lenOf (a0.cell 1).list)) (T.b (eqI (((a0.cell 1).list.getD (qc .i64 (lenOf (a0.cell 1).list) (1:Int)).toNat T.u).cell 0).int (0:Int))) (T.b false)).bool (T.b true) (T.ite (ltI 0 (lenOf (a0.cell 2).list)) (T.b (eqI (((a0.cell 2).list.getD (qc .i64 (lenOf (a0.cell 2).list) (1:Int)).toNat T.u).cell 0).int (0:Int))) (T.b false))).bool (T.b true) y).bool=false→(eqI (lenOf (a0.cell 1).list) 0=true→True∧T.ite (!(a0.cell 0).bool) (T.b (eqI (lenOf (a0.cell 2).list) 0)) (T.b false)=y0∧True)∧(eqI (lenOf (a0.cell 1).list) 0=false→∃y:T,(eqI (lenOf (a0.cell 2).list) 0=false∧True→F 128 [.t 22 (a0.cell 1),.t 22 (a0.cell 2)] (zo 2 22) [y])∧∃y_1:T,(eqI (lenOf (a0.cell 2).list) 0=false∧True→F 130 [.t 22 y] (zo 1 4) [y_1])∧True∧T.ite (eqI (lenOf (a0.cell 2).list) 0) (T.b true) y_1=y0∧True))):F 108 [.t 23 a0] (zo 1 4) [y0] :=
 p7 U6 (by kernel_rfl) Tryz.func108 (by kernel_rfl) .no (by kernel_rfl) h
def C50:Ctx:=⟨tab,sigs,24,[0,1,2,3,4],[],[],[],[],[]⟩
theorem SK (a0:T) (a1:T) (y0:T) (h:∃y:T,(((a0.cell 0).bool == (a1.cell 0).bool)=true∧True→F 89 [.t 22 (a0.cell 1),.t 22 (a1.cell 1)] (zo 2 4) [y])∧∃y_1:T,((T.ite ((a0.cell 0).bool == (a1.cell 0).bool) y (T.b false)).bool=true∧True→F 89 [.t 22 (a0.cell 2),.t 22 (a1.cell 2)] (zo 2 4) [y_1])∧True∧T.ite (T.ite ((a0.cell 0).bool == (a1.cell 0).bool) y (T.b false)).bool y_1 (T.b false)=y0∧True):F 50 [.t 23 a0,.t 23 a1] (zo 2 4) [y0] :=
 p7 C50 (by kernel_rfl) Tryz.func50 (by kernel_rfl) .no (by kernel_rfl) h
def C89:Ctx:=⟨tab,sigs,26,[0,1,4,5],[],[],[],[],[]⟩
theorem Tb (a0:T) (a1:T) (y0:T) (I0:Nat→Prop) (M0:Nat→Nat) (h:(neI (lenOf a0.list) (lenOf a1.list)=true→True∧T.b false=y0∧True)∧(neI (lenOf a0.list) (lenOf a1.list)=false→(∃i:Nat,I0 i∧R1 a0 a1 (kI 0=kI ↑i∧True))∧(∀i:Nat,true=true)∧∀i:Nat,I0 i→(ltI ↑i (lenOf a0.list)=true→(Bd ↑i (lenOf a0.list))∧(Bd ↑i (lenOf a1.list))∧(neI ((a0.list.getD (↑i:Int).toNat T.u).cell 0).int ((a1.list.getD (↑i:Int).toNat T.u).cell 0).int=true→True∧T.b false=y0∧True)∧(neI ((a0.list.getD (↑i:Int).toNat T.u).cell 0).int ((a1.list.getD (↑i:Int).toNat T.u).cell 0).int=false→∃j:Nat,I0 j∧M0 j<M0 i∧R1 a0 a1 (kI (pL .i64 ↑i 1)=kI ↑j∧True)))∧(ltI ↑i (lenOf a0.list)=false→True∧T.b true=y0∧True))):F 89 [.t 22 a0,.t 22 a1] (zo 2 4) [y0] :=
 p7 C89 (by kernel_rfl) Tryz.func89 (by kernel_rfl) (.two .no (.two .no (.two (.two .no (.lp (fun (ia:Nat)=>[(pp 0,AV.t 22 a0),(pp 1,AV.t 22 a1),(pp 4,AV.t 4 (T.b false)),(pp 5,.t 2 (.i .i64 (ia:Int)))]) I0 M0 (fun _=>.no))) .no))) (by kernel_rfl) h
end Go.Pq
