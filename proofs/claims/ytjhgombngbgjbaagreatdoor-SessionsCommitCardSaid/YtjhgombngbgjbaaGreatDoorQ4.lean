/- Part 4 of 11. What a session has committed at any time is the beginning of what it commits later, and of the path at its end (SessionsCommit), for every input; no condition. Names are shortened and spaces left out by program, for the size. -/
import Derived.Test.YtjhgombngbgjbaaGreatDoorQ3
set_option linter.unusedVariables false
set_option linter.unusedSimpArgs false
set_option linter.unusedSectionVars false
set_option linter.constructorNameAsVariable false
set_option maxRecDepth 100000
namespace Go.Pl
section
variable {P : Program} {C : Ctx} {fr : Fr} {tm : Array Value} {w w' : World} {σ : St} {γ : Key → Option Nat} {D : Nat → Prop}
theorem j_C (s : Nat) : ∀ (as : List AV) (c : Nat) (σ : St),
  (∀ (j : Nat) a,as[j]? = some a → (σ.puts (a_j s c as)).get (cell s (c + j)) = some (top a)) ∧
  (∀ k,(∀ j,j < as.length → k ≠ cell s (c + j)) → (σ.puts (a_j s c as)).get k = σ.get k):=by
 intro as
 induction as with
 | nil => exact fun c σ => ⟨fun j a hy => by simp at hy,fun k _ => rfl⟩
 | cons x as ih =>
  intro c σ;obtain ⟨q1,q2⟩:=ih (c + 1) (σ.put (cell s c) (top x));refine ⟨fun j y hy => ?_,fun k hk => ?_⟩
  ·show ((σ.put (cell s c) (top x)).puts (a_j s (c + 1) as)).get _ = _
   cases j with
   | zero =>
    simp at hy;subst hy;rw [q2 _ fun j _ hh => by have:=(c_f.1 hh).2;omega];exact j_
   | succ j =>
    simp at hy;rw [show c + (j + 1) = c + 1 + j by omega];exact q1 j y hy
  ·show ((σ.put (cell s c) (top x)).puts (a_j s (c + 1) as)).get _ = _
   rw [q2 k fun j hj hh => hk (j + 1) (by simpa using hj) (by rw [hh,show c + 1 + j = c + (j + 1) by omega])];exact m_ (by simpa using hk 0 (by simp))
theorem Rel.alloc (hG : Good P C.tab) (h : Rel C.tab fr tm w σ γ) (hwf : Wf C D σ) (o : Obj) : Rel C.tab fr tm (w.alloc o) σ γ:=by
 refine Rel.step hG h (fun _ => False) rfl rfl rfl (by rw [I_];omega) (fun b hb _ => heap_alloc_old w _ b (Nat.lt_of_lt_of_le hb h.size)) (fun b hb ho => ⟨heap_alloc_old w _ b hb,ho⟩) h.inj
  (fun k b hk => by rw [I_];have:=h.blk k b hk;exact ⟨by omega,this.2⟩) h.cel h.cmp (fun _ _ => rfl) ?_ (fun _ _ q => q.elim)
 intro k e _ hk;refine ⟨?_,rfl,fun _ _ _ => id,fun b hb => ?_,fun _ _ _ q => q.elim,fun h0 tag hh _ => hwf.dom k e h0 tag hk hh⟩
 ·refine a_S (fun _ => rfl) fun ht => ⟨rfl,fun b hb => ?_⟩
  exact b_d (heap_alloc_old w _ b (h.blk _ b hb).1)
 ·have hlt:=(h.blk k b hb).1
  exact ⟨fun _ _ _ _ => heap_alloc_old w _ b hlt,fun _ _ _ _ cs ety hh => ⟨cs,by rw [heap_alloc_old w _ b hlt];exact hh,rfl⟩⟩
theorem Rel.g_u (hG : Good P C.tab) (h : Rel C.tab fr tm w σ γ) (hwf : Wf C D σ) {i : Nat} (hi : ¬ D i) {d : Nat} (hd : d < tm.size) {cr n : Nat} {cs : Array Value} {ety : TypeId} {as : List AV}
  (hslot : σ.get (a_ d) = none ∨ ∃ c tag,σ.get (a_ d) = some ⟨[],.box c tag n⟩) (hlen : as.length = n) (hcs : cs.size = n)
  (has : ∀ (j : Nat) a,as[j]? = some a → (∃ c y u,a = .t c y ∧ cs[j]? = some u ∧ V C.tab w (Ob fr γ) c u y) ∨ (∃ c u,a = .own c (i + 1) [] ∧ cs[j]? = some u ∧ Own C.tab w (Ob fr γ) c u none [])) :
  ∃ γ',Rel C.tab fr (tm.setIfInBounds d (.pointer (some ⟨w.heap.size,0,none⟩))) (w.alloc (.cells cs ety)) (σ.puts ((a_ d,top (.box cr (i + 1) n)) :: a_j d 0 as)) γ' ∧
   Wf C (fun j => D j ∨ j = i) (σ.puts ((a_ d,top (.box cr (i + 1) n)) :: a_j d 0 as)):=by
 let W : Key → Prop:=fun k => k = a_ d ∨ ∃ j,j < n ∧ k = cell d j
 have hgdef : ∀ k,(σ.puts ((a_ d,top (.box cr (i + 1) n)) :: a_j d 0 as)).get k = ((σ.put (a_ d) (top (.box cr (i + 1) n))).puts (a_j d 0 as)).get k:=fun _ => rfl
 obtain ⟨g1,g2⟩:=j_C d as 0 (σ.put (a_ d) (top (.box cr (i + 1) n)));simp only [Nat.zero_add] at g1 g2;have hgd : (σ.puts ((a_ d,top (.box cr (i + 1) n)) :: a_j d 0 as)).get (a_ d) = some (top (.box cr (i + 1) n)):=by
  rw [hgdef,g2 _ fun j _ => f_,j_]
 have hsame : ∀ k,¬ W k → (σ.puts ((a_ d,top (.box cr (i + 1) n)) :: a_j d 0 as)).get k = σ.get k:=by
  intro k hk;rw [hgdef,g2 _ fun j hj he => hk (.inr ⟨j,by omega,he⟩),m_ fun e => hk (.inl e)]
 have hWe : ∀ k e,W k → (σ.puts ((a_ d,top (.box cr (i + 1) n)) :: a_j d 0 as)).get k = some e → (k = a_ d ∧ e = top (.box cr (i + 1) n)) ∨ ∃ j a,k = cell d j ∧ as[j]? = some a ∧ e = top a:=by
  rintro k e (rfl | ⟨j,hj,rfl⟩) he
  ·rw [hgd] at he
   exact .inl ⟨rfl,(Option.some.inj he).symm⟩
  ·have e1:=List.getElem?_eq_getElem (show j < as.length by omega)
   rw [hgdef,g1 j _ e1] at he;exact .inr ⟨j,_,rfl,e1,(Option.some.inj he).symm⟩
 have hnotD : ¬ Old D (i + 1):=by
  rintro (q | ⟨j,hj,q⟩)
  ·cases q
  ·have : i = j:=by omega
   subst this;exact hi hj
 have hcellW : ∀ m e,σ.get (cell d m) = some e → m < n:=by
  intro m e he;obtain ⟨c,tag,m',hb⟩:=h.cel d m e he;have hbox : ∃ c tag,σ.get (a_ d) = some ⟨[],.box c tag n⟩:=by
   rcases hslot with q | q
   ·rw [q] at hb;cases hb
   ·exact q
  obtain ⟨c1,t1,hb1⟩:=hbox;obtain ⟨v,hv,hr,-⟩:=h.ent _ _ hb1;obtain ⟨b,cs0,ety0,k1,-,k3,k4⟩:=hr trivial;obtain ⟨v2,hv2,-⟩:=h.ent _ _ he;simp only [s_,cell,k1,Option.bind_some] at hv2;rw [w_ k3] at hv2;rw [← k4];exact (Array.getElem?_eq_some_iff.1 hv2).1
 have hbox_ne : ∀ {s : Nat},s ≠ d → ¬ W (a_ s):=by
  rintro s hs (q | ⟨j,-,q⟩)
  ·exact hs (J_.1 q)
  ·exact f_ q
 have hcompW : ∀ t j,¬ W (comp t j):=by
  rintro t j (q | ⟨j',-,he⟩)
  ·exact x_ q.symm
  ·exact L_ he.symm
 have hnotup : ∀ q m,σ.get (a_ d) ≠ some ⟨q,.tup m⟩:=by
  intro q m hh
  rcases hslot with q' | ⟨c,tag,q'⟩ <;> rw [q'] at hh <;> cases hh
 have hnew:=heap_alloc_new w (.cells cs ety);refine ⟨setG (a_i W γ) (a_ d) (some w.heap.size),Rel.upd hG h hwf W (fun _ => False) rfl rfl rfl (by rw [I_];omega) (fun b hb _ => heap_alloc_old w _ b hb) (fun _ _ q => q.elim) ?_ ?_ ?_ hsame ?_ ?_ ?_ ?_ ?_ ?_ (fun tag ho => ho.mono fun _ => .inl) ?_ ?_ ?_ ?_⟩
 ·intro k hk
  rw [O_ _ _ fun q => hk (.inl q),a_Z hk]
 ·intro k b hk hb
  by_cases h1 : k = a_ d
  ·subst h1
   rw [a_e] at hb;simp only [Option.some.injEq] at hb;subst hb;exact .inr ⟨Nat.le_refl _,by rw [I_];omega⟩
  ·rw [O_ _ _ h1,b_4 hk] at hb
   cases hb
 ·intro k k' b hk hk' hb hb'
  have one : ∀ k,W k → setG (a_i W γ) (a_ d) (some w.heap.size) k = some b → k = a_ d:=by
   intro k hk hb
   by_cases h1 : k = a_ d
   ·exact h1
   ·rw [O_ _ _ h1,b_4 hk] at hb
    cases hb
  rw [one k hk hb,one k' hk' hb']
 ·intro k e hk he
  refine a_S (fun ht => ?_) (fun ht => ?_)
  ·have : d ≠ k.a:=by
    intro q
    by_cases h0 : k.tag = 0
    ·exact hk (.inl (by rw [b_N h he h0,q]))
    ·obtain ⟨v0,hv0,-⟩:=h.ent k e he
     have h2 : k.tag = 2:=by
      obtain ⟨t,a,b⟩:=k;unfold s_ at hv0
      match t with
      | 0 => exact absurd rfl h0
      | 1 => exact absurd rfl ht
      | 2 => rfl
      | n + 3 => cases hv0
     obtain ⟨-,q',m,hh⟩:=c_R h he h2;rw [← q] at hh;exact hnotup _ _ hh
   simp [Array.getElem?_setIfInBounds,this]
  ·obtain ⟨hkc,c,tag,m,hs⟩:=a_0 h he ht
   have hne : k.a ≠ d:=by
    intro q;rw [hkc,q] at he;exact hk (.inr ⟨k.b,hcellW _ _ he,by rw [← q];exact hkc⟩)
   refine ⟨by rw [O_ _ _ fun q => hne (J_.1 q),a_Z (hbox_ne hne)],fun b hb => b_d ?_⟩;exact heap_alloc_old w _ b (h.blk _ b hb).1
 ·intro s m e he
  by_cases hs : s = d
  ·subst hs
   exact ⟨cr,i + 1,n,hgd⟩
  ·have hk : ¬ W (cell s m):=by
    rintro (q | ⟨j,-,q⟩)
    ·exact f_ q.symm
    ·exact hs (c_f.1 q).1
   rw [hsame _ hk] at he;obtain ⟨c,tag,m',hb⟩:=h.cel s m e he;exact ⟨c,tag,m',by rw [hsame _ (hbox_ne hs)];exact hb⟩
 ·intro s j e he
  rw [hsame _ (hcompW s j)] at he;obtain ⟨q,m,hb⟩:=h.cmp s j e he;have hs : s ≠ d:=by
   rintro rfl;exact hnotup _ _ hb
  exact ⟨q,m,by rw [hsame _ (hbox_ne hs)];exact hb⟩
 ·rintro s q c x hs hh (hk | ⟨j,-,hk⟩)
  ·have:=J_.1 hk
   subst this
   rcases hslot with q' | ⟨c',tag,q'⟩ <;> rw [q'] at hh <;> cases hh
  ·exact f_ hk
 ·rintro k (rfl | ⟨j,hj,rfl⟩) _
  ·rw [hgd];simp
  ·rw [hgdef,g1 j _ (List.getElem?_eq_getElem (show j < as.length by omega))]
   simp
 ·intro k e tag hk he ht
  rcases hWe k e hk he with ⟨-,rfl⟩ | ⟨j,a,-,ha,rfl⟩
  ·simp only [top,AV.a_C,Option.some.injEq] at ht
   subst ht;exact c_J
  ·rcases has j a ha with ⟨c,y,u,rfl,-⟩ | ⟨c,u,rfl,-⟩
   ·cases ht
   ·simp only [top,AV.a_C,Option.some.injEq] at ht
    subst ht;exact c_J
 ·intro k tag hk _ ho
  refine c_C (D:=D) (fun e t he ht q => ?_) ho
  rcases hWe k e hk he with ⟨-,rfl⟩ | ⟨j,a,-,ha,rfl⟩
  ·simp only [top,AV.a_C,Option.some.injEq] at ht
   subst ht;exact hnotD q
  ·rcases has j a ha with ⟨c,y,u,rfl,-⟩ | ⟨c,u,rfl,-⟩
   ·cases ht
   ·simp only [top,AV.a_C,Option.some.injEq] at ht
    subst ht;exact hnotD q
 ·intro k e h0 tag hk he hh
  rcases hWe k e hk he with ⟨-,rfl⟩ | ⟨j,a,-,ha,rfl⟩
  ·cases hh
  ·rcases has j a ha with ⟨c,y,u,rfl,-⟩ | ⟨c,u,rfl,-⟩ <;> cases hh
 ·intro k e s b hk he hm
  rcases hWe k e hk he with ⟨-,rfl⟩ | ⟨j,a,-,ha,rfl⟩ <;> simp [top] at hm
 ·intro hstay k e hk he
  rcases hWe k e hk he with ⟨rfl,rfl⟩ | ⟨j,a,rfl,ha,rfl⟩
  ·exact ⟨.pointer (some ⟨w.heap.size,0,none⟩),by rw [i_];simp [hd],fun _ => ⟨w.heap.size,cs,ety,a_e _ _ _,rfl,hnew,hcs⟩,fun q => absurd trivial q⟩
  ·have hval : ∀ u,cs[j]? = some u → s_ (tm.setIfInBounds d (.pointer (some ⟨w.heap.size,0,none⟩))) (w.alloc (.cells cs ety)) (setG (a_i W γ) (a_ d) (some w.heap.size)) (cell d j) = some u:=by
    intro u hu;simp only [s_,cell];rw [show setG (a_i W γ) (a_ d) (some w.heap.size) (a_ d) = some w.heap.size from a_e _ _ _];simp only [Option.bind_some];rw [w_ hnew];exact hu
   rcases has j a ha with ⟨c,y,u,rfl,hu,hV⟩ | ⟨c,u,rfl,hu,hO⟩
   ·exact ⟨u,hval u hu,fun _ => V.mono hstay hV,fun q => absurd trivial q⟩
   ·refine ⟨u,hval u hu,fun _ => ?_,fun q => absurd trivial q⟩
    show Own C.tab _ _ c u (setG (a_i W γ) (a_ d) (some w.heap.size) (cell d j)) []
    rw [O_ _ _ f_.symm,b_4 hk];exact hO.mono hstay fun b hb => by cases hb
theorem g_v {d n : Nat} {r : R} {motive : a_o → Prop} (hbad : motive .bad) (hok : (σ.get (a_ d) = none ∨ ∃ c tag,σ.get (a_ d) = some ⟨[],.box c tag n⟩) → motive (r.run σ)) : motive ((g_u d n r).run σ):=by
 simp only [g_u,Rd.run];split
 ·rename_i he
  exact hok (.inl he)
 ·rename_i c tag n' he
  split
  ·rename_i hn
   have:=Nat.eq_of_beq_eq_true hn
   subst this;exact hok (.inr ⟨c,tag,he⟩)
  ·exact hbad
 ·exact hbad
theorem l_E (s : Nat) : ∀ (tys : List TypeId) (xs : List T) (c : Nat),tys.length = xs.length → cellsOf s c tys xs = a_j s c (List.zipWith AV.t tys xs):=by
 intro tys
 induction tys with
 | nil => intro xs c hl;cases xs <;> rfl
 | cons ty tys ih =>
  intro xs c hl
  cases xs with
  | nil => rfl
  | cons x xs =>
   simp only [cellsOf,List.zipWith_cons_cons,a_j];rw [ih xs (c + 1) (by simpa using hl)]
theorem j_x (C : Ctx) (s i : Nat) : ∀ (tys : List TypeId) (xs : List T) (c : Nat),tys.length = xs.length → ∃ as : List AV,f_K C s i c tys xs = a_j s c as ∧ as.length = xs.length ∧
  ∀ (j : Nat) a,as[j]? = some a → ∃ y ty,xs[j]? = some y ∧ tys[j]? = some ty ∧ (a = .t ty y ∨ (y = .l [] ∧ a = .own ty (i + 1) [])):=by
 intro tys
 induction tys with
 | nil =>
  intro xs c hl
  cases xs with
  | nil => exact ⟨[],rfl,rfl,fun j a ha => by simp at ha⟩
  | cons => simp at hl
 | cons ty tys ih =>
  intro xs c hl
  cases xs with
  | nil => simp at hl
  | cons x xs =>
   obtain ⟨as,h1,h2,h3⟩:=ih xs (c + 1) (by simpa using hl);clear hl
   refine ⟨(match x,memK C.homes (cell s c) with
    | .l [],true => .own ty (i + 1) []
    | x,_ => .t ty x) :: as,by simp only [f_K,a_j,h1];rfl,by simp [h2],fun j a ha => ?_⟩
   cases j with
   | zero =>
    simp only [List.getElem?_cons_zero,Option.some.injEq] at ha;subst ha;refine ⟨x,ty,rfl,rfl,?_⟩;split
    ·exact .inr ⟨rfl,rfl⟩
    ·exact .inl rfl
   | succ j =>
    simp only [List.getElem?_cons_succ] at ha;obtain ⟨y,t,q1,q2,q3⟩:=h3 j a ha;exact ⟨y,t,by simpa using q1,by simpa using q2,q3⟩
variable (hG : Good P C.tab) (h : Rel C.tab fr tm w σ γ) (hwf : Wf C D σ) (hsz : tm.size = C.nt) {i : Nat} (hi : ¬ D i) {o : Oper} {p : Path} {K : St → Prop} {Q : Exit → Act → World → Prop}
include hG h hwf hsz hi
theorem i_n {ty : TypeId} (ho : o.op = .alloc ty) : Sound P C fr tm w σ D i o p K Q ((m_z C i p o ty).run σ):=by
 unfold m_z
 cases p with
 | cons => exact b_
 | nil =>
  simp only;split
  ·exact b_
  ·rename_i d hd
   split
   ·rename_i hn
    have hn:=of_decide_eq_true hn;refine Z_ _ b_ fun cr tr hr => ?_
    refine g_v b_ fun hslot => ?_
    intro hW;have hself:=(hG _ _ _ hr).self;have hlen:=(hG _ _ _ hself).len;obtain ⟨inf,z,z1,z2,z3,z4,z5,z6,z7,z8⟩:=hG.zero hr;have hno : ∀ u ∈ z.cells.toList,noSl u = true:=by
     obtain ⟨inf',z',q1,q2,q3,q4,-,q6⟩:=(hG _ _ _ hr).info;rw [z1] at q1;simp only [Option.some.injEq] at q1;subst q1;rw [z4] at q4;simp only [Option.some.injEq] at q4;subst q4;intro u hu;exact (Array.all_eq_true_iff_forall_mem.1 q6) u (by simpa using hu)
    have hex : (execOp (Act.eval ⟨tm,[]⟩) o).run P w = .ok (.value (.pointer (some ⟨w.heap.size,0,none⟩))) (w.alloc (.cells z.cells ty)):=by
     simp [execOp,ho,Instr.alloc,zeroValue,typeInfo,z1,z4,newVar,newRow]
    have hlv : (a_z tr.zero tr.cells) = tr.zero.leaves:=P_ z7;obtain ⟨as,a1,a2,a3⟩:=j_x C d i (tr.lv cr) (a_z tr.zero tr.cells) 0 (by rw [hlv,hlen,z7]);have hK : K (σ.puts ((a_ d,top (.box cr (i + 1) tr.cells)) :: a_j d 0 as)):=by rw [← a1];exact hW
    obtain ⟨γ',r1,r2⟩:=Rel.g_u (ety:=ty) (cr:=cr) (cs:=z.cells) (as:=as) hG h hwf hi (by rw [hsz];exact hn) hslot (by rw [a2,hlv,z7]) z6 (fun j a ha => by
     obtain ⟨y,t,q1,q2,q3⟩:=a3 j a ha;rw [hlv] at q1;obtain ⟨u,hu,hL⟩:=z8 w (Ob fr γ) j y t q1 q2;obtain ⟨t1,ht1,hs1⟩:=(hG _ _ _ hself).leaf t (List.mem_of_getElem? q2)
     rcases q3 with rfl | ⟨rfl,rfl⟩
     ·have hp:=f_X hL
      exact .inl ⟨t,y,u,rfl,hu,b_8 ht1 hs1 (U_ hG ht1 hs1) hp.2 hp.1 hL⟩
     ·refine .inr ⟨t,u,rfl,hu,?_⟩
      have hnu:=hno u (by
       have : z.cells.toList[j]? = some u:=by rw [Array.getElem?_toList];exact hu
       exact List.mem_of_getElem? this)
      cases hL with
      | nil h' hk' => exact d_k hG rfl h' hk' rfl
      | sl => simp [noSl] at hnu)
    exact a_1 hex hd ⟨rfl,by simp [hsz],_,_,hK,r1,r2⟩
   ·exact b_
theorem l_A {ty : TypeId} {v : Operand} (ho : o.op = .box ty v) : Sound P C fr tm w σ D i o p K Q ((boxR C i p o ty v).run σ):=by
 unfold boxR
 cases p with
 | cons => exact b_
 | nil =>
  have hp : σ.Holds []:=trivial;simp only;split
  ·exact b_
  ·rename_i d hd
   split
   ·rename_i hn
    have hn:=of_decide_eq_true hn;refine Z_ _ b_ fun cr tr hr => ?_
    refine d_v hG h [] hp v ty b_ fun cv x ws hf hV => ?_
    split
    ·rename_i hcc
     have hcc:=Nat.eq_of_beq_eq_true hcc;subst hcc;have hex0 : (execOp (Act.eval ⟨tm,[]⟩) o).run P w = .ok (.value (.pointer (some ⟨w.heap.size,0,none⟩))) (w.alloc (.cells (ev tm v).cells ty)):=by
      simp only [execOp,ho,Instr.box,newVar,newRow];rfl
     split
     ·simp only [Rd.run]
      cases habs : σ.get (a_ d) with
      | some e => exact b_
      | none =>
       intro hW;obtain ⟨γ',r1,r2,r3,r4,r5,r6,r7,r8⟩:=Rel.frz hG h hwf hf;have hAl:=r1.alloc hG r2 (.cells (ev tm v).cells ty);have hVx:=hV _ r5 r6;have hnO : ¬ Ob fr γ' w.heap.size:=by
        rintro (q | ⟨k,q⟩)
        ·have:=(r1.low _ q).1
         have:=r1.size
         omega
        ·have:=(r1.blk k _ q).1
         omega
       have hAt : At C.tab (w.alloc (.cells (ev tm v).cells ty)) (Ob fr γ') cv ⟨w.heap.size,0,none⟩ x:=by
        obtain ⟨ti,q1,q2,q3,q4,q5,q6⟩:=hVx;refine ⟨ti,q1,q2,q5,hnO,fun j y t hy ht => ?_⟩;obtain ⟨u,hu,hL⟩:=q6 j y t hy ht;refine ⟨u,?_,hL.mono fun b hb hOb => ⟨heap_alloc_old w _ b hb,hOb⟩⟩;rw [a_I,Nat.zero_add,w_ (heap_alloc_new w _)];exact hu
       have habs' : (σ.puts ws).get (a_ d) = none:=c_D r3 habs;obtain ⟨q1,q2⟩:=Rel.f_k (v:=.pointer (some ⟨w.heap.size,0,none⟩)) (p:=[]) (a:=.pl cv x 0) hG hAl r2 (by rw [hsz];exact hn) habs' (fun s b hm => by simp at hm) (fun _ _ hh => by cases hh) (fun _ hh => by cases hh)
        (fun _ => ⟨⟨w.heap.size,0,none⟩,by simp [Addr.add],hAt⟩) (fun q => absurd trivial q)
       refine a_1 hex0 hd ⟨rfl,by simp [hsz],_,_,?_,q1,q2.mono fun _ => .inl⟩;have hW' : K (σ.puts (ws ++ [(a_ d,top (AV.pl cv x 0))])):=hW;rw [B_] at hW';exact hW'
     refine g_v b_ fun hslot => ?_
     intro hW;have hself:=(hG _ _ _ hr).self;have hlen:=(hG _ _ _ hself).len;obtain ⟨γ',r1,r2,r3,r4,r5,r6,r7,r8⟩:=Rel.frz hG h hwf hf;obtain ⟨k1,k2,k3,k4,k5⟩:=e_M hG hself (hV _ r5 r6);have hex : (execOp (Act.eval ⟨tm,[]⟩) o).run P w = .ok (.value (.pointer (some ⟨w.heap.size,0,none⟩))) (w.alloc (.cells (ev tm v).cells ty)):=by
      simp only [execOp,ho,Instr.box,newVar,newRow];rfl
     have hslot' : (σ.puts ws).get (a_ d) = none ∨ ∃ c tag,(σ.puts ws).get (a_ d) = some ⟨[],.box c tag tr.cells⟩:=by
      rcases hslot with q | ⟨c,tag,q⟩
      ·exact .inl (c_D r3 q)
      ·exact .inr ⟨c,tag,by rw [r3 _ fun c' t' xs' q' => by rw [q] at q';cases q'];exact q⟩
     have e1 : cellsOf d 0 (tr.lv cv) (a_z x tr.cells) = a_j d 0 (List.zipWith AV.t (tr.lv cv) x.leaves):=by
      rw [P_ k3];exact l_E d _ _ 0 (by rw [hlen,k3])
     have hK : K ((σ.puts ws).puts ((a_ d,top (.box cv (i + 1) tr.cells)) :: a_j d 0 (List.zipWith AV.t (tr.lv cv) x.leaves))):=by
      rw [← B_,← e1];exact hW
     obtain ⟨γ2,q1,q2⟩:=Rel.g_u (ety:=ty) (cr:=cv) (cs:=(ev tm v).cells) (as:=List.zipWith AV.t (tr.lv cv) x.leaves) hG r1 r2 hi (by rw [hsz];exact hn) hslot' (by rw [List.length_zipWith,hlen,k3];omega) (by rw [← k2];simp) (fun j a ha => by
      rw [List.getElem?_zipWith] at ha;split at ha
      ·rename_i t y ht hy
       simp only [Option.some.injEq] at ha;subst ha;obtain ⟨u,hu,hL⟩:=k5 j y t hy ht;obtain ⟨t1,ht1,hs1⟩:=(hG _ _ _ hself).leaf t (List.mem_of_getElem? ht);have hp:=f_X hL;exact .inl ⟨t,y,u,rfl,by rw [← Array.getElem?_toList];exact hu,b_8 ht1 hs1 (U_ hG ht1 hs1) hp.2 hp.1 hL⟩
      ·cases ha)
     exact a_1 hex hd ⟨rfl,by simp [hsz],_,_,hK,q1,q2⟩
    ·exact b_
   ·exact b_
theorem e_Y (hp : σ.Holds p) (hpp : ∀ s b,(s,b) ∈ p → a_w C s = false ∧ ∃ q c x,σ.get (a_ s) = some ⟨q,.t c x⟩) {ty : TypeId} {n : Nat} {parts : Array (Nat × Operand)} (ho : o.op = .buildSlice ty n parts) :
  Sound P C fr tm w σ D i o p K Q ((d_Y C p o ty n parts).run σ):=by
 unfold d_Y;refine o_ _ _ b_ fun d hd hn hv habs => ?_
 refine Z_ _ b_ fun cr tr hr => ?_
 split
 ·rename_i e hel
  have hk:=f_O hel;split
  ·rename_i ce te he
   split
   ·rename_i hle
    have hle:=of_decide_eq_true hle;have hself:=(hG _ _ _ hr).self;have hpos:=(hG _ _ _ he).pos;have hu:=hG.slice (t:=ty) (e:=e) (by unfold Ctx.el Ctx.kd;rw [hr];exact hel);obtain ⟨inf,z,z1,z2,z3,z4,z5,z6,z7,z8⟩:=hG.zero he;refine g_F hG h e b_ _ _ [] Frz.nil fun xs' ws hf hP => ?_
    simp only [List.nil_append] at hf ⊢;split
    ·intro hW
     have hE0 : Elems C.tab w (Ob fr γ) ce te (madeCells z.cells (n * te.cells)) (List.replicate n te.zero):=by
      refine ⟨by rw [size_madeCells,List.length_replicate],fun j x hx => ?_⟩;have hj : j < n:=by
       have:=(List.getElem?_eq_some_iff.1 hx).1
       simpa using this
      rw [List.getElem?_replicate,if_pos hj] at hx;simp only [Option.some.injEq] at hx;subst hx;refine ⟨z5,z7,fun m y t hy ht => ?_⟩;have hn' : m < te.cells:=by rw [← z7];exact (List.getElem?_eq_some_iff.1 hy).1
      obtain ⟨u,hu',hL⟩:=z8 w (Ob fr γ) m y t hy ht;refine ⟨u,?_,hL⟩;rw [← z6,h_X (by rw [z6];exact hpos) ?_ (by rw [z6];exact hn')]
      ·exact hu'
      ·have:=Nat.mul_le_mul_right te.cells (show j + 1 ≤ n by omega)
       rw [Nat.add_mul,Nat.one_mul] at this;rw [z6];omega
     obtain ⟨hlen,cs',hfill,hE⟩:=h_b (O' := Ob fr γ) hG he hP (fun _ q => q) (fun k e b hm => by simp at hm) _ hE0;rw [List.length_replicate] at hlen;have hfill' : Instr.fill (fun i => some (i * te.cells,te.cells)) (madeCells z.cells (n * te.cells)) (parts.map fun q => (q.1,Act.eval ⟨tm,[]⟩ q.2)).toList = some cs' := by
      rw [Array.toList_map];exact hfill
     have hbs : (Instr.buildSlice ty n (parts.map fun q => (q.1,Act.eval ⟨tm,[]⟩ q.2))).run P w = .ok (.slice (some ⟨w.heap.size,0,none⟩) n n) (w.alloc (.cells cs' e)):=by
      exact d_q hu he hG hle z1 z4 hfill'
     have hex : (execOp (Act.eval ⟨tm,[]⟩) o).run P w = .ok (.value (.slice (some ⟨w.heap.size,0,none⟩) n n)) (w.alloc (.cells cs' e)):=by
      simp only [execOp,ho];rw [Sem.run_bind,hbs];rfl
     have hnew:=heap_alloc_new w (.cells cs' e);have hR:=Rel.alloc hG h hwf (.cells cs' e);have hfree : ¬ Ob fr γ w.heap.size:=by
      rintro (q | ⟨k,q⟩)
      ·have:=(h.low _ q).1
       have:=h.size
       omega
      ·have:=(h.blk k _ q).1
       omega
     have hstay : Stays w (w.alloc (.cells cs' e)) (Ob fr γ) (Ob fr γ):=fun b hb hO => ⟨heap_alloc_old w _ b hb,hO⟩
     have hV : V C.tab (w.alloc (.cells cs' e)) (Ob fr γ) cr (.slice (some ⟨w.heap.size,0,none⟩) n n) (.l xs'):=by
      refine b_8 hself (by simp [TI.isS,hk]) (U_ hG hself (by simp [TI.isS,hk])) rfl rfl ?_;have hL:=L.sl (tab:=C.tab) (w:=w.alloc (.cells cs' e)) (O:=Ob fr γ) (c:=cr) (ti:=tr) (e:=e) (ce:=ce) (te:=te) (a:=⟨w.heap.size,0,none⟩) (cap:=n) (xs:=xs') hself hk he hpos (by omega) (by
       have:=Nat.mul_le_mul_left n hpos
       simp only [maxLen];omega) (fun _ => hfree) (fun j m => (cs'[j * te.cells + m]?).getD undef) (fun j x hx => ⟨(hE.2 j x hx).1,(hE.2 j x hx).2.1⟩) (fun j x m y hx hy => by
        obtain ⟨k1,k2,k3⟩:=hE.2 j x hx;have hm : m < te.cells:=by rw [← k2];exact (List.getElem?_eq_some_iff.1 hy).1
        have hlv:=(hG _ _ _ he).len;obtain ⟨u,hu',-⟩:=k3 m y _ hy (List.getElem?_eq_getElem (by omega));rw [a_I,w_ hnew,Nat.zero_add,hu'];rfl) (fun j x m y t hx hy ht => by
        obtain ⟨k1,k2,k3⟩:=hE.2 j x hx;obtain ⟨u,hu',hL⟩:=k3 m y t hy ht;rw [hu'];exact hL.mono hstay)
      rw [hlen] at hL;exact hL
     obtain ⟨h1,h2⟩:=Rel.f_k (D:=fun j => D j ∨ j = i) (d:=d) (v:=.slice (some ⟨w.heap.size,0,none⟩) n n) (p:=p) (a:=.t cr (.l xs')) hG hR (hwf.mono fun _ => .inl) (by rw [hsz];exact hn) habs hpp (fun _ _ q => by cases q) (fun _ q => by cases q) (fun _ => hV) (fun q => absurd hp q);exact a_1 hex hd ⟨rfl,by simp [hsz],_,_,hW,h1,h2⟩
    ·exact b_
   ·exact b_
  ·exact b_
 ·exact b_
end
section
variable {P : Program} {C : Ctx} {fr : Fr} {tm : Array Value} {w w' : World} {σ : St} {γ : Key → Option Nat} {D : Nat → Prop}
abbrev KMap:=List (Key × Key)
def KMap.find : KMap → Key → Option Key
 | [],_ => none
 | (a,b) :: r,k => match a.eq k with
  | true => some b
  | false => KMap.find r k
theorem KMap.a_8 (m1 m2 : KMap) (k : Key) : KMap.find (m1 ++ m2) k = match KMap.find m1 k with | some x => some x | none => KMap.find m2 k:=by
 induction m1 with
 | nil => rfl
 | cons x r ih =>
  obtain ⟨a,b⟩:=x;simp only [List.cons_append,KMap.find]
  cases a.eq k with
  | true => rfl
  | false => exact ih
theorem KMap.f_N {m : KMap} {k x : Key} (h : KMap.find m k = some x) : (k,x) ∈ m:=by
 induction m with
 | nil => cases h
 | cons y r ih =>
  obtain ⟨a,b⟩:=y;simp only [KMap.find] at h;split at h
  ·rename_i he
   have:=Key.a_b.1 he
   subst this;simp only [Option.some.injEq] at h;subst h;simp
  ·exact List.mem_cons_of_mem _ (ih h)
theorem KMap.d_g {m : KMap} {k : Key} (h : ∀ x,(k,x) ∉ m) : KMap.find m k = none:=by
 cases hf : KMap.find m k with
 | none => rfl
 | some x => exact absurd (KMap.f_N hf) (h x)
def d_N (j s : Nat) : Nat → Nat → KMap
 | _,0 => []
 | c,n + 1 => (cell j c,cell s c) :: d_N j s (c + 1) n
theorem b_r {j s : Nat} : ∀ {n c : Nat} {k x : Key},(k,x) ∈ d_N j s c n ↔ ∃ m,c ≤ m ∧ m < c + n ∧ k = cell j m ∧ x = cell s m:=by
 intro n
 induction n with
 | zero =>
  intro c k x;simp only [d_N,List.not_mem_nil,false_iff];rintro ⟨m,h1,h2,-⟩;omega
 | succ n ih =>
  intro c k x;simp only [d_N,List.mem_cons,Prod.mk.injEq,ih]
  constructor
  ·rintro (⟨rfl,rfl⟩ | ⟨m,h1,h2,h3,h4⟩)
   ·exact ⟨c,Nat.le_refl _,by omega,rfl,rfl⟩
   ·exact ⟨m,by omega,by omega,h3,h4⟩
  ·rintro ⟨m,h1,h2,rfl,rfl⟩
   by_cases hm : m = c
   ·subst hm;exact .inl ⟨rfl,rfl⟩
   ·exact .inr ⟨m,by omega,by omega,rfl,rfl⟩
theorem d_X {j s n c m : Nat} (h1 : c ≤ m) (h2 : m < c + n) : KMap.find (d_N j s c n) (cell j m) = some (cell s m):=by
 induction n generalizing c with
 | zero => omega
 | succ n ih =>
  simp only [d_N,KMap.find]
  by_cases hm : c = m
  ·subst hm;simp [Key.a_u]
  ·rw [Key.a_N (by simp [cell];omega)]
   exact ih (by omega) (by omega)
theorem l_z (j s : Nat) : ∀ n c,(d_N j s c n).map (·.2) = b_C s c n:=by
 intro n
 induction n with
 | zero => intro c;rfl
 | succ n ih => intro c;simp only [d_N,List.map_cons,b_C,ih]
inductive ArgsP (C : Ctx) (tm : Array Value) (w : World) (O : Nat → Prop) (σ : St) (γ : Key → Option Nat) : Nat → List (Operand × TypeId) → Acc → KMap → Prop where
 | nil (j : Nat) : ArgsP C tm w O σ γ j [] Acc.nil []
 | t (j : Nat) (x : Operand) (ty : TypeId) (r : List (Operand × TypeId)) (acc : Acc) (mp : KMap) (c : TypeId) (y : T) (hV : f_F C.tab w O γ [] c (ev tm x) y) (hr : ArgsP C tm w O σ γ (j + 1) r acc mp) :
   ArgsP C tm w O σ γ j ((x,ty) :: r) (acc.arg (.t c y)) mp
 | pl (j : Nat) (x : Operand) (ty : TypeId) (r : List (Operand × TypeId)) (acc : Acc) (mp : KMap) (c : TypeId) (y : T) (hP : ∃ a,ev tm x = .pointer (some a) ∧ At C.tab w O c a y) (hr : ArgsP C tm w O σ γ (j + 1) r acc mp) :
   ArgsP C tm w O σ γ j ((x,ty) :: r) (acc.arg (.pl c y)) mp
 | frz (j : Nat) (x : Operand) (ty : TypeId) (r : List (Operand × TypeId)) (acc : Acc) (mp : KMap) (c : TypeId) (y : T) (k : Key) (e : Ent) (hf : Frz σ [(k,e)]) (hV : f_F C.tab w O γ [(k,e)] c (ev tm x) y)
   (hr : ArgsP C tm w O σ γ (j + 1) r acc mp) : ArgsP C tm w O σ γ j ((x,ty) :: r) ((acc.arg (.t c y)).frz k e) mp
 | lend (j : Nat) (x : Operand) (ty : TypeId) (r : List (Operand × TypeId)) (acc : Acc) (mp : KMap) (c : TypeId) (y : T) (k : Key) (hV : f_F C.tab w O γ [(k,top .u)] c (ev tm x) y)
   (hr : ArgsP C tm w O σ γ (j + 1) r acc mp) : ArgsP C tm w O σ γ j ((x,ty) :: r) ((acc.arg (.t c y)).lend k) mp
 | lends (j : Nat) (x : Operand) (ty : TypeId) (r : List (Operand × TypeId)) (acc : Acc) (mp : KMap) (c : TypeId) (y : T) (ks : List Key) (hV : f_F C.tab w O γ (ks.map fun k => (k,top .u)) c (ev tm x) y)
   (hr : ArgsP C tm w O σ γ (j + 1) r acc mp) : ArgsP C tm w O σ γ j ((x,ty) :: r) ((acc.arg (.t c y)).lends ks) mp
 | own (j : Nat) (x : Operand) (ty : TypeId) (r : List (Operand × TypeId)) (acc : Acc) (mp : KMap) (c : TypeId) (xs : List T) (k : Key) (hk : b_S σ k) (hO : Own C.tab w O c (ev tm x) (γ k) xs)
   (hr : ArgsP C tm w O σ γ (j + 1) r acc mp) : ArgsP C tm w O σ γ j ((x,ty) :: r) ((acc.arg (.own c xs)).take k) ((a_ j,k) :: mp)
 | ownNil (j : Nat) (x : Operand) (ty : TypeId) (r : List (Operand × TypeId)) (acc : Acc) (mp : KMap) (c : TypeId) (xs : List T) (hO : Own C.tab w O c (ev tm x) none xs)
   (hr : ArgsP C tm w O σ γ (j + 1) r acc mp) : ArgsP C tm w O σ γ j ((x,ty) :: r) (acc.arg (.own c xs)) mp
 | box (j : Nat) (x : Operand) (ty : TypeId) (r : List (Operand × TypeId)) (acc : Acc) (mp : KMap) (s c n tag b : Nat) (as : List AV) (sh : Shape) (ks : List (Key × Path)) (hs : σ.get (a_ s) = some ⟨[],.box c tag n⟩)
   (hb : γ (a_ s) = some b) (hv : ev tm x = .pointer (some ⟨b,0,none⟩)) (hl : as.length = n)
   (hc : ∀ (m : Nat) a,as[m]? = some a → ∃ c' ,(∃ y,a = .t c' y ∧ σ.get (cell s m) = some (top (.t c' y))) ∨ ∃ xs t,a = .own c' 0 xs ∧ σ.get (cell s m) = some (top (.own c' t xs)))
   (hsl : sh.length = n) (hkl : ks.length = n) (hsk : ∀ m,m < n → ∃ ty o,sh[m]? = some (cell j m,ty,o) ∧ ks[m]? = some (cell s m,[]))
   (hr : ArgsP C tm w O σ γ (j + 1) r acc mp) : ArgsP C tm w O σ γ j ((x,ty) :: r) ((acc.arg (.box c n as)).box j s n sh ks) ((a_ j,a_ s) :: (d_N j s 0 n ++ mp))
theorem j_w (s : Nat) : ∀ (n c : Nat) {k : List AV → R} {motive : a_o → Prop} (_ : motive .bad)
  (_ : ∀ as,as.length = n → (∀ (m : Nat) a,as[m]? = some a → ∃ c',(∃ y,a = .t c' y ∧ σ.get (cell s (c + m)) = some (top (.t c' y))) ∨ ∃ xs t,a = .own c' 0 xs ∧ σ.get (cell s (c + m)) = some (top (.own c' t xs))) → motive ((k as).run σ)),
  motive ((i_r s c n k).run σ):=by
 intro n
 induction n with
 | zero =>
  intro c k motive hbad hok;exact hok [] rfl (fun m a ha => by simp at ha)
 | succ n ih =>
  intro c k motive hbad hok;simp only [i_r,Rd.run];split
  ·rename_i c' x he
   refine ih (c + 1) hbad fun as hl has => hok _ (by simp [hl]) fun m a ha => ?_
   cases m with
   | zero =>
    simp at ha;subst ha;exact ⟨c',.inl ⟨x,rfl,he⟩⟩
   | succ m =>
    simp at ha;rw [show c + (m + 1) = c + 1 + m by omega];exact has m a ha
  ·rename_i c' t xs he
   refine ih (c + 1) hbad fun as hl has => hok _ (by simp [hl]) fun m a ha => ?_
   cases m with
   | zero =>
    simp at ha;subst ha;exact ⟨c',.inr ⟨xs,t,rfl,he⟩⟩
   | succ m =>
    simp at ha;rw [show c + (m + 1) = c + 1 + m by omega];exact has m a ha
  ·exact hbad
theorem m_J (j s : Nat) : ∀ (tys : List TypeId) (fl : List Bool) (c : Nat),(d_d j s c tys fl).1.length = (d_d j s c tys fl).2.length ∧
  ∀ m,m < (d_d j s c tys fl).1.length → ∃ ty o,(d_d j s c tys fl).1[m]? = some (cell j (c + m),ty,o) ∧ (d_d j s c tys fl).2[m]? = some (cell s (c + m),[]):=by
 intro tys
 induction tys with
 | nil => intro fl c;cases fl <;> exact ⟨rfl,fun m hm => by simp [d_d] at hm⟩
 | cons ty tys ih =>
  intro fl c
  cases fl with
  | nil => exact ⟨rfl,fun m hm => by simp [d_d] at hm⟩
  | cons f fl =>
   obtain ⟨h1,h2⟩:=ih fl (c + 1);simp only [d_d];refine ⟨by simp [h1],fun m hm => ?_⟩
   cases m with
   | zero => exact ⟨ty,f,rfl,rfl⟩
   | succ m =>
    obtain ⟨t,o,q1,q2⟩:=h2 m (by simpa using hm);rw [show c + (m + 1) = c + 1 + m by omega];exact ⟨t,o,by simpa using q1,by simpa using q2⟩
theorem e_X {j s : Nat} {c : TypeId} {n : Nat} {fl : List Bool} {k : Arg → Nat → Shape → List (Key × Path) → R} {motive : a_o → Prop} (hbad : motive .bad)
  (hok : ∀ as sh ks,as.length = n → (∀ (m : Nat) a,as[m]? = some a → ∃ c',(∃ y,a = .t c' y ∧ σ.get (cell s m) = some (top (.t c' y))) ∨ ∃ xs t,a = .own c' 0 xs ∧ σ.get (cell s m) = some (top (.own c' t xs))) →
   sh.length = n → ks.length = n → (∀ m,m < n → ∃ ty o,sh[m]? = some (cell j m,ty,o) ∧ ks[m]? = some (cell s m,[])) → motive ((k (.box c n as) n sh ks).run σ)) : motive ((m_K C j s c n fl k).run σ):=by
 unfold m_K;refine j_w s n 0 hbad fun as hl has => ?_
 simp only [Nat.zero_add] at has;split
 ·rename_i c' tc hc
  obtain ⟨h1,h2⟩:=m_J j s (tc.lv c) fl 0;simp only [Nat.zero_add] at h2
  generalize d_d j s 0 (tc.lv c) fl = q at h1 h2
  obtain ⟨sh,ks⟩:=q;simp only at h1 h2 ⊢;split
  ·rename_i hn
   have hn:=Nat.eq_of_beq_eq_true hn;exact hok as sh ks hl has hn (by omega) (fun m hm => h2 m (by omega))
  ·exact hbad
 ·exact hbad
theorem p_6 {tab : Tab} {O : Nat → Prop} {c : TypeId} {v : Value} {y : T} (hv : V tab w O c v y) : f_F tab w O γ [] c v y :=
 fun O' hO _ => hv.mono fun b _ hb => ⟨rfl,fun q => hb (hO b q)⟩
theorem i_I (hG : Good P C.tab) (h : Rel C.tab fr tm w σ γ) {t n : Nat} {motive : a_o → Prop} (hbad : motive .bad) : ∀ (tys : List TypeId) (q : Nat) (k : List T → List Key → R) (_ : q + tys.length ≤ 1000) (_ : ∀ ty ∈ tys,∃ tt,C.tab.at ty = some (ty,tt) ∧ tt.isS = false)
  (_ : ∀ xs ks,xs.length = tys.length → (∀ O' : Nat → Prop,(∀ b,O' b → Ob fr γ b) → Free γ (ks.map fun k => (k,top .u)) O' → ∀ (j : Nat) y ty,xs[j]? = some y → tys[j]? = some ty → ∃ vs u,tm[t]? = some (.agg vs) ∧ vs.size = n ∧ vs[q + j]? = some u ∧ L C.tab w O' ty u y) → motive ((k xs ks).run σ)),motive ((g_l t n q tys k).run σ):=by
 intro tys
 induction tys with
 | nil => exact fun q k _ _ hok => hok [] [] rfl fun _ _ _ j y ty hy => by simp at hy
 | cons ty tys ih =>
  intro q k hq hty hok;simp only [List.length_cons] at hq;obtain ⟨tt,hat,hS⟩:=hty ty (by simp);simp only [g_l,Rd.run];split
  ·rename_i c y he
   split
   ·rename_i hcc
    have hcc:=Nat.eq_of_beq_eq_true hcc;subst hcc;obtain ⟨u,hu,hr,-⟩:=h.ent _ _ he;have hV : V C.tab w (Ob fr γ) c u y:=hr trivial;obtain ⟨vs,v1,v2,v3⟩:=h_O (by omega) hu;refine ih (q + 1) _ (by omega) (fun ty hm => hty ty (by simp [hm])) fun xs ks hl hP => hok _ ks (by simp [hl]) fun O' hO hF j y' ty' hy ht => ?_
    cases j with
    | zero =>
     simp only [List.getElem?_cons_zero,Option.some.injEq] at hy ht;subst hy;subst ht;exact ⟨vs,u,v1,v2,v3,(b_Q hat hS (hV.mono fun b _ hb => ⟨rfl,fun q => hb (hO b q)⟩)).1⟩
    | succ j =>
     simp only [List.getElem?_cons_succ] at hy ht
     have:=hP O' hO hF j y' ty' hy ht
     rwa [show q + 1 + j = q + (j + 1) by omega] at this
   ·exact hbad
  ·rename_i h0 tag c off len he
   split
   ·rename_i hcc
    have hcc:=Nat.eq_of_beq_eq_true hcc;subst hcc;obtain ⟨u,hu,hr,-⟩:=h.ent _ _ he;have hav : AVR C.tab w (Ob fr γ) σ (s_ tm w γ) γ (fld t n q) u (.alias h0 tag c off len):=hr trivial;obtain ⟨vs,v1,v2,v3⟩:=h_O (by omega) hu;refine N_ h0 tag hbad fun c' ys hh => ?_
    obtain ⟨rfl,hSl,hv0,hval,hown,hsub'⟩:=a_y h hav hh;refine ih (q + 1) _ (by omega) (fun ty hm => hty ty (by simp [hm])) fun xs ks hl hP => hok _ (h0 :: ks) (by simp [hl]) fun O' hO hF j y' ty' hy ht => ?_
    cases j with
    | zero =>
     simp only [List.getElem?_cons_zero,Option.some.injEq] at hy ht;subst hy;subst ht;have hV : V C.tab w O' c' u (.l ((ys.drop off).take len)):=by
      refine hSl.V hG hO fun a n cap hv hpos => ?_
      have hlen : 0 < len:=by
       simp only [List.length_take,List.length_drop] at hpos;omega
      obtain ⟨ti,e1,ce,te,b,cap1,cap2,q1,q2,q3,q4,q5,q6,q7,q8⟩:=Sub.pos hown hsub' hlen;rw [q6] at hv;simp only [Value.slice.injEq,Option.some.injEq] at hv;rw [← hv.1];exact hF h0 (top .u) b (by simp) q4
     exact ⟨vs,u,v1,v2,v3,(b_Q hat hS hV).1⟩
    | succ j =>
     simp only [List.getElem?_cons_succ] at hy ht
     have:=hP O' hO (fun k e b hm => hF k e b (List.mem_cons_of_mem _ hm)) j y' ty' hy ht
     rwa [show q + 1 + j = q + (j + 1) by omega] at this
   ·exact hbad
  ·exact hbad
theorem c_v (hG : Good P C.tab) (h : Rel C.tab fr tm w σ γ) {p : Path} (hp : σ.Holds p) (m : Mode) (keep : Bool) : ∀ (args : List (Operand × TypeId)) (j : Nat) {k : Acc → R} {motive : a_o → Prop} (_ : motive .bad)
  (_ : ∀ acc mp,ArgsP C tm w (Ob fr γ) σ γ j args acc mp → (keep = false → acc.ln = []) → (m.boxes = [] → acc.sh = []) → motive ((k acc).run σ)),motive ((c_m C m p keep j args k).run σ):=by
 intro args
 induction args with
 | nil => intro j k motive hbad hok;exact hok _ _ (.nil j) (fun _ => rfl) (fun _ => rfl)
 | cons a r ih =>
  intro j k motive hbad hok;obtain ⟨x,ty⟩:=a;simp only [c_m];refine X_ hG h p hp x ty hbad fun ko a hx => ?_
  split
  ·rename_i fl hfl
   cases p with
   | cons => exact hbad
   | nil =>
    cases hx with
    | const => exact hbad
    | nil => exact hbad
    | tmp s e hx he hsub hav =>
     cases hav' : e.av with
     | box c tag n =>
      rw [hav'] at hav;obtain ⟨b,cs,ety,hb,hvv,-⟩:=hav
      cases hpath : e.path with
      | cons => exact hbad
      | nil =>
       have hent : σ.get (a_ s) = some ⟨[],.box c tag n⟩:=by rw [he,← hpath,← hav']
       refine e_X hbad fun as sh ks h1 h2 h3 h4 h5 => ?_
       exact ih (j + 1) hbad fun acc mp hA hl hnb => hok _ _ (.box j x ty r acc mp s c n tag b as sh ks hent hb hvv h1 h2 h3 h4 h5 hA) hl (fun h0 => by rw [h0] at hfl;cases hfl)
     | ptr s' tag c0 =>
      rw [hav'] at hav
      cases c0 with
      | succ => exact hbad
      | zero =>
       refine b_v s' tag hbad fun c n hbx => ?_
       obtain ⟨b,hb,hvv⟩:=hav c n hbx;refine e_X hbad fun as sh ks h1 h2 h3 h4 h5 => ?_
       exact ih (j + 1) hbad fun acc mp hA hl hnb => hok _ _ (.box j x ty r acc mp s' c n tag b as sh ks hbx hb hvv h1 h2 h3 h4 h5 hA) hl (fun h0 => by rw [h0] at hfl;cases hfl)
     | _ => exact hbad
  ·split
   ·cases p with
    | cons => exact hbad
    | nil =>
     cases hx with
     | const => exact hbad
     | nil c e ti _ hx ht hc hk =>
      exact ih (j + 1) hbad fun acc mp hA hl hnb => hok _ _ (.ownNil j x ty r acc mp c [] (d_k hG hx hc hk rfl) hA) hl hnb
     | tmp s e hx he hsub hav =>
      cases hav' : e.av with
      | own c tag xs =>
       rw [hav'] at hav
       cases hpath : e.path with
       | cons => exact hbad
       | nil =>
        have hent : b_S σ (a_ s):=⟨c,tag,xs,by rw [he,← hpath,← hav']⟩;exact ih (j + 1) hbad fun acc mp hA hl hnb => hok _ _ (.own j x ty r acc mp c xs (a_ s) hent hav hA) hl hnb
      | alias h0 tag c off len =>
       rw [hav'] at hav;simp only;split
       ·rename_i hoff
        have hoff:=Nat.eq_of_beq_eq_true hoff;subst hoff;refine N_ h0 tag hbad fun c2 xs hh => ?_
        obtain ⟨rfl,-,hv0,hval,hown,hsub'⟩:=a_y h hav hh;exact ih (j + 1) hbad fun acc mp hA hl hnb => hok _ _ (.own j x ty r acc mp c2 _ h0 ⟨_,_,_,hh⟩ (k_7 hown hsub') hA) hl hnb
       ·exact hbad
      | _ => exact hbad
   ·cases hx with
    | const c y _ hV => exact ih (j + 1) hbad fun acc mp hA hl hnb => hok _ _ (.t j x ty r acc mp c y (p_6 hV) hA) hl hnb
    | nil c e ti _ hx ht hc hk =>
     exact ih (j + 1) hbad fun acc mp hA hl hnb => hok _ _ (.t j x ty r acc mp c (.l []) (fun O' hO _ => (d_k hG (O:=Ob fr γ) (g:=none) hx hc hk rfl).freeze hG hO fun b hb => by cases hb) hA) hl hnb
    | tmp s e hx he hsub hav =>
     cases hav' : e.av with
     | t c y =>
      rw [hav'] at hav;exact ih (j + 1) hbad fun acc mp hA hl hnb => hok _ _ (.t j x ty r acc mp c y (p_6 hav) hA) hl hnb
     | own c tag xs =>
      rw [hav'] at hav
      cases hpath : e.path with
      | cons => exact hbad
      | nil =>
       have hent : σ.get (a_ s) = some ⟨[],.own c tag xs⟩:=by rw [he,← hpath,← hav']
       cases keep with
       | true => exact ih (j + 1) hbad fun acc mp hA hl hnb => hok _ _ (.lend j x ty r acc mp c (.l xs) (a_ s) (fun O' hO hF => Own.freeze hG hav hO fun b hb => hF _ _ b (List.mem_singleton.2 rfl) hb) hA) (fun h0 => by cases h0) hnb
       | false => exact ih (j + 1) hbad fun acc mp hA hl hnb => hok _ _ (.frz j x ty r acc mp c (.l xs) (a_ s) _ (Frz.one hent) (fun O' hO hF => Own.freeze hG hav hO fun b hb => hF _ _ b (List.mem_singleton.2 rfl) hb) hA) hl hnb
     | alias h0 tag c off len =>
      rw [hav'] at hav;refine N_ h0 tag hbad fun c' xs hh => ?_
      obtain ⟨rfl,hS,hv0,hval,hown,hsub'⟩:=a_y h hav hh;have fv : ∀ e,f_F C.tab w (Ob fr γ) γ [(h0,e)] c' (ev tm x) (.l ((xs.drop off).take len)):=by
       intro e' O' hO hF;refine hS.V hG hO fun a n cap hv hpos => ?_
       have hlen : 0 < len:=by
        simp only [List.length_take,List.length_drop] at hpos;omega
       obtain ⟨ti,e1,ce,te,b,cap1,cap2,q1,q2,q3,q4,q5,q6,q7,q8⟩:=Sub.pos hown hsub' hlen;rw [q6] at hv;simp only [Value.slice.injEq,Option.some.injEq] at hv;rw [← hv.1];exact hF _ _ b (List.mem_singleton.2 rfl) q4
      cases keep with
      | true => exact ih (j + 1) hbad fun acc mp hA hl hnb => hok _ _ (.lend j x ty r acc mp c' _ h0 (fv _) hA) (fun h0 => by cases h0) hnb
      | false => exact ih (j + 1) hbad fun acc mp hA hl hnb => hok _ _ (.frz j x ty r acc mp c' _ h0 _ (Frz.one hh) (fv _) hA) hl hnb
     | tup tag0 =>
      simp only;unfold t_6
      cases p with
      | cons => exact hbad
      | nil =>
       cases keep with
       | false => exact hbad
       | true =>
        cases hpath : e.path with
        | cons => exact hbad
        | nil =>
         cases hat : C.tab.at ty with
         | none => exact hbad
         | some cti =>
          obtain ⟨c,ti⟩:=cti;simp only;split
          ·rename_i hS h1000
           have h1000:=of_decide_eq_true h1000;have hself:=(hG _ _ _ hat).self;have hlen:=(hG _ _ _ hself).len;have hpos:=(hG _ _ _ hself).pos;rw [b_g hS] at hlen;refine i_I hG h hbad ti.leaves 0 _ (by omega) (fun ty hm => (hG _ _ _ hself).leaf ty (by rw [b_g hS];exact hm)) fun xs ks hl hP => ?_
           refine ih (j + 1) hbad fun acc mp hA hl2 hnb => hok _ _ (.lends j x ty r acc mp c (.g xs) ks (fun O' hO hF => ?_) hA) (fun h0 => by cases h0) hnb
           have hP' := hP O' hO hF;obtain ⟨y0,hy0⟩ : ∃ y,xs[0]? = some y:=⟨_,List.getElem?_eq_getElem (by omega)⟩;obtain ⟨t0,ht0⟩ : ∃ y,ti.leaves[0]? = some y:=⟨_,List.getElem?_eq_getElem (by omega)⟩;obtain ⟨vs,u,v1,v2,-⟩:=hP' 0 y0 t0 hy0 ht0;have hev : ev tm x = .agg vs:=by
            rw [hx];simp only [a_] at v1;simp only [ev,Act.eval,Array.getD_eq_getD_getElem?,v1,Option.getD_some]
           refine ⟨ti,hself,by rw [hS];rfl,by rw [hev,hS];rfl,by rw [hev];exact v2,by simp [T.leaves];omega,fun j y t hy ht => ?_⟩;rw [b_g hS] at ht;obtain ⟨vs',u',w1,w2,w3,w4⟩:=hP' j y t hy ht;rw [v1] at w1;simp only [Option.some.injEq,Value.agg.injEq] at w1;subst w1;rw [Nat.zero_add] at w3;exact ⟨u',by rw [hev];exact w3,w4⟩
          ·exact hbad
     | pl c y off =>
      rw [hav'] at hav
      cases off with
      | succ => exact hbad
      | zero =>
       obtain ⟨a,h1,h2⟩:=hav;have ha : a.add 0 = a:=by simp [Addr.add]
       rw [ha] at h1;exact ih (j + 1) hbad fun acc mp hA hl hnb => hok _ _ (.pl j x ty r acc mp c y ⟨a,h1,h2⟩ hA) hl hnb
     | _ => exact hbad
end
section
variable {P : Program} {C : Ctx} {fr : Fr} {tm : Array Value} {w w' : World} {σ : St} {γ : Key → Option Nat} {D : Nat → Prop} {O : Nat → Prop}
 {j : Nat} {args : List (Operand × TypeId)} {acc : Acc} {mp : KMap}
theorem ArgsP.keys (h : ArgsP C tm w O σ γ j args acc mp) : ∀ k x,(k,x) ∈ mp → j ≤ k.a ∧ k.a < j + args.length ∧ k.tag ≤ 1:=by
 induction h with
 | nil j => intro k x hm;simp at hm
 | t j x ty r acc mp c y hV hr ih => intro k x hm;obtain ⟨q1,q2,q3⟩:=ih k x hm;simp only [List.length_cons];exact ⟨by omega,by omega,q3⟩
 | pl j x ty r acc mp c y hV hr ih => intro k x hm;obtain ⟨q1,q2,q3⟩:=ih k x hm;simp only [List.length_cons];exact ⟨by omega,by omega,q3⟩
 | frz j x ty r acc mp c y k0 e hf hV hr ih => intro k x hm;obtain ⟨q1,q2,q3⟩:=ih k x hm;simp only [List.length_cons];exact ⟨by omega,by omega,q3⟩
 | lend j x ty r acc mp c y k0 hV hr ih => intro k x hm;obtain ⟨q1,q2,q3⟩:=ih k x hm;simp only [List.length_cons];exact ⟨by omega,by omega,q3⟩
 | lends j x ty r acc mp c y k0 hV hr ih => intro k x hm;obtain ⟨q1,q2,q3⟩:=ih k x hm;simp only [List.length_cons];exact ⟨by omega,by omega,q3⟩
 | ownNil j x ty r acc mp c xs hO hr ih => intro k x hm;obtain ⟨q1,q2,q3⟩:=ih k x hm;simp only [List.length_cons];exact ⟨by omega,by omega,q3⟩
 | own j x ty r acc mp c xs k0 hk hO hr ih =>
  intro k x hm;simp only [List.length_cons]
  rcases List.mem_cons.1 hm with q | q
  ·simp only [Prod.mk.injEq] at q
   rw [q.1];exact ⟨Nat.le_refl _,by simp [a_],by simp [a_]⟩
  ·obtain ⟨q1,q2,q3⟩:=ih k x q;exact ⟨by omega,by omega,q3⟩
 | box j x ty r acc mp s c n tag b as sh ks hs hb hv hl hc hsl hkl hsk hr ih =>
  intro k x hm;simp only [List.length_cons]
  rcases List.mem_cons.1 hm with q | q
  ·simp only [Prod.mk.injEq] at q
   rw [q.1];exact ⟨Nat.le_refl _,by simp [a_],by simp [a_]⟩
  ·rcases List.mem_append.1 q with q | q
   ·obtain ⟨m,-,-,rfl,-⟩:=b_r.1 q
    exact ⟨Nat.le_refl _,by simp [cell],by simp [cell]⟩
   ·obtain ⟨q1,q2,q3⟩:=ih k x q;exact ⟨by omega,by omega,q3⟩
theorem ArgsP.perm (h : ArgsP C tm w O σ γ j args acc mp) : (mp.map (·.2)).Perm (acc.tk ++ a_k acc.bx):=by
 induction h with
 | nil j => exact List.Perm.refl _
 | t j x ty r acc mp c y hV hr ih => exact ih
 | pl j x ty r acc mp c y hV hr ih => exact ih
 | frz j x ty r acc mp c y k0 e hf hV hr ih => exact ih
 | lend j x ty r acc mp c y k0 hV hr ih => exact ih
 | lends j x ty r acc mp c y k0 hV hr ih => exact ih
 | ownNil j x ty r acc mp c xs hO hr ih => exact ih
 | own j x ty r acc mp c xs k0 hk hO hr ih => exact ih.cons k0
 | box j x ty r acc mp s c n tag b as sh ks hs hb hv hl hc hsl hkl hsk hr ih =>
  simp only [List.map_cons,List.map_append,l_z,Acc.box,Acc.arg,a_k];have h1 : (a_ s :: (b_C s 0 n ++ mp.map (·.2))).Perm ((a_ s :: b_C s 0 n) ++ (acc.tk ++ a_k acc.bx)):=by
   rw [List.cons_append];exact (List.Perm.append_left _ ih).cons _
  refine h1.trans ?_
  have:=List.perm_append_comm_assoc (a_ s :: b_C s 0 n) acc.tk (a_k acc.bx)
  simpa using this
theorem ArgsP.there (h : ArgsP C tm w O σ γ j args acc mp) : ∀ k x,(k,x) ∈ mp → σ.get x ≠ none:=by
 induction h with
 | nil j => intro k x hm;simp at hm
 | t j x ty r acc mp c y hV hr ih => exact ih
 | pl j x ty r acc mp c y hV hr ih => exact ih
 | frz j x ty r acc mp c y k0 e hf hV hr ih => exact ih
 | lend j x ty r acc mp c y k0 hV hr ih => exact ih
 | lends j x ty r acc mp c y k0 hV hr ih => exact ih
 | ownNil j x ty r acc mp c xs hO hr ih => exact ih
 | own j x ty r acc mp c xs k0 hk hO hr ih =>
  intro k x hm
  rcases List.mem_cons.1 hm with q | q
  ·simp only [Prod.mk.injEq] at q
   obtain ⟨c',t',xs',hh⟩:=hk;rw [q.2,hh];simp
  ·exact ih k x q
 | box j x ty r acc mp s c n tag b as sh ks hs hb hv hl hc hsl hkl hsk hr ih =>
  intro k x hm
  rcases List.mem_cons.1 hm with q | q
  ·simp only [Prod.mk.injEq] at q
   rw [q.2,hs];simp
  ·rcases List.mem_append.1 q with q | q
   ·obtain ⟨m,-,hm',-,rfl⟩:=b_r.1 q
    obtain ⟨c',hh⟩:=hc m _ (List.getElem?_eq_getElem (show m < as.length by omega))
    rcases hh with ⟨y,-,hh⟩ | ⟨xs,t,-,hh⟩ <;> rw [hh] <;> simp
   ·exact ih k x q
theorem ArgsP.len (h : ArgsP C tm w O σ γ j args acc mp) : acc.args.length = args.length:=by
 induction h with
 | nil j => rfl
 | _ => simp_all [Acc.arg,Acc.frz,Acc.lend,Acc.lends,Acc.take,Acc.box]
theorem ArgsP.frzs (h : ArgsP C tm w O σ γ j args acc mp) : Frz σ acc.fz:=by
 induction h with
 | nil j => exact Frz.nil
 | t j x ty r acc mp c y hV hr ih => exact ih
 | pl j x ty r acc mp c y hV hr ih => exact ih
 | lend j x ty r acc mp c y k0 hV hr ih => exact ih
 | lends j x ty r acc mp c y k0 hV hr ih => exact ih
 | ownNil j x ty r acc mp c xs hO hr ih => exact ih
 | own j x ty r acc mp c xs k0 hk hO hr ih => exact ih
 | box j x ty r acc mp s c n tag b as sh ks hs hb hv hl hc hsl hkl hsk hr ih => exact ih
 | frz j x ty r acc mp c y k0 e hf hV hr ih =>
  intro k e' hm
  rcases List.mem_cons.1 hm with q | q
  ·exact hf k e' (by rw [q];simp)
  ·exact ih k e' q
theorem ArgsP.takes (h : ArgsP C tm w O σ γ j args acc mp) : ∀ k ∈ acc.tk,b_S σ k:=by
 induction h with
 | nil j => intro k hm;simp [Acc.nil] at hm
 | t j x ty r acc mp c y hV hr ih => exact ih
 | pl j x ty r acc mp c y hV hr ih => exact ih
 | frz j x ty r acc mp c y k0 e hf hV hr ih => exact ih
 | lend j x ty r acc mp c y k0 hV hr ih => exact ih
 | lends j x ty r acc mp c y k0 hV hr ih => exact ih
 | ownNil j x ty r acc mp c xs hO hr ih => exact ih
 | box j x ty r acc mp s c n tag b as sh ks hs hb hv hl hc hsl hkl hsk hr ih => exact ih
 | own j x ty r acc mp c xs k0 hk hO hr ih =>
  intro k hm
  rcases List.mem_cons.1 hm with q | q
  ·rw [q];exact hk
  ·exact ih k q
theorem ArgsP.boxes (h : ArgsP C tm w O σ γ j args acc mp) : ∀ j' s n,(j',s,n) ∈ acc.bx → j ≤ j' ∧ ∃ c tag b x ty,σ.get (a_ s) = some ⟨[],.box c tag n⟩ ∧ γ (a_ s) = some b ∧ args[j' - j]? = some (x,ty) ∧ ev tm x = .pointer (some ⟨b,0,none⟩) ∧
  (b_s j acc.args).get (a_ j') = some (top (.box c 0 n)) ∧ mp.find (a_ j') = some (a_ s) ∧ (∀ m,m < n → mp.find (cell j' m) = some (cell s m)) ∧
  ∀ m,m < n → ∃ (i : Nat) (ty : TypeId) (o : Bool),acc.sh[i]? = some (cell j' m,ty,o) ∧ acc.ks[i]? = some (cell s m,[]):=by
 have boxSt_low : ∀ (l : List Arg) (j : Nat) (k : Key),k.a < j → (b_s j l).get k = none:=by
  intro l
  induction l with
  | nil => intro j k _;rfl
  | cons a l ih =>
   intro j k hk
   cases a with
   | box c n as =>
    simp only [b_s,St.get];rw [Key.a_N (by intro e;rw [← e] at hk;simp [a_] at hk)];exact ih (j + 1) k (by omega)
   | _ => exact ih (j + 1) k (by omega)
 induction h with
 | nil j => intro j' s n hm;simp [Acc.nil] at hm
 | box j x ty r acc mp s c n tag b as sh ks hs hb hv hl hc hsl hkl hsk hr ih =>
  intro j' s' n' hm;simp only [Acc.box,Acc.arg,List.mem_cons,Prod.mk.injEq] at hm
  rcases hm with ⟨rfl,rfl,rfl⟩ | hm
  ·refine ⟨Nat.le_refl _,c,tag,b,x,ty,hs,hb,by simp,hv,?_,?_,fun m hm => ?_,fun m hm => ?_⟩
   ·simp [Acc.box,Acc.arg,b_s,St.get,Key.a_u]
   ·simp [KMap.find,Key.a_u]
   ·simp only [KMap.find]
    rw [Key.a_N f_,KMap.a_8,d_X (Nat.zero_le _) (by omega)]
   ·obtain ⟨ty',o,q1,q2⟩:=hsk m hm
    refine ⟨m,ty',o,?_,?_⟩
    ·simp only [Acc.box,Acc.arg];rw [List.getElem?_append_left (by omega)];exact q1
    ·simp only [Acc.box,Acc.arg];rw [List.getElem?_append_left (by omega)];exact q2
  ·obtain ⟨q0,c',tag',b',x',ty',q1,q2,q3,q4,q5,q6,q7,q8⟩:=ih j' s' n' hm
   have hne : j ≠ j' := by omega
   refine ⟨by omega,c',tag',b',x',ty',q1,q2,?_,q4,?_,?_,fun m hm => ?_,fun m hm => ?_⟩
   ·rw [show j' - j = (j' - (j + 1)) + 1 by omega,List.getElem?_cons_succ];exact q3
   ·simp only [Acc.box,Acc.arg,b_s,St.get]
    rw [Key.a_N (fun e => hne (J_.1 e))];exact q5
   ·simp only [KMap.find]
    rw [Key.a_N (fun e => hne (J_.1 e)),KMap.a_8,KMap.d_g (fun x hx => by obtain ⟨m,-,-,hh,-⟩:=b_r.1 hx;exact f_ hh)];exact q6
   ·simp only [KMap.find]
    rw [Key.a_N f_,KMap.a_8,KMap.d_g (fun x hx => by obtain ⟨m',-,-,hh,-⟩:=b_r.1 hx;exact hne (c_f.1 hh).1.symm)];exact q7 m hm
   ·obtain ⟨i,t,o,r1,r2⟩:=q8 m hm
    refine ⟨n + i,t,o,?_,?_⟩
    ·simp only [Acc.box,Acc.arg];rw [List.getElem?_append_right (by omega),show n + i - sh.length = i by omega];exact r1
    ·simp only [Acc.box,Acc.arg];rw [List.getElem?_append_right (by omega),show n + i - ks.length = i by omega];exact r2
 | own j x ty r acc mp c xs k0 hk hO hr ih =>
  intro j' s' n' hm;obtain ⟨q0,c',tag',b',x',ty',q1,q2,q3,q4,q5,q6,q7,q8⟩:=ih j' s' n' hm;have hne : j ≠ j' := by omega
  refine ⟨by omega,c',tag',b',x',ty',q1,q2,?_,q4,q5,?_,fun m hm => ?_,q8⟩
  ·rw [show j' - j = (j' - (j + 1)) + 1 by omega,List.getElem?_cons_succ];exact q3
  ·simp only [KMap.find]
   rw [Key.a_N (fun e => hne (J_.1 e))];exact q6
  ·simp only [KMap.find]
   rw [Key.a_N f_];exact q7 m hm
 | t j x ty r acc mp c y hV hr ih =>
  intro j' s' n' hm;obtain ⟨q0,c',tag',b',x',ty',q1,q2,q3,q4,q5,q6,q7,q8⟩:=ih j' s' n' hm;exact ⟨by omega,c',tag',b',x',ty',q1,q2,by rw [show j' - j = (j' - (j + 1)) + 1 by omega,List.getElem?_cons_succ];exact q3,q4,q5,q6,q7,q8⟩
 | pl j x ty r acc mp c y hV hr ih =>
  intro j' s' n' hm;obtain ⟨q0,c',tag',b',x',ty',q1,q2,q3,q4,q5,q6,q7,q8⟩:=ih j' s' n' hm;exact ⟨by omega,c',tag',b',x',ty',q1,q2,by rw [show j' - j = (j' - (j + 1)) + 1 by omega,List.getElem?_cons_succ];exact q3,q4,q5,q6,q7,q8⟩
 | frz j x ty r acc mp c y k0 e hf hV hr ih =>
  intro j' s' n' hm;obtain ⟨q0,c',tag',b',x',ty',q1,q2,q3,q4,q5,q6,q7,q8⟩:=ih j' s' n' hm;exact ⟨by omega,c',tag',b',x',ty',q1,q2,by rw [show j' - j = (j' - (j + 1)) + 1 by omega,List.getElem?_cons_succ];exact q3,q4,q5,q6,q7,q8⟩
 | lend j x ty r acc mp c y k0 hV hr ih =>
  intro j' s' n' hm;obtain ⟨q0,c',tag',b',x',ty',q1,q2,q3,q4,q5,q6,q7,q8⟩:=ih j' s' n' hm;exact ⟨by omega,c',tag',b',x',ty',q1,q2,by rw [show j' - j = (j' - (j + 1)) + 1 by omega,List.getElem?_cons_succ];exact q3,q4,q5,q6,q7,q8⟩
 | lends j x ty r acc mp c y k0 hV hr ih =>
  intro j' s' n' hm;obtain ⟨q0,c',tag',b',x',ty',q1,q2,q3,q4,q5,q6,q7,q8⟩:=ih j' s' n' hm;exact ⟨by omega,c',tag',b',x',ty',q1,q2,by rw [show j' - j = (j' - (j + 1)) + 1 by omega,List.getElem?_cons_succ];exact q3,q4,q5,q6,q7,q8⟩
 | ownNil j x ty r acc mp c xs hO hr ih =>
  intro j' s' n' hm;obtain ⟨q0,c',tag',b',x',ty',q1,q2,q3,q4,q5,q6,q7,q8⟩:=ih j' s' n' hm;exact ⟨by omega,c',tag',b',x',ty',q1,q2,by rw [show j' - j = (j' - (j + 1)) + 1 by omega,List.getElem?_cons_succ];exact q3,q4,q5,q6,q7,q8⟩
theorem ArgsP.backs (h : ArgsP C tm w O σ γ j args acc mp) : acc.sh.length = acc.ks.length ∧ ∀ (i : Nat) k ty o,acc.sh[i]? = some (k,ty,o) → ∃ j' s n m,(j',s,n) ∈ acc.bx ∧ m < n ∧ k = cell j' m ∧ acc.ks[i]? = some (cell s m,[]):=by
 induction h with
 | nil j => exact ⟨rfl,fun i k ty o hi => by simp [Acc.nil] at hi⟩
 | t j x ty r acc mp c y hV hr ih => exact ih
 | pl j x ty r acc mp c y hV hr ih => exact ih
 | frz j x ty r acc mp c y k0 e hf hV hr ih => exact ih
 | lend j x ty r acc mp c y k0 hV hr ih => exact ih
 | lends j x ty r acc mp c y k0 hV hr ih => exact ih
 | ownNil j x ty r acc mp c xs hO hr ih => exact ih
 | own j x ty r acc mp c xs k0 hk hO hr ih => exact ih
 | box j x ty r acc mp s c n tag b as sh ks hs hb hv hl hc hsl hkl hsk hr ih =>
  obtain ⟨h1,h2⟩:=ih;refine ⟨by simp only [Acc.box,Acc.arg,List.length_append];omega,fun i k t o hi => ?_⟩;simp only [Acc.box,Acc.arg] at hi ⊢
  by_cases hin : i < n
  ·rw [List.getElem?_append_left (by omega)] at hi
   obtain ⟨ty',o',q1,q2⟩:=hsk i hin;rw [q1] at hi;simp only [Option.some.injEq,Prod.mk.injEq] at hi;exact ⟨j,s,n,i,by simp,hin,hi.1.symm,by rw [List.getElem?_append_left (by omega)];exact q2⟩
  ·rw [List.getElem?_append_right (by omega)] at hi
   obtain ⟨j',s',n',m,q1,q2,q3,q4⟩:=h2 (i - sh.length) k t o hi;exact ⟨j',s',n',m,by simp [q1],q2,q3,by rw [List.getElem?_append_right (by omega),hkl,← hsl];exact q4⟩
end
section
variable {P : Program} {C : Ctx} {fr : Fr} {tm : Array Value} {w w' : World} {σ : St} {γ : Key → Option Nat} {D : Nat → Prop}
 {j : Nat} {args : List (Operand × TypeId)} {acc : Acc} {mp : KMap}
theorem a_n (a b : St) (k : Key) : St.get (a ++ b) k = match a.get k with | some e => some e | none => b.get k:=by
 induction a with
 | nil => rfl
 | cons x r ih =>
  obtain ⟨k',e'⟩:=x;simp only [List.cons_append,St.get]
  cases k'.eq k with
  | true => rfl
  | false => exact ih
theorem d_2 (s : Nat) : ∀ (as : List AV) (c : Nat) (k : Key) (e : Ent),(a_j s c as).get k = some e → ∃ m a,as[m]? = some a ∧ k = cell s (c + m) ∧ e = top a:=by
 intro as
 induction as with
 | nil => intro c k e he;cases he
 | cons a as ih =>
  intro c k e he;simp only [a_j,St.get] at he;split at he
  ·rename_i hk
   have:=Key.a_b.1 hk
   subst this;simp only [Option.some.injEq] at he;exact ⟨0,a,rfl,rfl,he.symm⟩
  ·obtain ⟨m,a',q1,q2,q3⟩:=ih (c + 1) k e he
   exact ⟨m + 1,a',by simpa using q1,by rw [q2,show c + 1 + m = c + (m + 1) by omega],q3⟩
def lnE (l : List Key) : List (Key × Ent):=l.map fun k => (k,top .u)
theorem ArgsP.start (hG : Good P C.tab) (h : Rel C.tab fr tm w σ γ) (hA : ArgsP C tm w (Ob fr γ) σ γ j args acc mp) {Oc : Nat → Prop} (hO : ∀ b,Oc b → Ob fr γ b) {vals : Array Value} {γc : Key → Option Nat} :
  Free γ acc.fz Oc → Free γ (lnE acc.ln) Oc → (∀ k,j ≤ k.a → γc k = (mp.find k).bind γ) → (∀ (i : Nat) x ty,args[i]? = some (x,ty) → vals[j + i]? = some (ev tm x)) →
  ∀ k e,(a_T j acc.args).get k = some e → e.path = [] ∧ j ≤ k.a ∧ ((k.tag = 0 ∧ k.b = 0) ∨ (k.tag = 1 ∧ ∃ c n,(a_T j acc.args).get (a_ k.a) = some (top (.box c 0 n)))) ∧
   ∃ v,s_ vals w γc k = some v ∧ ∀ σc val,AVR C.tab w Oc σc val γc k v e.av:=by
 have hst : Stays w w (Ob fr γ) Oc:=fun b _ hb => ⟨rfl,fun q => hb (hO b q)⟩
 induction hA with
 | nil j => intro _ _ _ _ k e he;cases he
 | t j x ty r acc mp c y hV hr ih =>
  intro hfz hln hγ hvals k e he;have tl:=ih hfz hln (fun k hk => hγ k (by omega)) (fun i x' t' hx => by have:=hvals (i + 1) x' t' (by simpa using hx);rw [show j + 1 + i = j + (i + 1) by omega];exact this);simp only [Acc.arg,a_T,St.get] at he ⊢;split at he
  ·rename_i hk
   have:=Key.a_b.1 hk
   subst this;simp only [Option.some.injEq] at he;subst he;have h0:=hvals 0 x ty rfl;exact ⟨rfl,Nat.le_refl _,.inl ⟨rfl,rfl⟩,ev tm x,by rw [i_];exact h0,fun σc val => hV Oc hO (fun k e b hm => by simp at hm)⟩
  ·obtain ⟨q1,q2,q3,q4⟩:=tl k e he
   refine ⟨q1,by omega,q3.imp id fun ⟨ht,c',n',hh⟩ => ⟨ht,c',n',?_⟩,q4⟩;rw [Key.a_N (fun e => by have:=J_.1 e;omega)];exact hh
 | pl j x ty r acc mp c y hV hr ih =>
  intro hfz hln hγ hvals k e he;have tl:=ih hfz hln (fun k hk => hγ k (by omega)) (fun i x' t' hx => by have:=hvals (i + 1) x' t' (by simpa using hx);rw [show j + 1 + i = j + (i + 1) by omega];exact this);simp only [Acc.arg,a_T,St.get] at he ⊢;split at he
  ·rename_i hk
   have:=Key.a_b.1 hk
   subst this;simp only [Option.some.injEq] at he;subst he;have h0:=hvals 0 x ty rfl;exact ⟨rfl,Nat.le_refl _,.inl ⟨rfl,rfl⟩,ev tm x,by rw [i_];exact h0,fun σc val => by
    obtain ⟨a,h1,h2⟩:=hV;exact ⟨a,by rw [h1];simp [Addr.add],h2.mono hst hG.lv⟩⟩
  ·obtain ⟨q1,q2,q3,q4⟩:=tl k e he
   refine ⟨q1,by omega,q3.imp id fun ⟨ht,c',n',hh⟩ => ⟨ht,c',n',?_⟩,q4⟩;rw [Key.a_N (fun e => by have:=J_.1 e;omega)];exact hh
 | frz j x ty r acc mp c y k0 e0 hf hV hr ih =>
  intro hfz hln hγ hvals k e he;have tl:=ih (fun k e b hm => hfz k e b (List.mem_cons_of_mem _ hm)) hln (fun k hk => hγ k (by omega)) (fun i x' t' hx => by have:=hvals (i + 1) x' t' (by simpa using hx);rw [show j + 1 + i = j + (i + 1) by omega];exact this);simp only [Acc.arg,Acc.frz,a_T,St.get] at he ⊢;split at he
  ·rename_i hk
   have:=Key.a_b.1 hk
   subst this;simp only [Option.some.injEq] at he;subst he;have h0:=hvals 0 x ty rfl;exact ⟨rfl,Nat.le_refl _,.inl ⟨rfl,rfl⟩,ev tm x,by rw [i_];exact h0,fun σc val => hV Oc hO (fun k e b hm => hfz k e b (by
    simp only [List.mem_singleton] at hm;rw [hm];exact List.mem_cons_self))⟩
  ·obtain ⟨q1,q2,q3,q4⟩:=tl k e he
   refine ⟨q1,by omega,q3.imp id fun ⟨ht,c',n',hh⟩ => ⟨ht,c',n',?_⟩,q4⟩;rw [Key.a_N (fun e => by have:=J_.1 e;omega)];exact hh
 | lend j x ty r acc mp c y k0 hV hr ih =>
  intro hfz hln hγ hvals k e he;have tl:=ih hfz (fun k e b hm => hln k e b (by simp only [lnE,Acc.lend,Acc.arg,List.map_cons] at hm ⊢;exact List.mem_cons_of_mem _ hm)) (fun k hk => hγ k (by omega)) (fun i x' t' hx => by have:=hvals (i + 1) x' t' (by simpa using hx);rw [show j + 1 + i = j + (i + 1) by omega];exact this);simp only [Acc.arg,Acc.lend,a_T,St.get] at he ⊢;split at he
  ·rename_i hk
   have:=Key.a_b.1 hk
   subst this;simp only [Option.some.injEq] at he;subst he;have h0:=hvals 0 x ty rfl;exact ⟨rfl,Nat.le_refl _,.inl ⟨rfl,rfl⟩,ev tm x,by rw [i_];exact h0,fun σc val => hV Oc hO (fun k e b hm => hln k e b (by
    simp only [List.mem_singleton] at hm;rw [hm];simp [lnE,Acc.lend,Acc.arg]))⟩
  ·obtain ⟨q1,q2,q3,q4⟩:=tl k e he
   refine ⟨q1,by omega,q3.imp id fun ⟨ht,c',n',hh⟩ => ⟨ht,c',n',?_⟩,q4⟩;rw [Key.a_N (fun e => by have:=J_.1 e;omega)];exact hh
 | lends j x ty r acc mp c y ks hV hr ih =>
  intro hfz hln hγ hvals k e he;have tl:=ih hfz (fun k e b hm => hln k e b (by simp only [lnE,Acc.lends,Acc.arg,List.map_append] at hm ⊢;exact List.mem_append.2 (.inr hm))) (fun k hk => hγ k (by omega)) (fun i x' t' hx => by have:=hvals (i + 1) x' t' (by simpa using hx);rw [show j + 1 + i = j + (i + 1) by omega];exact this);simp only [Acc.arg,Acc.lends,a_T,St.get] at he ⊢;split at he
  ·rename_i hk
   have:=Key.a_b.1 hk
   subst this;simp only [Option.some.injEq] at he;subst he;have h0:=hvals 0 x ty rfl;exact ⟨rfl,Nat.le_refl _,.inl ⟨rfl,rfl⟩,ev tm x,by rw [i_];exact h0,fun σc val => hV Oc hO (fun k e b hm => hln k e b (by
    simp only [lnE,Acc.lends,Acc.arg,List.map_append];exact List.mem_append.2 (.inl hm)))⟩
  ·obtain ⟨q1,q2,q3,q4⟩:=tl k e he
   refine ⟨q1,by omega,q3.imp id fun ⟨ht,c',n',hh⟩ => ⟨ht,c',n',?_⟩,q4⟩;rw [Key.a_N (fun e => by have:=J_.1 e;omega)];exact hh
 | ownNil j x ty r acc mp c xs hOw hr ih =>
  intro hfz hln hγ hvals k e he;have tl:=ih hfz hln (fun k hk => hγ k (by omega)) (fun i x' t' hx => by have:=hvals (i + 1) x' t' (by simpa using hx);rw [show j + 1 + i = j + (i + 1) by omega];exact this);simp only [Acc.arg,a_T,St.get] at he ⊢;split at he
  ·rename_i hk
   have:=Key.a_b.1 hk
   subst this;simp only [Option.some.injEq] at he;subst he;have h0:=hvals 0 x ty rfl;refine ⟨rfl,Nat.le_refl _,.inl ⟨rfl,rfl⟩,ev tm x,by rw [i_];exact h0,fun σc val => ?_⟩
   show Own C.tab w Oc c (ev tm x) (γc (a_ j)) xs
   rw [hγ (a_ j) (Nat.le_refl _),KMap.d_g fun x' hx' => by
    have:=(hr.keys _ _ hx').1
    simp only [a_] at this;omega]
   exact hOw.mono hst fun b hb => by cases hb
  ·obtain ⟨q1,q2,q3,q4⟩:=tl k e he
   refine ⟨q1,by omega,q3.imp id fun ⟨ht,c',n',hh⟩ => ⟨ht,c',n',?_⟩,q4⟩;rw [Key.a_N (fun e => by have:=J_.1 e;omega)];exact hh
 | own j x ty r acc mp c xs k0 hk0 hOw hr ih =>
  intro hfz hln hγ hvals k e he;have tl:=ih hfz hln (fun k hk => by
    rw [hγ k (by omega)];simp only [KMap.find];rw [Key.a_N (fun e => by rw [← e] at hk;simp [a_] at hk;omega)]) (fun i x' t' hx => by have:=hvals (i + 1) x' t' (by simpa using hx);rw [show j + 1 + i = j + (i + 1) by omega];exact this)
  simp only [Acc.arg,Acc.take,a_T,St.get] at he ⊢;split at he
  ·rename_i hk
   have:=Key.a_b.1 hk
   subst this;simp only [Option.some.injEq] at he;subst he;have h0:=hvals 0 x ty rfl;refine ⟨rfl,Nat.le_refl _,.inl ⟨rfl,rfl⟩,ev tm x,by rw [i_];exact h0,fun σc val => ?_⟩
   show Own C.tab w Oc c (ev tm x) (γc (a_ j)) xs
   rw [hγ (a_ j) (Nat.le_refl _)];simp only [KMap.find,Key.a_u,Option.bind_some];exact hOw.mono hst fun _ _ => rfl
  ·obtain ⟨q1,q2,q3,q4⟩:=tl k e he
   refine ⟨q1,by omega,q3.imp id fun ⟨ht,c',n',hh⟩ => ⟨ht,c',n',?_⟩,q4⟩;rw [Key.a_N (fun e => by have:=J_.1 e;omega)];exact hh
 | box j x ty r acc mp s c n tag b as sh ks hs hb hv hl hc hsl hkl hsk hr ih =>
  intro hfz hln hγ hvals k e he;have tl:=ih hfz hln (fun k hk => by
    rw [hγ k (by omega)];simp only [KMap.find];rw [Key.a_N (fun e => by rw [← e] at hk;simp [a_] at hk;omega),KMap.a_8,KMap.d_g fun x' hx' => by
     obtain ⟨m,-,-,hh,-⟩:=b_r.1 hx';rw [hh] at hk;simp [cell] at hk;omega]) (fun i x' t' hx => by have:=hvals (i + 1) x' t' (by simpa using hx);rw [show j + 1 + i = j + (i + 1) by omega];exact this)
  have hγj : γc (a_ j) = some b:=by
   rw [hγ (a_ j) (Nat.le_refl _)];simp only [KMap.find,Key.a_u,Option.bind_some];exact hb
  have hslot : (a_T j ((acc.arg (.box c n as)).box j s n sh ks).args).get (a_ j) = some (top (.box c 0 n)):=by
   simp only [Acc.arg,Acc.box,a_T,St.get,Key.a_u]
  simp only [Acc.arg,Acc.box,a_T,St.get] at he;split at he
  ·rename_i hk
   have:=Key.a_b.1 hk
   subst this;simp only [Option.some.injEq] at he;subst he;have h0:=hvals 0 x ty rfl;refine ⟨rfl,Nat.le_refl _,.inl ⟨rfl,rfl⟩,ev tm x,by rw [i_];exact h0,fun σc val => ?_⟩;obtain ⟨cs,ety,g1,g2⟩:=f_6 h hs hb;exact ⟨b,cs,ety,hγj,hv,g1,g2⟩
  ·rw [a_n] at he
   cases hcs : (a_j j 0 as).get k with
   | some e' =>
    rw [hcs] at he;simp only [Option.some.injEq] at he;subst he;obtain ⟨m,a,q1,q2,rfl⟩:=d_2 j as 0 k e' hcs;rw [Nat.zero_add] at q2;subst q2;obtain ⟨c',hh⟩:=hc m a q1;have hm : m < n:=by rw [← hl];exact (List.getElem?_eq_some_iff.1 q1).1
    have hsrc : ∃ e0,σ.get (cell s m) = some e0:=by
     rcases hh with ⟨y,-,hh⟩ | ⟨xs,t,-,hh⟩ <;> exact ⟨_,hh⟩
    have hval : ∀ v,s_ tm w γ (cell s m) = some v → s_ vals w γc (cell j m) = some v:=by
     intro v hv';simp only [s_,cell,hb,Option.bind_some] at hv';simp only [s_,cell,hγj,Option.bind_some];exact hv'
    refine ⟨rfl,Nat.le_refl _,.inr ⟨rfl,c,n,hslot⟩,?_⟩
    rcases hh with ⟨y,rfl,hh⟩ | ⟨xs,t,rfl,hh⟩
    ·obtain ⟨v,h1,h2,-⟩:=h.ent _ _ hh
     exact ⟨v,hval v h1,fun σc val => V.mono hst (h2 trivial)⟩
    ·obtain ⟨v,h1,h2,-⟩:=h.ent _ _ hh
     refine ⟨v,hval v h1,fun σc val => ?_⟩;have hO2 : Own C.tab w (Ob fr γ) c' v (γ (cell s m)) xs:=h2 trivial
     show Own C.tab w Oc c' v (γc (cell j m)) xs
     rw [hγ (cell j m) (Nat.le_refl _)];simp only [KMap.find];rw [Key.a_N f_,KMap.a_8,d_X (Nat.zero_le _) (by omega)];exact hO2.mono hst fun _ _ => rfl
   | none =>
    rw [hcs] at he;obtain ⟨q1,q2,q3,q4⟩:=tl k e he;refine ⟨q1,by omega,q3.imp id fun ⟨ht,c',n',hh⟩ => ⟨ht,c',n',?_⟩,q4⟩;simp only [Acc.arg,Acc.box,a_T,St.get];rw [Key.a_N (fun e => by have:=J_.1 e;omega),a_n]
    cases hcs2 : (a_j j 0 as).get (a_ k.a) with
    | some e2 =>
     obtain ⟨m,a,-,hh2,-⟩:=d_2 j as 0 _ _ hcs2;exact absurd hh2 f_
    | none => exact hh
end
section
variable {P : Program} {C : Ctx} {fr : Fr} {tm : Array Value} {w w' : World} {σ : St} {γ : Key → Option Nat} {D : Nat → Prop} {O : Nat → Prop}
 {j : Nat} {args : List (Operand × TypeId)} {acc : Acc} {mp : KMap}
theorem CallsF.mono {f : FuncId} {vals : Array Value} {R R' : Value → World → Prop} (h : CallsF P f vals w R) (hR : ∀ v w',R v w' → R' v w') : CallsF P f vals w R' := by
 unfold CallsF at h ⊢;split
 ·rename_i g as w1 he
  rw [he] at h;exact Calls.mono h fun e w2 ⟨v,hv,hr⟩ => ⟨v,hv,hR _ _ hr⟩
 ·rename_i v w1 he
  rw [he] at h;exact hR _ _ h
 ·rename_i h1 h2
  split at h
  ·rename_i g as w1 he;exact (h1 _ _ _ he).elim
  ·rename_i v w1 he;exact (h2 _ _ he).elim
  ·exact h
theorem ArgsP.find (h : ArgsP C tm w O σ γ j args acc mp) : ∀ k x,(k,x) ∈ mp → mp.find k = some x:=by
 induction h with
 | nil j => intro k x hm;simp at hm
 | t j x ty r acc mp c y hV hr ih => exact ih
 | pl j x ty r acc mp c y hV hr ih => exact ih
 | frz j x ty r acc mp c y k0 e hf hV hr ih => exact ih
 | lend j x ty r acc mp c y k0 hV hr ih => exact ih
 | lends j x ty r acc mp c y k0 hV hr ih => exact ih
 | ownNil j x ty r acc mp c xs hO hr ih => exact ih
 | own j x ty r acc mp c xs k0 hk hO hr ih =>
  intro k x hm;simp only [KMap.find]
  rcases List.mem_cons.1 hm with q | q
  ·simp only [Prod.mk.injEq] at q
   rw [q.1,q.2];simp [Key.a_u]
  ·rw [Key.a_N (fun e => by have:=(hr.keys _ _ q).1;rw [← e] at this;simp [a_] at this;omega)]
   exact ih k x q
 | box j x ty r acc mp s c n tag b as sh ks hs hb hv hl hc hsl hkl hsk hr ih =>
  intro k x hm;simp only [KMap.find]
  rcases List.mem_cons.1 hm with q | q
  ·simp only [Prod.mk.injEq] at q
   rw [q.1,q.2];simp [Key.a_u]
  ·rcases List.mem_append.1 q with q | q
   ·obtain ⟨m,h1,h2,rfl,rfl⟩:=b_r.1 q
    rw [Key.a_N f_,KMap.a_8,d_X h1 h2]
   ·have hk:=(hr.keys _ _ q).1
    rw [Key.a_N (fun e => by rw [← e] at hk;simp [a_] at hk;omega),KMap.a_8,KMap.d_g fun x' hx' => by
     obtain ⟨m,-,-,hh,-⟩:=b_r.1 hx';rw [hh] at hk;simp [cell] at hk;omega]
    exact ih k x q
theorem c_F {l : List Key} : d_l l = true ↔ l.Nodup:=by
 induction l with
 | nil => simp [d_l]
 | cons x r ih =>
  simp only [d_l,List.nodup_cons]
  cases h : memK r x with
  | true => simp [b_V.1 h]
  | false =>
   have : x ∉ r:=fun q => by rw [b_V.2 q] at h;cases h
   simp [this,ih]
theorem c_u {l m : List Key} : e_i l m = true ↔ ∀ k ∈ l,k ∉ m:=by
 induction l with
 | nil => simp [e_i]
 | cons x r ih =>
  simp only [e_i]
  cases h : memK m x with
  | true => simp [b_V.1 h]
  | false =>
   have : x ∉ m:=fun q => by rw [b_V.2 q] at h;cases h
   simp [this,ih]
theorem Acc.p_1 {sh : Shape} {ks : List (Key × Path)} (h : acc.ok sh ks = true) : (acc.tk ++ a_k acc.bx).Nodup ∧ (∀ k ∈ acc.tk ++ a_k acc.bx,k ∉ K_ acc.fz) ∧ (∀ k ∈ acc.tk ++ a_k acc.bx,k ∉ acc.ln) ∧
  (b_p sh).Nodup ∧ (a_q ks).Nodup ∧ sh.length = ks.length:=by
 unfold Acc.ok at h;split at h
 ·rename_i h1 h2 h3 h4 h5 h6
  exact ⟨c_F.1 h1,c_u.1 h2,c_u.1 h3,c_F.1 h4,c_F.1 h5,Nat.eq_of_beq_eq_true h6⟩
 ·cases h
theorem a_m {bx : List (Nat × Nat × Nat)} {k : Key} : k ∈ a_k bx ↔ ∃ j s n,(j,s,n) ∈ bx ∧ (k = a_ s ∨ ∃ m,m < n ∧ k = cell s m):=by
 have hc : ∀ (s n c : Nat) (k : Key),k ∈ b_C s c n ↔ ∃ m,c ≤ m ∧ m < c + n ∧ k = cell s m:=by
  intro s n
  induction n with
  | zero =>
   intro c k;simp only [b_C,List.not_mem_nil,false_iff];rintro ⟨m,h1,h2,-⟩;omega
  | succ n ih =>
   intro c k;simp only [b_C,List.mem_cons,ih]
   constructor
   ·rintro (rfl | ⟨m,h1,h2,rfl⟩)
    ·exact ⟨c,Nat.le_refl _,by omega,rfl⟩
    ·exact ⟨m,by omega,by omega,rfl⟩
   ·rintro ⟨m,h1,h2,rfl⟩
    by_cases hm : m = c
    ·subst hm;exact .inl rfl
    ·exact .inr ⟨m,by omega,by omega,rfl⟩
 induction bx with
 | nil => simp [a_k]
 | cons x r ih =>
  obtain ⟨j,s,n⟩:=x;simp only [a_k,List.mem_cons,List.mem_append,hc,ih]
  constructor
  ·rintro (rfl | ⟨m,-,h2,rfl⟩ | ⟨j',s',n',h1,h2⟩)
   ·exact ⟨j,s,n,.inl rfl,.inl rfl⟩
   ·exact ⟨j,s,n,.inl rfl,.inr ⟨m,by omega,rfl⟩⟩
   ·exact ⟨j',s',n',.inr h1,h2⟩
  ·rintro ⟨j',s',n',h1 | h1,h2⟩
   ·simp only [Prod.mk.injEq] at h1
    obtain ⟨rfl,rfl,rfl⟩:=h1
    rcases h2 with rfl | ⟨m,h2,rfl⟩
    ·exact .inl rfl
    ·exact .inr (.inl ⟨m,by omega,by omega,rfl⟩)
   ·exact .inr (.inr ⟨j',s',n',h1,h2⟩)
theorem j_o : ∀ (l : List Key) (σ : St) (k : Key),(k ∈ l → (σ.puts (d_t l)).get k = some (top .u)) ∧ (k ∉ l → (σ.puts (d_t l)).get k = σ.get k):=by
 intro l
 induction l with
 | nil => intro σ k;exact ⟨fun q => by simp at q,fun _ => rfl⟩
 | cons x r ih =>
  intro σ k;obtain ⟨h1,h2⟩:=ih (σ.put x (top .u)) k;refine ⟨fun q => ?_,fun q => ?_⟩
  ·show ((σ.put x (top .u)).puts (d_t r)).get k = _
   by_cases hk : k ∈ r
   ·exact h1 hk
   ·rw [h2 hk]
    rcases List.mem_cons.1 q with rfl | q
    ·exact j_
    ·exact absurd q hk
  ·show ((σ.put x (top .u)).puts (d_t r)).get k = _
   simp only [List.mem_cons,not_or] at q;rw [h2 q.2,m_ q.1]
theorem f_c {ks : List (Key × Path)} {i : Nat} {k : Key} {q : Path} (h : ks[i]? = some (k,q)) : k ∈ a_q ks:=by
 induction ks generalizing i with
 | nil => simp at h
 | cons x r ih =>
  obtain ⟨k',q'⟩:=x
  cases i with
  | zero =>
   simp at h;simp [a_q,h.1]
  | succ i =>
   simp at h;simp only [a_q,List.mem_cons];exact .inr (ih h)
theorem l_P {ks : List (Key × Path)} {k : Key} (h : k ∈ a_q ks) : ∃ (i : Nat) (q : Path),ks[i]? = some (k,q):=by
 induction ks with
 | nil => simp [a_q] at h
 | cons x r ih =>
  obtain ⟨k',q'⟩:=x;simp only [a_q,List.mem_cons] at h
  rcases h with rfl | h
  ·exact ⟨0,q',rfl⟩
  ·obtain ⟨i,q,hi⟩:=ih h
   exact ⟨i + 1,q,by simpa using hi⟩
theorem k_i (tag : Nat) : ∀ (sh : Shape) (ks : List (Key × Path)) (ys : List T) (σ : St),sh.length = ks.length → ys.length = sh.length → (a_q ks).Nodup →
  (∀ (i : Nat) k ty o k' q y,sh[i]? = some (k,ty,o) → ks[i]? = some (k',q) → ys[i]? = some y → (σ.puts (a_K tag sh ks ys)).get k' = some ⟨q,f_g tag ty o y⟩) ∧
  (∀ k,k ∉ a_q ks → (σ.puts (a_K tag sh ks ys)).get k = σ.get k):=by
 intro sh
 induction sh with
 | nil =>
  intro ks ys σ h1 h2 _;exact ⟨fun i k ty o k' q y hi => by simp at hi,fun k _ => by cases ks <;> rfl⟩
 | cons a sh ih =>
  intro ks ys σ h1 h2 hn;obtain ⟨k0,ty0,o0⟩:=a
  cases ks with
  | nil => simp at h1
  | cons b ks =>
   obtain ⟨kb,qb⟩:=b
   cases ys with
   | nil => simp at h2
   | cons y0 ys =>
    simp only [a_q,List.nodup_cons] at hn;obtain ⟨g1,g2⟩:=ih ks ys (σ.put kb ⟨qb,f_g tag ty0 o0 y0⟩) (by simpa using h1) (by simpa using h2) hn.2;refine ⟨fun i k ty o k' q y hs hk hy => ?_,fun k hk => ?_⟩
    ·show ((σ.put kb ⟨qb,f_g tag ty0 o0 y0⟩).puts (a_K tag sh ks ys)).get k' = _
     cases i with
     | zero =>
      simp only [List.getElem?_cons_zero,Option.some.injEq,Prod.mk.injEq] at hs hk hy;obtain ⟨rfl,rfl,rfl⟩:=hs;obtain ⟨rfl,rfl⟩:=hk;subst hy;rw [g2 _ hn.1,j_]
     | succ i => exact g1 i k ty o k' q y (by simpa using hs) (by simpa using hk) (by simpa using hy)
    ·show ((σ.put kb ⟨qb,f_g tag ty0 o0 y0⟩).puts (a_K tag sh ks ys)).get k = _
     simp only [a_q,List.mem_cons,not_or] at hk;rw [g2 k hk.2,m_ hk.1]
theorem p_x : ∀ (sh : Shape) (ys : List T),ys.length = sh.length → (b_p sh).Nodup → ∀ (i : Nat) k ty o y,sh[i]? = some (k,ty,o) → ys[i]? = some y → (shSt sh ys).get k = some (top (f_g 0 ty o y)):=by
 intro sh
 induction sh with
 | nil => intro ys _ _ i k ty o y hi;simp at hi
 | cons a sh ih =>
  intro ys hl hn i k ty o y hs hy;obtain ⟨k0,ty0,o0⟩:=a
  cases ys with
  | nil => simp at hl
  | cons y0 ys =>
   simp only [b_p,List.nodup_cons] at hn;simp only [shSt,St.get]
   cases i with
   | zero =>
    simp only [List.getElem?_cons_zero,Option.some.injEq,Prod.mk.injEq] at hs hy;obtain ⟨rfl,rfl,rfl⟩:=hs;subst hy;simp [Key.a_u]
   | succ i =>
    simp only [List.getElem?_cons_succ] at hs hy;have hmem : k ∈ b_p sh:=by
     clear ih hl hn hy
     induction sh generalizing i with
     | nil => simp at hs
     | cons b sh ih =>
      obtain ⟨kb,tb,ob⟩:=b
      cases i with
      | zero =>
       simp at hs;simp [b_p,hs.1]
      | succ i =>
       simp only [List.getElem?_cons_succ] at hs;simp only [b_p,List.mem_cons];exact .inr (ih i hs)
    rw [Key.a_N (fun e => hn.1 (by rw [e];exact hmem))];exact ih ys (by simpa using hl) hn.2 i k ty o y hs hy
theorem f_5 : ∀ (l : List Arg) (j : Nat) (k : Key) (e : Ent),(b_s j l).get k = some e → ∃ t,k = a_ t ∧ j ≤ t ∧ t < j + l.length:=by
 intro l
 induction l with
 | nil => intro j k e he;cases he
 | cons a l ih =>
  intro j k e he
  cases a with
  | box c n as =>
   simp only [b_s,St.get] at he;split at he
   ·rename_i hk
    have:=Key.a_b.1 hk
    exact ⟨j,this.symm,Nat.le_refl _,by simp⟩
   ·obtain ⟨t,h1,h2,h3⟩:=ih (j + 1) k e he
    exact ⟨t,h1,by omega,by simp only [List.length_cons];omega⟩
  | _ =>
   obtain ⟨t,h1,h2,h3⟩:=ih (j + 1) k e he;exact ⟨t,h1,by omega,by simp only [List.length_cons];omega⟩
end
section
variable {P : Program} {C : Ctx} {fr : Fr} {tm : Array Value} {w w' : World} {σ : St} {γ γ1 : Key → Option Nat} {D : Nat → Prop} {args : List (Operand × TypeId)} {acc : Acc} {mp : KMap}
def ownC (mp : KMap) (γ : Key → Option Nat) : Key → Option Nat:=fun k => (mp.find k).bind γ
def n_Q (fr : Fr) (acc : Acc) (mp : KMap) (γ γ1 : Key → Option Nat) : Nat → Prop:=fun b => Ob fr γ1 b ∧ (∀ k,ownC mp γ k ≠ some b) ∧ ∀ k ∈ acc.ln,γ k ≠ some b
def frC (fr : Fr) (acc : Acc) (mp : KMap) (γ γ1 : Key → Option Nat) (w : World) : Fr:=⟨w.heap.size,w,n_Q fr acc mp γ γ1,fun b => ∃ k,ownC mp γ k = some b⟩
theorem g_q {mp : KMap} {k x : Key} (h : (k,x) ∈ mp) : x ∈ mp.map (·.2):=List.mem_map.2 ⟨(k,x),h,rfl⟩
theorem o_b {mp : KMap} (hn : (mp.map (·.2)).Nodup) : ∀ {k k' x : Key},(k,x) ∈ mp → (k',x) ∈ mp → k = k' := by
 induction mp with
 | nil => intro k k' x h;simp at h
 | cons a r ih =>
  obtain ⟨a1,a2⟩:=a;simp only [List.map_cons,List.nodup_cons] at hn;intro k k' x h h'
  rcases List.mem_cons.1 h with q | q <;> rcases List.mem_cons.1 h' with q' | q'
  ·simp only [Prod.mk.injEq] at q q'
   rw [q.1,q'.1]
  ·simp only [Prod.mk.injEq] at q
   exact absurd (g_q q') (by rw [q.2];exact hn.1)
  ·simp only [Prod.mk.injEq] at q'
   exact absurd (g_q q) (by rw [q'.2];exact hn.1)
  ·exact ih hn.2 q q'
theorem a_O {k : Key} {b : Nat} (h : ownC mp γ k = some b) : ∃ x,(k,x) ∈ mp ∧ γ x = some b:=by
 unfold ownC at h
 cases hf : mp.find k with
 | none => rw [hf] at h;cases h
 | some x => rw [hf] at h;exact ⟨x,KMap.f_N hf,h⟩
theorem l_C (hG : Good P C.tab) (h : Rel C.tab fr tm w σ γ) (hA : ArgsP C tm w (Ob fr γ) σ γ 0 args acc mp) {sh : Shape} {ks : List (Key × Path)} (hok : acc.ok sh ks = true)
  (r1 : Rel C.tab fr tm w (σ.puts acc.fz) γ1) (r5 : ∀ b,Ob fr γ1 b → Ob fr γ b) (r6 : Free γ acc.fz (Ob fr γ1)) {vals : Array Value} (hvals : ∀ (i : Nat) x ty,args[i]? = some (x,ty) → vals[i]? = some (ev tm x)) :
  Rel C.tab (frC fr acc mp γ γ1 w) vals w (a_T 0 acc.args) (ownC mp γ) ∧ (∀ b,Ob (frC fr acc mp γ γ1 w) (ownC mp γ) b → Ob fr γ b):=by
 obtain ⟨k1,k2,k3,k4,k5,k6⟩:=Acc.p_1 hok;have hperm:=hA.perm;have hnd : (mp.map (·.2)).Nodup:=hperm.nodup_iff.2 k1;have htouch : ∀ {k x},(k,x) ∈ mp → x ∈ acc.tk ++ a_k acc.bx:=fun hm => hperm.mem_iff.1 (g_q hm)
 have hObC : ∀ b,Ob (frC fr acc mp γ γ1 w) (ownC mp γ) b → Ob fr γ b:=by
  rintro b (hb | ⟨k,hb⟩)
  ·exact r5 b hb.1
  ·obtain ⟨x,-,hx⟩:=a_O hb
   exact .inr ⟨x,hx⟩
 have hfree : ∀ ws : List (Key × Ent),(∀ k e,(k,e) ∈ ws → (k ∈ K_ acc.fz ∧ (∃ e',(k,e') ∈ acc.fz)) ∨ k ∈ acc.ln) → Free γ ws (Ob (frC fr acc mp γ γ1 w) (ownC mp γ)):=by
  intro ws hws k e b hm hb hO
  rcases hO with hO | ⟨k',hO⟩
  ·rcases hws k e hm with ⟨-,e',he'⟩ | hl
   ·exact r6 k e' b he' hb hO.1
   ·exact hO.2.2 k hl hb
  ·obtain ⟨x,hx,hxb⟩:=a_O hO
   have:=h.inj x k b hxb hb
   subst this
   rcases hws x e hm with ⟨hl,-⟩ | hl
   ·exact k2 _ (htouch hx) hl
   ·exact k3 _ (htouch hx) hl
 have hst:=hA.start hG h hObC (vals:=vals) (γc:=ownC mp γ) (hfree acc.fz fun k e hm => .inl ⟨f_b.2 ⟨e,hm⟩,e,hm⟩)
  (hfree (lnE acc.ln) fun k e hm => by
   obtain ⟨k',hk',hh⟩:=List.mem_map.1 hm;simp only [Prod.mk.injEq] at hh;exact .inr (hh.1 ▸ hk')) (fun _ _ => rfl) (fun i x ty hx => by rw [Nat.zero_add];exact hvals i x ty hx)
 refine ⟨⟨rfl,rfl,rfl,Nat.le_refl _,fun _ _ _ => rfl,?_,?_,?_,?_,?_,?_⟩,hObC⟩
 ·rintro b ⟨h1,h2,h3⟩
  refine ⟨?_,fun ⟨k,hk⟩ => h2 k hk⟩
  show b < w.heap.size
  rcases h1 with h1 | ⟨k,h1⟩
  ·have:=(r1.low b h1).1
   have:=r1.size
   omega
  ·exact (r1.blk k b h1).1
 ·intro k k' b hk hk'
  obtain ⟨x,hx,hxb⟩:=a_O hk;obtain ⟨x',hx',hxb'⟩:=a_O hk'
  have:=h.inj x x' b hxb hxb'
  subst this;exact o_b hnd hx hx'
 ·intro k b hk
  obtain ⟨x,hx,hxb⟩:=a_O hk;exact ⟨(h.blk x b hxb).1,fun q => q.2.1 k hk,fun _ => ⟨k,hk⟩⟩
 ·intro s n e he
  obtain ⟨-,-,q,-⟩:=hst _ e he
  rcases q with ⟨q,-⟩ | ⟨-,c,m,q⟩
  ·simp [cell] at q
  ·exact ⟨c,0,m,q⟩
 ·intro s n e he
  obtain ⟨-,-,q,-⟩:=hst _ e he
  rcases q with ⟨q,-⟩ | ⟨q,-⟩ <;> simp [comp] at q
 ·intro k e he
  obtain ⟨q1,-,-,v,q2,q3⟩:=hst k e he;exact ⟨v,q2,fun _ => q3 _ _,fun q => absurd (by rw [q1];trivial) q⟩
end
section
variable {P : Program} {C : Ctx} {fr : Fr} {tm : Array Value} {w w' : World} {σ : St} {γ γ1 : Key → Option Nat} {D : Nat → Prop} {args : List (Operand × TypeId)} {acc : Acc} {mp : KMap}
structure Form (acc : Acc) (n : Nat) (p : Path) (dst : Option Nat) (sh : Shape) (ks : List (Key × Path)) (tup : List (Key × Ent)) : Prop where
 back : ∀ (i : Nat) k ty o,sh[i]? = some (k,ty,o) → ∃ k' q,ks[i]? = some (k',q) ∧
  ((∃ j s m0 m,(j,s,m0) ∈ acc.bx ∧ m < m0 ∧ k = cell j m ∧ k' = cell s m ∧ q = []) ∨ (∃ d,dst = some d ∧ k = a_ n ∧ k' = a_ d ∧ q = p ∧ tup = []) ∨
   (∃ d l m,dst = some d ∧ k = comp n l ∧ k' = comp d l ∧ q = p ∧ tup = [(a_ d,⟨p,.tup m⟩)]))
 cover : ∀ j s m0 m,(j,s,m0) ∈ acc.bx → m < m0 → ∃ (i : Nat) (ty : TypeId) (o : Bool),sh[i]? = some (cell j m,ty,o) ∧ ks[i]? = some (cell s m,[])
 tup : (tup = [] ∧ m_p n sh = []) ∨ ∃ d m,dst = some d ∧ tup = [(a_ d,⟨p,.tup m⟩)] ∧ m_p n sh = [(a_ n,top (.tup 0))]
def tmOf (dst : Option Nat) (tm : Array Value) (v : Value) : Array Value:=match dst with
 | some d => tm.setIfInBounds d v
 | none => tm
def e_R : Shape → List (Key × Path) → KMap
 | (k,_,_) :: sh,(k',_) :: ks => (k',k) :: e_R sh ks
 | _,_ => []
theorem i_o : ∀ (sh : Shape) (ks : List (Key × Path)),sh.length = ks.length → (a_q ks).Nodup → ∀ (i : Nat) k ty o k' q,sh[i]? = some (k,ty,o) → ks[i]? = some (k',q) → (e_R sh ks).find k' = some k:=by
 intro sh
 induction sh with
 | nil => intro ks _ _ i k ty o k' q hs;simp at hs
 | cons a sh ih =>
  intro ks hl hn i k ty o k' q hs hk;obtain ⟨k0,t0,o0⟩:=a
  cases ks with
  | nil => simp at hl
  | cons b ks =>
   obtain ⟨kb,qb⟩:=b;simp only [a_q,List.nodup_cons] at hn;simp only [e_R,KMap.find]
   cases i with
   | zero =>
    simp only [List.getElem?_cons_zero,Option.some.injEq,Prod.mk.injEq] at hs hk;rw [hk.1,hs.1];simp [Key.a_u]
   | succ i =>
    simp only [List.getElem?_cons_succ] at hs hk;rw [Key.a_N (fun e => hn.1 (by rw [e];exact f_c hk))];exact ih ks (by simpa using hl) hn.2 i k ty o k' q hs hk
theorem f_x : ∀ (sh : Shape) (ks : List (Key × Path)) (k : Key),k ∉ a_q ks → (e_R sh ks).find k = none:=by
 intro sh
 induction sh with
 | nil => intro ks k _;rfl
 | cons a sh ih =>
  intro ks k hk;obtain ⟨k0,t0,o0⟩:=a
  cases ks with
  | nil => rfl
  | cons b ks =>
   obtain ⟨kb,qb⟩:=b;simp only [a_q,List.mem_cons,not_or] at hk;simp only [e_R,KMap.find];rw [Key.a_N (fun e => hk.1 e.symm)];exact ih ks k hk.2
def ownE (acc : Acc) (sh : Shape) (ks : List (Key × Path)) (tup : List (Key × Ent)) (γc2 γ1 : Key → Option Nat) : Key → Option Nat:=fun k =>
 match (e_R sh ks).find k with
 | some kc => γc2 kc
 | none => match memK (acc.tk ++ K_ tup) k with
  | true => none
  | false => γ1 k
def k_A (tab : Tab) (ty : TypeId) : Prop:=∃ c ti,tab.at ty = some (c,ti) ∧ ((∃ k,ti.k = .int k) ∨ ti.k = .bool ∨ ti.k = .str)
theorem t_Z {tab : Tab} {O O' : Nat → Prop} {c : TypeId} {v : Value} {y : T} (hf : k_A tab c) (h : V tab w O c v y) : V tab w O' c v y:=by
 obtain ⟨c',ti,h1,h2⟩:=hf;obtain ⟨ti',q1,q2,q3,q4,q5,q6⟩:=h
 have:=e_ h1 q1
 simp only [Prod.mk.injEq] at this;obtain ⟨rfl,rfl⟩:=this;refine ⟨ti,q1,q2,q3,q4,q5,fun j y' ty hy ht => ?_⟩;obtain ⟨u,hu,hL⟩:=q6 j y' ty hy ht;have hlv : ti.lv c' = [c']:=by
  unfold TI.lv
  rcases h2 with ⟨k,h2⟩ | h2 | h2 <;> rw [h2]
 rw [hlv] at ht;have hty : ty = c' := by
  cases j with
  | zero => simpa using ht.symm
  | succ j => simp at ht
 subst hty;refine ⟨u,hu,?_⟩
 cases hL with
 | bool h' hk' => exact .bool h' hk'
 | int h' hk' hn => exact .int h' hk' hn
 | str h' hk' hs => exact .str h' hk' hs
 | nil h' hk' => exact .nil h' hk'
 | ptr h' hk' => exact .ptr h' hk'
 | ifc h' hk' => exact .ifc h' hk'
 | fn h' hk' => exact .fn h' hk'
 | fnc h' hk' =>
  have:=e_ h1 h'
  simp only [Prod.mk.injEq,true_and] at this;subst this
  rcases h2 with ⟨k,h2⟩ | h2 | h2 <;> rw [h2] at hk' <;> cases hk'
 | sl h' hk' =>
  have:=e_ h1 h'
  simp only [Prod.mk.injEq,true_and] at this;subst this
  rcases h2 with ⟨k,h2⟩ | h2 | h2 <;> rw [h2] at hk' <;> cases hk'
theorem o_D (hG : Good P C.tab) (h : Rel C.tab fr tm w σ γ) {i : Nat} (hi : ¬ D i) {tup : List (Key × Ent)} {p : Path} (htag : ∀ d m,tup = [(a_ d,⟨p,.tup m⟩)] → m = i + 1) (hA : ArgsP C tm w (Ob fr γ) σ γ 0 args acc mp) {sh : Shape} {ks : List (Key × Path)} (hok : acc.ok sh ks = true)
  (hp : σ.Holds p) (hpp : ∀ s b,(s,b) ∈ p → a_w C s = false ∧ ∃ q c x,σ.get (a_ s) = some ⟨q,.t c x⟩) {dst : Option Nat} (hd : ∀ d,dst = some d → d < tm.size ∧ σ.get (a_ d) = none)
  (hF : Form acc args.length p dst sh ks tup) (hln : acc.ln = [] ∨ ∀ (i : Nat) k ty o,sh[i]? = some (k,ty,o) → k_A C.tab ty) {vals : Array Value} (hvn : vals.size = args.length)
  (hvals : ∀ (i : Nat) x ty,args[i]? = some (x,ty) → vals[i]? = some (ev tm x)) {ys : List T} (hys : ys.length = sh.length)
  (r1 : Rel C.tab fr tm w (σ.puts acc.fz) γ1) (r2 : Wf C D (σ.puts acc.fz)) (r3 : ∀ k,(∀ c tag xs,σ.get k ≠ some ⟨[],.own c tag xs⟩) → (σ.puts acc.fz).get k = σ.get k)
  (r4 : ∀ k,(∀ e,(k,e) ∉ acc.fz) → (σ.puts acc.fz).get k = σ.get k ∧ γ1 k = γ k) (r7 : ∀ k b,γ1 k = some b → γ k = some b)
  {v : Value} {γc2 : Key → Option Nat} (hR : Rel C.tab (frC fr acc mp γ γ1 w) (vals.push v) w' (b_j acc.args sh ys) γc2) :
  ∃ γ',Rel C.tab fr (tmOf dst tm v) w' (((σ.puts acc.fz).puts (d_t acc.tk ++ tup)).puts (a_K (i + 1) sh ks ys)) γ' ∧
   Wf C (fun j => D j ∨ j = i) (((σ.puts acc.fz).puts (d_t acc.tk ++ tup)).puts (a_K (i + 1) sh ks ys)):=by
 obtain ⟨k1,k2,k3,k4,k5,k6⟩:=Acc.p_1 hok;have hperm:=hA.perm;have htouch : ∀ {x},x ∈ acc.tk ++ a_k acc.bx → ∃ k,mp.find k = some x:=by
  intro x hx;obtain ⟨⟨k,x'⟩,hm,hh⟩:=List.mem_map.1 (hperm.mem_iff.2 hx);simp only at hh;subst hh;exact ⟨k,hA.find k _ hm⟩
 have hthere : ∀ {x},x ∈ acc.tk ++ a_k acc.bx → σ.get x ≠ none:=by
  intro x hx;obtain ⟨k,hk⟩:=htouch hx;exact hA.there k x (KMap.f_N hk)
 have hsame1 : ∀ {x},x ∈ acc.tk ++ a_k acc.bx → (σ.puts acc.fz).get x = σ.get x ∧ γ1 x = γ x:=fun hx => r4 _ fun e hm => k2 _ hx (f_b.2 ⟨e,hm⟩)
 have habs : ∀ d,dst = some d → (σ.puts acc.fz).get (a_ d) = none ∧ (∀ l,(σ.puts acc.fz).get (comp d l) = none) ∧ (∀ m,(σ.puts acc.fz).get (cell d m) = none):=by
  intro d hdd;have h0:=c_D r3 (hd d hdd).2;refine ⟨h0,fun l => ?_,fun m => ?_⟩
  ·cases hc : (σ.puts acc.fz).get (comp d l) with
   | none => rfl
   | some e => obtain ⟨q,m,hh⟩:=r1.cmp d l e hc;rw [h0] at hh;cases hh
  ·cases hc : (σ.puts acc.fz).get (cell d m) with
   | none => rfl
   | some e => obtain ⟨c,t,m',hh⟩:=r1.cel d m e hc;rw [h0] at hh;cases hh
 have hthere1 : ∀ {x},x ∈ acc.tk ++ a_k acc.bx → (σ.puts acc.fz).get x ≠ none:=fun hx => by rw [(hsame1 hx).1];exact hthere hx
 have hks : ∀ {k'},k' ∈ a_q ks → ∃ (i : Nat) (q : Path) (k : Key) (ty : TypeId) (o : Bool) (y : T),ks[i]? = some (k',q) ∧ sh[i]? = some (k,ty,o) ∧ ys[i]? = some y ∧
   ((∃ j s m0 m,(j,s,m0) ∈ acc.bx ∧ m < m0 ∧ k = cell j m ∧ k' = cell s m ∧ q = []) ∨ (∃ d,dst = some d ∧ k = a_ args.length ∧ k' = a_ d ∧ q = p ∧ tup = []) ∨
    (∃ d l m,dst = some d ∧ k = comp args.length l ∧ k' = comp d l ∧ q = p ∧ tup = [(a_ d,⟨p,.tup m⟩)])):=by
  intro k' hk';obtain ⟨i0,q,hi0⟩:=l_P hk';have hlt : i0 < sh.length:=by rw [k6];exact (List.getElem?_eq_some_iff.1 hi0).1
  obtain ⟨⟨k,ty,o⟩,hs⟩ : ∃ a,sh[i0]? = some a:=⟨_,List.getElem?_eq_getElem hlt⟩;obtain ⟨k2',q2,h1,h2⟩:=hF.back i0 k ty o hs;rw [hi0] at h1;simp only [Option.some.injEq,Prod.mk.injEq] at h1;obtain ⟨rfl,rfl⟩:=h1;exact ⟨i0,q,k,ty,o,_,hi0,hs,List.getElem?_eq_getElem (by omega),h2⟩
 have hkst : ∀ {k'},k' ∈ a_q ks → k' ∈ a_k acc.bx ∨ (σ.puts acc.fz).get k' = none:=by
  intro k' hk';obtain ⟨i0,q,k,ty,o,y,-,-,-,hc⟩:=hks hk'
  rcases hc with ⟨j,s,m0,m,hb,hm,-,rfl,-⟩ | ⟨d,hdd,-,rfl,-⟩ | ⟨d,l,m,hdd,-,rfl,-⟩
  ·exact .inl (a_m.2 ⟨j,s,m0,hb,.inr ⟨m,hm,rfl⟩⟩)
  ·exact .inr (habs d hdd).1
  ·exact .inr ((habs d hdd).2.1 l)
 have htup : ∀ {k},k ∈ K_ tup → ∃ d m,dst = some d ∧ k = a_ d ∧ tup = [(a_ d,⟨p,.tup m⟩)]:=by
  intro k hk
  rcases hF.tup with ⟨hh,-⟩ | ⟨d,m,hdd,hh,-⟩
  ·rw [hh] at hk;simp [K_] at hk
  ·rw [hh] at hk
   simp only [K_,List.mem_singleton] at hk;exact ⟨d,m,hdd,hk,hh⟩
 have htk_ks : ∀ {k},k ∈ acc.tk → k ∉ a_q ks:=by
  intro k hk hk'
  rcases hkst hk' with q | q
  ·exact (List.nodup_append.1 k1).2.2 k hk k q rfl
  ·exact hthere1 (List.mem_append.2 (.inl hk)) q
 have htk_tup : ∀ {k},k ∈ acc.tk → k ∉ K_ tup:=by
  intro k hk hk';obtain ⟨d,m,hdd,rfl,-⟩:=htup hk';exact hthere1 (List.mem_append.2 (.inl hk)) (habs d hdd).1
 have htup_ks : ∀ {k},k ∈ K_ tup → k ∉ a_q ks:=by
  intro k hk hk';obtain ⟨d,m,hdd,rfl,ht⟩:=htup hk;obtain ⟨i0,q,k0,ty,o,y,-,-,-,hc⟩:=hks hk'
  rcases hc with ⟨j,s,m0,m,hb,hm,-,hh,-⟩ | ⟨d',hdd',-,-,-,hh⟩ | ⟨d',l,m,hdd',-,hh,-⟩
  ·exact f_ hh
  ·rw [ht] at hh;cases hh
  ·exact x_ hh
 obtain ⟨g1,g2⟩:=k_i (i + 1) sh ks ys ((σ.puts acc.fz).puts (d_t acc.tk ++ tup)) k6 hys k5;have hT : ∀ k,k ∉ K_ tup → (((σ.puts acc.fz).puts (d_t acc.tk ++ tup))).get k = ((σ.puts acc.fz).puts (d_t acc.tk)).get k:=by
  intro k hk;rw [B_]
  rcases hF.tup with ⟨hh,-⟩ | ⟨d,m,-,hh,-⟩
  ·rw [hh];rfl
  ·rw [hh] at hk ⊢
   simp only [K_,List.mem_singleton] at hk;exact m_ hk
 have G1 : ∀ (i0 : Nat) k ty o k' q y,sh[i0]? = some (k,ty,o) → ks[i0]? = some (k',q) → ys[i0]? = some y → (((σ.puts acc.fz).puts (d_t acc.tk ++ tup)).puts (a_K (i + 1) sh ks ys)).get k' = some ⟨q,f_g (i + 1) ty o y⟩:=g1;have G2 : ∀ k,k ∈ acc.tk → (((σ.puts acc.fz).puts (d_t acc.tk ++ tup)).puts (a_K (i + 1) sh ks ys)).get k = some (top .u):=by
  intro k hk;rw [g2 k (htk_ks hk),hT k (htk_tup hk)];exact (j_o acc.tk _ k).1 hk
 have G3 : ∀ d m,tup = [(a_ d,⟨p,.tup m⟩)] → (((σ.puts acc.fz).puts (d_t acc.tk ++ tup)).puts (a_K (i + 1) sh ks ys)).get (a_ d) = some ⟨p,.tup m⟩:=by
  intro d m ht;rw [g2 _ (htup_ks (by rw [ht];simp [K_])),B_,ht];exact j_
 have G4 : ∀ k,k ∉ acc.tk → k ∉ a_q ks → k ∉ K_ tup → (((σ.puts acc.fz).puts (d_t acc.tk ++ tup)).puts (a_K (i + 1) sh ks ys)).get k = (σ.puts acc.fz).get k:=by
  intro k h1 h2 h3;rw [g2 k h2,hT k h3];exact (j_o acc.tk _ k).2 h1
 generalize ((σ.puts acc.fz).puts (d_t acc.tk ++ tup)).puts (a_K (i + 1) sh ks ys) = σ' at G1 G2 G3 G4 ⊢
 clear g1 g2 hT;have E1 : ∀ (i0 : Nat) k ty o k' q,sh[i0]? = some (k,ty,o) → ks[i0]? = some (k',q) → ownE acc sh ks tup γc2 γ1 k' = γc2 k:=by
  intro i0 k ty o k' q h1 h2;unfold ownE;rw [i_o sh ks k6 k5 i0 k ty o k' q h1 h2]
 have E2 : ∀ k,k ∈ acc.tk ∨ k ∈ K_ tup → ownE acc sh ks tup γc2 γ1 k = none:=by
  intro k hk;unfold ownE
  rw [f_x sh ks k (by rcases hk with q | q;exact htk_ks q;exact htup_ks q),b_V.2 (List.mem_append.2 hk)]
 have E3 : ∀ k,k ∉ acc.tk → k ∉ a_q ks → k ∉ K_ tup → ownE acc sh ks tup γc2 γ1 k = γ1 k:=by
  intro k h1 h2 h3;unfold ownE;rw [f_x sh ks k h2];have : memK (acc.tk ++ K_ tup) k = false:=by
   cases hm : memK (acc.tk ++ K_ tup) k with
   | false => rfl
   | true =>
    rcases List.mem_append.1 (b_V.1 hm) with q | q
    ·exact absurd q h1
    ·exact absurd q h3
  rw [this]
 have hbox : ∀ {j s m0},(j,s,m0) ∈ acc.bx → ∃ c tag b,σ.get (a_ s) = some ⟨[],.box c tag m0⟩ ∧ γ (a_ s) = some b ∧ γc2 (a_ j) = some b ∧ (∃ cs ety,w'.heap[b]? = some (.cells cs ety (0,0)) ∧ cs.size = m0) ∧
   a_ s ∉ acc.tk ∧ a_ s ∉ a_q ks ∧ a_ s ∉ K_ tup ∧ s_ tm w γ (a_ s) = some (.pointer (some ⟨b,0,none⟩)) ∧ j < args.length:=by
  intro j s m0 hm;obtain ⟨-,c,tag,b,x,ty,q1,q2,q3,q4,q5,q6,q7,q8⟩:=hA.boxes j s m0 hm;have hmem : a_ s ∈ a_k acc.bx:=a_m.2 ⟨j,s,m0,hm,.inl rfl⟩;have hout : (b_j acc.args sh ys).get (a_ j) = some (top (.box c 0 m0)):=by
   unfold b_j;rw [a_n,q5]
  obtain ⟨v2,hv2,hr2,-⟩:=hR.ent _ _ hout;obtain ⟨b2,cs,ety,t1,t2,t3,t4⟩:=hr2 trivial;rw [i_] at hv2;have hjl : j < vals.size:=by
   rw [hvn];exact (List.getElem?_eq_some_iff.1 q3).1
  have hv3:=hvals j x ty q3;rw [Array.getElem?_push_lt hjl,← Array.getElem?_eq_getElem hjl,hv3,q4] at hv2;simp only [Option.some.injEq] at hv2;rw [← hv2] at t2;simp only [Value.pointer.injEq,Option.some.injEq,Addr.mk.injEq,and_true] at t2;obtain ⟨v0,hv0,hr0,-⟩:=h.ent _ _ q1;obtain ⟨b0,cs0,ety0,u1,u2,-⟩:=hr0 trivial;rw [q2] at u1;simp only [Option.some.injEq] at u1;subst u1;refine ⟨c,tag,b,q1,q2,by rw [t1,t2],⟨cs,ety,by rw [t2];exact t3,t4⟩,fun q => ?_,fun q => ?_,fun q => ?_,by rw [hv0,u2],by rw [← hvn];exact hjl⟩
  ·exact (List.nodup_append.1 k1).2.2 _ q _ hmem rfl
  ·obtain ⟨i0,q',k,ty',o,y,-,-,-,hc⟩:=hks q
   rcases hc with ⟨j',s',m0',m,hb',hm',-,hh,-⟩ | ⟨d,hdd,-,hh,-⟩ | ⟨d,l,m,hdd,-,hh,-⟩
   ·exact f_ hh
   ·have:=hthere1 (List.mem_append.2 (.inr hmem))
    rw [hh] at this;exact this (habs d hdd).1
   ·exact x_ hh
  ·obtain ⟨d,m,hdd,hh,-⟩:=htup q
   have:=hthere1 (List.mem_append.2 (.inr hmem))
   rw [hh] at this;exact this (habs d hdd).1
 have hEb : ∀ b,(∃ k,ownC mp γ k = some b) → ∃ x,x ∈ acc.tk ++ a_k acc.bx ∧ γ x = some b:=by
  rintro b ⟨k,hk⟩;obtain ⟨x,hx,hxb⟩:=a_O hk;exact ⟨x,hperm.mem_iff.1 (g_q hx),hxb⟩
 have hcellks : ∀ {j s m0 m},(j,s,m0) ∈ acc.bx → (σ.puts acc.fz).get (cell s m) ≠ none → cell s m ∈ a_q ks:=by
  intro j s m0 m hm he;obtain ⟨c,tag,b,q1,q2,-⟩:=hbox hm;have hmem : a_ s ∈ acc.tk ++ a_k acc.bx:=List.mem_append.2 (.inr (a_m.2 ⟨j,s,m0,hm,.inl rfl⟩));obtain ⟨e,he'⟩:=Option.ne_none_iff_exists'.1 he;obtain ⟨v2,hv2,-⟩:=r1.ent _ _ he';have hbs : (σ.puts acc.fz).get (a_ s) = some ⟨[],.box c tag m0⟩:=by rw [(hsame1 hmem).1];exact q1
  have hb1 : γ1 (a_ s) = some b:=by rw [(hsame1 hmem).2];exact q2
  obtain ⟨cs,ety,t1,t2⟩:=f_6 r1 hbs hb1;simp only [s_,cell,hb1,Option.bind_some] at hv2;rw [w_ t1] at hv2;have hlt : m < m0:=by rw [← t2];exact (Array.getElem?_eq_some_iff.1 hv2).1
  obtain ⟨i0,ty,o,-,u2⟩:=hF.cover j s m0 m hm hlt;exact f_c u2
 let W : Key → Prop:=fun k => k ∈ acc.tk ++ a_k acc.bx ∨ k ∈ a_q ks ∨ k ∈ K_ tup
 have hW4 : ∀ k,W k → (k ∈ acc.tk) ∨ (∃ j s m0,(j,s,m0) ∈ acc.bx ∧ k = a_ s) ∨ k ∈ a_q ks ∨ k ∈ K_ tup:=by
  rintro k (hk | hk | hk)
  ·rcases List.mem_append.1 hk with q | q
   ·exact .inl q
   ·obtain ⟨j,s,m0,hm,hc⟩:=a_m.1 q
    rcases hc with rfl | ⟨m,hmm,rfl⟩
    ·exact .inr (.inl ⟨j,s,m0,hm,rfl⟩)
    ·exact .inr (.inr (.inl (hcellks hm (hthere1 hk))))
  ·exact .inr (.inr (.inl hk))
  ·exact .inr (.inr (.inr hk))
 have hsm:=hR.size;have hsm' : w.heap.size ≤ w'.heap.size:=hsm;have hnotD : ¬ Old D (i + 1):=by
  rintro (q | ⟨j,hj,q⟩)
  ·cases q
  ·have : i = j:=by omega
   subst this;exact hi hj
 have hslotks : ∀ {s},a_ s ∈ a_q ks → (σ.puts acc.fz).get (a_ s) = none:=by
  intro s hk;obtain ⟨i0,q,k,ty,o,y,-,-,-,hc⟩:=hks hk
  rcases hc with ⟨j',s',m0',m,hb',hm',-,hh,-⟩ | ⟨d,hdd,-,hh,-⟩ | ⟨d,l,m,hdd,-,hh,-⟩
  ·exact absurd hh f_
  ·rw [hh];exact (habs d hdd).1
  ·exact absurd hh x_
 have hout3 : ∀ {s e},(σ.puts acc.fz).get (a_ s) = some e → (∀ c tag xs,e ≠ ⟨[],.own c tag xs⟩) → a_ s ∉ acc.tk ∧ a_ s ∉ a_q ks ∧ a_ s ∉ K_ tup:=by
  intro s e he hno;refine ⟨fun q => ?_,fun q => ?_,fun q => ?_⟩
  ·obtain ⟨c,tag,xs,hh⟩:=hA.takes _ q
   rw [(hsame1 (List.mem_append.2 (.inl q))).1,hh] at he;exact hno c tag xs (Option.some.inj he).symm
  ·rw [hslotks q] at he;cases he
  ·obtain ⟨d,m,hdd,hh,-⟩:=htup q
   rw [hh,(habs d hdd).1] at he;cases he
 have hkeep : ∀ {s e},(σ.puts acc.fz).get (a_ s) = some e → (∀ c tag xs,e ≠ ⟨[],.own c tag xs⟩) → σ'.get (a_ s) = some e:=by
  intro s e he hno;obtain ⟨q1,q2,q3⟩:=hout3 he hno;rw [G4 _ q1 q2 q3];exact he
 have hgd : ∀ s b,(s,b) ∈ p → a_w C s = false ∧ ∃ q c x,σ'.get (a_ s) = some ⟨q,.t c x⟩ ∧ σ.get (a_ s) = some ⟨q,.t c x⟩:=by
  intro s b hm;obtain ⟨h1,q,c,x,h2⟩:=hpp s b hm;exact ⟨h1,q,c,x,hkeep (by rw [r3 _ fun c' t' xs' q' => by rw [h2] at q';cases q'];exact h2) (by simp),h2⟩
 have hH : σ'.Holds p:=(b_q p fun s b hm => by
  obtain ⟨-,q,c,x,h1,h2⟩:=hgd s b hm;rw [h1,h2]).2 hp
 have hvalG : ∀ k e,k ∉ a_q ks → (σ.puts acc.fz).get k = some e → s_ (tmOf dst tm v) w' (ownE acc sh ks tup γc2 γ1) k = s_ tm w γ1 k:=by
  intro k e hnk he;refine a_S (fun ht => ?_) (fun ht => ?_)
  ·cases hdst : dst with
   | none => rfl
   | some d =>
    have hne : d ≠ k.a:=by
     intro q;obtain ⟨a1,a2,a3⟩:=habs d hdst;obtain ⟨v0,hv0,-⟩:=r1.ent k e he;have hk3 : k = a_ k.a ∨ k.tag = 2:=by
      by_cases h0 : k.tag = 0
      ·exact .inl (b_N r1 he h0)
      ·right
       obtain ⟨t,a,b⟩:=k;unfold s_ at hv0
       match t with
       | 0 => exact absurd rfl h0
       | 1 => exact absurd rfl ht
       | 2 => rfl
       | n + 3 => cases hv0
     rcases hk3 with hk3 | hk3
     ·rw [hk3,← q,a1] at he;cases he
     ·rw [(c_R r1 he hk3).1,← q,a2] at he;cases he
    simp [tmOf,Array.getElem?_setIfInBounds,hne]
  ·obtain ⟨hkc,c,tag,m,hs⟩:=a_0 r1 he ht
   obtain ⟨n1,n2,n3⟩:=hout3 hs (by simp);have nbx : ∀ x,x ∈ acc.tk ++ a_k acc.bx → x ≠ a_ k.a:=by
    rintro x hx rfl
    rcases List.mem_append.1 hx with q | q
    ·exact n1 q
    ·obtain ⟨j,s,m0,hm,hc⟩:=a_m.1 q
     rcases hc with hc | ⟨m',-,hc⟩
     ·have:=J_.1 hc
      refine hnk ?_;rw [hkc,this];refine hcellks hm ?_;rw [← this,← hkc,he];simp
     ·exact f_ hc
   refine ⟨E3 _ n1 n2 n3,fun b hb => b_d (hR.old b (r1.blk _ b hb).1 fun hE => ?_)⟩;obtain ⟨x,hx,hxb⟩:=hEb b hE;exact nbx x hx (h.inj x (a_ k.a) b hxb (r7 _ b hb))
 have hout : ∀ (i0 : Nat) k ty o y,sh[i0]? = some (k,ty,o) → ys[i0]? = some y → (b_j acc.args sh ys).get k = some (top (f_g 0 ty o y)):=by
  intro i0 k ty o y h1 h2;obtain ⟨k',q,-,hc⟩:=hF.back i0 k ty o h1;have hb : (b_s 0 acc.args).get k = none:=by
   cases hbx : (b_s 0 acc.args).get k with
   | none => rfl
   | some e =>
    obtain ⟨t,ht,-,hlt⟩:=f_5 _ _ _ _ hbx;rw [hA.len,Nat.zero_add] at hlt
    rcases hc with ⟨j,s,m0,m,-,-,hk,-⟩ | ⟨d,-,hk,-⟩ | ⟨d,l,m,-,hk,-⟩
    ·rw [hk] at ht;exact absurd ht.symm f_
    ·rw [hk] at ht;have:=J_.1 ht;omega
    ·rw [hk] at ht;exact absurd ht.symm x_
  have htu : (m_p acc.args.length sh).get k = none:=by
   rw [hA.len]
   rcases hF.tup with ⟨-,hh⟩ | ⟨d,m,-,htt,hh⟩
   ·rw [hh];rfl
   ·rw [hh]
    simp only [St.get];rw [Key.a_N];intro hk
    rcases hc with ⟨j,s,m0,m,-,-,hk',-⟩ | ⟨d,-,-,-,-,hk'⟩ | ⟨d,l,m,-,hk',-⟩
    ·rw [hk'] at hk;exact f_ hk
    ·rw [htt] at hk';cases hk'
    ·rw [hk'] at hk;exact x_ hk
  unfold b_j;rw [a_n,hb];simp only;rw [a_n,htu];exact p_x sh ys hys k4 i0 k ty o y h1 h2
 have hpush : (vals.push v)[args.length]? = some v:=by rw [← hvn];simp
 have htmd : ∀ d,dst = some d → (tmOf dst tm v)[d]? = some v:=by
  intro d hdd;simp [tmOf,hdd,(hd d hdd).1]
 have hObE : acc.ln = [] → ∀ b,Ob fr (ownE acc sh ks tup γc2 γ1) b → Ob (frC fr acc mp γ γ1 w) γc2 b:=by
  rintro hnil b (hb | ⟨k,hb⟩)
  ·refine .inl ⟨.inl hb,fun k hk => ?_,fun k hk => by rw [hnil] at hk;simp at hk⟩
   obtain ⟨x,-,hxb⟩:=a_O hk;exact (h.blk x b hxb).2.1 hb
  ·by_cases h1 : k ∈ a_q ks
   ·obtain ⟨i0,q,kc,ty,o,y,u1,u2,u3,-⟩:=hks h1
    rw [E1 i0 kc ty o k q u2 u1] at hb;exact .inr ⟨kc,hb⟩
   ·by_cases h2 : k ∈ acc.tk ∨ k ∈ K_ tup
    ·rw [E2 k h2] at hb;cases hb
    ·simp only [not_or] at h2
     rw [E3 k h2.1 h1 h2.2] at hb
     by_cases h3 : k ∈ a_k acc.bx
     ·obtain ⟨j,s,m0,hm,hc⟩:=a_m.1 h3
      rcases hc with rfl | ⟨m,hmm,rfl⟩
      ·obtain ⟨c,tag,b',q1,q2,q3,-⟩:=hbox hm
       have:=r7 _ b hb
       rw [q2] at this;exact .inr ⟨a_ j,by rw [q3,this]⟩
      ·obtain ⟨i0,ty,o,-,u2⟩:=hF.cover j s m0 m hm hmm
       exact absurd (f_c u2) h1
     ·refine .inl ⟨.inr ⟨k,hb⟩,fun k2 hk2 => ?_,fun k hk => by rw [hnil] at hk;simp at hk⟩
      obtain ⟨x,hx,hxb⟩:=a_O hk2
      have:=h.inj x k b hxb (r7 _ b hb)
      subst this
      rcases List.mem_append.1 (hperm.mem_iff.1 (g_q hx)) with q | q
      ·exact h2.1 q
      ·exact h3 q
 refine ⟨ownE acc sh ks tup γc2 γ1,Rel.upd hG r1 r2 W (fun _ => False) hR.os hR.tape hR.output hsm' ?_ (fun _ _ q => q.elim) ?_ ?_ ?_ ?_ ?_ ?_ ?_ ?_ ?_ ?_ (fun tag ho => ho.mono fun _ => .inl) ?_ ?_ ?_ ?_⟩
 ·
  intro b hb hk;refine hR.old b hb fun hE => ?_
  obtain ⟨x,hx,hxb⟩:=hEb b hE;exact hk x (.inl (.inl hx)) (by rw [(hsame1 hx).2];exact hxb)
 ·intro k hk
  exact E3 k (fun q => hk (.inl (List.mem_append.2 (.inl q)))) (fun q => hk (.inr (.inl q))) (fun q => hk (.inr (.inr q)))
 ·
  intro k b hk hb
  rcases hW4 k hk with q | ⟨j,s,m0,hm,rfl⟩ | q | q
  ·rw [E2 k (.inl q)] at hb;cases hb
  ·obtain ⟨c,tag,b',q1,q2,q3,q4,n1,n2,n3,-⟩:=hbox hm
   rw [E3 _ n1 n2 n3] at hb;exact .inl ⟨_,hk,hb⟩
  ·obtain ⟨i0,q',kc,ty,o,y,u1,u2,u3,-⟩:=hks q
   rw [E1 i0 kc ty o k q' u2 u1] at hb;obtain ⟨t1,t2,t3⟩:=hR.blk kc b hb
   by_cases hlt : b < w.heap.size
   ·obtain ⟨x,hx,hxb⟩:=hEb b (t3 hlt)
    exact .inl ⟨x,.inl hx,by rw [(hsame1 hx).2];exact hxb⟩
   ·exact .inr ⟨by omega,t1⟩
  ·rw [E2 k (.inr q)] at hb;cases hb
 ·
  have cls : ∀ k b,W k → ownE acc sh ks tup γc2 γ1 k = some b → (∃ j s m0,(j,s,m0) ∈ acc.bx ∧ k = a_ s ∧ γ1 k = some b ∧ γc2 (a_ j) = some b ∧ j < args.length) ∨
    (∃ kc,γc2 kc = some b ∧ ((∃ j s m0 m,(j,s,m0) ∈ acc.bx ∧ kc = cell j m ∧ k = cell s m) ∨ (∃ d,dst = some d ∧ kc = a_ args.length ∧ k = a_ d) ∨ (∃ d l,dst = some d ∧ kc = comp args.length l ∧ k = comp d l))):=by
   intro k b hk hb
   rcases hW4 k hk with q | ⟨j,s,m0,hm,rfl⟩ | q | q
   ·rw [E2 k (.inl q)] at hb;cases hb
   ·obtain ⟨c,tag,b',q1,q2,q3,q4,n1,n2,n3,-,q5⟩:=hbox hm
    rw [E3 _ n1 n2 n3] at hb
    have:=r7 _ b hb
    rw [q2] at this;exact .inl ⟨j,s,m0,hm,rfl,hb,by rw [q3,this],q5⟩
   ·obtain ⟨i0,q',kc,ty,o,y,u1,u2,u3,hc⟩:=hks q
    rw [E1 i0 kc ty o k q' u2 u1] at hb;refine .inr ⟨kc,hb,?_⟩
    rcases hc with ⟨j,s,m0,m,hb',hm',c1,c2,-⟩ | ⟨d,hdd,c1,c2,-⟩ | ⟨d,l,m,hdd,c1,c2,-⟩
    ·exact .inl ⟨j,s,m0,m,hb',c1,c2⟩
    ·exact .inr (.inl ⟨d,hdd,c1,c2⟩)
    ·exact .inr (.inr ⟨d,l,hdd,c1,c2⟩)
   ·rw [E2 k (.inr q)] at hb;cases hb
  have nobox : ∀ kc j,((∃ j s m0 m,(j,s,m0) ∈ acc.bx ∧ kc = cell j m ∧ True) ∨ (kc = a_ args.length) ∨ (∃ l,kc = comp args.length l)) → j < args.length → kc ≠ a_ j:=by
   rintro kc j (⟨j',s,m0,m,-,rfl,-⟩ | rfl | ⟨l,rfl⟩) hj he
   ·exact f_ he.symm
   ·have:=J_.1 he;omega
   ·exact x_ he.symm
  have strip : ∀ {kc k},((∃ j s m0 m,(j,s,m0) ∈ acc.bx ∧ kc = cell j m ∧ k = cell s m) ∨ (∃ d,dst = some d ∧ kc = a_ args.length ∧ k = a_ d) ∨ (∃ d l,dst = some d ∧ kc = comp args.length l ∧ k = comp d l)) →
    ((∃ j s m0 m,(j,s,m0) ∈ acc.bx ∧ kc = cell j m ∧ True) ∨ (kc = a_ args.length) ∨ (∃ l,kc = comp args.length l)):=by
   rintro kc k (⟨j,s,m0,m,h1,h2,-⟩ | ⟨d,-,h1,-⟩ | ⟨d,l,-,h1,-⟩)
   ·exact .inl ⟨j,s,m0,m,h1,h2,trivial⟩
   ·exact .inr (.inl h1)
   ·exact .inr (.inr ⟨l,h1⟩)
  intro k k' b hk hk' hb hb'
  rcases cls k b hk hb with ⟨j,s,m0,hm,e1,e2,e3,e4⟩ | ⟨kc,e1,e2⟩ <;> rcases cls k' b hk' hb' with ⟨j',s',m0',hm',f1,f2,f3,f4⟩ | ⟨kc',f1,f2⟩
  ·exact r1.inj k k' b e2 f2
  ·exact absurd (hR.inj kc' (a_ j) b f1 e3) (nobox kc' j (strip f2) e4)
  ·exact absurd (hR.inj kc (a_ j') b e1 f3) (nobox kc j' (strip e2) f4)
  ·have hkk:=hR.inj kc kc' b e1 f1
   subst hkk
   rcases e2 with ⟨j,s,m0,m,h1,h2,h3⟩ | ⟨d,h1,h2,h3⟩ | ⟨d,l,h1,h2,h3⟩ <;> rcases f2 with ⟨j',s',m0',m',i1,i2,i3⟩ | ⟨d',i1,i2,i3⟩ | ⟨d',l',i1,i2,i3⟩
   ·rw [h2] at i2
    obtain ⟨rfl,rfl⟩:=c_f.1 i2;obtain ⟨-,_,_,_,_,_,-,-,-,-,-,z1,-⟩:=hA.boxes j s m0 h1;obtain ⟨-,_,_,_,_,_,-,-,-,-,-,z2,-⟩:=hA.boxes j s' m0' i1;rw [z1] at z2;rw [h3,i3,J_.1 (Option.some.inj z2)]
   ·rw [h2] at i2;exact absurd i2.symm f_
   ·rw [h2] at i2;exact absurd i2 L_
   ·rw [h2] at i2;exact absurd i2 f_
   ·rw [h1] at i1;rw [h3,i3,Option.some.inj i1]
   ·rw [h2] at i2;exact absurd i2 x_
   ·rw [h2] at i2;exact absurd i2.symm L_
   ·rw [h2] at i2;exact absurd i2.symm x_
   ·rw [h1] at i1
    rw [h2] at i2;rw [h3,i3,Option.some.inj i1,(b_T.1 i2).2]
 ·
  intro k hk;exact G4 k (fun q => hk (.inl (List.mem_append.2 (.inl q)))) (fun q => hk (.inr (.inl q))) (fun q => hk (.inr (.inr q)))
 ·intro k e hk he
  exact hvalG k e (fun q => hk (.inr (.inl q))) he
 ·
  intro s n e he;have hpres : (σ.puts acc.fz).get (cell s n) ≠ none:=by
   by_cases hk : W (cell s n)
   ·rcases hW4 _ hk with q | ⟨j,s',m0,hm,hh⟩ | q | q
    ·exact hthere1 (List.mem_append.2 (.inl q))
    ·exact absurd hh.symm f_
    ·rcases hkst q with q' | q'
     ·exact hthere1 (List.mem_append.2 (.inr q'))
     ·obtain ⟨i0,q2,k,ty,o,y,-,-,-,hc⟩:=hks q
      rcases hc with ⟨j',s',m0',m,hb',hm',-,hh,-⟩ | ⟨d,hdd,-,hh,-⟩ | ⟨d,l,m,hdd,-,hh,-⟩
      ·rw [hh];exact hthere1 (List.mem_append.2 (.inr (a_m.2 ⟨j',s',m0',hb',.inr ⟨m,hm',rfl⟩⟩)))
      ·exact absurd hh.symm f_
      ·exact absurd hh L_
    ·obtain ⟨d,m,hdd,hh,-⟩:=htup q
     exact absurd hh.symm f_
   ·rw [G4 _ (fun q => hk (.inl (List.mem_append.2 (.inl q)))) (fun q => hk (.inr (.inl q))) (fun q => hk (.inr (.inr q)))] at he
    rw [he];simp
  obtain ⟨e0,he0⟩:=Option.ne_none_iff_exists'.1 hpres;obtain ⟨c,tag,m,hb⟩:=r1.cel s n e0 he0;exact ⟨c,tag,m,hkeep hb (by simp)⟩
 ·
  intro s n e he
  by_cases hk : W (comp s n)
  ·rcases hW4 _ hk with q | ⟨j,s',m0,hm,hh⟩ | q | q
   ·obtain ⟨e0,he0⟩:=Option.ne_none_iff_exists'.1 (hthere1 (List.mem_append.2 (.inl q)))
    obtain ⟨q',m,hb⟩:=r1.cmp s n e0 he0;exact ⟨q',m,hkeep hb (by simp)⟩
   ·exact absurd hh.symm x_
   ·obtain ⟨i0,q2,k,ty,o,y,-,-,-,hc⟩:=hks q
    rcases hc with ⟨j',s',m0',m,hb',hm',-,hh,-⟩ | ⟨d,hdd,-,hh,-⟩ | ⟨d,l,m,hdd,-,hh,-,ht⟩
    ·exact absurd hh.symm L_
    ·exact absurd hh.symm x_
    ·obtain ⟨rfl,-⟩:=b_T.1 hh
     exact ⟨p,m,G3 s m ht⟩
   ·obtain ⟨d,m,hdd,hh,-⟩:=htup q
    exact absurd hh.symm x_
  ·rw [G4 _ (fun q => hk (.inl (List.mem_append.2 (.inl q)))) (fun q => hk (.inr (.inl q))) (fun q => hk (.inr (.inr q)))] at he
   obtain ⟨q',m,hb⟩:=r1.cmp s n e he;exact ⟨q',m,hkeep hb (by simp)⟩
 ·
  intro s q c x _ hx hk;obtain ⟨n1,n2,n3⟩:=hout3 hx (by simp)
  rcases hW4 _ hk with q' | ⟨j,s',m0,hm,hh⟩ | q' | q'
  ·exact n1 q'
  ·obtain ⟨c',tag,b',q1,-⟩:=hbox hm
   have hmem : a_ s' ∈ acc.tk ++ a_k acc.bx:=List.mem_append.2 (.inr (a_m.2 ⟨j,s',m0,hm,.inl rfl⟩));rw [hh,(hsame1 hmem).1,q1] at hx;cases hx
  ·exact n2 q'
  ·exact n3 q'
 ·
  intro k hk hne
  rcases hW4 _ hk with q | ⟨j,s',m0,hm,rfl⟩ | q | q
  ·rw [G2 k q];simp
  ·obtain ⟨c',tag,b',q1,-,-,-,n1,n2,n3,-⟩:=hbox hm
   rw [G4 _ n1 n2 n3];exact hne
  ·obtain ⟨i0,q2,kc,ty,o,y,u1,u2,u3,-⟩:=hks q
   rw [G1 i0 kc ty o k q2 y u2 u1 u3];simp
  ·obtain ⟨d,m,hdd,rfl,-⟩:=htup q
   exact absurd (habs d hdd).1 hne
 ·
  intro k e tag hk he ht
  rcases hW4 _ hk with q | ⟨j,s',m0,hm,rfl⟩ | q | q
  ·rw [G2 k q] at he
   simp only [Option.some.injEq] at he;subst he;cases ht
  ·obtain ⟨c',tag',b',q1,-,-,-,n1,n2,n3,-⟩:=hbox hm
   rw [G4 _ n1 n2 n3] at he;exact (r2.tags _ e tag he ht).mono fun _ => .inl
  ·obtain ⟨i0,q2,kc,ty,o,y,u1,u2,u3,-⟩:=hks q
   rw [G1 i0 kc ty o k q2 y u2 u1 u3] at he;simp only [Option.some.injEq] at he;subst he
   cases o with
   | true =>
    simp only [f_g,AV.a_C,Option.some.injEq] at ht;subst ht;exact c_J
   | false => cases ht
  ·obtain ⟨d,m,hdd,rfl,htt⟩:=htup q
   rw [G3 d m htt] at he;simp only [Option.some.injEq] at he;subst he;simp only [AV.a_C,Option.some.injEq] at ht;subst ht;rw [htag d m htt];exact c_J
 ·
  intro k tag hk _ ho
  rcases hW4 _ hk with q | ⟨j,s',m0,hm,rfl⟩ | q | q
  ·rw [c_I,G2 k q]
   exact ⟨fun c xs hx => by (cases hx),fun c n hx => by (cases hx),fun c hx => by (cases hx)⟩
  ·obtain ⟨c',tag',b',q1,-,-,-,n1,n2,n3,-⟩:=hbox hm
   have hmem : a_ s' ∈ acc.tk ++ a_k acc.bx:=List.mem_append.2 (.inr (a_m.2 ⟨j,s',m0,hm,.inl rfl⟩));rw [c_I,G4 _ n1 n2 n3,(hsame1 hmem).1,q1,E3 _ n1 n2 n3];exact ⟨fun c xs hx => by (cases hx),fun c n hx => ⟨rfl,n,hx⟩,fun c hx => by (cases hx)⟩
  ·obtain ⟨i0,q2,kc,ty,o,y,u1,u2,u3,-⟩:=hks q
   refine c_C (D:=D) (fun e t he ht hold => ?_) ho;rw [G1 i0 kc ty o k q2 y u2 u1 u3] at he;simp only [Option.some.injEq] at he;subst he
   cases o with
   | true =>
    simp only [f_g,AV.a_C,Option.some.injEq] at ht;subst ht;exact hnotD hold
   | false => cases ht
  ·obtain ⟨d,m,hdd,rfl,htt⟩:=htup q
   refine c_C (D:=D) (fun e t he ht hold => ?_) ho;rw [G3 d m htt] at he;simp only [Option.some.injEq] at he;subst he;simp only [AV.a_C,Option.some.injEq] at ht;subst ht;rw [htag d m htt] at hold;exact hnotD hold
 ·
  intro k e h0 tag hk he hh
  rcases hW4 _ hk with q | ⟨j,s',m0,hm,rfl⟩ | q | q
  ·rw [G2 k q] at he
   simp only [Option.some.injEq] at he;subst he;cases hh
  ·obtain ⟨c',tag',b',q1,-,-,-,n1,n2,n3,-⟩:=hbox hm
   have hmem : a_ s' ∈ acc.tk ++ a_k acc.bx:=List.mem_append.2 (.inr (a_m.2 ⟨j,s',m0,hm,.inl rfl⟩));rw [G4 _ n1 n2 n3,(hsame1 hmem).1,q1] at he;simp only [Option.some.injEq] at he;subst he;cases hh
  ·obtain ⟨i0,q2,kc,ty,o,y,u1,u2,u3,-⟩:=hks q
   rw [G1 i0 kc ty o k q2 y u2 u1 u3] at he;simp only [Option.some.injEq] at he;subst he;cases o <;> cases hh
  ·obtain ⟨d,m,hdd,rfl,htt⟩:=htup q
   rw [G3 d m htt] at he;simp only [Option.some.injEq] at he;subst he;cases hh
 ·
  intro k e s b hk he hm';have viap : (s,b) ∈ p → a_w C s = false ∧ ∃ q c x,σ'.get (a_ s) = some ⟨q,.t c x⟩:=fun hm => by
   obtain ⟨h1,q,c,x,h2,-⟩:=hgd s b hm;exact ⟨h1,q,c,x,h2⟩
  rcases hW4 _ hk with q | ⟨j,s',m0,hm,rfl⟩ | q | q
  ·rw [G2 k q] at he
   simp only [Option.some.injEq] at he;subst he;simp [top] at hm'
  ·obtain ⟨c',tag',b',q1,-,-,-,n1,n2,n3,-⟩:=hbox hm
   have hmem : a_ s' ∈ acc.tk ++ a_k acc.bx:=List.mem_append.2 (.inr (a_m.2 ⟨j,s',m0,hm,.inl rfl⟩));rw [G4 _ n1 n2 n3,(hsame1 hmem).1,q1] at he;simp only [Option.some.injEq] at he;subst he;simp at hm'
  ·obtain ⟨i0,q2,kc,ty,o,y,u1,u2,u3,hc⟩:=hks q
   rw [G1 i0 kc ty o k q2 y u2 u1 u3] at he;simp only [Option.some.injEq] at he;subst he
   rcases hc with ⟨j',s',m0',m,hb',-,-,-,hq⟩ | ⟨d,hdd,-,-,hq,-⟩ | ⟨d,l,m,hdd,-,-,hq,-⟩
   ·rw [hq] at hm';simp at hm'
   ·rw [hq] at hm';exact viap hm'
   ·rw [hq] at hm';exact viap hm'
  ·obtain ⟨d,m,hdd,rfl,htt⟩:=htup q
   rw [G3 d m htt] at he;simp only [Option.some.injEq] at he;subst he;exact viap hm'
 ·
  intro hstay k e hk he
  rcases hW4 _ hk with q | ⟨j,s',m0,hm,rfl⟩ | q | q
  ·rw [G2 k q] at he
   simp only [Option.some.injEq] at he;subst he;obtain ⟨e0,he0⟩:=Option.ne_none_iff_exists'.1 (hthere1 (List.mem_append.2 (.inl q)));obtain ⟨v0,hv0,-⟩:=r1.ent k e0 he0;exact ⟨v0,by rw [hvalG k e0 (htk_ks q) he0];exact hv0,fun _ => trivial,fun q => absurd trivial q⟩
  ·obtain ⟨c',tag',b',q1,q2,q3,⟨cs,ety,q4,q5⟩,n1,n2,n3,q6,-⟩:=hbox hm
   have hmem : a_ s' ∈ acc.tk ++ a_k acc.bx:=List.mem_append.2 (.inr (a_m.2 ⟨j,s',m0,hm,.inl rfl⟩));rw [G4 _ n1 n2 n3] at he;have hv:=hvalG _ e n2 he;rw [(hsame1 hmem).1,q1] at he;simp only [Option.some.injEq] at he;subst he;refine ⟨.pointer (some ⟨b',0,none⟩),?_,fun _ => ⟨b',cs,ety,by rw [E3 _ n1 n2 n3,(hsame1 hmem).2,q2],rfl,q4,q5⟩,fun q => absurd trivial q⟩;rw [hv,i_,← q6,i_]
  ·obtain ⟨i0,q2,kc,ty,o,y,u1,u2,u3,hc⟩:=hks q
   rw [G1 i0 kc ty o k q2 y u2 u1 u3] at he;simp only [Option.some.injEq] at he;subst he;obtain ⟨v2,hv2,hr2,-⟩:=hR.ent kc _ (hout i0 kc ty o y u2 u3);have hval2 : s_ (tmOf dst tm v) w' (ownE acc sh ks tup γc2 γ1) k = some v2:=by
    rcases hc with ⟨j',s',m0',m,hb',hm',rfl,rfl,-⟩ | ⟨d,hdd,rfl,rfl,-,-⟩ | ⟨d,l,m,hdd,rfl,rfl,-,-⟩
    ·obtain ⟨c',tag',b',q1,q2,q3,-,n1,n2,n3,-⟩:=hbox hb'
     have hmem : a_ s' ∈ acc.tk ++ a_k acc.bx:=List.mem_append.2 (.inr (a_m.2 ⟨j',s',m0',hb',.inl rfl⟩));simp only [s_,cell,q3,Option.bind_some] at hv2;have hE : ownE acc sh ks tup γc2 γ1 (a_ s') = some b' := by rw [E3 _ n1 n2 n3,(hsame1 hmem).2,q2]
     simp only [s_,cell,hE,Option.bind_some];exact hv2
    ·rw [i_] at hv2 ⊢
     rw [hpush] at hv2;rw [htmd d hdd];exact hv2
    ·simp only [s_,comp] at hv2 ⊢
     rw [hpush] at hv2;rw [htmd d hdd];exact hv2
   refine ⟨v2,hval2,fun _ => ?_,fun hn => ?_⟩
   ·have hr3:=hr2 trivial
    cases o with
    | false =>
     show V C.tab w' _ ty v2 y
     have hr4 : V C.tab w' (Ob (frC fr acc mp γ γ1 w) γc2) ty v2 y:=hr3
     rcases hln with hln | hln
     ·exact hr4.mono fun b _ hb => ⟨rfl,fun q => hb (hObE hln b q)⟩
     ·exact t_Z (hln i0 kc ty _ u2) hr4
    | true =>
     show Own C.tab w' _ ty v2 (ownE acc sh ks tup γc2 γ1 k) y.list
     have hr4 : Own C.tab w' (Ob (frC fr acc mp γ γ1 w) γc2) ty v2 (γc2 kc) y.list:=hr3;rw [E1 i0 kc ty _ k q2 u2 u1]
     rcases hln with hln | hln
     ·exact hr4.mono (fun b _ hb => ⟨rfl,fun q => hb (hObE hln b q)⟩) fun _ _ => rfl
     ·obtain ⟨c1,t1,f1,f2⟩:=hln i0 kc ty _ u2
      obtain ⟨t2,e2,ce2,te2,g1,g2,-⟩:=hr4
      have:=e_ f1 g1
      simp only [Prod.mk.injEq] at this;rw [this.2] at f2
      rcases f2 with ⟨k0,f2⟩ | f2 | f2 <;> rw [g2] at f2 <;> cases f2
   ·refine absurd ?_ hn
    rcases hc with ⟨j',s',m0',m,hb',-,-,-,hq⟩ | ⟨d,hdd,-,-,hq,-⟩ | ⟨d,l,m,hdd,-,-,hq,-⟩
    ·rw [hq];trivial
    ·rw [hq];exact hH
    ·rw [hq];exact hH
  ·obtain ⟨d,m,hdd,rfl,htt⟩:=htup q
   rw [G3 d m htt] at he;simp only [Option.some.injEq] at he;subst he;refine ⟨v,by rw [i_];exact htmd d hdd,fun _ => ?_,fun hn => absurd hH hn⟩
   rcases hF.tup with ⟨hh,-⟩ | ⟨d',m',-,-,hts⟩
   ·rw [hh] at htt;cases htt
   ·have hget : (b_j acc.args sh ys).get (a_ args.length) = some (top (.tup 0)):=by
     unfold b_j;rw [a_n];have hb : (b_s 0 acc.args).get (a_ args.length) = none:=by
      cases hbx : (b_s 0 acc.args).get (a_ args.length) with
      | none => rfl
      | some e =>
       obtain ⟨t,ht,-,hlt⟩:=f_5 _ _ _ _ hbx;rw [hA.len,Nat.zero_add] at hlt
       have:=J_.1 ht
       omega
     rw [hb];simp only;rw [a_n,hA.len,hts];simp [St.get,Key.a_u]
    obtain ⟨v2,hv2,hr2,-⟩:=hR.ent _ _ hget;rw [i_,hpush] at hv2;simp only [Option.some.injEq] at hv2;subst hv2;exact hr2 trivial
end
end Go.Pl
