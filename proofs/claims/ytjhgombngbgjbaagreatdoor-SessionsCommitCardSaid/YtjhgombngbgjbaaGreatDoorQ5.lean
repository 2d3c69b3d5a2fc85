/- Part 5 of 11. What a session has committed at any time is the beginning of what it commits later, and of the path at its end (SessionsCommit), for every input; no condition. Names are shortened and spaces left out by program, for the size. -/
import Derived.Test.YtjhgombngbgjbaaGreatDoorQ4
import Derived.LoopN
set_option linter.unusedVariables false
set_option linter.unusedSimpArgs false
set_option linter.unusedSectionVars false
set_option linter.constructorNameAsVariable false
set_option maxRecDepth 100000
namespace Go.Pl
section
variable {P : Program} {C : Ctx} {fr : Fr} {tm : Array Value} {w w' : World} {σ : St} {γ : Key → Option Nat} {D : Nat → Prop}
theorem m_f {sh : Shape} {i : Nat} {k : Key} {ty : TypeId} {o : Bool} (h : sh[i]? = some (k,ty,o)) : k ∈ b_p sh:=by
 induction sh generalizing i with
 | nil => simp at h
 | cons b sh ih =>
  obtain ⟨kb,tb,ob⟩:=b
  cases i with
  | zero => simp at h;simp [b_p,h.1]
  | succ i =>
   simp only [List.getElem?_cons_succ] at h;simp only [b_p,List.mem_cons];exact .inr (ih h)
theorem e_A (n d : Nat) (p : Path) : ∀ (rs : List TypeId) (j : Nat) (own : List Bool),(b_l n j rs own).length = rs.length ∧ (c_Y d p j rs).length = rs.length ∧
  ∀ (i : Nat) k ty o,(b_l n j rs own)[i]? = some (k,ty,o) → k = comp n (j + i) ∧ rs[i]? = some ty ∧ (c_Y d p j rs)[i]? = some (comp d (j + i),p):=by
 intro rs
 induction rs with
 | nil => intro j own;exact ⟨by cases own <;> rfl,rfl,fun i k ty o hi => by cases own <;> simp [b_l] at hi⟩
 | cons r rs ih =>
  intro j own;obtain ⟨h1,h2,h3⟩:=ih (j + 1) own.tail;refine ⟨by simp [b_l,h1],by simp [c_Y,h2],fun i k ty o hi => ?_⟩
  cases i with
  | zero =>
   simp only [b_l,List.getElem?_cons_zero,Option.some.injEq,Prod.mk.injEq] at hi;exact ⟨hi.1.symm,by simp [hi.2.1],rfl⟩
  | succ i =>
   simp only [b_l,List.getElem?_cons_succ] at hi;obtain ⟨q1,q2,q3⟩:=h3 i k ty o hi;rw [show j + (i + 1) = j + 1 + i by omega];exact ⟨q1,by simpa using q2,by simpa [c_Y] using q3⟩
theorem g_j : ∀ (rs : List TypeId),h_d C rs = true → ∀ ty ∈ rs,k_A C.tab ty:=by
 intro rs
 induction rs with
 | nil => intro _ ty hm;simp at hm
 | cons r rs ih =>
  intro h ty hm;simp only [h_d] at h;split at h
  ·rename_i c ti hc
   have hk : ((∃ k,ti.k = .int k) ∨ ti.k = .bool ∨ ti.k = .str) ∧ h_d C rs = true:=by
    split at h
    ·rename_i k hk;exact ⟨.inl ⟨k,hk⟩,h⟩
    ·rename_i hk;exact ⟨.inr (.inl hk),h⟩
    ·rename_i hk;exact ⟨.inr (.inr hk),h⟩
    ·cases h
   rcases List.mem_cons.1 hm with rfl | hm
   ·exact ⟨c,ti,hc,hk.1⟩
   ·exact ih hk.2 ty hm
  ·cases h
theorem e_t {rs : List TypeId} {m : Mode} (h : d_h C rs m = true) : h_d C rs = true ∧ m.boxes = []:=by
 unfold d_h at h;split at h
 ·rename_i h1
  refine ⟨h1,?_⟩;unfold noBx at h;split at h
  ·rename_i hb;exact hb
  ·cases h
 ·cases h
theorem f_V {o : Oper} {c : Call} {f : FuncId} {vals : Array Value} {K : Act → World → Prop} {Q : Exit → Act → World → Prop} (ho : o.op = .call c) (hc : c.callee = .value (.func f)) (hv : c.args.map (Act.eval ⟨tm,[]⟩) = vals)
  (h : CallsF P f vals w fun v w' => K (Act.put ⟨tm,[]⟩ o.dst v) w') : o.wp P ⟨tm,[]⟩ w K Q:=by
 have hex : (execOp (Act.eval ⟨tm,[]⟩) o).run P w = (callFunc f vals).run P w:=by
  rw [← hv];simp [execOp,ho,resolve,hc,Act.eval,Deferred.ofValue,invoke]
 unfold Oper.wp;rw [hex];unfold CallsF at h;split at h
 ·rename_i g as w1 he
  rw [he]
  show Calls P g as w1 _
  refine Calls.mono h ?_;rintro e w2 ⟨v,rfl,hr⟩;exact hr
 ·rename_i v w1 he
  rw [he];exact h
 ·exact h.elim
theorem s_O : ∀ (xs : List Operand) (ts : List TypeId) (i : Nat) x ty,(c_4 xs ts)[i]? = some (x,ty) → xs[i]? = some x:=by
 intro xs
 induction xs with
 | nil => intro ts i x ty h;cases ts <;> simp [c_4] at h
 | cons a xs ih =>
  intro ts i x ty h
  cases ts with
  | nil => simp [c_4] at h
  | cons t ts =>
   cases i with
   | zero => simp [c_4] at h;simp [h.1]
   | succ i =>
    simp only [c_4,List.getElem?_cons_succ] at h;simpa using ih ts i x ty h
end
section
variable {P : Program} {C : Ctx} {fr : Fr} {tm : Array Value} {w : World} {σ : St} {γ : Key → Option Nat} {D : Nat → Prop}
 (hG : Good P C.tab) (h : Rel C.tab fr tm w σ γ) (hwf : Wf C D σ) (hsz : tm.size = C.nt) {i : Nat} (hi : ¬ D i) {o : Oper} {p : Path} (hp : σ.Holds p)
 (hpp : ∀ s b,(s,b) ∈ p → a_w C s = false ∧ ∃ q c x,σ.get (a_ s) = some ⟨q,.t c x⟩) {K : St → Prop} {Q : Exit → Act → World → Prop}
include hG h hwf hsz hi hp hpp
theorem b_G {cal : Cal} {f : FuncId} {args : List (Operand × TypeId)} {vals : Array Value} (hvn : vals.size = args.length)
  (hvals : ∀ (i : Nat) x ty,args[i]? = some (x,ty) → vals[i]? = some (ev tm x))
  (hwp : ∀ {K' : Act → World → Prop},CallsF P f vals w (fun v w' => K' (Act.put ⟨tm,[]⟩ o.dst v) w') → o.wp P ⟨tm,[]⟩ w K' Q)
  {acc : Acc} {mp : KMap} {sh : Shape} (hcal : ∀ ys,FnC P C.tab cal acc.args sh ys → Fn P C.tab f acc.args sh ys)
  (hA : ArgsP C tm w (Ob fr γ) σ γ 0 args acc mp) {ks : List (Key × Path)} {tup : List (Key × Ent)} (hd : ∀ d,o.dst = some d → d < tm.size ∧ σ.get (a_ d) = none)
  (hF : acc.ok sh ks = true → Form acc args.length p o.dst sh ks tup) (htg : ∀ d m,tup = [(a_ d,⟨p,.tup m⟩)] → m = i + 1) (hln : acc.ln = [] ∨ ∀ (i : Nat) k ty b,sh[i]? = some (k,ty,b) → k_A C.tab ty) :
  Sound P C fr tm w σ D i o p K Q ((e_k i cal acc tup sh ks).run σ):=by
 unfold e_k;split
 ·rename_i hok
  intro hW;obtain ⟨ys,hys,hfn,hK⟩:=h_L.1 hW;have hFn : Fn P C.tab f acc.args sh ys:=hcal ys (d_Q hfn hp);obtain ⟨γ1,r1,r2,r3,r4,r5,r6,r7,r8⟩:=Rel.frz hG h hwf hA.frzs;obtain ⟨s1,s2⟩:=l_C hG h hA hok r1 r5 r6 hvals;refine hwp ?_;refine CallsF.mono (hFn.run w (n_Q fr acc mp γ γ1) _ (ownC mp γ) (by rw [hvn,hA.len]) s1) ?_;rintro v w' ⟨γc2,hR⟩;obtain ⟨γ',t1,t2⟩:=o_D hG h hi htg hA hok hp hpp hd (hF hok) hln hvn hvals hys r1 r2 r3 r4 r7 hR;have htm : (Act.put ⟨tm,[]⟩ o.dst v).tmps = tmOf o.dst tm v:=by
   cases o.dst <;> rfl
  have hdf : (Act.put ⟨tm,[]⟩ o.dst v).defers = []:=by
   cases o.dst <;> rfl
  have hts : (tmOf o.dst tm v).size = C.nt:=by
   cases o.dst <;> simp [tmOf,hsz]
  have hK' : K (((σ.puts acc.fz).puts (d_t acc.tk ++ tup)).puts (a_K (i + 1) sh ks ys)):=by
   simp only [B_] at hK ⊢;exact hK
  exact ⟨hdf,by rw [htm];exact hts,_,γ',hK',by rw [htm];exact t1,t2⟩
 ·exact b_
omit hG h hwf hsz hi hp hpp in
theorem c_s {c : Call} {args : List (Operand × TypeId)} (hargs : args = c_4 c.args.toList c.argTypes.toList) (hal : args.length = c.args.size) :
  (c.args.map (Act.eval ⟨tm,[]⟩)).size = args.length ∧ ∀ (i : Nat) x ty,args[i]? = some (x,ty) → (c.args.map (Act.eval ⟨tm,[]⟩))[i]? = some (ev tm x):=by
 refine ⟨by rw [Array.size_map,hal],fun j x ty hj => ?_⟩;rw [hargs] at hj
 have:=s_O _ _ _ _ _ hj
 rw [Array.getElem?_toList] at this;rw [Array.getElem?_map,this];rfl
theorem j_v {c : Call} {f : FuncId} {args : List (Operand × TypeId)} (ho : o.op = .call c) (hc : c.callee = .value (.func f)) (hargs : args = c_4 c.args.toList c.argTypes.toList) (hal : args.length = c.args.size) (rs : List TypeId) :
  Sound P C fr tm w σ D i o p K Q ((q_m C i p o f args rs).run σ):=by
 unfold q_m;split
 ·rename_i x0 t0 x1 t1 rf rb
  refine o_ _ _ b_ fun d hd hn _ habs => ?_
  refine X_ hG h [] trivial x0 t0 b_ fun ko a hx => ?_
  refine a_F hG h [] trivial x1 t1 b_ fun c1 v1 hs => ?_
  split
  ·rename_i cf tf cb tb hcf hcb
   have hcf' := (hG _ _ _ hcf).self;have hcb' := (hG _ _ _ hcb).self;split
   ·rename_i htf htb hk1
    obtain ⟨e1,e2,e3⟩:=hs.int (k:=.i64) (by unfold Ctx.ik;rw [hk1];rfl);have hv:=c_s (tm:=tm) hargs hal;have main : ∀ (k : Int) (g : Option FuncId) (a0 : AV) (b : Nat),ev tm x0 = .pointer (some ⟨b,0,none⟩) → ev tm x1 = .int .i64 k → f_E P f k g →
      ((∃ y,a0 = .t cf y ∧ y = .z ∧ g = none) ∨ ∃ s tag g0 cB n,a0 = .ptr s tag (mthB + g0) ∧ g = some g0 ∧ σ.get (a_ s) = some ⟨[],.box cB tag n⟩ ∧ γ (a_ s) = some b) →
      K (σ.puts [(a_ d,top (.tup (i + 1))),(comp d 0,top a0),(comp d 1,top (.t cb (.b (o_A g))))]) → o.wp P ⟨tm,[]⟩ w (After C fr (fun j => D j ∨ j = i) K) Q:=by
     intro k g a0 b hx0 hx1 hB ha0 hK;have hvals : c.args.map (Act.eval ⟨tm,[]⟩) = #[.pointer (some ⟨b,0,none⟩),.int .i64 k]:=by
      apply Array.ext
      ·rw [hv.1];rfl
      ·intro j h1 h2
       have hj2 : j < 2:=by simpa using h2
       match j,hj2 with
       | 0,_ =>
        have:=hv.2 0 x0 t0 rfl
        rw [Array.getElem?_eq_getElem h1] at this;rw [Option.some.inj this,hx0];rfl
       | 1,_ =>
        have:=hv.2 1 x1 t1 rfl
        rw [Array.getElem?_eq_getElem h1] at this;rw [Option.some.inj this,hx1];rfl
     refine f_V ho hc hvals (CallsF.mono (hB ⟨b,0,none⟩ w) ?_);rintro v w' ⟨hw,rfl⟩;have hw:=hw.symm;subst hw;have hne : ∀ {s : Nat} {e : Ent},σ.get (a_ s) = some e → s ≠ d:=by
      rintro s e he rfl;rw [habs] at he;cases he
     obtain ⟨v0,hv0⟩ : ∃ v0,v0 = q_n ⟨b,0,none⟩ g:=⟨_,rfl⟩;obtain ⟨bb,hbb⟩ : ∃ bb,bb = o_A g:=⟨_,rfl⟩;rw [← hbb] at hK;rw [← hv0,← hbb];have hnew : (tm.setIfInBounds d (.tuple #[v0,.bool bb]))[d]? = some (.tuple #[v0,.bool bb]):=by simp [hsz,hn]
     let T : Key → Prop:=fun k => k = a_ d ∨ k = comp d 0 ∨ k = comp d 1
     let A : Key → AV:=fun k => if k.tag = 0 then .tup (i + 1) else if k.b = 0 then a0 else .t cb (.b bb)
     have hold : ∀ s,s ≠ d → (tm.setIfInBounds d (.tuple #[v0,.bool bb]))[s]? = tm[s]? := fun s hs => by
      rw [Array.getElem?_setIfInBounds,if_neg (Ne.symm hs)]
     have hTs : ∀ s,T (a_ s) → s = d:=by
      rintro s (q | q | q)
      ·exact J_.1 q
      ·exact absurd q x_
      ·exact absurd q x_
     classical
     have hput : ∀ k,(σ.puts [(a_ d,top (.tup (i + 1))),(comp d 0,top a0),(comp d 1,top (.t cb (.b bb)))]).get k = if T k then some (top (A k)) else σ.get k:=by
      intro k;simp only [St.puts]
      by_cases h2 : k = comp d 1
      ·subst h2
       rw [j_,if_pos (.inr (.inr rfl))];rfl
      ·rw [m_ h2]
       by_cases h1 : k = comp d 0
       ·subst h1
        rw [j_,if_pos (.inr (.inl rfl))];rfl
       ·rw [m_ h1]
        by_cases h0 : k = a_ d
        ·subst h0
         rw [j_,if_pos (.inl rfl)];rfl
        ·rw [m_ h0,if_neg (by rintro (q | q | q);exact h0 q;exact h1 q;exact h2 q)]
     let γ' : Key → Option Nat:=fun k => if T k then none else γ k
     have gkeep : ∀ {s : Nat} {e : Ent},σ.get (a_ s) = some e → γ' (a_ s) = γ (a_ s):=by
      intro s e he
      show (if T (a_ s) then _ else _) = _
      rw [if_neg fun q => hne he (hTs s q)]
     obtain ⟨r1,r2⟩:=Rel.gives (tm' := tm.setIfInBounds d (.tuple #[v0,.bool bb])) (w' := w) (σ' := σ.puts [(a_ d,top (.tup (i + 1))),(comp d 0,top a0),(comp d 1,top (.t cb (.b bb)))]) (γ' := γ') hG h hwf hi T (fun _ => False) (fun _ => False) A (fun _ => none) rfl rfl rfl rfl (fun _ _ => rfl) (fun _ q => q.elim)
      (fun k hk => by rw [hput,if_pos hk]) (fun _ q => q.elim) (fun k hk _ => by rw [hput,if_neg hk])
      (fun k hk => if_pos hk) (fun _ q => q.elim) (fun k hk _ => if_neg hk) (fun _ q => q.elim) (fun _ _ _ q => by cases q) (fun _ _ _ _ _ q => by cases q)
      (by
       rintro k (rfl | rfl | rfl)
       ·exact ⟨_,by rw [i_];exact hnew,.inr (.inr (.inl ⟨rfl,.inl ⟨_,rfl⟩⟩))⟩
       ·refine ⟨v0,by simp only [s_,comp,hnew];rfl,?_⟩
        show ((∃ c y,a0 = .t c y ∧ _) ∨ _)
        rcases ha0 with ⟨y,rfl,rfl,hg⟩ | ⟨s,tag,g0,cB,n,rfl,hg,hs,hb⟩
        ·refine .inl ⟨cf,.z,rfl,?_⟩
         have : v0 = .nilFunc:=by rw [hv0,hg];rfl
         rw [this];exact b_8 hcf' (by simp [TI.isS,htf]) (U_ hG hcf' (by simp [TI.isS,htf])) rfl rfl (.fn hcf' htf)
        ·refine .inr (.inr (.inr (.inl ⟨s,tag,mthB + g0,rfl,by rw [hs];simp,fun q => hne hs (hTs s q),fun q => q,hwf.tags _ _ tag hs rfl,?_⟩)))
         intro cb' n' hx;refine ⟨b,hb,?_⟩;rw [l_c,hv0,hg];rfl
       ·refine ⟨.bool bb,by simp only [s_,comp,hnew];rfl,.inl ⟨cb,.b bb,rfl,f_4 hG hcb' htb⟩⟩)
      (fun s hs => by rw [hTs s hs];exact habs)
      (by rintro s n (q | q | q)
          ·exact absurd q.symm f_
          ·exact absurd q L_
          ·exact absurd q L_)
      (by rintro s j (q | q | q)
          ·exact absurd q.symm x_
          ·exact .inr ⟨.inl (by rw [(b_T.1 q).1]),rfl⟩
          ·exact .inr ⟨.inl (by rw [(b_T.1 q).1]),rfl⟩)
      (fun k e hk he => by
       refine a_S (fun ht => ?_) (fun ht => ?_)
       ·refine hold _ fun e' => ?_
        by_cases h0 : k.tag = 0
        ·exact hk (.inl (by rw [b_N h he h0,e']))
        ·obtain ⟨v0,hv0,-⟩:=h.ent k e he
         have h2 : k.tag = 2:=by
          obtain ⟨t,a,b⟩:=k;unfold s_ at hv0
          match t with
          | 0 => exact absurd rfl h0
          | 1 => exact absurd rfl ht
          | 2 => rfl
          | n + 3 => cases hv0
         obtain ⟨-,q',m,hh⟩:=c_R h he h2;rw [e',habs] at hh;cases hh
       ·obtain ⟨hkc,c',tag',m,hbx⟩:=a_0 h he ht
        exact ⟨gkeep hbx,fun _ _ => rfl⟩)
     rw [hd];exact ⟨rfl,by simp [Act.put,hsz],_,_,hK,r1,r2⟩
    have fin : ∀ s tag b cB n,σ.get (a_ s) = some ⟨[],.box cB tag n⟩ → γ (a_ s) = some b → ev tm x0 = .pointer (some ⟨b,0,none⟩) → Sound P C fr tm w σ D i o [] K Q ((h_G C i f d s tag cf cb v1).run σ):=by
     intro s tag b cB n hsl hb hx0;unfold h_G;split
     ·rintro ⟨hB,hK⟩
      exact main v1.int none (.t cf .z) b hx0 e1 hB (.inl ⟨.z,rfl,rfl,rfl⟩) hK
     ·rename_i g hg
      rintro ⟨hB,hK⟩;exact main v1.int (some g) (.ptr s tag (mthB + g)) b hx0 e1 hB (.inr ⟨s,tag,g,cB,n,rfl,rfl,hsl,hb⟩) hK
    cases hx with
    | const => exact b_
    | nil => exact b_
    | tmp s e hx he hsub hav =>
     cases hav' : e.av with
     | box c' tag n =>
      rw [hav'] at hav;obtain ⟨b,cs,ety,hb,hvv,-⟩:=hav
      cases hpath : e.path with
      | cons => exact b_
      | nil => exact fin s tag b c' n (by rw [he,← hpath,← hav']) hb hvv
     | ptr s' tag c0 =>
      rw [hav'] at hav
      cases c0 with
      | succ => exact b_
      | zero =>
       refine b_v s' tag b_ fun cB n hbx => ?_
       obtain ⟨b,hb,hvv⟩:=hav cB n hbx;exact fin s' tag b cB n hbx hb hvv
     | _ => exact b_
   ·exact b_
  ·exact b_
 ·exact b_
theorem j_z {c : Call} {f : FuncId} {args : List (Operand × TypeId)} (ho : o.op = .call c) (hc : c.callee = .value (.func f)) (hargs : args = c_4 c.args.toList c.argTypes.toList) (hal : args.length = c.args.size) :
  Sound P C fr tm w σ D i o p K Q ((q_q C i p o f args).run σ):=by
 unfold q_q;split
 ·exact b_
 ·rename_i ps rs hsig
  simp only;split
  ·exact j_v hG h hwf hsz hi hp hpp ho hc hargs hal rs
  have hback : ∀ {acc : Acc} {mp : KMap} {k : Key} {ty : TypeId} {b : Bool} {n : Nat} {dst : Option Nat} {tup : List (Key × Ent)},ArgsP C tm w (Ob fr γ) σ γ 0 args acc mp → ∀ (i : Nat),acc.sh[i]? = some (k,ty,b) → ∃ k' q,acc.ks[i]? = some (k',q) ∧
    ((∃ j s m0 m,(j,s,m0) ∈ acc.bx ∧ m < m0 ∧ k = cell j m ∧ k' = cell s m ∧ q = []) ∨ (∃ d,dst = some d ∧ k = a_ n ∧ k' = a_ d ∧ q = p ∧ tup = []) ∨
     (∃ d l m,dst = some d ∧ k = comp n l ∧ k' = comp d l ∧ q = p ∧ tup = [(a_ d,⟨p,.tup m⟩)])):=by
   intro acc mp k ty b n dst tup hA i hi;obtain ⟨j',s,m0,m,q1,q2,q3,q4⟩:=hA.backs.2 i k ty b hi;exact ⟨_,_,q4,.inl ⟨j',s,m0,m,q1,q2,q3,rfl,rfl⟩⟩
  have hcover : ∀ {acc : Acc} {mp : KMap},ArgsP C tm w (Ob fr γ) σ γ 0 args acc mp → ∀ j s m0 m,(j,s,m0) ∈ acc.bx → m < m0 → ∃ (i : Nat) (ty : TypeId) (o : Bool),acc.sh[i]? = some (cell j m,ty,o) ∧ acc.ks[i]? = some (cell s m,[]):=by
   intro acc mp hA j s m0 m hm hlt;obtain ⟨-,_,_,_,_,_,-,-,-,-,-,-,-,q⟩:=hA.boxes j s m0 hm;exact q m hlt
  split
  ·split
   ·rename_i hdst
    refine c_v hG h hp _ _ args 0 b_ fun acc mp hA hl hb => ?_
    refine b_G (f:=f) hG h hwf hsz hi hp hpp (c_s hargs hal).1 (c_s hargs hal).2 (fun hh => f_V ho hc rfl hh) (cal:=.f f) (fun _ q => q) hA (fun d hd => by rw [hdst] at hd;cases hd) (fun _ => ⟨?_,hcover hA,.inl ⟨rfl,?_⟩⟩) (fun _ _ q => by cases q) ?_
    ·intro i k ty b hi;exact hback hA i hi
    ·cases hs : acc.sh with
     | nil => rfl
     | cons a r =>
      obtain ⟨k,ty,b⟩:=a;obtain ⟨j',s,m0,m,-,-,rfl,-⟩:=hA.backs.2 0 k ty b (by rw [hs];rfl);rfl
    ·cases hk : d_h C [] ((look C.modes f).getD b_D) with
     | false => exact .inl (hl hk)
     | true =>
      right
      intro i k ty b hi;rw [hb (e_t hk).2] at hi;simp at hi
   ·exact b_
  ·rename_i r
   refine o_ _ _ b_ fun d hd hn hv habs => ?_
   refine c_v hG h hp _ _ args 0 b_ fun acc mp hA hl hb => ?_
   refine b_G (f:=f) hG h hwf hsz hi hp hpp (c_s hargs hal).1 (c_s hargs hal).2 (fun hh => f_V ho hc rfl hh) (cal:=.f f) (fun _ q => q) hA (fun d' hd' => by
    rw [hd] at hd';simp only [Option.some.injEq] at hd';subst hd';exact ⟨by rw [hsz];exact hn,habs⟩) (fun _ => ⟨?_,?_,.inl ⟨rfl,rfl⟩⟩) (fun _ _ q => by cases q) ?_
   ·intro i k ty b hi
    cases i with
    | zero =>
     simp only [List.getElem?_cons_zero,Option.some.injEq,Prod.mk.injEq] at hi;exact ⟨a_ d,p,rfl,.inr (.inl ⟨d,hd,hi.1.symm,rfl,rfl,rfl⟩)⟩
    | succ i =>
     rw [List.getElem?_cons_succ] at hi ⊢;exact hback hA i hi
   ·intro j s m0 m hm hlt
    obtain ⟨i,ty,b,q1,q2⟩:=hcover hA j s m0 m hm hlt;exact ⟨i + 1,ty,b,by simpa using q1,by simpa using q2⟩
   ·cases hk : d_h C [r] ((look C.modes f).getD b_D) with
    | false => exact .inl (hl hk)
    | true =>
     right
     obtain ⟨q1,q2⟩:=e_t hk;intro i k ty b hi;rw [hb q2] at hi
     cases i with
     | zero =>
      simp only [List.getElem?_cons_zero,Option.some.injEq,Prod.mk.injEq] at hi;rw [← hi.2.1];exact g_j [r] q1 r (by simp)
     | succ i => simp at hi
  ·rename_i hne1 hne2
   refine o_ _ _ b_ fun d hd hn hv habs => ?_
   refine c_v hG h hp _ _ args 0 b_ fun acc mp hA hl hb => ?_
   obtain ⟨l1,l2,l3⟩:=e_A args.length d p rs 0 ((look C.modes f).getD b_D).own;refine b_G (f:=f) hG h hwf hsz hi hp hpp (c_s hargs hal).1 (c_s hargs hal).2 (fun hh => f_V ho hc rfl hh) (cal:=.f f) (fun _ q => q) hA (fun d' hd' => by
    rw [hd] at hd';simp only [Option.some.injEq] at hd';subst hd';exact ⟨by rw [hsz];exact hn,habs⟩) (fun _ => ⟨?_,?_,.inr ⟨d,i + 1,hd,rfl,?_⟩⟩) (fun _ _ q => by simp at q;exact q.2.symm) ?_
   ·intro i k ty b hi
    by_cases hlt : i < rs.length
    ·rw [List.getElem?_append_left (by omega)] at hi ⊢
     obtain ⟨q1,-,q3⟩:=l3 i k ty b hi;exact ⟨_,_,q3,.inr (.inr ⟨d,_,_,hd,q1,rfl,rfl,rfl⟩)⟩
    ·rw [List.getElem?_append_right (by omega)] at hi ⊢
     rw [l1] at hi;rw [l2];exact hback hA _ hi
   ·intro j s m0 m hm hlt
    obtain ⟨i,ty,b,q1,q2⟩:=hcover hA j s m0 m hm hlt;exact ⟨rs.length + i,ty,b,by rw [List.getElem?_append_right (by omega),l1,show rs.length + i - rs.length = i by omega];exact q1,by rw [List.getElem?_append_right (by omega),l2,show rs.length + i - rs.length = i by omega];exact q2⟩
   ·cases rs with
    | nil => exact absurd rfl hne1
    | cons r rs => rfl
   ·cases hk : d_h C rs ((look C.modes f).getD b_D) with
    | false => exact .inl (hl hk)
    | true =>
     right
     obtain ⟨q1,q2⟩:=e_t hk;intro i k ty b hi;rw [hb q2,List.append_nil] at hi;obtain ⟨-,q3,-⟩:=l3 i k ty b hi;exact g_j rs q1 ty (List.mem_of_getElem? q3)
omit hG h hwf hsz hi hp hpp in
theorem ArgsP.append {O : Nat → Prop} {j : Nat} {args : List (Operand × TypeId)} {acc : Acc} {mp : KMap} (hA : ArgsP C tm w O σ γ j args acc mp) {args2 : List (Operand × TypeId)} {as2 : List Arg}
  (h2 : ArgsP C tm w O σ γ (j + args.length) args2 { Acc.nil with args:=as2 } []) : ArgsP C tm w O σ γ j (args ++ args2) { acc with args:=acc.args ++ as2 } mp:=by
 induction hA with
 | nil j => exact h2
 | t j x ty r acc mp c y hV hr ih => exact .t j x ty _ _ mp c y hV (ih (by rw [List.length_cons] at h2;rw [show j + 1 + r.length = j + (r.length + 1) by omega];exact h2))
 | pl j x ty r acc mp c y hV hr ih => exact .pl j x ty _ _ mp c y hV (ih (by rw [List.length_cons] at h2;rw [show j + 1 + r.length = j + (r.length + 1) by omega];exact h2))
 | frz j x ty r acc mp c y k e hf hV hr ih => exact .frz j x ty _ _ mp c y k e hf hV (ih (by rw [List.length_cons] at h2;rw [show j + 1 + r.length = j + (r.length + 1) by omega];exact h2))
 | lend j x ty r acc mp c y k hV hr ih => exact .lend j x ty _ _ mp c y k hV (ih (by rw [List.length_cons] at h2;rw [show j + 1 + r.length = j + (r.length + 1) by omega];exact h2))
 | lends j x ty r acc mp c y k hV hr ih => exact .lends j x ty _ _ mp c y k hV (ih (by rw [List.length_cons] at h2;rw [show j + 1 + r.length = j + (r.length + 1) by omega];exact h2))
 | own j x ty r acc mp c xs k hk hO hr ih => exact .own j x ty _ _ mp c xs k hk hO (ih (by rw [List.length_cons] at h2;rw [show j + 1 + r.length = j + (r.length + 1) by omega];exact h2))
 | ownNil j x ty r acc mp c xs hO hr ih => exact .ownNil j x ty _ _ mp c xs hO (ih (by rw [List.length_cons] at h2;rw [show j + 1 + r.length = j + (r.length + 1) by omega];exact h2))
 | box j x ty r acc mp s c n tag b as sh ks hs hb hv hl hc hsl hkl hsk hr ih => exact .box j x ty _ _ mp s c n tag b as sh ks hs hb hv hl hc hsl hkl hsk (ih (by rw [List.length_cons] at h2;rw [show j + 1 + r.length = j + (r.length + 1) by omega];exact h2))
omit hG h hwf hsz hi hp hpp in
theorem m_Q {O : Nat → Prop} : ∀ (xs : List T) (vs : List Value) (j : Nat),vs.length = xs.length → (∀ (i : Nat) x v,xs[i]? = some x → vs[i]? = some v → ∃ c y a,x = .e c y ∧ v = .pointer (some a) ∧ At C.tab w O c a y) →
  ArgsP C tm w O σ γ j (vs.map fun v => (Operand.const v,0)) { Acc.nil with args:=xs.map k_E } []:=by
 intro xs
 induction xs with
 | nil =>
  intro vs j hl _
  cases vs with
  | nil => exact .nil j
  | cons => simp at hl
 | cons x xs ih =>
  intro vs j hl hx
  cases vs with
  | nil => simp at hl
  | cons v vs =>
   obtain ⟨c,y,a,rfl,rfl,hAt⟩:=hx 0 x v rfl rfl;exact .pl j _ 0 _ _ [] c y ⟨a,rfl,hAt⟩ (ih vs (j + 1) (by simpa using hl) fun i x v hxi hvi => hx (i + 1) x v (by simpa using hxi) (by simpa using hvi))
omit hG h hwf hsz hi hp hpp in
theorem V_fn {O : Nat → Prop} {c : TypeId} {ti : TI} {v : Value} {y : T} (h : C.tab.at c = some (c,ti)) (hk : ti.k = .fn) (hv : V C.tab w O c v y) :
  y = .z ∨ ∃ f xs caps,y = .f f xs ∧ v = .func (.func f) #[] caps ∧ caps.size = xs.length ∧ ∀ (i : Nat) x u,xs[i]? = some x → caps[i]? = some u → ∃ c y a,x = .e c y ∧ u = .pointer (some a) ∧ At C.tab w O c a y:=by
 obtain ⟨hl,-,-⟩:=b_Q h (by simp [TI.isS,hk]) hv
 cases hl with
 | fn h' hk' => exact .inl rfl
 | @fnc _ _ f xs caps h' hk' hn ad ts tys tis vs hx hvc hlc =>
  refine .inr ⟨f,xs,caps,rfl,rfl,hn,fun i x u hxi hui => ?_⟩;obtain ⟨q1,q2,q3,q4,q5,q6,q7⟩:=hx i x hxi;rw [q2] at hui;simp only [Option.some.injEq] at hui;subst hui;have hlt:=(List.getElem?_eq_some_iff.1 hxi).1;exact ⟨_,_,ad i,q1,rfl,tis i,q3,q4,q5,q7,fun n y ty hy ht => ⟨_,hvc i n y hlt hy,hlc i n y ty hlt hy ht⟩⟩
 | int h' hk' => have:=e_ h h';simp only [Prod.mk.injEq,true_and] at this;subst this;rw [hk] at hk';cases hk'
 | bool h' hk' => have:=e_ h h';simp only [Prod.mk.injEq,true_and] at this;subst this;rw [hk] at hk';cases hk'
 | str h' hk' => have:=e_ h h';simp only [Prod.mk.injEq,true_and] at this;subst this;rw [hk] at hk';cases hk'
 | nil h' hk' => have:=e_ h h';simp only [Prod.mk.injEq,true_and] at this;subst this;rw [hk] at hk';cases hk'
 | sl h' hk' => have:=e_ h h';simp only [Prod.mk.injEq,true_and] at this;subst this;rw [hk] at hk';cases hk'
 | ptr h' hk' => have:=e_ h h';simp only [Prod.mk.injEq,true_and] at this;subst this;rw [hk] at hk';cases hk'
 | ifc h' hk' => have:=e_ h h';simp only [Prod.mk.injEq,true_and] at this;subst this;rw [hk] at hk';cases hk'
omit hG h hwf hsz hi hp hpp in
theorem p_K {o : Oper} {c : Call} {f : FuncId} {s : Nat} {caps : Array Value} {K : Act → World → Prop} {Q : Exit → Act → World → Prop} (ho : o.op = .call c) (hc : c.callee = .value (.tmp s)) (hs : ev tm (.tmp s) = .func (.func f) #[] caps)
  (h : CallsF P f (c.args.map (Act.eval ⟨tm,[]⟩) ++ caps) w fun v w' => K (Act.put ⟨tm,[]⟩ o.dst v) w') : o.wp P ⟨tm,[]⟩ w K Q:=by
 have hex : (execOp (Act.eval ⟨tm,[]⟩) o).run P w = (callFunc f (c.args.map (Act.eval ⟨tm,[]⟩) ++ caps)).run P w:=by
  unfold ev at hs;simp [execOp,ho,resolve,hc,hs,Deferred.ofValue,invoke]
 unfold Oper.wp;rw [hex];unfold CallsF at h;split at h
 ·rename_i g as w1 he
  rw [he]
  show Calls P g as w1 _
  refine Calls.mono h ?_;rintro e w2 ⟨v,rfl,hr⟩;exact hr
 ·rename_i v w1 he
  rw [he];exact h
 ·exact h.elim
omit hG h hwf hsz hi hp hpp in
theorem p_J {o : Oper} {c : Call} {f : FuncId} {s : Nat} {v0 : Value} {K : Act → World → Prop} {Q : Exit → Act → World → Prop} (ho : o.op = .call c) (hc : c.callee = .value (.tmp s)) (hs : ev tm (.tmp s) = .func (.func f) #[v0] #[])
  (h : CallsF P f (#[v0] ++ c.args.map (Act.eval ⟨tm,[]⟩)) w fun v w' => K (Act.put ⟨tm,[]⟩ o.dst v) w') : o.wp P ⟨tm,[]⟩ w K Q:=by
 have hex : (execOp (Act.eval ⟨tm,[]⟩) o).run P w = (callFunc f (#[v0] ++ c.args.map (Act.eval ⟨tm,[]⟩))).run P w:=by
  unfold ev at hs;simp [execOp,ho,resolve,hc,hs,Deferred.ofValue,invoke]
 unfold Oper.wp;rw [hex];unfold CallsF at h;split at h
 ·rename_i g as w1 he
  rw [he]
  show Calls P g as w1 _
  refine Calls.mono h ?_;rintro e w2 ⟨v,rfl,hr⟩;exact hr
 ·rename_i v w1 he
  rw [he];exact h
 ·exact h.elim
theorem i_u {c : Call} {s0 g s b : Nat} {cB : TypeId} {tag n : Nat} {args : List (Operand × TypeId)} (ho : o.op = .call c) (hc : c.callee = .value (.tmp s0)) (hargs : args = c_4 c.args.toList c.argTypes.toList) (hal : args.length = c.args.size)
  (hs0 : ev tm (.tmp s0) = .func (.func g) #[.pointer (some ⟨b,0,none⟩)] #[]) (hs : σ.get (a_ s) = some ⟨[],.box cB tag n⟩) (hb : γ (a_ s) = some b) :
  Sound P C fr tm w σ D i o p K Q ((m_O C i p o g s cB n args).run σ):=by
 unfold m_O;split
 ·rename_i ps r1 r2 rs m hsig hm
  split
  ·rename_i flags hfl
   refine o_ _ _ b_ fun d hd hn _ habs => ?_
   refine e_X b_ fun as sh ks h1 h2 h3 h4 h5 => ?_
   refine c_v hG h (p:=[]) trivial _ _ args 1 b_ fun acc mp hA hl hnb => ?_
   have hv:=c_s (tm:=tm) hargs hal;have hA2 : ArgsP C tm w (Ob fr γ) σ γ 0 ((Operand.const (.pointer (some ⟨b,0,none⟩)),0) :: args) ((acc.arg (.box cB n as)).box 0 s n sh ks) ((a_ 0,a_ s) :: (d_N 0 s 0 n ++ mp)) :=
    .box 0 _ 0 args acc mp s cB n tag b as sh ks hs hb rfl h1 h2 h3 h4 h5 hA
   have hln : ((acc.arg (.box cB n as)).box 0 s n sh ks).ln = []:=hl rfl
   generalize (acc.arg (.box cB n as)).box 0 s n sh ks = acc2 at hA2 hln
   obtain ⟨l1,l2,l3⟩:=e_A (args.length + 1) d [] (r1 :: r2 :: rs) 0 m.own;refine b_G (f:=g) (vals:=#[.pointer (some ⟨b,0,none⟩)] ++ c.args.map (Act.eval ⟨tm,[]⟩)) (args:=(Operand.const (.pointer (some ⟨b,0,none⟩)),0) :: args) (p:=[]) hG h hwf hsz hi hp hpp ?_ ?_ (fun hh => p_J ho hc hs0 hh) (cal:=.f g) (fun _ q => q) hA2 (fun d' hd' => by
    rw [hd] at hd';simp only [Option.some.injEq] at hd';subst hd';exact ⟨by rw [hsz];exact hn,habs⟩) (fun _ => ⟨?_,?_,.inr ⟨d,i + 1,hd,rfl,?_⟩⟩) (fun _ _ q => by simp at q;exact q.2.symm) (.inl hln)
   ·simp only [Array.size_append,hv.1,List.length_cons,List.size_toArray,List.length_nil];omega
   ·intro j x ty hj
    cases j with
    | zero =>
     simp only [List.getElem?_cons_zero,Option.some.injEq,Prod.mk.injEq] at hj;rw [← hj.1,Array.getElem?_append_left (by simp)];rfl
    | succ j =>
     simp only [List.getElem?_cons_succ] at hj
     have:=hv.2 j x ty hj
     rw [Array.getElem?_append_right (by simp)];simpa using this
   ·intro i k ty b hi
    by_cases hlt : i < (r1 :: r2 :: rs).length
    ·rw [List.getElem?_append_left (by omega)] at hi ⊢
     obtain ⟨q1,-,q3⟩:=l3 i k ty b hi;exact ⟨_,_,q3,.inr (.inr ⟨d,_,_,hd,q1,rfl,rfl,rfl⟩)⟩
    ·rw [List.getElem?_append_right (by omega)] at hi ⊢
     rw [l1] at hi;rw [l2];obtain ⟨j',s,m0,m,q1,q2,q3,q4⟩:=hA2.backs.2 _ k ty b hi;exact ⟨_,_,q4,.inl ⟨j',s,m0,m,q1,q2,q3,rfl,rfl⟩⟩
   ·intro j s m0 m hm hlt
    obtain ⟨-,_,_,_,_,_,-,-,-,-,-,-,-,q⟩:=hA2.boxes j s m0 hm;obtain ⟨i,ty,b,q1,q2⟩:=q m hlt;exact ⟨(r1 :: r2 :: rs).length + i,ty,b,by rw [List.getElem?_append_right (by omega),l1,show (r1 :: r2 :: rs).length + i - (r1 :: r2 :: rs).length = i by omega];exact q1,by rw [List.getElem?_append_right (by omega),l2,show (r1 :: r2 :: rs).length + i - (r1 :: r2 :: rs).length = i by omega];exact q2⟩
   ·rfl
  ·exact b_
 ·exact b_
theorem i_v {c : Call} {s : Nat} {args : List (Operand × TypeId)} (ho : o.op = .call c) (hc : c.callee = .value (.tmp s)) (hargs : args = c_4 c.args.toList c.argTypes.toList) (hal : args.length = c.args.size) :
  Sound P C fr tm w σ D i o p K Q ((m_P C i p o (.tmp s) args).run σ):=by
 unfold m_P;refine X_ hG h p hp (.tmp s) 0 b_ fun ko a hx => ?_
 have main : ∀ {cf : TypeId} {v : T},V C.tab w (Ob fr γ) cf (ev tm (.tmp s)) v → Sound P C fr tm w σ D i o p K Q (((match C.kd cf with
   | .fn => match C.tab.at o.type with
    | some (r,_) => a_a C o.dst p fun d => c_m C b_D p (d_h C [r] b_D) 0 args fun acc =>
      e_k i (.v v) (acc.i_k v.caps) [] [(a_ (args.length + v.caps.length),r,false)] [(a_ d,p)]
    | none => badR
   | _ => badR) : R).run σ):=by
  intro cf v hV;split
  ·rename_i hk
   split
   ·rename_i r tr hr
    refine o_ _ _ b_ fun d hd hn _ habs => ?_
    refine c_v hG h hp _ _ args 0 b_ fun acc mp hA hl hb => ?_
    obtain ⟨c',ti,h1,h2⟩:=d_a hk (by simp);obtain ⟨t2,h3,-⟩:=id hV
    have:=e_ h1 h3
    simp only [Prod.mk.injEq] at this;obtain ⟨rfl,rfl⟩:=this
    rcases V_fn h1 h2 hV with rfl | ⟨f,xs,caps,rfl,hval,hcn,hcap⟩
    ·unfold e_k
     split
     ·intro hW
      obtain ⟨ys,hys,hfn,-⟩:=h_L.1 hW;have hf:=d_Q hfn hp;exact absurd hf.1 (by simp [T.isF])
     ·exact b_
    ·have hA2:=hA.append (args2:=caps.toList.map fun v => (Operand.const v,0)) (as2:=xs.map k_E) (m_Q xs caps.toList _ (by simpa using hcn) fun i x u hxi hui => hcap i x u hxi (by rw [Array.getElem?_toList] at hui;exact hui))
     have hsh0 : acc.sh = []:=hb rfl;have hv1:=(c_s (tm:=tm) hargs hal).1;have hv2:=(c_s (tm:=tm) hargs hal).2;refine b_G (f:=f) (vals:=c.args.map (Act.eval ⟨tm,[]⟩) ++ caps) (args:=args ++ caps.toList.map fun v => (Operand.const v,0)) (acc:=acc.i_k xs) (mp:=mp) hG h hwf hsz hi hp hpp ?_ ?_ (fun hh => p_K ho hc hval hh) ?_ hA2 ?_ ?_ (fun _ _ q => by cases q) ?_
     ·simp [hv1]
     ·intro i x ty hx
      by_cases hlt : i < args.length
      ·rw [List.getElem?_append_left hlt] at hx
       rw [Array.getElem?_append_left (by omega)];exact hv2 i x ty hx
      ·rw [List.getElem?_append_right (by omega)] at hx
       rw [Array.getElem?_append_right (by omega),hv1];rw [List.getElem?_map] at hx;obtain ⟨u,hu,he⟩:=Option.map_eq_some_iff.1 hx;simp only [Prod.mk.injEq] at he;rw [← he.1];rw [Array.getElem?_toList] at hu;exact hu
     ·intro ys hh
      exact hh.2
     ·intro d' hd'
      rw [hd] at hd';simp only [Option.some.injEq] at hd';subst hd';exact ⟨by rw [hsz];exact hn,habs⟩
     ·intro _
      refine ⟨fun i k ty b hi => ?_,fun j s m0 m hm hlt => ?_,.inl ⟨rfl,rfl⟩⟩
      ·cases i with
       | zero =>
        simp only [List.getElem?_cons_zero,Option.some.injEq,Prod.mk.injEq] at hi;refine ⟨a_ d,p,rfl,.inr (.inl ⟨d,hd,?_,rfl,rfl,rfl⟩)⟩;rw [← hi.1,List.length_append,List.length_map,show caps.toList.length = xs.length from hcn];rfl
       | succ i => simp at hi
      ·obtain ⟨-,_,_,_,_,_,-,-,-,-,-,-,-,q⟩:=hA.boxes j s m0 hm
       obtain ⟨i2,ty2,o2,q1,-⟩:=q m hlt;rw [hsh0] at q1;simp at q1
     ·cases hkp : d_h C [r] b_D with
      | false => exact .inl (hl hkp)
      | true =>
       right
       obtain ⟨q1,q2⟩:=e_t hkp;intro i k ty b hi
       cases i with
       | zero =>
        simp only [List.getElem?_cons_zero,Option.some.injEq,Prod.mk.injEq] at hi;rw [← hi.2.1];exact g_j [r] q1 r (by simp)
       | succ i => simp at hi
   ·exact b_
  ·exact b_
 cases hx with
 | const c y _ hV => exact main hV
 | nil => exact b_
 | tmp s' e hx he hsub hav =>
  cases hav' : e.av with
  | t c y =>
   rw [hav'] at hav;exact main hav
  | ptr s1 tag c1 =>
   rw [hav'] at hav;simp only;split
   ·rename_i hle
    have hle:=Nat.le_of_ble_eq_true hle;refine b_v s1 tag b_ fun cB n hbx => ?_
    obtain ⟨b,hb,hvv⟩:=hav cB n hbx;rw [show c1 = mthB + (c1 - mthB) by omega,l_c] at hvv;exact i_u hG h hwf hsz hi hp hpp ho hc hargs hal hvv hbx hb
   ·exact b_
  | _ => exact b_
end
section
variable {P : Program} {C : Ctx} {fr : Fr} {tm : Array Value} {w : World} {σ : St} {γ : Key → Option Nat} {D : Nat → Prop}
 (hG : Good P C.tab) (h : Rel C.tab fr tm w σ γ) (hwf : Wf C D σ) (hsz : tm.size = C.nt) {i : Nat} (hi : ¬ D i) {o : Oper} {p : Path} (hp : σ.Holds p)
 (hpp : ∀ s b,(s,b) ∈ p → a_w C s = false ∧ ∃ q c x,σ.get (a_ s) = some ⟨q,.t c x⟩) {K : St → Prop} {Q : Exit → Act → World → Prop}
theorem s_P : ∀ (xs : List Operand) (ts : List TypeId),(c_4 xs ts).length = xs.length → (c_4 xs ts).map (·.1) = xs:=by
 intro xs
 induction xs with
 | nil => intro ts _;cases ts <;> rfl
 | cons a xs ih =>
  intro ts hl
  cases ts with
  | nil => simp [c_4] at hl
  | cons t ts =>
   simp only [c_4,List.map_cons,List.cons.injEq,true_and];exact ih ts (by simpa [c_4] using hl)
theorem e_L {c : Call} {k : List (Operand × TypeId) → R} {motive : a_o → Prop} (hbad : motive .bad) (hok : ∀ l,l = c_4 c.args.toList c.argTypes.toList → l.length = c.args.size → l.map (·.1) = c.args.toList → motive ((k l).run σ)) :
  motive ((zipC c k).run σ):=by
 unfold zipC;split
 ·rename_i hn
  have hn:=Nat.eq_of_beq_eq_true hn;exact hok _ rfl hn (s_P _ _ (by simpa using hn))
 ·exact hbad
theorem s_Q (hG : Good P C.tab) {O : Nat → Prop} {c t0 : TypeId} {ti : TI} (hc : C.tab.at t0 = some (c,ti)) (hk : ti.k = .fn) {f : FuncId} {xs : List T} {caps : Array Value} (hn : caps.size = xs.length)
  (hx : ∀ (i : Nat) x,xs[i]? = some x → ∃ c y a,x = .e c y ∧ caps[i]? = some (.pointer (some a)) ∧ At C.tab w O c a y) : V C.tab w O c (.func (.func f) #[] caps) (.f f xs):=by
 have hself:=(hG _ _ _ hc).self;have hS : ti.isS = false:=by simp [TI.isS,hk]
 let ad : Nat → Go.Addr:=fun j => match caps[j]? with
  | some (.pointer (some a)) => a
  | _ => default
 let ts : Nat → T:=fun j => match xs[j]? with
  | some (.e _ y) => y
  | _ => .u
 let tys : Nat → TypeId:=fun j => match xs[j]? with
  | some (.e c _) => c
  | _ => 0
 let tis : Nat → TI:=fun j => match C.tab.at (tys j) with
  | some (_,ti) => ti
  | none => default
 have key : ∀ (j : Nat) x,xs[j]? = some x → x = .e (tys j) (ts j) ∧ caps[j]? = some (.pointer (some (ad j))) ∧ At C.tab w O (tys j) (ad j) (ts j) ∧ C.tab.at (tys j) = some (tys j,tis j):=by
  intro j x hj;obtain ⟨c',y,a,rfl,hcap,hAt⟩:=hx j x hj;have e1 : tys j = c' := by simp only [tys,hj]
  have e2 : ts j = y:=by simp only [ts,hj]
  have e3 : ad j = a:=by simp only [ad,hcap]
  obtain ⟨t1,q1,-⟩:=id hAt;have e4 : tis j = t1:=by simp only [tis,e1,q1]
  rw [e1,e2,e3,e4];exact ⟨rfl,hcap,hAt,q1⟩
 refine b_8 hself hS (U_ hG hself hS) rfl rfl (.fnc hself hk hn ad ts tys tis (fun j n => (w.cell? ((ad j).add n)).getD undef) (fun j x hj => ?_) (fun j n y hj hy => ?_) (fun j n y ty hj hy ht => ?_))
 ·obtain ⟨q1,q2,⟨t1,q3,q4,q5,q6,-⟩,q7⟩:=key j x hj
  rw [q7] at q3;simp only [Option.some.injEq,Prod.mk.injEq,true_and] at q3;subst q3;exact ⟨q1,q2,q7,q4,q5,(hG _ _ _ q7).pos,q6⟩
 ·obtain ⟨q1,q2,⟨t1,q3,q4,q5,q6,q8⟩,q7⟩:=key j _ (List.getElem?_eq_getElem hj)
  have hlen:=(hG _ _ _ q3).len;have hlt:=(List.getElem?_eq_some_iff.1 hy).1;obtain ⟨u,hu,-⟩:=q8 n y _ hy (List.getElem?_eq_getElem (by rw [hlen,← q5];exact hlt));rw [hu];rfl
 ·obtain ⟨q1,q2,⟨t1,q3,q4,q5,q6,q8⟩,q7⟩:=key j _ (List.getElem?_eq_getElem hj)
  rw [q7] at q3;simp only [Option.some.injEq,Prod.mk.injEq,true_and] at q3;subst q3;obtain ⟨u,hu,hL⟩:=q8 n y ty hy ht;simp only [hu,Option.getD_some];exact hL
include hG h hwf hsz hi hp hpp
omit hwf hsz hi hpp in
theorem l_D : ∀ (l : List Operand) {k : List T → R} {motive : a_o → Prop} (_ : motive .bad)
  (_ : ∀ xs,xs.length = l.length → (∀ (i : Nat) x,xs[i]? = some x → ∃ c y a u,x = .e c y ∧ l[i]? = some u ∧ ev tm u = .pointer (some a) ∧ At C.tab w (Ob fr γ) c a y) → motive ((k xs).run σ)),motive ((o_E C p l k).run σ):=by
 intro l
 induction l with
 | nil => intro k motive hbad hok;exact hok [] rfl (fun i x hx => by simp at hx)
 | cons u l ih =>
  intro k motive hbad hok;simp only [o_E];refine X_ hG h p hp u 0 hbad fun ko a hx => ?_
  cases hx with
  | const => exact hbad
  | nil => exact hbad
  | tmp s e hx he hsub hav =>
   cases hav' : e.av with
   | pl c y off =>
    rw [hav'] at hav
    cases off with
    | succ => exact hbad
    | zero =>
     obtain ⟨a,h1,h2⟩:=hav;refine ih hbad fun xs hl hxs => hok (.e c y :: xs) (by simp [hl]) fun i x hi => ?_
     cases i with
     | zero =>
      simp only [List.getElem?_cons_zero,Option.some.injEq] at hi;have ha : a.add 0 = a:=by simp [Addr.add]
      rw [ha] at h1;exact ⟨c,y,a,u,hi.symm,rfl,h1,h2⟩
     | succ i =>
      simp only [List.getElem?_cons_succ] at hi ⊢;exact hxs i x hi
   | _ => exact hbad
omit hi in
theorem g_p {f : FuncId} {first captured : Array Operand} (ho : o.op = .makeFunc (.func f) first captured) : Sound P C fr tm w σ D i o p K Q ((g_o C p o f first captured).run σ):=by
 unfold g_o;refine o_ _ _ b_ fun d hd hn _ habs => ?_
 split
 ·rename_i c ti hfirst hty
  split
  ·rename_i hk
   refine l_D hG h hp _ b_ fun xs hl hxs => ?_
   have hf0 : first = #[]:=by
    cases first with
    | mk l => simp only at hfirst;subst hfirst;rfl
   have hrun : (execOp (Act.eval ⟨tm,[]⟩) o).run P w = .ok (.value (.func (.func f) #[] (captured.map (Act.eval ⟨tm,[]⟩)))) w:=by
    simp [execOp,ho,Instr.makeFunc,hf0]
   have hV : V C.tab w (Ob fr γ) c (.func (.func f) #[] (captured.map (Act.eval ⟨tm,[]⟩))) (.f f xs):=by
    refine s_Q hG hty hk (by rw [Array.size_map];simpa using hl.symm) fun i x hx => ?_
    obtain ⟨c',y,a,u,q1,q2,q3,q4⟩:=hxs i x hx;refine ⟨c',y,a,q1,?_,q4⟩;rw [Array.getElem?_toList] at q2;rw [Array.getElem?_map,q2];exact congrArg some q3
   exact fun hW => b_X hG h hwf hsz hp hpp hn hd habs hrun hV hW
  ·exact b_
 ·exact b_
theorem g_B : Sound P C fr tm w σ D i o p K Q ((opR C i p o).run σ):=by
 unfold opR;split
 ·unfold s_Y
  refine o_ _ _ b_ fun d hd hn hv habs => ?_
  refine Z_ _ b_ fun cr tr hr => ?_
  intro hW;exact (d_Q hW.1 hp).elim
 split
 ·rename_i x ho
  split
  ·exact e_j hG h hwf hsz hi (.inl ho)
  ·exact g_t hG h hwf hsz hi hp hpp (.inl ho)
 ·rename_i x ho;exact e_j hG h hwf hsz hi (.inr ho)
 ·rename_i c a b ho;exact k_k hG h hwf hsz hp hpp ho
 ·rename_i ty ho;exact i_n hG h hwf hsz hi ho
 ·rename_i ty v ho;exact l_A hG h hwf hsz hi ho
 ·rename_i ty parts ho
  split
  ·exact l_y hG h hwf hsz hi ho
  ·exact i_t hG h hwf hsz hp hpp ho
 ·rename_i ty n parts ho
  split
  ·exact e_Z hG h hwf hsz hi ho
  ·exact e_Y hG h hwf hsz hi hp hpp ho
 ·rename_i ty a ho
  split
  ·exact j_7 hG h hwf hsz hi ho
  ·exact j_8 hG h hwf hsz hp hpp ho
 ·rename_i ty a v ho
  split
  ·rename_i hd;exact j_l hG h hwf hsz hi ho hd
  ·exact b_
 ·rename_i x ho;exact g_x hG h hwf hsz hp hpp ho
 ·rename_i op xt x y yt ho;exact l_w hG h hwf hsz hp hpp ho
 ·rename_i op xt x ho;exact o_k hG h hwf hsz hp hpp ho
 ·rename_i src dst x ho;exact j_I hG h hwf hsz hp hpp ho
 ·rename_i ty l c ho;exact k_b hG h hwf hsz hi ho
 ·rename_i xt x lo hi' mx ho;exact j_h hG h hwf hsz hp hpp ho
 ·rename_i ty x f ho;exact f_H hG h hwf hsz hp hpp ho
 ·rename_i xt x ix ho;exact i_L hG h hwf hsz hp hpp ho
 ·rename_i xt x ix ho;exact m_j hG h hwf hsz hp hpp ho
 ·rename_i x ix ho;exact g_3 hG h hwf hsz hi hp hpp ho
 ·rename_i f first captured ho;exact g_p hG h hwf hsz hp hpp ho
 ·rename_i c ho
  split
  ·rename_i f hc
   exact e_L b_ fun l h1 h2 _ => j_z hG h hwf hsz hi hp hpp ho hc h1 h2
  ·rename_i s hc
   exact e_L b_ fun l h1 h2 _ => i_v hG h hwf hsz hi hp hpp ho hc h1 h2
  ·rename_i hc
   split
   ·rename_i x xt h1 h2;exact l_R hG h hwf hsz hp hpp ho hc h1 h2
   ·exact b_
  ·rename_i hc
   split
   ·rename_i s x st xt h1 h2;exact h_D hG h hwf hsz hi ho hc h1 h2
   ·exact b_
  ·rename_i hc
   exact e_L b_ fun l _ _ h3 => d_O (isMax:=true) hG h hwf hsz hp hpp ho hc h3
  ·rename_i hc
   exact e_L b_ fun l _ _ h3 => d_O (isMax:=false) hG h hwf hsz hp hpp ho hc h3
  ·exact b_
 ·exact b_
end
section
variable {P : Program} {C : Ctx} {fr : Fr} {tm : Array Value} {w : World} {σ : St} {γ : Key → Option Nat} {D : Nat → Prop}
theorem e_u {α β : Type} (f : α → β) (r : Rd α) : (l_S f r).run σ = f (r.run σ):=by
 induction r with
 | ret a => rfl
 | get k g ih => exact ih _
theorem l_x {α β : Type} (f : α → Rd β) (r : Rd α) : (m_E f r).run σ = (f (r.run σ)).run σ:=by
 induction r with
 | ret a => rfl
 | get k g ih => exact ih _
theorem l_i {p q : Path} (h : k_r p q = true) : p = q:=by
 induction p generalizing q with
 | nil => cases q <;> simp [k_r] at h ⊢
 | cons x r ih =>
  obtain ⟨j,a⟩:=x
  cases q with
  | nil => simp [k_r] at h
  | cons y s =>
   obtain ⟨j',a'⟩:=y;simp only [k_r] at h;split at h
   ·rename_i h1 h2
    rw [Nat.eq_of_beq_eq_true h1,e_C h2,ih h]
   ·cases h
inductive GuardR (C : Ctx) (σ : St) (D : Nat → Prop) (d : Option Nat) (p : Path) : a_o → Prop where
 | upd (n : Nat) (c : Option Prop) (a : AV) (hd : d = some n) (hn : n < C.nt) (habs : σ.get (a_ n) = none) (hhome : ∀ h tag,a.home = some (h,tag) → σ.get h ≠ none) (htag : ∀ tag,a.a_C = some tag → Old D tag) :
   GuardR C σ D d p (.upd c [(a_ n,⟨p,a⟩)])
 | call (n : Nat) (tag : Nat) (f : Cal) (args : List Arg) (k : Key) (ty : TypeId) (hd : d = some n) (hn : n < C.nt) (habs : σ.get (a_ n) = none) :
   GuardR C σ D d p (.call tag f args [] [(k,ty,false)] [(a_ n,p)])
theorem g_m (hwf : Wf C D σ) (d : Option Nat) (p : Path) (r : a_o) : (guarded C d p r).run σ = .bad ∨ ((guarded C d p r).run σ = r ∧ GuardR C σ D d p r):=by
 unfold guarded;split
 ·rename_i c k e
  refine o_ (motive:=fun x => x = .bad ∨ (x = .upd c [(k,e)] ∧ GuardR C σ D d p (.upd c [(k,e)]))) _ _ (.inl rfl) fun n hd hn hv habs => ?_
  split
  ·rename_i h1 h2
   have h1:=Key.a_b.1 h1;subst h1;obtain ⟨q,a⟩:=e;have h2:=l_i h2;simp only at h2;subst h2
   cases a with
   | t c' x => exact .inr ⟨rfl,.upd n c _ hd hn habs (fun _ _ hh => by cases hh) (fun _ hh => by cases hh)⟩
   | pl c' x off => exact .inr ⟨rfl,.upd n c _ hd hn habs (fun _ _ hh => by cases hh) (fun _ hh => by cases hh)⟩
   | alias h0 tag c' off len =>
    refine N_ (motive:=fun x => x = .bad ∨ (x = _ ∧ _)) h0 tag (.inl rfl) fun c2 xs hh => ?_
    refine .inr ⟨rfl,.upd n c _ hd hn habs (fun h tag hx => ?_) (fun tag' hx => ?_)⟩
    ·simp only [AV.home,Option.some.injEq,Prod.mk.injEq] at hx
     rw [← hx.1,hh];simp
    ·simp only [AV.a_C,Option.some.injEq] at hx
     subst hx;exact hwf.tags _ _ tag hh rfl
   | eptr h0 tag j off =>
    refine N_ (motive:=fun x => x = .bad ∨ (x = _ ∧ _)) h0 tag (.inl rfl) fun c2 xs hh => ?_
    refine .inr ⟨rfl,.upd n c _ hd hn habs (fun h tag hx => ?_) (fun tag' hx => ?_)⟩
    ·simp only [AV.home,Option.some.injEq,Prod.mk.injEq] at hx
     rw [← hx.1,hh];simp
    ·simp only [AV.a_C,Option.some.injEq] at hx
     subst hx;exact hwf.tags _ _ tag hh rfl
   | ptr s tag off =>
    refine b_v (motive:=fun x => x = .bad ∨ (x = _ ∧ _)) s tag (.inl rfl) fun c2 m hh => ?_
    refine .inr ⟨rfl,.upd n c _ hd hn habs (fun h tag hx => ?_) (fun tag' hx => ?_)⟩
    ·simp only [AV.home,Option.some.injEq,Prod.mk.injEq] at hx
     rw [← hx.1,hh];simp
    ·simp only [AV.a_C,Option.some.injEq] at hx
     subst hx;exact hwf.tags _ _ tag hh rfl
   | _ => exact .inl rfl
  ·exact .inl rfl
 ·rename_i tag f args sh k q
  refine o_ (motive:=fun x => x = .bad ∨ (x = .call tag f args [] [sh] [(k,q)] ∧ GuardR C σ D d p (.call tag f args [] [sh] [(k,q)]))) _ _ (.inl rfl) fun n hd hn hv habs => ?_
  split
  ·rename_i k1 ty h1 h2
   have h1:=Key.a_b.1 h1;subst h1;have h2:=l_i h2;subst h2;exact .inr ⟨rfl,.call n tag f args k1 ty hd hn habs⟩
  ·exact .inl rfl
 ·exact .inl rfl
end
section
variable {P : Program} {C : Ctx} {fr : Fr} {tm : Array Value} {w : World} {σ : St} {γ : Key → Option Nat} {D : Nat → Prop}
 (hG : Good P C.tab) (h : Rel C.tab fr tm w σ γ) (hwf : Wf C D σ) (hsz : tm.size = C.nt) {i : Nat} (hi : ¬ D i) {o : Oper} {K : St → Prop} {Q : Exit → Act → World → Prop}
include hG h hwf hsz hi
theorem i_J {ops : Array Oper} (hW : a_o.W P C.tab σ ((gopR C ops.toList i o).run σ).1 K ((gopR C ops.toList i o).run σ).2) :
  if Region.wanted o (yielded ops tm) then o.wp P ⟨tm,[]⟩ w (After C fr (fun j => D j ∨ j = i) K) Q else After C fr (fun j => D j ∨ j = i) K (Act.put ⟨tm,[]⟩ o.dst undef) w:=by
 unfold gopR at hW
 cases hg : o.guard with
 | none =>
  rw [hg] at hW;simp only [e_u] at hW;simp only [Region.wanted,hg,if_true];exact g_B hG h hwf hsz hi (p:=[]) trivial (fun s b hm => by simp at hm) hW
 | some g =>
  obtain ⟨j,want⟩:=g;rw [hg] at hW;simp only at hW
  cases hs : o_O ops.toList j with
  | none => rw [hs] at hW;exact hW.elim
  | some s =>
   rw [hs] at hW;simp only at hW
   cases hv : a_w C s with
   | true => rw [hv] at hW;exact hW.elim
   | false =>
    rw [hv] at hW;have hs' : (ops[j]?).bind (·.dst) = some s:=by
     unfold o_O at hs;rw [Array.getElem?_toList] at hs
     cases hj : ops[j]? with
     | none => rw [hj] at hs;cases hs
     | some oj => rw [hj] at hs;exact hs
    cases hsp : r_Z C s with
    | true =>
     rw [hsp] at hW;simp only [Rd.run] at hW;split at hW
     ·rename_i c x he
      split at hW
      ·rename_i hk
       obtain ⟨v,hvv,hr,-⟩:=h.ent _ _ he;rw [i_] at hvv;have hV : V C.tab w (Ob fr γ) c v (.b x):=hr trivial;obtain ⟨c',ti,h1,h2⟩:=d_a hk (by simp);obtain ⟨t2,h3,-⟩:=id hV
       have:=e_ h1 h3
       simp only [Prod.mk.injEq] at this;obtain ⟨rfl,rfl⟩:=this;obtain ⟨q1,-⟩:=f_v h1 h2 hV;have htr : σ.truth s = x:=by unfold St.truth;rw [he];rfl
       have hy : yielded ops tm j = some x:=by
        unfold yielded;rw [hs'];simp only [Option.bind_some,hvv,q1];rfl
       split at hW
       ·rename_i hsame
        have:=e_C hsame
        subst this;have hw : Region.wanted o (yielded ops tm) = true:=by simp [Region.wanted,hg,hy]
        rw [if_pos hw];simp only [e_u] at hW;exact g_B hG h hwf hsz hi (p:=[]) trivial (fun s b hm => by simp at hm) hW
       ·rename_i hdiff
        have hne : x ≠ want:=by
         intro q;rw [q] at hdiff;cases want <;> simp [j_c] at hdiff
        have hw : ¬ Region.wanted o (yielded ops tm) = true:=by
         simp [Region.wanted,hg,hy,hne]
        rw [if_neg hw];simp only [e_u] at hW;unfold u_p at hW;revert hW;refine o_ (motive:=fun r => a_o.W P C.tab σ [(s,want)] K r → After C fr (fun j => D j ∨ j = i) K (Act.put ⟨tm,[]⟩ o.dst undef) w) _ _ (fun q => q.elim) fun n hd hn _ habs hK => ?_
        have hnot : ¬ σ.Holds [(s,want)]:=fun q => hne (by rw [← htr];exact q.1)
        have hav : (∀ h tag,(j_g C o.type).home = some (h,tag) → σ.get h ≠ none) ∧ ∀ tag,(j_g C o.type).a_C = some tag → Old D tag:=by
         unfold j_g;split <;> exact ⟨fun _ _ q => (by cases q),fun _ q => (by cases q)⟩
        obtain ⟨p1,p2⟩:=Rel.f_k (v:=undef) (p:=[(s,want)]) (a:=j_g C o.type) hG h hwf (by rw [hsz];exact hn) habs (fun s' b hm => by
         simp only [List.mem_singleton,Prod.mk.injEq] at hm;obtain ⟨rfl,rfl⟩:=hm;exact ⟨hv,[],_,_,he⟩) hav.1 hav.2 (fun q => absurd q hnot) (fun _ => rfl)
        rw [hd];exact ⟨rfl,by simp [Act.put,hsz],_,_,hK,p1,p2.mono fun _ => .inl⟩
      ·exact hW.elim
     ·exact hW.elim
    | false =>
    rw [hsp] at hW;simp only [Rd.run] at hW
    cases he : σ.get (a_ s) with
    | none => rw [he] at hW;exact hW.elim
    | some e =>
     rw [he] at hW;simp only at hW;have hs' : (ops[j]?).bind (·.dst) = some s:=by
      unfold o_O at hs;rw [Array.getElem?_toList] at hs
      cases hj : ops[j]? with
      | none => rw [hj] at hs;cases hs
      | some oj => rw [hj] at hs;exact hs
     split at hW
     ·rename_i c x hav
      split at hW
      ·rename_i hk
       simp only [e_u,l_x] at hW;obtain ⟨v,hvv,hr,hnr⟩:=h.ent _ _ he;rw [i_] at hvv;have hpp : ∀ s' b,(s',b) ∈ e.path ++ [(s,want)] → a_w C s' = false ∧ ∃ q c x,σ.get (a_ s') = some ⟨q,.t c x⟩:=by
        intro s' b hm
        rcases List.mem_append.1 hm with hm | hm
        ·exact hwf.paths _ e s' b he hm
        ·simp only [List.mem_singleton,Prod.mk.injEq] at hm
         obtain ⟨rfl,rfl⟩:=hm;exact ⟨hv,e.path,c,x,by rw [he,← hav]⟩
       have htr : σ.truth s = x.bool:=by unfold St.truth;rw [he];simp only [hav]
       have hy : yielded ops tm j = some want ↔ σ.Holds (e.path ++ [(s,want)]):=by
        rw [d_b];simp only [St.Holds,and_true,htr];unfold yielded;rw [hs'];simp only [Option.bind_some,hvv]
        by_cases hH : σ.Holds e.path
        ·have hV:=hr hH
         rw [hav] at hV;obtain ⟨c',ti,h1,h2⟩:=d_a hk (by simp);obtain ⟨t2,h3,-⟩:=id hV
         have:=e_ h1 h3
         simp only [Prod.mk.injEq] at this;obtain ⟨rfl,rfl⟩:=this;obtain ⟨q1,-⟩:=f_v h1 h2 hV;rw [q1];simp [hH]
        ·rw [hnr hH]
         simp [undef,hH]
       by_cases hH : σ.Holds (e.path ++ [(s,want)])
       ·have hw : Region.wanted o (yielded ops tm) = true:=by simp [Region.wanted,hg,hy.2 hH]
        rw [if_pos hw]
        rcases g_m (D:=D) hwf o.dst (e.path ++ [(s,want)]) ((opR C i (e.path ++ [(s,want)]) o).run σ) with hb | ⟨hb,-⟩
        ·rw [hb] at hW;exact hW.elim
        ·rw [hb] at hW
         exact g_B hG h hwf hsz hi hH hpp hW
       ·have hw : ¬ Region.wanted o (yielded ops tm) = true:=by
         simp only [Region.wanted,hg,beq_iff_eq];exact fun q => hH (hy.1 q)
        rw [if_neg hw]
        rcases g_m (D:=D) hwf o.dst (e.path ++ [(s,want)]) ((opR C i (e.path ++ [(s,want)]) o).run σ) with hb | ⟨hb,hR⟩
        ·rw [hb] at hW;exact hW.elim
        ·rw [hb] at hW
         have fin : ∀ (n : Nat) (a : AV),o.dst = some n → n < C.nt → σ.get (a_ n) = none → (∀ h tag,a.home = some (h,tag) → σ.get h ≠ none) → (∀ tag,a.a_C = some tag → Old D tag) →
           K (σ.puts [(a_ n,⟨e.path ++ [(s,want)],a⟩)]) → After C fr (fun j => D j ∨ j = i) K (Act.put ⟨tm,[]⟩ o.dst undef) w:=by
          intro n a hd hn habs hhome htag hK;obtain ⟨h1,h2⟩:=Rel.f_k (v:=undef) (p:=e.path ++ [(s,want)]) (a:=a) hG h hwf (by rw [hsz];exact hn) habs hpp hhome htag (fun q => absurd q hH) (fun _ => rfl);rw [hd];exact ⟨rfl,by simp [Act.put,hsz],_,_,hK,h1,h2.mono fun _ => .inl⟩
         generalize (opR C i (e.path ++ [(s,want)]) o).run σ = r at hW hR
         cases hR with
         | upd n c' a hd hn habs hhome htag =>
          refine fin n a hd hn habs hhome htag ?_
          cases c' with
          | none => exact hW
          | some c' => exact hW.2
         | call n tag f args k ty hd hn habs =>
          obtain ⟨ys,hys,-,hK⟩:=h_L.1 hW;obtain ⟨y,rfl⟩ : ∃ y,ys = [y]:=by
           match ys,hys with
           | [y],_ => exact ⟨y,rfl⟩
          exact fin n (.t ty y) hd hn habs (fun _ _ hh => by cases hh) (fun _ hh => by cases hh) hK
      ·exact hW.elim
     ·exact hW.elim
end
section
variable {P : Program} {C : Ctx} {fr : Fr} {K : St → Prop}
def Pinned (C : Ctx) (tm tm' : Array Value) : Prop:=∀ s,memN C.pins s = true → tm'[s]? = tm[s]?
theorem Pinned.trans {a b c : Array Value} (h : Pinned C a b) (h' : Pinned C b c) : Pinned C a c:=fun s hs => (h' s hs).trans (h s hs)
theorem Pinned.put {tm : Array Value} {d : Option Nat} {v : Value} (h : ∀ n,d = some n → memN C.pins n = false) : Pinned C tm (Act.put ⟨tm,[]⟩ d v).tmps:=by
 intro s hs
 cases d with
 | none => rfl
 | some n =>
  have hn : n ≠ s:=fun e => by have:=h n rfl;rw [e,hs] at this;cases this
  simp [Act.put,Array.getElem?_setIfInBounds,hn]
theorem h_5 {tm : Array Value} {ds ds' : List Deferred} {d : Option Nat} {v : Value} : (Act.put ⟨tm,ds⟩ d v).tmps = (Act.put ⟨tm,ds'⟩ d v).tmps:=by
 cases d <;> rfl
theorem Oper.wp_put {o : Oper} {a : Act} {w : World} {K : Act → World → Prop} {Q : Exit → Act → World → Prop} (h : o.wp P a w K Q) :
  o.wp P a w (fun a' w' => K a' w' ∧ ∃ v,a'.tmps = (Act.put ⟨a.tmps,[]⟩ o.dst v).tmps) Q:=by
 unfold Oper.wp at *
 generalize (execOp a.eval o).run P w = r at *
 cases r with
 | ok n w' =>
  cases n <;> simp only [Oper.upon] at h ⊢
  all_goals first
   | exact h
   | exact ⟨h,_,h_5⟩
   | exact Calls.mono h (fun e w'' he => by cases e <;> first | exact ⟨he,_,h_5⟩ | exact he)
   | exact Rows.mono h (fun _ _ he => ⟨he,_,h_5⟩)
 | halt x w' => cases x <;> simp only [Oper.upon] at h ⊢ <;> exact h
def Left (C : Ctx) (fr : Fr) (tm : Array Value) (K : St → Prop) : Act → World → Prop:=fun a' w' => a'.defers = [] ∧ a'.tmps.size = C.nt ∧ Pinned C tm a'.tmps ∧ ∃ σ' γ',K σ' ∧ Rel C.tab fr a'.tmps w' σ' γ'
theorem f_Z {a : Act} (h : a.defers = []) : a = ⟨a.tmps,[]⟩:=by
 cases a;simp only at h;subst h;rfl
theorem h_l {l : List Oper} (h : d_S C l = true) {o : Oper} (ho : o ∈ l) : ∀ n,o.dst = some n → memN C.pins n = false:=by
 induction l with
 | nil => simp at ho
 | cons x r ih =>
  have hx : (∀ n,x.dst = some n → memN C.pins n = false) ∧ d_S C r = true:=by
   simp only [d_S] at h;split at h
   ·rename_i hd;exact ⟨(fun n hn => by rw [hd] at hn;cases hn),h⟩
   ·rename_i d hd
    split at h
    ·cases h
    ·rename_i hm;exact ⟨(fun n hn => by rw [hd] at hn;cases hn;exact hm),h⟩
  rcases List.mem_cons.1 ho with rfl | ho
  ·exact hx.1
  ·exact ih hx.2 ho
theorem j_k (hG : Good P C.tab) {tm : Array Value} {w : World} {σ : St} {γ : Key → Option Nat} {D : Nat → Prop} {o : Oper} {K : St → Prop} (hW : j_j C o σ K) (h : Rel C.tab fr tm w σ γ) (hwf : Wf C D σ) :
  ∃ σ',K σ' ∧ Rel C.tab fr tm w σ' γ ∧ Wf C D σ' := by
 unfold j_j at hW;split at hW
 ·rename_i d hd
  split at hW
  ·split at hW
   ·rename_i c x he
    split at hW
    ·rename_i hk
     obtain ⟨v,hv,hr,-⟩:=h.ent _ _ he;have hV : V C.tab w (Ob fr γ) c v x:=hr trivial;obtain ⟨c',ti,h1,h2⟩:=d_a hk (by simp);obtain ⟨t2,h3,-⟩:=id hV
     have:=e_ h1 h3
     simp only [Prod.mk.injEq] at this;obtain ⟨rfl,rfl⟩:=this;obtain ⟨-,q2⟩:=f_v h1 h2 hV;have hc : ∀ b,x.bool = b → ∀ k,(σ.put (a_ d) (top (.t c' (.b b)))).get k = σ.get k:=by
      intro b hb k;rw [St.e_7];split
      ·rename_i e;subst e;rw [he,q2,hb];rfl
      ·rfl
     cases hb : x.bool with
     | true => exact ⟨_,hW.1 hb,h.congr (hc _ hb),hwf.congr (hc _ hb)⟩
     | false => exact ⟨_,hW.2 hb,h.congr (hc _ hb),hwf.congr (hc _ hb)⟩
    ·exact hW.elim
   ·exact hW.elim
  ·exact ⟨σ,hW,h,hwf⟩
 ·exact ⟨σ,hW,h,hwf⟩
theorem l_2 (hG : Good P C.tab) {tm0 : Array Value} {ops : Array Oper} {Q : Exit → Act → World → Prop} (hQ : ∀ a w,Left C fr tm0 K a w → Q .normal a w) : ∀ (l : List Oper) (_ : d_S C l = true) (j : Nat) (D : Nat → Prop) (_ : ∀ k,D k → k < j) (a : Act) (w : World) (σ : St) (γ : Key → Option Nat),
  a.defers = [] → a.tmps.size = C.nt → Pinned C tm0 a.tmps → Rel C.tab fr a.tmps w σ γ → Wf C D σ → opsW P C ops.toList (numbered j l) σ K → wpList P ops Q l a w:=by
 intro l
 induction l with
 | nil =>
  intro _ j D _ a w σ γ hd hs hp h _ hW;exact hQ a w ⟨hd,hs,hp,σ,γ,hW,h⟩
 | cons o l ih =>
  intro hpo j D hD a w σ γ hd hs hp h hwf hW;have hpd:=h_l hpo (o:=o) (by simp);have hpo' : d_S C l = true:=by
   simp only [d_S] at hpo;split at hpo
   ·exact hpo
   ·split at hpo
    ·cases hpo
    ·exact hpo
  have hstep:=i_J (Q:=Q) (K:=fun σ' => j_j C o σ' fun σ2 => opsW P C ops.toList (numbered (j + 1) l) σ2 K) hG h hwf hs (i:=j) (fun q => Nat.lt_irrefl _ (hD j q)) (o:=o) (ops:=ops) hW;have hnext : ∀ a' w',After C fr (fun k => D k ∨ k = j) (fun σ' => j_j C o σ' fun σ2 => opsW P C ops.toList (numbered (j + 1) l) σ2 K) a' w' → Pinned C tm0 a'.tmps → wpList P ops Q l a' w' := by
   rintro a' w' ⟨q1,q2,σ0,γ',q3,q4,q5⟩ hp';obtain ⟨σ',q3,q4,q5⟩:=j_k hG q3 q4 q5;exact ih hpo' (j + 1) _ (fun k hk => by
    rcases hk with hk | hk
    ·have:=hD k hk;omega
    ·omega) a' w' σ' γ' q1 q2 hp' q4 q5 q3
  have ha:=f_Z hd;refine wpList_step fun K' hK' => ?_
  rw [ha];split
  ·rename_i hw
   rw [if_pos hw] at hstep;refine Oper.wp_mono ?_ (Oper.wp_put hstep);rintro a' w' ⟨q,v,hv⟩;exact hK' _ _ (hnext _ w' q (hp.trans (by rw [hv];exact Pinned.put hpd)))
  ·rename_i hw
   rw [if_neg hw] at hstep;exact hK' _ _ (hnext _ _ hstep (hp.trans (Pinned.put hpd)))
end
section
variable {P : Program} {C : Ctx} {fr : Fr} {tm : Array Value} {w : World} {σ : St} {γ : Key → Option Nat}
def d_U (C : Ctx) (fz : List Key) (σ0 : St) (k : Key) (e : Ent) : Ent:=top (match e.path with
 | [] => match memK fz k with
  | true => (AV.start C σ0 e.av).let
  | false => AV.start C σ0 e.av
 | _ => .u)
theorem m_h (fz : List Key) (σ0 σ : St) (k : Key) : (h_t C fz σ0 σ).get k = if a_w C k.a = true ∧ Nat.ble k.tag 1 = true then (σ.get k).map (d_U C fz σ0 k) else none:=by
 induction σ with
 | nil => simp [h_t,St.get]
 | cons x r ih =>
  obtain ⟨k',e⟩:=x;simp only [h_t]
  by_cases hk : k' = k
  ·subst hk
   by_cases hc : a_w C k'.a = true ∧ Nat.ble k'.tag 1 = true
   ·rw [if_pos hc]
    simp only [hc.1,hc.2,St.get,Key.a_u,Option.map_some];rfl
   ·rw [if_neg hc] at ih ⊢
    split
    ·rename_i h1 h2
     exact absurd ⟨h1,h2⟩ hc
    ·exact ih
  ·simp only [St.get,Key.a_N hk]
   split
   ·simp only [St.get,Key.a_N hk]
    exact ih
   ·exact ih
theorem c_2 (fz : List Key) (σ : St) (k : Key) : (E_ C fz σ).get k = if a_w C k.a = true ∧ Nat.ble k.tag 1 = true then (σ.get k).map (d_U C fz σ k) else none:=m_h fz σ σ k
theorem c_j {σ0 : St} {s tag c : Nat} : d_I C σ0 s tag c = .u ∨ (d_I C σ0 s tag c = .ptr s 0 c ∧ a_w C s = true ∧ ∃ cb n,σ0.get (a_ s) = some ⟨[],.box cb tag n⟩):=by
 unfold d_I;split
 ·rename_i hv
  split
  ·rename_i cb tag' n hb
   split
   ·rename_i ht
    refine .inr ⟨rfl,hv,cb,n,?_⟩;rw [hb,Nat.eq_of_beq_eq_true ht]
   ·exact .inl rfl
  ·exact .inl rfl
 ·exact .inl rfl
theorem b_B {σ0 : St} {h : Key} {tag : Nat} {c : TypeId} {off len : Nat} : b_0 C σ0 h tag c off len = .u ∨ (b_0 C σ0 h tag c off len = .alias h 0 c off len ∧ a_w C h.a = true ∧ Nat.ble h.tag 1 = true ∧ ∃ xs,σ0.get h = some ⟨[],.own c tag xs⟩):=by
 unfold b_0;split
 ·rename_i hv ht
  split
  ·rename_i c' tag' xs hb
   split
   ·rename_i h1 h2
    refine .inr ⟨rfl,hv,ht,xs,?_⟩;rw [hb,Nat.eq_of_beq_eq_true h1,Nat.eq_of_beq_eq_true h2]
   ·exact .inl rfl
  ·exact .inl rfl
 ·exact .inl rfl
theorem Rel.start (hG : Good P C.tab) (h : Rel C.tab fr tm w σ γ) (fz : List Key) : ∃ γ',Rel C.tab fr tm w (E_ C fz σ) γ' ∧ Wf C (fun _ => False) (E_ C fz σ):=by
 let W : Key → Prop:=fun k => memK fz k = true ∧ b_S σ k
 have hsub : ∀ k b,a_i W γ k = some b → γ k = some b:=by
  intro k b hb
  by_cases hk : W k
  ·rw [b_4 hk] at hb;cases hb
  ·rw [a_Z hk] at hb;exact hb
 have hOb : ∀ b,Ob fr (a_i W γ) b → Ob fr γ b:=by
  rintro b (hb | ⟨k,hb⟩)
  ·exact .inl hb
  ·exact .inr ⟨k,hsub k b hb⟩
 have hst : Stays w w (Ob fr γ) (Ob fr (a_i W γ)):=fun b _ hb => ⟨rfl,fun q => hb (hOb b q)⟩
 have hget : ∀ k e,(E_ C fz σ).get k = some e → a_w C k.a = true ∧ k.tag ≤ 1 ∧ ∃ e0,σ.get k = some e0 ∧ e = d_U C fz σ k e0:=by
  intro k e he;rw [c_2] at he;split at he
  ·rename_i hc
   obtain ⟨e0,h1,h2⟩:=Option.map_eq_some_iff.1 he;exact ⟨hc.1,Nat.le_of_ble_eq_true hc.2,e0,h1,h2.symm⟩
  ·cases he
 have hbox : ∀ {s c tag m},a_w C s = true → σ.get (a_ s) = some ⟨[],.box c tag m⟩ → (E_ C fz σ).get (a_ s) = some ⟨[],.box c 0 m⟩ ∧ a_i W γ (a_ s) = γ (a_ s):=by
  intro s c tag m hv hs
  constructor
  ·rw [c_2,if_pos ⟨hv,rfl⟩,hs]
   simp only [Option.map_some,d_U,AV.start];split <;> rfl
  ·refine a_Z ?_
   rintro ⟨-,c',t',xs,hh⟩;rw [hs] at hh;cases hh
 refine ⟨a_i W γ,⟨h.os,h.tape,h.output,h.size,h.old,h.low,fun k k' b hk hk' => h.inj k k' b (hsub k b hk) (hsub k' b hk'),fun k b hk => h.blk k b (hsub k b hk),?_,?_,?_⟩,⟨?_,?_,?_⟩⟩
 ·intro s n e he
  obtain ⟨hv,-,e0,h1,-⟩:=hget _ _ he;obtain ⟨c,tag,m,hb⟩:=h.cel s n e0 h1;exact ⟨c,0,m,(hbox hv hb).1⟩
 ·intro s n e he
  obtain ⟨-,ht,-⟩:=hget _ _ he;simp [comp] at ht
 ·intro k e he
  obtain ⟨hv,ht,e0,h1,rfl⟩:=hget _ _ he;obtain ⟨v,hv1,hr,-⟩:=h.ent k e0 h1;have hval : s_ tm w (a_i W γ) k = some v:=by
   rw [← hv1];refine a_S (fun _ => rfl) fun htt => ?_
   obtain ⟨hk,c,tag,m,hs⟩:=a_0 h h1 htt;exact ⟨(hbox hv hs).2,fun _ _ => rfl⟩
  refine ⟨v,hval,fun _ => ?_,fun q => absurd trivial q⟩;simp only [d_U,top]
  cases hp : e0.path with
  | cons => trivial
  | nil =>
   have hr' := hr (by rw [hp];trivial);simp only
   cases hav : e0.av with
   | own c tag xs =>
    rw [hav] at hr';have hown : Own C.tab w (Ob fr γ) c v (γ k) xs:=hr';have hent : b_S σ k:=⟨c,tag,xs,by rw [h1,← hp,← hav]⟩;split
    ·rename_i hm
     have hW : W k:=⟨hm,hent⟩;refine hown.freeze hG hOb fun b hb q => ?_
     rcases q with q | ⟨k2,q⟩
     ·exact (h.blk k b hb).2.1 q
     ·have:=h.inj k2 k b (hsub k2 b q) hb
      subst this;rw [b_4 hW] at q;cases q
    ·rename_i hm
     have hW : ¬ W k:=fun q => by rw [q.1] at hm;cases hm
     show Own C.tab w _ c v (a_i W γ k) xs
     rw [a_Z hW];exact hown.mono hst fun _ _ => rfl
   | box c tag n =>
    rw [hav] at hr';obtain ⟨b,cs,ety,q1,q2,q3,q4⟩:=hr';have hW : ¬ W k:=by
     rintro ⟨-,c',t',xs,hh⟩;rw [h1] at hh
     have:=Option.some.inj hh
     rw [this] at hav;cases hav
    have : AVR C.tab w (Ob fr (a_i W γ)) (E_ C fz σ) (s_ tm w (a_i W γ)) (a_i W γ) k v (.box c 0 n):=⟨b,cs,ety,by rw [a_Z hW];exact q1,q2,q3,q4⟩;split <;> exact this
   | t c x =>
    rw [hav] at hr';have : AVR C.tab w (Ob fr (a_i W γ)) (E_ C fz σ) (s_ tm w (a_i W γ)) (a_i W γ) k v (.t c x):=V.mono hst hr';split <;> exact this
   | pl c x off =>
    rw [hav] at hr';obtain ⟨a,q1,q2⟩:=hr';have : AVR C.tab w (Ob fr (a_i W γ)) (E_ C fz σ) (s_ tm w (a_i W γ)) (a_i W γ) k v (.pl c x off):=⟨a,q1,q2.mono hst hG.lv⟩;split <;> exact this
   | alias h0 tag c off len =>
    rw [hav] at hr';have : AVR C.tab w (Ob fr (a_i W γ)) (E_ C fz σ) (s_ tm w (a_i W γ)) (a_i W γ) k v (b_0 C σ h0 tag c off len):=by
     rcases b_B (C:=C) (σ0:=σ) (h:=h0) (tag:=tag) (c:=c) (off:=off) (len:=len) with q | ⟨q,hv,htg,xs,hb⟩
     ·rw [q];trivial
     ·rw [q]
      intro c' xs' hx;obtain ⟨q1,hv0,q2,q3⟩:=hr' c xs hb;have hx' : (E_ C fz σ).get h0 = some (d_U C fz σ h0 ⟨[],.own c tag xs⟩):=by
       rw [c_2,if_pos ⟨hv,htg⟩,hb];rfl
      rw [hx'] at hx;simp only [d_U,top,AV.start] at hx;split at hx
      ·simp [AV.let] at hx
      ·simp only [Option.some.injEq,Ent.mk.injEq,AV.own.injEq,true_and] at hx
       obtain ⟨rfl,rfl⟩:=hx;refine ⟨rfl,hv0,?_,q3⟩;rw [← q2];refine a_S (fun _ => rfl) fun htt => ?_
       obtain ⟨hk,c2,tag2,m,hs⟩:=a_0 h hb htt;exact ⟨(hbox hv hs).2,fun _ _ => rfl⟩
    split
    ·show AVR _ _ _ _ _ _ _ _ (AV.let (b_0 C σ h0 tag c off len))
     rcases b_B (C:=C) (σ0:=σ) (h:=h0) (tag:=tag) (c:=c) (off:=off) (len:=len) with q | ⟨q,-⟩ <;> rw [q] at this ⊢ <;> exact this
    ·exact this
   | ptr s tag c =>
    rw [hav] at hr';have : AVR C.tab w (Ob fr (a_i W γ)) (E_ C fz σ) (s_ tm w (a_i W γ)) (a_i W γ) k v (d_I C σ s tag c):=by
     rcases c_j (C:=C) (σ0:=σ) (s:=s) (tag:=tag) (c:=c) with q | ⟨q,hv,cb,n,hb⟩
     ·rw [q];trivial
     ·rw [q]
      intro cb' n' _;obtain ⟨b,q1,q2⟩:=hr' cb n hb;exact ⟨b,by rw [(hbox hv hb).2];exact q1,q2⟩
    split
    ·show AVR _ _ _ _ _ _ _ _ (AV.let (d_I C σ s tag c))
     rcases c_j (C:=C) (σ0:=σ) (s:=s) (tag:=tag) (c:=c) with q | ⟨q,-⟩ <;> rw [q] at this ⊢ <;> exact this
    ·exact this
   | _ => split <;> trivial
 ·intro k e tag he hh
  obtain ⟨-,-,e0,-,rfl⟩:=hget _ _ he
  left
  simp only [d_U,top] at hh
  cases hp : e0.path with
  | cons => rw [hp] at hh;cases hh
  | nil =>
   rw [hp] at hh;simp only at hh
   cases hav : e0.av with
   | alias h1 t c off len =>
    rw [hav] at hh
    rcases b_B (C:=C) (σ0:=σ) (h:=h1) (tag:=t) (c:=c) (off:=off) (len:=len) with q | ⟨q,-⟩ <;> split at hh <;> simp [AV.start,q,AV.let,AV.a_C] at hh <;> exact hh.symm
   | ptr s t c =>
    rw [hav] at hh
    rcases c_j (C:=C) (σ0:=σ) (s:=s) (tag:=t) (c:=c) with q | ⟨q,-⟩ <;> split at hh <;> simp [AV.start,q,AV.let,AV.a_C] at hh <;> exact hh.symm
   | _ => rw [hav] at hh;split at hh <;> simp [AV.start,AV.let,AV.a_C] at hh <;> exact hh.symm
 ·intro k e h0 tag he hh
  obtain ⟨-,-,e0,-,rfl⟩:=hget _ _ he;simp only [d_U,top] at hh
  cases hp : e0.path with
  | cons => rw [hp] at hh;cases hh
  | nil =>
   rw [hp] at hh;simp only at hh
   cases hav : e0.av with
   | alias h1 t c off len =>
    rw [hav] at hh
    rcases b_B (C:=C) (σ0:=σ) (h:=h1) (tag:=t) (c:=c) (off:=off) (len:=len) with q | ⟨q,hv,htg,xs,hb⟩ <;> split at hh <;> simp [AV.start,q,AV.let,AV.home] at hh
    all_goals
     obtain ⟨rfl,rfl⟩:=hh;rw [c_2,if_pos ⟨hv,htg⟩,hb];simp
   | ptr s t c =>
    rw [hav] at hh
    rcases c_j (C:=C) (σ0:=σ) (s:=s) (tag:=t) (c:=c) with q | ⟨q,hv,cb,n,hb⟩ <;> split at hh <;> simp [AV.start,q,AV.let,AV.home] at hh
    all_goals
     obtain ⟨rfl,rfl⟩:=hh;rw [(hbox hv hb).1];simp
   | _ => rw [hav] at hh;split at hh <;> simp [AV.start,AV.let,AV.home] at hh
 ·intro k e s b he hm
  obtain ⟨-,-,e0,-,rfl⟩:=hget _ _ he;simp [d_U,top] at hm
end
section
variable {P : Program} {C : Ctx} {ops : List Oper} {lg : Log} {K : St → Prop}
def g_V (P : Program) (C : Ctx) (ops : List Oper) (i : Nat) (o : Oper) (σ : St) (ws : List (Key × Ent)) : Prop :=
 match ((gopR C ops i o).run σ).2 with
 | .bad => False
 | .all _ _ _ => False
 | .bind _ _ _ _ => False
 | .upd none ws' => ws = ws'
 | .upd (some c) ws' => imp σ ((gopR C ops i o).run σ).1 c ∧ ws = ws'
 | .call tag f args pre sh ks => ∃ ys : List T,ys.length = sh.length ∧ imp σ ((gopR C ops i o).run σ).1 (FnC P C.tab f args sh ys) ∧ ws = pre ++ a_K tag sh ks ys
theorem n_L {i : Nat} {o : Oper} {σ : St} (hna : (∀ c k f,((gopR C ops i o).run σ).2 ≠ .all c k f) ∧ ∀ f k g ws,((gopR C ops i o).run σ).2 ≠ .bind f k g ws) : opW P C ops i o σ K ↔ ∃ ws,g_V P C ops i o σ ws ∧ K (σ.puts ws):=by
 unfold opW g_V
 cases hr : ((gopR C ops i o).run σ).2 with
 | bad => simp [a_o.W]
 | all c k f => exact absurd hr (hna.1 c k f)
 | bind f k g ws => exact absurd hr (hna.2 f k g ws)
 | upd c ws =>
  cases c with
  | none => simp [a_o.W]
  | some c => exact ⟨fun ⟨a,b⟩ => ⟨ws,⟨a,rfl⟩,b⟩,fun ⟨_,⟨a,e⟩,b⟩ => ⟨a,e ▸ b⟩⟩
 | call tag f args pre sh ks =>
  simp only [a_o.W,h_L]
  constructor
  ·rintro ⟨ys,h1,h2,h3⟩
   exact ⟨_,⟨ys,h1,h2,rfl⟩,h3⟩
  ·rintro ⟨ws,⟨ys,h1,h2,rfl⟩,h3⟩
   exact ⟨ys,h1,h2,h3⟩
theorem h_V (a b : List (Key × Ent)) : K_ (a ++ b) = K_ a ++ K_ b:=by
 induction a with
 | nil => rfl
 | cons x r ih => obtain ⟨k,e⟩:=x;simp only [List.cons_append,K_,ih]
theorem i_W (tag : Nat) : ∀ (sh : Shape) (ks : List (Key × Path)) (ys ys' : List T),ys.length = sh.length → ys'.length = sh.length → K_ (a_K tag sh ks ys) = K_ (a_K tag sh ks ys'):=by
 intro sh
 induction sh with
 | nil => intro ks ys ys' _ _;cases ks <;> rfl
 | cons a sh ih =>
  intro ks ys ys' h1 h2;obtain ⟨k,ty,o⟩:=a
  cases ks with
  | nil => rfl
  | cons b ks =>
   obtain ⟨k',q⟩:=b
   cases ys with
   | nil => simp at h1
   | cons y ys =>
    cases ys' with
    | nil => simp at h2
    | cons y' ys' =>
     simp only [a_K,K_];rw [ih ks ys ys' (by simpa using h1) (by simpa using h2)]
theorem o_g {i : Nat} {o : Oper} {σ : St} {ws : List (Key × Ent)} (h : g_V P C ops i o σ ws) : K_ ws = K_ (wsOf ((gopR C ops i o).run σ).2):=by
 unfold g_V at h
 cases hr : ((gopR C ops i o).run σ).2 with
 | bad => rw [hr] at h;exact h.elim
 | all c k f => rw [hr] at h;exact h.elim
 | bind f k g ws => rw [hr] at h;exact h.elim
 | upd c ws' =>
  rw [hr] at h
  cases c with
  | none => rw [show ws = ws' from h];rfl
  | some c => rw [show ws = ws' from h.2];rfl
 | call tag f args pre sh ks =>
  rw [hr] at h;obtain ⟨ys,h1,-,rfl⟩:=h;simp only [wsOf,h_V];rw [i_W tag sh ks ys (List.replicate sh.length .u) h1 (by simp)]
theorem i_5 {p : Path} {s : Nat} {b : Bool} (h : (s,b) ∈ p) : a_ s ∈ d_G p:=by
 induction p with
 | nil => simp at h
 | cons x r ih =>
  obtain ⟨t,c⟩:=x;simp only [d_G,List.mem_cons]
  rcases List.mem_cons.1 h with q | q
  ·simp only [Prod.mk.injEq] at q
   exact .inl (by rw [q.1])
  ·exact .inr (ih q)
theorem i_K {σ τ : St} {p : Path} {c : Prop} (h : ∀ k ∈ d_G p,τ.get k = σ.get k) (hi : imp σ p c) : imp τ p c:=by
 cases p with
 | nil => exact hi
 | cons x r =>
  obtain ⟨s,b⟩:=x;intro hH;exact hi ((b_q (σ:=σ) (σ' := τ) _ fun s b hm => h _ (i_5 hm)).1 hH)
theorem m_i {i : Nat} {o : Oper} {σ τ : St} {ws : List (Key × Ent)} (hk : ∀ k ∈ g_K C ops i o σ,τ.get k = σ.get k) (h : g_V P C ops i o σ ws) : g_V P C ops i o τ ws:=by
 have hr : (gopR C ops i o).run τ = (gopR C ops i o).run σ:=(Rd.agree _ σ τ fun k q => hk k (List.mem_append.2 (.inl q))).1;have hp : ∀ k ∈ d_G ((gopR C ops i o).run σ).1,τ.get k = σ.get k:=fun k q => hk k (List.mem_append.2 (.inr q))
 unfold g_V at h ⊢;rw [hr]
 cases hr2 : ((gopR C ops i o).run σ).2 with
 | bad => rw [hr2] at h;exact h.elim
 | all c k f => rw [hr2] at h;exact h.elim
 | bind f k g ws => rw [hr2] at h;exact h.elim
 | upd c ws' =>
  rw [hr2] at h
  cases c with
  | none => exact h
  | some c => exact ⟨i_K hp h.1,h.2⟩
 | call tag f args pre sh ks =>
  rw [hr2] at h;obtain ⟨ys,h1,h2,h3⟩:=h;exact ⟨ys,h1,i_K hp h2,h3⟩
def runW (W : Nat → List (Key × Ent)) (σ : St) : List Nat → St
 | [] => σ
 | i :: r => runW W (σ.puts (W i)) r
theorem k_p (W : Nat → List (Key × Ent)) : ∀ (a b : List Nat) (σ : St),runW W σ (a ++ b) = runW W (runW W σ a) b:=by
 intro a
 induction a with
 | nil => intro b σ;rfl
 | cons i r ih => intro b σ;exact ih b _
theorem l_9 {W W' : Nat → List (Key × Ent)} : ∀ (l : List Nat) (σ : St),(∀ i ∈ l,W i = W' i) → runW W σ l = runW W' σ l:=by
 intro l
 induction l with
 | nil => intro σ _;rfl
 | cons i r ih =>
  intro σ h;simp only [runW];rw [h i (by simp)];exact ih _ fun j hj => h j (by simp [hj])
theorem j_2 : ∀ {ws : List (Key × Ent)} {k : Key},k ∉ K_ ws → h_e ws k = none:=by
 intro ws
 induction ws with
 | nil => intro k _;rfl
 | cons x r ih =>
  obtain ⟨k',e⟩:=x;intro k h;simp only [K_,List.mem_cons,not_or] at h;simp only [h_e,ih h.2,Key.a_N (fun e => h.1 e.symm)]
theorem c_Z (W : Nat → List (Key × Ent)) (k : Key) (p : Nat → Bool) : ∀ (l : List Nat) (σ σ' : St),(∀ i ∈ l,p i = false → k ∉ K_ (W i)) → σ.get k = σ'.get k → (runW W σ l).get k = (runW W σ' (l.filter p)).get k:=by
 intro l
 induction l with
 | nil => intro σ σ' _ h;exact h
 | cons i r ih =>
  intro σ σ' hp h;have hr:=fun j (hj : j ∈ r) => hp j (List.mem_cons_of_mem _ hj)
  cases hpi : p i with
  | true =>
   rw [List.filter_cons_of_pos hpi];refine ih _ _ hr ?_;rw [St.h_R,St.h_R,h]
  | false =>
   rw [List.filter_cons_of_neg (by rw [hpi];simp)];refine ih _ _ hr ?_;rw [St.h_R,j_2 (hp i (by simp) hpi)];exact h
theorem n_O : ∀ (l : List Oper) (j : Nat) (σ : St),n_N P C ops lg (numbered j l) σ K → ∃ W : Nat → List (Key × Ent),K (runW W σ (List.range' j l.length)) ∧
  ∀ (m : Nat) o,l[m]? = some o → g_V P C ops (j + m) o (runW W σ (List.range' j m)) (W (j + m)) ∧ (∀ k ∈ g_K C ops (j + m) o (runW W σ (List.range' j m)),k ∈ (lg.getD (j + m) ([],[])).1) ∧
   ∀ k ∈ K_ (W (j + m)),k ∈ (lg.getD (j + m) ([],[])).2:=by
 have hsub : ∀ {a b : List Key},subK a b = true → ∀ k ∈ a,k ∈ b:=by
  intro a
  induction a with
  | nil => intro b _ k hk;simp at hk
  | cons x r ih =>
   intro b h k hk;simp only [subK] at h;split at h
   ·rename_i hm
    rcases List.mem_cons.1 hk with rfl | hk
    ·exact b_V.1 hm
    ·exact ih h k hk
   ·cases h
 intro l
 induction l with
 | nil => intro j σ h;exact ⟨fun _ => [],h,fun m o hm => by simp at hm⟩
 | cons o l ih =>
  intro j σ h;simp only [numbered,n_N,opWc] at h;split at h
  ·rename_i h1 h2
   have hna : (∀ c k f,((gopR C ops j o).run σ).2 ≠ .all c k f) ∧ ∀ f k g ws,((gopR C ops j o).run σ).2 ≠ .bind f k g ws:=by
    constructor
    ·intro c k f hh
     rw [hh] at h;exact h
    ·intro c k f ws hh
     rw [hh] at h;exact h
   have h : opW P C ops j o σ (fun σ' => n_N P C ops lg (numbered (j + 1) l) σ' K):=by
    split at h
    ·exact h.elim
    ·exact h.elim
    ·exact h
   obtain ⟨ws,hst,hK⟩:=(n_L hna).1 h;obtain ⟨W,q1,q2⟩:=ih (j + 1) (σ.puts ws) hK;have hc : ∀ m,runW (fun i => if i = j then ws else W i) (σ.puts ws) (List.range' (j + 1) m) = runW W (σ.puts ws) (List.range' (j + 1) m):=by
    intro m;refine l_9 _ _ fun i hi => ?_
    have:=(List.mem_range'_1.1 hi).1
    rw [if_neg (by omega)]
   refine ⟨fun i => if i = j then ws else W i,?_,fun m o' hm => ?_⟩
   ·rw [List.length_cons,List.range'_succ]
    simp only [runW,if_true];rw [hc];exact q1
   ·cases m with
    | zero =>
     simp only [List.getElem?_cons_zero,Option.some.injEq] at hm;subst hm;simp only [Nat.add_zero,List.range'_zero,runW,if_true];exact ⟨hst,hsub h1,fun k hk => hsub h2 k (by rw [← o_g hst];exact hk)⟩
    | succ m =>
     simp only [List.getElem?_cons_succ] at hm;rw [List.range'_succ];simp only [runW,if_true];rw [hc,show j + (m + 1) = j + 1 + m by omega,if_neg (by omega)];exact q2 m o' hm
  ·exact h.elim
theorem j_i : ∀ {a b : List Nat},a.Pairwise (· < ·) → b.Pairwise (· < ·) → (∀ x,x ∈ a ↔ x ∈ b) → a = b:=by
 intro a
 induction a with
 | nil =>
  intro b _ _ h
  cases b with
  | nil => rfl
  | cons y s => exact absurd ((h y).2 (by simp)) (by simp)
 | cons x r ih =>
  intro b ha hb h
  cases b with
  | nil => exact absurd ((h x).1 (by simp)) (by simp)
  | cons y s =>
   rw [List.pairwise_cons] at ha hb;have hxy : x = y:=by
    rcases List.mem_cons.1 ((h x).1 (by simp)) with q | q
    ·exact q
    ·rcases List.mem_cons.1 ((h y).2 (by simp)) with q' | q'
     ·exact q'.symm
     ·have:=ha.1 y q'
      have:=hb.1 x q
      omega
   subst hxy
   congr 1
   refine ih ha.2 hb.2 fun z' => ⟨fun hz => ?_,fun hz => ?_⟩
   ·rcases List.mem_cons.1 ((h z').1 (by simp [hz])) with q | q
    ·have:=ha.1 z' hz;omega
    ·exact q
   ·rcases List.mem_cons.1 ((h z').2 (by simp [hz])) with q | q
    ·have:=hb.1 z' hz;omega
    ·exact q
def f_G (ops : List Oper) : List Nat → Prop
 | [] => True
 | i :: d => i ∉ d ∧ (∃ o,ops[i]? = some o ∧ ∀ e ∈ o.after.toList,Region.binds .any e = true → e.on ∈ d) ∧ f_G ops d
theorem o_8 {x : Nat} {f : List Nat → List Nat} {a : List Nat} (hf : ∀ b j,j ∈ f b → j ∈ a ∨ j ∈ b) : ∀ (b : List Nat) (j : Nat),j ∈ mrgX x f b → j ∈ x :: a ∨ j ∈ b:=by
 intro b
 induction b with
 | nil => intro j h;simp only [mrgX,List.mem_cons] at h ⊢;rcases h with h | h;exact Or.inl (Or.inl h);rcases hf _ _ h with h | h;exact Or.inl (Or.inr h);exact Or.inr h
 | cons y b ih =>
  intro j h;simp only [mrgX] at h;split at h
  ·rcases List.mem_cons.1 h with h | h
   ·exact Or.inl (List.mem_cons.2 (Or.inl h))
   ·rcases hf _ _ h with h | h
    ·exact Or.inl (List.mem_cons_of_mem _ h)
    ·exact Or.inr (List.mem_cons_of_mem _ h)
  ·split at h
   ·rcases List.mem_cons.1 h with h | h
    ·exact Or.inl (List.mem_cons.2 (Or.inl h))
    ·rcases hf _ _ h with h | h
     ·exact Or.inl (List.mem_cons_of_mem _ h)
     ·exact Or.inr h
   ·rcases List.mem_cons.1 h with h | h
    ·exact Or.inr (List.mem_cons.2 (Or.inl h))
    ·rcases ih _ h with h | h
     ·exact Or.inl h
     ·exact Or.inr (List.mem_cons_of_mem _ h)
theorem o_7 : ∀ (a b : List Nat) (j : Nat),j ∈ mrgN a b → j ∈ a ∨ j ∈ b:=by
 intro a
 induction a with
 | nil => intro b j h;exact Or.inr h
 | cons x a ih => intro b j h;exact o_8 (fun b j => ih b j) b j h
theorem m_A {acc : List (List Nat)} : ∀ {es : List Edge} {j : Nat},j ∈ h_B acc es → ∃ e ∈ es,Region.binds .any e = true ∧ (j = e.on ∨ j ∈ acc.getD e.on []):=by
 intro es
 induction es with
 | nil => intro j h;simp [h_B] at h
 | cons e r ih =>
  intro j h;simp only [h_B] at h;split at h
  ·rename_i hb
   rcases o_7 _ _ _ h with h | q
   ·rcases List.mem_cons.1 h with q | q
    ·exact ⟨e,by simp,hb,.inl q⟩
    ·exact ⟨e,by simp,hb,.inr q⟩
   ·obtain ⟨e',h1,h2,h3⟩:=ih q
    exact ⟨e',by simp [h1],h2,h3⟩
  ·obtain ⟨e',h1,h2,h3⟩:=ih h
   exact ⟨e',by simp [h1],h2,h3⟩
theorem o_y : ∀ (l : List Oper) (acc : List (List Nat)),∃ t,ancs l acc = acc ++ t ∧ t.length = l.length ∧ ∀ (m : Nat) o,l[m]? = some o → t[m]? = some (h_B (acc ++ t.take m) o.after.toList):=by
 intro l
 induction l with
 | nil => intro acc;exact ⟨[],by simp [ancs],rfl,fun m o hm => by simp at hm⟩
 | cons o l ih =>
  intro acc;obtain ⟨t,h1,h2,h3⟩:=ih (acc ++ [h_B acc o.after.toList]);refine ⟨h_B acc o.after.toList :: t,by simp only [ancs];rw [h1];simp,by simp [h2],fun m o' hm => ?_⟩
  cases m with
  | zero =>
   simp only [List.getElem?_cons_zero,Option.some.injEq] at hm;subst hm;simp
  | succ m =>
   simp only [List.getElem?_cons_succ] at hm ⊢;rw [h3 m o' hm];simp
theorem d_m {d1 d2 : List Nat} {i : Nat} (h : f_G ops (d1 ++ i :: d2)) : f_G ops (i :: d2):=by
 induction d1 with
 | nil => exact h
 | cons x r ih => exact ih h.2.2
theorem e_P {A : List (List Nat)} (hA : A = ancs ops []) : ∀ (i : Nat) (d : List Nat),f_G ops (i :: d) → ∀ j ∈ A.getD i [],j ∈ d:=by
 obtain ⟨t,h1,h2,h3⟩:=o_y ops [];rw [List.nil_append] at h1;intro i
 induction i using Nat.strongRecOn with
 | _ i ih =>
  intro d hd j hj;obtain ⟨-,⟨o,ho,he⟩,-⟩:=id hd;have ht:=h3 i o ho;rw [hA,h1,List.getD_eq_getElem?_getD,ht,Option.getD_some,List.nil_append] at hj;obtain ⟨e,he1,he2,he3⟩:=m_A hj;have hon:=he e he1 he2
  rcases he3 with rfl | he3
  ·exact hon
  ·have hlt : e.on < i:=by
    rw [List.getD_eq_getElem?_getD,List.getElem?_take] at he3;split at he3
    ·assumption
    ·simp at he3
   have hj2 : j ∈ A.getD e.on []:=by
    rw [hA,h1,List.getD_eq_getElem?_getD];rw [List.getD_eq_getElem?_getD,List.getElem?_take,if_pos hlt] at he3;exact he3
   obtain ⟨d1,d2,rfl⟩:=List.append_of_mem hon
   have:=ih e.on hlt d2 (d_m hd.2.2) j hj2
   simp [this]
def Pairs (A : List (List Nat)) (lg : Log) : Prop:=∀ i j,j < i → i < lg.length → j ∈ A.getD i [] ∨ apart2 (lg.getD j ([],[])) (lg.getD i ([],[])) = true
theorem o_5 {l : List Nat} {n : Nat} (h : memN l n = true) : n ∈ l:=by
 induction l with
 | nil => simp [memN] at h
 | cons x r ih =>
  simp only [memN] at h;split at h
  ·rename_i hx;rw [Nat.eq_of_beq_eq_true hx];simp
  ·simp [ih h]
theorem l_4 {a : List Nat} {y : List Key × List Key} : ∀ (r : Log) (i : Nat),g_D a y i r = true → ∀ (m : Nat) x,r[m]? = some x → (i + m) ∈ a ∨ apart2 x y = true:=by
 intro r
 induction r with
 | nil => intro i _ m x hm;simp at hm
 | cons z r ih =>
  intro i h m x hm;have hz : (i ∈ a ∨ apart2 z y = true) ∧ g_D a y (i + 1) r = true:=by
   simp only [g_D] at h;split at h
   ·rename_i hma;exact ⟨.inl (o_5 hma),h⟩
   ·split at h
    ·rename_i hap;exact ⟨.inr hap,h⟩
    ·cases h
  cases m with
  | zero =>
   simp only [List.getElem?_cons_zero,Option.some.injEq] at hm;subst hm;exact hz.1
  | succ m =>
   simp only [List.getElem?_cons_succ] at hm;rw [show i + (m + 1) = i + 1 + m by omega];exact ih (i + 1) hz.2 m x hm
theorem k_j : ∀ (r done : Log) (as : List (List Nat)),f_h done as r = true → ∀ (m : Nat) y,r[m]? = some y → ∃ a,as[m]? = some a ∧ g_D a y 0 (done ++ r.take m) = true:=by
 intro r
 induction r with
 | nil => intro done as _ m y hm;simp at hm
 | cons z r ih =>
  intro done as h m y hm
  cases as with
  | nil => simp [f_h] at h
  | cons a as =>
   simp only [f_h] at h;split at h
   ·rename_i hp
    cases m with
    | zero =>
     simp only [List.getElem?_cons_zero,Option.some.injEq] at hm;subst hm;exact ⟨a,rfl,by simpa using hp⟩
    | succ m =>
     simp only [List.getElem?_cons_succ] at hm;obtain ⟨a',q1,q2⟩:=ih _ _ h m y hm;exact ⟨a',by simpa using q1,by simpa using q2⟩
   ·cases h
theorem p_g {A : List (List Nat)} (h : f_h [] A lg = true) : Pairs A lg:=by
 intro i j hj hi;obtain ⟨a,h1,h2⟩:=k_j lg [] A h i _ (List.getElem?_eq_getElem hi);rw [List.nil_append] at h2;have hm : (lg.take i)[j]? = some (lg.getD j ([],[])):=by
  rw [List.getElem?_take,if_pos hj,List.getD_eq_getElem?_getD,List.getElem?_eq_getElem (by omega)];rfl
 have:=l_4 _ 0 h2 j _ hm
 rw [Nat.zero_add] at this;rw [List.getD_eq_getElem?_getD,h1,Option.getD_some,List.getD_eq_getElem?_getD (l:=lg) (i:=i),List.getElem?_eq_getElem hi];exact this
theorem e_Q {x y : List Key × List Key} (h : apart2 x y = true) : (∀ k ∈ x.2,k ∉ y.1) ∧ (∀ k ∈ x.2,k ∉ y.2) ∧ (∀ k ∈ x.1,k ∉ y.2):=by
 unfold apart2 at h;split at h
 ·rename_i h1 h2 h3
  exact ⟨c_u.1 h1,c_u.1 h2,c_u.1 h3⟩
 ·cases h
theorem d_V {A : List (List Nat)} (hA : A = ancs ops []) (hP : Pairs A lg) (hl : lg.length = ops.length) (k : Key) : ∀ (d : List Nat),f_G ops d → (d.reverse.filter fun m => decide (k ∈ (lg.getD m ([],[])).2)).Pairwise (· < ·):=by
 intro d
 induction d with
 | nil => intro _;simp
 | cons i d ih =>
  intro h;rw [List.reverse_cons,List.filter_append,List.pairwise_append];refine ⟨ih h.2.2,?_,?_⟩
  ·by_cases hw : k ∈ (lg.getD i ([],[])).2
   ·rw [List.filter_cons_of_pos (by simpa using hw)];simp
   ·rw [List.filter_cons_of_neg (by simpa using hw)];simp
  ·intro m hm i' hi'
   simp only [List.mem_filter,List.mem_reverse,List.mem_singleton,decide_eq_true_eq] at hm hi';obtain ⟨rfl,hwi⟩:=hi';obtain ⟨hmd,hwm⟩:=hm
   rcases Nat.lt_trichotomy m i' with q | q | q
   ·exact q
   ·subst q;exact absurd hmd h.1
   ·
    have hml : m < lg.length:=by
     rw [hl];obtain ⟨d1,d2,rfl⟩:=List.append_of_mem hmd;obtain ⟨-,⟨o,ho,-⟩,-⟩:=d_m h.2.2;exact (List.getElem?_eq_some_iff.1 ho).1
    rcases hP m i' q hml with hh | hh
    ·obtain ⟨d1,d2,rfl⟩:=List.append_of_mem hmd
     have:=e_P hA m d2 (d_m h.2.2) i' hh
     exact absurd (by simp [this]) h.1
    ·exact absurd hwm ((e_Q hh).2.1 k hwi)
theorem d_E (hl : lg.length = ops.length) {d : List Nat} (h : f_G ops d) {m : Nat} (hm : m ∈ d) : m < ops.length:=by
 obtain ⟨d1,d2,rfl⟩:=List.append_of_mem hm;obtain ⟨-,⟨o,ho,-⟩,-⟩:=d_m h;exact (List.getElem?_eq_some_iff.1 ho).1
theorem f_B (p : Nat → Bool) (n : Nat) : ((List.range n).filter p).Pairwise (· < ·):=List.Pairwise.filter _ List.pairwise_lt_range
theorem k_m {A : List (List Nat)} (hA : A = ancs ops []) (hP : Pairs A lg) (hl : lg.length = ops.length) {W : Nat → List (Key × Ent)} (hW : ∀ m,m < ops.length → ∀ k ∈ K_ (W m),k ∈ (lg.getD m ([],[])).2)
  {i : Nat} {d : List Nat} (h : f_G ops (i :: d)) {k : Key} (hk : k ∈ (lg.getD i ([],[])).1) (σ : St) : (runW W σ d.reverse).get k = (runW W σ (List.range i)).get k:=by
 have hil : i < ops.length:=d_E hl h (by simp);rw [c_Z W k (fun m => decide (k ∈ (lg.getD m ([],[])).2)) d.reverse σ σ (fun m hm hp hh => by
   have:=hW m (d_E hl h.2.2 (by simpa using hm)) k hh
   exact of_decide_eq_false hp this) rfl,
  c_Z W k (fun m => decide (k ∈ (lg.getD m ([],[])).2)) (List.range i) σ σ (fun m hm hp hh => by
   have:=hW m (by have:=List.mem_range.1 hm;omega) k hh
   exact of_decide_eq_false hp this) rfl]
 congr 2
 refine j_i (d_V hA hP hl k d h.2.2) (f_B _ _) fun m => ?_
 simp only [List.mem_filter,List.mem_reverse,List.mem_range,decide_eq_true_eq]
 constructor
 ·rintro ⟨hmd,hw⟩
  refine ⟨?_,hw⟩
  rcases Nat.lt_trichotomy m i with q | q | q
  ·exact q
  ·subst q;exact absurd hmd h.1
  ·have hml : m < lg.length:=by rw [hl];exact d_E hl h.2.2 hmd
   rcases hP m i q hml with hh | hh
   ·obtain ⟨d1,d2,rfl⟩:=List.append_of_mem hmd
    have:=e_P hA m d2 (d_m h.2.2) i hh
    exact absurd (by simp [this]) h.1
   ·exact absurd hw ((e_Q hh).2.2 k hk)
 ·rintro ⟨hmi,hw⟩
  refine ⟨?_,hw⟩
  rcases hP i m hmi (by rw [hl];exact hil) with hh | hh
  ·exact e_P hA i d h m hh
  ·exact absurd hk ((e_Q hh).1 k hw)
theorem n_f {A : List (List Nat)} (hA : A = ancs ops []) (hP : Pairs A lg) (hl : lg.length = ops.length) {W : Nat → List (Key × Ent)} (hW : ∀ m,m < ops.length → ∀ k ∈ K_ (W m),k ∈ (lg.getD m ([],[])).2)
  {d : List Nat} (h : f_G ops d) (hall : ∀ m,m < ops.length → m ∈ d) (σ : St) (k : Key) : (runW W σ d.reverse).get k = (runW W σ (List.range ops.length)).get k:=by
 rw [c_Z W k (fun m => decide (k ∈ (lg.getD m ([],[])).2)) d.reverse σ σ (fun m hm hp hh => by
   have:=hW m (d_E hl h (by simpa using hm)) k hh
   exact of_decide_eq_false hp this) rfl,
  c_Z W k (fun m => decide (k ∈ (lg.getD m ([],[])).2)) (List.range ops.length) σ σ (fun m hm hp hh => by
   have:=hW m (List.mem_range.1 hm) k hh
   exact of_decide_eq_false hp this) rfl]
 congr 2
 refine j_i (d_V hA hP hl k d h) (f_B _ _) fun m => ?_
 simp only [List.mem_filter,List.mem_reverse,List.mem_range,decide_eq_true_eq];exact ⟨fun ⟨h1,h2⟩ => ⟨d_E hl h h1,h2⟩,fun ⟨h1,h2⟩ => ⟨hall m h1,h2⟩⟩
end
section
variable {P : Program} {C : Ctx} {fr : Fr} {lg : Log} {K : St → Prop}
theorem k_x {tm : Array Value} {w w' : World} {γ : Key → Option Nat} (hh : w'.heap = w.heap) : s_ tm w' γ = s_ tm w γ:=by
 funext k
 unfold s_ World.cell?;rw [hh]
theorem Rel.world {tm : Array Value} {w w' : World} {σ : St} {γ : Key → Option Nat} {D : Nat → Prop} (hG : Good P C.tab) (h : Rel C.tab fr tm w σ γ) (hwf : Wf C D σ) (hh : w'.heap = w.heap) (h1 : w'.os = w.os) (h2 : w'.tape = w.tape) (h3 : w'.output = w.output) :
  Rel C.tab fr tm w' σ γ:=by
 refine Rel.step hG h (fun _ => False) h1 h2 h3 (by rw [hh];exact Nat.le_refl _) (fun b _ _ => by rw [hh]) (fun b _ ho => ⟨by rw [hh],ho⟩) h.inj (fun k b hk => by rw [hh];exact h.blk k b hk) h.cel h.cmp (fun _ _ => rfl) ?_ (fun _ _ q => q.elim);intro k e _ hk;refine ⟨by rw [k_x hh],rfl,fun _ _ _ => id,fun b _ => ⟨fun _ _ _ _ => by rw [hh],fun _ _ _ _ cs ety q => ⟨cs,by rw [hh];exact q,rfl⟩⟩,fun _ _ _ q => q.elim,?_⟩;exact fun h0 tag hh0 _ => hwf.dom k e h0 tag hk hh0
theorem e_S {i : Nat} : ∀ {es : List Edge},g_5 i es = true → ∀ e ∈ es,Region.binds .any e = true → e.on < i:=by
 intro es
 induction es with
 | nil => intro _ e he;simp at he
 | cons x r ih =>
  intro h e he hb;simp only [g_5] at h;split at h
  ·rename_i hx
   split at h
   ·rename_i hlt
    rcases List.mem_cons.1 he with rfl | he
    ·simp only [Nat.blt_eq] at hlt;exact hlt
    ·exact ih h e he hb
   ·cases h
  ·rename_i hx
   rcases List.mem_cons.1 he with rfl | he
   ·rw [hb] at hx;cases hx
   ·exact ih h e he hb
theorem d_W : ∀ {l : List Oper} {j : Nat},e_T j l = true → ∀ (m : Nat) o,l[m]? = some o → g_5 (j + m) o.after.toList = true:=by
 intro l
 induction l with
 | nil => intro j _ m o hm;simp at hm
 | cons x r ih =>
  intro j h m o hm;simp only [e_T] at h;split at h
  ·rename_i hb
   cases m with
   | zero =>
    simp only [List.getElem?_cons_zero,Option.some.injEq] at hm;subst hm;exact hb
   | succ m =>
    simp only [List.getElem?_cons_succ] at hm;rw [show j + (m + 1) = j + 1 + m by omega];exact ih h m o hm
  ·cases h
def Lists (ops : Array Oper) (listed : Array Bool) (d : List Nat) : Prop:=listed.size = ops.size ∧ ∀ i,i < ops.size → (listed[i]? = some true ↔ i ∈ d) ∧ (listed[i]? = some true ∨ listed[i]? = some false)
theorem Lists.getD {ops : Array Oper} {listed : Array Bool} {d : List Nat} (h : Lists ops listed d) {i : Nat} (hi : i < ops.size) (x : Bool) : listed.getD i x = decide (i ∈ d):=by
 obtain ⟨h1,h2⟩:=h.2 i hi;rw [Array.getD_eq_getD_getElem?]
 by_cases hm : i ∈ d
 ·rw [h1.2 hm];simp [hm]
 ·rcases h2 with h2 | h2
  ·exact absurd (h1.1 h2) hm
  ·rw [h2];simp [hm]
theorem g_L {ops : Array Oper} {listed : Array Bool} {d : List Nat} (h : Lists ops listed d) (hback : e_T 0 ops.toList = true) {i : Nat} :
  i ∈ Region.ready .any ops listed ↔ i ∉ d ∧ ∃ o,ops.toList[i]? = some o ∧ ∀ e ∈ o.after.toList,Region.binds .any e = true → e.on ∈ d:=by
 unfold Region.ready;simp only [List.mem_filter,List.mem_range,Bool.and_eq_true,Bool.not_eq_true']
 constructor
 ·rintro ⟨hi,hl,ha⟩
  rw [h.getD hi] at hl;refine ⟨by simpa using hl,ops[i],by simp [hi],fun e he hb => ?_⟩;rw [Array.getElem?_eq_getElem hi] at ha;simp only [Option.map_some,Option.getD_some,Array.all_eq_true_iff_forall_mem] at ha
  have:=ha e (by simpa using he)
  simp only [hb,Bool.not_true,Bool.false_or] at this;have hlt : e.on < ops.size:=by
   have:=e_S (d_W hback i ops[i] (by simp [hi])) e he hb
   omega
  rw [h.getD hlt] at this;simpa using this
 ·rintro ⟨hd,o,ho,he⟩
  rw [Array.getElem?_toList] at ho;obtain ⟨hi,ho'⟩:=Array.getElem?_eq_some_iff.1 ho;refine ⟨hi,by rw [h.getD hi];simpa using hd,?_⟩;rw [ho];simp only [Option.map_some,Option.getD_some,Array.all_eq_true_iff_forall_mem];intro e hm
  cases hb : Region.binds .any e with
  | false => rfl
  | true =>
   have hlt : e.on < ops.size:=by
    have:=e_S (d_W hback i o (by rw [Array.getElem?_toList];exact ho)) e (by simpa using hm) hb
    omega
   rw [h.getD hlt];simpa using he e (by simpa using hm) hb
theorem Lists.set {ops : Array Oper} {listed : Array Bool} {d : List Nat} (h : Lists ops listed d) {i : Nat} (hi : i < ops.size) : Lists ops (listed.setIfInBounds i true) (i :: d):=by
 refine ⟨by simp [h.1],fun j hj => ?_⟩;obtain ⟨h1,h2⟩:=h.2 j hj;rw [Array.getElem?_setIfInBounds]
 by_cases he : i = j
 ·subst he
  rw [if_pos rfl,if_pos (by rw [h.1];exact hi)];simp
 ·rw [if_neg he]
  refine ⟨?_,h2⟩;rw [h1,List.mem_cons];exact ⟨.inr,fun q => q.elim (fun e => absurd e.symm he) id⟩
theorem Lists.nil (ops : Array Oper) : Lists ops (Array.replicate ops.size false) [] :=
 ⟨by simp,fun i hi => by simp [Array.getElem?_replicate,hi]⟩
theorem k_f {ops : List Oper} : ∀ {d : List Nat},f_G ops d → d.Nodup:=by
 intro d
 induction d with
 | nil => intro _;exact List.nodup_nil
 | cons i d ih => intro h;exact List.nodup_cons.2 ⟨h.1,ih h.2.2⟩
theorem k_d : ∀ (n : Nat) (d : List Nat),d.Nodup → (∀ m ∈ d,m < n) → d.length ≤ n:=by
 intro n
 induction n with
 | zero =>
  intro d _ h
  cases d with
  | nil => simp
  | cons x r => exact absurd (h x (by simp)) (by omega)
 | succ n ih =>
  intro d hd h;have h1 : (d.erase n).Nodup:=hd.erase n;have h2:=ih (d.erase n) h1 fun m hm => by
   have:=(hd.mem_erase_iff).1 hm
   have:=h m this.2
   omega
  have:=List.length_erase (a:=n) (l:=d)
  split at this <;> omega
theorem m_B (hG : Good P C.tab) {ops : Array Oper} {Q : Exit → Act → World → Prop} {tm0 : Array Value} (hpo : d_S C ops.toList = true) (hQ : ∀ a w,Left C fr tm0 K a w → Q .normal a w) {W : Nat → List (Key × Ent)} {σ0 : St}
  (hP : Pairs (ancs ops.toList []) lg) (hback : e_T 0 ops.toList = true) (hl : lg.length = ops.toList.length)
  (hK : K (runW W σ0 (List.range ops.toList.length)))
  (hstep : ∀ (m : Nat) o,ops.toList[m]? = some o → g_V P C ops.toList m o (runW W σ0 (List.range m)) (W m) ∧ (∀ k ∈ g_K C ops.toList m o (runW W σ0 (List.range m)),k ∈ (lg.getD m ([],[])).1) ∧
   ∀ k ∈ K_ (W m),k ∈ (lg.getD m ([],[])).2) :
  ∀ (fuel : Nat) (d : List Nat) (listed : Array Bool) (a : Act) (w : World) (γ : Key → Option Nat),Lists ops listed d → f_G ops.toList d → ops.size ≤ fuel + d.length →
   a.defers = [] → a.tmps.size = C.nt → Pinned C tm0 a.tmps → Rel C.tab fr a.tmps w (runW W σ0 d.reverse) γ → Wf C (fun j => j ∈ d) (runW W σ0 d.reverse) → wpAny P .any ops Q fuel listed a w:=by
 have hWk : ∀ m,m < ops.toList.length → ∀ k ∈ K_ (W m),k ∈ (lg.getD m ([],[])).2:=fun m hm => (hstep m _ (List.getElem?_eq_getElem hm)).2.2
 have fin : ∀ (d : List Nat) (listed : Array Bool) (a : Act) (w : World) (γ : Key → Option Nat),Lists ops listed d → f_G ops.toList d → Region.ready .any ops listed = [] → a.defers = [] → a.tmps.size = C.nt → Pinned C tm0 a.tmps →
   Rel C.tab fr a.tmps w (runW W σ0 d.reverse) γ → Q .normal a w:=by
  intro d listed a w γ hL hd hr h1 h2 hp h3;have hall : ∀ m,m < ops.toList.length → m ∈ d:=by
   intro m
   induction m using Nat.strongRecOn with
   | _ m ih =>
    intro hm
    by_cases hmd : m ∈ d
    ·exact hmd
    ·have : m ∈ Region.ready .any ops listed:=(g_L hL hback).2 ⟨hmd,_,List.getElem?_eq_getElem hm,fun e he hb => by
      have:=e_S (d_W hback m _ (List.getElem?_eq_getElem hm)) e he hb
      rw [Nat.zero_add] at this;exact ih e.on this (by omega)⟩
     rw [hr] at this;simp at this
  exact hQ a w ⟨h1,h2,hp,_,γ,hK,h3.congr fun k => (n_f rfl hP hl hWk hd hall σ0 k).symm⟩
 intro fuel
 induction fuel with
 | zero =>
  intro d listed a w γ hL hd hf h1 h2 hp h3 h4;have hr : Region.ready .any ops listed = []:=by
   cases hr : Region.ready .any ops listed with
   | nil => rfl
   | cons i r =>
    obtain ⟨hid,o,ho,-⟩:=(g_L hL hback (i:=i)).1 (by rw [hr];simp);have hnd:=List.nodup_cons.2 ⟨hid,k_f hd⟩
    have:=k_d ops.size (i :: d) hnd fun m hm => by
     rcases List.mem_cons.1 hm with rfl | hm
     ·have:=(List.getElem?_eq_some_iff.1 ho).1;simpa using this
     ·have:=d_E hl hd hm;simpa using this
    simp at this;omega
  exact ⟨hr,fin d listed a w γ hL hd hr h1 h2 hp h3⟩
 | succ fuel ih =>
  intro d listed a w γ hL hd hf h1 h2 hp h3 h4;refine ⟨fun hr => fin d listed a w γ hL hd hr h1 h2 hp h3,fun i hi => ?_⟩;obtain ⟨hid,o,ho,hes⟩:=(g_L hL hback (i:=i)).1 hi;have hdi : f_G ops.toList (i :: d):=⟨hid,⟨o,ho,hes⟩,hd⟩;have hil : i < ops.size:=by have:=(List.getElem?_eq_some_iff.1 ho).1;simpa using this
  obtain ⟨hs,hreads,hwrites⟩:=hstep i o ho;have hs' := m_i (τ:=runW W σ0 d.reverse) (fun k hk => k_m rfl hP hl hWk hdi (hreads k hk) σ0) hs;have hpd:=h_l hpo (o:=o) (List.mem_of_getElem? ho);have hg:=i_J (Q:=Q) (K:=fun σ' => σ' = runW W σ0 (i :: d).reverse) hG h3 h4 h2 (i:=i) hid (o:=o) (ops:=ops)
   ((n_L ⟨(fun c k f hh => by unfold g_V at hs';rw [hh] at hs';exact hs'),(fun c k f ws hh => by unfold g_V at hs';rw [hh] at hs';exact hs')⟩).2 ⟨W i,hs',by rw [List.reverse_cons,k_p];rfl⟩)
  have hnext : ∀ a' w',After C fr (fun k => k ∈ d ∨ k = i) (fun σ' => σ' = runW W σ0 (i :: d).reverse) a' w' → Pinned C tm0 a'.tmps → wpAny P .any ops Q fuel (listed.setIfInBounds i true) a' w' := by
   rintro a' w' ⟨q1,q2,σ',γ',rfl,q4,q5⟩ hp';refine ih (i :: d) _ a' w' γ' (hL.set hil) hdi (by simp;omega) q1 q2 hp' q4 ⟨fun k e tag he hh => (q5.tags k e tag he hh).imp id fun ⟨j,hj,e⟩ => ⟨j,?_,e⟩,q5.dom,q5.paths⟩
   rcases hj with hj | hj
   ·simp [hj]
   ·simp [hj]
  have ha:=f_Z h1;have ho' : ops[i]? = some o:=by rw [← Array.getElem?_toList];exact ho
  unfold wpOp;rw [ho'];simp only;rw [ha];split
  ·rename_i hw
   rw [if_pos hw] at hg;refine .inl (Oper.wp_mono ?_ (Oper.wp_put hg));rintro a' w' ⟨q,v,hv⟩;exact hnext _ _ q (hp.trans (by rw [hv];exact Pinned.put hpd))
  ·rename_i hw
   rw [if_neg hw] at hg;exact hnext _ _ hg (hp.trans (Pinned.put hpd))
theorem h_W (ops : List Oper) : ∀ (l : List (Nat × Oper)) (σ : St),(h_f C ops l σ).length = l.length:=by
 intro l
 induction l with
 | nil => intro σ;rfl
 | cons x r ih => intro σ;obtain ⟨i,o⟩:=x;simp only [h_f,List.length_cons,ih]
theorem g_z : ∀ (l : List Oper) (j : Nat),(numbered j l).length = l.length:=by
 intro l
 induction l with
 | nil => intro j;rfl
 | cons x r ih => intro j;simp only [numbered,List.length_cons,ih]
theorem h_8 (hG : Good P C.tab) (hm : P.follows .mixedOrders = true) {id : Nat} {ops : Array Oper} {draw : Bool} {Q : Exit → Act → World → Prop} {tm : Array Value} (hQ : ∀ a w,Left C fr tm K a w → Q .normal a w)
  {w : World} {σ : St} {γ : Key → Option Nat} (hsz : tm.size = C.nt) (h : Rel C.tab fr tm w σ γ) (hW : h_7 P C id ops.toList draw K σ) : (Code.region id ops draw).wp P Q ⟨tm,[]⟩ w:=by
 obtain ⟨γ',h',hwf⟩:=h.start (C:=C) hG (fzOf C id);unfold h_7 at hW;split at hW
 ·exact hW.elim
 ·rename_i hpo
  cases draw with
  | false =>
   simp only at hW;exact wp_region_list (l_2 hG hQ ops.toList hpo 0 (fun _ => False) (fun k hk => hk.elim) ⟨tm,[]⟩ w _ γ' rfl hsz (fun _ _ => rfl) h' hwf hW)
  | true =>
   simp only at hW;split at hW
   ·rename_i hp hb
    refine wp_region_any hm ?_;obtain ⟨W,q1,q2⟩:=n_O ops.toList 0 _ hW
    have hrun : Rel C.tab fr tm { w with drawn:=w.drawn + 1 } (E_ C (fzOf C id) σ) γ' := h'.world hG hwf (w' := { w with drawn:=w.drawn + 1 }) rfl rfl rfl rfl;refine m_B (lg:=h_f C ops.toList (numbered 0 ops.toList) (E_ C (fzOf C id) σ)) hG hpo hQ (p_g hp) hb (by rw [h_W,g_z]) (by rw [List.range_eq_range'];exact q1) (fun m o hm => ?_) ops.size [] _ _ _ γ' (Lists.nil ops) trivial (by simp) rfl hsz (fun _ _ => rfl) hrun ?_
    ·have:=q2 m o hm
     rw [Nat.zero_add] at this;rw [List.range_eq_range'];exact this
    ·exact ⟨fun k e tag he hh => (hwf.tags k e tag he hh).imp (fun q => q) fun ⟨j,hj,_⟩ => hj.elim,hwf.dom,hwf.paths⟩
   ·exact hW.elim
end
section
variable {P : Program} {C : Ctx}
def u_A (C : Ctx) (fr : Fr) (tm : Array Value) (Q : Exit → St → Prop) : Exit → Act → World → Prop:=fun e a' w' => a'.defers = [] ∧ a'.tmps.size = C.nt ∧ Pinned C tm a'.tmps ∧ ∃ σ' γ',Q e σ' ∧ Rel C.tab fr a'.tmps w' σ' γ'
theorem SW.mono {c : Code} {Q Q' : Exit → St → Prop} (hq : ∀ e σ,Q e σ → Q' e σ) {σ : St} (h : SW P C c Q σ) : SW P C c Q' σ:=by
 intro fr tm w γ hsz hr;refine wp_mono (h fr tm w γ hsz hr) ?_;rintro e a' w' ⟨h1,h2,hp,σ',γ',h3,h4⟩;exact ⟨h1,h2,hp,σ',γ',hq _ _ h3,h4⟩
theorem SW.congr {c : Code} {Q : Exit → St → Prop} {σ σ' : St} (h : SW P C c Q σ) (he : ∀ k,σ.get k = σ'.get k) : SW P C c Q σ' :=
 fun fr tm w γ hsz hr => h fr tm w γ hsz (hr.congr he)
theorem c_L (hG : Good P C.tab) (hm : P.follows .mixedOrders = true) : ∀ (c : Code) (Q : Exit → St → Prop) (σ : St),h_J P C c Q σ → SW P C c Q σ:=by
 intro c
 induction c with
 | skip => intro Q σ h fr tm w γ hsz hr;refine Go.wp_skip ?_;exact ⟨rfl,hsz,fun _ _ => rfl,σ,γ,h,hr⟩
 | exit id => intro Q σ h fr tm w γ hsz hr;refine wp_exit ?_;exact ⟨rfl,hsz,fun _ _ => rfl,σ,γ,h,hr⟩
 | ret => intro Q σ h fr tm w γ hsz hr;refine wp_ret ?_;exact ⟨rfl,hsz,fun _ _ => rfl,σ,γ,h,hr⟩
 | region id ops draw =>
  intro Q σ h fr tm w γ hsz hr;refine h_8 (fr:=fr) (K:=Q .normal) hG hm ?_ hsz hr h;rintro a w' ⟨h1,h2,hp,σ',γ',h3,h4⟩;exact ⟨h1,h2,hp,σ',γ',h3,h4⟩
 | seq a b iha ihb =>
  intro Q σ h fr tm w γ hsz hr;refine wp_seq (wp_mono (iha _ σ h fr tm w γ hsz hr) ?_);rintro e a' w' ⟨h1,h2,hp,σ',γ',h3,h4⟩
  cases e with
  | normal =>
   rw [f_Z h1];refine wp_mono (ihb Q σ' h3 fr a'.tmps w' γ' h2 h4) ?_;rintro e a2 w2 ⟨k1,k2,kp,k⟩;exact ⟨k1,k2,Pinned.trans hp kp,k⟩
  | _ => exact ⟨h1,h2,hp,σ',γ',h3,h4⟩
 | cond c x y ihx ihy =>
  intro Q σ h fr tm w γ hsz hr;simp only [h_J] at h;split at h
  ·rename_i s
   split at h
   ·rename_i ty t hs
    split at h
    ·rename_i hk
     obtain ⟨v,hv,hV,-⟩:=hr.ent _ _ hs;rw [i_] at hv;have hV:=hV trivial;obtain ⟨c',ti,h1,h2⟩:=d_a hk (by simp);obtain ⟨t2,h3,-⟩:=id hV
     have:=e_ h1 h3
     simp only [Prod.mk.injEq] at this;obtain ⟨rfl,rfl⟩:=this;obtain ⟨q1,-⟩:=f_v h1 h2 hV;refine wp_cond_split (t:=t.bool) ?_ (fun e => ihx Q σ (h.1 e) fr tm w γ hsz hr) (fun e => ihy Q σ (h.2 e) fr tm w γ hsz hr);have : Act.eval ⟨tm,[]⟩ (.tmp s) = v:=by
      simp [Act.eval,hv]
     rw [this,q1]
    ·exact h.elim
   ·exact h.elim
  ·exact wp_cond_true rfl (ihx Q σ h fr tm w γ hsz hr)
  ·exact wp_cond_false rfl (ihy Q σ h fr tm w γ hsz hr)
  ·exact h.elim
 | block id body ih =>
  intro Q σ h fr tm w γ hsz hr;refine wp_block (wp_mono (ih _ σ h fr tm w γ hsz hr) ?_);rintro e a' w' ⟨h1,h2,hp,σ',γ',h3,h4⟩
  cases e with
  | exit i =>
   simp only [k_D] at h3;simp only [Exit.inBlock];split at h3
   ·rename_i hb
    rw [if_pos (Nat.eq_of_beq_eq_true hb)];exact ⟨h1,h2,hp,σ',γ',h3,h4⟩
   ·rename_i hb
    rw [if_neg (fun q => by subst q;simp at hb)];exact ⟨h1,h2,hp,σ',γ',h3,h4⟩
  | _ => exact ⟨h1,h2,hp,σ',γ',h3,h4⟩
 | loop body ih => intro Q σ h;exact h
 | rangeFunc => intro Q σ h;exact h.elim
 | scope => intro Q σ h;exact h.elim
 | label => intro Q σ h;exact h.elim
 | goto => intro Q σ h;exact h.elim
 | refuse => intro Q σ h;exact h.elim
end
abbrev Sk:=List (Key × AV)
def topS : Sk → St
 | [] => []
 | (k,a) :: r => (k,top a) :: topS r
def fitA : AV → Option Ent → Prop
 | .t c x,some ⟨[],.t c' x'⟩ => match Nat.beq c c' with
  | true => x' = x
  | false => False
 | .own c _ xs,some ⟨[],.own c' _ xs'⟩ => match Nat.beq c c' with
  | true => xs' = xs
  | false => False
 | .box c _ n,some ⟨[],.box c' _ n'⟩ => match Nat.beq c c',Nat.beq n n' with
  | true,true => True
  | _,_ => False
 | .pl c x off,some ⟨[],.pl c' x' off'⟩ => match Nat.beq c c',Nat.beq off off' with
  | true,true => x' = x
  | _,_ => False
 | .ptr s _ c,some ⟨[],.ptr s' _ c'⟩ => match Nat.beq s s',Nat.beq c c' with
  | true,true => True
  | _,_ => False
 | .alias h _ c off len,some ⟨[],.alias h' _ c' off' len'⟩ => match h.eq h',Nat.beq c c',Nat.beq off off' with
  | true,true,true => len' = len
  | _,_,_ => False
 | _,_ => False
def fitL : Sk → St → Prop
 | [],_ => True
 | (k,a) :: r,σ => fitA a (σ.get k) ∧ fitL r σ
def AV.tag0 : AV → Bool
 | .t .. => true
 | .own _ tag _ => Nat.beq tag 0
 | .box _ tag _ => Nat.beq tag 0
 | .pl .. => true
 | .ptr _ tag _ => Nat.beq tag 0
 | .alias _ tag _ _ _ => Nat.beq tag 0
 | _ => false
def AV.t_2 : AV → Bool
 | .box .. => true
 | _ => false
def i_s (s : Nat) : Sk → Bool
 | [] => false
 | (k,a) :: r => match k.eq (a_ s) with
  | true => a.t_2
  | false => i_s s r
def AV.u_g (S : Sk) : AV → Bool
 | .ptr s _ _ => i_s s S
 | _ => true
def okS1 (C : Ctx) (S : Sk) : Sk → Bool
 | [] => true
 | (k,a) :: r => match a_w C k.a,a.tag0,a.u_g S with
  | true,true,true => match k.tag with
   | 0 => okS1 C S r
   | 1 => match i_s k.a S with
    | true => okS1 C S r
    | false => false
   | _ => false
  | _,_,_ => false
def o_a : Sk → List Key
 | [] => []
 | (k,_) :: r => k :: o_a r
def okS (C : Ctx) (S : Sk) : Bool:=match d_l (o_a S) with
 | true => okS1 C S S
 | false => false
def l_N : Sk → List Key
 | [] => []
 | (k,.t _ _) :: r => k :: l_N r
 | _ :: r => l_N r
def fitS (C : Ctx) (S : Sk) (σ : St) : Prop:=fitL S (E_ C (l_N S) σ)
section
variable {P : Program} {C : Ctx} {fr : Fr} {tm : Array Value} {w : World} {σ : St} {γ : Key → Option Nat}
theorem Rel.sub {τ : St} (h : Rel C.tab fr tm w σ γ) (hs : ∀ k e,τ.get k = some e → σ.get k = some e ∧ e.path = [])
  (hcel : ∀ s n e,τ.get (cell s n) = some e → ∃ c tag m,τ.get (a_ s) = some ⟨[],.box c tag m⟩) (hcmp : ∀ s j,τ.get (comp s j) = none) : Rel C.tab fr tm w τ γ where
 os:=h.os
 tape:=h.tape
 output:=h.output
 size:=h.size
 old:=h.old
 low:=h.low
 inj:=h.inj
 blk:=h.blk
 cel:=hcel
 cmp s j e he:=by rw [hcmp] at he;cases he
 ent k e hk:=by
  obtain ⟨q1,q2⟩:=hs k e hk;obtain ⟨v,h1,h2,-⟩:=h.ent k e q1;refine ⟨v,h1,fun _ => ?_,fun q => absurd (by rw [q2];trivial) q⟩
  have:=h2 (by rw [q2];trivial)
  cases hav : e.av with
  | alias h0 tag c off len => rw [hav] at this;intro c' xs hx;exact this c' xs (hs _ _ hx).1
  | ptr s tag c => rw [hav] at this;intro cb n hx;exact this cb n (hs _ _ hx).1
  | tcp s tag => rw [hav] at this;intro p hx;exact this p (hs _ _ hx).1
  | eptr h0 tag j c => rw [hav] at this;intro c' xs hx;exact this c' xs (hs _ _ hx).1
  | _ => rw [hav] at this;exact this
theorem p_G {S : Sk} {k : Key} {e : Ent} (h : (topS S).get k = some e) : ∃ a,(k,a) ∈ S ∧ e = top a:=by
 induction S with
 | nil => simp [topS,St.get] at h
 | cons x r ih =>
  obtain ⟨k',a⟩:=x;simp only [topS,St.get] at h;split at h
  ·rename_i hk
   have:=Key.a_b.1 hk
   subst this;exact ⟨a,by simp,(Option.some.inj h).symm⟩
  ·obtain ⟨a',h1,h2⟩:=ih h
   exact ⟨a',by simp [h1],h2⟩
theorem o_U {S : Sk} (h : fitL S σ) {k : Key} {a : AV} (hm : (k,a) ∈ S) : fitA a (σ.get k):=by
 induction S with
 | nil => simp at hm
 | cons x r ih =>
  obtain ⟨k',a'⟩:=x
  rcases List.mem_cons.1 hm with q | q
  ·simp only [Prod.mk.injEq] at q
   rw [q.1,q.2];exact h.1
  ·exact ih h.2 q
theorem m_I {s : Nat} {S : Sk} (h : i_s s S = true) : ∃ c tag m,(topS S).get (a_ s) = some ⟨[],.box c tag m⟩:=by
 induction S with
 | nil => simp [i_s] at h
 | cons x r ih =>
  obtain ⟨k,a⟩:=x;simp only [i_s] at h;simp only [topS,St.get];split at h
  ·rename_i hk
   rw [hk];cases a <;> simp [AV.t_2] at h
   exact ⟨_,_,_,rfl⟩
  ·rename_i hk
   rw [hk];exact ih h
theorem h_2 {S : Sk} : ∀ {r : Sk},okS1 C S r = true → ∀ {k : Key} {a : AV},(k,a) ∈ r → a_w C k.a = true ∧ a.tag0 = true ∧ (k.tag = 0 ∨ (k.tag = 1 ∧ i_s k.a S = true)) ∧ a.u_g S = true:=by
 intro r
 induction r with
 | nil => intro _ k a h;simp at h
 | cons x r ih =>
  obtain ⟨k',a'⟩:=x;intro h k a hm;simp only [okS1] at h;split at h
  ·rename_i h1 h2 h2p
   have hr : okS1 C S r = true ∧ (k'.tag = 0 ∨ (k'.tag = 1 ∧ i_s k'.a S = true)):=by
    split at h
    ·rename_i ht;exact ⟨h,.inl ht⟩
    ·rename_i ht
     split at h
     ·rename_i hb;exact ⟨h,.inr ⟨ht,hb⟩⟩
     ·cases h
    ·cases h
   rcases List.mem_cons.1 hm with q | q
   ·simp only [Prod.mk.injEq] at q
    obtain ⟨rfl,rfl⟩:=q;exact ⟨h1,h2,hr.2,h2p⟩
   ·exact ih hr.1 q
  ·cases h
theorem r_6 {S : Sk} (h : okS C S = true) : d_l (o_a S) = true ∧ okS1 C S S = true:=by
 unfold okS at h;split at h
 ·rename_i h1;exact ⟨h1,h⟩
 ·cases h
theorem o_T {a : AV} {e : Ent} (h : fitA a (some e)) (ht : a.tag0 = true) (hz : ∀ tag,e.av.a_C = some tag → tag = 0) : e = top a:=by
 obtain ⟨p,av⟩:=e
 cases p with
 | cons => cases a <;> cases av <;> exact h.elim
 | nil =>
  cases a <;> cases av <;> first | exact h.elim | skip
  ·simp only [fitA] at h
   split at h
   ·rename_i hc;subst h;rw [Nat.eq_of_beq_eq_true hc];rfl
   ·exact h.elim
  ·rename_i c tag xs c' tag' xs'
   simp only [fitA] at h;split at h
   ·rename_i hc
    subst h;have h1:=Nat.eq_of_beq_eq_true ht;have h2:=hz tag' rfl;subst h1;subst h2;rw [Nat.eq_of_beq_eq_true hc];rfl
   ·exact h.elim
  ·rename_i c tag n c' tag' n'
   simp only [fitA] at h;split at h
   ·rename_i hc hn
    have h1:=Nat.eq_of_beq_eq_true ht;have h2:=hz tag' rfl;subst h1;subst h2;rw [Nat.eq_of_beq_eq_true hc,Nat.eq_of_beq_eq_true hn];rfl
   ·exact h.elim
  ·rename_i k tag c off len k' tag' c' off' len'
   simp only [fitA] at h;split at h
   ·rename_i hk hc hn
    subst h;have h1:=Nat.eq_of_beq_eq_true ht;have h2:=hz tag' rfl;subst h1;subst h2;rw [Key.a_b.1 hk,Nat.eq_of_beq_eq_true hc,Nat.eq_of_beq_eq_true hn];rfl
   ·exact h.elim
  ·rename_i s tag c s' tag' c'
   simp only [fitA] at h;split at h
   ·rename_i hc hn
    have h1:=Nat.eq_of_beq_eq_true ht;have h2:=hz tag' rfl;subst h1;subst h2;rw [Nat.eq_of_beq_eq_true hc,Nat.eq_of_beq_eq_true hn];rfl
   ·exact h.elim
  ·simp only [fitA] at h
   split at h
   ·rename_i hc hn;subst h;rw [Nat.eq_of_beq_eq_true hc,Nat.eq_of_beq_eq_true hn];rfl
   ·exact h.elim
theorem Rel.fit (hG : Good P C.tab) (h : Rel C.tab fr tm w σ γ) {S : Sk} (hok : okS C S = true) (hf : fitS C S σ) : ∃ γ',Rel C.tab fr tm w (topS S) γ' := by
 obtain ⟨hn,hok1⟩:=r_6 hok;obtain ⟨γ',h',hwf⟩:=h.start (C:=C) hG (l_N S);have hget : ∀ k e,(topS S).get k = some e → ∃ a,(k,a) ∈ S ∧ e = top a ∧ (E_ C (l_N S) σ).get k = some e:=by
  intro k e he;obtain ⟨a,hm,rfl⟩:=p_G he;obtain ⟨q1,q2,q3,q4⟩:=h_2 hok1 hm;refine ⟨a,hm,rfl,?_⟩;have hfa:=o_U hf hm
  cases hk : (E_ C (l_N S) σ).get k with
  | none => rw [hk] at hfa;cases a <;> exact hfa.elim
  | some e0 =>
   rw [hk] at hfa;rw [o_T hfa q2 fun tag ht => (hwf.tags k e0 tag hk ht).elim id fun ⟨_,q,_⟩ => q.elim]
 refine ⟨γ',h'.sub (fun k e he => ?_) (fun s n e he => ?_) (fun s j => ?_)⟩
 ·obtain ⟨a,hm,rfl,hh⟩:=hget k e he
  exact ⟨hh,rfl⟩
 ·obtain ⟨a,hm,rfl,-⟩:=hget _ e he
  obtain ⟨-,-,q3,-⟩:=h_2 hok1 hm
  rcases q3 with q | ⟨-,q⟩
  ·simp [cell] at q
  ·exact m_I q
 ·cases hx : (topS S).get (comp s j) with
  | none => rfl
  | some e =>
   obtain ⟨a,hm,-,-⟩:=hget _ e hx;obtain ⟨-,-,q3,-⟩:=h_2 hok1 hm
   rcases q3 with q | ⟨q,-⟩ <;> simp [comp] at q
theorem SW.fit (hG : Good P C.tab) {c : Code} {Q : Exit → St → Prop} {S : Sk} (hok : okS C S = true) (h : SW P C c Q (topS S)) (hf : fitS C S σ) : SW P C c Q σ:=by
 intro fr tm w γ hsz hr;obtain ⟨γ',h'⟩:=hr.fit hG hok hf;exact h fr tm w γ' hsz h'
theorem p_L {a b : Code} {Q : Exit → St → Prop} (h : SW P C a (m_m (SW P C b Q) Q) σ) : SW P C (.seq a b) Q σ:=by
 intro fr tm w γ hsz hr;refine wp_seq (wp_mono (h fr tm w γ hsz hr) ?_);rintro e a' w' ⟨h1,h2,hp,σ',γ',h3,h4⟩
 cases e with
 | normal =>
  rw [f_Z h1];refine wp_mono (h3 fr a'.tmps w' γ' h2 h4) ?_;rintro e a2 w2 ⟨k1,k2,kp,k⟩;exact ⟨k1,k2,Pinned.trans hp kp,k⟩
 | _ => exact ⟨h1,h2,hp,σ',γ',h3,h4⟩
theorem q_j (hG : Good P C.tab) {ι : Type} (S : ι → Sk) (μ : ι → Nat) {body : Code} {Q : Exit → St → Prop} (hok : ∀ i,okS C (S i) = true) (i0 : ι) (h0 : fitS C (S i0) σ)
  (round : ∀ i,SW P C body (m_m (fun σ' => ∃ j,μ j < μ i ∧ fitS C (S j) σ') Q) (topS (S i))) : SW P C (.loop body) Q σ:=by
 refine SW.fit hG (hok i0) ?_ h0;intro fr tm0 w γ hsz hr;have key : ∀ (n : Nat) (i : ι),μ i < n → ∀ (tm : Array Value) (w : World) (γ : Key → Option Nat),tm.size = C.nt → Pinned C tm0 tm → Rel C.tab fr tm w (topS (S i)) γ → Code.rounds P body (u_A C fr tm0 Q) n ⟨tm,[]⟩ w:=by
  intro n
  induction n with
  | zero => intro i hi;omega
  | succ n ih =>
   intro i hi tm w γ hsz hp0 hr;rw [rounds_succ];refine wp_mono (round i fr tm w γ hsz hr) ?_;rintro e a' w' ⟨h1,h2,hp,σ',γ',h3,h4⟩
   cases e with
   | normal =>
    obtain ⟨j,hj,hf⟩:=h3;obtain ⟨γ2,h5⟩:=h4.fit hG (hok j) hf;rw [f_Z h1];exact ih j (by omega) a'.tmps w' γ2 h2 (hp0.trans hp) h5
   | _ => exact ⟨h1,h2,hp0.trans hp,σ',γ',h3,h4⟩
 exact wp_loop_rounds _ (key (μ i0 + 1) i0 (by omega) tm0 w γ hsz (fun _ _ => rfl) hr)
end
def l_g (s : Nat) : Nat → Nat → List Key
 | _,0 => []
 | c,n + 1 => cell s c :: l_g s (c + 1) n
def b_c (tab : Tab) : List ResultVar → Shape → List Key
 | .tmp t :: rs,(_,_,false) :: sh => a_ t :: b_c tab rs sh
 | .tmp _ :: rs,(_,_,true) :: sh => b_c tab rs sh
 | .cell a ty :: rs,_ :: sh => match tab.at ty with
  | some (_,ti) => l_g a 0 ti.cells ++ b_c tab rs sh
  | none => b_c tab rs sh
 | [],(k,_,false) :: sh => k :: b_c tab [] sh
 | [],(_,_,true) :: sh => b_c tab [] sh
 | _,[] => []
def p_k (s : Nat) : (c : Nat) → List TypeId → St → (List T → Prop) → Prop
 | _,[],_,k => k []
 | c,ty :: tys,σ,k => match σ.get (cell s c) with
  | some ⟨[],.t c' x⟩ => match Nat.beq c' ty with
   | true => p_k s (c + 1) tys σ fun l => k (x :: l)
   | false => False
  | _ => False
def keyQ (σ : St) (k : Key) (ty : TypeId) (o : Bool) (y : T) : Prop:=match o with
 | false => fitA (.t ty y) (σ.get k)
 | true => match σ.get k with
  | some ⟨[],.own c _ xs⟩ => match Nat.beq c ty with
   | true => T.l xs = y
   | false => False
  | _ => False
def resQ (tab : Tab) (σ : St) (r : ResultVar) (ty : TypeId) (o : Bool) (y : T) : Prop :=
 match r with
 | .tmp t => keyQ σ (a_ t) ty o y
 | .cell a t => match o,tab.at t with
  | false,some (ct,ti) => match Nat.beq ct ty,ti.isS with
   | true,true => match σ.get (a_ a) with
    | some ⟨[],.box _ _ _⟩ => p_k a 0 ti.leaves σ fun l => T.g l = y
    | _ => False
   | _,_ => False
  | _,_ => False
def boxQ : Nat → List Arg → St → Prop
 | _,[],_ => True
 | j,.box c n _ :: r,σ => fitA (.box c 0 n) (σ.get (a_ j)) ∧ boxQ (j + 1) r σ
 | j,_ :: r,σ => boxQ (j + 1) r σ
def retQ (tab : Tab) : List ResultVar → Shape → List T → St → Prop
 | r :: rs,(_,ty,o) :: sh,y :: ys,σ => resQ tab σ r ty o y ∧ retQ tab rs sh ys σ
 | [],(k,ty,o) :: sh,y :: ys,σ => keyQ σ k ty o y ∧ retQ tab [] sh ys σ
 | [],[],[],_ => True
 | _,_,_,_ => False
def EndQ (C : Ctx) (args : List Arg) (res : List ResultVar) (sh : Shape) (ys : List T) : Exit → St → Prop
 | .normal,σ | .ret,σ => boxQ 0 args (E_ C (b_c C.tab res sh) σ) ∧ retQ C.tab res sh ys (E_ C (b_c C.tab res sh) σ)
 | _,_ => False
def a_s : List ResultVar → Shape → List (Key × Key)
 | .tmp t :: rs,(k,_,true) :: sh => (k,a_ t) :: a_s rs sh
 | _ :: rs,_ :: sh => a_s rs sh
 | [],(k,_,true) :: sh => (k,k) :: a_s [] sh
 | [],(_,_,false) :: sh => a_s [] sh
 | _,[] => []
def d_0 : Nat → List Arg → List (Key × Key)
 | _,[] => []
 | j,.box _ _ _ :: r => (a_ j,a_ j) :: d_0 (j + 1) r
 | j,_ :: r => d_0 (j + 1) r
def sndK : List (Key × Key) → List Key
 | [] => []
 | (_,k) :: r => k :: sndK r
def k_V : Option Arg → Nat → Bool
 | some (.box _ n _),c => Nat.blt c n
 | _,_ => false
def e_0 (args : List Arg) : Shape → Bool
 | [] => true
 | (k,_,_) :: sh => match k.eq (cell k.a k.b),k_V args[k.a]? k.b with
  | true,true => e_0 args sh
  | _,_ => false
def g_c (args : List Arg) (n : Nat) : Nat → List ResultVar → Shape → Bool
 | _,[],sh => e_0 args sh
 | j,_ :: rs,(k,_,_) :: sh => match k.eq (comp n j) with
  | true => g_c args n (j + 1) rs sh
  | false => false
 | _,_ :: _,[] => false
def f_D (args : List Arg) (res : List ResultVar) (sh : Shape) : Bool:=match res with
 | [] => e_0 args sh
 | [_] => match sh with
  | (k,_,_) :: sh => match k.eq (a_ args.length) with
   | true => e_0 args sh
   | false => false
  | [] => false
 | res => match Nat.ble res.length 1000 with
  | true => g_c args args.length 0 res sh
  | false => false
def tOwn : List AV → Bool
 | [] => true
 | .t _ _ :: r => tOwn r
 | .own _ _ _ :: r => tOwn r
 | _ => false
def f_2 : List Arg → Bool
 | [] => true
 | .box _ _ cs :: r => match tOwn cs with
  | true => f_2 r
  | false => false
 | _ :: r => f_2 r
def g_S (args : List Arg) (res : List ResultVar) (sh : Shape) : Bool :=
 match d_l (b_p sh),d_l (sndK (a_s res sh ++ d_0 0 args)),f_D args res sh,f_2 args with
 | true,true,true,true => true
 | _,_,_,_ => false
def g_G : Nat → List Arg → List Nat
 | _,[] => []
 | j,.box _ _ _ :: r => j :: g_G (j + 1) r
 | j,_ :: r => g_G (j + 1) r
def subN : List Nat → List Nat → Bool
 | [],_ => true
 | x :: r,l => match memN l x with
  | true => subN r l
  | false => false
section
variable {P : Program} {C : Ctx} {fr : Fr} {tm tm' : Array Value} {w : World} {σ τ : St} {γ : Key → Option Nat}
theorem Rel.tmps (h : Rel C.tab fr tm w σ γ) (hs : ∀ k e,σ.get k = some e → s_ tm' w γ k = s_ tm w γ k ∧ e.av.home = none) : Rel C.tab fr tm' w σ γ where
 os:=h.os
 tape:=h.tape
 output:=h.output
 size:=h.size
 old:=h.old
 low:=h.low
 inj:=h.inj
 blk:=h.blk
 cel:=h.cel
 cmp:=h.cmp
 ent k e hk:=by
  obtain ⟨q1,q3⟩:=hs k e hk;obtain ⟨v,h1,h2,h4⟩:=h.ent k e hk;refine ⟨v,by rw [q1];exact h1,fun hh => ?_,h4⟩
  have:=h2 hh
  cases hav : e.av <;> rw [hav] at this q3 <;> first | exact this | simp [AV.home] at q3
theorem p_C {cs : List AV} (h : tOwn cs = true) {m : Nat} {a : AV} (hm : cs[m]? = some a) : a.home = none:=by
 induction cs generalizing m with
 | nil => simp at hm
 | cons x r ih =>
  cases m with
  | zero =>
   simp only [List.getElem?_cons_zero,Option.some.injEq] at hm;subst hm;cases x <;> simp [tOwn] at h <;> rfl
  | succ m =>
   simp only [List.getElem?_cons_succ] at hm;cases x <;> simp only [tOwn] at h <;> first | exact ih h hm | cases h
theorem m_C : ∀ (l : List Arg) (j : Nat) (k : Key) (e : Ent),f_2 l = true → (a_T j l).get k = some e → (∃ t c,(k = a_ t ∨ k = cell t c) ∧ j ≤ t ∧ t < j + l.length) ∧ e.av.home = none:=by
 intro l
 induction l with
 | nil => intro j k e _ he;simp [a_T,St.get] at he
 | cons a r ih =>
  intro j k e hok he;have rest : ∀ {r'},f_2 r' = true → r' = r → (a_T (j + 1) r).get k = some e → (∃ t c,(k = a_ t ∨ k = cell t c) ∧ j ≤ t ∧ t < j + (a :: r).length) ∧ e.av.home = none:=by
   intro r' h1 h2 h3;subst h2;obtain ⟨⟨t,c,q1,q2,q3⟩,q4⟩:=ih (j + 1) k e h1 h3;exact ⟨⟨t,c,q1,by omega,by simp only [List.length_cons];omega⟩,q4⟩
  cases a with
  | t c x =>
   simp only [a_T,St.get] at he;split at he
   ·rename_i hk
    have:=Key.a_b.1 hk
    simp only [Option.some.injEq] at he;subst he;exact ⟨⟨j,0,.inl this.symm,Nat.le_refl _,by simp⟩,rfl⟩
   ·exact rest (r' := r) hok rfl he
  | own c xs =>
   simp only [a_T,St.get] at he;split at he
   ·rename_i hk
    have:=Key.a_b.1 hk
    simp only [Option.some.injEq] at he;subst he;exact ⟨⟨j,0,.inl this.symm,Nat.le_refl _,by simp⟩,rfl⟩
   ·exact rest (r' := r) hok rfl he
  | pl c x =>
   simp only [a_T,St.get] at he;split at he
   ·rename_i hk
    have:=Key.a_b.1 hk
    simp only [Option.some.injEq] at he;subst he;exact ⟨⟨j,0,.inl this.symm,Nat.le_refl _,by simp⟩,rfl⟩
   ·exact rest (r' := r) hok rfl he
  | box c n cs =>
   simp only [f_2] at hok;split at hok
   ·rename_i hto
    simp only [a_T,St.get] at he;split at he
    ·rename_i hk
     have:=Key.a_b.1 hk
     simp only [Option.some.injEq] at he;subst he;exact ⟨⟨j,0,.inl this.symm,Nat.le_refl _,by simp⟩,rfl⟩
    ·rw [a_n] at he
     split at he
     ·rename_i e' hc
      simp only [Option.some.injEq] at he;subst he;obtain ⟨m,a,h1,h2,h3⟩:=d_2 j cs 0 k _ hc;refine ⟨⟨j,0 + m,.inr h2,Nat.le_refl _,by simp⟩,?_⟩;rw [h3];exact p_C hto h1
     ·exact rest (r' := r) hok rfl he
   ·cases hok
theorem m_L : ∀ (l : List Arg) (j : Nat) (k : Key) (e : Ent),(b_s j l).get k = some e → ∃ t c n cs,k = a_ (j + t) ∧ l[t]? = some (.box c n cs) ∧ e = top (.box c 0 n):=by
 intro l
 induction l with
 | nil => intro j k e he;simp [b_s,St.get] at he
 | cons a r ih =>
  intro j k e he;have rest : (b_s (j + 1) r).get k = some e → ∃ t c n cs,k = a_ (j + t) ∧ (a :: r)[t]? = some (.box c n cs) ∧ e = top (.box c 0 n):=by
   intro h;obtain ⟨t,c,n,cs,h1,h2,h3⟩:=ih (j + 1) k e h;exact ⟨t + 1,c,n,cs,by rw [h1];congr 1;omega,by simpa using h2,h3⟩
  cases a with
  | box c n cs =>
   simp only [b_s,St.get] at he;split at he
   ·rename_i hk
    have:=Key.a_b.1 hk
    simp only [Option.some.injEq] at he;subst he;exact ⟨0,c,n,cs,this.symm,rfl,rfl⟩
   ·exact rest he
  | _ => exact rest he
theorem m_M : ∀ (l : List Arg) (j t : Nat) {c n : Nat} {cs : List AV},l[t]? = some (.box c n cs) → (b_s j l).get (a_ (j + t)) = some (top (.box c 0 n)):=by
 intro l
 induction l with
 | nil => intro j t c n cs h;simp at h
 | cons a r ih =>
  intro j t c n cs h
  cases t with
  | zero =>
   simp only [List.getElem?_cons_zero,Option.some.injEq] at h;subst h;simp [b_s,St.get,Key.a_u]
  | succ t =>
   simp only [List.getElem?_cons_succ] at h
   have:=ih (j + 1) t h
   rw [show j + 1 + t = j + (t + 1) by omega] at this
   cases a with
   | box c' n' cs' =>
    simp only [b_s,St.get];rw [Key.a_N (by simp [a_])];exact this
   | _ => exact this
theorem o_C : ∀ (l : List Arg) (j t : Nat) {c n : Nat} {cs : List AV},boxQ j l τ → l[t]? = some (.box c n cs) → fitA (.box c 0 n) (τ.get (a_ (j + t))):=by
 intro l
 induction l with
 | nil => intro j t c n cs _ h;simp at h
 | cons a r ih =>
  intro j t c n cs hq h
  cases t with
  | zero =>
   simp only [List.getElem?_cons_zero,Option.some.injEq] at h;subst h;exact hq.1
  | succ t =>
   simp only [List.getElem?_cons_succ] at h;have hq' : boxQ (j + 1) r τ:=by
    cases a <;> first | exact hq.2 | exact hq
   have:=ih (j + 1) t hq' h
   rw [show j + 1 + t = j + (t + 1) by omega] at this;exact this
theorem f_7 : ∀ (l : List Arg) (j : Nat) {k x : Key},(k,x) ∈ d_0 j l → k = x ∧ ∃ t,k = a_ (j + t) ∧ t < l.length:=by
 intro l
 induction l with
 | nil => intro j k x h;simp [d_0] at h
 | cons a r ih =>
  intro j k x h;have rest : (k,x) ∈ d_0 (j + 1) r → k = x ∧ ∃ t,k = a_ (j + t) ∧ t < (a :: r).length:=by
   intro h;obtain ⟨h1,t,h2,h3⟩:=ih (j + 1) h;exact ⟨h1,t + 1,by rw [h2];congr 1;omega,by simp only [List.length_cons];omega⟩
  cases a with
  | box c n cs =>
   simp only [d_0,List.mem_cons,Prod.mk.injEq] at h
   rcases h with ⟨rfl,rfl⟩ | h
   ·exact ⟨rfl,0,rfl,by simp⟩
   ·exact rest h
  | _ => exact rest h
theorem l_B : ∀ (l : List Arg) (j t : Nat) {c n : Nat} {cs : List AV},l[t]? = some (.box c n cs) → KMap.find (d_0 j l) (a_ (j + t)) = some (a_ (j + t)):=by
 intro l
 induction l with
 | nil => intro j t c n cs h;simp at h
 | cons a r ih =>
  intro j t c n cs h
  cases t with
  | zero =>
   simp only [List.getElem?_cons_zero,Option.some.injEq] at h;subst h;simp [d_0,KMap.find,Key.a_u]
  | succ t =>
   simp only [List.getElem?_cons_succ] at h
   have:=ih (j + 1) t h
   rw [show j + 1 + t = j + (t + 1) by omega] at this
   cases a with
   | box c' n' cs' =>
    simp only [d_0,KMap.find];rw [Key.a_N (by simp [a_])];exact this
   | _ => exact this
theorem o_f {fz : List Key} {k : Key} {e : Ent} (_ : (E_ C fz σ).get k = some e) (_ : memK fz k = true) {c : TypeId} {x : T} (hf : fitA (.t c x) (some e)) : e = top (.t c x):=by
 obtain ⟨p,av⟩:=e
 cases p with
 | cons => cases av <;> exact hf.elim
 | nil =>
  cases av with
  | t c' x' =>
   simp only [fitA] at hf;split at hf
   ·rename_i hc;subst hf;rw [Nat.eq_of_beq_eq_true hc];rfl
   ·exact hf.elim
  | _ => exact hf.elim
theorem o_S {c n : Nat} {e : Option Ent} (h : fitA (.box c 0 n) e) : ∃ tag,e = some ⟨[],.box c tag n⟩:=by
 cases e with
 | none => exact h.elim
 | some e =>
  obtain ⟨p,av⟩:=e
  cases p with
  | cons => cases av <;> exact h.elim
  | nil =>
   cases av with
   | box c' tag n' =>
    simp only [fitA] at h;split at h
    ·rename_i hc hn;exact ⟨tag,by rw [Nat.eq_of_beq_eq_true hc,Nat.eq_of_beq_eq_true hn]⟩
    ·exact h.elim
   | _ => exact h.elim
theorem n_n {c : TypeId} {x : T} {e : Option Ent} (h : fitA (.t c x) e) : ∃ e',e = some e' ∧ fitA (.t c x) (some e'):=by
 cases e with
 | none => exact h.elim
 | some e => exact ⟨e,rfl,h⟩
end
section
variable {P : Program} {C : Ctx} {fr : Fr} {tm : Array Value} {w : World} {σ : St} {γ : Key → Option Nat} {fz : List Key}
def c_X (tm : Array Value) : ResultVar → Sem Value
 | .tmp t => pure (tm.getD t undef)
 | .cell a t => do loadVar t (← asAddr (tm.getD a undef))
def ResV (C : Ctx) (fr : Fr) (tm : Array Value) (w : World) (τ : St) (γ : Key → Option Nat) (r : ResultVar) (ty : TypeId) (o : Bool) (y : T) (v : Value) : Prop :=
 (o = false ∧ V C.tab w (Ob fr γ) ty v y) ∨ (o = true ∧ ∃ t tag xs,r = .tmp t ∧ y = .l xs ∧ τ.get (a_ t) = some ⟨[],.own ty tag xs⟩ ∧ tm[t]? = some v)
theorem n_X {s : Nat} {τ : St} : ∀ (tys : List TypeId) (c : Nat) {k : List T → Prop},p_k s c tys τ k → ∃ l,k l ∧ l.length = tys.length ∧ ∀ (j : Nat) y ty,l[j]? = some y → tys[j]? = some ty → fitA (.t ty y) (τ.get (cell s (c + j))):=by
 intro tys
 induction tys with
 | nil => intro c k h;exact ⟨[],h,rfl,fun j y ty hy => by simp at hy⟩
 | cons t tys ih =>
  intro c k h;simp only [p_k] at h;split at h
  ·rename_i c' x he
   split at h
   ·rename_i hc
    obtain ⟨l,h1,h2,h3⟩:=ih (c + 1) h;refine ⟨x :: l,h1,by simp [h2],fun j y' ty hy ht => ?_⟩
    cases j with
    | zero =>
     simp only [List.getElem?_cons_zero,Option.some.injEq] at hy ht;subst hy;subst ht;rw [Nat.add_zero,he,Nat.eq_of_beq_eq_true hc];simp [fitA]
    | succ j =>
     simp only [List.getElem?_cons_succ] at hy ht;rw [show c + (j + 1) = c + 1 + j by omega];exact h3 j y' ty hy ht
   ·exact h.elim
  ·exact h.elim
theorem k_W {τ : St} {k : Key} {ty : TypeId} {y : T} (h : keyQ τ k ty true y) : ∃ tag xs,y = .l xs ∧ τ.get k = some ⟨[],.own ty tag xs⟩:=by
 simp only [keyQ] at h;split at h
 ·rename_i c tag xs he
  split at h
  ·rename_i hc
   exact ⟨tag,xs,h.symm,by rw [he,Nat.eq_of_beq_eq_true hc]⟩
  ·exact h.elim
 ·exact h.elim
theorem l_7 {s : Nat} : ∀ (n c j : Nat),c ≤ j → j < c + n → cell s j ∈ l_g s c n:=by
 intro n
 induction n with
 | zero => intro c j h1 h2;omega
 | succ n ih =>
  intro c j h1 h2;simp only [l_g,List.mem_cons]
  by_cases h : j = c
  ·exact .inl (by rw [h])
  ·exact .inr (ih (c + 1) j (by omega) (by omega))
theorem k_w (hτ : Rel C.tab fr tm w (E_ C fz σ) γ) {k : Key} (hm : memK fz k = true) {ty : TypeId} {y : T} (hf : fitA (.t ty y) ((E_ C fz σ).get k)) :
  (E_ C fz σ).get k = some (top (.t ty y)) ∧ ∃ v,s_ tm w γ k = some v ∧ V C.tab w (Ob fr γ) ty v y:=by
 obtain ⟨e,he,hf'⟩:=n_n hf
 have:=o_f he hm hf'
 subst this;obtain ⟨v,h1,h2,-⟩:=hτ.ent _ _ he;exact ⟨he,v,h1,h2 trivial⟩
theorem p_p (hG : Good P C.tab) (hτ : Rel C.tab fr tm w (E_ C fz σ) γ) {r : ResultVar} {k : Key} {ty : TypeId} {o : Bool} {y : T} (hfz : ∀ k',k' ∈ b_c C.tab [r] [(k,ty,o)] → memK fz k' = true)
  (h : resQ C.tab (E_ C fz σ) r ty o y) : ∃ v,(c_X tm r).run P w = .ok v w ∧ ResV C fr tm w (E_ C fz σ) γ r ty o y v:=by
 cases r with
 | tmp t =>
  simp only [resQ] at h
  cases o with
  | false =>
   simp only [keyQ] at h;obtain ⟨he,v,h1,h2⟩:=k_w hτ (hfz (a_ t) (by simp [b_c])) h;rw [i_] at h1;exact ⟨v,by simp [c_X,h1],.inl ⟨rfl,h2⟩⟩
  | true =>
   obtain ⟨tag,xs,rfl,he⟩:=k_W h;obtain ⟨v,h1,-,-⟩:=hτ.ent _ _ he;rw [i_] at h1;exact ⟨v,by simp [c_X,h1],.inr ⟨rfl,t,tag,xs,rfl,rfl,he,h1⟩⟩
 | cell a t =>
  simp only [resQ] at h;split at h
  ·rename_i ct ti ht
   split at h
   ·rename_i hc hS
    have hc:=Nat.eq_of_beq_eq_true hc;subst hc;split at h
    ·rename_i cb tag n hbox
     have hself:=(hG _ _ _ ht).self;have hlen:=(hG _ _ _ hself).len;have hlv : ti.lv ct = ti.leaves:=by
      unfold TI.lv;unfold TI.isS at hS;split
      ·rfl
      ·rename_i hno
       split at hS
       ·rename_i hk;exact absurd hk (hno _)
       ·cases hS
     obtain ⟨l,rfl,hl,hcells⟩:=n_X _ _ h;obtain ⟨v0,hv0,hr0,-⟩:=hτ.ent _ _ hbox;obtain ⟨b,cs,ety,hb,rfl,-⟩:=hr0 trivial;rw [i_] at hv0;have hcell : ∀ (j : Nat) y t,l[j]? = some y → ti.leaves[j]? = some t → ∃ u,w.cell? ((⟨b,0,none⟩ : Go.Addr).add j) = some u ∧ L C.tab w (Ob fr γ) t u y:=by
      intro j y t hy ht';have hj : j < ti.cells:=by
       rw [← hlen,hlv];exact (List.getElem?_eq_some_iff.1 ht').1
      obtain ⟨he,v,h1,h2⟩:=k_w hτ (hfz (cell a (0 + j)) (by
       simp only [b_c,ht,List.append_nil];exact l_7 _ _ _ (by omega) (by omega))) (hcells j y t hy ht')
      obtain ⟨t1,ht1,hs1⟩:=(hG _ _ _ hself).leaf t (by rw [hlv];exact List.mem_of_getElem? ht');refine ⟨v,?_,(b_Q ht1 hs1 h2).1⟩;simp only [s_,cell,hb,Option.bind_some] at h1;rw [a_I];exact h1
     have hl2 : l.length = ti.cells:=by rw [hl,← hlv,hlen]
     have hld:=c_d (w:=w) hG ht ⟨b,0,none⟩ (fun j => (w.cell? ((⟨b,0,none⟩ : Go.Addr).add j)).getD undef) (fun j hj => by
      obtain ⟨u,hu,-⟩:=hcell j (l[j]'(by omega)) (ti.leaves[j]'(by omega)) (by simp) (by simp);rw [hu];rfl)
     rw [hS] at hld;refine ⟨.agg ((List.range ti.cells).map fun j => (w.cell? ((⟨b,0,none⟩ : Go.Addr).add j)).getD undef).toArray,?_,.inl ⟨rfl,?_⟩⟩
     ·simp only [Instr.loadAt,Instr.sureAddr,Sem.run_bind,Sem.run_pure,Result.andThen_ok] at hld
      simp only [c_X,Array.getD_eq_getD_getElem?,hv0,Option.getD_some,asAddr,Sem.run_bind,Sem.run_pure,Result.andThen_ok];exact hld
     ·refine ⟨ti,hself,by rw [hS];rfl,by rw [hS];rfl,by simp [Value.cells],by simp [T.leaves,hl2],fun j y t hy ht' => ?_⟩
      rw [hlv] at ht';obtain ⟨u,hu,hL⟩:=hcell j y t hy ht';have hj : j < ti.cells:=by rw [← hl2];exact (List.getElem?_eq_some_iff.1 hy).1
      exact ⟨u,by simp [Value.cells,hj,hu],hL⟩
    ·exact h.elim
   ·exact h.elim
  ·exact h.elim
theorem h_a {tab : Tab} {r : ResultVar} {rs : List ResultVar} {a : Key × TypeId × Bool} {sh : Shape} (k : Key) : k ∈ b_c tab (r :: rs) (a :: sh) ↔ k ∈ b_c tab [r] [a] ∨ k ∈ b_c tab rs sh:=by
 obtain ⟨k0,ty,o⟩:=a
 cases r with
 | tmp t => cases o <;> simp [b_c]
 | cell b t =>
  simp only [b_c];split <;> simp [b_c]
theorem n_d {tab : Tab} : ∀ {sh : Shape} {i : Nat} {k : Key} {ty : TypeId},sh[i]? = some (k,ty,false) → k ∈ b_c tab [] sh:=by
 intro sh
 induction sh with
 | nil => intro i k ty h;simp at h
 | cons a sh ih =>
  intro i k ty h;obtain ⟨k0,t0,o0⟩:=a
  cases i with
  | zero =>
   simp only [List.getElem?_cons_zero,Option.some.injEq,Prod.mk.injEq] at h;rw [h.1,h.2.2];simp [b_c]
  | succ i =>
   simp only [List.getElem?_cons_succ] at h
   have:=ih h
   cases o0 <;> simp [b_c,this]
theorem p_q {tab : Tab} {τ : St} : ∀ {sh : Shape} {ys : List T},retQ tab [] sh ys τ → ys.length = sh.length ∧ ∀ (i : Nat) k ty o y,sh[i]? = some (k,ty,o) → ys[i]? = some y → keyQ τ k ty o y:=by
 intro sh
 induction sh with
 | nil =>
  intro ys h
  cases ys with
  | nil => exact ⟨rfl,fun i k ty o y hs => by simp at hs⟩
  | cons => exact h.elim
 | cons a sh ih =>
  intro ys h;obtain ⟨k0,t0,o0⟩:=a
  cases ys with
  | nil => exact h.elim
  | cons y ys =>
   obtain ⟨h1,h2⟩:=ih h.2;refine ⟨by simp [h1],fun i k ty o y' hs hy => ?_⟩
   cases i with
   | zero =>
    simp only [List.getElem?_cons_zero,Option.some.injEq,Prod.mk.injEq] at hs hy;rw [← hs.1,← hs.2.1,← hs.2.2,← hy];exact h.1
   | succ i =>
    simp only [List.getElem?_cons_succ] at hs hy;exact h2 i k ty o y' hs hy
theorem p_r (hG : Good P C.tab) (hτ : Rel C.tab fr tm w (E_ C fz σ) γ) : ∀ (res : List ResultVar) (sh : Shape) (ys : List T),(∀ k,k ∈ b_c C.tab res sh → memK fz k = true) → retQ C.tab res sh ys (E_ C fz σ) →
  ∃ vs : List Value,(res.mapM (c_X tm)).run P w = .ok vs w ∧ vs.length = res.length ∧ ys.length = sh.length ∧ res.length ≤ sh.length ∧
   (∀ (i : Nat) r k ty o y,res[i]? = some r → sh[i]? = some (k,ty,o) → ys[i]? = some y → ∃ v,vs[i]? = some v ∧ ResV C fr tm w (E_ C fz σ) γ r ty o y v) ∧
   ∀ (i : Nat) k ty o y,res.length ≤ i → sh[i]? = some (k,ty,o) → ys[i]? = some y → keyQ (E_ C fz σ) k ty o y ∧ (o = false → memK fz k = true):=by
 intro res
 induction res with
 | nil =>
  intro sh ys hfz h;obtain ⟨h1,h2⟩:=p_q h;refine ⟨[],rfl,rfl,h1,Nat.zero_le _,fun i r k ty o y hr => by simp at hr,fun i k ty o y _ hs hy => ⟨h2 i k ty o y hs hy,fun ho => ?_⟩⟩;subst ho;exact hfz k (n_d hs)
 | cons r rs ih =>
  intro sh ys hfz h
  cases sh with
  | nil => cases ys <;> exact h.elim
  | cons a sh =>
   obtain ⟨k0,t0,o0⟩:=a
   cases ys with
   | nil => exact h.elim
   | cons y ys =>
    obtain ⟨v,hv,hR⟩:=p_p (k:=k0) hG hτ (fun k' hk => hfz k' ((h_a k').2 (.inl hk))) h.1;obtain ⟨vs,h1,h2,h3,h4,h5,h6⟩:=ih sh ys (fun k hk => hfz k ((h_a k).2 (.inr hk))) h.2;refine ⟨v :: vs,?_,by simp [h2],by simp [h3],by simp [h4],fun i r' k ty o y' hr hs hy => ?_,fun i k ty o y' hi hs hy => ?_⟩
    ·rw [List.mapM_cons]
     simp only [Sem.run_bind,hv,h1,Result.andThen_ok,Sem.run_pure]
    ·cases i with
     | zero =>
      simp only [List.getElem?_cons_zero,Option.some.injEq,Prod.mk.injEq] at hr hs hy;subst hr;obtain ⟨-,rfl,rfl⟩:=hs;subst hy;exact ⟨v,rfl,hR⟩
     | succ i =>
      simp only [List.getElem?_cons_succ] at hr hs hy ⊢;exact h5 i r' k ty o y' hr hs hy
    ·cases i with
     | zero => simp at hi
     | succ i =>
      simp only [List.getElem?_cons_succ,List.length_cons] at hs hy hi;exact h6 i k ty o y' (by omega) hs hy
end
end Go.Pl
