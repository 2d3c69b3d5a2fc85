/- Part 6 of 11. What a session has committed at any time is the beginning of what it commits later, and of the path at its end (SessionsCommit), for every input; no condition. Names are shortened and spaces left out by program, for the size. -/
import Derived.Test.YtjhgombngbgjbaaGreatDoorQ5
import Derived.Test.YtjhgombngbgjbaaGreatDoorProg
set_option linter.unusedVariables false
set_option linter.unusedSimpArgs false
set_option linter.unusedSectionVars false
set_option linter.constructorNameAsVariable false
set_option maxRecDepth 100000
namespace Go.Pl
section
variable {P : Program} {C : Ctx}
def f_f : List Value → Value
 | [v] => v
 | vs => .tuple vs.toArray
theorem k_q {fn : Func} {tm : Array Value} {w : World} {res : List ResultVar} (hres : fn.results = res.toArray) {vs : List Value} (h : (res.mapM (c_X tm)).run P w = .ok vs w) :
  (results fn tm).run P w = .ok (f_f vs) w:=by
 have e : results fn tm = ((List.toArray res).mapM (c_X tm) >>= fun vs => pure (if h : vs.size = 1 then vs[0] else .tuple vs)):=by
  unfold results;rw [hres]
  congr 1
 have hm : (List.toArray res).mapM (c_X tm) = List.toArray <$> res.mapM (c_X tm):=by
  exact List.mapM_toArray
 rw [e,hm];rw [map_eq_pure_bind];simp only [Sem.run_bind,h,Result.andThen_ok,Sem.run_pure]
 match vs with
 | [] => simp [f_f]
 | [v] => simp [f_f]
 | v :: u :: r => simp [f_f]
theorem g_T {args : List Arg} {res : List ResultVar} {sh : Shape} (h : g_S args res sh = true) :
  (b_p sh).Nodup ∧ (sndK (a_s res sh ++ d_0 0 args)).Nodup ∧ f_D args res sh = true ∧ f_2 args = true:=by
 unfold g_S at h;split at h
 ·rename_i h1 h2 h3 h4
  exact ⟨c_F.1 h1,c_F.1 h2,h3,h4⟩
 ·cases h
theorem p_y (m : KMap) : sndK m = m.map (·.2):=by
 induction m with
 | nil => rfl
 | cons a r ih => obtain ⟨k,x⟩:=a;simp only [sndK,List.map_cons,ih]
theorem d_1 {args : List Arg} : ∀ {sh : Shape},e_0 args sh = true → ∀ {i : Nat} {k : Key} {ty : TypeId} {o : Bool},sh[i]? = some (k,ty,o) → ∃ j m c n cs,k = cell j m ∧ args[j]? = some (.box c n cs) ∧ m < n:=by
 intro sh
 induction sh with
 | nil => intro _ i k ty o h;simp at h
 | cons a sh ih =>
  intro hc i k ty o h;obtain ⟨k0,t0,o0⟩:=a;simp only [e_0] at hc;split at hc
  ·rename_i h1 h2
   cases i with
   | zero =>
    simp only [List.getElem?_cons_zero,Option.some.injEq,Prod.mk.injEq] at h;obtain ⟨rfl,-,-⟩:=h;have h1:=Key.a_b.1 h1;unfold k_V at h2;split at h2
    ·rename_i c n cs hb
     exact ⟨k0.a,k0.b,c,n,cs,h1,by assumption,by simpa [Nat.blt_eq] using h2⟩
    ·cases h2
   | succ i =>
    simp only [List.getElem?_cons_succ] at h;exact ih hc h
  ·cases hc
theorem j_H {args : List Arg} {n : Nat} : ∀ {res : List ResultVar} {sh : Shape} {j : Nat},g_c args n j res sh = true → ∀ {i : Nat} {k : Key} {ty : TypeId} {o : Bool},sh[i]? = some (k,ty,o) →
  (i < res.length ∧ k = comp n (j + i)) ∨ (res.length ≤ i ∧ ∃ j m c n cs,k = cell j m ∧ args[j]? = some (.box c n cs) ∧ m < n):=by
 intro res
 induction res with
 | nil =>
  intro sh j hc i k ty o h;exact .inr ⟨Nat.zero_le _,d_1 hc h⟩
 | cons r rs ih =>
  intro sh j hc i k ty o h
  cases sh with
  | nil => simp at h
  | cons a sh =>
   obtain ⟨k0,t0,o0⟩:=a;simp only [g_c] at hc;split at hc
   ·rename_i h1
    cases i with
    | zero =>
     simp only [List.getElem?_cons_zero,Option.some.injEq,Prod.mk.injEq] at h;obtain ⟨rfl,-,-⟩:=h;exact .inl ⟨by simp,Key.a_b.1 h1⟩
    | succ i =>
     simp only [List.getElem?_cons_succ] at h
     rcases ih hc h with ⟨q1,q2⟩ | ⟨q1,q2⟩
     ·exact .inl ⟨by simp;omega,by rw [q2];congr 1;omega⟩
     ·exact .inr ⟨by simp;omega,q2⟩
   ·cases hc
theorem c_G {args : List Arg} {res : List ResultVar} {sh : Shape} (h : f_D args res sh = true) {i : Nat} {k : Key} {ty : TypeId} {o : Bool} (hs : sh[i]? = some (k,ty,o)) :
  (i < res.length ∧ ((res.length = 1 ∧ k = a_ args.length) ∨ (res.length ≠ 1 ∧ k = comp args.length i))) ∨ (res.length ≤ i ∧ ∃ j m c n cs,k = cell j m ∧ args[j]? = some (.box c n cs) ∧ m < n):=by
 unfold f_D at h;split at h
 ·exact .inr ⟨Nat.zero_le _,d_1 h hs⟩
 ·split at h
  ·split at h
   ·rename_i h1
    cases i with
    | zero =>
     simp only [List.getElem?_cons_zero,Option.some.injEq,Prod.mk.injEq] at hs;obtain ⟨rfl,-,-⟩:=hs;exact .inl ⟨by simp,.inl ⟨rfl,Key.a_b.1 h1⟩⟩
    | succ i =>
     simp only [List.getElem?_cons_succ] at hs;exact .inr ⟨by simp,d_1 h hs⟩
   ·cases h
  ·cases h
 ·rename_i hne1 hne2
  have hlen : res.length ≠ 1:=by
   intro q
   match res,q with
   | [r],_ => exact hne2 r rfl
  split at h
  ·rcases j_H h hs with ⟨q1,q2⟩ | ⟨q1,q2⟩
   ·exact .inl ⟨q1,.inr ⟨hlen,by rw [q2,Nat.zero_add]⟩⟩
   ·exact .inr ⟨q1,q2⟩
  ·cases h
theorem m_e {args : List Arg} {res : List ResultVar} {sh : Shape} (h : f_D args res sh = true) : res.length ≤ 1000:=by
 unfold f_D at h;split at h
 ·simp
 ·simp
 ·split at h
  ·rename_i hb;exact Nat.le_of_ble_eq_true hb
  ·cases h
theorem g_R {args : List Arg} {res : List ResultVar} {sh : Shape} (h : f_D args res sh = true) (n : Nat) :
  (2 ≤ res.length ∧ m_p n sh = [(a_ n,top (.tup 0))]) ∨ (res.length ≤ 1 ∧ m_p n sh = []):=by
 cases sh with
 | nil =>
  match res,h with
  | [],_ => exact .inr ⟨by simp,rfl⟩
  | _ :: _ :: _,h =>
   simp only [f_D,g_c] at h;split at h <;> cases h
 | cons a sh =>
  obtain ⟨k,ty,o⟩:=a
  rcases c_G h (i:=0) rfl with ⟨q1,⟨q2,rfl⟩ | ⟨q2,rfl⟩⟩ | ⟨q1,j,m,c,n',cs,rfl,-⟩
  ·exact .inr ⟨by omega,rfl⟩
  ·exact .inl ⟨by omega,rfl⟩
  ·exact .inr ⟨by omega,rfl⟩
theorem f_o : ∀ {res : List ResultVar} {sh : Shape} {k x : Key},(k,x) ∈ a_s res sh → ∃ (i : Nat) (ty : TypeId),sh[i]? = some (k,ty,true) ∧ ((res.length ≤ i ∧ x = k) ∨ ∃ t,res[i]? = some (.tmp t) ∧ x = a_ t):=by
 have hnil : ∀ {sh : Shape} {k x : Key},(k,x) ∈ a_s [] sh → x = k ∧ ∃ (i : Nat) (ty : TypeId),sh[i]? = some (k,ty,true):=by
  intro sh
  induction sh with
  | nil => intro k x h;simp [a_s] at h
  | cons a sh ih =>
   obtain ⟨k0,t0,o0⟩:=a;intro k x h
   cases o0 with
   | true =>
    simp only [a_s,List.mem_cons,Prod.mk.injEq] at h
    rcases h with ⟨rfl,rfl⟩ | h
    ·exact ⟨rfl,0,t0,rfl⟩
    ·obtain ⟨q1,i,ty,q2⟩:=ih h
     exact ⟨q1,i + 1,ty,by simpa using q2⟩
   | false =>
    simp only [a_s] at h;obtain ⟨q1,i,ty,q2⟩:=ih h;exact ⟨q1,i + 1,ty,by simpa using q2⟩
 intro res
 induction res with
 | nil =>
  intro sh k x h;obtain ⟨q1,i,ty,q2⟩:=hnil h;exact ⟨i,ty,q2,.inl ⟨Nat.zero_le _,q1⟩⟩
 | cons r rs ih =>
  intro sh k x h
  cases sh with
  | nil => cases r <;> simp [a_s] at h
  | cons a sh =>
   obtain ⟨k0,t0,o0⟩:=a;have rest : (k,x) ∈ a_s rs sh → ∃ (i : Nat) (ty : TypeId),((k0,t0,o0) :: sh)[i]? = some (k,ty,true) ∧ (((r :: rs).length ≤ i ∧ x = k) ∨ ∃ t,(r :: rs)[i]? = some (.tmp t) ∧ x = a_ t):=by
    intro h;obtain ⟨i,ty,q1,q2⟩:=ih h;refine ⟨i + 1,ty,by simpa using q1,?_⟩
    rcases q2 with ⟨q2,q3⟩ | ⟨t,q2,q3⟩
    ·exact .inl ⟨by simp;omega,q3⟩
    ·exact .inr ⟨t,by simpa using q2,q3⟩
   cases r with
   | tmp t =>
    cases o0 with
    | true =>
     simp only [a_s,List.mem_cons,Prod.mk.injEq] at h
     rcases h with ⟨rfl,rfl⟩ | h
     ·exact ⟨0,t0,rfl,.inr ⟨t,rfl,rfl⟩⟩
     ·exact rest h
    | false => exact rest h
   | cell b t => cases o0 <;> exact rest h
theorem i_8 : ∀ {res : List ResultVar} {sh : Shape} {i : Nat} {k : Key} {ty : TypeId},sh[i]? = some (k,ty,true) → (res.length ≤ i → (k,k) ∈ a_s res sh) ∧ ∀ t,res[i]? = some (.tmp t) → (k,a_ t) ∈ a_s res sh:=by
 intro res
 induction res with
 | nil =>
  intro sh
  induction sh with
  | nil => intro i k ty h;simp at h
  | cons a sh ih =>
   intro i k ty h;obtain ⟨k0,t0,o0⟩:=a;refine ⟨fun _ => ?_,fun t ht => by simp at ht⟩
   cases i with
   | zero =>
    simp only [List.getElem?_cons_zero,Option.some.injEq,Prod.mk.injEq] at h;obtain ⟨rfl,-,rfl⟩:=h;simp [a_s]
   | succ i =>
    simp only [List.getElem?_cons_succ] at h
    have:=(ih h).1 (Nat.zero_le _)
    cases o0 <;> simp [a_s,this]
 | cons r rs ih =>
  intro sh i k ty h
  cases sh with
  | nil => simp at h
  | cons a sh =>
   obtain ⟨k0,t0,o0⟩:=a
   cases i with
   | zero =>
    simp only [List.getElem?_cons_zero,Option.some.injEq,Prod.mk.injEq] at h;obtain ⟨rfl,-,rfl⟩:=h;refine ⟨fun q => by simp at q,fun t ht => ?_⟩;simp only [List.getElem?_cons_zero,Option.some.injEq] at ht;subst ht;simp [a_s]
   | succ i =>
    simp only [List.getElem?_cons_succ] at h;obtain ⟨q1,q2⟩:=ih h;have hsub : ∀ y,y ∈ a_s rs sh → y ∈ a_s (r :: rs) ((k0,t0,o0) :: sh):=by
     intro y hy;cases r <;> cases o0 <;> simp [a_s,hy]
    exact ⟨fun q => hsub _ (q1 (by simp at q;omega)),fun t ht => hsub _ (q2 t (by simpa using ht))⟩
theorem d_5 {m : KMap} (hn : (m.map (·.1)).Nodup) {k x : Key} (h : (k,x) ∈ m) : m.find k = some x:=by
 induction m with
 | nil => simp at h
 | cons a r ih =>
  obtain ⟨k0,x0⟩:=a;simp only [List.map_cons,List.nodup_cons] at hn;simp only [KMap.find]
  rcases List.mem_cons.1 h with q | q
  ·simp only [Prod.mk.injEq] at q
   rw [q.1,q.2];simp [Key.a_u]
  ·rw [Key.a_N (fun e => hn.1 (by rw [e];exact List.mem_map.2 ⟨_,q,rfl⟩))]
   exact ih hn.2 q
theorem l_m : ∀ {sh : Shape} {ys : List T} {k : Key} {e : Ent},ys.length = sh.length → (shSt sh ys).get k = some e → ∃ (i : Nat) (ty : TypeId) (o : Bool) (y : T),sh[i]? = some (k,ty,o) ∧ ys[i]? = some y ∧ e = top (f_g 0 ty o y):=by
 intro sh
 induction sh with
 | nil => intro ys k e hl h;cases ys <;> simp [shSt,St.get] at h
 | cons a sh ih =>
  intro ys k e hl h;obtain ⟨k0,t0,o0⟩:=a
  cases ys with
  | nil => simp at hl
  | cons y ys =>
   simp only [shSt,St.get] at h;split at h
   ·rename_i hk
    have:=Key.a_b.1 hk
    subst this;exact ⟨0,t0,o0,y,rfl,rfl,(Option.some.inj h).symm⟩
   ·obtain ⟨i,ty,o,y',h1,h2,h3⟩:=ih (by simpa using hl) h
    exact ⟨i + 1,ty,o,y',by simpa using h1,by simpa using h2,h3⟩
end
section
variable {P : Program} {C : Ctx}
theorem q_z (hG : Good P C.tab) {fr : Fr} {vals tm : Array Value} {w : World} {σ : St} {γ2 : Key → Option Nat} {args : List Arg} {res : List ResultVar} {sh : Shape} {ys : List T}
  (hvs : vals.size = args.length) (hok : g_S args res sh = true) (hτ : Rel C.tab fr tm w (E_ C (b_c C.tab res sh) σ) γ2) (hbox : boxQ 0 args (E_ C (b_c C.tab res sh) σ))
  (hpin : ∀ (j : Nat) c n cs,args[j]? = some (.box c n cs) → tm[j]? = vals[j]?) {vs : List Value} (hlv : vs.length = res.length) (hly : ys.length = sh.length) (hle : res.length ≤ sh.length)
  (hres : ∀ (i : Nat) r k ty o y,res[i]? = some r → sh[i]? = some (k,ty,o) → ys[i]? = some y → ∃ v,vs[i]? = some v ∧ ResV C fr tm w (E_ C (b_c C.tab res sh) σ) γ2 r ty o y v)
  (hkey : ∀ (i : Nat) k ty o y,res.length ≤ i → sh[i]? = some (k,ty,o) → ys[i]? = some y → keyQ (E_ C (b_c C.tab res sh) σ) k ty o y ∧ (o = false → memK (b_c C.tab res sh) k = true)) :
  ∃ γ',Rel C.tab fr (vals.push (f_f vs)) w (b_j args sh ys) γ' := by
 obtain ⟨hk1,hk2,hk3,hk4⟩:=g_T hok
 generalize hmp : (a_s res sh ++ d_0 0 args : KMap) = mp at hk2
 rw [p_y] at hk2;have hmem : ∀ {k x},(k,x) ∈ mp → (∃ (i : Nat) (ty : TypeId),sh[i]? = some (k,ty,true) ∧ ((res.length ≤ i ∧ x = k) ∨ ∃ t,res[i]? = some (.tmp t) ∧ x = a_ t)) ∨ (k = x ∧ ∃ t,k = a_ t ∧ t < args.length):=by
  intro k x h;rw [← hmp] at h
  rcases List.mem_append.1 h with h | h
  ·exact .inl (f_o h)
  ·obtain ⟨q1,t,q2,q3⟩:=f_7 args 0 h
   exact .inr ⟨q1,t,by rw [q2,Nat.zero_add],q3⟩
 have hshk : ∀ {i : Nat} {k : Key} {ty : TypeId} {o : Bool},sh[i]? = some (k,ty,o) → k = a_ args.length ∨ k.tag ≠ 0:=by
  intro i k ty o h
  rcases c_G hk3 h with ⟨-,⟨-,rfl⟩ | ⟨-,rfl⟩⟩ | ⟨-,j,m,c,n,cs,rfl,-⟩
  ·exact .inl rfl
  ·exact .inr (by simp [comp])
  ·exact .inr (by simp [cell])
 have hfst : (mp.map (·.1)).Nodup:=by
  rw [← hmp,List.map_append,List.nodup_append];refine ⟨?_,?_,?_⟩
  ·
   have : ∀ (res : List ResultVar) (sh : Shape),(b_p sh).Nodup → ((a_s res sh).map (·.1)).Nodup:=by
    have hin : ∀ (res : List ResultVar) (sh : Shape) (k : Key),k ∈ (a_s res sh).map (·.1) → k ∈ b_p sh:=by
     intro res sh k h;obtain ⟨⟨k',x⟩,h1,h2⟩:=List.mem_map.1 h;simp only at h2;subst h2;obtain ⟨i,ty,h3,-⟩:=f_o h1;exact m_f h3
    have base : ∀ (sh : Shape),(b_p sh).Nodup → ((a_s [] sh).map (·.1)).Nodup:=by
     intro sh
     induction sh with
     | nil => intro _;simp [a_s]
     | cons a sh ih =>
      obtain ⟨k0,t0,o0⟩:=a;intro hn;simp only [b_p,List.nodup_cons] at hn
      cases o0 with
      | true =>
       simp only [a_s,List.map_cons,List.nodup_cons];exact ⟨fun q => hn.1 (hin _ _ _ q),ih hn.2⟩
      | false => exact ih hn.2
    intro res
    induction res with
    | nil => exact base
    | cons r rs ih =>
     intro sh hn
     cases sh with
     | nil => cases r <;> simp [a_s]
     | cons a sh =>
      obtain ⟨k0,t0,o0⟩:=a;simp only [b_p,List.nodup_cons] at hn
      cases r with
      | tmp t =>
       cases o0 with
       | true =>
        simp only [a_s,List.map_cons,List.nodup_cons];exact ⟨fun q => hn.1 (hin _ _ _ q),ih sh hn.2⟩
       | false => exact ih sh hn.2
      | cell b t => cases o0 <;> exact ih sh hn.2
   exact this res sh hk1
  ·have : ∀ (l : List Arg) (j : Nat),((d_0 j l).map (·.1)).Nodup:=by
    intro l
    induction l with
    | nil => intro j;simp [d_0]
    | cons a r ih =>
     intro j
     cases a with
     | box c n cs =>
      simp only [d_0,List.map_cons,List.nodup_cons];refine ⟨fun q => ?_,ih (j + 1)⟩;obtain ⟨⟨k',x⟩,h1,h2⟩:=List.mem_map.1 q;simp only at h2;subst h2;obtain ⟨-,t,h3,-⟩:=f_7 r (j + 1) h1;simp [a_] at h3;omega
     | _ => exact ih (j + 1)
   exact this args 0
  ·intro k h k' h' e
   subst e;obtain ⟨⟨k1,x⟩,h1,h2⟩:=List.mem_map.1 h;simp only at h2;subst h2;obtain ⟨⟨k1',x'⟩,h1',h2'⟩:=List.mem_map.1 h';simp only at h2';subst h2';obtain ⟨i,ty,h3,-⟩:=f_o h1;obtain ⟨-,t,h4,h5⟩:=f_7 args 0 h1';rw [Nat.zero_add] at h4
   rcases hshk h3 with q | q
   ·rw [h4] at q;simp [a_] at q;omega
   ·rw [h4] at q;simp [a_] at q
 have hObs : ∀ b,Ob fr (ownC mp γ2) b → Ob fr γ2 b:=by
  rintro b (hb | ⟨k,hb⟩)
  ·exact .inl hb
  ·obtain ⟨x,-,hx⟩:=a_O hb
   exact .inr ⟨x,hx⟩
 have hstay : Stays w w (Ob fr γ2) (Ob fr (ownC mp γ2)):=fun b _ hb => ⟨rfl,fun q => hb (hObs b q)⟩
 have hbx : ∀ {j c n cs},args[j]? = some (.box c n cs) → ownC mp γ2 (a_ j) = γ2 (a_ j) ∧ (∃ tag,(E_ C (b_c C.tab res sh) σ).get (a_ j) = some ⟨[],.box c tag n⟩):=by
  intro j c n cs hj;have h1 : (a_ j,a_ j) ∈ mp:=by
   rw [← hmp]
   have:=KMap.f_N (l_B args 0 j hj)
   rw [Nat.zero_add] at this;exact List.mem_append.2 (.inr this)
  have h2:=o_C args 0 j hbox hj;rw [Nat.zero_add] at h2;refine ⟨?_,o_S h2⟩;unfold ownC;rw [d_5 hfst h1];rfl
 have hout : ∀ {k e},(b_j args sh ys).get k = some e → (∃ j c n cs,k = a_ j ∧ args[j]? = some (.box c n cs) ∧ e = top (.box c 0 n)) ∨ (k = a_ args.length ∧ 2 ≤ res.length ∧ e = top (.tup 0)) ∨
   (∃ (i : Nat) (ty : TypeId) (o : Bool) (y : T),sh[i]? = some (k,ty,o) ∧ ys[i]? = some y ∧ e = top (f_g 0 ty o y)):=by
  intro k e he;unfold b_j at he;rw [a_n] at he;split at he
  ·rename_i e' hb
   simp only [Option.some.injEq] at he;subst he;obtain ⟨t,c,n,cs,h1,h2,h3⟩:=m_L args 0 k _ hb;rw [Nat.zero_add] at h1;exact .inl ⟨t,c,n,cs,h1,h2,h3⟩
  ·rw [a_n] at he
   rcases g_R hk3 args.length with ⟨q1,q2⟩ | ⟨q1,q2⟩
   ·rw [q2] at he
    simp only [St.get] at he;split at he
    ·rename_i e' hb
     simp only [Option.some.injEq] at he;subst he;split at hb
     ·rename_i hk
      have:=Key.a_b.1 hk
      exact .inr (.inl ⟨this.symm,q1,(Option.some.inj hb).symm⟩)
     ·cases hb
    ·exact .inr (.inr (l_m hly he))
   ·rw [q2] at he
    simp only [St.get] at he;exact .inr (.inr (l_m hly he))
 have hbget : ∀ {j c n cs},args[j]? = some (.box c n cs) → (b_j args sh ys).get (a_ j) = some (top (.box c 0 n)):=by
  intro j c n cs hj;unfold b_j;rw [a_n]
  have:=m_M args 0 j hj
  rw [Nat.zero_add] at this;rw [this]
 have htget : 2 ≤ res.length → (b_j args sh ys).get (a_ args.length) = some (top (.tup 0)):=by
  intro h2;unfold b_j;rw [a_n];have hn : (b_s 0 args).get (a_ args.length) = none:=by
   cases hb : (b_s 0 args).get (a_ args.length) with
   | none => rfl
   | some e =>
    obtain ⟨t,h1,h3,h4⟩:=f_5 args 0 _ e hb;simp [a_] at h1;omega
  rw [hn];simp only;rw [a_n]
  rcases g_R hk3 args.length with ⟨q1,q2⟩ | ⟨q1,q2⟩
  ·rw [q2];simp [St.get,Key.a_u]
  ·omega
 have hpush : ∀ {j : Nat},j < args.length → (vals.push (f_f vs))[j]? = vals[j]? := by
  intro j hj;rw [Array.getElem?_push];rw [if_neg (by omega)]
 have hlast : (vals.push (f_f vs))[args.length]? = some (f_f vs):=by
  rw [Array.getElem?_push,if_pos (by omega)]
 refine ⟨ownC mp γ2,hτ.os,hτ.tape,hτ.output,hτ.size,hτ.old,hτ.low,?_,?_,?_,?_,?_⟩
 ·intro k k' b hk hk'
  obtain ⟨x,hx,hxb⟩:=a_O hk;obtain ⟨x',hx',hxb'⟩:=a_O hk'
  have:=hτ.inj x x' b hxb hxb'
  subst this;exact o_b hk2 hx hx'
 ·intro k b hk
  obtain ⟨x,-,hxb⟩:=a_O hk;exact hτ.blk x b hxb
 ·intro s n e he
  rcases hout he with ⟨j,c,n',cs,h1,-⟩ | ⟨h1,-⟩ | ⟨i,ty,o,y,h1,-⟩
  ·simp [cell,a_] at h1
  ·simp [cell,a_] at h1
  ·rcases c_G hk3 h1 with ⟨-,⟨-,q⟩ | ⟨-,q⟩⟩ | ⟨-,j,m,c,n',cs,q,q2,-⟩
   ·simp [cell,a_] at q
   ·simp [cell,comp] at q
   ·simp only [cell,Key.mk.injEq,true_and] at q
    exact ⟨c,0,n',by rw [q.1];exact hbget q2⟩
 ·intro s n e he
  rcases hout he with ⟨j,c,n',cs,h1,-⟩ | ⟨h1,-⟩ | ⟨i,ty,o,y,h1,-⟩
  ·simp [comp,a_] at h1
  ·simp [comp,a_] at h1
  ·rcases c_G hk3 h1 with ⟨h0,⟨-,q⟩ | ⟨h2,q⟩⟩ | ⟨-,j,m,c,n',cs,q,q2,-⟩
   ·simp [comp,a_] at q
   ·simp only [comp,Key.mk.injEq,true_and] at q
    exact ⟨[],0,by rw [q.1];exact htget (by omega)⟩
   ·simp [cell,comp] at q
 ·intro k e he
  rcases hout he with ⟨j,c,n,cs,rfl,hj,rfl⟩ | ⟨rfl,h2,rfl⟩ | ⟨i,ty,o,y,hs,hy,rfl⟩
  ·obtain ⟨q1,tag,q2⟩:=hbx hj
   obtain ⟨v,hv,hr,-⟩:=hτ.ent _ _ q2;obtain ⟨b,cs',ety,r1,r2,r3,r4⟩:=hr trivial;have hjl : j < args.length:=(List.getElem?_eq_some_iff.1 hj).1;refine ⟨v,?_,fun _ => ⟨b,cs',ety,by rw [q1];exact r1,r2,r3,r4⟩,fun q => absurd trivial q⟩;rw [i_] at hv ⊢;rw [hpush hjl,← hpin j c n cs hj];exact hv
  ·refine ⟨f_f vs,by rw [i_];exact hlast,fun _ => ?_,fun q => absurd trivial q⟩
   match vs,hlv with
   | [],h => rw [← h] at h2;simp at h2
   | [v],h => rw [← h] at h2;simp at h2
   | v :: u :: r,_ => exact .inl ⟨_,rfl⟩
  ·rcases c_G hk3 hs with ⟨hi,hform⟩ | ⟨hi,j,m,c,n,cs,rfl,hj,hm⟩
   ·obtain ⟨r,hr⟩ : ∃ r,res[i]? = some r:=⟨_,List.getElem?_eq_getElem hi⟩
    obtain ⟨v,hv,hR⟩:=hres i r k ty o y hr hs hy;have hval : s_ (vals.push (f_f vs)) w (ownC mp γ2) k = some v:=by
     rcases hform with ⟨h1,rfl⟩ | ⟨h1,rfl⟩
     ·rw [i_,hlast]
      match vs,hlv,hv with
      | [],h,_ => rw [← h] at h1;simp at h1
      | [u],_,hv =>
       have : i = 0:=by omega
       subst this;simpa [f_f] using hv
      | u :: u' :: r,h,_ => rw [← h] at h1;simp at h1
     ·simp only [s_,comp]
      rw [hlast]
      match vs,hlv,hv with
      | [],h,hv => simp at hv
      | [u],h,_ => rw [← h] at h1;simp at h1
      | u :: u' :: r,h,hv =>
       have hb : Nat.blt i 1000 = true:=by
        have:=m_e hk3
        simp [Nat.blt];omega
       simp only [f_f,hb];simpa using hv
    refine ⟨v,hval,fun _ => ?_,fun q => absurd trivial q⟩
    rcases hR with ⟨rfl,hV⟩ | ⟨rfl,t,tag,xs,rfl,rfl,hent,htm⟩
    ·exact hV.mono hstay
    ·obtain ⟨v',hv',hr',-⟩:=hτ.ent _ _ hent
     rw [i_,htm] at hv';simp only [Option.some.injEq] at hv';subst hv';have hO : Own C.tab w (Ob fr γ2) ty v (γ2 (a_ t)) xs:=hr' trivial;have hg : ownC mp γ2 k = γ2 (a_ t):=by
      unfold ownC;rw [d_5 hfst (x:=a_ t) (by rw [← hmp];exact List.mem_append.2 (.inl ((i_8 hs).2 t hr)))];rfl
     show Own C.tab w _ ty v (ownC mp γ2 k) xs
     rw [hg];exact hO.mono hstay fun _ _ => rfl
   ·obtain ⟨hq,hfz⟩:=hkey i _ ty o y hi hs hy
    obtain ⟨q1,tag,q2⟩:=hbx hj;have hval : s_ (vals.push (f_f vs)) w (ownC mp γ2) (cell j m) = s_ tm w γ2 (cell j m):=by
     simp only [s_,cell];rw [q1]
    cases o with
    | false =>
     obtain ⟨-,v,h1,h2⟩:=k_w hτ (hfz rfl) hq;exact ⟨v,by rw [hval];exact h1,fun _ => h2.mono hstay,fun q => absurd trivial q⟩
    | true =>
     obtain ⟨tag',xs,rfl,he'⟩:=k_W hq
     ·obtain ⟨v,h1,h2,-⟩:=hτ.ent _ _ he'
      have hO : Own C.tab w (Ob fr γ2) ty v (γ2 (cell j m)) xs:=h2 trivial;have hg : ownC mp γ2 (cell j m) = γ2 (cell j m):=by
       unfold ownC;rw [d_5 hfst (x:=cell j m) (by rw [← hmp];exact List.mem_append.2 (.inl ((i_8 hs).1 hi)))];rfl
      refine ⟨v,by rw [hval];exact h1,fun _ => ?_,fun q => absurd trivial q⟩
      show Own C.tab w _ ty v (ownC mp γ2 (cell j m)) xs
      rw [hg];exact hO.mono hstay fun _ _ => rfl
theorem p_B {a b : List Nat} (h : subN a b = true) {x : Nat} (hx : x ∈ a) : memN b x = true:=by
 induction a with
 | nil => simp at hx
 | cons y r ih =>
  simp only [subN] at h;split at h
  ·rename_i hm
   rcases List.mem_cons.1 hx with rfl | hx
   ·exact hm
   ·exact ih h hx
  ·cases h
theorem l_5 : ∀ (l : List Arg) (j t : Nat) {c n : Nat} {cs : List AV},l[t]? = some (.box c n cs) → j + t ∈ g_G j l:=by
 intro l
 induction l with
 | nil => intro j t c n cs h;simp at h
 | cons a r ih =>
  intro j t c n cs h
  cases t with
  | zero =>
   simp only [List.getElem?_cons_zero,Option.some.injEq] at h;subst h;simp [g_G]
  | succ t =>
   simp only [List.getElem?_cons_succ] at h
   have:=ih (j + 1) t h
   rw [show j + 1 + t = j + (t + 1) by omega] at this;cases a <;> simp [g_G,this]
theorem u_z (hG : Good P C.tab) {f : FuncId} {fn : Func} {c : Code} {args : List Arg} {sh : Shape} {ys : List T} {res : List ResultVar}
  (hf : P.funcs[f]? = some fn) (hname : (fn.name == "runtime.NumGoroutine") = false) (hb : fn.body = some c) (hres : fn.results = res.toArray) (hnt : fn.ntmps = C.nt)
  (hn : Nat.ble args.length C.nt = true) (hpins : subN (g_G 0 args) C.pins = true) (hok : g_S args res sh = true)
  (hSW : SW P C c (EndQ C args res sh ys) (a_T 0 args)) : Fn P C.tab f args sh ys:=by
 refine ⟨fun w A vals γ hsz hr => ?_⟩;obtain ⟨hk1,hk2,hk3,hk4⟩:=g_T hok;have hn:=Nat.le_of_ble_eq_true hn;have hcall : (callFunc f vals).run P w = .ok (.enter f vals) w:=by
  have : ¬ fn.name = "runtime.NumGoroutine" := by simpa using hname
  simp [callFunc,hf,this,hb]
 unfold CallsF;rw [hcall]
 show Calls P f vals w _
 refine calls_of_wp hf hb ?_;have hsz0 : (vals ++ Array.replicate (fn.ntmps - vals.size) undef).size = C.nt:=by
  simp only [Array.size_append,Array.size_replicate,hnt];omega
 have hr0 : Rel C.tab ⟨w.heap.size,w,A,fun b => ∃ k,γ k = some b⟩ (vals ++ Array.replicate (fn.ntmps - vals.size) undef) w (a_T 0 args) γ:=hr.tmps fun k e he => by
  obtain ⟨⟨t,c',hk,-,ht⟩,hh⟩:=m_C args 0 k e hk4 he;refine ⟨?_,hh⟩
  rcases hk with rfl | rfl
  ·rw [i_,i_,Array.getElem?_append_left (by omega)]
  ·rfl
 have key : ∀ (a' : Act) (w' : World),a'.defers = [] → Pinned C (vals ++ Array.replicate (fn.ntmps - vals.size) undef) a'.tmps → (∃ σ' γ1,(boxQ 0 args (E_ C (b_c C.tab res sh) σ') ∧ retQ C.tab res sh ys (E_ C (b_c C.tab res sh) σ')) ∧
   Rel C.tab ⟨w.heap.size,w,A,fun b => ∃ k,γ k = some b⟩ a'.tmps w' σ' γ1) →
   a'.defers = [] ∧ ∃ v,(results fn a'.tmps).run P w' = .ok v w' ∧ ∃ v',Ending.returned v = .returned v' ∧ ∃ γ',Rel C.tab ⟨w.heap.size,w,A,fun b => ∃ k,γ k = some b⟩ (vals.push v') w' (b_j args sh ys) γ' := by
  rintro a' w' h1 hp ⟨σ',γ1,⟨hE1,hE2⟩,hR⟩;obtain ⟨γ2,hτ,-⟩:=hR.start (C:=C) hG (b_c C.tab res sh);obtain ⟨vs,q1,q2,q3,q4,q5,q6⟩:=p_r hG hτ res sh ys (fun k hk => b_V.2 hk) hE2;refine ⟨h1,_,k_q hres q1,_,rfl,?_⟩;refine q_z hG hsz hok hτ hE1 (fun j c n cs hj => ?_) q2 q3 q4 q5 q6;have hm:=l_5 args 0 j hj;rw [Nat.zero_add] at hm;rw [hp j (p_B hpins hm)];have : j < args.length:=(List.getElem?_eq_some_iff.1 hj).1;rw [Array.getElem?_append_left (by omega)]
 refine wp_mono (hSW _ _ w γ hsz0 hr0) ?_;rintro e a' w' ⟨h1,-,hp,σ',γ1,hE,hR⟩
 cases e with
 | normal => exact key a' w' h1 hp ⟨σ',γ1,hE,hR⟩
 | ret => exact key a' w' h1 hp ⟨σ',γ1,hE,hR⟩
 | _ => exact hE.elim
end
def K.eqB : K → K → Bool
 | .int k,.int k' => decide (k = k')
 | .bool,.bool => true
 | .str,.str => true
 | .sl e,.sl e' => Nat.beq e e'
 | .st fs,.st fs' => decide (fs = fs')
 | .ptr e,.ptr e' => Nat.beq e e'
 | .fn,.fn => true
 | .ifc,.ifc => true
 | .no,.no => true
 | _,_ => false
theorem K.n_g {a b : K} (h : K.eqB a b = true) : a = b:=by
 cases a <;> cases b <;> simp_all [K.eqB]
def k_X : T → T → Bool
 | .i k n,.i k' n' => decide (k = k' ∧ n = n')
 | .b x,.b y => decide (x = y)
 | .s x,.s y => decide (x.data.toList = y.data.toList)
 | .l [],.l [] => true
 | .z,.z => true
 | _,_ => false
theorem i_P {a b : T} (h : k_X a b = true) : a = b:=by
 unfold k_X at h;split at h
 ·simp at h;rw [h.1,h.2]
 ·simp at h;rw [h]
 ·rename_i x y
  simp only [decide_eq_true_eq] at h;have : x.data = y.data:=Array.toList_inj.1 h;cases x;cases y;simp only at this;rw [this]
 ·rfl
 ·rfl
 ·cases h
def d_A : List T → List T → Bool
 | [],[] => true
 | x :: r,y :: s => match k_X x y with
  | true => d_A r s
  | false => false
 | _,_ => false
theorem j_3 : ∀ {a b : List T},d_A a b = true → a = b:=by
 intro a
 induction a with
 | nil => intro b h;cases b <;> simp_all [d_A]
 | cons x r ih =>
  intro b h
  cases b with
  | nil => simp [d_A] at h
  | cons y s =>
   simp only [d_A] at h;split at h
   ·rename_i hx;rw [i_P hx,ih h]
   ·cases h
def o_p : T → T → Bool
 | .g xs,.g ys => d_A xs ys
 | x,y => k_X x y
theorem o_q {a b : T} (h : o_p a b = true) : a = b:=by
 unfold o_p at h;split at h
 ·rw [j_3 h]
 ·exact i_P h
def TI.eqB (a b : TI) : Bool:=K.eqB a.k b.k && Nat.beq a.cells b.cells && Nat.beq a.bytes b.bytes && b_Y a.leaves b.leaves && o_p a.zero b.zero
theorem TI.n_g {a b : TI} (h : TI.eqB a b = true) : a = b:=by
 unfold TI.eqB at h;simp only [Bool.and_eq_true] at h;obtain ⟨⟨⟨⟨h1,h2⟩,h3⟩,h4⟩,h5⟩:=h;cases a;cases b;simp only at h1 h2 h3 h4 h5;rw [K.n_g h1,Nat.eq_of_beq_eq_true h2,Nat.eq_of_beq_eq_true h3,c_1 h4,o_q h5]
def i_l : K → Value → T → Bool
 | .int k,.int k' n,.i k'' n' => decide (k' = k ∧ k'' = k ∧ n' = n ∧ k.wrap n = n)
 | .bool,.bool x,.b y => decide (x = y)
 | .str,.string x,.s y => decide (x.data.toList = y.data.toList ∧ x.data.toList = [])
 | .sl _,.slice none 0 0,.l [] => true
 | .ptr _,.pointer none,.z => true
 | .ifc,.nilIface,.z => true
 | .fn,.nilFunc,.z => true
 | _,_,_ => false
def e_g (tab : Tab) : List Value → List T → List TypeId → Bool
 | [],[],[] => true
 | u :: us,y :: ys,ty :: tys => match tab.at ty with
  | some (ct,t1) => match Nat.beq ct ty,i_l t1.k u y with
   | true,true => e_g tab us ys tys
   | _,_ => false
  | none => false
 | _,_,_ => false
def e_4 (tab : Tab) (ti : TI) : List (Nat × TypeId) → List Field → Bool
 | [],[] => true
 | (off,cf) :: r,f :: fs => match tab.at f.type with
  | some (cf',tf) => Nat.beq cf' cf && Nat.beq f.offset off && Nat.blt 0 tf.cells && b_Y ((ti.leaves.drop off).take tf.cells) (tf.lv cf) && Nat.ble (off + tf.cells) ti.cells && e_4 tab ti r fs
  | none => false
 | _,_ => false
def undB (tab : Tab) (ti : TI) : K → TypeDesc → Bool
 | .int k,.int k' => decide (k = k')
 | .bool,.bool => true
 | .str,.string => true
 | .sl e,.slice e' => Nat.beq e e' && (tab.at e).isSome
 | .st fs,.struct fa => e_4 tab ti fs fa.toList
 | .ptr e,.pointer e' => Nat.beq e e'
 | .fn,.func .. => true
 | .ifc,.interface _ => true
 | _,_ => false
def o_2 (tab : Tab) : List TypeId → Bool
 | [] => true
 | ty :: r => match tab.at ty with
  | some (ct,t1) => match Nat.beq ct ty,t1.isS with
   | true,false => o_2 tab r
   | _,_ => false
  | none => false
def tokB (P : Program) (tab : Tab) (t c : TypeId) (ti : TI) : Bool :=
 (match tab.at c with
  | some (c',ti') => Nat.beq c' c && TI.eqB ti' ti
  | none => false) &&
 (match P.info? t with
  | some i => Nat.beq i.size ti.cells && Nat.beq i.bytes ti.bytes && (match i.zero with
   | some z => j_c ti.zero.isG ti.isS && j_c (isAgg z) ti.isS && Nat.beq z.cells.size ti.cells && Nat.beq ti.zero.leaves.length ti.cells && e_g tab z.cells.toList ti.zero.leaves (ti.lv c)
   | none => false)
  | none => false) &&
 (match P.underlying t with
  | some d => undB tab ti ti.k d
  | none => false) &&
 Nat.beq (ti.lv c).length ti.cells && Nat.blt 0 ti.cells && o_2 tab (ti.lv c)
def o_W (P : Program) (tab : Tab) : Tab → Bool
 | [] => true
 | (t,c,ti) :: r => match tokB P tab t c ti with
  | true => o_W P tab r
  | false => false
theorem s_S : ∀ {tab : Tab} {t : TypeId} {r : TypeId × TI},tab.at t = some r → (t,r) ∈ tab:=by
 intro tab
 induction tab with
 | nil => intro t r h;simp [Tab.at] at h
 | cons a tab ih =>
  obtain ⟨t',r'⟩:=a;intro t r h;simp only [Tab.at] at h;split at h
  ·rename_i hb
   rw [Nat.eq_of_beq_eq_true hb,← Option.some.inj h];simp
  ·simp [ih h]
theorem n_z {tab : Tab} : ∀ {l : List TypeId},o_2 tab l = true → ∀ ty ∈ l,∃ t1,tab.at ty = some (ty,t1) ∧ t1.isS = false:=by
 intro l
 induction l with
 | nil => intro _ ty h;simp at h
 | cons a r ih =>
  intro h ty hm;simp only [o_2] at h;split at h
  ·rename_i ct t1 ha
   split at h
   ·rename_i h1 h2
    rcases List.mem_cons.1 hm with rfl | hm
    ·rw [Nat.eq_of_beq_eq_true h1] at ha;exact ⟨t1,ha,h2⟩
    ·exact ih h ty hm
   ·cases h
  ·cases h
theorem m_t {tab : Tab} {w : World} {O : Nat → Prop} {ty : TypeId} {t1 : TI} {u : Value} {y : T} (ha : tab.at ty = some (ty,t1)) (h : i_l t1.k u y = true) : L tab w O ty u y ∧ noSl u = true:=by
 generalize hk : t1.k = k at h
 unfold i_l at h;split at h
 ·simp only [decide_eq_true_eq] at h
  obtain ⟨rfl,rfl,rfl,h4⟩:=h;exact ⟨.int ha hk h4,rfl⟩
 ·simp only [decide_eq_true_eq] at h
  subst h;exact ⟨.bool ha hk,rfl⟩
 ·rename_i x z
  simp only [decide_eq_true_eq] at h;have h0 : x = z:=by
   have:=Array.toList_inj.1 h.1
   cases x;cases z;simp only at this;rw [this]
  subst h0;refine ⟨.str ha hk ?_,rfl⟩;have : x.size = 0:=by
   show x.data.size = 0
   rw [← Array.length_toList,h.2];rfl
  rw [this];exact Nat.zero_le _
 ·exact ⟨.nil ha hk,rfl⟩
 ·exact ⟨.ptr ha hk,rfl⟩
 ·exact ⟨.ifc ha hk,rfl⟩
 ·exact ⟨.fn ha hk,rfl⟩
 ·cases h
theorem g_0 {tab : Tab} {w : World} {O : Nat → Prop} : ∀ {us : List Value} {ys : List T} {tys : List TypeId},e_g tab us ys tys = true → us.all noSl = true ∧ ∀ (j : Nat) y ty,ys[j]? = some y → tys[j]? = some ty → ∃ u,us[j]? = some u ∧ L tab w O ty u y:=by
 intro us
 induction us with
 | nil =>
  intro ys tys h;cases ys <;> cases tys <;> simp [e_g] at h
  exact ⟨rfl,fun j y ty hy => by simp at hy⟩
 | cons u us ih =>
  intro ys tys h
  cases ys with
  | nil => simp [e_g] at h
  | cons y ys =>
   cases tys with
   | nil => simp [e_g] at h
   | cons ty tys =>
    simp only [e_g] at h;split at h
    ·rename_i ct t1 ha
     split at h
     ·rename_i h1 h2
      rw [Nat.eq_of_beq_eq_true h1] at ha;obtain ⟨q1,q2⟩:=ih h;obtain ⟨q3,q4⟩:=m_t (w:=w) (O:=O) ha h2;refine ⟨by simp [q4,q1],fun j y' ty' hy ht => ?_⟩
      cases j with
      | zero =>
       simp only [List.getElem?_cons_zero,Option.some.injEq] at hy ht;subst hy;subst ht;exact ⟨u,rfl,q3⟩
      | succ j =>
       simp only [List.getElem?_cons_succ] at hy ht ⊢;exact q2 j y' ty' hy ht
     ·cases h
    ·cases h
theorem j_Q {tab : Tab} {ti : TI} : ∀ {fs : List (Nat × TypeId)} {fa : List Field},e_4 tab ti fs fa = true → fs.length = fa.length ∧ ∀ (j off cf : Nat),fs[j]? = some (off,cf) → ∃ f tf,fa[j]? = some f ∧ f.offset = off ∧ tab.at f.type = some (cf,tf) ∧
    0 < tf.cells ∧ (ti.leaves.drop off).take tf.cells = tf.lv cf ∧ off + tf.cells ≤ ti.cells:=by
 intro fs
 induction fs with
 | nil =>
  intro fa h
  cases fa with
  | nil => exact ⟨rfl,fun j off cf hj => by simp at hj⟩
  | cons => simp [e_4] at h
 | cons a fs ih =>
  obtain ⟨off,cf⟩:=a;intro fa h
  cases fa with
  | nil => simp [e_4] at h
  | cons f fa =>
   simp only [e_4] at h;split at h
   ·rename_i cf' tf ha
    simp only [Bool.and_eq_true] at h;obtain ⟨⟨⟨⟨⟨h1,h2⟩,h3⟩,h4⟩,h5⟩,h6⟩:=h;obtain ⟨q1,q2⟩:=ih h6;refine ⟨by simp [q1],fun j off' cf2 hj => ?_⟩
    cases j with
    | zero =>
     simp only [List.getElem?_cons_zero,Option.some.injEq,Prod.mk.injEq] at hj;obtain ⟨rfl,rfl⟩:=hj;rw [Nat.eq_of_beq_eq_true h1] at ha;exact ⟨f,tf,rfl,Nat.eq_of_beq_eq_true h2,ha,by simpa [Nat.blt_eq] using h3,c_1 h4,Nat.le_of_ble_eq_true h5⟩
    | succ j =>
     simp only [List.getElem?_cons_succ] at hj ⊢;exact q2 j off' cf2 hj
   ·cases h
theorem s_I {P : Program} {tab : Tab} {t c : TypeId} {ti : TI} (h : tokB P tab t c ti = true) : TOk P tab t c ti:=by
 unfold tokB at h;simp only [Bool.and_eq_true] at h;obtain ⟨⟨⟨⟨⟨h1,h2⟩,h3⟩,h4⟩,h5⟩,h6⟩:=h;have hself : tab.at c = some (c,ti):=by
  split at h1
  ·rename_i c' ti' ha
   simp only [Bool.and_eq_true] at h1;rw [ha,Nat.eq_of_beq_eq_true h1.1,TI.n_g h1.2]
  ·cases h1
 refine ⟨hself,?_,?_,Nat.eq_of_beq_eq_true h4,by simpa [Nat.blt_eq] using h5,n_z h6⟩
 ·split at h2
  ·rename_i i hi
   simp only [Bool.and_eq_true] at h2;obtain ⟨⟨k1,k2⟩,k3⟩:=h2;split at k3
   ·rename_i z hz
    simp only [Bool.and_eq_true] at k3;obtain ⟨⟨⟨⟨m1,m2⟩,m3⟩,m4⟩,m5⟩:=k3;refine ⟨i,z,hi,Nat.eq_of_beq_eq_true k1,Nat.eq_of_beq_eq_true k2,hz,fun w O => ⟨ti,hself,e_C m1,e_C m2,Nat.eq_of_beq_eq_true m3,Nat.eq_of_beq_eq_true m4,fun j y ty hy ht => ?_⟩,?_⟩
    ·obtain ⟨u,hu,hL⟩:=(g_0 (w:=w) (O:=O) m5).2 j y ty hy ht
     exact ⟨u,by rw [Array.getElem?_toList] at hu;exact hu,hL⟩
    ·have:=(g_0 (w:=default) (O:=fun _ => False) m5).1
     rw [← Array.all_toList];exact this
   ·cases k3
  ·cases h2
 ·split at h3
  ·rename_i d hd
   refine ⟨d,hd,?_⟩
   generalize ti.k = k at h3
   unfold undB at h3;split at h3
   ·simpa using h3
   ·trivial
   ·trivial
   ·rename_i e e'
    simp only [Bool.and_eq_true] at h3;refine ⟨Nat.eq_of_beq_eq_true h3.1,?_⟩
    cases ha : tab.at e with
    | none => rw [ha] at h3;simp at h3
    | some r => exact ⟨r.1,r.2,rfl⟩
   ·obtain ⟨q1,q2⟩:=j_Q h3
    refine ⟨by simpa using q1,fun j off cf hj => ?_⟩;obtain ⟨f,tf,r1,r2⟩:=q2 j off cf hj;exact ⟨f,tf,by rw [← Array.getElem?_toList];exact r1,r2⟩
   ·exact Nat.eq_of_beq_eq_true h3
   ·trivial
   ·trivial
   ·cases h3
  ·cases h3
theorem o_X {P : Program} {tab : Tab} (h : o_W P tab tab = true) : Good P tab:=by
 have : ∀ l : Tab,o_W P tab l = true → ∀ t r,(t,r) ∈ l → TOk P tab t r.1 r.2:=by
  intro l
  induction l with
  | nil => intro _ t r hm;simp at hm
  | cons a l ih =>
   obtain ⟨t',c',ti'⟩:=a;intro h t r hm;simp only [o_W] at h;split at h
   ·rename_i hb
    rcases List.mem_cons.1 hm with q | q
    ·simp only [Prod.mk.injEq] at q
     obtain ⟨rfl,rfl⟩:=q;exact s_I hb
    ·exact ih h t r q
   ·cases h
 intro t c ti hat
 exact this tab h t (c,ti) (s_S hat)
inductive Sp : Type 1 where
 | no
 | two (a b : Sp)
 | lp {ι : Type} (S : ι → Sk) (I : ι → Prop) (μ : ι → Nat) (r : ι → Sp)
 | cut {ι : Type} (S : ι → Sk) (I : ι → Prop) (a : Sp) (b : ι → Sp)
def Sp.l : Sp → Sp
 | .two a _ => a
 | _ => .no
def Sp.r : Sp → Sp
 | .two _ b => b
 | _ => .no
def t_8 (C : Ctx) (body : Code) (rec : Sp → (Exit → St → Prop) → St → Prop) : Sp → (Exit → St → Prop) → St → Prop
 | .lp (ι:=ι) S I μ r,Q,σ => (∃ i : ι,I i ∧ fitS C (S i) σ) ∧ (∀ i : ι,okS C (S i) = true) ∧ ∀ i : ι,I i → rec (r i) (m_m (fun σ' => ∃ j : ι,I j ∧ μ j < μ i ∧ fitS C (S j) σ') Q) (topS (S i))
 | _,_,_ => False
def seqL (C : Ctx) (ra rb : Sp → (Exit → St → Prop) → St → Prop) : Sp → (Exit → St → Prop) → St → Prop
 | .cut (ι:=ι) S I x y,Q,σ => ra x (m_m (fun σ' => ∃ i : ι,I i ∧ fitS C (S i) σ') Q) σ ∧ (∀ i : ι,okS C (S i) = true) ∧ ∀ i : ι,I i → rb (y i) Q (topS (S i))
 | s,Q,σ => ra s.l (m_m (rb s.r Q) Q) σ
def d_3 (P : Program) (C : Ctx) : Code → Sp → (Exit → St → Prop) → St → Prop
 | .skip,_,Q,σ => Q .normal σ
 | .seq a b,s,Q,σ => seqL C (fun s' Q' σ' => d_3 P C a s' Q' σ') (fun s' Q' σ' => d_3 P C b s' Q' σ') s Q σ
 | .region id ops draw,_,Q,σ => h_7 P C id ops.toList draw (Q .normal) σ
 | .cond c a b,s,Q,σ => match c with
  | .tmp t => match σ.get (a_ t) with
   | some ⟨[],.t ty x⟩ => match C.kd ty with
    | .bool => (x.bool = true → d_3 P C a s.l Q σ) ∧ (x.bool = false → d_3 P C b s.r Q σ)
    | _ => False
   | _ => False
  | .const (.bool true) => d_3 P C a s.l Q σ
  | .const (.bool false) => d_3 P C b s.r Q σ
  | _ => False
 | .block id body,s,Q,σ => d_3 P C body s (k_D id Q) σ
 | .loop body,s,Q,σ => t_8 C body (fun s' Q' σ' => d_3 P C body s' Q' σ') s Q σ
 | .exit id,_,Q,σ => Q (.exit id) σ
 | .ret,_,Q,σ => Q .ret σ
 | _,_,_,_ => False
def c_5 (fn : Func) : Code:=match fn.body with
 | some c => c
 | none => .skip
def l_8 (fn : Func) : List ResultVar:=fn.results.toList
theorem j_F {P : Program} {C : Ctx} (hG : Good P C.tab) (hm : P.follows .mixedOrders = true) : ∀ (c : Code) (s : Sp) (Q : Exit → St → Prop) (σ : St),d_3 P C c s Q σ → SW P C c Q σ:=by
 intro c
 induction c with
 | skip => intro s Q σ h;exact c_L hG hm .skip Q σ h
 | exit id => intro s Q σ h;exact c_L hG hm (.exit id) Q σ h
 | ret => intro s Q σ h;exact c_L hG hm .ret Q σ h
 | region id ops draw => intro s Q σ h;exact c_L hG hm (.region id ops draw) Q σ h
 | seq a b iha ihb =>
  intro s Q σ h;simp only [d_3] at h;unfold seqL at h;split at h
  ·rename_i ι S I x y
   obtain ⟨h1,hok,h2⟩:=h;refine p_L (SW.mono ?_ (iha x _ σ h1));intro e σ' h'
   cases e with
   | normal =>
    obtain ⟨i,hI,hf⟩:=h';exact SW.fit hG (hok i) (ihb (y i) Q _ (h2 i hI)) hf
   | _ => exact h'
  ·refine p_L (SW.mono ?_ (iha _ _ σ h))
   intro e σ' h'
   cases e with
   | normal => exact ihb _ Q σ' h'
   | _ => exact h'
 | cond c x y ihx ihy =>
  intro s Q σ h fr tm w γ hsz hr;simp only [d_3] at h;split at h
  ·rename_i t0
   split at h
   ·rename_i ty t hs
    split at h
    ·rename_i hk
     obtain ⟨v,hv,hV,-⟩:=hr.ent _ _ hs;rw [i_] at hv;have hV:=hV trivial;obtain ⟨c',ti,h1,h2⟩:=d_a hk (by simp);obtain ⟨t2,h3,-⟩:=id hV
     have:=e_ h1 h3
     simp only [Prod.mk.injEq] at this;obtain ⟨rfl,rfl⟩:=this;obtain ⟨q1,-⟩:=f_v h1 h2 hV;refine wp_cond_split (t:=t.bool) ?_ (fun e => ihx s.l Q σ (h.1 e) fr tm w γ hsz hr) (fun e => ihy s.r Q σ (h.2 e) fr tm w γ hsz hr);have : Act.eval ⟨tm,[]⟩ (.tmp t0) = v:=by
      simp [Act.eval,hv]
     rw [this,q1]
    ·exact h.elim
   ·exact h.elim
  ·exact wp_cond_true rfl (ihx s.l Q σ h fr tm w γ hsz hr)
  ·exact wp_cond_false rfl (ihy s.r Q σ h fr tm w γ hsz hr)
  ·exact h.elim
 | block id body ih =>
  intro s Q σ h fr tm w γ hsz hr;refine wp_block (wp_mono (ih s _ σ h fr tm w γ hsz hr) ?_);rintro e a' w' ⟨h1,h2,hp,σ',γ',h3,h4⟩
  cases e with
  | exit i =>
   simp only [k_D] at h3;simp only [Exit.inBlock];split at h3
   ·rename_i hb
    rw [if_pos (Nat.eq_of_beq_eq_true hb)];exact ⟨h1,h2,hp,σ',γ',h3,h4⟩
   ·rename_i hb
    rw [if_neg (fun q => by subst q;simp at hb)];exact ⟨h1,h2,hp,σ',γ',h3,h4⟩
  | _ => exact ⟨h1,h2,hp,σ',γ',h3,h4⟩
 | loop body ih =>
  intro s Q σ h;simp only [d_3] at h;unfold t_8 at h;split at h
  ·rename_i ι S I μ r
   obtain ⟨⟨i0,hI0,h0⟩,hok,hr⟩:=h;refine q_j hG (ι:={ i // I i }) (fun i => S i.1) (fun i => μ i.1) (fun i => hok i.1) ⟨i0,hI0⟩ h0 fun i => ?_
   refine SW.mono ?_ (ih _ _ _ (hr i.1 i.2));intro e σ' h'
   cases e with
   | normal =>
    obtain ⟨j,hj,hm,hf⟩:=h';exact ⟨⟨j,hj⟩,hm,hf⟩
   | _ => exact h'
  ·exact h.elim
 | rangeFunc => intro s Q σ h;exact h.elim
 | scope => intro s Q σ h;exact h.elim
 | label => intro s Q σ h;exact h.elim
 | goto => intro s Q σ h;exact h.elim
 | refuse => intro s Q σ h;exact h.elim
def fnOk (C : Ctx) (fn : Func) (args : List Arg) (sh : Shape) : Bool :=
 match fn.name == "runtime.NumGoroutine", fn.body, Nat.beq fn.ntmps C.nt, Nat.ble args.length C.nt, subN (g_G 0 args) C.pins, g_S args (l_8 fn) sh with
 | false,some _,true,true,true,true => true
 | _,_,_,_,_,_ => false
theorem q_h {P : Program} {C : Ctx} (hG : Good P C.tab) {f : FuncId} {fn : Func} {args : List Arg} {sh : Shape} {ys : List T}
  (hf : P.funcs[f]? = some fn) (hok : fnOk C fn args sh = true) (h : SW P C (c_5 fn) (EndQ C args (l_8 fn) sh ys) (a_T 0 args)) : Fn P C.tab f args sh ys:=by
 unfold fnOk at hok;split at hok
 ·rename_i c h1 h2 h3 h4 h5 h6
  refine u_z hG hf h1 h2 (by simp [l_8]) (Nat.eq_of_beq_eq_true h3) h4 h5 h6 ?_;have : c_5 fn = c:=by unfold c_5;rw [h2]
  rw [← this];exact h
 ·cases hok
theorem u_y {P : Program} {C : Ctx} (hG : Good P C.tab) (hm : P.follows .mixedOrders = true) {f : FuncId} {fn : Func} {args : List Arg} {sh : Shape} {ys : List T}
  (hf : P.funcs[f]? = some fn) (hok : fnOk C fn args sh = true) (s : Sp) {N : Prop} (hN : d_3 P C (c_5 fn) s (EndQ C args (l_8 fn) sh ys) (a_T 0 args) = N) (h : N) : Fn P C.tab f args sh ys :=
 q_h hG hf hok (j_F hG hm _ _ _ _ (hN ▸ h))
theorem m_v {P : Program} {t : Tab} (hG : Good P t) (hm : P.follows .mixedOrders = true) {C : Ctx} (ht : C.tab = t) {f : FuncId} {fn : Func} {args : List Arg} {sh : Shape} {ys : List T}
  (hf : P.funcs[f]? = some fn) (hok : fnOk C fn args sh = true) (s : Sp) {N : Prop} (hN : d_3 P C (c_5 fn) s (EndQ C args (l_8 fn) sh ys) (a_T 0 args) = N) (h : N) : Fn P t f args sh ys:=by
 subst ht;exact u_y hG hm hf hok s hN h
end Go.Pl
namespace Go.Pq
open Go.Pl Go.Proofs
def tab : Tab:=[
(3,2,⟨.int .i64,1,8,[],.i .i64 0⟩),
(4,4,⟨.bool,1,1,[],.b false⟩),
(24,23,⟨.st [(0,4),(1,22),(2,22)],3,56,[4,22,22],.g [.b false,.l [],.l []]⟩),
(28,28,⟨.sl 3,1,24,[],.l []⟩),
(22,22,⟨.sl 155,1,24,[],.l []⟩),
(25,25,⟨.sl 24,1,24,[],.l []⟩),
(30,29,⟨.st [(0,2),(1,2),(2,23),(5,25),(6,26),(7,25),(8,26),(9,27),(10,28)],11,216,[2,2,4,22,22,25,26,25,26,27,28],.g [.i .i64 0,.i .i64 0,.b false,.l [],.l [],.l [],.l [],.l [],.l [],.l [],.l []]⟩),
(33,32,⟨.st [(0,29),(11,31),(12,2)],13,248,[2,2,4,22,22,25,26,25,26,27,28,31,2],.g [.i .i64 0,.i .i64 0,.b false,.l [],.l [],.l [],.l [],.l [],.l [],.l [],.l [],.l [],.i .i64 0]⟩),
(175,22,⟨.sl 155,1,24,[],.l []⟩),
(39,2,⟨.int .i64,1,8,[],.i .i64 0⟩),
(31,31,⟨.sl 63,1,24,[],.l []⟩),
(61,60,⟨.st [(0,29),(11,2),(12,25),(13,59),(14,28)],15,296,[2,2,4,22,22,25,26,25,26,27,28,2,25,59,28],.g [.i .i64 0,.i .i64 0,.b false,.l [],.l [],.l [],.l [],.l [],.l [],.l [],.l [],.i .i64 0,.l [],.l [],.l []]⟩),
(142,12,⟨.int .u64,1,8,[],.i .u64 0⟩),
(41,40,⟨.st [(0,2),(1,2),(2,28),(3,34),(4,28),(5,23)],8,144,[2,2,28,34,28,4,22,22],.g [.i .i64 0,.i .i64 0,.l [],.l [],.l [],.b false,.l [],.l []]⟩),
(26,26,⟨.sl 25,1,24,[],.l []⟩),
(155,155,⟨.int .u32,1,4,[],.i .u32 0⟩),
(34,34,⟨.sl 5,1,24,[],.l []⟩),
(59,59,⟨.sl 28,1,24,[],.l []⟩),
(63,62,⟨.st [(0,2),(1,60)],16,304,[2,2,2,4,22,22,25,26,25,26,27,28,2,25,59,28],.g [.i .i64 0,.i .i64 0,.i .i64 0,.b false,.l [],.l [],.l [],.l [],.l [],.l [],.l [],.l [],.i .i64 0,.l [],.l [],.l []]⟩),
(27,27,⟨.sl 4,1,24,[],.l []⟩),
(36,35,⟨.st [(0,2),(1,2),(2,2),(3,28),(4,34)],5,72,[2,2,2,28,34],.g [.i .i64 0,.i .i64 0,.i .i64 0,.l [],.l []]⟩),
(179,23,⟨.st [(0,4),(1,22),(2,22)],3,56,[4,22,22],.g [.b false,.l [],.l []]⟩),
(97,97,⟨.sl 100,1,24,[],.l []⟩),
(192,192,⟨.ptr 198,1,8,[],.z⟩),
(225,225,⟨.ptr 196,1,8,[],.z⟩),
(110,110,⟨.ptr 112,1,8,[],.z⟩),
(209,209,⟨.ptr 211,1,8,[],.z⟩),
(5,5,⟨.int .u8,1,1,[],.i .u8 0⟩),
(100,99,⟨.st [(0,28),(1,23)],4,80,[28,4,22,22],.g [.l [],.b false,.l [],.l []]⟩),
(196,195,⟨.st [(0,34),(1,2),(2,193)],3,40,[34,2,193],.g [.l [],.i .i64 0,.i .i8 0]⟩),
(50,49,⟨.st [(0,2),(1,2),(2,28)],3,40,[2,2,28],.g [.i .i64 0,.i .i64 0,.l []]⟩),
(161,12,⟨.int .u64,1,8,[],.i .u64 0⟩),
(134,134,⟨.sl 97,1,24,[],.l []⟩),
(112,111,⟨.st [(0,32)],13,248,[2,2,4,22,22,25,26,25,26,27,28,31,2],.g [.i .i64 0,.i .i64 0,.b false,.l [],.l [],.l [],.l [],.l [],.l [],.l [],.l [],.l [],.i .i64 0]⟩),
(51,51,⟨.sl 58,1,24,[],.l []⟩),
(128,128,⟨.ptr 130,1,8,[],.z⟩),
(55,55,⟨.sl 34,1,24,[],.l []⟩),
(78,78,⟨.sl 41,1,24,[],.l []⟩),
(204,20,⟨.ifc,1,16,[],.z⟩),
(114,1,⟨.fn,1,8,[],.z⟩),
(154,1,⟨.fn,1,8,[],.z⟩),
(198,197,⟨.st [(0,195)],3,40,[34,2,193],.g [.l [],.i .i64 0,.i .i8 0]⟩),
(9,9,⟨.str,1,16,[],.s ⟨#[]⟩⟩),
(58,57,⟨.st [(0,2),(1,2),(2,2),(3,28)],4,48,[2,2,2,28],.g [.i .i64 0,.i .i64 0,.i .i64 0,.l []]⟩),
(82,82,⟨.sl 36,1,24,[],.l []⟩),
(104,1,⟨.fn,1,8,[],.z⟩),
(130,129,⟨.st [(0,28),(1,2)],2,32,[28,2],.g [.l [],.i .i64 0]⟩),
(211,210,⟨.st [(0,34)],1,24,[34],.g [.l []]⟩),
(20,20,⟨.ifc,1,16,[],.z⟩),
(123,1,⟨.fn,1,8,[],.z⟩),
(103,1,⟨.fn,1,8,[],.z⟩),
(191,1,⟨.fn,1,8,[],.z⟩),
(119,1,⟨.fn,1,8,[],.z⟩),
(121,1,⟨.fn,1,8,[],.z⟩),
(136,1,⟨.fn,1,8,[],.z⟩),
(194,193,⟨.int .i8,1,1,[],.i .i8 0⟩),
(251,250,⟨.st [(0,9)],1,16,[9],.g [.s ⟨#[]⟩]⟩),
(235,235,⟨.ptr 251,1,8,[],.z⟩),
(1,1,⟨.fn,1,8,[],.z⟩),
(2,2,⟨.int .i64,1,8,[],.i .i64 0⟩),
(12,12,⟨.int .u64,1,8,[],.i .u64 0⟩),
(23,23,⟨.st [(0,4),(1,22),(2,22)],3,56,[4,22,22],.g [.b false,.l [],.l []]⟩),
(29,29,⟨.st [(0,2),(1,2),(2,23),(5,25),(6,26),(7,25),(8,26),(9,27),(10,28)],11,216,[2,2,4,22,22,25,26,25,26,27,28],.g [.i .i64 0,.i .i64 0,.b false,.l [],.l [],.l [],.l [],.l [],.l [],.l [],.l []]⟩),
(32,32,⟨.st [(0,29),(11,31),(12,2)],13,248,[2,2,4,22,22,25,26,25,26,27,28,31,2],.g [.i .i64 0,.i .i64 0,.b false,.l [],.l [],.l [],.l [],.l [],.l [],.l [],.l [],.l [],.i .i64 0]⟩),
(35,35,⟨.st [(0,2),(1,2),(2,2),(3,28),(4,34)],5,72,[2,2,2,28,34],.g [.i .i64 0,.i .i64 0,.i .i64 0,.l [],.l []]⟩),
(40,40,⟨.st [(0,2),(1,2),(2,28),(3,34),(4,28),(5,23)],8,144,[2,2,28,34,28,4,22,22],.g [.i .i64 0,.i .i64 0,.l [],.l [],.l [],.b false,.l [],.l []]⟩),
(49,49,⟨.st [(0,2),(1,2),(2,28)],3,40,[2,2,28],.g [.i .i64 0,.i .i64 0,.l []]⟩),
(57,57,⟨.st [(0,2),(1,2),(2,2),(3,28)],4,48,[2,2,2,28],.g [.i .i64 0,.i .i64 0,.i .i64 0,.l []]⟩),
(60,60,⟨.st [(0,29),(11,2),(12,25),(13,59),(14,28)],15,296,[2,2,4,22,22,25,26,25,26,27,28,2,25,59,28],.g [.i .i64 0,.i .i64 0,.b false,.l [],.l [],.l [],.l [],.l [],.l [],.l [],.l [],.i .i64 0,.l [],.l [],.l []]⟩),
(62,62,⟨.st [(0,2),(1,60)],16,304,[2,2,2,4,22,22,25,26,25,26,27,28,2,25,59,28],.g [.i .i64 0,.i .i64 0,.i .i64 0,.b false,.l [],.l [],.l [],.l [],.l [],.l [],.l [],.l [],.i .i64 0,.l [],.l [],.l []]⟩),
(99,99,⟨.st [(0,28),(1,23)],4,80,[28,4,22,22],.g [.l [],.b false,.l [],.l []]⟩),
(111,111,⟨.st [(0,32)],13,248,[2,2,4,22,22,25,26,25,26,27,28,31,2],.g [.i .i64 0,.i .i64 0,.b false,.l [],.l [],.l [],.l [],.l [],.l [],.l [],.l [],.l [],.i .i64 0]⟩),
(129,129,⟨.st [(0,28),(1,2)],2,32,[28,2],.g [.l [],.i .i64 0]⟩),
(193,193,⟨.int .i8,1,1,[],.i .i8 0⟩),
(195,195,⟨.st [(0,34),(1,2),(2,193)],3,40,[34,2,193],.g [.l [],.i .i64 0,.i .i8 0]⟩),
(197,197,⟨.st [(0,195)],3,40,[34,2,193],.g [.l [],.i .i64 0,.i .i8 0]⟩),
(210,210,⟨.st [(0,34)],1,24,[34],.g [.l []]⟩),
(250,250,⟨.st [(0,9)],1,16,[9],.g [.s ⟨#[]⟩]⟩)]
def sigs : List (FuncId × List TypeId × List TypeId):=[
(2,[],[]),(3,[32,35],[4]),(4,[49,51],[4]),(5,[49,28,28,4],[4]),(6,[49,49,28,2,2],[4]),(7,[49,28],[4]),(8,[32],[4]),(9,[],[4]),
(10,[32,35],[32,40,2]),(11,[32],[4]),(12,[32],[4]),(13,[32,35,31,2],[32,40]),(14,[40,40],[4]),(15,[32,32],[4]),(16,[49,2],[29]),(17,[29],[32,2]),
(18,[29],[32,2]),(19,[2,2],[2]),(20,[28,2,2],[28]),(21,[29,28],[28,23,2]),(22,[28,28],[4]),(23,[23,23],[2]),(24,[29,29],[4]),(25,[29],[60,2]),
(26,[60,2],[60,28,2]),(27,[29,82],[78,32,2]),(28,[],[29]),(29,[32,35],[32,40]),(30,[32],[32]),(31,[29],[4]),(32,[60],[4]),(33,[29],[4]),
(34,[60],[4]),(35,[29,29],[4]),(36,[32,2],[32,40]),(37,[32,62],[32]),(38,[32,2],[2]),(39,[32,2],[32]),(40,[60],[28,23,2]),(41,[28,28],[2]),
(42,[60,60],[4]),(43,[49,2,4],[29]),(44,[29],[60,2]),(45,[29],[2]),(46,[29,28],[2]),(47,[29,28,59,2],[97]),(48,[23],[2]),(49,[23,23],[23]),
(50,[23,23],[4]),(51,[25,25],[4]),(52,[23,23],[23]),(53,[60,59],[2]),(54,[60,2],[4]),(55,[2,2],[23,2]),(56,[2],[23]),(57,[31],[31]),
(58,[110,2],[1,4]),(59,[29],[29]),(60,[25],[25]),(61,[59],[59]),(62,[28],[28]),(63,[29],[2]),(64,[28,2],[4]),(65,[23],[4]),
(66,[29],[2]),(67,[27,4],[4]),(68,[23],[4]),(69,[60,2],[4]),(70,[60,2],[4]),(71,[60,59],[2]),(72,[25,25],[4]),(73,[25,25,1],[4]),
(74,[23,23],[4]),(75,[26,26,1],[4]),(76,[27,27],[4]),(77,[28,28],[4]),(78,[23,23],[23]),(79,[25,25],[4]),(80,[128,2],[25]),(81,[128,2],[2]),
(82,[25,25],[4]),(83,[29],[2]),(84,[28,2],[4]),(85,[97,99,2],[97]),(86,[29,28,59,2],[134]),(87,[23],[23]),(88,[23],[23]),(89,[22,22],[4]),
(90,[4,22,22],[23]),(91,[22,22],[22]),(92,[23],[22]),(93,[12],[22]),(94,[2],[12]),(95,[110,35],[40,2]),(96,[110,35],[40,2]),(97,[110,35],[40,2]),
(98,[110,35],[40,2]),(99,[110,35],[40,2]),(100,[23],[23]),(101,[26],[26]),(102,[27],[27]),(103,[25,1],[25]),(104,[59,1],[59]),(105,[29],[4]),
(106,[23,25],[4]),(107,[29],[4]),(108,[23],[4]),(109,[29],[4]),(110,[29],[4]),(111,[29],[28,4]),(112,[29],[4]),(113,[27,4],[2]),
(114,[2,2],[23,2]),(115,[23],[4]),(116,[23],[2]),(117,[23,23],[2]),(118,[59],[28]),(119,[28,1],[4]),(120,[2],[4]),(121,[22,22],[4]),
(122,[22,22],[22]),(123,[22,22],[2]),(124,[22,22],[22]),(125,[2],[4]),(126,[99,99],[4]),(127,[28,2],[4]),(128,[22,22],[22]),(129,[22,22],[22,22]),
(130,[22],[4]),(131,[22],[22]),(132,[110,2],[2,4]),(133,[60,2],[60,28,2]),(134,[62],[34]),(135,[31,2,2],[31]),(136,[34,29],[62,4]),(137,[31,2,31],[31]),
(138,[60],[28,23,2]),(139,[22],[22]),(140,[26,1],[26]),(141,[25],[4]),(142,[25],[23]),(143,[23],[4]),(144,[25],[4]),(145,[25,25],[4]),
(146,[2],[4]),(147,[28],[]),(148,[25,25],[4]),(149,[2],[4,22]),(150,[23],[23]),(151,[22],[4]),(152,[22,22],[2]),(153,[],[22]),
(154,[22,22],[22]),(155,[23],[23]),(156,[23,23],[23]),(157,[28,2],[28]),(158,[28,1],[2]),(159,[22,2],[12]),(160,[2],[2]),(161,[22],[2]),
(162,[22,2],[22]),(163,[31,2,1],[2,4]),(164,[62,2],[2]),(165,[2,2],[2]),(166,[23,23],[23]),(167,[28,28],[2]),(168,[192,2],[]),(169,[192,28],[]),
(170,[192,25],[]),(171,[192,29],[]),(172,[225],[2]),(173,[225,34],[2,20]),(174,[225],[34]),(175,[34],[2]),(176,[209],[2]),(177,[209],[28]),
(178,[209],[25]),(179,[209],[2]),(180,[34,34],[4]),(182,[31,2],[]),(183,[],[23]),(184,[25,1],[4]),(185,[23],[4]),(186,[26],[25]),
(187,[23,23],[23]),(188,[23,23],[4]),(189,[22],[22]),(190,[22],[22]),(191,[22,22],[22,22]),(192,[22,2],[12]),(193,[23,23],[23]),(194,[23],[23]),
(195,[2],[4]),(196,[22,22],[22]),(197,[225,5],[20]),(198,[192,22],[]),(199,[225,2],[2,4]),(200,[225,2],[2]),(201,[209],[22]),(202,[31,2],[]),
(203,[25,1],[2]),(204,[25,2],[25]),(205,[22,155],[22,155]),(206,[22],[2]),(207,[22,2],[22]),(208,[22,22],[22]),(209,[22,2],[22]),(210,[22,22],[22]),
(211,[225],[]),(212,[34,2],[34]),(213,[31],[]),(214,[155],[2]),(215,[],[]),(216,[155],[2]),(237,[9],[20]),(241,[],[])]
theorem good : Good Tryz.prog tab:=o_X (by kernel_rfl)
theorem mixed : Tryz.prog.follows .mixedOrders = true:=by kernel_rfl
abbrev F (f : FuncId) (args : List Arg) (sh : Shape) (ys : List T) : Prop:=Go.Pl.Fn Tryz.prog tab f args sh ys
def bs (l : List Nat) : ByteArray:=⟨(l.map UInt8.ofNat).toArray⟩
theorem F_nf (C : Ctx) (ht : C.tab = tab) {f : FuncId} {fn : Func} {args : List Arg} {sh : Shape} {ys : List T}
  (hf : Tryz.prog.funcs[f]? = some fn) (hok : fnOk C fn args sh = true) (s : Sp) {N : Prop} (hN : d_3 Tryz.prog C (c_5 fn) s (EndQ C args (l_8 fn) sh ys) (a_T 0 args) = N) (h : N) : F f args sh ys :=
 m_v good mixed ht hf hok s hN h
end Go.Pq
namespace Go.Pl
def bxS (s : Nat) (x : T) (k : Nat) : List TypeId → List (Key × AV)
  | [] => []
  | t :: r => (cell s k, .t t (x.cell k)) :: bxS s x (k + 1) r
abbrev kI (n : Int) : T := T.i .i64 n
abbrev zo (s : Nat) (t : TypeId) : Shape := [(a_ s, t, false)]
abbrev zw (s : Nat) (t : TypeId) : Shape := [(a_ s, t, true)]
abbrev Z1 : Shape := [(comp 2 0, 23, false), (comp 2 1, 2, false)]
abbrev Z2 : Shape := [(comp 1 0, 4, false), (comp 1 1, 22, false)]
abbrev Z3 : Shape := [(comp 2 0, 22, false), (comp 2 1, 22, false)]
abbrev Z4 : Shape := [(comp 2 0, 22, false), (comp 2 1, 155, false)]
abbrev Z5 : Shape := [(comp 1 0, 28, false), (comp 1 1, 4, false)]
abbrev Z6 : Shape := [(a_ 2, 2, false), (cell 0 0, 28, false), (cell 0 1, 2, false)]
abbrev Z7 : Shape := [(a_ 2, 25, false), (cell 0 0, 28, false), (cell 0 1, 2, false)]
abbrev Z8 : Shape := [(comp 3 0, 2, false), (comp 3 1, 4, false)]
abbrev Z9 : Shape := [(comp 1 0, 60, false), (comp 1 1, 2, false)]
abbrev Z10 : Shape := [(comp 2 0, 32, false), (comp 2 1, 40, false)]
abbrev Z11 : Shape := [(comp 2 0, 32, false), (comp 2 1, 40, false), (comp 2 2, 2, false)]
abbrev Z12 : Shape := [(comp 1 0, 32, false), (comp 1 1, 2, false)]
abbrev Z13 : Shape := [(comp 2 0, 40, false), (comp 2 1, 2, false), (cell 0 0, 2, false), (cell 0 1, 2, false), (cell 0 2, 4, false), (cell 0 3, 22, false), (cell 0 4, 22, false), (cell 0 5, 25, false), (cell 0 6, 26, false), (cell 0 7, 25, false), (cell 0 8, 26, false), (cell 0 9, 27, false), (cell 0 10, 28, false), (cell 0 11, 31, true), (cell 0 12, 2, false)]
abbrev Z14 : Shape := [(comp 2 0, 2, false), (comp 2 1, 4, false), (cell 0 0, 2, false), (cell 0 1, 2, false), (cell 0 2, 4, false), (cell 0 3, 22, false), (cell 0 4, 22, false), (cell 0 5, 25, false), (cell 0 6, 26, false), (cell 0 7, 25, false), (cell 0 8, 26, false), (cell 0 9, 27, false), (cell 0 10, 28, false), (cell 0 11, 31, true), (cell 0 12, 2, false)]
abbrev Z15 : Shape := [(comp 1 0, 28, false), (comp 1 1, 23, false), (comp 1 2, 2, false)]
abbrev Z16 : Shape := [(comp 2 0, 60, false), (comp 2 1, 28, false), (comp 2 2, 2, false)]
abbrev Z17 : Shape := [(comp 2 0, 78, false), (comp 2 1, 32, false), (comp 2 2, 2, false)]
abbrev Bd (x y : Int) : Prop := 0 ≤ x ∧ x < y
abbrev Rm (x k : Nat) : Prop := x * k ≤ room ∧ x ≤ 9223372036854775807
abbrev E3 (p q : T) (r : Prop) : Prop := p.cell 0 = q.cell 0 ∧ p.cell 1 = q.cell 1 ∧ p.cell 2 = q.cell 2 ∧ r
abbrev E5 (p q : T) (r : Prop) : Prop := p.cell 0 = q.cell 0 ∧ p.cell 1 = q.cell 1 ∧ p.cell 2 = q.cell 2 ∧ p.cell 3 = q.cell 3 ∧ p.cell 4 = q.cell 4 ∧ r
abbrev E6 (p q : T) (r : Prop) : Prop := p.cell 0 = q.cell 0 ∧ p.cell 1 = q.cell 1 ∧ p.cell 2 = q.cell 2 ∧ p.cell 3 = q.cell 3 ∧ p.cell 4 = q.cell 4 ∧ p.cell 5 = q.cell 5 ∧ r
abbrev E11 (p q : T) (r : Prop) : Prop := p.cell 0 = q.cell 0 ∧ p.cell 1 = q.cell 1 ∧ p.cell 2 = q.cell 2 ∧ p.cell 3 = q.cell 3 ∧ p.cell 4 = q.cell 4 ∧ p.cell 5 = q.cell 5 ∧ p.cell 6 = q.cell 6 ∧ p.cell 7 = q.cell 7 ∧ p.cell 8 = q.cell 8 ∧ p.cell 9 = q.cell 9 ∧ p.cell 10 = q.cell 10 ∧ r
abbrev E13 (p q : T) (r : Prop) : Prop := p.cell 0 = q.cell 0 ∧ p.cell 1 = q.cell 1 ∧ p.cell 2 = q.cell 2 ∧ p.cell 3 = q.cell 3 ∧ p.cell 4 = q.cell 4 ∧ p.cell 5 = q.cell 5 ∧ p.cell 6 = q.cell 6 ∧ p.cell 7 = q.cell 7 ∧ p.cell 8 = q.cell 8 ∧ p.cell 9 = q.cell 9 ∧ p.cell 10 = q.cell 10 ∧ p.cell 11 = q.cell 11 ∧ p.cell 12 = q.cell 12 ∧ r
abbrev E15 (p q : T) (r : Prop) : Prop := p.cell 0 = q.cell 0 ∧ p.cell 1 = q.cell 1 ∧ p.cell 2 = q.cell 2 ∧ p.cell 3 = q.cell 3 ∧ p.cell 4 = q.cell 4 ∧ p.cell 5 = q.cell 5 ∧ p.cell 6 = q.cell 6 ∧ p.cell 7 = q.cell 7 ∧ p.cell 8 = q.cell 8 ∧ p.cell 9 = q.cell 9 ∧ p.cell 10 = q.cell 10 ∧ p.cell 11 = q.cell 11 ∧ p.cell 12 = q.cell 12 ∧ p.cell 13 = q.cell 13 ∧ p.cell 14 = q.cell 14 ∧ r
abbrev G3 (p : T) : T := T.g [p.cell 0, p.cell 1, p.cell 2]
abbrev G5 (p : T) : T := T.g [p.cell 0, p.cell 1, p.cell 2, p.cell 3, p.cell 4]
abbrev G8 (p : T) : T := T.g [p.cell 0, p.cell 1, p.cell 2, p.cell 3, p.cell 4, p.cell 5, p.cell 6, p.cell 7]
abbrev G11 (p : T) : T := T.g [p.cell 0, p.cell 1, p.cell 2, p.cell 3, p.cell 4, p.cell 5, p.cell 6, p.cell 7, p.cell 8, p.cell 9, p.cell 10]
abbrev G13 (p : T) : T := T.g [p.cell 0, p.cell 1, p.cell 2, p.cell 3, p.cell 4, p.cell 5, p.cell 6, p.cell 7, p.cell 8, p.cell 9, p.cell 10, p.cell 11, p.cell 12]
abbrev G15 (p : T) : T := T.g [p.cell 0, p.cell 1, p.cell 2, p.cell 3, p.cell 4, p.cell 5, p.cell 6, p.cell 7, p.cell 8, p.cell 9, p.cell 10, p.cell 11, p.cell 12, p.cell 13, p.cell 14]
abbrev Y1 : List TypeId := [4, 22, 22]
abbrev Y2 : List TypeId := [2, 2, 4, 22, 22, 25, 26, 25, 26, 27, 28]
abbrev Y3 : List TypeId := [2, 2, 4, 22, 22, 25, 26, 25, 26, 27, 28, 2, 25, 59, 28]
abbrev Y4 : List TypeId := [2, 2, 4, 22, 22, 25, 26, 25, 26, 27, 28, 31, 2]
abbrev Y5 : List TypeId := [2, 2, 2, 28, 34]
abbrev Y6 : List TypeId := [2, 2, 28]
abbrev Y7 : List TypeId := [2, 2, 4, 22, 22, 25]
abbrev X1 := Nat × Int × List T
abbrev X2 := Nat × T × T × List T
abbrev X3 := Nat × T × T × T × List T
abbrev X4 := List T × Nat × Nat
abbrev X5 := Nat × Int × Int × Nat
abbrev X6 := List T × Nat × Nat × Nat
abbrev X7 := List T × List T × Nat × Nat × Nat
abbrev X8 := Int × T × Nat
abbrev X9 := T × T × Nat
abbrev X10 := T × List T × List T × Bool × Nat
abbrev X11 := T × List T × List T × T × Nat × Nat
abbrev X12 := List T × List T × Bool × Nat
abbrev X13 := List T × List T × List T × T × Nat × Nat
abbrev X14 := T × List T × Nat × T × Nat × T
abbrev X15 := T × List T × Nat
abbrev X16 := T × List T × List T × List T × List T × List T × Nat × Nat
abbrev X17 := Nat × Nat × T × Bool
abbrev X18 := Bool × Nat × T
abbrev X19 := List T × List T × List T × T × Bool × Nat
abbrev X20 := T × T × T × T × T × Nat
abbrev R1 {α0 : Type} (p0 : α0) (r : Prop) : Prop := p0 = p0 ∧ T.b false = T.b false ∧ r
abbrev R2 {α0 : Type} (p0 : α0) (r : Prop) : Prop := p0 = p0 ∧ True ∧ T.b false = T.b false ∧ T.l [] = T.l [] ∧ T.l [] = T.l [] ∧ True ∧ r
abbrev R3 {α0 : Type} (p0 : α0) {α1 : Type} (p1 : α1) (r : Prop) : Prop := p0 = p0 ∧ p1 = p1 ∧ T.b false = T.b false ∧ r
abbrev R4 (p0 : T) (r : Prop) : Prop := p0 = p0 ∧ True ∧ E11 p0 p0 (T.b false = T.b false ∧ r)
abbrev R5 {α0 : Type} (p0 : α0) {α1 : Type} (p1 : α1) (r : Prop) : Prop := p0 = p0 ∧ p1 = p1 ∧ T.l [] = T.l [] ∧ r
abbrev R6 {α0 : Type} (p0 : α0) (r : Prop) : Prop := p0 = p0 ∧ T.i .i64 0 = T.i .i64 0 ∧ r
abbrev R7 {α0 : Type} (p0 : α0) {α1 : Type} (p1 : α1) (r : Prop) : Prop := p0 = p0 ∧ p1 = p1 ∧ T.l [] = T.l [] ∧ T.l [] = T.l [] ∧ r
abbrev R8 {α0 : Type} (p0 : α0) {α1 : Type} (p1 : α1) (r : Prop) : Prop := p0 = p0 ∧ p1 = p1 ∧ T.i .i64 0 = T.i .i64 0 ∧ r
abbrev R9 {α0 : Type} (p0 : α0) {α1 : Type} (p1 : α1) {α2 : Type} (p2 : α2) {α3 : Type} (p3 : α3) {α4 : Type} (p4 : α4) (p5 : T) (p6 : Nat) (r : Prop) : Prop := p0 = p0 ∧ p1 = p1 ∧ p2 = p2 ∧ T.l [] = T.l [] ∧ p3 = p3 ∧ p4 = p4 ∧ p5 = p5 ∧ T.i .i64 ((↑p6 : Int) - (1 : Int)) = T.i .i64 ((↑p6 : Int) - (1 : Int)) ∧ T.i .i64 (addI .i64 ((↑p6 : Int) - (1 : Int)) (lenOf p5.list)) = T.i .i64 (addI .i64 ((↑p6 : Int) - (1 : Int)) (lenOf p5.list)) ∧ r
abbrev R10 (p0 : T) (r : Prop) : Prop := p0 = p0 ∧ T.i .i64 (lenOf p0.list) = T.i .i64 (lenOf p0.list) ∧ r
abbrev R11 (p0 : T) (p1 : Nat) (r : Prop) : Prop := T.i .i64 (lenOf p0.list) = T.i .i64 (lenOf p0.list) ∧ T.i .i64 ↑p1 = T.i .i64 ↑p1 ∧ T.i .i64 ↑p1 = T.i .i64 ↑p1 ∧ r
abbrev R12 (p0 : T) {α1 : Type} (p1 : α1) (p2 : Nat) (p3 : Nat) (r : Prop) : Prop := p0 = p0 ∧ True ∧ E11 p0 p0 (T.b false = T.b false ∧ p1 = p1 ∧ T.i .i64 ↑p2 = T.i .i64 ↑p2 ∧ T.i .i64 ↑p3 = T.i .i64 ↑p3 ∧ r)
abbrev R13 (p0 : T) (r : Prop) : Prop := p0 = p0 ∧ True ∧ E11 p0 p0 (T.b false = T.b false ∧ p0.cell 1 = p0.cell 1 ∧ r)
abbrev R14 (p0 : T) (r : Prop) : Prop := p0 = p0 ∧ True ∧ E11 p0 p0 (T.i .i64 0 = T.i .i64 0 ∧ r)
abbrev R15 (p0 : T) (p1 : Nat) (r : Prop) : Prop := p0 = p0 ∧ True ∧ E11 p0 p0 (T.i .i64 0 = T.i .i64 0 ∧ T.i .i64 ↑p1 = T.i .i64 ↑p1 ∧ r)
abbrev R16 (p0 : T) (p1 : Nat) (r : Prop) : Prop := p0 = p0 ∧ True ∧ E11 p0 p0 (T.b false = T.b false ∧ p0.cell 1 = p0.cell 1 ∧ T.i .i64 ↑p1 = T.i .i64 ↑p1 ∧ T.i .i64 ↑p1 = T.i .i64 ↑p1 ∧ T.i .i64 ↑p1 = T.i .i64 ↑p1 ∧ r)
abbrev R17 {α0 : Type} (p0 : α0) (r : Prop) : Prop := p0 = p0 ∧ T.l [] = T.l [] ∧ r
abbrev R18 (p0 : T) {α1 : Type} (p1 : α1) (r : Prop) : Prop := p0 = p0 ∧ p1 = p1 ∧ True ∧ E15 p0 p0 (r)
abbrev R19 (p0 : T) {α1 : Type} (p1 : α1) (p2 : Nat) (r : Prop) : Prop := p0 = p0 ∧ p1 = p1 ∧ True ∧ E15 p0 p0 (T.i .i64 ↑p2 = T.i .i64 ↑p2 ∧ r)
abbrev R20 (p0 : T) {α1 : Type} (p1 : α1) (r : Prop) : Prop := p0 = p0 ∧ p1 = p1 ∧ True ∧ E15 p0 p0 (T.i .i64 0 = T.i .i64 0 ∧ r)
abbrev R21 (p0 : T) (p1 : Nat) (r : Prop) : Prop := p0 = p0 ∧ T.i .i64 (lenOf p0.list) = T.i .i64 (lenOf p0.list) ∧ T.i .i64 ↑p1 = T.i .i64 ↑p1 ∧ T.i .i64 ↑p1 = T.i .i64 ↑p1 ∧ (p0.list.getD (↑p1 : Int).toNat T.u).cell 0 = (p0.list.getD (↑p1 : Int).toNat T.u).cell 0 ∧ r
abbrev R22 (p0 : T) {α1 : Type} (p1 : α1) (r : Prop) : Prop := p0 = p0 ∧ p1 = p1 ∧ T.i .i64 0 = T.i .i64 0 ∧ T.i .i64 (lenOf p0.list) = T.i .i64 (lenOf p0.list) ∧ r
abbrev R23 {α0 : Type} (p0 : α0) {α1 : Type} (p1 : α1) (r : Prop) : Prop := p0 = p0 ∧ p1 = p1 ∧ T.b false = T.b false ∧ True ∧ r
abbrev R24 (p0 : T) (r : Prop) : Prop := T.i .i64 0 = T.i .i64 0 ∧ T.i .i64 (lenOf p0.list) = T.i .i64 (lenOf p0.list) ∧ r
abbrev R25 (p0 : T) (r : Prop) : Prop := T.b false = T.b false ∧ p0 = p0 ∧ T.i .i64 (lenOf p0.list) = T.i .i64 (lenOf p0.list) ∧ r
abbrev R26 (p0 : T) {α1 : Type} (p1 : α1) (r : Prop) : Prop := p0 = p0 ∧ p1 = p1 ∧ T.b false = T.b false ∧ T.i .i64 (lenOf p0.list) = T.i .i64 (lenOf p0.list) ∧ r
abbrev R27 (p0 : T) {α1 : Type} (p1 : α1) (r : Prop) : Prop := p0 = p0 ∧ p1 = p1 ∧ T.i .i64 0 = T.i .i64 0 ∧ p0 = p0 ∧ T.i .i64 (lenOf p0.list) = T.i .i64 (lenOf p0.list) ∧ r
abbrev R28 (p0 : T) (r : Prop) : Prop := T.i .i64 0 = T.i .i64 0 ∧ T.b false = T.b false ∧ T.i .i64 (lenOf p0.list) = T.i .i64 (lenOf p0.list) ∧ r
abbrev R29 {α0 : Type} (p0 : α0) {α1 : Type} (p1 : α1) {α2 : Type} (p2 : α2) (r : Prop) : Prop := p0 = p0 ∧ p1 = p1 ∧ p2 = p2 ∧ T.l [] = T.l [] ∧ r
abbrev R30 (p0 : T) (r : Prop) : Prop := p0 = p0 ∧ True ∧ E11 p0 p0 (T.b false = T.b false ∧ p0.cell 1 = p0.cell 1 ∧ p0.cell 1 = p0.cell 1 ∧ r)
abbrev R31 (p0 : T) (r : Prop) : Prop := p0.cell 11 = p0.cell 11 ∧ T.i .i64 (lenOf (p0.cell 11).list) = T.i .i64 (lenOf (p0.cell 11).list) ∧ r
abbrev R32 (p0 : T) (r : Prop) : Prop := p0 = p0 ∧ True ∧ E13 p0 p0 (T.b false = T.b false ∧ r)
abbrev R33 (p0 : T) (r : Prop) : Prop := p0 = p0 ∧ True ∧ E15 p0 p0 (T.b false = T.b false ∧ p0.cell 1 = p0.cell 1 ∧ r)
abbrev R34 (p0 : T) (r : Prop) : Prop := p0.cell 12 = p0.cell 12 ∧ T.i .i64 (lenOf (p0.cell 12).list) = T.i .i64 (lenOf (p0.cell 12).list) ∧ r
abbrev R35 (p0 : T) (r : Prop) : Prop := p0 = p0 ∧ True ∧ E15 p0 p0 (T.b false = T.b false ∧ r)
abbrev R36 (p0 : T) {α1 : Type} (p1 : α1) (r : Prop) : Prop := p0 = p0 ∧ p1 = p1 ∧ True ∧ E15 p0 p0 (True ∧ T.i .i64 0 = T.i .i64 0 ∧ T.i .i64 0 = T.i .i64 0 ∧ T.b false = T.b false ∧ T.l [] = T.l [] ∧ T.l [] = T.l [] ∧ T.l [] = T.l [] ∧ T.l [] = T.l [] ∧ T.l [] = T.l [] ∧ T.l [] = T.l [] ∧ T.l [] = T.l [] ∧ T.l [] = T.l [] ∧ T.i .i64 0 = T.i .i64 0 ∧ T.l [] = T.l [] ∧ T.l [] = T.l [] ∧ T.l [] = T.l [] ∧ T.l [] = T.l [] ∧ T.i .i64 0 = T.i .i64 0 ∧ True ∧ r)
abbrev R37 (p0 : T) {α1 : Type} (p1 : α1) (p2 : T) {α3 : Type} (p3 : α3) {α4 : Type} (p4 : α4) (p5 : Bool) (p6 : Nat) (r : Prop) : Prop := p0 = p0 ∧ p1 = p1 ∧ True ∧ E15 p0 p0 (True ∧ T.i .i64 0 = T.i .i64 0 ∧ T.i .i64 0 = T.i .i64 0 ∧ T.b false = T.b false ∧ T.l [] = T.l [] ∧ T.l [] = T.l [] ∧ T.l [] = T.l [] ∧ T.l [] = T.l [] ∧ T.l [] = T.l [] ∧ T.l [] = T.l [] ∧ T.l [] = T.l [] ∧ T.l [] = T.l [] ∧ T.i .i64 0 = T.i .i64 0 ∧ T.l [] = T.l [] ∧ T.l [] = T.l [] ∧ T.l [] = T.l [] ∧ T.l [] = T.l [] ∧ T.i .i64 0 = T.i .i64 0 ∧ True ∧ E11 p2 p2 (True ∧ E11 p2 p2 (T.i .i64 (addI .i64 (p0.cell 11).int (1 : Int)) = T.i .i64 (addI .i64 (p0.cell 11).int (1 : Int)) ∧ p3 = p3 ∧ p4 = p4 ∧ T.l [] = T.l [] ∧ T.b p5 = T.b p5 ∧ p2.cell 1 = p2.cell 1 ∧ T.i .i64 ↑p6 = T.i .i64 ↑p6 ∧ T.i .i64 ↑p6 = T.i .i64 ↑p6 ∧ True ∧ T.l [] = T.l [] ∧ r)))
abbrev R38 (p0 : T) {α1 : Type} (p1 : α1) (p2 : T) {α3 : Type} (p3 : α3) {α4 : Type} (p4 : α4) (p5 : Bool) (p6 : Nat) (r : Prop) : Prop := p0 = p0 ∧ p1 = p1 ∧ True ∧ E15 p0 p0 (True ∧ T.i .i64 0 = T.i .i64 0 ∧ T.i .i64 0 = T.i .i64 0 ∧ T.b false = T.b false ∧ T.l [] = T.l [] ∧ T.l [] = T.l [] ∧ T.l [] = T.l [] ∧ T.l [] = T.l [] ∧ T.l [] = T.l [] ∧ T.l [] = T.l [] ∧ T.l [] = T.l [] ∧ T.l [] = T.l [] ∧ T.i .i64 0 = T.i .i64 0 ∧ T.l [] = T.l [] ∧ T.l [] = T.l [] ∧ T.l [] = T.l [] ∧ T.l [] = T.l [] ∧ T.i .i64 0 = T.i .i64 0 ∧ True ∧ E11 p2 p2 (True ∧ E11 p2 p2 (T.i .i64 (addI .i64 (p0.cell 11).int (1 : Int)) = T.i .i64 (addI .i64 (p0.cell 11).int (1 : Int)) ∧ p3 = p3 ∧ p4 = p4 ∧ T.l [] = T.l [] ∧ T.b p5 = T.b p5 ∧ p2.cell 1 = p2.cell 1 ∧ T.i .i64 ↑p6 = T.i .i64 ↑p6 ∧ T.i .i64 ↑p6 = T.i .i64 ↑p6 ∧ True ∧ r)))
abbrev R39 (p0 : T) {α1 : Type} (p1 : α1) (r : Prop) : Prop := p0 = p0 ∧ p1 = p1 ∧ True ∧ E15 p0 p0 (True ∧ T.i .i64 0 = T.i .i64 0 ∧ T.i .i64 0 = T.i .i64 0 ∧ T.b false = T.b false ∧ T.l [] = T.l [] ∧ T.l [] = T.l [] ∧ T.l [] = T.l [] ∧ T.l [] = T.l [] ∧ T.l [] = T.l [] ∧ T.l [] = T.l [] ∧ T.l [] = T.l [] ∧ T.l [] = T.l [] ∧ T.i .i64 0 = T.i .i64 0 ∧ T.l [] = T.l [] ∧ T.l [] = T.l [] ∧ T.l [] = T.l [] ∧ T.l [] = T.l [] ∧ T.i .i64 0 = T.i .i64 0 ∧ True ∧ E11 p0 p0 (True ∧ E11 p0 p0 (T.i .i64 (addI .i64 (p0.cell 11).int (1 : Int)) = T.i .i64 (addI .i64 (p0.cell 11).int (1 : Int)) ∧ r)))
abbrev R40 {α0 : Type} (p0 : α0) (p1 : Bool) (p2 : Nat) (r : Prop) : Prop := T.l [] = T.l [] ∧ p0 = p0 ∧ T.b p1 = T.b p1 ∧ T.i .i64 ↑p2 = T.i .i64 ↑p2 ∧ True ∧ T.l [] = T.l [] ∧ r
abbrev R41 (p0 : T) {α1 : Type} (p1 : α1) {α2 : Type} (p2 : α2) (r : Prop) : Prop := p0 = p0 ∧ p1 = p1 ∧ True ∧ E15 p0 p0 (True ∧ T.i .i64 0 = T.i .i64 0 ∧ T.i .i64 0 = T.i .i64 0 ∧ T.b false = T.b false ∧ T.l [] = T.l [] ∧ T.l [] = T.l [] ∧ T.l [] = T.l [] ∧ T.l [] = T.l [] ∧ T.l [] = T.l [] ∧ T.l [] = T.l [] ∧ T.l [] = T.l [] ∧ T.l [] = T.l [] ∧ T.i .i64 0 = T.i .i64 0 ∧ T.l [] = T.l [] ∧ T.l [] = T.l [] ∧ T.l [] = T.l [] ∧ T.l [] = T.l [] ∧ T.i .i64 0 = T.i .i64 0 ∧ True ∧ E11 p0 p0 (True ∧ E11 p0 p0 (T.i .i64 (addI .i64 (p0.cell 11).int (1 : Int)) = T.i .i64 (addI .i64 (p0.cell 11).int (1 : Int)) ∧ p2 = p2 ∧ r)))
abbrev R42 {α0 : Type} (p0 : α0) (p1 : Bool) (p2 : Nat) (r : Prop) : Prop := T.l [] = T.l [] ∧ p0 = p0 ∧ T.b p1 = T.b p1 ∧ T.i .i64 ↑p2 = T.i .i64 ↑p2 ∧ True ∧ r
abbrev R43 (p0 : T) (r : Prop) : Prop := p0 = p0 ∧ True ∧ E15 p0 p0 (T.l [] = T.l [] ∧ True ∧ T.b false = T.b false ∧ T.l [] = T.l [] ∧ T.l [] = T.l [] ∧ T.i .i64 0 = T.i .i64 0 ∧ True ∧ r)
abbrev R44 (p0 : T) (r : Prop) : Prop := p0 = p0 ∧ True ∧ E5 p0 p0 (True ∧ T.i .i64 0 = T.i .i64 0 ∧ T.i .i64 0 = T.i .i64 0 ∧ T.l [] = T.l [] ∧ T.l [] = T.l [] ∧ T.l [] = T.l [] ∧ T.b false = T.b false ∧ T.l [] = T.l [] ∧ T.l [] = T.l [] ∧ T.i .i64 0 = T.i .i64 0 ∧ r)
abbrev R45 (p0 : T) {α1 : Type} (p1 : α1) (r : Prop) : Prop := p0 = p0 ∧ p1 = p1 ∧ True ∧ E11 p0 p0 (T.l [] = T.l [] ∧ True ∧ T.i .i64 0 = T.i .i64 0 ∧ T.i .i64 0 = T.i .i64 0 ∧ T.b false = T.b false ∧ T.l [] = T.l [] ∧ T.l [] = T.l [] ∧ T.l [] = T.l [] ∧ T.l [] = T.l [] ∧ T.l [] = T.l [] ∧ T.l [] = T.l [] ∧ T.l [] = T.l [] ∧ T.l [] = T.l [] ∧ T.l [] = T.l [] ∧ T.i .i64 0 = T.i .i64 0 ∧ T.i .i64 0 = T.i .i64 0 ∧ True ∧ r)
abbrev R46 (p0 : T) (r : Prop) : Prop := (p0.cell 12).cell 0 = (p0.cell 12).cell 0 ∧ p0.cell 11 = p0.cell 11 ∧ T.i .i64 (lenOf (p0.cell 11).list) = T.i .i64 (lenOf (p0.cell 11).list) ∧ r
abbrev R47 (p0 : T) (r : Prop) : Prop := p0 = p0 ∧ True ∧ E13 p0 p0 (True ∧ T.i .i64 0 = T.i .i64 0 ∧ T.i .i64 0 = T.i .i64 0 ∧ T.b false = T.b false ∧ T.l [] = T.l [] ∧ T.l [] = T.l [] ∧ T.l [] = T.l [] ∧ T.l [] = T.l [] ∧ T.l [] = T.l [] ∧ T.l [] = T.l [] ∧ T.l [] = T.l [] ∧ T.l [] = T.l [] ∧ T.l [] = T.l [] ∧ T.i .i64 0 = T.i .i64 0 ∧ True ∧ r)
abbrev R48 (p0 : T) {α1 : Type} (p1 : α1) {α2 : Type} (p2 : α2) (r : Prop) : Prop := p0 = p0 ∧ p1 = p1 ∧ p2 = p2 ∧ True ∧ E3 p0 p0 (True ∧ T.i .i64 0 = T.i .i64 0 ∧ T.i .i64 0 = T.i .i64 0 ∧ T.b false = T.b false ∧ T.l [] = T.l [] ∧ T.l [] = T.l [] ∧ T.l [] = T.l [] ∧ T.l [] = T.l [] ∧ T.l [] = T.l [] ∧ T.l [] = T.l [] ∧ T.l [] = T.l [] ∧ T.l [] = T.l [] ∧ True ∧ r)
abbrev R49 (p0 : T) {α1 : Type} (p1 : α1) {α2 : Type} (p2 : α2) {α3 : Type} (p3 : α3) {α4 : Type} (p4 : α4) {α5 : Type} (p5 : α5) (p6 : Nat) (r : Prop) : Prop := True ∧ True ∧ E6 p0 p0 (p1 = p1 ∧ p2 = p2 ∧ p3 = p3 ∧ p4 = p4 ∧ p5 = p5 ∧ T.i .i64 ↑p6 = T.i .i64 ↑p6 ∧ r)
abbrev R50 (p0 : T) {α1 : Type} (p1 : α1) {α2 : Type} (p2 : α2) (r : Prop) : Prop := p0 = p0 ∧ p1 = p1 ∧ p2 = p2 ∧ True ∧ E3 p0 p0 (True ∧ T.i .i64 0 = T.i .i64 0 ∧ T.i .i64 0 = T.i .i64 0 ∧ T.b false = T.b false ∧ T.l [] = T.l [] ∧ T.l [] = T.l [] ∧ T.l [] = T.l [] ∧ T.l [] = T.l [] ∧ T.l [] = T.l [] ∧ T.l [] = T.l [] ∧ T.l [] = T.l [] ∧ T.l [] = T.l [] ∧ True ∧ p0.cell 2 = p0.cell 2 ∧ r)
abbrev R51 {α0 : Type} (p0 : α0) (p1 : Nat) (r : Prop) : Prop := p0 = p0 ∧ T.i .i64 ↑p1 = T.i .i64 ↑p1 ∧ r
abbrev R52 (p0 : T) (r : Prop) : Prop := True ∧ True ∧ E6 p0 p0 (r)
abbrev R53 {α0 : Type} (p0 : α0) {α1 : Type} (p1 : α1) (p2 : Nat) {α3 : Type} (p3 : α3) (p4 : Bool) (r : Prop) : Prop := p0 = p0 ∧ p1 = p1 ∧ T.i .i64 ↑p2 = T.i .i64 ↑p2 ∧ p3 = p3 ∧ T.b p4 = T.b p4 ∧ r
abbrev R54 (p0 : T) {α1 : Type} (p1 : α1) {α2 : Type} (p2 : α2) (r : Prop) : Prop := True ∧ True ∧ E6 p0 p0 (p1 = p1 ∧ p2 = p2 ∧ r)
abbrev R55 (p0 : T) {α1 : Type} (p1 : α1) (r : Prop) : Prop := p0 = p0 ∧ p1 = p1 ∧ True ∧ E3 p0 p0 (T.b false = T.b false ∧ True ∧ r)
theorem h_y {P : Program} {tab : Tab} {f : FuncId} {fn : Func} {c : Code} {args : List Arg} {sh : Shape} {ys : List T} (hf : P.funcs[f]? = some fn) (hname : (fn.name == "runtime.NumGoroutine") = false) (hb : fn.body = some c)
  (h : ∀ (w : World) (A : Nat → Prop) (vals : Array Value) (γ : Key → Option Nat),vals.size = args.length → Rel tab ⟨w.heap.size,w,A,fun b => ∃ k,γ k = some b⟩ vals w (a_T 0 args) γ →
   Calls P f vals w fun e w' => ∃ v,e = .returned v ∧ ∃ γ',Rel tab ⟨w.heap.size,w,A,fun b => ∃ k,γ k = some b⟩ (vals.push v) w' (b_j args sh ys) γ') : Fn P tab f args sh ys:=by
 refine ⟨fun w A vals γ hsz hr => ?_⟩;have hcall : (callFunc f vals).run P w = .ok (.enter f vals) w:=by
  have : ¬ fn.name = "runtime.NumGoroutine" := by simpa using hname
  simp [callFunc,hf,this,hb]
 unfold CallsF;rw [hcall];exact h w A vals γ hsz hr
theorem n_R {tab : Tab} {w w' : World} {A : Nat → Prop} {vals : Array Value} {γ : Key → Option Nat} {args : List Arg} {c : TypeId} {v : Value} {g : Option Nat} {xs : List T} {σ : St}
  (hr : Rel tab ⟨w.heap.size,w,A,fun b => ∃ k,γ k = some b⟩ vals w σ γ) (hsz : vals.size = args.length) (hb : b_s 0 args = [])
  (hos : w'.os = w.os) (htape : w'.tape = w.tape) (hout : w'.output = w.output) (hsize : w.heap.size ≤ w'.heap.size) (hold : ∀ b,b < w.heap.size → w'.heap[b]? = w.heap[b]?)
  (hg : ∀ b,g = some b → (∃ k,γ k = some b) ∨ (w.heap.size ≤ b ∧ b < w'.heap.size))
  (hO : ∀ O,(∀ b,O b → A b ∨ g = some b) → Own tab w' O c v g xs) :
  ∃ γ',Rel tab ⟨w.heap.size,w,A,fun b => ∃ k,γ k = some b⟩ (vals.push v) w' (b_j args [(a_ args.length,c,true)] [.l xs]) γ' := by
 have hst : b_j args [(a_ args.length,c,true)] [.l xs] = [(a_ args.length,top (.own c 0 xs))]:=by
  unfold b_j;rw [hb];rfl
 rw [hst];have hget : ∀ k e,St.get [(a_ args.length,top (.own c 0 xs))] k = some e → k = a_ args.length ∧ e = top (.own c 0 xs):=by
  intro k e he;simp only [St.get] at he;split at he
  ·rename_i hk;exact ⟨(Key.a_b.1 hk).symm,(Option.some.inj he).symm⟩
  ·cases he
 have hγ : ∀ k b,setG (fun _ => none) (a_ args.length) g k = some b → k = a_ args.length ∧ g = some b:=by
  intro k b hk;unfold setG at hk;split at hk
  ·rename_i e;exact ⟨e,hk⟩
  ·cases hk
 refine ⟨setG (fun _ => none) (a_ args.length) g,⟨hos,htape,hout,hsize,fun b hb' _ => hold b hb',hr.low,?_,?_,?_,?_,?_⟩⟩
 ·intro k k' b h1 h2
  rw [(hγ k b h1).1,(hγ k' b h2).1]
 ·intro k b h1
  rcases hg b (hγ k b h1).2 with ⟨k0,h0⟩ | ⟨h0,h0'⟩
  ·obtain ⟨q1,q2,q3⟩:=hr.blk k0 b h0
   exact ⟨Nat.lt_of_lt_of_le q1 hsize,q2,fun _ => ⟨k0,h0⟩⟩
  ·exact ⟨h0',fun q => by have:=(hr.low b q).1;simp only at this;omega,fun q => by simp only at q;omega⟩
 ·intro s n e he
  exact absurd (hget _ _ he).1.symm f_
 ·intro s j e he
  exact absurd (hget _ _ he).1.symm x_
 ·intro k e he
  obtain ⟨rfl,rfl⟩:=hget _ _ he;refine ⟨v,by rw [i_,← hsz];simp,fun _ => ?_,fun q => absurd trivial q⟩
  show Own tab w' _ c v (setG (fun _ => none) (a_ args.length) g (a_ args.length)) xs
  rw [a_e];exact hO _ fun b hb' => hb'.imp id fun ⟨k,hk⟩ => (hγ k b hk).2
theorem m_u {P : Program} {tab : Tab} (hG : Good P tab) {f : FuncId} {fn : Func} {cd : Code} (hf : P.funcs[f]? = some fn) (hname : (fn.name == "runtime.NumGoroutine") = false) (hb : fn.body = some cd)
  {c ci e ce : TypeId} {ti te tn : TI} (hc : tab.at c = some (c,ti)) (hk : ti.k = .sl e) (he : tab.at e = some (ce,te)) (hi : tab.at ci = some (ci,tn)) (hin : tn.k = .int .i64) {i0 : TypeInfo} {z : Value}
  (hz : z.cells.size = te.cells) (hi0 : i0.size = te.cells)
  (room : ∀ (base : Option Go.Addr) (l c n : Nat) (w : World),l ≤ c → c ≤ 9223372036854775807 → n ≤ 9223372036854775807 → l + n ≤ c →
   Calls P f #[.slice base l c,.int .i64 n] w fun r w' => r = .returned (.slice base l c) ∧ w' = w)
  (grow : ∀ (base : Option Go.Addr) (l c n : Nat) (cs : List Value) (w : World),l ≤ c → c < l + n → (l + n) * i0.bytes ≤ 140737488355328 → l + n ≤ 4611686018427387904 →
   cs.length = c * i0.size → (base = none → c = 0) → (∀ a,base = some a → ∀ j v,cs[j]? = some v → w.cell? (a.add j) = some v) →
   Calls P f #[.slice base l c,.int .i64 n] w fun r w' => r = .returned (.slice (some ⟨w.heap.size,0,none⟩) l (grownCap w (l + n) c e)) ∧
    w' = w.drew.alloc (.cells (cs.toArray ++ Builtin.zeroCells z.cells (l + n - c) ++ Builtin.zeroCells z.cells (grownCap w (l + n) c e - (l + n))) e))
  (n : Nat) (hn : n * i0.bytes ≤ 140737488355328) (hn2 : n ≤ 4611686018427387904) : Fn P tab f [.own c [],.t ci (.i .i64 (n : Int))] [(a_ 2,c,true)] [.l []]:=by
 refine h_y hf hname hb fun w A vals γ hsz hr => ?_
 have hpos:=(hG _ _ _ he).pos;obtain ⟨v0,hv0,hr0,-⟩:=hr.ent (a_ 0) (top (.own c 0 [])) rfl;obtain ⟨v1,hv1,hr1,-⟩:=hr.ent (a_ 1) (top (.t ci (.i .i64 (n : Int)))) rfl;have hO : Own tab w _ c v0 (γ (a_ 0)) []:=hr0 trivial;have hV : V tab w _ ci v1 (.i .i64 (n : Int)):=hr1 trivial;rw [i_] at hv0 hv1;have e1 : v1 = .int .i64 (n : Int):=by
  obtain ⟨hl,-,-⟩:=b_Q hi (by simp [TI.isS,hin]) hV;cases hl;rfl
 have evals : vals = #[v0,v1]:=by
  apply Array.ext
  ·simp [hsz]
  ·intro i h1 h2
   have hi2 : i < 2:=by simpa using h2
   match i,hi2 with
   | 0,_ => rw [Array.getElem?_eq_getElem h1] at hv0;simpa using hv0
   | 1,_ => rw [Array.getElem?_eq_getElem h1] at hv1;simpa using hv1
 obtain ⟨ti',e',ce',te',q1,q2,q3,q4,q5⟩:=hO
 have:=e_ hc q1
 simp only [Prod.mk.injEq,true_and] at this;subst this;rw [hk] at q2;simp only [K.sl.injEq] at q2;subst q2
 have:=e_ he q3
 simp only [Prod.mk.injEq] at this;obtain ⟨rfl,rfl⟩:=this;have main : ∀ (base : Option Go.Addr) (cap : Nat) (cs : List Value),v0 = .slice base 0 cap → cap ≤ maxLen → cs.length = cap * te.cells → (base = none → cap = 0) →
   (∀ a,base = some a → ∀ (j : Nat) v,cs[j]? = some v → w.cell? (a.add j) = some v) → (∀ O,(∀ b,O b → A b ∨ γ (a_ 0) = some b) → Own tab w O c (.slice base 0 cap) (γ (a_ 0)) []) →
   Calls P f vals w fun r w' => ∃ v,r = .returned v ∧ ∃ γ',Rel tab ⟨w.heap.size,w,A,fun b => ∃ k,γ k = some b⟩ (vals.push v) w' (b_j [.own c [],.t ci (.i .i64 (n : Int))] [(a_ 2,c,true)] [.l []]) γ' := by
  intro base cap cs hv hcap hcs hnil hcell hown;rw [evals,hv,e1];have hm : maxLen = 9223372036854775807:=rfl
  by_cases hle : n ≤ cap
  ·refine (room base 0 cap n w (Nat.zero_le _) (by omega) (by omega) (by omega)).mono ?_
   rintro r w' ⟨rfl,rfl⟩;refine ⟨_,rfl,?_⟩;have hsz' : (#[Value.slice base 0 cap,Value.int .i64 (n : Int)] : Array Value).size = [Arg.own c [],Arg.t ci (.i .i64 (n : Int))].length:=rfl;rw [evals,hv,e1] at hr;exact n_R (w' := w') (g:=γ (a_ 0)) hr hsz' rfl rfl rfl rfl (Nat.le_refl _) (fun _ _ => rfl) (fun b hb => .inl ⟨_,hb⟩) hown
  ·have hcs' : cs.length = cap * i0.size:=by rw [hi0];exact hcs
   refine (grow base 0 cap n cs w (Nat.zero_le _) (by omega) (by rw [Nat.zero_add];exact hn) (by omega) hcs' hnil hcell).mono ?_;rintro r w' ⟨rfl,rfl⟩;refine ⟨_,rfl,?_⟩;have hsz' : (#[Value.slice base 0 cap,Value.int .i64 (n : Int)] : Array Value).size = [Arg.own c [],Arg.t ci (.i .i64 (n : Int))].length:=rfl;rw [evals,hv,e1] at hr;refine n_R (w' := w.drew.alloc _) (g:=some w.heap.size) hr hsz' rfl rfl rfl rfl (by rw [I_];show w.heap.size ≤ w.heap.size + 1;omega) (fun b hb => heap_alloc_old w.drew _ b hb) (fun b hb => .inr ?_) fun O hO' => ?_
   ·simp only [Option.some.injEq] at hb
    subst hb;exact ⟨Nat.le_refl _,by rw [I_];show w.heap.size < w.heap.size + 1;omega⟩
   ·have hge:=grownCap_ge w (0 + n) cap e
    refine ⟨ti,e,ce,te,hc,hk,he,hpos,.inr ⟨w.heap.size,_,_,rfl,rfl,heap_alloc_new w.drew _,Nat.zero_le _,grownCap_le_maxLen w _ cap e (by rw [hm];omega),?_,fun j x hx => by simp at hx⟩⟩;simp only [Array.size_append,List.size_toArray,size_zeroCells,hz,hcs,← Nat.add_mul]
    congr 1
    omega
 rcases q5 with ⟨hg,-,a,hv⟩ | ⟨b,cap,cs,hg,hv,hh,h1,h2,h3,-⟩
 ·refine main a 0 [] hv (Nat.zero_le _) (by simp) (fun _ => rfl) (fun a _ j v hj => by simp at hj) fun O _ => ⟨ti,e,ce,te,hc,hk,he,hpos,.inl ⟨hg,rfl,a,rfl⟩⟩
 ·refine main (some ⟨b,0,none⟩) cap cs.toList hv h2 (by rw [Array.length_toList,h3]) (fun q => by cases q) (fun a ha j v hj => ?_) fun O _ => ⟨ti,e,ce,te,hc,hk,he,hpos,.inr ⟨b,cap,cs,hg,rfl,hh,h1,h2,h3,fun j x hx => by simp at hx⟩⟩
  simp only [Option.some.injEq] at ha;subst ha;rw [a_I,w_ hh,Nat.zero_add,← Array.getElem?_toList];exact hj
end Go.Pl
namespace Go.Pq
open Go.Pl Go.Proofs
def C56 : Ctx:=⟨tab,sigs,11,[0,2,3,4],[],[],[],[],[]⟩
theorem t_r (a0 : T) (y0 : T) (h : ∃ y y_1 : T,F 55 [.t 2 a0,.t 2 (kI 1)] Z1 [y,y_1] ∧ True ∧ (G3 y) = y0 ∧ True) : F 56 [.t 2 a0] (zo 1 23) [y0] :=
 F_nf C56 (by kernel_rfl) Tryz.func56 (by kernel_rfl) .no (by kernel_rfl) h
def C65 : Ctx:=⟨tab,sigs,16,[0,1,2],[],[],[],[],[]⟩
theorem t_z (a0 : T) (y0 : T) (h : ∃ y : T,F 108 [.t 23 (G3 a0)] (zo 1 4) [y] ∧ ∃ y_1 : T,(y.bool = true ∧ True → F 48 [.t 23 (G3 a0)] (zo 1 2) [y_1]) ∧ ∃ y_2 : T,((T.ite y.bool (T.b (leI 0 y_1.int)) (T.b false)).bool = true ∧ True → F 56 [.t 2 (kI 1)] (zo 1 23) [y_2]) ∧ ∃ y_3 : T,((T.ite y.bool (T.b (leI 0 y_1.int)) (T.b false)).bool = true ∧ True → F 23 [.t 23 (G3 a0),.t 23 y_2] (zo 2 2) [y_3]) ∧ True ∧ T.ite (T.ite y.bool (T.b (leI 0 y_1.int)) (T.b false)).bool (T.b (leI y_3.int 0)) (T.b false) = y0 ∧ True) : F 65 [.t 23 a0] (zo 1 4) [y0] :=
 F_nf C65 (by kernel_rfl) Tryz.func65 (by kernel_rfl) .no (by kernel_rfl) h
def C141 : Ctx:=⟨tab,sigs,16,[0,2,3],[],[],[],[],[]⟩
theorem q_6 (a0 : T) (y0 : T) (I0 : Nat → Prop) (M0 : Nat → Nat) (h : (∃ i : Nat,I0 i ∧ R1 a0 (kI 0 = kI ↑i ∧ True)) ∧ (∀ i : Nat,true = true) ∧ ∀ i : Nat,I0 i → (ltI ↑i (lenOf a0.list) = true → (Bd ↑i (lenOf a0.list)) ∧ ∃ y : T,F 65 [.t 23 ((a0.list.getD (↑i : Int).toNat T.u).part 0 3)] (zo 1 4) [y] ∧ ((!y.bool) = true → True ∧ T.b false = y0 ∧ True) ∧ ((!y.bool) = false → ∃ j : Nat,I0 j ∧ M0 j < M0 i ∧ R1 a0 (kI (addI .i64 ↑i 1) = kI ↑j ∧ True))) ∧ (ltI ↑i (lenOf a0.list) = false → True ∧ T.b true = y0 ∧ True)) : F 141 [.t 25 a0] (zo 1 4) [y0] :=
 F_nf C141 (by kernel_rfl) Tryz.func141 (by kernel_rfl) (.two .no (.two (.two .no (.lp (fun (ia : Nat) => [(a_ 0,AV.t 25 a0),(a_ 2,AV.t 4 (T.b false)),(a_ 3,.t 2 (.i .i64 (ia : Int)))]) I0 M0 (fun _ => .no))) .no)) (by kernel_rfl) h
def C142 : Ctx:=⟨tab,sigs,19,[0,2,3,4],[],[],[],[],[]⟩
theorem q_7 (a0 : T) (y0 : T) (I0 : (T × Nat) → Prop) (M0 : (T × Nat) → Nat) (h : (∃ (i : T × Nat),I0 i ∧ R2 a0 (T.b false = i.1.cell 0 ∧ T.l [] = i.1.cell 1 ∧ T.l [] = i.1.cell 2 ∧ kI 0 = kI ↑i.2 ∧ True)) ∧ (∀ (i : T × Nat),true = true) ∧ ∀ (i : T × Nat),I0 i → (ltI ↑i.2 (lenOf a0.list) = true → (Bd ↑i.2 (lenOf a0.list)) ∧ ∃ y : T,F 78 [.t 23 (G3 i.1),.t 23 ((a0.list.getD (↑i.2 : Int).toNat T.u).part 0 3)] (zo 2 23) [y] ∧ ∃ (j : T × Nat),I0 j ∧ M0 j < M0 i ∧ R2 a0 (E3 y j.1 (kI (addI .i64 ↑i.2 1) = kI ↑j.2 ∧ True))) ∧ (ltI ↑i.2 (lenOf a0.list) = false → True ∧ (G3 i.1) = y0 ∧ True)) : F 142 [.t 25 a0] (zo 1 23) [y0] :=
 F_nf C142 (by kernel_rfl) Tryz.func142 (by kernel_rfl) (.two .no (.two .no (.two (.two .no (.lp (fun (ia : T × Nat) => [(a_ 0,AV.t 25 a0),(a_ 2,AV.box 23 0 3),(cell 2 0,AV.t 4 (T.b false)),(cell 2 1,AV.t 22 (T.l [])),(cell 2 2,AV.t 22 (T.l [])),(a_ 3,AV.box 23 0 3)] ++ bxS 3 ia.1 0 Y1 ++ [(a_ 4,.t 2 (.i .i64 (ia.2 : Int)))]) I0 M0 (fun _ => .no))) .no))) (by kernel_rfl) h
def C106 : Ctx:=⟨tab,sigs,12,[0,1,2,4],[],[],[],[],[]⟩
theorem q_G (a0 : T) (a1 : T) (y0 : T) (h : ∃ y : T,F 142 [.t 25 a1] (zo 1 23) [y] ∧ ∃ y_1 : T,F 78 [.t 23 (G3 a0),.t 23 y] (zo 2 23) [y_1] ∧ ∃ y : T,F 56 [.t 2 (kI 1)] (zo 1 23) [y] ∧ ∃ y_2 : T,F 23 [.t 23 y_1,.t 23 y] (zo 2 2) [y_2] ∧ True ∧ T.b (eqI y_2.int 0) = y0 ∧ True) : F 106 [.t 23 a0,.t 25 a1] (zo 2 4) [y0] :=
 F_nf C106 (by kernel_rfl) Tryz.func106 (by kernel_rfl) .no (by kernel_rfl) h
def C79 : Ctx:=⟨tab,sigs,27,[0,1,4,5],[],[],[],[],[]⟩
theorem t_M (a0 : T) (a1 : T) (y0 : T) (I0 : Nat → Prop) (M0 : Nat → Nat) (h : (neI (lenOf a0.list) (lenOf a1.list) = true → True ∧ T.b false = y0 ∧ True) ∧ (neI (lenOf a0.list) (lenOf a1.list) = false → (∃ i : Nat,I0 i ∧ R3 a0 a1 (kI 0 = kI ↑i ∧ True)) ∧ (∀ i : Nat,true = true) ∧ ∀ i : Nat,I0 i → (ltI ↑i (lenOf a0.list) = true → (Bd ↑i (lenOf a0.list)) ∧ (Bd ↑i (lenOf a1.list)) ∧ ∃ y : T,F 23 [.t 23 ((a0.list.getD (↑i : Int).toNat T.u).part 0 3),.t 23 ((a1.list.getD (↑i : Int).toNat T.u).part 0 3)] (zo 2 2) [y] ∧ (neI y.int 0 = true → True ∧ T.b false = y0 ∧ True) ∧ (neI y.int 0 = false → ∃ j : Nat,I0 j ∧ M0 j < M0 i ∧ R3 a0 a1 (kI (addI .i64 ↑i 1) = kI ↑j ∧ True))) ∧ (ltI ↑i (lenOf a0.list) = false → True ∧ T.b true = y0 ∧ True))) : F 79 [.t 25 a0,.t 25 a1] (zo 2 4) [y0] :=
 F_nf C79 (by kernel_rfl) Tryz.func79 (by kernel_rfl) (.two .no (.two .no (.two (.two .no (.lp (fun (ia : Nat) => [(a_ 0,AV.t 25 a0),(a_ 1,AV.t 25 a1),(a_ 4,AV.t 4 (T.b false)),(a_ 5,.t 2 (.i .i64 (ia : Int)))]) I0 M0 (fun _ => .no))) .no))) (by kernel_rfl) h
def C31 : Ctx:=⟨tab,sigs,18,[0,1,2,3],[],[],[],[],[]⟩
theorem t_c (a0 : T) (y0 : T) (I0 : Nat → Prop) (M0 : Nat → Nat) (h : ∃ y : T,F 63 [.t 29 (G11 a0)] (zo 1 2) [y] ∧ (neI y.int 0 = true → True ∧ T.b false = y0 ∧ True) ∧ (neI y.int 0 = false → (∃ i : Nat,I0 i ∧ R4 a0 (kI 0 = kI ↑i ∧ True)) ∧ (∀ i : Nat,true = true) ∧ ∀ i : Nat,I0 i → (ltI ↑i (a0.cell 1).int = true → (Bd ↑i (lenOf (a0.cell 9).list)) ∧ ((((a0.cell 9).list.getD (↑i : Int).toNat T.u).cell 0).bool = true → True ∧ T.b false = y0 ∧ True) ∧ ((((a0.cell 9).list.getD (↑i : Int).toNat T.u).cell 0).bool = false → ∃ j : Nat,I0 j ∧ M0 j < M0 i ∧ R4 a0 (kI (addI .i64 ↑i 1) = kI ↑j ∧ True))) ∧ (ltI ↑i (a0.cell 1).int = false → True ∧ T.b true = y0 ∧ True))) : F 31 [.t 29 a0] (zo 1 4) [y0] :=
 F_nf C31 (by kernel_rfl) Tryz.func31 (by kernel_rfl) (.two .no (.two .no (.two (.two .no (.lp (fun (ia : Nat) => [(a_ 0,AV.t 29 a0),(a_ 1,AV.box 29 0 11)] ++ bxS 1 a0 0 Y2 ++ [(a_ 2,AV.t 4 (T.b false)),(a_ 3,.t 2 (.i .i64 (ia : Int)))]) I0 M0 (fun _ => .no))) .no))) (by kernel_rfl) h
def C45 : Ctx:=⟨tab,sigs,12,[0,1,2,3],[],[],[],[],[]⟩
theorem t_k (a0 : T) (y0 : T) (h : ∃ y : T,F 63 [.t 29 (G11 a0)] (zo 1 2) [y] ∧ (neI y.int 0 = true → True ∧ y = y0 ∧ True) ∧ (neI y.int 0 = false → ∃ y : T,F 31 [.t 29 (G11 a0)] (zo 1 4) [y] ∧ ((!y.bool) = true → True ∧ kI 4 = y0 ∧ True) ∧ ((!y.bool) = false → True ∧ kI 0 = y0 ∧ True))) : F 45 [.t 29 a0] (zo 1 2) [y0] :=
 F_nf C45 (by kernel_rfl) Tryz.func45 (by kernel_rfl) .no (by kernel_rfl) h
def C114 : Ctx:=⟨tab,sigs,30,[0,1,4,5,6,7,8,9],[],[],[],[],[]⟩
theorem q_N (a0 : T) (a1 : T) (y0 : T) (y1 : T) (h : (eqI a1.int 0 = true → True ∧ T.g [T.b false,T.l [],T.l []] = y0 ∧ kI 11 = y1 ∧ True) ∧ (eqI a1.int 0 = false → ∃ y y_1 : T,F 149 [.t 2 a0] Z2 [y,y_1] ∧ ∃ y_2 y_3 : T,F 149 [.t 2 a1] Z2 [y_2,y_3] ∧ ∃ y_4 : T,F 150 [.t 23 (T.g [T.b !y.bool == y_2.bool,y_1.cell 0,y_3.cell 0])] (zo 1 23) [y_4] ∧ True ∧ (G3 y_4) = y0 ∧ kI 0 = y1 ∧ True)) : F 114 [.t 2 a0,.t 2 a1] Z1 [y0,y1] :=
 F_nf C114 (by kernel_rfl) Tryz.func114 (by kernel_rfl) .no (by kernel_rfl) h
def C115 : Ctx:=⟨tab,sigs,48,[0,1,2,3,14,28],[],[],[],[],[]⟩
theorem q_O (a0 : T) (y0 : T) (h : ∃ y : T,F 151 [.t 22 (a0.cell 1)] (zo 1 4) [y] ∧ ∃ y_1 : T,((!y.bool) = false ∧ True → F 151 [.t 22 (a0.cell 2)] (zo 1 4) [y_1]) ∧ ((T.ite (!y.bool) (T.b true) (T.b !y_1.bool)).bool = true → True ∧ T.b false = y0 ∧ True) ∧ ((T.ite (!y.bool) (T.b true) (T.b !y_1.bool)).bool = false → (eqI (lenOf (a0.cell 1).list) 0 = true → True ∧ T.ite (!(a0.cell 0).bool) (T.b (eqI (lenOf (a0.cell 2).list) 0)) (T.b false) = y0 ∧ True) ∧ (eqI (lenOf (a0.cell 1).list) 0 = false → (eqI (lenOf (a0.cell 2).list) 0 = true → True ∧ T.b true = y0 ∧ True) ∧ (eqI (lenOf (a0.cell 2).list) 0 = false → ∃ y : T,F 153 [] (zo 0 22) [y] ∧ ∃ y_2 : T,F 152 [.t 22 (a0.cell 2),.t 22 y] (zo 2 2) [y_2] ∧ ∃ y : T,(neI y_2.int 0 = true ∧ True → F 154 [.t 22 (a0.cell 1),.t 22 (a0.cell 2)] (zo 2 22) [y]) ∧ ∃ y_3 : T,(neI y_2.int 0 = true ∧ True → F 153 [] (zo 0 22) [y_3]) ∧ ∃ y_4 : T,(neI y_2.int 0 = true ∧ True → F 152 [.t 22 y,.t 22 y_3] (zo 2 2) [y_4]) ∧ True ∧ T.ite (neI y_2.int 0) (T.b (eqI y_4.int 0)) (T.b false) = y0 ∧ True)))) : F 115 [.t 23 a0] (zo 1 4) [y0] :=
 F_nf C115 (by kernel_rfl) Tryz.func115 (by kernel_rfl) .no (by kernel_rfl) h
def C116 : Ctx:=⟨tab,sigs,14,[0,1,2,3,6,11],[],[],[],[],[]⟩
theorem q_P (a0 : T) (y0 : T) (h : ∃ y : T,F 155 [.t 23 (G3 a0)] (zo 1 23) [y] ∧ (eqI (lenOf (y.cell 1).list) 0 = true → True ∧ kI 0 = y0 ∧ True) ∧ (eqI (lenOf (y.cell 1).list) 0 = false → ((y.cell 0).bool = true → True ∧ kI (-1 : Int) = y0 ∧ True) ∧ ((y.cell 0).bool = false → True ∧ kI 1 = y0 ∧ True))) : F 116 [.t 23 a0] (zo 1 2) [y0] :=
 F_nf C116 (by kernel_rfl) Tryz.func116 (by kernel_rfl) .no (by kernel_rfl) h
def C117 : Ctx:=⟨tab,sigs,9,[0,1,2,3,4],[],[],[],[],[]⟩
theorem q_Q (a0 : T) (a1 : T) (y0 : T) (h : ∃ y : T,F 156 [.t 23 (G3 a0),.t 23 (G3 a1)] (zo 2 23) [y] ∧ ∃ y_1 : T,F 116 [.t 23 y] (zo 1 2) [y_1] ∧ True ∧ y_1 = y0 ∧ True) : F 117 [.t 23 a0,.t 23 a1] (zo 2 2) [y0] :=
 F_nf C117 (by kernel_rfl) Tryz.func117 (by kernel_rfl) .no (by kernel_rfl) h
def C149 : Ctx:=⟨tab,sigs,20,[0,2,3,4],[],[],[],[],[]⟩
theorem r_c (a0 : T) (y0 : T) (y1 : T) (h : (ltI a0.int 0 = true → 0 ≤ (32 : Int) ∧ ∃ y : T,F 189 [.t 22 (T.l (((List.replicate 2 (T.i .u32 0)).set 0 (T.i .u32 (p_ .u32 (subI .u64 0 (p_ .u64 a0.int))))).set 1 (T.i .u32 (p_ .u32 (shrI .u64 (subI .u64 0 (p_ .u64 a0.int)) (32 : Int))))))] (zo 1 22) [y] ∧ True ∧ T.b (ltI a0.int 0) = y0 ∧ y = y1 ∧ True) ∧ (ltI a0.int 0 = false → 0 ≤ (32 : Int) ∧ ∃ y : T,F 189 [.t 22 (T.l (((List.replicate 2 (T.i .u32 0)).set 0 (T.i .u32 (p_ .u32 (p_ .u64 a0.int)))).set 1 (T.i .u32 (p_ .u32 (shrI .u64 (p_ .u64 a0.int) 32)))))] (zo 1 22) [y] ∧ True ∧ T.b (ltI a0.int 0) = y0 ∧ y = y1 ∧ True)) : F 149 [.t 2 a0] Z2 [y0,y1] :=
 F_nf C149 (by kernel_rfl) Tryz.func149 (by kernel_rfl) .no (by kernel_rfl) h
def C150 : Ctx:=⟨tab,sigs,45,[0,1,2,3,4,5],[],[],[],[],[]⟩
theorem r_d (a0 : T) (y0 : T) (h : (eqI (lenOf (a0.cell 1).list) 0 = true → True ∧ T.g [T.b false,T.l [],T.l []] = y0 ∧ True) ∧ (eqI (lenOf (a0.cell 1).list) 0 = false → ∃ y : T,F 190 [.t 22 (a0.cell 1)] (zo 1 22) [y] ∧ ∃ y_1 : T,F 190 [.t 22 (a0.cell 2)] (zo 1 22) [y_1] ∧ ∃ y_2 : T,F 154 [.t 22 y,.t 22 y_1] (zo 2 22) [y_2] ∧ ∃ y_3 : T,F 153 [] (zo 0 22) [y_3] ∧ ∃ y_4 : T,F 152 [.t 22 y_2,.t 22 y_3] (zo 2 2) [y_4] ∧ (neI y_4.int 0 = true → ∃ y_5 y_6 : T,F 191 [.t 22 y,.t 22 y_2] Z3 [y_5,y_6] ∧ ∃ y y_7 : T,F 191 [.t 22 y_1,.t 22 y_2] Z3 [y,y_7] ∧ ∃ y_8 : T,F 153 [] (zo 0 22) [y_8] ∧ ∃ y_9 : T,F 152 [.t 22 y,.t 22 y_8] (zo 2 2) [y_9] ∧ (eqI y_9.int 0 = true → True ∧ T.g [(a0.cell 0).cell 0,y_5.cell 0,T.l []] = y0 ∧ True) ∧ (eqI y_9.int 0 = false → True ∧ T.g [(a0.cell 0).cell 0,y_5.cell 0,y.cell 0] = y0 ∧ True)) ∧ (neI y_4.int 0 = false → ∃ y_5 : T,F 153 [] (zo 0 22) [y_5] ∧ ∃ y_6 : T,F 152 [.t 22 y_1,.t 22 y_5] (zo 2 2) [y_6] ∧ (eqI y_6.int 0 = true → True ∧ T.g [(a0.cell 0).cell 0,y.cell 0,T.l []] = y0 ∧ True) ∧ (eqI y_6.int 0 = false → True ∧ T.g [(a0.cell 0).cell 0,y.cell 0,y_1.cell 0] = y0 ∧ True)))) : F 150 [.t 23 a0] (zo 1 23) [y0] :=
 F_nf C150 (by kernel_rfl) Tryz.func150 (by kernel_rfl) .no (by kernel_rfl) h
def C151 : Ctx:=⟨tab,sigs,15,[0,2],[],[],[],[],[]⟩
theorem r_e (a0 : T) (y0 : T) (h : (eqI (lenOf a0.list) 0 = false ∧ True → 0 ≤ subI .i64 (lenOf a0.list) 1 ∧ subI .i64 (lenOf a0.list) 1 < lenOf a0.list) ∧ True ∧ T.ite (eqI (lenOf a0.list) 0) (T.b true) (T.b (neI ((a0.list.getD (subI .i64 (lenOf a0.list) 1).toNat T.u).cell 0).int (0 : Int))) = y0 ∧ True) : F 151 [.t 22 a0] (zo 1 4) [y0] :=
 F_nf C151 (by kernel_rfl) Tryz.func151 (by kernel_rfl) .no (by kernel_rfl) h
def C155 : Ctx:=⟨tab,sigs,27,[0,1,2,3,9],[],[],[],[],[]⟩
theorem r_i (a0 : T) (y0 : T) (h : ∃ y : T,F 115 [.t 23 (G3 a0)] (zo 1 4) [y] ∧ ((!y.bool) = true → ∃ y : T,F 153 [] (zo 0 22) [y] ∧ True ∧ T.g [T.b false,T.l [],y.cell 0] = y0 ∧ True) ∧ ((!y.bool) = false → (eqI (lenOf (a0.cell 2).list) 0 = true → ∃ y : T,F 153 [] (zo 0 22) [y] ∧ True ∧ T.g [(a0.cell 0).cell 0,(a0.cell 1).cell 0,y.cell 0] = y0 ∧ True) ∧ (eqI (lenOf (a0.cell 2).list) 0 = false → True ∧ T.g [(a0.cell 0).cell 0,(a0.cell 1).cell 0,(a0.cell 2).cell 0] = y0 ∧ True))) : F 155 [.t 23 a0] (zo 1 23) [y0] :=
 F_nf C155 (by kernel_rfl) Tryz.func155 (by kernel_rfl) .no (by kernel_rfl) h
def C156 : Ctx:=⟨tab,sigs,12,[0,1,2,3,4],[],[],[],[],[]⟩
theorem r_j (a0 : T) (a1 : T) (y0 : T) (h : ∃ y : T,F 155 [.t 23 (G3 a0)] (zo 1 23) [y] ∧ ∃ y_1 : T,F 155 [.t 23 (G3 a1)] (zo 1 23) [y_1] ∧ ∃ y_2 : T,F 194 [.t 23 y_1] (zo 1 23) [y_2] ∧ ∃ y_3 : T,F 193 [.t 23 y,.t 23 y_2] (zo 2 23) [y_3] ∧ ∃ y : T,F 150 [.t 23 y_3] (zo 1 23) [y] ∧ True ∧ (G3 y) = y0 ∧ True) : F 156 [.t 23 a0,.t 23 a1] (zo 2 23) [y0] :=
 F_nf C156 (by kernel_rfl) Tryz.func156 (by kernel_rfl) .no (by kernel_rfl) h
def C166 : Ctx:=⟨tab,sigs,28,[0,1,2,3,4,5,6],[],[],[],[],[]⟩
theorem r_r (a0 : T) (a1 : T) (y0 : T) (h : ∃ y : T,F 155 [.t 23 (G3 a0)] (zo 1 23) [y] ∧ ∃ y_1 : T,F 155 [.t 23 (G3 a1)] (zo 1 23) [y_1] ∧ ∃ y_2 : T,F 196 [.t 22 (y.cell 1),.t 22 (y_1.cell 1)] (zo 2 22) [y_2] ∧ ∃ y_3 : T,F 196 [.t 22 (y.cell 2),.t 22 (y_1.cell 2)] (zo 2 22) [y_3] ∧ ∃ y_4 : T,F 150 [.t 23 (T.g [T.b !(y.cell 0).bool == (y_1.cell 0).bool,y_2.cell 0,y_3.cell 0])] (zo 1 23) [y_4] ∧ True ∧ (G3 y_4) = y0 ∧ True) : F 166 [.t 23 a0,.t 23 a1] (zo 2 23) [y0] :=
 F_nf C166 (by kernel_rfl) Tryz.func166 (by kernel_rfl) .no (by kernel_rfl) h
def C187 : Ctx:=⟨tab,sigs,11,[0,1,2,3,4],[],[],[],[],[]⟩
theorem r_x (a0 : T) (a1 : T) (y0 : T) (h : ∃ y : T,F 155 [.t 23 (G3 a0)] (zo 1 23) [y] ∧ ∃ y_1 : T,F 155 [.t 23 (G3 a1)] (zo 1 23) [y_1] ∧ ∃ y_2 : T,F 193 [.t 23 y,.t 23 y_1] (zo 2 23) [y_2] ∧ ∃ y : T,F 150 [.t 23 y_2] (zo 1 23) [y] ∧ True ∧ (G3 y) = y0 ∧ True) : F 187 [.t 23 a0,.t 23 a1] (zo 2 23) [y0] :=
 F_nf C187 (by kernel_rfl) Tryz.func187 (by kernel_rfl) .no (by kernel_rfl) h
def C190 : Ctx:=⟨tab,sigs,8,[0,2],[],[],[],[],[]⟩
theorem r_A (a0 : T) (y0 : T) (h : ∀ y : T,nilC a0 y → (y.bool = true → True ∧ T.l [] = y0 ∧ True) ∧ (y.bool = false → (Rm (0 + a0.list.length) 4) ∧ True ∧ T.l (List.replicate 0 (T.i .u32 0) ++ a0.list) = y0 ∧ True)) : F 190 [.t 22 a0] (zo 1 22) [y0] :=
 F_nf C190 (by kernel_rfl) Tryz.func190 (by kernel_rfl) .no (by kernel_rfl) h
def C193 : Ctx:=⟨tab,sigs,53,[0,1,2,3,4,5,6,7],[],[],[],[],[]⟩
theorem j_N (a0 : T) (a1 : T) (y0 : T) (h : ∃ y : T,F 196 [.t 22 (a0.cell 1),.t 22 (a1.cell 2)] (zo 2 22) [y] ∧ ∃ y_1 : T,F 196 [.t 22 (a1.cell 1),.t 22 (a0.cell 2)] (zo 2 22) [y_1] ∧ ∃ y_2 : T,F 196 [.t 22 (a0.cell 2),.t 22 (a1.cell 2)] (zo 2 22) [y_2] ∧ (((a0.cell 0).bool == (a1.cell 0).bool) = true → ∃ y_3 : T,F 210 [.t 22 y,.t 22 y_1] (zo 2 22) [y_3] ∧ True ∧ T.g [(a0.cell 0).cell 0,y_3.cell 0,y_2.cell 0] = y0 ∧ True) ∧ (((a0.cell 0).bool == (a1.cell 0).bool) = false → ∃ y_3 : T,F 152 [.t 22 y,.t 22 y_1] (zo 2 2) [y_3] ∧ (leI 0 y_3.int = true → ∃ y_4 : T,F 208 [.t 22 y,.t 22 y_1] (zo 2 22) [y_4] ∧ True ∧ T.g [(a0.cell 0).cell 0,y_4.cell 0,y_2.cell 0] = y0 ∧ True) ∧ (leI 0 y_3.int = false → ∃ y_4 : T,F 208 [.t 22 y_1,.t 22 y] (zo 2 22) [y_4] ∧ True ∧ T.g [(a1.cell 0).cell 0,y_4.cell 0,y_2.cell 0] = y0 ∧ True))) : F 193 [.t 23 a0,.t 23 a1] (zo 2 23) [y0] :=
 F_nf C193 (by kernel_rfl) Tryz.func193 (by kernel_rfl) .no (by kernel_rfl) h
def C194 : Ctx:=⟨tab,sigs,11,[0,1,2],[],[],[],[],[]⟩
theorem r_D (a0 : T) (y0 : T) (h : True ∧ T.g [T.b !(a0.cell 0).bool,(a0.cell 1).cell 0,(a0.cell 2).cell 0] = y0 ∧ True) : F 194 [.t 23 a0] (zo 1 23) [y0] :=
 F_nf C194 (by kernel_rfl) Tryz.func194 (by kernel_rfl) .no (by kernel_rfl) h
def C23 : Ctx:=⟨tab,sigs,9,[0,1,2,3,4],[],[],[],[],[]⟩
theorem s_7 (a0 : T) (a1 : T) (y0 : T) (h : ∃ y : T,F 49 [.t 23 (G3 a0),.t 23 (G3 a1)] (zo 2 23) [y] ∧ ∃ y_1 : T,F 48 [.t 23 y] (zo 1 2) [y_1] ∧ True ∧ y_1 = y0 ∧ True) : F 23 [.t 23 a0,.t 23 a1] (zo 2 2) [y0] :=
 F_nf C23 (by kernel_rfl) Tryz.func23 (by kernel_rfl) .no (by kernel_rfl) h
def C48 : Ctx:=⟨tab,sigs,13,[0,1,2,5,8],[],[],[],[],[]⟩
theorem t_l (a0 : T) (y0 : T) (h : ∃ y : T,F 87 [.t 23 (G3 a0)] (zo 1 23) [y] ∧ ((y.cell 0).bool = true → True ∧ kI (-1 : Int) = y0 ∧ True) ∧ ((y.cell 0).bool = false → (ltI 0 (lenOf (y.cell 1).list) = true → True ∧ kI 1 = y0 ∧ True) ∧ (ltI 0 (lenOf (y.cell 1).list) = false → True ∧ kI 0 = y0 ∧ True))) : F 48 [.t 23 a0] (zo 1 2) [y0] :=
 F_nf C48 (by kernel_rfl) Tryz.func48 (by kernel_rfl) .no (by kernel_rfl) h
def C49 : Ctx:=⟨tab,sigs,9,[0,1,2,3,4],[],[],[],[],[]⟩
theorem t_m (a0 : T) (a1 : T) (y0 : T) (h : ∃ y : T,F 88 [.t 23 (G3 a1)] (zo 1 23) [y] ∧ ∃ y_1 : T,F 78 [.t 23 (G3 a0),.t 23 y] (zo 2 23) [y_1] ∧ True ∧ (G3 y_1) = y0 ∧ True) : F 49 [.t 23 a0,.t 23 a1] (zo 2 23) [y0] :=
 F_nf C49 (by kernel_rfl) Tryz.func49 (by kernel_rfl) .no (by kernel_rfl) h
def C52 : Ctx:=⟨tab,sigs,25,[0,1,2,3,4],[],[],[],[],[]⟩
theorem t_n (a0 : T) (a1 : T) (y0 : T) (h : ∃ y : T,F 87 [.t 23 (G3 a0)] (zo 1 23) [y] ∧ ∃ y_1 : T,F 87 [.t 23 (G3 a1)] (zo 1 23) [y_1] ∧ ∃ y_2 : T,F 91 [.t 22 (y.cell 1),.t 22 (y_1.cell 1)] (zo 2 22) [y_2] ∧ ∃ y_3 : T,F 92 [.t 23 (G3 y)] (zo 1 22) [y_3] ∧ ∃ y_4 : T,F 92 [.t 23 (G3 y_1)] (zo 1 22) [y_4] ∧ ∃ y_5 : T,F 91 [.t 22 y_3,.t 22 y_4] (zo 2 22) [y_5] ∧ ∃ y_6 : T,F 90 [.t 4 (T.b !(y.cell 0).bool == (y_1.cell 0).bool),.t 22 y_2,.t 22 y_5] (zo 3 23) [y_6] ∧ True ∧ (G3 y_6) = y0 ∧ True) : F 52 [.t 23 a0,.t 23 a1] (zo 2 23) [y0] :=
 F_nf C52 (by kernel_rfl) Tryz.func52 (by kernel_rfl) .no (by kernel_rfl) h
def C55 : Ctx:=⟨tab,sigs,21,[0,1,4,5],[],[],[],[],[]⟩
theorem t_q (a0 : T) (a1 : T) (y0 : T) (y1 : T) (h : (eqI a1.int 0 = true → True ∧ T.g [T.b false,T.l [],T.l []] = y0 ∧ kI 11 = y1 ∧ True) ∧ (eqI a1.int 0 = false → ∃ y : T,F 94 [.t 2 a0] (zo 1 12) [y] ∧ ∃ y_1 : T,F 93 [.t 12 y] (zo 1 22) [y_1] ∧ ∃ y : T,F 94 [.t 2 a1] (zo 1 12) [y] ∧ ∃ y_2 : T,F 93 [.t 12 y] (zo 1 22) [y_2] ∧ ∃ y : T,F 90 [.t 4 (T.b !ltI a0.int 0 == ltI a1.int 0),.t 22 y_1,.t 22 y_2] (zo 3 23) [y] ∧ True ∧ (G3 y) = y0 ∧ kI 0 = y1 ∧ True)) : F 55 [.t 2 a0,.t 2 a1] Z1 [y0,y1] :=
 F_nf C55 (by kernel_rfl) Tryz.func55 (by kernel_rfl) .no (by kernel_rfl) h
def C78 : Ctx:=⟨tab,sigs,59,[0,1,2,3,4,5,6,7,27,40],[],[],[],[],[]⟩
theorem t_L (a0 : T) (a1 : T) (y0 : T) (h : ∃ y : T,F 87 [.t 23 (G3 a0)] (zo 1 23) [y] ∧ ∃ y_1 : T,F 87 [.t 23 (G3 a1)] (zo 1 23) [y_1] ∧ ∃ y_2 : T,F 92 [.t 23 (G3 y_1)] (zo 1 22) [y_2] ∧ ∃ y_3 : T,F 91 [.t 22 (y.cell 1),.t 22 y_2] (zo 2 22) [y_3] ∧ ∃ y_4 : T,F 92 [.t 23 (G3 y)] (zo 1 22) [y_4] ∧ ∃ y_5 : T,F 91 [.t 22 (y_1.cell 1),.t 22 y_4] (zo 2 22) [y_5] ∧ ∃ y_6 : T,F 92 [.t 23 (G3 y)] (zo 1 22) [y_6] ∧ ∃ y_7 : T,F 92 [.t 23 (G3 y_1)] (zo 1 22) [y_7] ∧ ∃ y_8 : T,F 91 [.t 22 y_6,.t 22 y_7] (zo 2 22) [y_8] ∧ (((y.cell 0).bool == (y_1.cell 0).bool) = true → ∃ y_9 : T,F 122 [.t 22 y_3,.t 22 y_5] (zo 2 22) [y_9] ∧ ∃ y_10 : T,F 90 [.t 4 (y.cell 0),.t 22 y_9,.t 22 y_8] (zo 3 23) [y_10] ∧ True ∧ (G3 y_10) = y0 ∧ True) ∧ (((y.cell 0).bool == (y_1.cell 0).bool) = false → ∃ y_9 : T,F 123 [.t 22 y_3,.t 22 y_5] (zo 2 2) [y_9] ∧ (leI 0 y_9.int = true → ∃ y_10 : T,F 124 [.t 22 y_3,.t 22 y_5] (zo 2 22) [y_10] ∧ ∃ y_11 : T,F 90 [.t 4 (y.cell 0),.t 22 y_10,.t 22 y_8] (zo 3 23) [y_11] ∧ True ∧ (G3 y_11) = y0 ∧ True) ∧ (leI 0 y_9.int = false → ∃ y : T,F 124 [.t 22 y_5,.t 22 y_3] (zo 2 22) [y] ∧ ∃ y_10 : T,F 90 [.t 4 (y_1.cell 0),.t 22 y,.t 22 y_8] (zo 3 23) [y_10] ∧ True ∧ (G3 y_10) = y0 ∧ True))) : F 78 [.t 23 a0,.t 23 a1] (zo 2 23) [y0] :=
 F_nf C78 (by kernel_rfl) Tryz.func78 (by kernel_rfl) .no (by kernel_rfl) h
def C87 : Ctx:=⟨tab,sigs,16,[0,1,2],[],[],[],[],[]⟩
theorem t_R (a0 : T) (y0 : T) (h : ∃ y : T,F 108 [.t 23 (G3 a0)] (zo 1 4) [y] ∧ ((!y.bool) = true → True ∧ T.g [T.b false,T.l [],T.l []] = y0 ∧ True) ∧ ((!y.bool) = false → (Rm (0 + (a0.cell 1).list.length) 4) ∧ (Rm (0 + (a0.cell 2).list.length) 4) ∧ True ∧ T.g [(a0.cell 0).cell 0,T.l ([] ++ (a0.cell 1).list),T.l ([] ++ (a0.cell 2).list)] = y0 ∧ True)) : F 87 [.t 23 a0] (zo 1 23) [y0] :=
 F_nf C87 (by kernel_rfl) Tryz.func87 (by kernel_rfl) .no (by kernel_rfl) h
def C88 : Ctx:=⟨tab,sigs,16,[0,1,2],[],[],[],[],[]⟩
theorem t_S (a0 : T) (y0 : T) (h : ∃ y : T,F 87 [.t 23 (G3 a0)] (zo 1 23) [y] ∧ True ∧ T.g [T.ite (ltI 0 (lenOf (y.cell 1).list)) (T.b !(y.cell 0).bool) (T.b false),y.cell 1,y.cell 2] = y0 ∧ True) : F 88 [.t 23 a0] (zo 1 23) [y0] :=
 F_nf C88 (by kernel_rfl) Tryz.func88 (by kernel_rfl) .no (by kernel_rfl) h
def C90 : Ctx:=⟨tab,sigs,37,[0,1,2,6,7,8,9,10,11],[],[],[],[],[]⟩
theorem t_T (a0 : T) (a1 : T) (a2 : T) (y0 : T) (h : (eqI (lenOf a1.list) 0 = true → True ∧ T.g [T.b false,T.l [],T.l []] = y0 ∧ True) ∧ (eqI (lenOf a1.list) 0 = false → ∃ y : T,F 128 [.t 22 a1,.t 22 a2] (zo 2 22) [y] ∧ ∃ y_1 y_2 : T,F 129 [.t 22 a1,.t 22 y] Z3 [y_1,y_2] ∧ ∃ y_3 y_4 : T,F 129 [.t 22 a2,.t 22 y] Z3 [y_3,y_4] ∧ ∃ y : T,F 130 [.t 22 y_3] (zo 1 4) [y] ∧ (y.bool = true → True ∧ T.g [a0.cell 0,y_1.cell 0,T.l []] = y0 ∧ True) ∧ (y.bool = false → True ∧ T.g [a0.cell 0,y_1.cell 0,y_3.cell 0] = y0 ∧ True))) : F 90 [.t 4 a0,.t 22 a1,.t 22 a2] (zo 3 23) [y0] :=
 F_nf C90 (by kernel_rfl) Tryz.func90 (by kernel_rfl) .no (by kernel_rfl) h
def C108 : Ctx:=⟨tab,sigs,65,[0,1,2],[],[],[],[],[]⟩
theorem q_I (a0 : T) (y0 : T) (h : (ltI 0 (lenOf (a0.cell 1).list) = true ∧ True → 0 ≤ subI .i64 (lenOf (a0.cell 1).list) (1 : Int) ∧ subI .i64 (lenOf (a0.cell 1).list) (1 : Int) < lenOf (a0.cell 1).list) ∧ ((T.ite (ltI 0 (lenOf (a0.cell 1).list)) (T.b (eqI (((a0.cell 1).list.getD (subI .i64 (lenOf (a0.cell 1).list) (1 : Int)).toNat T.u).cell 0).int (0 : Int))) (T.b false)).bool = false ∧ ltI 0 (lenOf (a0.cell 2).list) = true ∧ True → 0 ≤ subI .i64 (lenOf (a0.cell 2).list) (1 : Int) ∧ subI .i64 (lenOf (a0.cell 2).list) (1 : Int) < lenOf (a0.cell 2).list) ∧ ∃ y : T,((T.ite (T.ite (ltI 0 (lenOf (a0.cell 1).list)) (T.b (eqI (((a0.cell 1).list.getD (subI .i64 (lenOf (a0.cell 1).list) (1 : Int)).toNat T.u).cell 0).int (0 : Int))) (T.b false)).bool (T.b true) (T.ite (ltI 0 (lenOf (a0.cell 2).list)) (T.b (eqI (((a0.cell 2).list.getD (subI .i64 (lenOf (a0.cell 2).list) (1 : Int)).toNat T.u).cell 0).int (0 : Int))) (T.b false))).bool = false ∧ True → F 130 [.t 22 (a0.cell 2)] (zo 1 4) [y]) ∧ ((T.ite (T.ite (T.ite (ltI 0 (lenOf (a0.cell 1).list)) (T.b (eqI (((a0.cell 1).list.getD (subI .i64 (lenOf (a0.cell 1).list) (1 : Int)).toNat T.u).cell 0).int (0 : Int))) (T.b false)).bool (T.b true) (T.ite (ltI 0 (lenOf (a0.cell 2).list)) (T.b (eqI (((a0.cell 2).list.getD (subI .i64 (lenOf (a0.cell 2).list) (1 : Int)).toNat T.u).cell 0).int (0 : Int))) (T.b false))).bool (T.b true) y).bool = true → True ∧ T.b false = y0 ∧ True) ∧ ((T.ite (T.ite (T.ite (ltI 0 (lenOf (a0.cell 1).list)) (T.b (eqI (((a0.cell 1).list.getD (subI .i64 (lenOf (a0.cell 1).list) (1 : Int)).toNat T.u).cell 0).int (0 : Int))) (T.b false)).bool (T.b true) (T.ite (ltI 0 (lenOf (a0.cell 2).list)) (T.b (eqI (((a0.cell 2).list.getD (subI .i64 (lenOf (a0.cell 2).list) (1 : Int)).toNat T.u).cell 0).int (0 : Int))) (T.b false))).bool (T.b true) y).bool = false → (eqI (lenOf (a0.cell 1).list) 0 = true → True ∧ T.ite (!(a0.cell 0).bool) (T.b (eqI (lenOf (a0.cell 2).list) 0)) (T.b false) = y0 ∧ True) ∧ (eqI (lenOf (a0.cell 1).list) 0 = false → ∃ y : T,(eqI (lenOf (a0.cell 2).list) 0 = false ∧ True → F 128 [.t 22 (a0.cell 1),.t 22 (a0.cell 2)] (zo 2 22) [y]) ∧ ∃ y_1 : T,(eqI (lenOf (a0.cell 2).list) 0 = false ∧ True → F 130 [.t 22 y] (zo 1 4) [y_1]) ∧ True ∧ T.ite (eqI (lenOf (a0.cell 2).list) 0) (T.b true) y_1 = y0 ∧ True))) : F 108 [.t 23 a0] (zo 1 4) [y0] :=
 F_nf C108 (by kernel_rfl) Tryz.func108 (by kernel_rfl) .no (by kernel_rfl) h
def C91 : Ctx:=⟨tab,sigs,68,[0,1,4,5,6,7,8,9],[a_ 5],[],[],[],[]⟩
theorem t_U (a0 : T) (a1 : T) (y0 : T) (I0 : (Nat × List T) → Prop) (M0 : (Nat × List T) → Nat) (I1 : (Nat × List T) → X1 → Prop) (M1 : (Nat × List T) → X1 → Nat) (h : (0 ≤ addI .i64 (lenOf a0.list) (lenOf a1.list) ∧ addI .i64 (lenOf a0.list) (lenOf a1.list) ≤ addI .i64 (lenOf a0.list) (lenOf a1.list) ∧ (↑4 : Int) * addI .i64 (lenOf a0.list) (lenOf a1.list) ≤ (281474976710656 : Int) ∧ addI .i64 (lenOf a0.list) (lenOf a1.list) ≤ (9223372036854775807 : Int)) ∧ (∃ (i : Nat × List T),I0 i ∧ R5 a0 a1 (List.replicate (addI .i64 (lenOf a0.list) (lenOf a1.list)).toNat (T.i .u32 0) = i.2 ∧ kI 0 = kI ↑i.1 ∧ True)) ∧ (∀ (i : Nat × List T),true = true) ∧ ∀ (i : Nat × List T),I0 i → (ltI ↑i.1 (lenOf a0.list) = true → (∃ (i_1 : X1),I1 i i_1 ∧ R5 a0 a1 (i.2 = i_1.2.2 ∧ kI ↑i.1 = kI ↑i.1 ∧ T.i .u64 0 = T.i .u64 i_1.2.1 ∧ kI 0 = kI ↑i_1.1 ∧ True)) ∧ (∀ (i : X1),true = true) ∧ ∀ (i_1 : X1),I1 i i_1 → (ltI ↑i_1.1 (lenOf a1.list) = true → (Bd ↑i.1 (lenOf a0.list)) ∧ (Bd ↑i_1.1 (lenOf a1.list)) ∧ (Bd (addI .i64 ↑i.1 (↑i_1.1 : Int)) (↑i_1.2.2.length : Int)) ∧ 0 ≤ (32 : Int) ∧ (Bd (addI .i64 ↑i.1 (↑i_1.1 : Int)) (↑i_1.2.2.length : Int)) ∧ ∃ (j : X1),I1 i j ∧ M1 i j < M1 i i_1 ∧ R5 a0 a1 (i_1.2.2.set (0 + (addI .i64 ↑i.1 (↑i_1.1 : Int)).toNat) (T.i .u32 (p_ .u32 (addI .u64 (addI .u64 (mulI .u64 (p_ .u64 ((a0.list.getD (↑i.1 : Int).toNat T.u).cell 0).int) (p_ .u64 ((a1.list.getD (↑i_1.1 : Int).toNat T.u).cell 0).int)) (p_ .u64 ((i_1.2.2.getD (0 + (addI .i64 ↑i.1 (↑i_1.1 : Int)).toNat) T.u).cell 0).int)) i_1.2.1))) = j.2.2 ∧ kI ↑i.1 = kI ↑i.1 ∧ T.i .u64 (shrI .u64 (addI .u64 (addI .u64 (mulI .u64 (p_ .u64 ((a0.list.getD (↑i.1 : Int).toNat T.u).cell 0).int) (p_ .u64 ((a1.list.getD (↑i_1.1 : Int).toNat T.u).cell 0).int)) (p_ .u64 ((i_1.2.2.getD (0 + (addI .i64 ↑i.1 (↑i_1.1 : Int)).toNat) T.u).cell 0).int)) i_1.2.1) (32 : Int)) = T.i .u64 j.2.1 ∧ kI (addI .i64 ↑i_1.1 1) = kI ↑j.1 ∧ True)) ∧ (ltI ↑i_1.1 (lenOf a1.list) = false → (Bd (addI .i64 ↑i.1 (lenOf a1.list)) (↑i_1.2.2.length : Int)) ∧ ∃ (j : Nat × List T),I0 j ∧ M0 j < M0 i ∧ R5 a0 a1 (i_1.2.2.set (0 + (addI .i64 ↑i.1 (lenOf a1.list)).toNat) (T.i .u32 (p_ .u32 i_1.2.1)) = j.2 ∧ kI (addI .i64 ↑i.1 1) = kI ↑j.1 ∧ True))) ∧ (ltI ↑i.1 (lenOf a0.list) = false → ∃ y : T,F 131 [.t 22 (T.l (List.take i.2.length (List.drop 0 i.2)))] (zo 1 22) [y] ∧ True ∧ y = y0 ∧ True)) : F 91 [.t 22 a0,.t 22 a1] (zo 2 22) [y0] :=
 F_nf C91 (by kernel_rfl) Tryz.func91 (by kernel_rfl) (.two .no (.two .no (.two (.two .no (.lp (fun (ia : Nat × List T) => [(a_ 0,AV.t 22 a0),(a_ 1,AV.t 22 a1),(a_ 4,AV.t 22 (T.l [])),(a_ 5,.own 22 0 ia.2),(a_ 6,.t 2 (.i .i64 (ia.1 : Int)))]) I0 M0 (fun (ia : Nat × List T) => (.two .no (.two (.two .no (.two (.two .no (.lp (fun (ib : X1) => [(a_ 0,AV.t 22 a0),(a_ 1,AV.t 22 a1),(a_ 4,AV.t 22 (T.l [])),(a_ 5,.own 22 0 ib.2.2),(a_ 6,AV.t 2 (T.i IntKind.i64 (↑ia.1 : Int))),(a_ 7,.t 12 (.i .u64 ib.2.1)),(a_ 8,.t 2 (.i .i64 (ib.1 : Int)))]) (I1 ia) (M1 ia) (fun _ => .no))) .no)) .no))))) .no))) (by kernel_rfl) h
def C161 : Ctx:=⟨tab,sigs,27,[0,2,3],[],[],[],[],[]⟩
theorem r_n (a0 : T) (y0 : T) (I0 : Nat → Prop) (M0 : Nat → Nat) (h : (∃ i : Nat,I0 i ∧ R6 a0 (kI (mulI .i64 32 (lenOf a0.list)) = kI ↑i ∧ True)) ∧ (∀ i : Nat,true = true) ∧ ∀ i : Nat,I0 i → (ltI 0 ↑i = true ∧ True → (32 : Int) ≠ (0 : Int)) ∧ (ltI 0 ↑i = true ∧ True → 0 ≤ quoI .i64 (subI .i64 ↑i (1 : Int)) (32 : Int) ∧ quoI .i64 (subI .i64 ↑i (1 : Int)) (32 : Int) < lenOf a0.list) ∧ (ltI 0 ↑i = true ∧ True → (32 : Int) ≠ (0 : Int)) ∧ (ltI 0 ↑i = true ∧ True → 0 ≤ p_ .u64 (remI (subI .i64 ↑i (1 : Int)) (32 : Int))) ∧ ((T.ite (ltI 0 (↑i : Int)) (T.b (eqI (a_J BinOp.and .u32 (shrI .u32 ((a0.list.getD (quoI .i64 (subI .i64 ↑i (1 : Int)) (32 : Int)).toNat T.u).cell 0).int (p_ .u64 (remI (subI .i64 ↑i (1 : Int)) (32 : Int)))) (1 : Int)) (0 : Int))) (T.b false)).bool = true → ∃ j : Nat,I0 j ∧ M0 j < M0 i ∧ R6 a0 (kI (subI .i64 ↑i (1 : Int)) = kI ↑j ∧ True)) ∧ ((T.ite (ltI 0 (↑i : Int)) (T.b (eqI (a_J BinOp.and .u32 (shrI .u32 ((a0.list.getD (quoI .i64 (subI .i64 ↑i (1 : Int)) (32 : Int)).toNat T.u).cell 0).int (p_ .u64 (remI (subI .i64 ↑i (1 : Int)) (32 : Int)))) (1 : Int)) (0 : Int))) (T.b false)).bool = false → True ∧ kI ↑i = y0 ∧ True)) : F 161 [.t 22 a0] (zo 1 2) [y0] :=
 F_nf C161 (by kernel_rfl) Tryz.func161 (by kernel_rfl) (.two .no (.two .no (.two (.lp (fun (ia : Nat) => [(a_ 0,AV.t 22 a0),(a_ 2,AV.t 2 (T.i IntKind.i64 (0 : Int))),(a_ 3,.t 2 (.i .i64 (ia : Int)))]) I0 M0 (fun _ => .no)) .no))) (by kernel_rfl) h
def C162 : Ctx:=⟨tab,sigs,34,[0,1,4,5,6],[a_ 5],[],[],[],[]⟩
theorem r_o (a0 : T) (a1 : T) (y0 : T) (I0 : (Nat × List T) → Prop) (M0 : (Nat × List T) → Nat) (h : (32 : Int) ≠ (0 : Int) ∧ (∃ (i : Nat × List T),I0 i ∧ R5 a0 a1 ([] = i.2 ∧ kI (quoI .i64 a1.int 32) = kI ↑i.1 ∧ True)) ∧ (∀ (i : Nat × List T),true = true) ∧ ∀ (i : Nat × List T),I0 i → (ltI ↑i.1 (lenOf a0.list) = true → ∃ y : T,F 159 [.t 22 a0,.t 2 (kI (addI .i64 ↑i.1 1))] (zo 2 12) [y] ∧ 0 ≤ (32 : Int) ∧ ∃ y_1 : T,F 159 [.t 22 a0,.t 2 (kI ↑i.1)] (zo 2 12) [y_1] ∧ (32 : Int) ≠ (0 : Int) ∧ 0 ≤ p_ .u64 (remI a1.int (32 : Int)) ∧ (Rm ((List.take i.2.length i.2).length + ((List.replicate 1 (T.i .u32 0)).set 0 (T.i .u32 (p_ .u32 (shrI .u64 (a_J BinOp.or .u64 (shlI .u64 y.int 32) y_1.int) (p_ .u64 (remI a1.int (32 : Int))))))).length) 4) ∧ ∃ (j : Nat × List T),I0 j ∧ M0 j < M0 i ∧ R5 a0 a1 (List.take i.2.length i.2 ++ (List.replicate 1 (T.i .u32 0)).set 0 (T.i .u32 (p_ .u32 (shrI .u64 (a_J BinOp.or .u64 (shlI .u64 y.int 32) y_1.int) (p_ .u64 (remI a1.int (32 : Int)))))) = j.2 ∧ kI (addI .i64 ↑i.1 1) = kI ↑j.1 ∧ True)) ∧ (ltI ↑i.1 (lenOf a0.list) = false → ∃ y : T,F 131 [.t 22 (T.l (List.take i.2.length (List.drop 0 i.2)))] (zo 1 22) [y] ∧ True ∧ y = y0 ∧ True)) : F 162 [.t 22 a0,.t 2 a1] (zo 2 22) [y0] :=
 F_nf C162 (by kernel_rfl) Tryz.func162 (by kernel_rfl) (.two .no (.two .no (.two (.two .no (.lp (fun (ia : Nat × List T) => [(a_ 0,AV.t 22 a0),(a_ 1,AV.t 2 a1),(a_ 4,AV.t 22 (T.l [])),(a_ 5,.own 22 0 ia.2),(a_ 6,.t 2 (.i .i64 (ia.1 : Int)))]) I0 M0 (fun _ => .no))) .no))) (by kernel_rfl) h
def C129 : Ctx:=⟨tab,sigs,66,[0,1,4,5,6,7,8,9],[a_ 6],[],[],[],[]⟩
theorem q_Z (a0 : T) (a1 : T) (y0 : T) (y1 : T) (I0 : X2 → Prop) (M0 : X2 → Nat) (h : (0 ≤ lenOf a0.list ∧ lenOf a0.list ≤ lenOf a0.list ∧ (↑4 : Int) * lenOf a0.list ≤ (281474976710656 : Int) ∧ lenOf a0.list ≤ (9223372036854775807 : Int)) ∧ ∃ y : T,F 161 [.t 22 a0] (zo 1 2) [y] ∧ ∃ y_1 : T,F 161 [.t 22 a1] (zo 1 2) [y_1] ∧ ∃ y_2 : T,F 162 [.t 22 a0,.t 2 (kI (addI .i64 (maxI (subI .i64 y.int y_1.int) (-1 : Int)) (1 : Int)))] (zo 2 22) [y_2] ∧ (∃ (i : X2),I0 i ∧ R7 a0 a1 (List.replicate (lenOf a0.list).toNat (T.i .u32 0) = i.2.2.2 ∧ kI (maxI (subI .i64 y.int y_1.int) (-1 : Int)) = i.2.2.1 ∧ y_2 = i.2.1 ∧ kI (maxI (subI .i64 y.int y_1.int) (-1 : Int)) = kI ((↑i.1 : Int) - (1 : Int)) ∧ True)) ∧ (∀ (i : X2),true = true) ∧ ∀ (i : X2),I0 i → (leI 0 ((↑i.1 : Int) - (1 : Int)) = true → ∃ y : T,F 122 [.t 22 i.2.1,.t 22 i.2.1] (zo 2 22) [y] ∧ (32 : Int) ≠ (0 : Int) ∧ (Bd (quoI .i64 ((↑i.1 : Int) - (1 : Int)) (32 : Int)) (lenOf a0.list)) ∧ (32 : Int) ≠ (0 : Int) ∧ 0 ≤ p_ .u64 (remI ((↑i.1 : Int) - (1 : Int)) (32 : Int)) ∧ (eqI (a_J BinOp.and .u32 (shrI .u32 ((a0.list.getD (quoI .i64 ((↑i.1 : Int) - (1 : Int)) (32 : Int)).toNat T.u).cell 0).int (p_ .u64 (remI ((↑i.1 : Int) - (1 : Int)) (32 : Int)))) (1 : Int)) (1 : Int) = true → ∃ y_3 : T,F 122 [.t 22 y,.t 22 (T.l ((List.replicate 1 (T.i .u32 0)).set 0 (T.i .u32 1)))] (zo 2 22) [y_3] ∧ ∃ y : T,F 123 [.t 22 y_3,.t 22 a1] (zo 2 2) [y] ∧ (leI 0 y.int = true → ∃ y : T,F 124 [.t 22 y_3,.t 22 a1] (zo 2 22) [y] ∧ (32 : Int) ≠ (0 : Int) ∧ (Bd (quoI .i64 ((↑i.1 : Int) - (1 : Int)) (32 : Int)) (↑i.2.2.2.length : Int)) ∧ (32 : Int) ≠ (0 : Int) ∧ 0 ≤ p_ .u64 (remI ((↑i.1 : Int) - (1 : Int)) (32 : Int)) ∧ (Bd (quoI .i64 ((↑i.1 : Int) - (1 : Int)) (32 : Int)) (↑i.2.2.2.length : Int)) ∧ ∃ (j : X2),I0 j ∧ M0 j < M0 i ∧ R7 a0 a1 (i.2.2.2.set (0 + (quoI .i64 ((↑i.1 : Int) - (1 : Int)) (32 : Int)).toNat) (T.i .u32 (a_J BinOp.or .u32 ((i.2.2.2.getD (0 + (quoI .i64 ((↑i.1 : Int) - (1 : Int)) (32 : Int)).toNat) T.u).cell 0).int (shlI .u32 1 (p_ .u64 (remI ((↑i.1 : Int) - (1 : Int)) (32 : Int)))))) = j.2.2.2 ∧ i.2.2.1 = j.2.2.1 ∧ y = j.2.1 ∧ kI (subI .i64 ((↑i.1 : Int) - (1 : Int)) (1 : Int)) = kI ((↑j.1 : Int) - (1 : Int)) ∧ True)) ∧ (leI 0 y.int = false → ∃ (j : X2),I0 j ∧ M0 j < M0 i ∧ R7 a0 a1 (i.2.2.2 = j.2.2.2 ∧ i.2.2.1 = j.2.2.1 ∧ y_3 = j.2.1 ∧ kI (subI .i64 ((↑i.1 : Int) - (1 : Int)) (1 : Int)) = kI ((↑j.1 : Int) - (1 : Int)) ∧ True))) ∧ (eqI (a_J BinOp.and .u32 (shrI .u32 ((a0.list.getD (quoI .i64 ((↑i.1 : Int) - (1 : Int)) (32 : Int)).toNat T.u).cell 0).int (p_ .u64 (remI ((↑i.1 : Int) - (1 : Int)) (32 : Int)))) (1 : Int)) (1 : Int) = false → ∃ y_3 : T,F 123 [.t 22 y,.t 22 a1] (zo 2 2) [y_3] ∧ (leI 0 y_3.int = true → ∃ y_4 : T,F 124 [.t 22 y,.t 22 a1] (zo 2 22) [y_4] ∧ (32 : Int) ≠ (0 : Int) ∧ (Bd (quoI .i64 ((↑i.1 : Int) - (1 : Int)) (32 : Int)) (↑i.2.2.2.length : Int)) ∧ (32 : Int) ≠ (0 : Int) ∧ 0 ≤ p_ .u64 (remI ((↑i.1 : Int) - (1 : Int)) (32 : Int)) ∧ (Bd (quoI .i64 ((↑i.1 : Int) - (1 : Int)) (32 : Int)) (↑i.2.2.2.length : Int)) ∧ ∃ (j : X2),I0 j ∧ M0 j < M0 i ∧ R7 a0 a1 (i.2.2.2.set (0 + (quoI .i64 ((↑i.1 : Int) - (1 : Int)) (32 : Int)).toNat) (T.i .u32 (a_J BinOp.or .u32 ((i.2.2.2.getD (0 + (quoI .i64 ((↑i.1 : Int) - (1 : Int)) (32 : Int)).toNat) T.u).cell 0).int (shlI .u32 1 (p_ .u64 (remI ((↑i.1 : Int) - (1 : Int)) (32 : Int)))))) = j.2.2.2 ∧ i.2.2.1 = j.2.2.1 ∧ y_4 = j.2.1 ∧ kI (subI .i64 ((↑i.1 : Int) - (1 : Int)) (1 : Int)) = kI ((↑j.1 : Int) - (1 : Int)) ∧ True)) ∧ (leI 0 y_3.int = false → ∃ (j : X2),I0 j ∧ M0 j < M0 i ∧ R7 a0 a1 (i.2.2.2 = j.2.2.2 ∧ i.2.2.1 = j.2.2.1 ∧ y = j.2.1 ∧ kI (subI .i64 ((↑i.1 : Int) - (1 : Int)) (1 : Int)) = kI ((↑j.1 : Int) - (1 : Int)) ∧ True)))) ∧ (leI 0 ((↑i.1 : Int) - (1 : Int)) = false → ∃ y : T,F 131 [.t 22 (T.l (List.take i.2.2.2.length (List.drop 0 i.2.2.2)))] (zo 1 22) [y] ∧ True ∧ y = y0 ∧ i.2.1 = y1 ∧ True)) : F 129 [.t 22 a0,.t 22 a1] Z3 [y0,y1] :=
 F_nf C129 (by kernel_rfl) Tryz.func129 (by kernel_rfl) (.two .no (.two .no (.two .no (.two .no (.two (.two .no (.lp (fun (ia : X2) => [(a_ 0,AV.t 22 a0),(a_ 1,AV.t 22 a1),(a_ 4,AV.t 22 (T.l [])),(a_ 5,AV.t 22 (T.l [])),(a_ 6,.own 22 0 ia.2.2.2),(a_ 7,.t 2 ia.2.2.1),(a_ 8,.t 22 ia.2.1),(a_ 9,.t 2 (.i .i64 ((ia.1 : Int) - 1)))]) I0 M0 (fun _ => .no))) .no))))) (by kernel_rfl) h
def C128 : Ctx:=⟨tab,sigs,19,[0,1,4,5,6],[],[],[],[],[]⟩
theorem q_Y (a0 : T) (a1 : T) (y0 : T) (I0 : (T × T) → Prop) (M0 : (T × T) → Nat) (h : (∃ (i : T × T),I0 i ∧ a0 = i.1 ∧ a1 = i.2 ∧ T.l [] = T.l [] ∧ True) ∧ (∀ (i : T × T),true = true) ∧ ∀ (i : T × T),I0 i → (ltI 0 (lenOf i.2.list) = true → ∃ y y_1 : T,F 129 [.t 22 i.1,.t 22 i.2] Z3 [y,y_1] ∧ ∃ (j : T × T),I0 j ∧ M0 j < M0 i ∧ i.2 = j.1 ∧ y_1 = j.2 ∧ T.l [] = T.l [] ∧ True) ∧ (ltI 0 (lenOf i.2.list) = false → True ∧ i.1 = y0 ∧ True)) : F 128 [.t 22 a0,.t 22 a1] (zo 2 22) [y0] :=
 F_nf C128 (by kernel_rfl) Tryz.func128 (by kernel_rfl) (.two .no (.two (.lp (fun (ia : T × T) => [(a_ 0,.t 22 ia.1),(a_ 1,.t 22 ia.2),(a_ 4,AV.t 22 (T.l []))]) I0 M0 (fun _ => .no)) .no)) (by kernel_rfl) h
def C92 : Ctx:=⟨tab,sigs,10,[0,1,2],[],[],[],[],[]⟩
theorem t_V (a0 : T) (y0 : T) (h : (eqI (lenOf (a0.cell 2).list) 0 = true → True ∧ T.l ((List.replicate 1 (T.i .u32 0)).set 0 (T.i .u32 1)) = y0 ∧ True) ∧ (eqI (lenOf (a0.cell 2).list) 0 = false → True ∧ a0.cell 2 = y0 ∧ True)) : F 92 [.t 23 a0] (zo 1 22) [y0] :=
 F_nf C92 (by kernel_rfl) Tryz.func92 (by kernel_rfl) .no (by kernel_rfl) h
def C93 : Ctx:=⟨tab,sigs,10,[0,2],[],[],[],[],[]⟩
theorem t_W (a0 : T) (y0 : T) (h : 0 ≤ (32 : Int) ∧ ∃ y : T,F 131 [.t 22 (T.l (((List.replicate 2 (T.i .u32 0)).set 0 (T.i .u32 (p_ .u32 a0.int))).set 1 (T.i .u32 (p_ .u32 (shrI .u64 a0.int 32)))))] (zo 1 22) [y] ∧ True ∧ y = y0 ∧ True) : F 93 [.t 12 a0] (zo 1 22) [y0] :=
 F_nf C93 (by kernel_rfl) Tryz.func93 (by kernel_rfl) .no (by kernel_rfl) h
def C94 : Ctx:=⟨tab,sigs,12,[0,2],[],[],[],[],[]⟩
theorem t_X (a0 : T) (y0 : T) (h : (ltI a0.int 0 = true → True ∧ T.i .u64 (addI .u64 (p_ .u64 (subI .i64 0 (addI .i64 a0.int 1))) (1 : Int)) = y0 ∧ True) ∧ (ltI a0.int 0 = false → True ∧ T.i .u64 (p_ .u64 a0.int) = y0 ∧ True)) : F 94 [.t 2 a0] (zo 1 12) [y0] :=
 F_nf C94 (by kernel_rfl) Tryz.func94 (by kernel_rfl) .no (by kernel_rfl) h
def C131 : Ctx:=⟨tab,sigs,21,[0,2],[],[],[],[],[]⟩
theorem q_1 (a0 : T) (y0 : T) (I0 : List T → Prop) (M0 : List T → Nat) (h : (∃ (i : List T),I0 i ∧ a0 = T.l i ∧ T.l [] = T.l [] ∧ True) ∧ (∀ (i : List T),true = true) ∧ ∀ (i : List T),I0 i → (ltI 0 (lenOf i) = true ∧ True → 0 ≤ subI .i64 (lenOf i) 1 ∧ subI .i64 (lenOf i) 1 < lenOf i) ∧ ((T.ite (ltI 0 (lenOf i)) (T.b (eqI ((i.getD (subI .i64 (lenOf i) 1).toNat T.u).cell 0).int (0 : Int))) (T.b false)).bool = true → (0 ≤ (0 : Int) ∧ 0 ≤ subI .i64 (lenOf i) 1 ∧ subI .i64 (lenOf i) 1 ≤ lenOf i) ∧ ∃ (j : List T),I0 j ∧ M0 j < M0 i ∧ T.l (List.take (subI .i64 (lenOf i) 1 - (0 : Int)).toNat (List.drop 0 i)) = T.l j ∧ T.l [] = T.l [] ∧ True) ∧ ((T.ite (ltI 0 (lenOf i)) (T.b (eqI ((i.getD (subI .i64 (lenOf i) 1).toNat T.u).cell 0).int (0 : Int))) (T.b false)).bool = false → True ∧ T.l i = y0 ∧ True)) : F 131 [.t 22 a0] (zo 1 22) [y0] :=
 F_nf C131 (by kernel_rfl) Tryz.func131 (by kernel_rfl) (.two .no (.two (.lp (fun (ia : List T) => [(a_ 0,.t 22 (.l ia)),(a_ 2,AV.t 22 (T.l []))]) I0 M0 (fun _ => .no)) .no)) (by kernel_rfl) h
def C130 : Ctx:=⟨tab,sigs,12,[0,2],[],[],[],[],[]⟩
theorem q_0 (a0 : T) (y0 : T) (h : (eqI (lenOf a0.list) 1 = true ∧ True → 0 ≤ (0 : Int) ∧ (0 : Int) < lenOf a0.list) ∧ True ∧ T.ite (eqI (lenOf a0.list) 1) (T.b (eqI ((a0.list.getD (Int.toNat (0 : Int)) T.u).cell 0).int (1 : Int))) (T.b false) = y0 ∧ True) : F 130 [.t 22 a0] (zo 1 4) [y0] :=
 F_nf C130 (by kernel_rfl) Tryz.func130 (by kernel_rfl) .no (by kernel_rfl) h
def C159 : Ctx:=⟨tab,sigs,14,[0,1,4],[],[],[],[],[]⟩
theorem r_l (a0 : T) (a1 : T) (y0 : T) (h : (leI (lenOf a0.list) a1.int = true → True ∧ T.i .u64 0 = y0 ∧ True) ∧ (leI (lenOf a0.list) a1.int = false → (Bd (a1.int) (lenOf a0.list)) ∧ True ∧ T.i .u64 (p_ .u64 ((a0.list.getD a1.int.toNat T.u).cell 0).int) = y0 ∧ True)) : F 159 [.t 22 a0,.t 2 a1] (zo 2 12) [y0] :=
 F_nf C159 (by kernel_rfl) Tryz.func159 (by kernel_rfl) .no (by kernel_rfl) h
def C160 : Ctx:=⟨tab,sigs,9,[0,2,3,6],[],[],[],[],[]⟩
theorem r_m (a0 : T) (y0 : T) (h : (ltI a0.int 0 = true → True ∧ kI (-1 : Int) = y0 ∧ True) ∧ (ltI a0.int 0 = false → (ltI 0 a0.int = true → True ∧ kI 1 = y0 ∧ True) ∧ (ltI 0 a0.int = false → True ∧ kI 0 = y0 ∧ True))) : F 160 [.t 2 a0] (zo 1 2) [y0] :=
 F_nf C160 (by kernel_rfl) Tryz.func160 (by kernel_rfl) .no (by kernel_rfl) h
def C122 : Ctx:=⟨tab,sigs,43,[0,1,4,5,6,7,8],[a_ 5],[],[],[],[]⟩
theorem q_V (a0 : T) (a1 : T) (y0 : T) (I0 : X1 → Prop) (M0 : X1 → Nat) (h : (0 ≤ (0 : Int) ∧ 0 ≤ addI .i64 (maxI (lenOf a0.list) (lenOf a1.list)) (1 : Int) ∧ (↑4 : Int) * addI .i64 (maxI (lenOf a0.list) (lenOf a1.list)) (1 : Int) ≤ (281474976710656 : Int) ∧ addI .i64 (maxI (lenOf a0.list) (lenOf a1.list)) (1 : Int) ≤ (9223372036854775807 : Int)) ∧ (∃ (i : X1),I0 i ∧ R5 a0 a1 (List.replicate (Int.toNat (0 : Int)) (T.i .u32 0) = i.2.2 ∧ T.i .u64 0 = T.i .u64 i.2.1 ∧ kI 0 = kI ↑i.1 ∧ True)) ∧ (∀ (i : X1),true = true) ∧ ∀ (i : X1),I0 i → (leI ↑i.1 (maxI (lenOf a0.list) (lenOf a1.list)) = true → ∃ y : T,F 159 [.t 22 a0,.t 2 (kI ↑i.1)] (zo 2 12) [y] ∧ ∃ y_1 : T,F 159 [.t 22 a1,.t 2 (kI ↑i.1)] (zo 2 12) [y_1] ∧ (Rm ((List.take i.2.2.length i.2.2).length + ((List.replicate 1 (T.i .u32 0)).set 0 (T.i .u32 (p_ .u32 (addI .u64 (addI .u64 y.int y_1.int) i.2.1)))).length) 4) ∧ 0 ≤ (32 : Int) ∧ ∃ (j : X1),I0 j ∧ M0 j < M0 i ∧ R5 a0 a1 (List.take i.2.2.length i.2.2 ++ (List.replicate 1 (T.i .u32 0)).set 0 (T.i .u32 (p_ .u32 (addI .u64 (addI .u64 y.int y_1.int) i.2.1))) = j.2.2 ∧ T.i .u64 (shrI .u64 (addI .u64 (addI .u64 y.int y_1.int) i.2.1) (32 : Int)) = T.i .u64 j.2.1 ∧ kI (addI .i64 ↑i.1 1) = kI ↑j.1 ∧ True)) ∧ (leI ↑i.1 (maxI (lenOf a0.list) (lenOf a1.list)) = false → ∃ y : T,F 131 [.t 22 (T.l (List.take i.2.2.length (List.drop 0 i.2.2)))] (zo 1 22) [y] ∧ True ∧ y = y0 ∧ True)) : F 122 [.t 22 a0,.t 22 a1] (zo 2 22) [y0] :=
 F_nf C122 (by kernel_rfl) Tryz.func122 (by kernel_rfl) (.two .no (.two .no (.two .no (.two (.two .no (.lp (fun (ia : X1) => [(a_ 0,AV.t 22 a0),(a_ 1,AV.t 22 a1),(a_ 4,AV.t 22 (T.l [])),(a_ 5,.own 22 0 ia.2.2),(a_ 6,.t 12 (.i .u64 ia.2.1)),(a_ 7,.t 2 (.i .i64 (ia.1 : Int)))]) I0 M0 (fun _ => .no))) .no)))) (by kernel_rfl) h
def C124 : Ctx:=⟨tab,sigs,38,[0,1,4,5,6,7,8],[a_ 5],[],[],[],[]⟩
theorem q_X (a0 : T) (a1 : T) (y0 : T) (I0 : X1 → Prop) (M0 : X1 → Nat) (h : (0 ≤ (0 : Int) ∧ 0 ≤ lenOf a0.list ∧ (↑4 : Int) * lenOf a0.list ≤ (281474976710656 : Int) ∧ lenOf a0.list ≤ (9223372036854775807 : Int)) ∧ (∃ (i : X1),I0 i ∧ R5 a0 a1 (List.replicate (Int.toNat (0 : Int)) (T.i .u32 0) = i.2.2 ∧ T.i .u64 0 = T.i .u64 i.2.1 ∧ kI 0 = kI ↑i.1 ∧ True)) ∧ (∀ (i : X1),true = true) ∧ ∀ (i : X1),I0 i → (ltI ↑i.1 (lenOf a0.list) = true → ∃ y : T,F 159 [.t 22 a0,.t 2 (kI ↑i.1)] (zo 2 12) [y] ∧ ∃ y_1 : T,F 159 [.t 22 a1,.t 2 (kI ↑i.1)] (zo 2 12) [y_1] ∧ (Rm ((List.take i.2.2.length i.2.2).length + ((List.replicate 1 (T.i .u32 0)).set 0 (T.i .u32 (p_ .u32 (subI .u64 (subI .u64 (addI .u64 y.int 4294967296) y_1.int) i.2.1)))).length) 4) ∧ 0 ≤ (32 : Int) ∧ ∃ (j : X1),I0 j ∧ M0 j < M0 i ∧ R5 a0 a1 (List.take i.2.2.length i.2.2 ++ (List.replicate 1 (T.i .u32 0)).set 0 (T.i .u32 (p_ .u32 (subI .u64 (subI .u64 (addI .u64 y.int 4294967296) y_1.int) i.2.1))) = j.2.2 ∧ T.i .u64 (subI .u64 1 (shrI .u64 (subI .u64 (subI .u64 (addI .u64 y.int 4294967296) y_1.int) i.2.1) (32 : Int))) = T.i .u64 j.2.1 ∧ kI (addI .i64 ↑i.1 1) = kI ↑j.1 ∧ True)) ∧ (ltI ↑i.1 (lenOf a0.list) = false → ∃ y : T,F 131 [.t 22 (T.l (List.take i.2.2.length (List.drop 0 i.2.2)))] (zo 1 22) [y] ∧ True ∧ y = y0 ∧ True)) : F 124 [.t 22 a0,.t 22 a1] (zo 2 22) [y0] :=
 F_nf C124 (by kernel_rfl) Tryz.func124 (by kernel_rfl) (.two .no (.two .no (.two .no (.two (.two .no (.lp (fun (ia : X1) => [(a_ 0,AV.t 22 a0),(a_ 1,AV.t 22 a1),(a_ 4,AV.t 22 (T.l [])),(a_ 5,.own 22 0 ia.2.2),(a_ 6,.t 12 (.i .u64 ia.2.1)),(a_ 7,.t 2 (.i .i64 (ia.1 : Int)))]) I0 M0 (fun _ => .no))) .no)))) (by kernel_rfl) h
def C123 : Ctx:=⟨tab,sigs,45,[0,1,4,5],[],[],[],[],[]⟩
theorem q_W (a0 : T) (a1 : T) (y0 : T) (I0 : Nat → Prop) (M0 : Nat → Nat) (h : (neI (lenOf a0.list) (lenOf a1.list) = true → ∃ y : T,F 160 [.t 2 (kI (subI .i64 (lenOf a0.list) (lenOf a1.list)))] (zo 1 2) [y] ∧ True ∧ y = y0 ∧ True) ∧ (neI (lenOf a0.list) (lenOf a1.list) = false → (∃ i : Nat,I0 i ∧ R8 a0 a1 (kI (subI .i64 (lenOf a0.list) 1) = kI ((↑i : Int) - (1 : Int)) ∧ True)) ∧ (∀ i : Nat,true = true) ∧ ∀ i : Nat,I0 i → (leI 0 ((↑i : Int) - (1 : Int)) = true → (Bd ((↑i : Int) - (1 : Int)) (lenOf a0.list)) ∧ (Bd ((↑i : Int) - (1 : Int)) (lenOf a1.list)) ∧ (neI ((a0.list.getD ((↑i : Int) - (1 : Int)).toNat T.u).cell 0).int ((a1.list.getD ((↑i : Int) - (1 : Int)).toNat T.u).cell 0).int = true → (Bd ((↑i : Int) - (1 : Int)) (lenOf a0.list)) ∧ (Bd ((↑i : Int) - (1 : Int)) (lenOf a1.list)) ∧ ∃ y : T,F 160 [.t 2 (kI (subI .i64 (p_ .i64 ((a0.list.getD ((↑i : Int) - (1 : Int)).toNat T.u).cell 0).int) (p_ .i64 ((a1.list.getD ((↑i : Int) - (1 : Int)).toNat T.u).cell 0).int)))] (zo 1 2) [y] ∧ True ∧ y = y0 ∧ True) ∧ (neI ((a0.list.getD ((↑i : Int) - (1 : Int)).toNat T.u).cell 0).int ((a1.list.getD ((↑i : Int) - (1 : Int)).toNat T.u).cell 0).int = false → ∃ j : Nat,I0 j ∧ M0 j < M0 i ∧ R8 a0 a1 (kI (subI .i64 ((↑i : Int) - (1 : Int)) (1 : Int)) = kI ((↑j : Int) - (1 : Int)) ∧ True))) ∧ (leI 0 ((↑i : Int) - (1 : Int)) = false → True ∧ kI 0 = y0 ∧ True))) : F 123 [.t 22 a0,.t 22 a1] (zo 2 2) [y0] :=
 F_nf C123 (by kernel_rfl) Tryz.func123 (by kernel_rfl) (.two .no (.two .no (.two (.two .no (.lp (fun (ia : Nat) => [(a_ 0,AV.t 22 a0),(a_ 1,AV.t 22 a1),(a_ 4,AV.t 2 (T.i IntKind.i64 (0 : Int))),(a_ 5,.t 2 (.i .i64 ((ia : Int) - 1)))]) I0 M0 (fun _ => .no))) .no))) (by kernel_rfl) h
def C154 : Ctx:=⟨tab,sigs,19,[0,1,4,5,6],[],[],[],[],[]⟩
theorem r_h (a0 : T) (a1 : T) (y0 : T) (I0 : (T × T) → Prop) (M0 : (T × T) → Nat) (h : (∃ (i : T × T),I0 i ∧ a0 = i.1 ∧ a1 = i.2 ∧ T.l [] = T.l [] ∧ True) ∧ (∀ (i : T × T),true = true) ∧ ∀ (i : T × T),I0 i → (ltI 0 (lenOf i.2.list) = true → ∃ y y_1 : T,F 191 [.t 22 i.1,.t 22 i.2] Z3 [y,y_1] ∧ ∃ (j : T × T),I0 j ∧ M0 j < M0 i ∧ i.2 = j.1 ∧ y_1 = j.2 ∧ T.l [] = T.l [] ∧ True) ∧ (ltI 0 (lenOf i.2.list) = false → True ∧ i.1 = y0 ∧ True)) : F 154 [.t 22 a0,.t 22 a1] (zo 2 22) [y0] :=
 F_nf C154 (by kernel_rfl) Tryz.func154 (by kernel_rfl) (.two .no (.two (.lp (fun (ia : T × T) => [(a_ 0,.t 22 ia.1),(a_ 1,.t 22 ia.2),(a_ 4,AV.t 22 (T.l []))]) I0 M0 (fun _ => .no)) .no)) (by kernel_rfl) h
def C191 : Ctx:=⟨tab,sigs,111,[0,1,4,5,6,7,8,9,10,11,12,13,14],[a_ 4],[],[],[],[]⟩
theorem r_B (a0 : T) (a1 : T) (y0 : T) (y1 : T) (I0 : X3 → Prop) (M0 : X3 → Nat) (I1 : X3 → (Int × T) → Prop) (M1 : X3 → (Int × T) → Nat) (h : (eqI (lenOf a1.list) 1 = true → (Bd (0 : Int) (lenOf a1.list)) ∧ ∃ y y_1 : T,F 205 [.t 22 a0,.t 155 ((a1.list.getD (Int.toNat (0 : Int)) T.u).cell 0)] Z4 [y,y_1] ∧ ∃ y_2 : T,F 189 [.t 22 (T.l ((List.replicate 1 (T.i .u32 0)).set 0 y_1))] (zo 1 22) [y_2] ∧ True ∧ y = y0 ∧ y_2 = y1 ∧ True) ∧ (eqI (lenOf a1.list) 1 = false → ∃ y : T,F 206 [.t 22 a1] (zo 1 2) [y] ∧ ∃ y_1 : T,F 207 [.t 22 a0,.t 2 (kI (subI .i64 (mulI .i64 32 (lenOf a1.list)) y.int))] (zo 2 22) [y_1] ∧ ∃ y_2 : T,F 207 [.t 22 a1,.t 2 (kI (subI .i64 (mulI .i64 32 (lenOf a1.list)) y.int))] (zo 2 22) [y_2] ∧ (0 ≤ maxI (0 : Int) (addI .i64 (subI .i64 (lenOf y_1.list) (lenOf y_2.list)) (1 : Int)) ∧ maxI (0 : Int) (addI .i64 (subI .i64 (lenOf y_1.list) (lenOf y_2.list)) (1 : Int)) ≤ maxI (0 : Int) (addI .i64 (subI .i64 (lenOf y_1.list) (lenOf y_2.list)) (1 : Int)) ∧ (↑4 : Int) * maxI (0 : Int) (addI .i64 (subI .i64 (lenOf y_1.list) (lenOf y_2.list)) (1 : Int)) ≤ (281474976710656 : Int) ∧ maxI (0 : Int) (addI .i64 (subI .i64 (lenOf y_1.list) (lenOf y_2.list)) (1 : Int)) ≤ (9223372036854775807 : Int)) ∧ (∃ (i : X3),I0 i ∧ a0 = a0 ∧ a1 = a1 ∧ List.replicate (maxI (0 : Int) (addI .i64 (subI .i64 (lenOf y_1.list) (lenOf y_2.list)) (1 : Int))).toNat (T.i .u32 0) = i.2.2.2.2 ∧ T.l [] = T.l [] ∧ kI (subI .i64 (mulI .i64 32 (lenOf a1.list)) y.int) = i.2.2.2.1 ∧ y_1 = i.2.1 ∧ y_2 = i.2.2.1 ∧ kI (subI .i64 (↑(List.replicate (maxI (0 : Int) (addI .i64 (subI .i64 (lenOf y_1.list) (lenOf y_2.list)) (1 : Int))).toNat (T.i .u32 0)).length : Int) (1 : Int)) = kI ((↑i.1 : Int) - (1 : Int)) ∧ True) ∧ (∀ (i : X3),true = true) ∧ ∀ (i : X3),I0 i → (leI 0 ((↑i.1 : Int) - (1 : Int)) = true → ∃ y : T,F 192 [.t 22 i.2.1,.t 2 (kI (addI .i64 ((↑i.1 : Int) - (1 : Int)) (lenOf i.2.2.1.list)))] (zo 2 12) [y] ∧ 0 ≤ (32 : Int) ∧ ∃ y_3 : T,F 192 [.t 22 i.2.1,.t 2 (kI (subI .i64 (addI .i64 ((↑i.1 : Int) - (1 : Int)) (lenOf i.2.2.1.list)) (1 : Int)))] (zo 2 12) [y_3] ∧ ∃ y_4 : T,F 192 [.t 22 i.2.2.1,.t 2 (kI (subI .i64 (lenOf i.2.2.1.list) 1))] (zo 2 12) [y_4] ∧ y_4.int ≠ (0 : Int) ∧ ∃ y_5 : T,F 189 [.t 22 (T.l ((List.replicate 1 (T.i .u32 0)).set 0 (T.i .u32 (p_ .u32 (minI (quoI .u64 (a_J BinOp.or .u64 (shlI .u64 y.int 32) y_3.int) y_4.int) (4294967295 : Int))))))] (zo 1 22) [y_5] ∧ ∃ y_6 : T,F 196 [.t 22 i.2.2.1,.t 22 y_5] (zo 2 22) [y_6] ∧ ∃ y_7 : T,F 207 [.t 22 y_6,.t 2 (kI (mulI .i64 32 ((↑i.1 : Int) - (1 : Int))))] (zo 2 22) [y_7] ∧ (∃ (i_1 : Int × T),I1 i i_1 ∧ R9 a0 a1 i.2.2.2.2 i.2.2.2.1 i.2.1 i.2.2.1 i.1 (T.i .u64 (minI (quoI .u64 (a_J BinOp.or .u64 (shlI .u64 y.int 32) y_3.int) y_4.int) (4294967295 : Int)) = T.i .u64 i_1.1 ∧ y_7 = i_1.2 ∧ True)) ∧ (∀ (i : Int × T),true = true) ∧ ∀ (i_1 : Int × T),I1 i i_1 → ∃ y : T,F 152 [.t 22 i.2.1,.t 22 i_1.2] (zo 2 2) [y] ∧ (ltI y.int 0 = true → ∃ y : T,F 207 [.t 22 i.2.2.1,.t 2 (kI (mulI .i64 32 ((↑i.1 : Int) - (1 : Int))))] (zo 2 22) [y] ∧ ∃ y_8 : T,F 208 [.t 22 i_1.2,.t 22 y] (zo 2 22) [y_8] ∧ ∃ (j : Int × T),I1 i j ∧ M1 i j < M1 i i_1 ∧ R9 a0 a1 i.2.2.2.2 i.2.2.2.1 i.2.1 i.2.2.1 i.1 (T.i .u64 (subI .u64 i_1.1 1) = T.i .u64 j.1 ∧ y_8 = j.2 ∧ True)) ∧ (ltI y.int 0 = false → ∃ y : T,F 208 [.t 22 i.2.1,.t 22 i_1.2] (zo 2 22) [y] ∧ (Bd ((↑i.1 : Int) - (1 : Int)) (↑i.2.2.2.2.length : Int)) ∧ ∃ (j : X3),I0 j ∧ M0 j < M0 i ∧ a0 = a0 ∧ a1 = a1 ∧ i.2.2.2.2.set (0 + ((↑i.1 : Int) - (1 : Int)).toNat) (T.i .u32 (p_ .u32 i_1.1)) = j.2.2.2.2 ∧ T.l [] = T.l [] ∧ i.2.2.2.1 = j.2.2.2.1 ∧ y = j.2.1 ∧ i.2.2.1 = j.2.2.1 ∧ kI (subI .i64 ((↑i.1 : Int) - (1 : Int)) (1 : Int)) = kI ((↑j.1 : Int) - (1 : Int)) ∧ True)) ∧ (leI 0 ((↑i.1 : Int) - (1 : Int)) = false → ∃ y : T,F 189 [.t 22 (T.l (List.take i.2.2.2.2.length (List.drop 0 i.2.2.2.2)))] (zo 1 22) [y] ∧ ∃ y_3 : T,F 209 [.t 22 i.2.1,.t 2 i.2.2.2.1] (zo 2 22) [y_3] ∧ True ∧ y = y0 ∧ y_3 = y1 ∧ True))) : F 191 [.t 22 a0,.t 22 a1] Z3 [y0,y1] :=
 F_nf C191 (by kernel_rfl) Tryz.func191 (by kernel_rfl) (.two .no (.two .no (.two .no (.two .no (.two .no (.two (.two .no (.lp (fun (ia : X3) => [(a_ 0,AV.t 22 a0),(a_ 1,AV.t 22 a1),(a_ 4,.own 22 0 ia.2.2.2.2),(a_ 5,AV.t 22 (T.l [])),(a_ 8,.t 2 ia.2.2.2.1),(a_ 9,.t 22 ia.2.1),(a_ 10,.t 22 ia.2.2.1),(a_ 11,.t 2 (.i .i64 ((ia.1 : Int) - 1)))]) I0 M0 (fun (ia : X3) => (.two .no (.two (.two .no (.two .no (.two .no (.two (.lp (fun (ib : Int × T) => [(a_ 0,AV.t 22 a0),(a_ 1,AV.t 22 a1),(a_ 4,AV.own 22 0 ia.2.2.2.2),(a_ 5,AV.t 22 (T.l [])),(a_ 8,AV.t 2 ia.2.2.2.1),(a_ 9,AV.t 22 ia.2.1),(a_ 10,AV.t 22 ia.2.2.1),(a_ 11,AV.t 2 (T.i IntKind.i64 ((↑ia.1 : Int) - (1 : Int)))),(a_ 12,AV.t 2 (T.i IntKind.i64 (addI IntKind.i64 ((↑ia.1 : Int) - (1 : Int)) (lenOf ia.2.2.1.list)))),(a_ 13,.t 12 (.i .u64 ib.1)),(a_ 14,.t 22 ib.2)]) (I1 ia) (M1 ia) (fun _ => .no)) .no)))) .no))))) .no)))))) (by kernel_rfl) h
def C214 : Ctx:=⟨tab,sigs,6,[0,2],[],[],[],[],[]⟩
theorem r_M (a0 : T) (y0 : T) (h : ∃ y : T,F 216 [.t 155 a0] (zo 1 2) [y] ∧ True ∧ kI (subI .i64 32 y.int) = y0 ∧ True) : F 214 [.t 155 a0] (zo 1 2) [y0] :=
 F_nf C214 (by kernel_rfl) Tryz.func214 (by kernel_rfl) .no (by kernel_rfl) h
def C216 : Ctx:=⟨tab,sigs,19,[0,2],[],[],[],[],[]⟩
def str216 : List Nat:=[0,1,2,2,3,3,3,3,4,4,4,4,4,4,4,4,5,5,5,5,5,5,5,5,5,5,5,5,5,5,5,5,6,6,6,6,6,6,6,6,6,6,6,6,6,6,6,6,6,6,6,6,6,6,6,6,6,6,6,6,6,6,6,6,7,7,7,7,7,7,7,7,7,7,7,7,7,7,7,7,7,7,7,7,7,7,7,7,7,7,7,7,7,7,7,7,7,7,7,7,7,7,7,7,7,7,7,7,7,7,7,7,7,7,7,7,7,7,7,7,7,7,7,7,7,7,7,7,8,8,8,8,8,8,8,8,8,8,8,8,8,8,8,8,8,8,8,8,8,8,8,8,8,8,8,8,8,8,8,8,8,8,8,8,8,8,8,8,8,8,8,8,8,8,8,8,8,8,8,8,8,8,8,8,8,8,8,8,8,8,8,8,8,8,8,8,8,8,8,8,8,8,8,8,8,8,8,8,8,8,8,8,8,8,8,8,8,8,8,8,8,8,8,8,8,8,8,8,8,8,8,8,8,8,8,8,8,8,8,8,8,8,8,8,8,8,8,8,8,8,8,8,8,8,8,8]
theorem r_N (a0 : T) (y0 : T) (h : (leI 65536 a0.int = true → 0 ≤ (16 : Int) ∧ (leI 256 (shrI .u32 a0.int 16) = true → 0 ≤ (8 : Int) ∧ (Bd (p_ .u8 (shrI .u32 (shrI .u32 a0.int 16) (8 : Int))) (↑(bs str216).size : Int)) ∧ True ∧ kI (addI .i64 (addI .i64 16 8) (p_ .i64 (f_8 (bs str216) (p_ .u8 (shrI .u32 (shrI .u32 a0.int 16) (8 : Int)))))) = y0 ∧ True) ∧ (leI 256 (shrI .u32 a0.int 16) = false → (Bd (p_ .u8 (shrI .u32 a0.int 16)) (↑(bs str216).size : Int)) ∧ True ∧ kI (addI .i64 16 (p_ .i64 (f_8 (bs str216) (p_ .u8 (shrI .u32 a0.int 16))))) = y0 ∧ True)) ∧ (leI 65536 a0.int = false → (leI 256 a0.int = true → 0 ≤ (8 : Int) ∧ (Bd (p_ .u8 (shrI .u32 a0.int 8)) (↑(bs str216).size : Int)) ∧ True ∧ kI (addI .i64 (addI .i64 0 8) (p_ .i64 (f_8 (bs str216) (p_ .u8 (shrI .u32 a0.int 8))))) = y0 ∧ True) ∧ (leI 256 a0.int = false → (Bd (p_ .u8 a0.int) (↑(bs str216).size : Int)) ∧ True ∧ kI (addI .i64 0 (p_ .i64 (f_8 (bs str216) (p_ .u8 a0.int)))) = y0 ∧ True))) : F 216 [.t 155 a0] (zo 1 2) [y0] :=
 F_nf C216 (by kernel_rfl) Tryz.func216 (by kernel_rfl) .no (by kernel_rfl) h
def C205 : Ctx:=⟨tab,sigs,43,[0,1,4,5,6,7,8],[a_ 6],[],[],[],[]⟩
theorem r_G (a0 : T) (a1 : T) (y0 : T) (y1 : T) (I0 : X1 → Prop) (M0 : X1 → Nat) (h : (0 ≤ lenOf a0.list ∧ lenOf a0.list ≤ lenOf a0.list ∧ (↑4 : Int) * lenOf a0.list ≤ (281474976710656 : Int) ∧ lenOf a0.list ≤ (9223372036854775807 : Int)) ∧ (∃ (i : X1),I0 i ∧ R5 a0 a1 (T.i .u32 0 = T.i .u32 0 ∧ List.replicate (lenOf a0.list).toNat (T.i .u32 0) = i.2.2 ∧ T.i .u64 0 = T.i .u64 i.2.1 ∧ kI (subI .i64 (lenOf a0.list) 1) = kI ((↑i.1 : Int) - (1 : Int)) ∧ True)) ∧ (∀ (i : X1),true = true) ∧ ∀ (i : X1),I0 i → (leI 0 ((↑i.1 : Int) - (1 : Int)) = true → 0 ≤ (32 : Int) ∧ (Bd ((↑i.1 : Int) - (1 : Int)) (lenOf a0.list)) ∧ p_ .u64 a1.int ≠ (0 : Int) ∧ (Bd ((↑i.1 : Int) - (1 : Int)) (↑i.2.2.length : Int)) ∧ p_ .u64 a1.int ≠ (0 : Int) ∧ ∃ (j : X1),I0 j ∧ M0 j < M0 i ∧ R5 a0 a1 (T.i .u32 0 = T.i .u32 0 ∧ i.2.2.set (0 + ((↑i.1 : Int) - (1 : Int)).toNat) (T.i .u32 (p_ .u32 (quoI .u64 (a_J BinOp.or .u64 (shlI .u64 i.2.1 32) (p_ .u64 ((a0.list.getD ((↑i.1 : Int) - (1 : Int)).toNat T.u).cell 0).int)) (p_ .u64 a1.int)))) = j.2.2 ∧ T.i .u64 (remI (a_J BinOp.or .u64 (shlI .u64 i.2.1 32) (p_ .u64 ((a0.list.getD ((↑i.1 : Int) - (1 : Int)).toNat T.u).cell 0).int)) (p_ .u64 a1.int)) = T.i .u64 j.2.1 ∧ kI (subI .i64 ((↑i.1 : Int) - (1 : Int)) (1 : Int)) = kI ((↑j.1 : Int) - (1 : Int)) ∧ True)) ∧ (leI 0 ((↑i.1 : Int) - (1 : Int)) = false → ∃ y : T,F 189 [.t 22 (T.l (List.take i.2.2.length (List.drop 0 i.2.2)))] (zo 1 22) [y] ∧ True ∧ y = y0 ∧ T.i .u32 (p_ .u32 i.2.1) = y1 ∧ True)) : F 205 [.t 22 a0,.t 155 a1] Z4 [y0,y1] :=
 F_nf C205 (by kernel_rfl) Tryz.func205 (by kernel_rfl) (.two .no (.two .no (.two (.two .no (.lp (fun (ia : X1) => [(a_ 0,AV.t 22 a0),(a_ 1,AV.t 155 a1),(a_ 4,AV.t 22 (T.l [])),(a_ 5,AV.t 155 (T.i IntKind.u32 (0 : Int))),(a_ 6,.own 22 0 ia.2.2),(a_ 7,.t 12 (.i .u64 ia.2.1)),(a_ 8,.t 2 (.i .i64 ((ia.1 : Int) - 1)))]) I0 M0 (fun _ => .no))) .no))) (by kernel_rfl) h
def C207 : Ctx:=⟨tab,sigs,45,[0,1,4,5,6,8,18,19,20],[a_ 5],[],[],[],[]⟩
theorem r_I (a0 : T) (a1 : T) (y0 : T) (I0 : X1 → Prop) (M0 : X1 → Nat) (h : (32 : Int) ≠ (0 : Int) ∧ (32 : Int) ≠ (0 : Int) ∧ (0 ≤ quoI .i64 a1.int 32 ∧ quoI .i64 a1.int 32 ≤ addI .i64 (addI .i64 (quoI .i64 a1.int 32) (lenOf a0.list)) (1 : Int) ∧ (↑4 : Int) * addI .i64 (addI .i64 (quoI .i64 a1.int 32) (lenOf a0.list)) (1 : Int) ≤ (281474976710656 : Int) ∧ addI .i64 (addI .i64 (quoI .i64 a1.int 32) (lenOf a0.list)) (1 : Int) ≤ (9223372036854775807 : Int)) ∧ (∃ (i : X1),I0 i ∧ R5 a0 a1 (List.replicate (quoI .i64 a1.int 32).toNat (T.i .u32 0) = i.2.2 ∧ T.i .u64 0 = T.i .u64 i.2.1 ∧ R10 a0 (kI 0 = kI ↑i.1 ∧ True))) ∧ (∀ (i : X1),true = true) ∧ ∀ (i : X1),I0 i → (ltI ↑i.1 (lenOf a0.list) = true → (Bd ↑i.1 (lenOf a0.list)) ∧ (32 : Int) ≠ (0 : Int) ∧ 0 ≤ remI a1.int (32 : Int) ∧ (Rm ((List.take i.2.2.length i.2.2).length + ((List.replicate 1 (T.i .u32 0)).set 0 (T.i .u32 (p_ .u32 (a_J BinOp.or .u64 i.2.1 (shlI .u64 (p_ .u64 ((a0.list.getD (↑i.1 : Int).toNat T.u).cell 0).int) (remI a1.int (32 : Int))))))).length) 4) ∧ 0 ≤ (32 : Int) ∧ ∃ (j : X1),I0 j ∧ M0 j < M0 i ∧ R5 a0 a1 (List.take i.2.2.length i.2.2 ++ (List.replicate 1 (T.i .u32 0)).set 0 (T.i .u32 (p_ .u32 (a_J BinOp.or .u64 i.2.1 (shlI .u64 (p_ .u64 ((a0.list.getD (↑i.1 : Int).toNat T.u).cell 0).int) (remI a1.int (32 : Int)))))) = j.2.2 ∧ T.i .u64 (shrI .u64 (a_J BinOp.or .u64 i.2.1 (shlI .u64 (p_ .u64 ((a0.list.getD (↑i.1 : Int).toNat T.u).cell 0).int) (remI a1.int (32 : Int)))) (32 : Int)) = T.i .u64 j.2.1 ∧ R10 a0 (kI (addI .i64 ↑i.1 1) = kI ↑j.1 ∧ True))) ∧ (ltI ↑i.1 (lenOf a0.list) = false → (Rm ((List.take i.2.2.length i.2.2).length + ((List.replicate 1 (T.i .u32 0)).set 0 (T.i .u32 (p_ .u32 i.2.1))).length) 4) ∧ ∃ y : T,F 189 [.t 22 (T.l (List.take i.2.2.length i.2.2 ++ (List.replicate 1 (T.i .u32 0)).set 0 (T.i .u32 (p_ .u32 i.2.1))))] (zo 1 22) [y] ∧ True ∧ y = y0 ∧ True)) : F 207 [.t 22 a0,.t 2 a1] (zo 2 22) [y0] :=
 F_nf C207 (by kernel_rfl) Tryz.func207 (by kernel_rfl) (.two .no (.two .no (.two .no (.two (.two .no (.lp (fun (ia : X1) => [(a_ 0,AV.t 22 a0),(a_ 1,AV.t 2 a1),(a_ 4,AV.t 22 (T.l [])),(a_ 5,.own 22 0 ia.2.2),(a_ 6,.t 12 (.i .u64 ia.2.1)),(a_ 18,AV.t 22 a0),(a_ 19,AV.t 2 (T.i IntKind.i64 (lenOf a0.list))),(a_ 20,.t 2 (.i .i64 (ia.1 : Int)))]) I0 M0 (fun _ => .no))) .no)))) (by kernel_rfl) h
def C209 : Ctx:=⟨tab,sigs,33,[0,1,4,5,6],[a_ 5],[],[],[],[]⟩
theorem r_K (a0 : T) (a1 : T) (y0 : T) (I0 : (Nat × List T) → Prop) (M0 : (Nat × List T) → Nat) (h : (32 : Int) ≠ (0 : Int) ∧ (∃ (i : Nat × List T),I0 i ∧ R5 a0 a1 ([] = i.2 ∧ kI (quoI .i64 a1.int 32) = kI ↑i.1 ∧ True)) ∧ (∀ (i : Nat × List T),true = true) ∧ ∀ (i : Nat × List T),I0 i → (ltI ↑i.1 (lenOf a0.list) = true → ∃ y : T,F 192 [.t 22 a0,.t 2 (kI (addI .i64 ↑i.1 1))] (zo 2 12) [y] ∧ 0 ≤ (32 : Int) ∧ ∃ y_1 : T,F 192 [.t 22 a0,.t 2 (kI ↑i.1)] (zo 2 12) [y_1] ∧ (32 : Int) ≠ (0 : Int) ∧ 0 ≤ remI a1.int (32 : Int) ∧ (Rm ((List.take i.2.length i.2).length + ((List.replicate 1 (T.i .u32 0)).set 0 (T.i .u32 (p_ .u32 (shrI .u64 (a_J BinOp.or .u64 (shlI .u64 y.int 32) y_1.int) (remI a1.int (32 : Int)))))).length) 4) ∧ ∃ (j : Nat × List T),I0 j ∧ M0 j < M0 i ∧ R5 a0 a1 (List.take i.2.length i.2 ++ (List.replicate 1 (T.i .u32 0)).set 0 (T.i .u32 (p_ .u32 (shrI .u64 (a_J BinOp.or .u64 (shlI .u64 y.int 32) y_1.int) (remI a1.int (32 : Int))))) = j.2 ∧ kI (addI .i64 ↑i.1 1) = kI ↑j.1 ∧ True)) ∧ (ltI ↑i.1 (lenOf a0.list) = false → ∃ y : T,F 189 [.t 22 (T.l (List.take i.2.length (List.drop 0 i.2)))] (zo 1 22) [y] ∧ True ∧ y = y0 ∧ True)) : F 209 [.t 22 a0,.t 2 a1] (zo 2 22) [y0] :=
 F_nf C209 (by kernel_rfl) Tryz.func209 (by kernel_rfl) (.two .no (.two .no (.two (.two .no (.lp (fun (ia : Nat × List T) => [(a_ 0,AV.t 22 a0),(a_ 1,AV.t 2 a1),(a_ 4,AV.t 22 (T.l [])),(a_ 5,.own 22 0 ia.2),(a_ 6,.t 2 (.i .i64 (ia.1 : Int)))]) I0 M0 (fun _ => .no))) .no))) (by kernel_rfl) h
def C208 : Ctx:=⟨tab,sigs,36,[0,1,4,5,6,7,8,13,14],[a_ 5],[],[],[],[]⟩
theorem r_J (a0 : T) (a1 : T) (y0 : T) (I0 : X1 → Prop) (M0 : X1 → Nat) (h : (0 ≤ lenOf a0.list ∧ lenOf a0.list ≤ lenOf a0.list ∧ (↑4 : Int) * lenOf a0.list ≤ (281474976710656 : Int) ∧ lenOf a0.list ≤ (9223372036854775807 : Int)) ∧ (∃ (i : X1),I0 i ∧ R5 a0 a1 (List.replicate (lenOf a0.list).toNat (T.i .u32 0) = i.2.2 ∧ T.i .u64 0 = T.i .u64 i.2.1 ∧ kI (lenOf a0.list) = kI (lenOf a0.list) ∧ kI 0 = kI ↑i.1 ∧ True)) ∧ (∀ (i : X1),true = true) ∧ ∀ (i : X1),I0 i → (ltI ↑i.1 (lenOf a0.list) = true → ∃ y : T,F 192 [.t 22 a0,.t 2 (kI ↑i.1)] (zo 2 12) [y] ∧ ∃ y_1 : T,F 192 [.t 22 a1,.t 2 (kI ↑i.1)] (zo 2 12) [y_1] ∧ 0 ≤ (63 : Int) ∧ (Bd ↑i.1 (↑i.2.2.length : Int)) ∧ ∃ (j : X1),I0 j ∧ M0 j < M0 i ∧ R5 a0 a1 (i.2.2.set (0 + (↑i.1 : Int).toNat) (T.i .u32 (p_ .u32 (subI .u64 (subI .u64 y.int y_1.int) i.2.1))) = j.2.2 ∧ T.i .u64 (shrI .u64 (subI .u64 (subI .u64 y.int y_1.int) i.2.1) (63 : Int)) = T.i .u64 j.2.1 ∧ kI (lenOf a0.list) = kI (lenOf a0.list) ∧ kI (addI .i64 ↑i.1 1) = kI ↑j.1 ∧ True)) ∧ (ltI ↑i.1 (lenOf a0.list) = false → ∃ y : T,F 189 [.t 22 (T.l (List.take i.2.2.length (List.drop 0 i.2.2)))] (zo 1 22) [y] ∧ True ∧ y = y0 ∧ True)) : F 208 [.t 22 a0,.t 22 a1] (zo 2 22) [y0] :=
 F_nf C208 (by kernel_rfl) Tryz.func208 (by kernel_rfl) (.two .no (.two .no (.two .no (.two (.two .no (.lp (fun (ia : X1) => [(a_ 0,AV.t 22 a0),(a_ 1,AV.t 22 a1),(a_ 4,AV.t 22 (T.l [])),(a_ 5,.own 22 0 ia.2.2),(a_ 6,.t 12 (.i .u64 ia.2.1)),(a_ 13,AV.t 2 (T.i IntKind.i64 (lenOf a0.list))),(a_ 14,.t 2 (.i .i64 (ia.1 : Int)))]) I0 M0 (fun _ => .no))) .no)))) (by kernel_rfl) h
def C196 : Ctx:=⟨tab,sigs,59,[0,1,4,5,6,7,8,16,17],[a_ 5],[],[],[],[]⟩
theorem r_E (a0 : T) (a1 : T) (y0 : T) (I0 : (Nat × List T) → Prop) (M0 : (Nat × List T) → Nat) (I1 : (Nat × List T) → X1 → Prop) (M1 : (Nat × List T) → X1 → Nat) (h : (0 ≤ addI .i64 (lenOf a0.list) (lenOf a1.list) ∧ addI .i64 (lenOf a0.list) (lenOf a1.list) ≤ addI .i64 (lenOf a0.list) (lenOf a1.list) ∧ (↑4 : Int) * addI .i64 (lenOf a0.list) (lenOf a1.list) ≤ (281474976710656 : Int) ∧ addI .i64 (lenOf a0.list) (lenOf a1.list) ≤ (9223372036854775807 : Int)) ∧ (∃ (i : Nat × List T),I0 i ∧ R5 a0 a1 (List.replicate (addI .i64 (lenOf a0.list) (lenOf a1.list)).toNat (T.i .u32 0) = i.2 ∧ kI (lenOf a0.list) = kI (lenOf a0.list) ∧ kI 0 = kI ↑i.1 ∧ True)) ∧ (∀ (i : Nat × List T),true = true) ∧ ∀ (i : Nat × List T),I0 i → (ltI ↑i.1 (lenOf a0.list) = true → (∃ (i_1 : X1),I1 i i_1 ∧ R5 a0 a1 (i.2 = i_1.2.2 ∧ R11 a0 i.1 (T.i .u64 0 = T.i .u64 i_1.2.1 ∧ kI 0 = kI ↑i_1.1 ∧ True))) ∧ (∀ (i : X1),true = true) ∧ ∀ (i_1 : X1),I1 i i_1 → ((T.ite (ltI ↑i_1.1 (lenOf a1.list)) (T.b true) (T.b (ltI 0 i_1.2.1))).bool = true → (Bd (addI .i64 ↑i.1 (↑i_1.1 : Int)) (↑i_1.2.2.length : Int)) ∧ ∃ y : T,F 192 [.t 22 a0,.t 2 (kI ↑i.1)] (zo 2 12) [y] ∧ ∃ y_1 : T,F 192 [.t 22 a1,.t 2 (kI ↑i_1.1)] (zo 2 12) [y_1] ∧ (Bd (addI .i64 ↑i.1 (↑i_1.1 : Int)) (↑i_1.2.2.length : Int)) ∧ 0 ≤ (32 : Int) ∧ ∃ (j : X1),I1 i j ∧ M1 i j < M1 i i_1 ∧ R5 a0 a1 (i_1.2.2.set (0 + (addI .i64 ↑i.1 (↑i_1.1 : Int)).toNat) (T.i .u32 (p_ .u32 (addI .u64 i_1.2.1 (addI .u64 (p_ .u64 ((i_1.2.2.getD (0 + (addI .i64 ↑i.1 (↑i_1.1 : Int)).toNat) T.u).cell 0).int) (mulI .u64 y.int y_1.int))))) = j.2.2 ∧ R11 a0 i.1 (T.i .u64 (shrI .u64 (addI .u64 i_1.2.1 (addI .u64 (p_ .u64 ((i_1.2.2.getD (0 + (addI .i64 ↑i.1 (↑i_1.1 : Int)).toNat) T.u).cell 0).int) (mulI .u64 y.int y_1.int))) (32 : Int)) = T.i .u64 j.2.1 ∧ kI (addI .i64 ↑i_1.1 1) = kI ↑j.1 ∧ True))) ∧ ((T.ite (ltI ↑i_1.1 (lenOf a1.list)) (T.b true) (T.b (ltI 0 i_1.2.1))).bool = false → ∃ (j : Nat × List T),I0 j ∧ M0 j < M0 i ∧ R5 a0 a1 (i_1.2.2 = j.2 ∧ kI (lenOf a0.list) = kI (lenOf a0.list) ∧ kI (addI .i64 ↑i.1 1) = kI ↑j.1 ∧ True))) ∧ (ltI ↑i.1 (lenOf a0.list) = false → ∃ y : T,F 189 [.t 22 (T.l (List.take i.2.length (List.drop 0 i.2)))] (zo 1 22) [y] ∧ True ∧ y = y0 ∧ True)) : F 196 [.t 22 a0,.t 22 a1] (zo 2 22) [y0] :=
 F_nf C196 (by kernel_rfl) Tryz.func196 (by kernel_rfl) (.two .no (.two .no (.two (.two .no (.lp (fun (ia : Nat × List T) => [(a_ 0,AV.t 22 a0),(a_ 1,AV.t 22 a1),(a_ 4,AV.t 22 (T.l [])),(a_ 5,.own 22 0 ia.2),(a_ 16,AV.t 2 (T.i IntKind.i64 (lenOf a0.list))),(a_ 17,.t 2 (.i .i64 (ia.1 : Int)))]) I0 M0 (fun (ia : Nat × List T) => (.two .no (.two .no (.two (.two .no (.two .no (.two .no (.lp (fun (ib : X1) => [(a_ 0,AV.t 22 a0),(a_ 1,AV.t 22 a1),(a_ 4,AV.t 22 (T.l [])),(a_ 5,.own 22 0 ib.2.2),(a_ 16,AV.t 2 (T.i IntKind.i64 (lenOf a0.list))),(a_ 17,AV.t 2 (T.i IntKind.i64 (↑ia.1 : Int))),(a_ 6,AV.t 2 (T.i IntKind.i64 (↑ia.1 : Int))),(a_ 7,.t 12 (.i .u64 ib.2.1)),(a_ 8,.t 2 (.i .i64 (ib.1 : Int)))]) (I1 ia) (M1 ia) (fun _ => .no))))) .no)))))) .no))) (by kernel_rfl) h
def C206 : Ctx:=⟨tab,sigs,17,[0,2],[],[],[],[],[]⟩
theorem r_H (a0 : T) (y0 : T) (h : (eqI (lenOf a0.list) 0 = true → True ∧ kI 0 = y0 ∧ True) ∧ (eqI (lenOf a0.list) 0 = false → (Bd (subI .i64 (lenOf a0.list) 1) (lenOf a0.list)) ∧ ∃ y : T,F 214 [.t 155 ((a0.list.getD (subI .i64 (lenOf a0.list) 1).toNat T.u).cell 0)] (zo 1 2) [y] ∧ True ∧ kI (subI .i64 (mulI .i64 32 (lenOf a0.list)) y.int) = y0 ∧ True)) : F 206 [.t 22 a0] (zo 1 2) [y0] :=
 F_nf C206 (by kernel_rfl) Tryz.func206 (by kernel_rfl) .no (by kernel_rfl) h
def C153 : Ctx:=⟨tab,sigs,2,[0],[],[],[],[],[]⟩
theorem r_g  (y0 : T) (h : True ∧ T.l ((List.replicate 1 (T.i .u32 0)).set 0 (T.i .u32 1)) = y0 ∧ True) : F 153 [] (zo 0 22) [y0] :=
 F_nf C153 (by kernel_rfl) Tryz.func153 (by kernel_rfl) .no (by kernel_rfl) h
def C189 : Ctx:=⟨tab,sigs,21,[0,2],[],[],[],[],[]⟩
theorem r_z (a0 : T) (y0 : T) (I0 : List T → Prop) (M0 : List T → Nat) (h : (∃ (i : List T),I0 i ∧ a0 = T.l i ∧ T.l [] = T.l [] ∧ True) ∧ (∀ (i : List T),true = true) ∧ ∀ (i : List T),I0 i → (ltI 0 (lenOf i) = true ∧ True → 0 ≤ subI .i64 (lenOf i) 1 ∧ subI .i64 (lenOf i) 1 < lenOf i) ∧ ((T.ite (ltI 0 (lenOf i)) (T.b (eqI ((i.getD (subI .i64 (lenOf i) 1).toNat T.u).cell 0).int (0 : Int))) (T.b false)).bool = true → (0 ≤ (0 : Int) ∧ 0 ≤ subI .i64 (lenOf i) 1 ∧ subI .i64 (lenOf i) 1 ≤ lenOf i) ∧ ∃ (j : List T),I0 j ∧ M0 j < M0 i ∧ T.l (List.take (subI .i64 (lenOf i) 1 - (0 : Int)).toNat (List.drop 0 i)) = T.l j ∧ T.l [] = T.l [] ∧ True) ∧ ((T.ite (ltI 0 (lenOf i)) (T.b (eqI ((i.getD (subI .i64 (lenOf i) 1).toNat T.u).cell 0).int (0 : Int))) (T.b false)).bool = false → True ∧ T.l i = y0 ∧ True)) : F 189 [.t 22 a0] (zo 1 22) [y0] :=
 F_nf C189 (by kernel_rfl) Tryz.func189 (by kernel_rfl) (.two .no (.two (.lp (fun (ia : List T) => [(a_ 0,.t 22 (.l ia)),(a_ 2,AV.t 22 (T.l []))]) I0 M0 (fun _ => .no)) .no)) (by kernel_rfl) h
def C192 : Ctx:=⟨tab,sigs,14,[0,1,4],[],[],[],[],[]⟩
theorem r_C (a0 : T) (a1 : T) (y0 : T) (h : (ltI a1.int (lenOf a0.list) = true → (Bd (a1.int) (lenOf a0.list)) ∧ True ∧ T.i .u64 (p_ .u64 ((a0.list.getD a1.int.toNat T.u).cell 0).int) = y0 ∧ True) ∧ (ltI a1.int (lenOf a0.list) = false → True ∧ T.i .u64 0 = y0 ∧ True)) : F 192 [.t 22 a0,.t 2 a1] (zo 2 12) [y0] :=
 F_nf C192 (by kernel_rfl) Tryz.func192 (by kernel_rfl) .no (by kernel_rfl) h
def C152 : Ctx:=⟨tab,sigs,34,[0,1,4,5,6,7],[],[],[],[],[]⟩
theorem r_f (a0 : T) (a1 : T) (y0 : T) (I0 : Nat → Prop) (M0 : Nat → Nat) (h : (∃ i : Nat,I0 i ∧ R8 a0 a1 (kI (subI .i64 (maxI (lenOf a0.list) (lenOf a1.list)) (1 : Int)) = kI (↑i - (1 : Int)) ∧ True)) ∧ (∀ i : Nat,true = true) ∧ ∀ i : Nat,I0 i → (leI 0 (↑i - (1 : Int)) = true → ∃ y : T,F 192 [.t 22 a0,.t 2 (kI (↑i - (1 : Int)))] (zo 2 12) [y] ∧ ∃ y_1 : T,F 192 [.t 22 a1,.t 2 (kI (↑i - (1 : Int)))] (zo 2 12) [y_1] ∧ (neI y.int y_1.int = true → 0 ≤ (63 : Int) ∧ True ∧ kI (subI .i64 1 (mulI .i64 2 (p_ .i64 (shrI .u64 (subI .u64 y.int y_1.int) 63)))) = y0 ∧ True) ∧ (neI y.int y_1.int = false → ∃ j : Nat,I0 j ∧ M0 j < M0 i ∧ R8 a0 a1 (kI (subI .i64 (↑i - (1 : Int)) (1 : Int)) = kI (↑j - (1 : Int)) ∧ True))) ∧ (leI 0 (↑i - (1 : Int)) = false → True ∧ kI 0 = y0 ∧ True)) : F 152 [.t 22 a0,.t 22 a1] (zo 2 2) [y0] :=
 F_nf C152 (by kernel_rfl) Tryz.func152 (by kernel_rfl) (.two .no (.two (.two .no (.lp (fun (ia : Nat) => [(a_ 0,AV.t 22 a0),(a_ 1,AV.t 22 a1),(a_ 4,AV.t 2 (T.i IntKind.i64 (0 : Int))),(a_ 5,.t 2 (.i .i64 ((ia : Int) - 1)))]) I0 M0 (fun _ => .no))) .no)) (by kernel_rfl) h
def C210 : Ctx:=⟨tab,sigs,39,[0,1,4,5,6,7],[a_ 5],[],[],[],[]⟩
theorem r_L (a0 : T) (a1 : T) (y0 : T) (I0 : X1 → Prop) (M0 : X1 → Nat) (h : (∃ (i : X1),I0 i ∧ R5 a0 a1 ([] = i.2.2 ∧ T.i .u64 0 = T.i .u64 i.2.1 ∧ kI 0 = kI ↑i.1 ∧ True)) ∧ (∀ (i : X1),true = true) ∧ ∀ (i : X1),I0 i → ((T.ite (ltI (↑i.1) (maxI (lenOf a0.list) (lenOf a1.list))) (T.b true) (T.b (ltI 0 i.2.1))).bool = true → ∃ y : T,F 192 [.t 22 a0,.t 2 (kI ↑i.1)] (zo 2 12) [y] ∧ ∃ y_1 : T,F 192 [.t 22 a1,.t 2 (kI ↑i.1)] (zo 2 12) [y_1] ∧ (Rm ((List.take i.2.2.length i.2.2).length + ((List.replicate 1 (T.i .u32 0)).set 0 (T.i .u32 (p_ .u32 (addI .u64 i.2.1 (addI .u64 y.int y_1.int))))).length) 4) ∧ 0 ≤ (32 : Int) ∧ ∃ (j : X1),I0 j ∧ M0 j < M0 i ∧ R5 a0 a1 (List.take i.2.2.length i.2.2 ++ (List.replicate 1 (T.i .u32 0)).set 0 (T.i .u32 (p_ .u32 (addI .u64 i.2.1 (addI .u64 y.int y_1.int)))) = j.2.2 ∧ T.i .u64 (shrI .u64 (addI .u64 i.2.1 (addI .u64 y.int y_1.int)) (32 : Int)) = T.i .u64 j.2.1 ∧ kI (addI .i64 ↑i.1 1) = kI ↑j.1 ∧ True)) ∧ ((T.ite (ltI (↑i.1) (maxI (lenOf a0.list) (lenOf a1.list))) (T.b true) (T.b (ltI 0 i.2.1))).bool = false → ∃ y : T,F 189 [.t 22 (T.l (List.take i.2.2.length (List.drop 0 i.2.2)))] (zo 1 22) [y] ∧ True ∧ y = y0 ∧ True)) : F 210 [.t 22 a0,.t 22 a1] (zo 2 22) [y0] :=
 F_nf C210 (by kernel_rfl) Tryz.func210 (by kernel_rfl) (.two .no (.two .no (.two .no (.two (.two .no (.lp (fun (ia : X1) => [(a_ 0,AV.t 22 a0),(a_ 1,AV.t 22 a1),(a_ 4,AV.t 22 (T.l [])),(a_ 5,.own 22 0 ia.2.2),(a_ 6,.t 12 (.i .u64 ia.2.1)),(a_ 7,.t 2 (.i .i64 (ia.1 : Int)))]) I0 M0 (fun _ => .no))) .no)))) (by kernel_rfl) h
end Go.Pq
