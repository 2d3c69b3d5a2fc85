/- Part 3 of 11. What a session has committed at any time is the beginning of what it commits later, and of the path at its end (SessionsCommit), for every input; no condition. Names are shortened and spaces left out by program, for the size. -/
import Derived.Test.YtjhgombngbgjbaaGreatDoorQ2
import Derived.DataShut
set_option linter.unusedVariables false
set_option linter.unusedSimpArgs false
set_option linter.unusedSectionVars false
set_option linter.constructorNameAsVariable false
set_option maxRecDepth 100000
namespace Go.Pl
def splice (cs : Array Value) (o : Nat) (vs : List Value) : Array Value:=(cs.toList.take o ++ vs ++ cs.toList.drop (o + vs.length)).toArray
theorem a_r {cs : Array Value} {o : Nat} {vs : List Value} (h : o + vs.length ≤ cs.size) : (splice cs o vs).size = cs.size:=by
 have:=Array.length_toList (xs:=cs)
 simp [splice];omega
theorem Q_ {cs : Array Value} {o : Nat} {vs : List Value} (h : o + vs.length ≤ cs.size) (k : Nat) :
  (splice cs o vs)[k]? = if k < o then cs[k]? else if k < o + vs.length then vs[k - o]? else cs[k]? := by
 have hl:=Array.length_toList (xs:=cs);have e : (splice cs o vs)[k]? = (cs.toList.take o ++ vs ++ cs.toList.drop (o + vs.length))[k]? := by simp [splice]
 have ht : (cs.toList.take o).length = o:=by simp;omega
 rw [e];split
 ·rename_i h1
  rw [List.append_assoc,List.getElem?_append_left (by omega),List.getElem?_take,if_pos h1,Array.getElem?_toList]
 ·rename_i h1
  split
  ·rename_i h2
   rw [List.append_assoc,List.getElem?_append_right (by omega),ht,List.getElem?_append_left (by omega)]
  ·rename_i h2
   rw [List.getElem?_append_right (by simp;omega),List.getElem?_drop,Array.getElem?_toList]
   congr 1
   simp;omega
section
variable {P : Program} {C : Ctx} {fr : Fr} {tm : Array Value} {w : World} {σ : St} {γ : Key → Option Nat} {D : Nat → Prop}
 (hG : Good P C.tab) (h : Rel C.tab fr tm w σ γ) (hwf : Wf C D σ) (hsz : tm.size = C.nt) {i : Nat} (hi : ¬ D i) {o : Oper} {p : Path} {K : St → Prop} {Q : Exit → Act → World → Prop}
theorem c_k (hG : Good P C.tab) {t c : TypeId} {ti : TI} (hc : C.tab.at t = some (c,ti)) {v : Value} (hv : v.cells.size = ti.cells) (hone : ∀ u ∈ v.cells.toList,u.oneCell' = true) {b : Nat} {cs : Array Value} {e : TypeId}
  (hh : w.heap[b]? = some (.cells cs e (0,0))) {o : Nat} (hfit : o + ti.cells ≤ cs.size) :
  (Instr.storeAt t (.pointer (some ⟨b,o,none⟩)) v).run P w = .ok () (w.setRow b (splice cs o v.cells.toList)):=by
 have hlen : v.cells.toList.length = ti.cells:=by simp [hv]
 have hst:=run_storeCells_at P b o e v.cells.toList 0 cs w hh (by rw [Nat.add_zero,hlen];exact hfit) hone;have hsz:=c_0 (w:=w) hG hc;simp only [Instr.storeAt,Instr.sureAddr,storeVar,Sem.run_bind,Sem.run_pure,Result.andThen_ok,hsz,hv];simp only [ne_eq,not_true_eq_false,if_false,hst,Nat.add_zero];rfl
theorem m_x {tab : Tab} {O : Nat → Prop} {c : TypeId} {v : Value} {x : T} (h : L tab w O c v x) : v.oneCell' = true:=by cases h <;> rfl
theorem e_M (hG : Good P C.tab) {O : Nat → Prop} {c : TypeId} {v : Value} {x : T} {ti : TI} (hc : C.tab.at c = some (c,ti)) (hV : V C.tab w O c v x) :
  x.isG = ti.isS ∧ v.cells.toList.length = ti.cells ∧ x.leaves.length = ti.cells ∧ (∀ u ∈ v.cells.toList,u.oneCell' = true) ∧
   ∀ (j : Nat) y ty,x.leaves[j]? = some y → (ti.lv c)[j]? = some ty → ∃ u,v.cells.toList[j]? = some u ∧ L C.tab w O ty u y:=by
 obtain ⟨ti',h1,h2,h3,h4,h5,h6⟩:=hV
 have:=e_ hc h1
 simp only [Prod.mk.injEq,true_and] at this;subst this;refine ⟨h2,by simp [h4],h5,fun u hu => ?_,fun j y ty hy ht => ?_⟩
 ·obtain ⟨j,hj,rfl⟩:=List.getElem_of_mem hu
  have hj' : j < ti.cells:=by rw [← h4];simpa using hj
  obtain ⟨u,hu,hl⟩:=h6 j _ _ (List.getElem?_eq_getElem (by omega)) (List.getElem?_eq_getElem (by rw [(hG _ _ _ hc).len];omega));have : v.cells.toList[j] = u:=by
   have h7 : v.cells.toList[j]? = some u:=by rw [Array.getElem?_toList];exact hu
   rw [List.getElem?_eq_getElem hj] at h7;exact Option.some.inj h7
  rw [this];exact m_x hl
 ·obtain ⟨u,hu,hl⟩:=h6 j y ty hy ht
  exact ⟨u,by rw [Array.getElem?_toList];exact hu,hl⟩
theorem j_B (s : Nat) : ∀ (tys : List TypeId) (xs : List T) (c : Nat) (σ : St),tys.length = xs.length →
  (∀ (j : Nat) y ty,xs[j]? = some y → tys[j]? = some ty → (σ.puts (cellsOf s c tys xs)).get (cell s (c + j)) = some (top (.t ty y))) ∧
  (∀ k,(∀ j,j < xs.length → k ≠ cell s (c + j)) → (σ.puts (cellsOf s c tys xs)).get k = σ.get k):=by
 intro tys
 induction tys with
 | nil =>
  intro xs c σ hl
  cases xs with
  | nil => exact ⟨fun j y ty hy => by simp at hy,fun k _ => rfl⟩
  | cons => simp at hl
 | cons ty tys ih =>
  intro xs c σ hl
  cases xs with
  | nil => simp at hl
  | cons x xs =>
   obtain ⟨q1,q2⟩:=ih xs (c + 1) (σ.put (cell s c) (top (.t ty x))) (by simpa using hl);refine ⟨fun j y t hy ht => ?_,fun k hk => ?_⟩
   ·show ((σ.put (cell s c) (top (.t ty x))).puts (cellsOf s (c + 1) tys xs)).get _ = _
    cases j with
    | zero =>
     simp at hy ht;subst hy;subst ht;rw [q2 _ fun j _ hh => by have:=(c_f.1 hh).2;omega];exact j_
    | succ j =>
     simp at hy ht;rw [show c + (j + 1) = c + 1 + j by omega];exact q1 j y t hy ht
   ·show ((σ.put (cell s c) (top (.t ty x))).puts (cellsOf s (c + 1) tys xs)).get _ = _
    rw [q2 k fun j hj hh => hk (j + 1) (by simpa using hj) (by rw [hh,show c + 1 + j = c + (j + 1) by omega])];exact m_ (by simpa using hk 0 (by simp))
theorem P_ {x : T} {n : Nat} (h : x.leaves.length = n) : a_z x n = x.leaves:=by
 apply List.ext_getElem?;intro j;unfold a_z
 by_cases hj : j < n
 ·rw [List.getElem?_map,List.getElem?_range hj,Option.map_some,k_F (by omega)]
 ·rw [List.getElem?_eq_none (by simp;omega),List.getElem?_eq_none (by omega)]
theorem f_6 (h : Rel C.tab fr tm w σ γ) {s : Nat} {c : TypeId} {tag n b : Nat} (hs : σ.get (a_ s) = some ⟨[],.box c tag n⟩) (hb : γ (a_ s) = some b) :
  ∃ cs ety,w.heap[b]? = some (.cells cs ety (0,0)) ∧ cs.size = n:=by
 obtain ⟨v,hv,hr,-⟩:=h.ent _ _ hs;obtain ⟨b',cs,ety,h1,h2,h3,h4⟩:=hr trivial;rw [hb] at h1;simp only [Option.some.injEq] at h1;subst h1;exact ⟨cs,ety,h3,h4⟩
open Classical in
noncomputable def a_i (W : Key → Prop) (γ : Key → Option Nat) : Key → Option Nat:=fun k => if W k then none else γ k
theorem b_4 {W : Key → Prop} {k : Key} (h : W k) : a_i W γ k = none:=by simp [a_i,h]
theorem a_Z {W : Key → Prop} {k : Key} (h : ¬ W k) : a_i W γ k = γ k:=by simp [a_i,h]
theorem Rel.cells (hG : Good P C.tab) (h : Rel C.tab fr tm w σ γ) (hwf : Wf C D σ) {s : Nat} {cb : TypeId} {tag n b : Nat} (hs : σ.get (a_ s) = some ⟨[],.box cb tag n⟩) (hb : γ (a_ s) = some b)
  {cs : Array Value} {ety : TypeId} (hh : w.heap[b]? = some (.cells cs ety (0,0))) {c : Nat} {vals : List Value} {xs : List T} {tys : List TypeId} (h1 : tys.length = xs.length) (h2 : vals.length = xs.length)
  (hfit : c + vals.length ≤ cs.size) (hV : ∀ (j : Nat) y ty,xs[j]? = some y → tys[j]? = some ty → ∃ u,vals[j]? = some u ∧ V C.tab w (Ob fr γ) ty u y) :
  ∃ γ',Rel C.tab fr tm (w.setRow b (splice cs c vals)) (σ.puts (cellsOf s c tys xs)) γ' ∧ Wf C D (σ.puts (cellsOf s c tys xs)):=by
 obtain ⟨g1,g2⟩:=j_B s tys xs c σ h1
 let W : Key → Prop:=fun k => ∃ j,j < xs.length ∧ k = cell s (c + j)
 have hsame : ∀ k,¬ W k → (σ.puts (cellsOf s c tys xs)).get k = σ.get k:=fun k hk => g2 k fun j hj he => hk ⟨j,hj,he⟩
 have hW : ∀ k e,W k → (σ.puts (cellsOf s c tys xs)).get k = some e → ∃ j y ty,k = cell s (c + j) ∧ xs[j]? = some y ∧ tys[j]? = some ty ∧ e = top (.t ty y):=by
  rintro k e ⟨j,hj,rfl⟩ he;have e1:=List.getElem?_eq_getElem hj;have e2:=List.getElem?_eq_getElem (show j < tys.length by omega);rw [g1 j _ _ e1 e2] at he;exact ⟨j,_,_,rfl,e1,e2,(Option.some.inj he).symm⟩
 have hslotW : ∀ t,¬ W (a_ t):=by
  rintro t ⟨j,-,he⟩;exact f_ he
 have hcompW : ∀ t j,¬ W (comp t j):=by
  rintro t j ⟨j',-,he⟩;exact L_ he.symm
 have hget : (w.setRow b (splice cs c vals)).heap[b]? = some (.cells (splice cs c vals) ety (0,0)):=setRow_heap w b cs _ ety (0,0) hh;have hother : ∀ b',b' ≠ b → (w.setRow b (splice cs c vals)).heap[b']? = w.heap[b']? := fun b' hne => setRow_other w b b' _ hne
 have hcb : ∀ j,(w.setRow b (splice cs c vals)).cell? ⟨b,j,none⟩ = (splice cs c vals)[j]? := fun j => w_ hget j
 have hcb0 : ∀ j,w.cell? ⟨b,j,none⟩ = cs[j]? := fun j => w_ hh j
 refine ⟨a_i W γ,Rel.upd hG h hwf W (fun k => k = a_ s) rfl rfl rfl (by simp) ?_ ?_ ?_ ?_ ?_ hsame ?_ ?_ ?_ ?_ ?_ ?_ (fun _ q => q) ?_ ?_ ?_ ?_⟩
 ·intro b' _ hb'
  exact hother b' fun e => hb' (a_ s) (.inr rfl) (by rw [e];exact hb)
 ·rintro k _ rfl
  refine ⟨cb,tag,n,hs,fun b' cs' ety' hb' hh' => ?_⟩;rw [hb] at hb';simp only [Option.some.injEq] at hb';subst hb';rw [hh] at hh';simp only [Option.some.injEq,Obj.cells.injEq] at hh';obtain ⟨rfl,rfl,-⟩:=hh';exact ⟨_,hget,a_r hfit⟩
 ·intro k hk
  exact a_Z hk
 ·intro k b' hk hb'
  rw [b_4 hk] at hb';cases hb'
 ·intro k k' b' hk hk' hb'
  rw [b_4 hk] at hb';cases hb'
 ·intro k e hk he
  refine a_S (fun _ => rfl) (fun ht => ?_);obtain ⟨hkc,c',tag',m,hbx⟩:=a_0 h he ht;refine ⟨a_Z (hslotW _),fun b' hb' => ?_⟩
  by_cases hbb : b' = b
  ·subst hbb
   have:=J_.1 (h.inj _ _ _ hb' hb)
   rw [hcb,hcb0,Q_ hfit];split
   ·rfl
   ·split
    ·rename_i q1 q2
     exact absurd ⟨k.b - c,by omega,by rw [hkc,this];simp [cell];omega⟩ hk
    ·rfl
  ·exact b_d (hother b' hbb)
 ·intro t m e he
  have : ∃ c' tag' m',σ.get (a_ t) = some ⟨[],.box c' tag' m'⟩:=by
   by_cases hk : W (cell t m)
   ·obtain ⟨j,hj,he'⟩:=hk
    obtain ⟨rfl,-⟩:=c_f.1 he';exact ⟨cb,tag,n,hs⟩
   ·rw [hsame _ hk] at he
    exact h.cel t m e he
  obtain ⟨c',t',m',hbx⟩:=this;exact ⟨c',t',m',by rw [hsame _ (hslotW t)];exact hbx⟩
 ·intro t j e he
  rw [hsame _ (hcompW t j)] at he;obtain ⟨q,m,hb'⟩:=h.cmp t j e he;exact ⟨q,m,by rw [hsame _ (hslotW t)];exact hb'⟩
 ·intro t q c' x _ _
  exact hslotW t
 ·intro k hk _
  obtain ⟨j,hj,rfl⟩:=hk;rw [g1 j _ _ (List.getElem?_eq_getElem hj) (List.getElem?_eq_getElem (show j < tys.length by omega))];simp
 ·intro k e tag' hk he ht
  obtain ⟨j,y,ty,-,-,-,rfl⟩:=hW k e hk he;cases ht
 ·intro k tag' hk _ _
  refine ⟨fun c' xs' hx => ?_,fun c' n' hx => ?_,fun c' hx => ?_⟩
  ·obtain ⟨j,y,ty,-,-,-,hc⟩:=hW k _ hk hx
   cases hc
  ·obtain ⟨j,y,ty,-,-,-,hc⟩:=hW k _ hk hx
   cases hc
  ·obtain ⟨j,y,ty,-,-,-,hc⟩:=hW k _ hk hx
   cases hc
 ·intro k e h0 tag' hk he hh'
  obtain ⟨j,y,ty,-,-,-,rfl⟩:=hW k e hk he;cases hh'
 ·intro k e s' b' hk he hm
  obtain ⟨j,y,ty,-,-,-,rfl⟩:=hW k e hk he;simp [top] at hm
 ·intro hstay k e hk he
  obtain ⟨j,y,ty,rfl,hy,hty,rfl⟩:=hW k e hk he;obtain ⟨u,hu,hV'⟩:=hV j y ty hy hty;refine ⟨u,?_,fun _ => V.mono hstay hV',fun q => absurd trivial q⟩;have : a_i W γ (a_ s) = some b:=by rw [a_Z (hslotW s),hb]
  simp only [s_,cell,this,Option.bind_some];have hj : j < vals.length:=(List.getElem?_eq_some_iff.1 hu).1;rw [hcb,Q_ hfit,if_neg (by omega),if_pos (by omega),show c + j - c = j by omega];exact hu
theorem Rel.gives (hG : Good P C.tab) (h : Rel C.tab fr tm w σ γ) (hwf : Wf C D σ) {i : Nat} (hi : ¬ D i) (T S Bx : Key → Prop) (A : Key → AV) (G : Key → Option Nat) {tm' : Array Value} {w' : World} {σ' : St} {γ' : Key → Option Nat}
  (hos : w'.os = w.os) (htape : w'.tape = w.tape) (hout : w'.output = w.output) (hsize : w'.heap.size = w.heap.size)
  (hblocks : ∀ b,(∀ k,Bx k → γ k ≠ some b) → w'.heap[b]? = w.heap[b]?)
  (hbx : ∀ k,Bx k → ¬ T k ∧ ¬ S k ∧ ∃ c tag n,σ.get k = some ⟨[],.box c tag n⟩ ∧ ∀ b cs ety,γ k = some b → w.heap[b]? = some (.cells cs ety (0,0)) → ∃ cs',w'.heap[b]? = some (.cells cs' ety (0,0)) ∧ cs'.size = cs.size)
  (hT : ∀ k,T k → σ'.get k = some (top (A k))) (hSu : ∀ k,S k → ¬ T k → σ'.get k = some (top .u)) (hsame : ∀ k,¬ T k → ¬ S k → σ'.get k = σ.get k)
  (gT : ∀ k,T k → γ' k = G k) (gS : ∀ k,S k → ¬ T k → γ' k = none) (gN : ∀ k,¬ T k → ¬ S k → γ' k = γ k)
  (hS : ∀ k,S k → b_S σ k)
  (hG1 : ∀ k b,T k → G k = some b → ∃ k0,S k0 ∧ γ k0 = some b) (hG2 : ∀ k k' b,T k → T k' → G k = some b → G k' = some b → k = k')
  (hA : ∀ k,T k → ∃ v,s_ tm' w' γ' k = some v ∧ ((∃ c y,A k = .t c y ∧ V C.tab w (Ob fr γ) c v y) ∨ (∃ c xs,A k = .own c (i + 1) xs ∧ Own C.tab w (Ob fr γ) c v (G k) xs) ∨ (A k = .tup (i + 1) ∧ ((∃ vs,v = .tuple vs) ∨ ∃ vs,v = .agg vs)) ∨
   (∃ s tag c,A k = .ptr s tag c ∧ σ.get (a_ s) ≠ none ∧ ¬ T (a_ s) ∧ ¬ S (a_ s) ∧ Old D tag ∧ AVR C.tab w (Ob fr γ) σ (s_ tm w γ) γ k v (A k)) ∨
   ∃ h0 tag c off len,A k = .alias h0 tag c off len ∧ σ.get h0 ≠ none ∧ ¬ T h0 ∧ ¬ S h0 ∧ Old D tag ∧ AVR C.tab w (Ob fr γ) σ (s_ tm w γ) γ k v (A k)))
  (hTs : ∀ s,T (a_ s) → σ.get (a_ s) = none)
  (hTc : ∀ s n,T (cell s n) → ∃ c tag m,σ.get (a_ s) = some ⟨[],.box c tag m⟩)
  (hTp : ∀ s j,T (comp s j) → (∃ p m,σ.get (a_ s) = some ⟨p,.tup m⟩) ∨ (T (a_ s) ∧ A (a_ s) = .tup (i + 1)))
  (hval : ∀ k e,¬ T k → σ.get k = some e → s_ tm' w' γ' k = s_ tm w γ k) :
  Rel C.tab fr tm' w' σ' γ' ∧ Wf C (fun j => D j ∨ j = i) σ' := by
 have hold : ∀ k e,T k ∨ S k → σ'.get k = some e → T k ∧ e = top (A k) ∨ ¬ T k ∧ S k ∧ e = top .u:=by
  intro k e hk he
  by_cases h1 : T k
  ·rw [hT k h1] at he;exact .inl ⟨h1,(Option.some.inj he).symm⟩
  ·have h2:=hk.resolve_left h1
   rw [hSu k h2 h1] at he;exact .inr ⟨h1,h2,(Option.some.inj he).symm⟩
 have notS : ∀ {k : Key} {e : Ent},σ.get k = some e → (∀ c tag xs,e ≠ ⟨[],.own c tag xs⟩) → ¬ S k:=by
  intro k e he hne hk;obtain ⟨c,tag,xs,hh⟩:=hS k hk;rw [he] at hh;exact hne c tag xs (Option.some.inj hh)
 have notT : ∀ {s : Nat} {e : Ent},σ.get (a_ s) = some e → ¬ T (a_ s):=by
  intro s e he hk;rw [hTs s hk] at he;cases he
 have hnotD : ¬ Old D (i + 1):=by
  rintro (q | ⟨j,hj,q⟩)
  ·cases q
  ·have : i = j:=by omega
   subst this;exact hi hj
 have hAv : ∀ k,T k → (∃ c y,A k = .t c y) ∨ (∃ c xs,A k = .own c (i + 1) xs) ∨ A k = .tup (i + 1) ∨ (∃ s tag c,A k = .ptr s tag c ∧ σ.get (a_ s) ≠ none ∧ ¬ T (a_ s) ∧ ¬ S (a_ s) ∧ Old D tag) ∨ ∃ h0 tag c off len,A k = .alias h0 tag c off len ∧ σ.get h0 ≠ none ∧ ¬ T h0 ∧ ¬ S h0 ∧ Old D tag:=by
  intro k hk;obtain ⟨v,-,hv⟩:=hA k hk
  rcases hv with ⟨c,y,q,-⟩ | ⟨c,xs,q,-⟩ | ⟨q,-⟩ | ⟨s,tag,c,q1,q2,q3,q4,q5,-⟩ | ⟨h0,tag,c,off,len,q1,q2,q3,q4,q5,-⟩
  ·exact .inl ⟨c,y,q⟩
  ·exact .inr (.inl ⟨c,xs,q⟩)
  ·exact .inr (.inr (.inl q))
  ·exact .inr (.inr (.inr (.inl ⟨s,tag,c,q1,q2,q3,q4,q5⟩)))
  ·exact .inr (.inr (.inr (.inr ⟨h0,tag,c,off,len,q1,q2,q3,q4,q5⟩)))
 have keep : ∀ {s : Nat} {e : Ent},σ.get (a_ s) = some e → (∀ c tag xs,e ≠ ⟨[],.own c tag xs⟩) → σ'.get (a_ s) = some e:=by
  intro s e he hne;rw [hsame _ (notT he) (notS he hne)];exact he
 refine Rel.upd hG h hwf (fun k => T k ∨ S k) Bx hos htape hout (by omega) ?_ ?_ ?_ ?_ ?_ ?_ ?_ ?_ ?_ ?_ ?_ ?_ ?_ ?_ ?_ ?_ ?_
 ·exact fun b _ hb => hblocks b fun k hk => hb k (.inr hk)
 ·intro k _ hk
  exact (hbx k hk).2.2
 ·intro k hk
  exact gN k (fun q => hk (.inl q)) fun q => hk (.inr q)
 ·intro k b hk hb
  by_cases h1 : T k
  ·rw [gT k h1] at hb
   obtain ⟨k0,q1,q2⟩:=hG1 k b h1 hb;exact .inl ⟨k0,.inr q1,q2⟩
  ·rw [gS k (hk.resolve_left h1) h1] at hb;cases hb
 ·intro k k' b hk hk' hb hb'
  have one : ∀ k,T k ∨ S k → γ' k = some b → T k ∧ G k = some b:=by
   intro k hk hb
   by_cases h1 : T k
   ·exact ⟨h1,by rw [← gT k h1];exact hb⟩
   ·rw [gS k (hk.resolve_left h1) h1] at hb;cases hb
  obtain ⟨q1,q2⟩:=one k hk hb;obtain ⟨q3,q4⟩:=one k' hk' hb';exact hG2 k k' b q1 q3 q2 q4
 ·intro k hk
  exact hsame k (fun q => hk (.inl q)) fun q => hk (.inr q)
 ·intro k e hk he
  exact hval k e (fun q => hk (.inl q)) he
 ·intro s n e he
  have : ∃ c tag m,σ.get (a_ s) = some ⟨[],.box c tag m⟩:=by
   by_cases h1 : T (cell s n)
   ·exact hTc s n h1
   ·by_cases h2 : S (cell s n)
    ·obtain ⟨c,tag,xs,hh⟩:=hS _ h2
     exact h.cel s n _ hh
    ·rw [hsame _ h1 h2] at he
     exact h.cel s n e he
  obtain ⟨c,tag,m,hb⟩:=this;exact ⟨c,tag,m,keep hb (by simp)⟩
 ·intro s j e he
  have : (∃ p m,σ.get (a_ s) = some ⟨p,.tup m⟩) ∨ (T (a_ s) ∧ A (a_ s) = .tup (i + 1)):=by
   by_cases h1 : T (comp s j)
   ·exact hTp s j h1
   ·by_cases h2 : S (comp s j)
    ·obtain ⟨c,tag,xs,hh⟩:=hS _ h2
     exact .inl (h.cmp s j _ hh)
    ·rw [hsame _ h1 h2] at he
     exact .inl (h.cmp s j e he)
  rcases this with ⟨q,m,hb⟩ | ⟨q1,q2⟩
  ·exact ⟨q,m,keep hb (by simp)⟩
  ·exact ⟨[],i + 1,by rw [hT _ q1,q2];rfl⟩
 ·rintro s q c x hs hh (hk | hk)
  ·exact notT hh hk
  ·exact notS hh (by simp) hk
 ·intro k hk _
  by_cases h1 : T k
  ·rw [hT k h1];simp
  ·rw [hSu k (hk.resolve_left h1) h1];simp
 ·intro k e tag hk he ht
  rcases hold k e hk he with ⟨h1,rfl⟩ | ⟨-,-,rfl⟩
  ·rcases hAv k h1 with ⟨c,y,q⟩ | ⟨c,xs,q⟩ | q | ⟨s,tag',c,q,-,-,-,hold'⟩ | ⟨h0,tag',c,off,len,q,-,-,-,hold'⟩
   ·rw [q] at ht;cases ht
   ·rw [q] at ht
    simp only [top,AV.a_C,Option.some.injEq] at ht;subst ht;exact c_J
   ·rw [q] at ht
    simp only [top,AV.a_C,Option.some.injEq] at ht;subst ht;exact c_J
   ·rw [q] at ht
    simp only [top,AV.a_C,Option.some.injEq] at ht;subst ht;exact hold'.mono fun _ => .inl
   ·rw [q] at ht
    simp only [top,AV.a_C,Option.some.injEq] at ht;subst ht;exact hold'.mono fun _ => .inl
  ·cases ht
 ·exact fun tag ho => ho.mono fun _ => .inl
 ·intro k tag hk _ ho
  have hno : ∀ e t,σ'.get k = some e → e.av.a_C = some t → (∀ h0 tag c off len,e.av ≠ .alias h0 tag c off len) → (∀ s tag c,e.av ≠ .ptr s tag c) → ¬ Old D t:=by
   intro e t he ht hal hpt q
   rcases hold k e hk he with ⟨h1,rfl⟩ | ⟨-,-,rfl⟩
   ·rcases hAv k h1 with ⟨c,y,q'⟩ | ⟨c,xs,q'⟩ | q' | ⟨s,tag',c,q',-⟩ | ⟨h0,tag',c,off,len,q',-⟩
    ·rw [q'] at ht;cases ht
    ·rw [q'] at ht
     simp only [top,AV.a_C,Option.some.injEq] at ht;subst ht;exact hnotD q
    ·rw [q'] at ht
     simp only [top,AV.a_C,Option.some.injEq] at ht;subst ht;exact hnotD q
    ·exact hpt _ _ _ q'
    ·exact hal _ _ _ _ _ q'
   ·cases ht
  exact ⟨fun c xs hx => absurd ho (hno _ tag hx rfl (by simp) (by simp)),fun c n hx => absurd ho (hno _ tag hx rfl (by simp) (by simp)),fun p hx => absurd ho (hno _ tag hx rfl (by simp) (by simp))⟩
 ·intro k e h0 tag hk he hh
  rcases hold k e hk he with ⟨h1,rfl⟩ | ⟨-,-,rfl⟩
  ·rcases hAv k h1 with ⟨c,y,q'⟩ | ⟨c,xs,q'⟩ | q' | ⟨s,tag',c,q',p1,p2,p3,-⟩ | ⟨h1',tag',c,off,len,q',p1,p2,p3,-⟩
   ·rw [q'] at hh;cases hh
   ·rw [q'] at hh;cases hh
   ·rw [q'] at hh;cases hh
   ·rw [q'] at hh
    simp only [top,AV.home,Option.some.injEq,Prod.mk.injEq] at hh;rw [← hh.1,hsame _ p2 p3];exact p1
   ·rw [q'] at hh
    simp only [top,AV.home,Option.some.injEq,Prod.mk.injEq] at hh;rw [← hh.1,hsame _ p2 p3];exact p1
  ·cases hh
 ·intro k e s b hk he hm
  rcases hold k e hk he with ⟨h1,rfl⟩ | ⟨-,-,rfl⟩ <;> simp [top] at hm
 ·intro hstay k e hk he
  rcases hold k e hk he with ⟨h1,rfl⟩ | ⟨h1,h2,rfl⟩
  ·obtain ⟨v,hv,hAA⟩:=hA k h1
   refine ⟨v,hv,fun _ => ?_,fun q => absurd trivial q⟩
   rcases hAA with ⟨c,y,q,hV⟩ | ⟨c,xs,q,hO⟩ | ⟨q,hq⟩ | ⟨s,tag,c,q,p1,p2,p3,-,hal⟩ | ⟨h0,tag,c,off,len,q,p1,p2,p3,-,hal⟩
   ·simp only [top];rw [q];exact V.mono hstay hV
   ·simp only [top];rw [q]
    show Own C.tab w' _ c v (γ' k) xs
    rw [gT k h1];refine hO.mono hstay fun b hb => hblocks b fun k' hk' hb' => ?_
    obtain ⟨k0,q1,q2⟩:=hG1 k b h1 hb
    have:=h.inj k' k0 b hb' q2
    subst this;exact (hbx k' hk').2.1 q1
   ·simp only [top];rw [q];exact hq
   ·simp only [top];rw [q] at hal ⊢
    intro cb n hx;rw [hsame _ p2 p3] at hx;obtain ⟨b,a1,a2⟩:=hal cb n hx;exact ⟨b,by rw [gN _ p2 p3];exact a1,a2⟩
   ·simp only [top];rw [q] at hal ⊢
    intro c' xs' hx;rw [hsame _ p2 p3] at hx;obtain ⟨a1,hv0,a2,a3⟩:=hal c' xs' hx;exact ⟨a1,hv0,by rw [hval h0 _ p2 hx];exact a2,a3⟩
  ·obtain ⟨c,tag,xs,hh⟩:=hS k h2
   obtain ⟨v0,hv0,-⟩:=h.ent k _ hh;exact ⟨v0,by rw [hval k _ h1 hh];exact hv0,fun _ => trivial,fun q => absurd trivial q⟩
theorem n_5 : ∀ (tys : List TypeId) (xs : List T) (as : List Bc) (off : Nat),tys.length = xs.length → off + xs.length ≤ as.length → (k_u as off tys xs).length = as.length ∧
  (∀ (j : Nat) ty x,tys[j]? = some ty → xs[j]? = some x → (k_u as off tys xs)[off + j]? = some (none,.t ty x)) ∧
  ∀ q,q < off ∨ off + xs.length ≤ q → (k_u as off tys xs)[q]? = as[q]? := by
 intro tys
 induction tys with
 | nil =>
  intro xs as off hl _
  cases xs with
  | nil => exact ⟨rfl,fun j ty x h => by simp at h,fun q _ => rfl⟩
  | cons => simp at hl
 | cons ty tys ih =>
  intro xs as off hl hle
  cases xs with
  | nil => simp at hl
  | cons x xs =>
   simp only [List.length_cons] at hl hle;obtain ⟨h1,h2,h3⟩:=ih xs (as.set off (none,.t ty x)) (off + 1) (by omega) (by simp only [List.length_set];omega);simp only [k_u];refine ⟨by rw [h1];simp,fun j ty' x' hj hx => ?_,fun q hq => ?_⟩
   ·cases j with
    | zero =>
     simp only [List.getElem?_cons_zero,Option.some.injEq] at hj hx;subst hj;subst hx
     show (k_u _ _ tys xs)[off]? = _
     rw [h3 off (.inl (by omega)),List.getElem?_set,if_pos rfl,if_pos (by omega)]
    | succ j =>
     simp only [List.getElem?_cons_succ] at hj hx;rw [show off + (j + 1) = off + 1 + j by omega];exact h2 j ty' x' hj hx
   ·simp only [List.length_cons] at hq
    rw [h3 q (by omega),List.getElem?_set,if_neg (by omega)]
theorem m_s (C : Ctx) (d n : Nat) : ∀ (tys : List TypeId) (xs : List T) (q : Nat),tys.length = xs.length → (e_K C d n q tys xs).length = xs.length ∧
  ∀ (j : Nat) ty x,tys[j]? = some ty → xs[j]? = some x → (e_K C d n q tys xs)[j]? = some (none,.t ty x) ∨ (x = .l [] ∧ (e_K C d n q tys xs)[j]? = some (none,.own ty 0 [])):=by
 intro tys
 induction tys with
 | nil =>
  intro xs q hl
  cases xs with
  | nil => exact ⟨rfl,fun j ty x h => by simp at h⟩
  | cons => simp at hl
 | cons ty tys ih =>
  intro xs q hl
  cases xs with
  | nil => simp at hl
  | cons x xs =>
   obtain ⟨h1,h2⟩:=ih xs (q + 1) (by simpa using hl);refine ⟨by simp [e_K,h1],fun j ty' x' hj hx => ?_⟩
   cases j with
   | zero =>
    simp only [List.getElem?_cons_zero,Option.some.injEq] at hj hx;subst hj;subst hx;simp only [e_K,List.getElem?_cons_zero];split
    ·exact .inr ⟨rfl,rfl⟩
    ·exact .inl rfl
   | succ j =>
    simp only [List.getElem?_cons_succ] at hj hx;simpa [e_K] using h2 j ty' x' hj hx
theorem n_F {s : Nat} : ∀ {as : List Bc},l_T s as = false → ∀ (q : Nat) a,as[q]? ≠ some (some s,a):=by
 intro as
 induction as with
 | nil => intro _ q a h;simp at h
 | cons x r ih =>
  obtain ⟨o,y⟩:=x;intro hm q a h
  cases o with
  | none =>
   simp only [l_T] at hm
   cases q with
   | zero => simp at h
   | succ q => simp only [List.getElem?_cons_succ] at h;exact ih hm q a h
  | some t =>
   simp only [l_T] at hm;split at hm
   ·cases hm
   ·rename_i hne
    cases q with
    | zero => simp only [List.getElem?_cons_zero,Option.some.injEq,Prod.mk.injEq] at h;rw [h.1] at hne;simp at hne
    | succ q => simp only [List.getElem?_cons_succ] at h;exact ih hm q a h
theorem m_g : ∀ {as : List Bc},h_s as = true → ∀ (q q' s : Nat) a a',as[q]? = some (some s,a) → as[q']? = some (some s,a') → q = q' := by
 intro as
 induction as with
 | nil => intro _ q q' s a a' h;simp at h
 | cons x r ih =>
  obtain ⟨o,y⟩:=x;intro hm q q' s a a' h h';have key : h_s r = true ∧ (o = some s → ∀ (q : Nat) a,r[q]? ≠ some (some s,a)):=by
   cases o with
   | none => exact ⟨hm,fun q => by cases q⟩
   | some t =>
    simp only [h_s] at hm;split at hm
    ·cases hm
    ·rename_i hne
     refine ⟨hm,fun q => ?_⟩;cases q;exact n_F hne
  cases q with
  | zero =>
   simp only [List.getElem?_cons_zero,Option.some.injEq,Prod.mk.injEq] at h
   cases q' with
   | zero => rfl
   | succ q' => simp only [List.getElem?_cons_succ] at h';exact absurd h' (key.2 h.1 q' a')
  | succ q =>
   simp only [List.getElem?_cons_succ] at h
   cases q' with
   | zero => simp only [List.getElem?_cons_zero,Option.some.injEq,Prod.mk.injEq] at h';exact absurd h (key.2 h'.1 q a)
   | succ q' => simp only [List.getElem?_cons_succ] at h';rw [ih key.1 q q' s a a' h h']
theorem h_u (f : Nat → Key) : ∀ (as : List Bc) (σ : St) (k : Key),((∃ (q s : Nat) (a : AV),as[q]? = some (some s,a) ∧ k = f s) → (σ.puts (b_m f as)).get k = some (top .u)) ∧
  ((∀ (q s : Nat) (a : AV),as[q]? = some (some s,a) → k ≠ f s) → (σ.puts (b_m f as)).get k = σ.get k):=by
 intro as
 induction as with
 | nil => exact fun σ k => ⟨fun ⟨q,s,a,h,_⟩ => by simp at h,fun _ => rfl⟩
 | cons x r ih =>
  obtain ⟨o,y⟩:=x;intro σ k
  cases o with
  | none =>
   simp only [b_m];obtain ⟨h1,h2⟩:=ih σ k;refine ⟨fun ⟨q,s,a,h,e⟩ => h1 ?_,fun h => h2 fun q s a hq => h (q + 1) s a (by simpa using hq)⟩
   cases q with
   | zero => simp at h
   | succ q => exact ⟨q,s,a,by simpa using h,e⟩
  | some t =>
   simp only [b_m,St.puts];obtain ⟨h1,h2⟩:=ih (σ.put (f t) (top .u)) k
   constructor
   ·rintro ⟨q,s,a,h,e⟩
    by_cases hex : ∃ (q s : Nat) (a : AV),r[q]? = some (some s,a) ∧ k = f s
    ·exact h1 hex
    ·rw [h2 fun q s a hq e' => hex ⟨q,s,a,hq,e'⟩]
     cases q with
     | zero =>
      simp only [List.getElem?_cons_zero,Option.some.injEq,Prod.mk.injEq] at h;rw [e,← h.1,j_]
     | succ q => exact absurd ⟨q,s,a,by simpa using h,e⟩ hex
   ·intro h
    rw [h2 fun q s a hq => h (q + 1) s a (by simpa using hq),m_ (h 0 t y (by simp))]
theorem e_8 (f : Nat → Key) (hf : ∀ q q',f q = f q' → q = q') (i : Nat) : ∀ (as : List Bc) (q : Nat) (σ : St),
  (∀ (j : Nat) o a,as[j]? = some (o,a) → (σ.puts (e_r f i q as)).get (f (q + j)) = some (top (reBc i a))) ∧
  (∀ k,(∀ j,j < as.length → k ≠ f (q + j)) → (σ.puts (e_r f i q as)).get k = σ.get k):=by
 intro as
 induction as with
 | nil => exact fun q σ => ⟨fun j o a h => by simp at h,fun k _ => rfl⟩
 | cons x r ih =>
  obtain ⟨o,y⟩:=x;intro q σ;simp only [e_r,St.puts];obtain ⟨h1,h2⟩:=ih (q + 1) (σ.put (f q) (top (reBc i y)))
  constructor
  ·intro j o' a hj
   cases j with
   | zero =>
    simp only [List.getElem?_cons_zero,Option.some.injEq,Prod.mk.injEq] at hj;rw [h2 (f (q + 0)) fun j _ e => ?_,← hj.2,Nat.add_zero,j_]
    have:=hf _ _ e
    omega
   | succ j =>
    simp only [List.getElem?_cons_succ] at hj;rw [show q + (j + 1) = q + 1 + j by omega];exact h1 j o' a hj
  ·intro k hk
   rw [h2 k fun j hj => ?_,m_ (by have:=hk 0 (by simp);simpa using this)]
   have:=hk (j + 1) (by simp;omega)
   rwa [show q + (j + 1) = q + 1 + j by omega] at this
def exBc (ex : Option Nat) (i : Nat) : List (Key × Ent):=match ex with
 | some d => [(a_ d,top (.tup (i + 1)))]
 | none => []
theorem Rel.bcs (hG : Good P C.tab) (h : Rel C.tab fr tm w σ γ) (hwf : Wf C D σ) {i : Nat} (hi : ¬ D i) (Bx : Key → Prop) {tm' : Array Value} {w' : World} {as : List Bc} (f g : Nat → Key) (qf : Key → Nat) (ex : Option Nat)
  (hos : w'.os = w.os) (htape : w'.tape = w.tape) (hout : w'.output = w.output) (hsize : w'.heap.size = w.heap.size)
  (hblocks : ∀ b,(∀ k,Bx k → γ k ≠ some b) → w'.heap[b]? = w.heap[b]?)
  (hbx : ∀ k,Bx k → (∀ q,k ≠ f q) ∧ ex = none ∧ ∃ c tag n,σ.get k = some ⟨[],.box c tag n⟩ ∧ ∀ b cs ety,γ k = some b → w.heap[b]? = some (.cells cs ety (0,0)) → ∃ cs',w'.heap[b]? = some (.cells cs' ety (0,0)) ∧ cs'.size = cs.size)
  (hf0 : ∀ q,(f q).tag ≠ 0) (hf : ∀ q q',f q = f q' → q = q') (hqf : ∀ q,q < as.length → qf (f q) = q) (hg : ∀ q q',g q = g q' → q = q')
  (hsrc : ∀ (q s : Nat) a,as[q]? = some (some s,a) → ∃ c tag xs,σ.get (g s) = some ⟨[],.own c tag xs⟩ ∧ a = .own c 0 xs)
  (hnone : ∀ (q : Nat) a,as[q]? = some (none,a) → (∃ ty y,a = .t ty y) ∨ (∃ c,a = .own c 0 []) ∨ ∃ h0 tag c off len,a = .alias h0 tag c off len ∧ σ.get h0 ≠ none ∧ (∀ q,h0 ≠ f q) ∧ (∀ (q s : Nat) a,as[q]? = some (some s,a) → h0 ≠ g s) ∧ Old D tag) (hsole : ∀ (q q' s : Nat) a a',as[q]? = some (some s,a) → as[q']? = some (some s,a') → q = q')
  (hex : ∀ d,ex = some d → σ.get (a_ d) = none ∧ ∀ γ',∃ vs,s_ tm' w' γ' (a_ d) = some (.agg vs))
  (hvt : ∀ γ' : Key → Option Nat,(∀ k,Bx k → γ' k = γ k) → ∀ (q : Nat) o a,as[q]? = some (o,a) → ∃ u,s_ tm' w' γ' (f q) = some u ∧ (∀ s,o = some s → s_ tm w γ (g s) = some u) ∧ (∀ ty y,a = .t ty y → V C.tab w (Ob fr γ) ty u y) ∧ (∀ c,o = none → a = .own c 0 [] → Own C.tab w (Ob fr γ) c u none []) ∧ ∀ h0 tag c off len,a = .alias h0 tag c off len → AVR C.tab w (Ob fr γ) σ (s_ tm w γ) γ (f q) u a)
  (hTc : ∀ s n q,cell s n = f q → ∃ c tag m,σ.get (a_ s) = some ⟨[],.box c tag m⟩)
  (hTp : ∀ s j q,comp s j = f q → ex = some s)
  (hval : ∀ γ' : Key → Option Nat,(∀ k e,σ.get k = some e → (∀ c tag xs,e ≠ ⟨[],.own c tag xs⟩) → (∀ q,k ≠ f q) → γ' k = γ k) → ∀ k e,(∀ q,q < as.length → k ≠ f q) → σ.get k = some e → s_ tm' w' γ' k = s_ tm w γ k) :
  ∃ γ',Rel C.tab fr tm' w' (σ.puts (b_m g as ++ exBc ex i ++ e_r f i 0 as)) γ' ∧
   Wf C (fun j => D j ∨ j = i) (σ.puts (b_m g as ++ exBc ex i ++ e_r f i 0 as)):=by
 classical
 let T : Key → Prop:=fun k => (∃ d,ex = some d ∧ k = a_ d) ∨ ∃ q,q < as.length ∧ k = f q
 let S : Key → Prop:=fun k => ∃ (q s : Nat) (a : AV),as[q]? = some (some s,a) ∧ k = g s
 let A : Key → AV:=fun k => if k.tag = 0 then .tup (i + 1) else match as[qf k]? with | some (_,a) => reBc i a | none => .u
 let G : Key → Option Nat:=fun k => if k.tag = 0 then none else match as[qf k]? with | some (some s,_) => γ (g s) | _ => none
 have hS : ∀ k,S k → b_S σ k:=by
  rintro k ⟨q,s,a,hq,rfl⟩;obtain ⟨c,tag,xs,hh,-⟩:=hsrc q s a hq;exact ⟨c,tag,xs,hh⟩
 have exT : ∀ d,ex = some d → ∀ q,a_ d ≠ f q:=fun d _ q e => hf0 q (by rw [← e];rfl)
 have exS : ∀ d,ex = some d → ¬ S (a_ d):=by
  intro d hd hs;obtain ⟨c,tag,xs,hh⟩:=hS _ hs;rw [(hex d hd).1] at hh;cases hh
 have hAq : ∀ (q : Nat) o a,as[q]? = some (o,a) → A (f q) = reBc i a:=by
  intro q o a hq;have hlt:=(List.getElem?_eq_some_iff.1 hq).1
  show (if (f q).tag = 0 then _ else _) = _
  rw [if_neg (hf0 q),hqf q hlt,hq]
 have hGq : ∀ (q : Nat) o a,as[q]? = some (o,a) → G (f q) = match o with | some s => γ (g s) | none => none:=by
  intro q o a hq;have hlt:=(List.getElem?_eq_some_iff.1 hq).1
  show (if (f q).tag = 0 then _ else _) = _
  rw [if_neg (hf0 q),hqf q hlt,hq];cases o <;> rfl
 let γ' : Key → Option Nat:=fun k => if T k then G k else if S k then none else γ k
 have gkeep : ∀ k e,σ.get k = some e → (∀ c tag xs,e ≠ ⟨[],.own c tag xs⟩) → (∀ q,k ≠ f q) → γ' k = γ k:=by
  intro k e he hne hk;have h1 : ¬ T k:=by
   rintro (⟨d,hd,rfl⟩ | ⟨q,-,hq⟩)
   ·rw [(hex d hd).1] at he;cases he
   ·exact hk q hq
  have h2 : ¬ S k:=by
   intro hs;obtain ⟨c,tag,xs,hh⟩:=hS k hs;rw [he] at hh;exact hne c tag xs (Option.some.inj hh)
  show (if T k then _ else _) = _
  rw [if_neg h1,if_neg h2]
 have gbx : ∀ k,Bx k → γ' k = γ k:=by
  intro k hk;obtain ⟨h1,h2,c,tag,n,h3,-⟩:=hbx k hk;exact gkeep k _ h3 (by simp) h1
 refine ⟨γ',Rel.gives hG h hwf hi T S Bx A G hos htape hout hsize hblocks ?_ ?_ ?_ ?_ ?_ ?_ ?_ hS ?_ ?_ ?_ ?_ ?_ ?_ ?_⟩
 ·intro k hk
  obtain ⟨h1,h2,c,tag,n,h3,h4⟩:=hbx k hk;refine ⟨?_,?_,c,tag,n,h3,h4⟩
  ·rintro (⟨d,hd,rfl⟩ | ⟨q,-,hq⟩)
   ·rw [h2] at hd;cases hd
   ·exact h1 q hq
  ·intro hs
   obtain ⟨c',tag',xs,hh⟩:=hS k hs;rw [h3] at hh;cases hh
 ·intro k hk
  rw [B_];obtain ⟨i1,i2⟩:=e_8 f hf i as 0 (σ.puts (b_m g as ++ exBc ex i))
  rcases hk with ⟨d,hd,rfl⟩ | ⟨q,hq,rfl⟩
  ·rw [i2 _ fun j _ => exT d hd _,B_,hd]
   simp only [exBc,St.puts];rw [j_];rfl
  ·obtain ⟨⟨o,a⟩,hoa⟩ : ∃ x,as[q]? = some x:=⟨_,List.getElem?_eq_getElem hq⟩
   have:=i1 q o a hoa
   rw [Nat.zero_add] at this;rw [this,hAq q o a hoa]
 ·intro k hk hnt
  rw [B_];obtain ⟨i1,i2⟩:=e_8 f hf i as 0 (σ.puts (b_m g as ++ exBc ex i));rw [i2 k fun j hj e => hnt (.inr ⟨j,hj,by rw [e,Nat.zero_add]⟩),B_];have : ((σ.puts (b_m g as)).puts (exBc ex i)).get k = (σ.puts (b_m g as)).get k:=by
   cases hx : ex with
   | none => rfl
   | some d =>
    simp only [exBc,St.puts];exact m_ fun e => hnt (.inl ⟨d,hx,e⟩)
  rw [this];exact (h_u g as σ k).1 hk
 ·intro k hnt hns
  rw [B_];obtain ⟨i1,i2⟩:=e_8 f hf i as 0 (σ.puts (b_m g as ++ exBc ex i));rw [i2 k fun j hj e => hnt (.inr ⟨j,hj,by rw [e,Nat.zero_add]⟩),B_];have : ((σ.puts (b_m g as)).puts (exBc ex i)).get k = (σ.puts (b_m g as)).get k:=by
   cases hx : ex with
   | none => rfl
   | some d =>
    simp only [exBc,St.puts];exact m_ fun e => hnt (.inl ⟨d,hx,e⟩)
  rw [this];exact (h_u g as σ k).2 fun q s a hq e => hns ⟨q,s,a,hq,e⟩
 ·intro k hk
  show (if T k then _ else _) = _
  rw [if_pos hk]
 ·intro k hk hnt
  show (if T k then _ else _) = _
  rw [if_neg hnt,if_pos hk]
 ·intro k hnt hns
  show (if T k then _ else _) = _
  rw [if_neg hnt,if_neg hns]
 ·rintro k b (⟨d,hd,rfl⟩ | ⟨q,hq,rfl⟩) hb
  ·have : G (a_ d) = none:=if_pos rfl
   rw [this] at hb;cases hb
  ·obtain ⟨⟨o,a⟩,hoa⟩ : ∃ x,as[q]? = some x:=⟨_,List.getElem?_eq_getElem hq⟩
   rw [hGq q o a hoa] at hb
   cases o with
   | none => cases hb
   | some s => exact ⟨g s,⟨q,s,a,hoa,rfl⟩,hb⟩
 ·intro k k' b hk hk' hb hb'
  have one : ∀ k,T k → G k = some b → ∃ (q s : Nat) (a : AV),as[q]? = some (some s,a) ∧ k = f q ∧ γ (g s) = some b:=by
   rintro k (⟨d,hd,rfl⟩ | ⟨q,hq,rfl⟩) hb
   ·have : G (a_ d) = none:=if_pos rfl
    rw [this] at hb;cases hb
   ·obtain ⟨⟨o,a⟩,hoa⟩ : ∃ x,as[q]? = some x:=⟨_,List.getElem?_eq_getElem hq⟩
    rw [hGq q o a hoa] at hb
    cases o with
    | none => cases hb
    | some s => exact ⟨q,s,a,hoa,rfl,hb⟩
  obtain ⟨q,s,a,q1,rfl,q3⟩:=one k hk hb;obtain ⟨q',s',a',p1,rfl,p3⟩:=one k' hk' hb'
  have:=hg _ _ (h.inj _ _ b q3 p3)
  subst this;rw [hsole q q' s a a' q1 p1]
 ·rintro k (⟨d,hd,rfl⟩ | ⟨q,hq,rfl⟩)
  ·obtain ⟨vs,hvs⟩:=(hex d hd).2 γ'
   exact ⟨_,hvs,.inr (.inr (.inl ⟨if_pos rfl,.inr ⟨vs,rfl⟩⟩))⟩
  ·obtain ⟨⟨o,a⟩,hoa⟩ : ∃ x,as[q]? = some x:=⟨_,List.getElem?_eq_getElem hq⟩
   obtain ⟨u,hu,h1,h2,h3,h4⟩:=hvt γ' gbx q o a hoa;refine ⟨u,hu,?_⟩;rw [hAq q o a hoa,hGq q o a hoa]
   cases o with
   | none =>
    rcases hnone q a hoa with ⟨ty,y,rfl⟩ | ⟨c,rfl⟩ | ⟨h0,tag,c,off,len,rfl,p1,p2,p3,p4⟩
    ·exact .inl ⟨ty,y,rfl,h2 ty y rfl⟩
    ·exact .inr (.inl ⟨c,[],rfl,h3 c rfl rfl⟩)
    ·refine .inr (.inr (.inr (.inr ⟨h0,tag,c,off,len,rfl,p1,?_,?_,p4,h4 h0 tag c off len rfl⟩)))
     ·rintro (⟨d,hd,e⟩ | ⟨q',-,e⟩)
      ·rw [e] at p1;exact p1 (hex d hd).1
      ·exact p2 q' e
     ·rintro ⟨q',s',a',hq',e⟩
      exact p3 q' s' a' hq' e
   | some s =>
    obtain ⟨c,tag,xs,hh,rfl⟩:=hsrc q s a hoa;refine .inr (.inl ⟨c,xs,rfl,?_⟩);obtain ⟨v,hv,hr,-⟩:=h.ent _ _ hh
    have:=h1 s rfl
    rw [hv] at this;simp only [Option.some.injEq] at this;subst this;exact hr trivial
 ·rintro s (⟨d,hd,e⟩ | ⟨q,hq,e⟩)
  ·rw [J_.1 e];exact (hex d hd).1
  ·exact absurd (by rw [← e];rfl) (hf0 q)
 ·rintro s n (⟨d,hd,e⟩ | ⟨q,hq,e⟩)
  ·exact absurd e.symm f_
  ·exact hTc s n q e
 ·rintro s j (⟨d,hd,e⟩ | ⟨q,hq,e⟩)
  ·exact absurd e.symm x_
  ·exact .inr ⟨.inl ⟨s,hTp s j q e,rfl⟩,if_pos rfl⟩
 ·intro k e hnt he
  exact hval γ' gkeep k e (fun q hq e' => hnt (.inr ⟨q,hq,e'⟩)) he
end
section
variable {P : Program} {C : Ctx} {fr : Fr} {tm : Array Value} {w : World} {σ : St} {γ : Key → Option Nat} {D : Nat → Prop}
 (hG : Good P C.tab) (h : Rel C.tab fr tm w σ γ) (hwf : Wf C D σ) (hsz : tm.size = C.nt) {i : Nat} (hi : ¬ D i) {o : Oper} {p : Path} {K : St → Prop} {Q : Exit → Act → World → Prop}
theorem h_r : ∀ (ys l : List T) (off : Nat),∃ l',setCells (.g l) off ys = .g l' ∧ l'.length = l.length ∧ ∀ n,n < l.length → l'[n]? = if off ≤ n ∧ n < off + ys.length then ys[n - off]? else l[n]? := by
 intro ys
 induction ys with
 | nil =>
  intro l off;refine ⟨l,rfl,rfl,fun n hn => ?_⟩;rw [if_neg (by simp;try omega)]
 | cons y ys ih =>
  intro l off;obtain ⟨l',h1,h2,h3⟩:=ih (l.set off y) (off + 1);refine ⟨l',h1,by simpa using h2,fun n hn => ?_⟩;rw [h3 n (by simpa using hn)]
  by_cases hc : off + 1 ≤ n ∧ n < off + 1 + ys.length
  ·rw [if_pos hc,if_pos (by simp;omega)]
   rw [show n - off = (n - (off + 1)) + 1 by omega,List.getElem?_cons_succ]
  ·rw [if_neg hc,List.getElem?_set]
   by_cases hn0 : off = n
   ·subst hn0
    simp [hn]
   ·rw [if_neg hn0,if_neg (by simp;omega)]
theorem Rel.p_s (hG : Good P C.tab) (h : Rel C.tab fr tm w σ γ) (hwf : Wf C D σ) {h0 : Key} {c : TypeId} {tag : Nat} {xs xs' : List T} (hs : σ.get h0 = some ⟨[],.own c tag xs⟩) {b : Nat} (hb : γ h0 = some b)
  {cs : Array Value} {e0 : TypeId} (hh : w.heap[b]? = some (.cells cs e0 (0,0))) (cs' : Array Value) (hlen : xs'.length = xs.length)
  (hO : Stays w (w.setRow b cs') (Ob fr γ) (Ob fr γ) → ∀ v,Own C.tab w (Ob fr γ) c v (γ h0) xs → Own C.tab (w.setRow b cs') (Ob fr γ) c v (γ h0) xs') :
  Rel C.tab fr tm (w.setRow b cs') (σ.put h0 (top (.own c tag xs'))) γ ∧ Wf C D (σ.put h0 (top (.own c tag xs'))):=by
 have hother : ∀ b',b' ≠ b → (w.setRow b cs').heap[b']? = w.heap[b']? := fun b' hne => setRow_other w b b' _ hne
 have hval : ∀ k e,σ.get k = some e → s_ tm (w.setRow b cs') γ k = s_ tm w γ k:=by
  intro k e he;refine a_S (fun _ => rfl) (fun ht => ⟨rfl,fun b' hb' => ?_⟩);obtain ⟨hkc,c',tag',m,hbx⟩:=a_0 h he ht
  by_cases hbb : b' = b
  ·subst hbb
   have:=h.inj _ _ _ hb' hb
   rw [this] at hbx;rw [hs] at hbx;cases hbx
  ·exact b_d (hother b' hbb)
 have hne : ∀ {k : Key} {e : Ent},σ.get k = some e → (∀ c tag xs,e ≠ ⟨[],.own c tag xs⟩) → k ≠ h0:=by
  rintro k e he hno rfl;rw [hs] at he;exact hno _ _ _ (Option.some.inj he).symm
 refine Rel.upd hG h hwf (fun k => k = h0) (fun _ => False) rfl rfl rfl (by simp) ?_ (fun _ _ q => q.elim) (fun _ _ => rfl) ?_ ?_ (fun k hk => m_ hk) (fun k e _ he => hval k e he) ?_ ?_ ?_ ?_ ?_ (fun _ q => q) ?_ ?_ ?_ ?_
 ·intro b' _ hb'
  exact hother b' fun e => hb' h0 (.inl rfl) (by rw [e];exact hb)
 ·rintro k b' rfl hb'
  exact .inl ⟨k,rfl,hb'⟩
 ·rintro k k' b' rfl rfl _ _
  rfl
 ·intro s n e he
  have : ∃ c tag m,σ.get (a_ s) = some ⟨[],.box c tag m⟩:=by
   by_cases hk : cell s n = h0
   ·exact h.cel s n _ (by rw [hk];exact hs)
   ·rw [m_ hk] at he
    exact h.cel s n e he
  obtain ⟨c',t',m,hb'⟩:=this;exact ⟨c',t',m,by rw [m_ (hne hb' (by simp))];exact hb'⟩
 ·intro s n e he
  have : ∃ q m,σ.get (a_ s) = some ⟨q,.tup m⟩:=by
   by_cases hk : comp s n = h0
   ·exact h.cmp s n _ (by rw [hk];exact hs)
   ·rw [m_ hk] at he
    exact h.cmp s n e he
  obtain ⟨q,m,hb'⟩:=this;exact ⟨q,m,by rw [m_ (hne hb' (by simp))];exact hb'⟩
 ·intro s q c' x _ hx
  exact hne hx (by simp)
 ·rintro k rfl _
  rw [j_];simp
 ·rintro k e tag' rfl he ht
  rw [j_] at he;simp only [Option.some.injEq] at he;subst he;exact hwf.tags k _ tag' hs ht
 ·rintro k tag' rfl _ _
  refine ⟨fun c' ys hx => ?_,fun c' n hx => ?_,fun c' hx => by rw [j_] at hx;cases hx⟩
  ·rw [j_] at hx
   simp only [top,Option.some.injEq,Ent.mk.injEq,AV.own.injEq,true_and] at hx;obtain ⟨rfl,rfl,rfl⟩:=hx;exact ⟨hval k _ hs,xs,hs,hlen.symm⟩
  ·rw [j_] at hx
   cases hx
 ·rintro k e h1 tag' rfl he hh'
  rw [j_] at he;simp only [Option.some.injEq] at he;subst he;cases hh'
 ·rintro k e s b' rfl he hm
  rw [j_] at he;simp only [Option.some.injEq] at he;subst he;simp [top] at hm
 ·rintro hstay k e rfl he
  rw [j_] at he;simp only [Option.some.injEq] at he;subst he;obtain ⟨v,hv,hr,-⟩:=h.ent k _ hs;exact ⟨v,by rw [hval k _ hs];exact hv,fun _ => hO hstay v (hr trivial),fun q => absurd trivial q⟩
theorem Own.set (hG : Good P C.tab) {O : Nat → Prop} {c : TypeId} {v : Value} {b : Nat} {xs : List T} {cs : Array Value} {e0 : TypeId} (ho : Own C.tab w O c v (some b) xs) (hh : w.heap[b]? = some (.cells cs e0 (0,0)))
  {j off : Nat} (hj : j < xs.length) {ti : TI} {e ce : TypeId} {te : TI} (hc : C.tab.at c = some (c,ti)) (hk : ti.k = .sl e) (he : C.tab.at e = some (ce,te)) {vals : List Value} {ys : List T} (hyl : ys.length = vals.length)
  (hoff : off + vals.length ≤ te.cells) {y : T} (hyg : y.isG = te.isS) (hyn : y.leaves.length = te.cells)
  (hys : ∀ n,n < te.cells → y.leaves[n]? = if off ≤ n ∧ n < off + vals.length then ys[n - off]? else (xs.getD j .u).leaves[n]?)
  (hst : Stays w (w.setRow b (splice cs (j * te.cells + off) vals)) O O)
  (hV : ∀ (n : Nat) q ty,ys[n]? = some q → (te.lv ce)[off + n]? = some ty → ∃ u,vals[n]? = some u ∧ L C.tab w O ty u q) :
  j * te.cells + off + vals.length ≤ cs.size ∧ Own C.tab (w.setRow b (splice cs (j * te.cells + off) vals)) O c v (some b) (xs.set j y):=by
 obtain ⟨ti',e',ce',te',h1,h2,h3,hp,ho⟩:=ho;have e1:=e_ hc h1;simp only [Prod.mk.injEq,true_and] at e1;subst e1;rw [hk] at h2;simp only [Go.Pl.K.sl.injEq] at h2;subst h2;have e2:=e_ he h3;simp only [Prod.mk.injEq] at e2;obtain ⟨rfl,rfl⟩:=e2
 rcases ho with ⟨-,rfl,-⟩ | ⟨b',cap,cs1,hgb,hv',hh',hcap,hm,hsz,hel⟩
 ·simp at hj
 ·simp only [Option.some.injEq] at hgb
  subst hgb;rw [hh] at hh';simp only [Option.some.injEq,Obj.cells.injEq] at hh';obtain ⟨rfl,rfl,-⟩:=hh';have hmul : (j + 1) * te.cells ≤ cap * te.cells:=Nat.mul_le_mul_right _ (by omega);rw [Nat.add_mul,Nat.one_mul] at hmul;have hfit : j * te.cells + off + vals.length ≤ cs.size:=by omega
  refine ⟨hfit,ti,e0,ce,te,hc,hk,he,hp,.inr ⟨b,cap,_,rfl,by rw [List.length_set];exact hv',setRow_heap w b cs _ _ (0,0) hh,by rw [List.length_set];exact hcap,hm,by rw [a_r hfit];exact hsz,fun m x hx => ?_⟩⟩;rw [List.getElem?_set] at hx
  by_cases hjm : j = m
  ·subst hjm
   simp only [if_true,hj] at hx;simp only [Option.some.injEq] at hx;subst hx;refine ⟨hyg,hyn,fun n q ty hz ht => ?_⟩;have hn : n < te.cells:=by rw [← hyn];exact (List.getElem?_eq_some_iff.1 hz).1
   rw [hys n hn] at hz
   by_cases hc' : off ≤ n ∧ n < off + vals.length
   ·rw [if_pos hc'] at hz
    obtain ⟨u,hu,hl⟩:=hV (n - off) q ty hz (by rw [show off + (n - off) = n by omega];exact ht);refine ⟨u,?_,hl.mono hst⟩;rw [Q_ hfit,if_neg (by omega),if_pos (by omega),show j * te.cells + n - (j * te.cells + off) = n - off by omega];exact hu
   ·rw [if_neg hc'] at hz
    obtain ⟨u,hu,hl⟩:=(hel j _ (h_Q hj)).2.2 n q ty hz ht;refine ⟨u,?_,hl.mono hst⟩;rw [Q_ hfit];split
    ·exact hu
    ·rw [if_neg (by omega)]
     exact hu
  ·rw [if_neg hjm] at hx
   obtain ⟨k1,k2,k3⟩:=hel m x hx;refine ⟨k1,k2,fun n q ty hz ht => ?_⟩;have hn : n < te.cells:=by rw [← k2];exact (List.getElem?_eq_some_iff.1 hz).1
   obtain ⟨u,hu,hl⟩:=k3 n q ty hz ht;refine ⟨u,?_,hl.mono hst⟩;rw [Q_ hfit];have hdis : m * te.cells + n < j * te.cells + off ∨ j * te.cells + off + vals.length ≤ m * te.cells + n:=by
    rcases Nat.lt_or_gt_of_ne hjm with q | q
    ·right
     have:=Nat.mul_le_mul_right te.cells (show j + 1 ≤ m by omega)
     rw [Nat.add_mul,Nat.one_mul] at this;omega
    ·left
     have:=Nat.mul_le_mul_right te.cells (show m + 1 ≤ j by omega)
     rw [Nat.add_mul,Nat.one_mul] at this;omega
   rcases hdis with q | q
   ·rw [if_pos q];exact hu
   ·rw [if_neg (by omega),if_neg (by omega)];exact hu
theorem wp_skip {o : Oper} {w' : World} {K : Act → World → Prop} {Q : Exit → Act → World → Prop} (hrun : (execOp (Act.eval ⟨tm,[]⟩) o).run P w = .ok .skip w')
  (hdst : o.dst = none) (hK : K ⟨tm,[]⟩ w') : o.wp P ⟨tm,[]⟩ w K Q:=by
 unfold Oper.wp;rw [hrun];simp only [Oper.upon,Act.put,hdst];exact hK
theorem b_V {l : List Key} {k : Key} : memK l k = true ↔ k ∈ l:=by
 induction l with
 | nil => simp [memK]
 | cons x r ih =>
  simp only [memK]
  by_cases hx : x = k
  ·subst hx;simp [Key.a_u]
  ·simp only [Key.a_N hx,ih,List.mem_cons]
   exact ⟨.inr,fun q => q.resolve_left (fun e => hx e.symm)⟩
theorem f_b {ws : List (Key × Ent)} {k : Key} : k ∈ K_ ws ↔ ∃ e,(k,e) ∈ ws:=by
 induction ws with
 | nil => simp [K_]
 | cons x r ih =>
  obtain ⟨k',e'⟩:=x;simp only [K_,List.mem_cons,ih,Prod.mk.injEq]
  constructor
  ·rintro (rfl | ⟨e,he⟩)
   ·exact ⟨e',.inl ⟨rfl,rfl⟩⟩
   ·exact ⟨e,.inr he⟩
  ·rintro ⟨e,he | he⟩
   ·exact .inl he.1
   ·exact .inr ⟨e,he⟩
theorem b_g {ti : TI} {c : TypeId} (hS : ti.isS = true) : ti.lv c = ti.leaves:=by
 unfold TI.lv;unfold TI.isS at hS;split
 ·rfl
 ·rename_i hno
  split at hS
  ·rename_i hk;exact absurd hk (hno _)
  ·cases hS
theorem m_o {v : Operand} {f : Nat → R} {r : R} {motive : a_o → Prop} (ht : ∀ t tag,v = .tmp t → σ.get (a_ t) = some ⟨[],.tup tag⟩ → motive ((f t).run σ)) (hr : motive (r.run σ)) : motive ((s_J v f r).run σ):=by
 unfold s_J;split
 ·rename_i t
  simp only [Rd.run];split
  ·rename_i tag he
   exact ht t tag rfl he
  ·exact hr
 ·exact hr
theorem h_P {t n : Nat} {motive : a_o → Prop} (hbad : motive .bad) : ∀ (m q : Nat) (k : List Bc → R) (_ : ∀ as,as.length = m → (∀ (j : Nat) o a,as[j]? = some (o,a) → (∃ ty y,o = none ∧ a = .t ty y ∧ σ.get (fld t n (q + j)) = some ⟨[],.t ty y⟩ ∧ ∃ c tt,C.tab.at ty = some (c,tt) ∧ tt.isS = false) ∨
   ∃ c tag xs,o = some (q + j) ∧ a = .own c 0 xs ∧ σ.get (fld t n (q + j)) = some ⟨[],.own c tag xs⟩) → motive ((k as).run σ)),motive ((e_o C t n m q k).run σ):=by
 intro m
 induction m with
 | zero => exact fun q k hok => hok [] rfl fun j o a h => by simp at h
 | succ m ih =>
  intro q k hok;simp only [e_o,Rd.run];split
  ·rename_i ty y he
   split
   ·rename_i c0 tt hat
    split
    ·rename_i hS
     refine ih (q + 1) _ fun as hl hP => hok _ (by simp [hl]) fun j o a hj => ?_
     cases j with
     | zero =>
      simp only [List.getElem?_cons_zero,Option.some.injEq,Prod.mk.injEq] at hj;obtain ⟨rfl,rfl⟩:=hj;exact .inl ⟨ty,y,rfl,rfl,he,c0,tt,hat,hS⟩
     | succ j =>
      simp only [List.getElem?_cons_succ] at hj
      have:=hP j o a hj
      rwa [show q + 1 + j = q + (j + 1) by omega] at this
    ·exact hbad
   ·exact hbad
  ·rename_i ty tag xs he
   refine ih (q + 1) _ fun as hl hP => hok _ (by simp [hl]) fun j o a hj => ?_
   cases j with
   | zero =>
    simp only [List.getElem?_cons_zero,Option.some.injEq,Prod.mk.injEq] at hj;obtain ⟨rfl,rfl⟩:=hj;exact .inr ⟨ty,tag,xs,rfl,rfl,he⟩
   | succ j =>
    simp only [List.getElem?_cons_succ] at hj
    have:=hP j o a hj
    rwa [show q + 1 + j = q + (j + 1) by omega] at this
  ·exact hbad
theorem h_O {t n q : Nat} {u : Value} (hq : q < 1000) (h : s_ tm w γ (fld t n q) = some u) : ∃ vs,tm[t]? = some (.agg vs) ∧ vs.size = n ∧ vs[q]? = some u:=by
 have h1 : Nat.blt ((n + 1) * 1000 + q) 1000 = false:=by
  cases hb : Nat.blt ((n + 1) * 1000 + q) 1000 with
  | false => rfl
  | true => simp [Nat.blt] at hb;omega
 simp only [s_,fld,comp] at h;split at h
 ·rw [h1] at h;cases h
 ·rename_i vs hvs
  rw [h1] at h;simp only at h;rw [show ((n + 1) * 1000 + q) / 1000 - 1 = n by omega,show ((n + 1) * 1000 + q) % 1000 = q by omega] at h;split at h
  ·rename_i hb
   exact ⟨vs,hvs,Nat.eq_of_beq_eq_true hb,h⟩
  ·cases h
 ·cases h
theorem o_l {t n q : Nat} {u : Value} {vs : Array Value} (hq : q < 1000) (h1 : tm[t]? = some (.agg vs)) (h2 : vs.size = n) (h3 : vs[q]? = some u) : s_ tm w γ (fld t n q) = some u:=by
 have hb : Nat.blt ((n + 1) * 1000 + q) 1000 = false:=by
  cases hb : Nat.blt ((n + 1) * 1000 + q) 1000 with
  | false => rfl
  | true => simp [Nat.blt] at hb;omega
 simp only [s_,fld,comp,h1,hb];rw [show ((n + 1) * 1000 + q) / 1000 - 1 = n by omega,show ((n + 1) * 1000 + q) % 1000 = q by omega,h2];simp [h3]
theorem s_f {tab : Tab} {O : Nat → Prop} {c : TypeId} {v : Value} {g : Option Nat} {xs : List T} (h : Own tab w O c v g xs) : v.oneCell' = true:=by
 obtain ⟨ti,e,ce,te,-,-,-,-,o5⟩:=h
 rcases o5 with ⟨-,-,a,q⟩ | ⟨b,cap,cs,-,q,-⟩ <;> rw [q] <;> rfl
include hG h hwf hsz hi
theorem j_l {ty : TypeId} {a v : Operand} (ho : o.op = .store ty a v) (hdst : o.dst = none) : Sound P C fr tm w σ D i o p K Q ((o_h C i p ty a v).run σ):=by
 unfold o_h
 cases p with
 | cons => exact b_
 | nil =>
  have hp : σ.Holds []:=trivial;simp only;refine f_i hG h [] hp a b_ fun sp hsp => ?_
  have hrun : ∀ w',(Instr.storeAt ty (ev tm a) (ev tm v)).run P w = .ok () w' → (execOp (Act.eval ⟨tm,[]⟩) o).run P w = .ok .skip w' := by
   intro w' hv;unfold ev at hv;simp only [execOp,ho];rw [Sem.run_bind,hv];rfl
  cases hsp with
  | box s c n cb tag b hs hb hev =>
   simp only;obtain ⟨cs,ety,hh,hcs⟩:=f_6 h hs hb;split
   ·rename_i ct ti hty
    have hself:=(hG _ _ _ hty).self;split
    ·rename_i hfit
     have hfit:=of_decide_eq_true hfit;split
     ·rename_i hS
      refine m_o (fun t tag' hv he => ?_) ?_
      ·split
       ·rename_i h1000 hpos
        have h1000:=of_decide_eq_true h1000;have hpos:=of_decide_eq_true hpos;refine h_P b_ _ _ _ fun as hl hP => ?_
        simp only [Nat.zero_add] at hP;intro hW;have look : ∀ q,q < ti.cells → ∃ o a,as[q]? = some (o,a) ∧ ∃ u,s_ tm w γ (fld t ti.cells q) = some u ∧ u.oneCell' = true ∧ (∀ s,o = some s → s = q) ∧ (∀ ty y,a = .t ty y → V C.tab w (Ob fr γ) ty u y) ∧ (∀ c,o = none → a = .own c 0 [] → Own C.tab w (Ob fr γ) c u none []) ∧ ∀ h0 tag c off len,a ≠ .alias h0 tag c off len:=by
         intro q hq;obtain ⟨⟨o,a⟩,hoa⟩ : ∃ x,as[q]? = some x:=⟨_,List.getElem?_eq_getElem (by omega)⟩;refine ⟨o,a,hoa,?_⟩
         rcases hP q o a hoa with ⟨ty',y,rfl,rfl,hg,c0,tt,hat,hSt⟩ | ⟨c0,tag0,xs,rfl,rfl,hg⟩
         ·obtain ⟨u,hu,hr,-⟩:=h.ent _ _ hg
          have hVu : V C.tab w (Ob fr γ) ty' u y:=hr trivial;obtain ⟨t1,e1,-⟩:=id hVu
          have:=e_ hat e1
          simp only [Prod.mk.injEq] at this;obtain ⟨rfl,rfl⟩:=this;exact ⟨u,hu,m_x (b_Q e1 hSt hVu).1,fun s hs => (by cases hs),fun ty2 y2 e => (by cases e;exact hVu),fun c _ e => (by cases e),fun _ _ _ _ _ e => (by cases e)⟩
         ·obtain ⟨u,hu,hr,-⟩:=h.ent _ _ hg
          exact ⟨u,hu,s_f (hr trivial),fun s hs => (Option.some.inj hs).symm,fun ty2 y2 e => (by cases e),fun c e _ => (by cases e),fun _ _ _ _ _ e => (by cases e)⟩
        obtain ⟨o0,a0,-,u0,hu0,-⟩:=look 0 hpos;obtain ⟨vs,hvs,hvn,-⟩:=h_O (by omega) hu0;have hev2 : ev tm v = .agg vs:=by
         subst hv;simp only [ev,Act.eval,Array.getD_eq_getD_getElem?,hvs,Option.getD_some]
        have hcl : (ev tm v).cells = vs:=by rw [hev2];rfl
        have at_ : ∀ q,q < ti.cells → ∀ u,s_ tm w γ (fld t ti.cells q) = some u → vs[q]? = some u:=by
         intro q hq u hu;obtain ⟨vs',h1,-,h3⟩:=h_O (by omega) hu;rw [hvs] at h1;simp only [Option.some.injEq,Value.agg.injEq] at h1;rw [h1];exact h3
        have hone : ∀ u ∈ (ev tm v).cells.toList,u.oneCell' = true:=by
         intro u hu;rw [hcl] at hu;obtain ⟨q,hq,rfl⟩:=List.getElem_of_mem hu;obtain ⟨o,a,-,u',hu',h1,-⟩:=look q (by simp at hq;omega)
         have:=at_ q (by simp at hq;omega) u' hu'
         have h2 : vs.toList[q] = u' := by
          have h3 : vs.toList[q]? = some u' := by rw [Array.getElem?_toList];exact this
          rw [List.getElem?_eq_getElem hq] at h3;exact Option.some.inj h3
         rw [h2];exact h1
        have hlen : vs.toList.length = ti.cells:=by simp [hvn]
        have hfit2 : c + vs.toList.length ≤ cs.size:=by omega
        have hget : (w.setRow b (splice cs c vs.toList)).heap[b]? = some (.cells (splice cs c vs.toList) ety (0,0)):=setRow_heap w b cs _ ety (0,0) hh;have hother : ∀ b',b' ≠ b → (w.setRow b (splice cs c vs.toList)).heap[b']? = w.heap[b']? := fun b' hne => setRow_other w b b' _ hne
        obtain ⟨γ2,q1,q2⟩:=Rel.bcs hG h hwf hi (fun k => k = a_ s) (tm' := tm) (w' := w.setRow b (splice cs c vs.toList)) (as:=as) (fun q => cell s (c + q)) (fld t ti.cells) (fun k => k.b - c) none rfl rfl rfl (by simp)
         (fun b' hb' => hother b' fun e => hb' (a_ s) rfl (by rw [e];exact hb))
         (by
          rintro k rfl;refine ⟨fun q => f_,rfl,cb,tag,n,hs,fun b' cs1 ety1 hb1 hh1 => ?_⟩;rw [hb] at hb1;simp only [Option.some.injEq] at hb1;subst hb1;rw [hh] at hh1;simp only [Option.some.injEq,Obj.cells.injEq] at hh1;obtain ⟨rfl,rfl,-⟩:=hh1;exact ⟨_,hget,a_r hfit2⟩)
         (fun q => by simp [cell]) (fun q q' e => by have:=(c_f.1 e).2;omega) (fun q _ => by simp [cell]) (fun q q' e => by have:=(b_T.1 e).2;omega)
         (fun q s' a hq => by
          rcases hP q _ a hq with ⟨ty',y,e,-⟩ | ⟨c0,tag0,xs,e,rfl,hg⟩
          ·cases e
          ·cases e;exact ⟨c0,tag0,xs,hg,rfl⟩)
         (fun q a hq => by
          rcases hP q _ a hq with ⟨ty',y,-,rfl,-⟩ | ⟨c0,tag0,xs,e,-⟩
          ·exact .inl ⟨ty',y,rfl⟩
          ·cases e)
         (fun q q' s' a a' hq hq' => by
          rcases hP q _ a hq with ⟨ty',y,e,-⟩ | ⟨c0,tag0,xs,e,-⟩
          ·cases e
          ·rcases hP q' _ a' hq' with ⟨ty',y,e',-⟩ | ⟨c0,tag0,xs,e',-⟩
           ·cases e'
           ·cases e;cases e';rfl)
         (fun d hd => by cases hd)
         (fun γ' hγ' q o a hq => by
          have hlt:=(List.getElem?_eq_some_iff.1 hq).1;obtain ⟨o',a',hq',u,hu,-,h1,h2,h3,h4⟩:=look q (by omega);rw [hq] at hq';simp only [Option.some.injEq,Prod.mk.injEq] at hq';obtain ⟨rfl,rfl⟩:=hq';refine ⟨u,?_,fun s' hs' => by rw [h1 s' hs'];exact hu,h2,h3,fun h0 tag c off len e => absurd e (h4 h0 tag c off len)⟩;simp only [s_,cell];rw [show γ' (a_ s) = some b by rw [hγ' _ rfl];exact hb];simp only [Option.bind_some];rw [w_ hget,Q_ hfit2,if_neg (by omega),if_pos (by omega),show c + q - c = q by omega,Array.getElem?_toList];exact at_ q (by omega) u hu)
         (fun s' n' q e => by obtain ⟨rfl,-⟩:=c_f.1 e;exact ⟨cb,tag,n,hs⟩)
         (fun s' j q e => absurd e.symm L_)
         (fun γ' hγ' k e hk he => by
          refine a_S (fun _ => rfl) (fun ht => ?_);obtain ⟨hkc,c',tag',m,hbx⟩:=a_0 h he ht;refine ⟨hγ' _ _ hbx (by simp) fun q => f_,fun b' hb' => ?_⟩
          by_cases hbb : b' = b
          ·subst hbb
           have:=J_.1 (h.inj _ _ _ hb' hb)
           rw [w_ hget,w_ hh,Q_ hfit2];split
           ·rfl
           ·split
            ·rename_i q1 q2
             exact absurd (by rw [hkc,this];simp [cell];omega) (hk (k.b - c) (by omega))
            ·rfl
          ·exact b_d (hother b' hbb))
        simp only [exBc,List.append_nil] at q1 q2;have hst:=c_k (w:=w) hG hty (v:=ev tm v) (by rw [hcl];exact hvn) hone hh (o:=c) (by omega);rw [hcl] at hst;exact wp_skip (hrun _ (by rw [hev];exact hst)) hdst ⟨rfl,hsz,_,_,hW,q1,q2⟩
       ·exact b_
      refine d_v hG h [] hp v ty b_ fun cv x ws hf hV => ?_
      split
      ·rename_i hcc
       have:=Nat.eq_of_beq_eq_true hcc
       subst this;intro hW;obtain ⟨γ',r1,r2,r3,r4,r5,r6,r7,r8⟩:=Rel.frz hG h hwf hf;have hV' := hV _ r5 r6;obtain ⟨k1,k2,k3,k4,k5⟩:=e_M hG hself hV';have hnoown : ∀ c tag xs,σ.get (a_ s) ≠ some ⟨[],.own c tag xs⟩:=fun c tag xs q => by rw [hs] at q;cases q
       have hbx : (σ.puts ws).get (a_ s) = some ⟨[],.box cb tag n⟩:=by rw [r3 _ hnoown];exact hs
       have hγs : γ' (a_ s) = some b:=by
        rw [(r4 (a_ s) fun e hm => ?_).2,hb];obtain ⟨c',xs',tag',-,hg⟩:=hf _ _ hm;exact hnoown _ _ _ hg
       have hlv:=b_g (c:=cv) hS;have hlen:=(hG _ _ _ hself).len;rw [hlv] at hlen;obtain ⟨γ2,q1,q2⟩:=Rel.cells hG r1 r2 hbx hγs hh (c:=c) (vals:=(ev tm v).cells.toList) (xs:=x.leaves) (tys:=ti.leaves) (by omega) (by omega) (by omega) (fun j y t hy ht => by
        obtain ⟨u,hu,hl⟩:=k5 j y t hy (by rw [hlv];exact ht);obtain ⟨t1,ht1,hs1⟩:=(hG _ _ _ hself).leaf t (by rw [hlv];exact List.mem_of_getElem? ht);have hno:=f_X hl;exact ⟨u,hu,b_8 ht1 hs1 (U_ hG ht1 hs1) hno.2 hno.1 hl⟩)
       have hW' : K ((σ.puts ws).puts (cellsOf s c ti.leaves x.leaves)):=by rw [← B_,← P_ k3];exact hW
       exact wp_skip (hrun _ (by rw [hev];exact c_k hG hty (by rw [← k2];simp) k4 hh (by omega))) hdst ⟨rfl,hsz,_,_,hW',q1,q2.mono fun _ => .inl⟩
      ·exact b_
     ·rename_i hS
      have hc1:=U_ hG hself hS;have one : ∀ (σ1 : St) (γ1 : Key → Option Nat) (ks : Key) (av : AV) (g : Option Nat) (σ2 : St),Rel C.tab fr tm w σ1 γ1 → Wf C D σ1 → σ1.get (a_ s) = some ⟨[],.box cb tag n⟩ → γ1 (a_ s) = some b →
        ((∃ c y,av = .t c y ∧ g = none ∧ V C.tab w (Ob fr γ1) c (ev tm v) y) ∨ (∃ c xs,av = .own c (i + 1) xs ∧ Own C.tab w (Ob fr γ1) c (ev tm v) g xs)) →
        (g = none ∨ (b_S σ1 ks ∧ g = γ1 ks)) → (ks = cell s c ∨ b_S σ1 ks) → (ev tm v).cells = #[ev tm v] → (ev tm v).oneCell' = true →
        (∀ k,σ2.get k = ((σ1.put ks (top .u)).put (cell s c) (top av)).get k) → K σ2 → o.wp P ⟨tm,[]⟩ w (After C fr (fun j => D j ∨ j = i) K) Q:=by
       intro σ1 γ1 ks av g σ2 hr hw hbs hbg hav hg hks hce hone hσ hK;have hfit' : c + [ev tm v].length ≤ cs.size:=by simp;omega
       have hget : (w.setRow b (splice cs c [ev tm v])).heap[b]? = some (.cells (splice cs c [ev tm v]) ety (0,0)):=setRow_heap w b cs _ ety (0,0) hh;have hother : ∀ b',b' ≠ b → (w.setRow b (splice cs c [ev tm v])).heap[b']? = w.heap[b']? := fun b' hne => setRow_other w b b' _ hne
       have hksne : a_ s ≠ ks:=by
        rcases hks with q | ⟨c',t',xs',q⟩
        ·rw [q];exact f_
        ·rintro rfl
         rw [hbs] at q;cases q
       have hγs : setG (setG γ1 ks none) (cell s c) g (a_ s) = some b:=by rw [O_ _ _ f_,O_ _ _ hksne,hbg]
       obtain ⟨q1,q2⟩:=Rel.give (w' := w.setRow b (splice cs c [ev tm v])) (tm' := tm) hG hr hw hi (fun k => k = a_ s) (kt:=cell s c) (ks:=ks) (v:=ev tm v) rfl rfl rfl (by simp)
        (fun b' hb' => hother b' fun e => hb' (a_ s) rfl (by rw [e];exact hbg))
        (by
         rintro k rfl;refine ⟨f_,hksne,cb,tag,n,hbs,fun b' cs1 ety1 hb1 hh1 => ?_⟩;rw [hbg] at hb1;simp only [Option.some.injEq] at hb1;subst hb1;rw [hh] at hh1;simp only [Option.some.injEq,Obj.cells.injEq] at hh1;obtain ⟨rfl,rfl,-⟩:=hh1;exact ⟨_,hget,a_r hfit'⟩)
        hav hg hks
        (fun s' e hs' _ => absurd hs'.symm f_)
        (by rintro s' hs';exact absurd hs'.symm f_) (.inr ⟨rfl,cb,tag,n,hbs⟩)
        (by
         simp only [s_,cell];rw [show a_ s = a_ s from rfl,show setG (setG γ1 ks none) ⟨1,s,c⟩ g (a_ s) = some b from hγs];simp only [Option.bind_some];rw [w_ hget,Q_ hfit',if_neg (by omega),if_pos (by simp)];simp)
        (by
         intro k e hne he;refine a_S (fun _ => rfl) (fun ht => ?_);obtain ⟨hkc,c',tag',m,hbx⟩:=a_0 hr he ht;have hne2 : a_ k.a ≠ ks:=by
          rcases hks with q | ⟨c',t',xs',q⟩
          ·rw [q];exact f_
          ·intro q'
           rw [← q',hbx] at q;cases q
         refine ⟨by rw [O_ _ _ f_,O_ _ _ hne2],fun b' hb' => ?_⟩
         by_cases hbb : b' = b
         ·subst hbb
          have:=J_.1 (hr.inj _ _ _ hb' hbg)
          rw [w_ hget,w_ hh,Q_ hfit'];split
          ·rfl
          ·split
           ·rename_i q1 q2
            simp at q2;exact absurd (by rw [hkc,this];simp [cell];omega) hne
           ·rfl
         ·exact b_d (hother b' hbb))
       have hst:=c_k (w:=w) hG hty (v:=ev tm v) (by rw [hce,hc1];rfl) (by rw [hce];simpa using hone) hh (o:=c) (by omega);rw [hce] at hst;exact wp_skip (hrun _ (by rw [hev];exact hst)) hdst ⟨rfl,hsz,_,_,hK,q1.congr hσ,q2.congr hσ⟩
      have scal : ∀ (O : Nat → Prop) (c' : TypeId) (y : T),C.tab.at ty = some (c',ti) → V C.tab w O c' (ev tm v) y → (ev tm v).cells = #[ev tm v] ∧ (ev tm v).oneCell' = true:=by
       intro O c' y hc' hV;have hself' := (hG _ _ _ hc').self;obtain ⟨hl,-,hno⟩:=b_Q hself' hS hV;refine ⟨?_,m_x hl⟩;cases hvv : ev tm v <;> first | rfl | (rw [hvv] at hno;simp [isAgg] at hno)
      have scalo : ∀ (O : Nat → Prop) (c' : TypeId) (g : Option Nat) (xs : List T),Own C.tab w O c' (ev tm v) g xs → (ev tm v).cells = #[ev tm v] ∧ (ev tm v).oneCell' = true:=by
       intro O c' g xs hO;have hsl:=hO.c_H;unfold b_E at hsl;obtain ⟨t2,e2,ce2,te2,a2,cap2,-,-,-,-,hvv,-⟩:=hsl;rw [hvv];exact ⟨rfl,rfl⟩
      have tyeq : ∀ {c' : TypeId},(∃ ti,C.tab.at ty = some (c',ti)) → C.tab.at ty = some (c',ti):=by
       rintro c' ⟨ti',h'⟩
       have:=e_ hty h'
       simp only [Prod.mk.injEq] at this;rw [h',this.2]
      refine f_z hG h b_ (fun fz c' y hc' hf hV => ?_) (fun c' xs hc' hO => ?_) (fun ks c' xs hc' hks hO => ?_)
      ·intro hW
       obtain ⟨γ',r1,r2,r3,r4,r5,r6,r7,r8⟩:=Rel.frz hG h hwf hf;have hnoown : ∀ c tag xs,σ.get (a_ s) ≠ some ⟨[],.own c tag xs⟩:=fun c tag xs q => by rw [hs] at q;cases q
       have hbx : (σ.puts fz).get (a_ s) = some ⟨[],.box cb tag n⟩:=by rw [r3 _ hnoown];exact hs
       have hγs : γ' (a_ s) = some b:=by
        rw [(r4 (a_ s) fun e hm => ?_).2,hb];obtain ⟨c',xs',tag',-,hg⟩:=hf _ _ hm;exact hnoown _ _ _ hg
       have hV' := hV _ r5 r6;obtain ⟨s1,s2⟩:=scal _ _ _ (tyeq hc') hV';exact one _ γ' (cell s c) (.t c' y) none _ r1 r2 hbx hγs (.inl ⟨c',y,rfl,rfl,hV'⟩) (.inl rfl) (.inl rfl) s1 s2 (fun k => by rw [B_];exact c_c _ _ _ _ _) hW
      ·intro hW
       obtain ⟨s1,s2⟩:=scalo _ _ _ _ hO;exact one σ γ (cell s c) (.own c' (i + 1) xs) none _ h hwf hs hb (.inr ⟨c',xs,rfl,hO⟩) (.inl rfl) (.inl rfl) s1 s2 (c_c σ _ _ _) hW
      ·intro hW
       obtain ⟨s1,s2⟩:=scalo _ _ _ _ hO;exact one σ γ ks (.own c' (i + 1) xs) (γ ks) _ h hwf hs hb (.inr ⟨c',xs,rfl,hO⟩) (.inr ⟨hks,rfl⟩) (.inr hks) s1 s2 (fun _ => rfl) hW
    ·exact b_
   ·exact b_
  | row h0 c xs tag j off b cap ti e ce te hs hj hval hc hk he hb hev =>
   simp only;split
   ·rename_i e' hel
    have hee : e' = e:=by
     obtain ⟨c',ti',r1,r2⟩:=i_E hel
     have:=e_ hc r1
     simp only [Prod.mk.injEq] at this;rw [← this.2,hk] at r2;simp only [Go.Pl.K.sl.injEq] at r2;exact r2.symm
    subst hee;split
    ·rename_i ce' te' ct t1 he' hty
     have:=e_ he he'
     simp only [Prod.mk.injEq] at this;obtain ⟨rfl,rfl⟩:=this;have hself:=(hG _ _ _ hty).self;have hlen1:=(hG _ _ _ hself).len;have hlen0:=(hG _ _ _ (hG _ _ _ he).self).len;split
     ·rename_i hsl
      have hsl:=c_1 hsl;have hoff : off + t1.cells ≤ te.cells:=by
       have:=congrArg List.length hsl
       have hpos:=(hG _ _ _ hself).pos;simp only [List.length_take,List.length_drop,hlen1,hlen0] at this;omega
      have hty' : ∀ n,n < t1.cells → (te.lv ce)[off + n]? = (t1.lv ct)[n]? := by
       intro n hn;rw [← hsl,List.getElem?_take,if_pos hn,List.getElem?_drop]
      refine d_v hG h [] hp v ty b_ fun cv x ws hf hV => ?_
      split
      ·rename_i hcc hmem
       have:=Nat.eq_of_beq_eq_true hcc
       subst this;have hnot : ∀ e',(h0,e') ∉ ws:=by
        intro e' hm
        have:=b_V.2 (f_b.2 ⟨e',hm⟩)
        rw [hmem] at this;cases this
       obtain ⟨γ',r1,r2,r3,r4,r5,r6,r7,r8⟩:=Rel.frz hG h hwf hf;obtain ⟨hg0,hγ0⟩:=r4 h0 hnot;have hs' : (σ.puts ws).get h0 = some ⟨[],.own c tag xs⟩:=hg0.trans hs;have hb' : γ' h0 = some b:=hγ0.trans hb;obtain ⟨k1,k2,k3,k4,k5⟩:=e_M hG hself (hV _ r5 r6);obtain ⟨cs,e0,hh⟩ : ∃ cs e0,w.heap[b]? = some (.cells cs e0 (0,0)):=by
        obtain ⟨v0,hv0,hr,-⟩:=h.ent h0 _ hs;obtain ⟨_,_,_,_,_,_,_,_,ho'⟩:=hr trivial
        rcases ho' with ⟨-,rfl,-⟩ | ⟨b1,cap1,cs,hgb,-,hh,-⟩
        ·simp at hj
        ·rw [hb] at hgb
         simp only [Option.some.injEq] at hgb;subst hgb;exact ⟨cs,_,hh⟩
       have fin : ∀ y : T,y.isG = te.isS → y.leaves.length = te.cells → (∀ n,n < te.cells → y.leaves[n]? = if off ≤ n ∧ n < off + (ev tm v).cells.toList.length then x.leaves[n - off]? else (xs.getD j .u).leaves[n]?) →
         K (σ.puts (ws ++ [(h0,top (.own c tag (xs.set j y)))])) → o.wp P ⟨tm,[]⟩ w (After C fr (fun j => D j ∨ j = i) K) Q:=by
        intro y hy1 hy2 hy3 hK;have hset:=fun hst => Own.set (v:=.slice (some ⟨b,0,none⟩) xs.length cap) (O:=Ob fr γ') hG (by
          obtain ⟨v0,hv0,hr,-⟩:=r1.ent h0 _ hs';have hO : Own C.tab w (Ob fr γ') c v0 (γ' h0) xs:=hr trivial;rw [hb'] at hO;obtain ⟨_,_,_,_,_,_,_,_,ho'⟩:=id hO
          rcases ho' with ⟨hgn,-⟩ | ⟨b1,cap1,cs,hgb,hv1,-⟩
          ·cases hgn
          ·have h0' := h.ent h0 _ hs
           obtain ⟨v2,hv2,hr2,-⟩:=h0';have hO2 : Own C.tab w (Ob fr γ) c v2 (γ h0) xs:=hr2 trivial;rw [hval] at hv2;simp only [Option.some.injEq] at hv2;subst hv2;rw [hb] at hO2;exact hO2.mono (fun b2 _ hb2 => ⟨rfl,fun q => hb2 (r5 _ q)⟩) (fun _ _ => rfl)) hh hj hc hk he (vals:=(ev tm v).cells.toList) (ys:=x.leaves) (by omega) (by omega) hy1 hy2 hy3 hst (fun n q t hq ht => by
          have hn : n < t1.cells:=by rw [← k3];exact (List.getElem?_eq_some_iff.1 hq).1
          exact k5 n q t hq (by rw [← hty' n hn];exact ht))
        have hfit : j * te.cells + off + (ev tm v).cells.toList.length ≤ cs.size:=by
         obtain ⟨v0,hv0,hr,-⟩:=h.ent h0 _ hs;have hO : Own C.tab w (Ob fr γ) c v0 (γ h0) xs:=hr trivial;obtain ⟨ti2,e2,ce2,te2,q1,q2,q3,-,ho'⟩:=hO
         have:=e_ hc q1
         simp only [Prod.mk.injEq,true_and] at this;subst this;rw [hk] at q2;simp only [Go.Pl.K.sl.injEq] at q2;subst q2
         have:=e_ he q3
         simp only [Prod.mk.injEq] at this;obtain ⟨rfl,rfl⟩:=this
         rcases ho' with ⟨hgn,-⟩ | ⟨b1,cap1,cs1,hgb,-,hh1,hcap,-,hsz1,-⟩
         ·rw [hb] at hgn;cases hgn
         ·rw [hb] at hgb
          simp only [Option.some.injEq] at hgb;subst hgb;rw [hh] at hh1;simp only [Option.some.injEq,Obj.cells.injEq] at hh1;obtain ⟨rfl,-,-⟩:=hh1;have hmul : (j + 1) * te.cells ≤ cap1 * te.cells:=Nat.mul_le_mul_right _ (by omega);rw [Nat.add_mul,Nat.one_mul] at hmul;omega
        obtain ⟨q1,q2⟩:=Rel.p_s hG r1 r2 hs' hb' hh (splice cs (j * te.cells + off) (ev tm v).cells.toList) (xs' := xs.set j y) (by simp) (fun hst v1 hO1 => by
         rw [hb'] at hO1 ⊢;obtain ⟨_,_,_,_,_,_,_,_,ho'⟩:=id hO1
         rcases ho' with ⟨hgn,-⟩ | ⟨b1,cap1,cs1,hgb,hv1,-⟩
         ·cases hgn
         ·refine (Own.set (O:=Ob fr γ') hG hO1 hh hj hc hk he (vals:=(ev tm v).cells.toList) (ys:=x.leaves) (by omega) (by omega) hy1 hy2 hy3 hst (fun n q t hq ht => by
           have hn : n < t1.cells:=by rw [← k3];exact (List.getElem?_eq_some_iff.1 hq).1
           exact k5 n q t hq (by rw [← hty' n hn];exact ht))).2)
        have hK' : K ((σ.puts ws).put h0 (top (.own c tag (xs.set j y)))):=by
         rw [B_] at hK;exact hK
        exact wp_skip (hrun _ (by rw [hev];exact c_k hG hty (by rw [← k2];simp) k4 hh (by omega))) hdst ⟨rfl,hsz,_,_,hK',q1,q2.mono fun _ => .inl⟩
       obtain ⟨m1,m2,-⟩:=k_6 (O:=Ob fr γ) (hv:=.slice (some ⟨b,0,none⟩) xs.length cap) (by
        obtain ⟨v0,hv0,hr,-⟩:=h.ent h0 _ hs;rw [hval] at hv0;simp only [Option.some.injEq] at hv0;subst hv0;exact hr trivial) hb hj hc hk he
       split
       ·rename_i hS
        intro hW
        cases hx0 : xs.getD j .u with
        | g l =>
         rw [hx0] at m1 m2 hW;simp only [T.leaves] at m2;obtain ⟨l',s1,s2,s3⟩:=h_r (a_z x t1.cells) l off;rw [s1] at hW;refine fin (.g l') (by rw [hS];rfl) (by simp only [T.leaves];omega) (fun n hn => ?_) hW;rw [hx0];simp only [T.leaves];rw [s3 n (by omega),P_ k3,k3,k2];rfl
        | _ => rw [hx0,hS] at m1;cases m1
       ·rename_i hS hS1
        intro hW;have c0:=U_ hG (hG _ _ _ he).self hS;have c1:=U_ hG hself hS1;refine fin x (by rw [k1,hS,hS1]) (by rw [k3,c0,c1]) (fun n hn => ?_) hW;have hn0 : n = 0:=by omega
        have ho0 : off = 0:=by omega
        subst hn0;subst ho0;rw [if_pos (by omega)]
       ·exact b_
      ·exact b_
     ·exact b_
    ·exact b_
   ·exact b_
  | tree => exact b_
end
section
variable {P : Program} {C : Ctx} {fr : Fr} {tm : Array Value} {w w' : World} {σ : St} {γ : Key → Option Nat} {D : Nat → Prop}
theorem Rel.j_X (hG : Good P C.tab) (h : Rel C.tab fr tm w σ γ) (hwf : Wf C D σ) {i : Nat} (hi : ¬ D i) {d : Nat} {ks : Key} {c : TypeId} {xs : List T} {v : Value} {g : Option Nat} (hd : d < tm.size)
  (habs : σ.get (a_ d) = none) (hos : w'.os = w.os) (htape : w'.tape = w.tape) (hout : w'.output = w.output) (hsize : w.heap.size ≤ w'.heap.size)
  (hblocks : ∀ b,b < w.heap.size → (b_S σ ks → γ ks ≠ some b) → w'.heap[b]? = w.heap[b]?)
  (hg : g = none ∨ (b_S σ ks ∧ g = γ ks) ∨ ∃ b,g = some b ∧ w.heap.size ≤ b ∧ b < w'.heap.size) (hks : ks = a_ d ∨ b_S σ ks)
  (hO : ∀ O',Stays w w' (Ob fr γ) O' → Own C.tab w' O' c v g xs) :
  Rel C.tab fr (tm.setIfInBounds d v) w' ((σ.put ks (top .u)).put (a_ d) (top (.own c (i + 1) xs))) (setG (setG γ ks none) (a_ d) g) ∧
   Wf C (fun j => D j ∨ j = i) ((σ.put ks (top .u)).put (a_ d) (top (.own c (i + 1) xs))):=by
 have hget : ∀ k,k ≠ a_ d → k ≠ ks → ((σ.put ks (top .u)).put (a_ d) (top (.own c (i + 1) xs))).get k = σ.get k:=fun k h1 h2 => by rw [m_ h1,m_ h2]
 have hgt : ((σ.put ks (top .u)).put (a_ d) (top (.own c (i + 1) xs))).get (a_ d) = some (top (.own c (i + 1) xs)):=j_;have hgs : ks ≠ a_ d → ((σ.put ks (top .u)).put (a_ d) (top (.own c (i + 1) xs))).get ks = some (top .u):=fun q => by rw [m_ q,j_]
 have hold : ∀ k e,((σ.put ks (top .u)).put (a_ d) (top (.own c (i + 1) xs))).get k = some e → k = a_ d ∧ e = top (.own c (i + 1) xs) ∨ k ≠ a_ d ∧ k = ks ∧ e = top .u ∨ k ≠ a_ d ∧ k ≠ ks ∧ σ.get k = some e:=by
  intro k e he
  by_cases h1 : k = a_ d
  ·subst h1;rw [hgt] at he;exact .inl ⟨rfl,(Option.some.inj he).symm⟩
  ·by_cases h2 : k = ks
   ·subst h2;rw [hgs h1] at he;exact .inr (.inl ⟨h1,rfl,(Option.some.inj he).symm⟩)
   ·rw [hget k h1 h2] at he;exact .inr (.inr ⟨h1,h2,he⟩)
 have ex_ne : ∀ {k : Key} {e : Ent},σ.get k = some e → k ≠ a_ d:=by
  rintro k e he rfl;rw [habs] at he;cases he
 have ks_ne : ∀ {k : Key} {e : Ent},σ.get k = some e → (∀ c tag xs,e ≠ ⟨[],.own c tag xs⟩) → k ≠ ks:=by
  rintro k e he hne rfl
  rcases hks with rfl | ⟨c,tag,xs,hh⟩
  ·exact ex_ne he rfl
  ·rw [he] at hh;exact hne c tag xs (Option.some.inj hh)
 have hnotD : ¬ Old D (i + 1):=by
  rintro (q | ⟨j,hj,q⟩)
  ·cases q
  ·have : i = j:=by omega
   subst this;exact hi hj
 have hval : ∀ k e,k ≠ a_ d → σ.get k = some e → s_ (tm.setIfInBounds d v) w' (setG (setG γ ks none) (a_ d) g) k = s_ tm w γ k:=by
  intro k e hne he;refine a_S (fun ht => ?_) (fun ht => ?_)
  ·have : d ≠ k.a:=by
    intro q
    by_cases h0 : k.tag = 0
    ·exact hne (by rw [b_N h he h0,q])
    ·obtain ⟨v0,hv0,-⟩:=h.ent k e he
     have h2 : k.tag = 2:=by
      obtain ⟨t,a,b⟩:=k;unfold s_ at hv0
      match t with
      | 0 => exact absurd rfl h0
      | 1 => exact absurd rfl ht
      | 2 => rfl
      | n + 3 => cases hv0
     obtain ⟨-,q',m,hh⟩:=c_R h he h2;rw [← q,habs] at hh;cases hh
   simp [Array.getElem?_setIfInBounds,this]
  ·obtain ⟨hk,c,tag,m,hs⟩:=a_0 h he ht
   have q1:=ex_ne hs;have q2:=ks_ne hs (by simp);refine ⟨by rw [O_ _ _ q1,O_ _ _ q2],fun b hb => b_d ?_⟩;exact hblocks b (h.blk _ b hb).1 fun _ hb' => q2 (h.inj _ _ b hb hb')
 refine Rel.upd hG h hwf (fun k => k = a_ d ∨ k = ks) (fun _ => False) hos htape hout hsize ?_ (fun _ _ q => q.elim) ?_ ?_ ?_ ?_ ?_ ?_ ?_ ?_ ?_ ?_ (fun tag ho => ho.mono fun _ => .inl) ?_ ?_ ?_ ?_
 ·exact fun b hb hk => hblocks b hb fun _ => hk ks (.inl (.inr rfl))
 ·intro k hk
  rw [O_ _ _ fun q => hk (.inl q),O_ _ _ fun q => hk (.inr q)]
 ·intro k b hk hb
  have hgb : g = some b:=by
   by_cases h1 : k = a_ d
   ·subst h1;rw [a_e] at hb;exact hb
   ·rcases hk with hk | hk
    ·exact absurd hk h1
    ·subst hk
     rw [O_ _ _ h1,a_e] at hb;cases hb
  rcases hg with hg | ⟨-,hg⟩ | ⟨b',hg,h1,h2⟩
  ·rw [hg] at hgb;cases hgb
  ·exact .inl ⟨ks,.inr rfl,by rw [← hg];exact hgb⟩
  ·rw [hg] at hgb
   simp only [Option.some.injEq] at hgb;subst hgb;exact .inr ⟨h1,h2⟩
 ·intro k k' b hk hk' hb hb'
  have one : ∀ k,k = a_ d ∨ k = ks → setG (setG γ ks none) (a_ d) g k = some b → k = a_ d:=by
   intro k hk hb
   by_cases h1 : k = a_ d
   ·exact h1
   ·rcases hk with hk | hk
    ·exact hk
    ·subst hk
     rw [O_ _ _ h1,a_e] at hb;cases hb
  rw [one k hk hb,one k' hk' hb']
 ·intro k hk
  exact hget k (fun q => hk (.inl q)) fun q => hk (.inr q)
 ·intro k e hk he
  exact hval k e (fun q => hk (.inl q)) he
 ·intro s n e he
  have : ∃ c tag m,σ.get (a_ s) = some ⟨[],.box c tag m⟩:=by
   rcases hold _ e he with ⟨h1,-⟩ | ⟨h0,h2,-⟩ | ⟨-,-,h3⟩
   ·exact absurd h1.symm f_
   ·rcases hks with q | ⟨c,tag,xs,hh⟩
    ·exact absurd (h2.trans q) h0
    ·rw [← h2] at hh;exact h.cel s n _ hh
   ·exact h.cel s n e h3
  obtain ⟨c,tag,m,hb⟩:=this;exact ⟨c,tag,m,by rw [hget _ (ex_ne hb) (ks_ne hb (by simp))];exact hb⟩
 ·intro s j e he
  have : ∃ q m,σ.get (a_ s) = some ⟨q,.tup m⟩:=by
   rcases hold _ e he with ⟨h1,-⟩ | ⟨h0,h2,-⟩ | ⟨-,-,h3⟩
   ·exact absurd h1.symm x_
   ·rcases hks with q | ⟨c,tag,xs,hh⟩
    ·exact absurd (h2.trans q) h0
    ·rw [← h2] at hh;exact h.cmp s j _ hh
   ·exact h.cmp s j e h3
  obtain ⟨q,m,hb⟩:=this;exact ⟨q,m,by rw [hget _ (ex_ne hb) (ks_ne hb (by simp))];exact hb⟩
 ·rintro s q c x hs hh hk
  rcases hk with hk | hk
  ·exact ex_ne hh hk
  ·exact ks_ne hh (by simp) hk
 ·intro k hk _
  by_cases h1 : k = a_ d
  ·rw [h1,hgt];simp
  ·rcases hk with hk | hk
   ·exact absurd hk h1
   ·subst hk;rw [hgs h1];simp
 ·intro k e tag hk he ht
  rcases hold k e he with ⟨-,rfl⟩ | ⟨-,-,rfl⟩ | ⟨h1,h2,-⟩
  ·simp only [top,AV.a_C,Option.some.injEq] at ht
   subst ht;exact c_J
  ·cases ht
  ·exact absurd hk (by rintro (q | q);exact h1 q;exact h2 q)
 ·intro k tag hk _ ho
  refine c_C (D:=D) (fun e t he ht q => ?_) ho
  rcases hold k e he with ⟨-,rfl⟩ | ⟨-,-,rfl⟩ | ⟨h1,h2,-⟩
  ·simp only [top,AV.a_C,Option.some.injEq] at ht
   subst ht;exact hnotD q
  ·cases ht
  ·exact absurd hk (by rintro (q | q);exact h1 q;exact h2 q)
 ·intro k e h0 tag hk he hh
  rcases hold k e he with ⟨-,rfl⟩ | ⟨-,-,rfl⟩ | ⟨h1,h2,-⟩
  ·cases hh
  ·cases hh
  ·exact absurd hk (by rintro (q | q);exact h1 q;exact h2 q)
 ·intro k e s b hk he hm
  rcases hold k e he with ⟨-,rfl⟩ | ⟨-,-,rfl⟩ | ⟨h1,h2,-⟩
  ·simp [top] at hm
  ·simp [top] at hm
  ·exact absurd hk (by rintro (q | q);exact h1 q;exact h2 q)
 ·intro hstay k e hk he
  rcases hold k e he with ⟨rfl,rfl⟩ | ⟨h1,rfl,rfl⟩ | ⟨h1,h2,-⟩
  ·refine ⟨v,by rw [i_];simp [hd],fun _ => ?_,fun q => absurd trivial q⟩
   show Own C.tab w' _ c v (setG (setG γ ks none) (a_ d) g (a_ d)) xs
   rw [a_e];exact hO _ hstay
  ·rcases hks with q | ⟨c,tag,xs,hh⟩
   ·exact absurd q h1
   ·obtain ⟨v0,hv0,-⟩:=h.ent k _ hh
    exact ⟨v0,by rw [hval k _ h1 hh];exact hv0,fun _ => trivial,fun q => absurd trivial q⟩
  ·exact absurd hk (by rintro (q | q);exact h1 q;exact h2 q)
theorem Good.zero (hG : Good P C.tab) {t c : TypeId} {ti : TI} (h : C.tab.at t = some (c,ti)) : ∃ i z,P.info? t = some i ∧ i.size = ti.cells ∧ i.bytes = ti.bytes ∧ i.zero = some z ∧
  ti.zero.isG = ti.isS ∧ z.cells.size = ti.cells ∧ ti.zero.leaves.length = ti.cells ∧ ∀ w O (j : Nat) y ty,ti.zero.leaves[j]? = some y → (ti.lv c)[j]? = some ty → ∃ u,z.cells[j]? = some u ∧ L C.tab w O ty u y:=by
 obtain ⟨i,z,h1,h2,h3,h4,h5,-⟩:=(hG t c ti h).info;have hself:=(hG t c ti h).self;refine ⟨i,z,h1,h2,h3,h4,?_⟩;obtain ⟨ti',q1,q2,q3,q4,q5,-⟩:=h5 default (fun _ => False)
 have:=e_ hself q1
 simp only [Prod.mk.injEq,true_and] at this;subst this;refine ⟨q2,q4,q5,fun w O j y ty hy ht => ?_⟩;obtain ⟨ti',q1,q2,q3,q4,q5,q6⟩:=h5 w O
 have:=e_ hself q1
 simp only [Prod.mk.injEq,true_and] at this;subst this;exact q6 j y ty hy ht
theorem h_X {z : Array Value} {n m k : Nat} (hz : 0 < z.size) (hk : m * z.size + k < n) (hkz : k < z.size) : (madeCells z n)[m * z.size + k]? = z[k]? := by
 have e : (m * z.size + k) % z.size = k:=by
  rw [Nat.mul_comm,Nat.mul_add_mod,Nat.mod_eq_of_lt hkz]
 simp [madeCells,hk,e,hkz]
variable (hG : Good P C.tab) (h : Rel C.tab fr tm w σ γ) (hwf : Wf C D σ) (hsz : tm.size = C.nt) {i : Nat} (hi : ¬ D i) {o : Oper} {p : Path} {K : St → Prop} {Q : Exit → Act → World → Prop}
theorem I_ (w : World) (x : Obj) : (w.alloc x).heap.size = w.heap.size + 1:=Array.size_push _
theorem f_O {ti : TI} {e : TypeId} (h : ti.k.elem = some e) : ti.k = .sl e:=by
 cases hk : ti.k <;> simp [hk,K.elem] at h
 rw [h]
include hG h hwf hsz hi
theorem k_b {ty : TypeId} {l c : Operand} (ho : o.op = .makeSlice ty l c) : Sound P C fr tm w σ D i o p K Q ((r_4 C i p o ty l c).run σ):=by
 unfold r_4
 cases p with
 | cons => exact b_
 | nil =>
  have hp : σ.Holds []:=trivial;simp only;refine o_ _ _ b_ fun d hd hn hv habs => ?_
  refine a_F hG h [] hp l 3 b_ fun cl vl hl => ?_
  refine a_F hG h [] hp c 3 b_ fun cc vc hc => ?_
  refine Z_ _ b_ fun cr tr hr => ?_
  split
  ·rename_i kl kc e hkl hkc hel
   have hk:=f_O hel;split
   ·rename_i ce te he
    obtain ⟨el,-,-⟩:=hl.int hkl;obtain ⟨ec,-,-⟩:=hc.int hkc;have hself:=(hG _ _ _ hr).self;have hpos:=(hG _ _ _ he).pos;have hu:=hG.slice (t:=ty) (e:=e) (by unfold Ctx.el Ctx.kd;rw [hr];exact hel);obtain ⟨inf,z,z1,z2,z3,z4,z5,z6,z7,z8⟩:=hG.zero he;intro hW;obtain ⟨⟨b0,b1,b2,b3⟩,hK⟩ : (0 ≤ vl.int ∧ vl.int ≤ vc.int ∧ (te.bytes : Int) * vc.int ≤ 281474976710656 ∧ vc.int ≤ 9223372036854775807) ∧ K (σ.puts [(a_ d,top (.own cr (i + 1) (List.replicate vl.int.toNat te.zero)))]):=hW;have hrun:=run_make w ty e inf z hu z1 z4 kl kc vl.int vc.int b0 b1 (by rw [z3];exact b2) b3;have hex : (execOp (Act.eval ⟨tm,[]⟩) o).run P w = .ok (.value (.slice (some ⟨w.heap.size,0,none⟩) vl.int.toNat vc.int.toNat)) (w.alloc (.cells (madeCells z.cells (vc.int.toNat * inf.size)) e)):=by
     unfold ev at el ec;simp only [execOp,ho,el,ec];rw [Sem.run_bind,hrun];rfl
    have hnew:=heap_alloc_new w (.cells (madeCells z.cells (vc.int.toNat * inf.size)) e);obtain ⟨r1,r2⟩:=Rel.j_X (w' := w.alloc (.cells (madeCells z.cells (vc.int.toNat * inf.size)) e)) (ks:=a_ d) (d:=d) (c:=cr) (xs:=List.replicate vl.int.toNat te.zero) (v:=.slice (some ⟨w.heap.size,0,none⟩) vl.int.toNat vc.int.toNat) (g:=some w.heap.size)
     hG h hwf hi (by rw [hsz];exact hn) habs rfl rfl rfl (by rw [I_];omega) (fun b hb _ => heap_alloc_old w _ b hb) (.inr (.inr ⟨_,rfl,Nat.le_refl _,by rw [I_];omega⟩)) (.inl rfl) (fun O' hst => by
      refine ⟨tr,e,ce,te,hself,hk,he,hpos,.inr ⟨_,vc.int.toNat,_,rfl,by rw [List.length_replicate],hnew,by rw [List.length_replicate];omega,by simp only [maxLen];omega,by rw [size_madeCells,z2],fun j x hx => ?_⟩⟩;have hj : j < vl.int.toNat:=by
       have:=(List.getElem?_eq_some_iff.1 hx).1
       simpa using this
      rw [List.getElem?_replicate,if_pos hj] at hx;simp only [Option.some.injEq] at hx;subst hx;refine ⟨z5,z7,fun n y t hy ht => ?_⟩;have hn' : n < te.cells:=by rw [← z7];exact (List.getElem?_eq_some_iff.1 hy).1
      obtain ⟨u,hu',hL⟩:=z8 (w.alloc (.cells (madeCells z.cells (vc.int.toNat * inf.size)) e)) O' n y t hy ht;refine ⟨u,?_,hL⟩;rw [← z6,h_X (by rw [z6];exact hpos) ?_ (by rw [z6];exact hn')]
      ·exact hu'
      ·have:=Nat.mul_le_mul_right te.cells (show j + 1 ≤ vc.int.toNat by omega)
       rw [Nat.add_mul,Nat.one_mul] at this;rw [z6,z2];omega)
    exact a_1 hex hd ⟨rfl,by simp [hsz],_,_,hK,r1.congr (c_c σ _ _ _),r2.congr (c_c σ _ _ _)⟩
   ·exact b_
  ·exact b_
end
section
variable {P : Program} {C : Ctx} {fr : Fr} {tm : Array Value} {w w' : World} {σ : St} {γ : Key → Option Nat} {D : Nat → Prop}
theorem o_V (off : Nat) : ∀ (vs : List Value) (k : Nat) (cs : Array Value),off + k + vs.length ≤ cs.size →
  ((vs.zipIdx k).foldl (fun cs (x : Value × Nat) => cs.setIfInBounds (off + x.2) x.1) cs).size = cs.size ∧
  ∀ m : Nat,((vs.zipIdx k).foldl (fun cs (x : Value × Nat) => cs.setIfInBounds (off + x.2) x.1) cs)[m]? = if off + k ≤ m ∧ m < off + k + vs.length then vs[m - (off + k)]? else cs[m]? := by
 intro vs
 induction vs with
 | nil =>
  intro k cs _;refine ⟨rfl,fun m => ?_⟩;rw [if_neg (by simp)];rfl
 | cons v vs ih =>
  intro k cs hl;simp only [List.length_cons] at hl;obtain ⟨q1,q2⟩:=ih (k + 1) (cs.setIfInBounds (off + k) v) (by simp;omega);simp only [List.zipIdx_cons,List.foldl_cons];refine ⟨by rw [q1];simp,fun m => ?_⟩;rw [q2 m]
  by_cases h1 : off + (k + 1) ≤ m ∧ m < off + (k + 1) + vs.length
  ·rw [if_pos h1,if_pos (by simp;omega),show m - (off + k) = (m - (off + (k + 1))) + 1 by omega,List.getElem?_cons_succ]
  ·rw [if_neg h1,Array.getElem?_setIfInBounds]
   by_cases h2 : off + k = m
   ·subst h2
    rw [if_pos rfl,if_pos (by omega),if_pos (by simp)];simp
   ·rw [if_neg h2,if_neg (by simp;omega)]
theorem j_U {cs : Array Value} {off : Nat} {vs : Array Value} (h : off + vs.size ≤ cs.size) :
  vs.zipIdx.foldl (fun cs (x : Value × Nat) => cs.setIfInBounds (off + x.2) x.1) cs = splice cs off vs.toList:=by
 have hl:=Array.length_toList (xs:=vs);obtain ⟨q1,q2⟩:=o_V off vs.toList 0 cs (by rw [hl];omega);rw [← Array.foldl_toList,Array.toList_zipIdx];apply Array.ext_getElem?;intro m;rw [q2 m,Q_ (by rw [hl];exact h)];simp only [Nat.add_zero]
 by_cases h1 : m < off
 ·rw [if_pos h1,if_neg (by omega)]
 ·rw [if_neg h1]
  by_cases h2 : m < off + vs.toList.length
  ·rw [if_pos h2,if_pos (by omega)]
  ·rw [if_neg h2,if_neg (by omega)]
theorem e_n {place : Nat → Option (Nat × Nat)} {cs : Array Value} {j off size : Nat} {v : Value} {rest : List (Nat × Value)} (hp : place j = some (off,size)) (hv : v.cells.size = size) (hf : off + size ≤ cs.size) :
  Instr.fill place cs ((j,v) :: rest) = Instr.fill place (splice cs off v.cells.toList) rest:=by
 have h1:=j_U (cs:=cs) (off:=off) (vs:=v.cells) (by rw [hv];exact hf);rw [← h1];have h2 : ¬ (off + size > cs.size):=by omega
 simp only [Instr.fill,hp,hv,ne_eq,not_true_eq_false,h2,decide_false,Bool.or_self,if_false];rfl
def Elems (tab : Tab) (w : World) (O : Nat → Prop) (ce : TypeId) (te : TI) (cs : Array Value) (xs : List T) : Prop :=
 cs.size = xs.length * te.cells ∧ ∀ (j : Nat) x,xs[j]? = some x → x.isG = te.isS ∧ x.leaves.length = te.cells ∧
  ∀ (n : Nat) y ty,x.leaves[n]? = some y → (te.lv ce)[n]? = some ty → ∃ u,cs[j * te.cells + n]? = some u ∧ L tab w O ty u y
theorem Elems.put (hG : Good P C.tab) {O : Nat → Prop} {ce : TypeId} {te : TI} {cs : Array Value} {xs : List T} (h : Elems C.tab w O ce te cs xs) (hce : C.tab.at ce = some (ce,te)) {j : Nat} (hj : j < xs.length) {v : Value} {y : T}
  (hV : V C.tab w O ce v y) : j * te.cells + te.cells ≤ cs.size ∧ v.cells.size = te.cells ∧ Elems C.tab w O ce te (splice cs (j * te.cells) v.cells.toList) (xs.set j y):=by
 obtain ⟨h1,h2⟩:=h;obtain ⟨k1,k2,k3,k4,k5⟩:=e_M hG hce hV;have hmul:=Nat.mul_le_mul_right te.cells (show j + 1 ≤ xs.length by omega);rw [Nat.add_mul,Nat.one_mul] at hmul;have hfit : j * te.cells + v.cells.toList.length ≤ cs.size:=by omega
 refine ⟨by omega,by rw [← k2];simp,by rw [a_r hfit,h1,List.length_set],fun m x hx => ?_⟩;rw [List.getElem?_set] at hx
 by_cases hjm : j = m
 ·subst hjm
  simp only [if_true,hj] at hx;simp only [Option.some.injEq] at hx;subst hx;refine ⟨k1,k3,fun n q ty hq ht => ?_⟩;have hn : n < te.cells:=by rw [← k3];exact (List.getElem?_eq_some_iff.1 hq).1
  obtain ⟨u,hu,hl⟩:=k5 n q ty hq ht;exact ⟨u,by rw [Q_ hfit,if_neg (by omega),if_pos (by omega),show j * te.cells + n - j * te.cells = n by omega];exact hu,hl⟩
 ·rw [if_neg hjm] at hx
  obtain ⟨q1,q2,q3⟩:=h2 m x hx;refine ⟨q1,q2,fun n q ty hq ht => ?_⟩;have hn : n < te.cells:=by rw [← q2];exact (List.getElem?_eq_some_iff.1 hq).1
  obtain ⟨u,hu,hl⟩:=q3 n q ty hq ht;refine ⟨u,?_,hl⟩;rw [Q_ hfit]
  rcases Nat.lt_or_gt_of_ne hjm with q | q
  ·have:=Nat.mul_le_mul_right te.cells (show j + 1 ≤ m by omega)
   rw [Nat.add_mul,Nat.one_mul] at this;rw [if_neg (by omega),if_neg (by omega)];exact hu
  ·have:=Nat.mul_le_mul_right te.cells (show m + 1 ≤ j by omega)
   rw [Nat.add_mul,Nat.one_mul] at this;rw [if_pos (by omega)];exact hu
inductive i_m (C : Ctx) (tm : Array Value) (w : World) (O : Nat → Prop) (γ : Key → Option Nat) (e : TypeId) : List (Nat × Operand) → List T → List T → List (Key × Ent) → Prop where
 | nil (xs : List T) : i_m C tm w O γ e [] xs xs []
 | cons (j : Nat) (x : Operand) (r : List (Nat × Operand)) (xs xs' : List T) (c : TypeId) (te : TI) (y : T) (ws ws' : List (Key × Ent)) (ht : C.tab.at e = some (c,te))
   (hV : f_F C.tab w O γ ws c (ev tm x) y) (hj : j < xs.length) (hr : i_m C tm w O γ e r (xs.set j y) xs' ws') : i_m C tm w O γ e ((j,x) :: r) xs xs' (ws ++ ws')
theorem g_F (hG : Good P C.tab) (h : Rel C.tab fr tm w σ γ) (e : TypeId) {k : List T → List (Key × Ent) → R} {motive : a_o → Prop} (hbad : motive .bad) :
  ∀ (parts : List (Nat × Operand)) (xs : List T) (ws0 : List (Key × Ent)) (_ : Frz σ ws0) (_ : ∀ xs' ws,Frz σ (ws0 ++ ws) → i_m C tm w (Ob fr γ) γ e parts xs xs' ws → motive ((k xs' (ws0 ++ ws)).run σ)),motive ((h_k C e parts xs ws0 k).run σ):=by
 intro parts
 induction parts with
 | nil =>
  intro xs ws0 hf hok
  have:=hok xs [] (by simpa using hf) (.nil xs)
  simpa [h_k] using this
 | cons a r ih =>
  intro xs ws0 hf hok;obtain ⟨j,x⟩:=a;simp only [h_k];refine d_v hG h [] trivial x e hbad fun c y ws hfw hV => ?_
  split
  ·rename_i ce hce
   split
   ·rename_i hcc
    have hcc:=Nat.eq_of_beq_eq_true hcc;subst hcc;split
    ·rename_i hj
     have hj:=of_decide_eq_true hj;obtain ⟨te,hte⟩ : ∃ te,C.tab.at e = some (c,te):=by
      cases ht : C.tab.at e with
      | none => rw [ht] at hce;cases hce
      | some q =>
       obtain ⟨c',te⟩:=q;rw [ht] at hce;simp only [Option.map_some,Option.some.injEq] at hce;subst hce;exact ⟨te,rfl⟩
     refine ih (xs.set j y) (ws0 ++ ws) (hf.append hfw) fun xs' ws' hfa hP => ?_
     rw [List.append_assoc] at hfa ⊢;exact hok xs' (ws ++ ws') hfa (.cons j x r xs xs' c te y ws ws' hte hV hj hP)
    ·exact hbad
   ·exact hbad
  ·exact hbad
theorem h_b (hG : Good P C.tab) {O O' : Nat → Prop} {e ce : TypeId} {te : TI} (he : C.tab.at e = some (ce,te)) {parts : List (Nat × Operand)} {xs xs' : List T} {ws : List (Key × Ent)} (hP : i_m C tm w O γ e parts xs xs' ws)
  (hO : ∀ b,O' b → O b) : Free γ ws O' → ∀ cs,Elems C.tab w O' ce te cs xs → xs'.length = xs.length ∧
   ∃ cs',Instr.fill (fun i => some (i * te.cells,te.cells)) cs (parts.map fun q => (q.1,ev tm q.2)) = some cs' ∧ Elems C.tab w O' ce te cs' xs' := by
 induction hP with
 | nil xs => exact fun _ cs hE => ⟨rfl,cs,rfl,hE⟩
 | cons j x r xs xs' c te' y ws ws' ht hV hj hr ih =>
  intro hF cs hE
  have:=e_ he ht
  simp only [Prod.mk.injEq] at this;obtain ⟨rfl,rfl⟩:=this;have hce:=(hG _ _ _ he).self;obtain ⟨q1,q2,q3⟩:=hE.put hG hce hj (hV O' hO hF.left);obtain ⟨l1,cs',f1,f2⟩:=ih hF.right _ q3;refine ⟨by rw [l1,List.length_set],cs',?_,f2⟩;simp only [List.map_cons];rw [e_n (place:=fun i => some (i * te.cells,te.cells)) rfl q2 q1];exact f1
theorem d_q {ty e ce : TypeId} {te : TI} {n : Nat} {inf : TypeInfo} {z : Value} (hu : P.underlying ty = some (.slice e)) (he : C.tab.at e = some (ce,te)) (hG : Good P C.tab) (hle : n * te.cells ≤ 16777216) (z1 : P.info? e = some inf)
  (z4 : inf.zero = some z) {parts : Array (Nat × Value)} {cs' : Array Value} (hf : Instr.fill (fun i => some (i * te.cells,te.cells)) (madeCells z.cells (n * te.cells)) parts.toList = some cs') :
  (Instr.buildSlice ty n parts).run P w = .ok (.slice (some ⟨w.heap.size,0,none⟩) n n) (w.alloc (.cells cs' e)):=by
 have h24 : ¬ (2 ^ 24 < n * te.cells):=by omega
 by_cases h0 : n * te.cells = 0
 ·have hm : ∀ f : Nat → Value,(Array.range 0).map f = #[]:=by intro f;simp [Array.range_zero']
  unfold madeCells at hf;rw [h0,hm] at hf;simp only [Instr.buildSlice,Sem.run_bind,run_underlying hu,Result.andThen_ok,c_0 hG he,h0];simp only [hm,hf];simp [newRow]
 ·unfold madeCells at hf
  simp [Instr.buildSlice,run_underlying hu,c_0 hG he,h24,zeroValue,typeInfo,z1,z4,h0,newRow,hf]
variable (hG : Good P C.tab) (h : Rel C.tab fr tm w σ γ) (hwf : Wf C D σ) (hsz : tm.size = C.nt) {i : Nat} (hi : ¬ D i) {o : Oper} {p : Path} {K : St → Prop} {Q : Exit → Act → World → Prop}
theorem c_D {ws : List (Key × Ent)} {k : Key} (h3 : ∀ k,(∀ c tag xs,σ.get k ≠ some ⟨[],.own c tag xs⟩) → (σ.puts ws).get k = σ.get k) (habs : σ.get k = none) : (σ.puts ws).get k = none:=by
 rw [h3 k fun c tag xs q => by rw [habs] at q;cases q];exact habs
include hG h hwf hsz hi
theorem e_Z {ty : TypeId} {n : Nat} {parts : Array (Nat × Operand)} (ho : o.op = .buildSlice ty n parts) : Sound P C fr tm w σ D i o p K Q ((d_Z C i p o ty n parts).run σ):=by
 unfold d_Z
 cases p with
 | cons => exact b_
 | nil =>
  simp only;refine o_ _ _ b_ fun d hd hn hv habs => ?_
  refine Z_ _ b_ fun cr tr hr => ?_
  split
  ·rename_i e hel
   have hk:=f_O hel;split
   ·rename_i ce te he
    split
    ·rename_i hle
     have hle:=of_decide_eq_true hle;have hself:=(hG _ _ _ hr).self;have hpos:=(hG _ _ _ he).pos;have hu:=hG.slice (t:=ty) (e:=e) (by unfold Ctx.el Ctx.kd;rw [hr];exact hel);obtain ⟨inf,z,z1,z2,z3,z4,z5,z6,z7,z8⟩:=hG.zero he;refine g_F hG h e b_ _ _ [] Frz.nil fun xs' ws hf hP => ?_
     simp only [List.nil_append] at hf ⊢;intro hW;obtain ⟨γ',r1,r2,r3,r4,r5,r6,r7,r8⟩:=Rel.frz hG h hwf hf;have hE0 : Elems C.tab w (Ob fr γ') ce te (madeCells z.cells (n * te.cells)) (List.replicate n te.zero):=by
      refine ⟨by rw [size_madeCells,List.length_replicate],fun j x hx => ?_⟩;have hj : j < n:=by
       have:=(List.getElem?_eq_some_iff.1 hx).1
       simpa using this
      rw [List.getElem?_replicate,if_pos hj] at hx;simp only [Option.some.injEq] at hx;subst hx;refine ⟨z5,z7,fun m y t hy ht => ?_⟩;have hn' : m < te.cells:=by rw [← z7];exact (List.getElem?_eq_some_iff.1 hy).1
      obtain ⟨u,hu',hL⟩:=z8 w (Ob fr γ') m y t hy ht;refine ⟨u,?_,hL⟩;rw [← z6,h_X (by rw [z6];exact hpos) ?_ (by rw [z6];exact hn')]
      ·exact hu'
      ·have:=Nat.mul_le_mul_right te.cells (show j + 1 ≤ n by omega)
       rw [Nat.add_mul,Nat.one_mul] at this;rw [z6];omega
     obtain ⟨hlen,cs',hfill,hE⟩:=h_b hG he hP r5 r6 _ hE0;rw [List.length_replicate] at hlen;have hfill' : Instr.fill (fun i => some (i * te.cells,te.cells)) (madeCells z.cells (n * te.cells)) (parts.map fun q => (q.1,Act.eval ⟨tm,[]⟩ q.2)).toList = some cs' := by
      rw [Array.toList_map];exact hfill
     have hbs : (Instr.buildSlice ty n (parts.map fun q => (q.1,Act.eval ⟨tm,[]⟩ q.2))).run P w = .ok (.slice (some ⟨w.heap.size,0,none⟩) n n) (w.alloc (.cells cs' e)):=by
      exact d_q hu he hG hle z1 z4 hfill'
     have hex : (execOp (Act.eval ⟨tm,[]⟩) o).run P w = .ok (.value (.slice (some ⟨w.heap.size,0,none⟩) n n)) (w.alloc (.cells cs' e)):=by
      simp only [execOp,ho];rw [Sem.run_bind,hbs];rfl
     have hnew:=heap_alloc_new w (.cells cs' e);obtain ⟨s1,s2⟩:=Rel.j_X (w' := w.alloc (.cells cs' e)) (ks:=a_ d) (d:=d) (c:=cr) (xs:=xs') (v:=.slice (some ⟨w.heap.size,0,none⟩) n n) (g:=some w.heap.size)
      hG r1 r2 hi (by rw [hsz];exact hn) (c_D r3 habs) rfl rfl rfl (by rw [I_];omega) (fun b hb _ => heap_alloc_old w _ b hb) (.inr (.inr ⟨_,rfl,Nat.le_refl _,by rw [I_];omega⟩)) (.inl rfl) (fun O' hst => by
       refine ⟨tr,e,ce,te,hself,hk,he,hpos,.inr ⟨_,n,cs',rfl,by rw [hlen],hnew,by omega,?_,by rw [hE.1,hlen],fun j x hx => ?_⟩⟩
       ·have:=Nat.mul_le_mul_left n hpos
        simp only [maxLen];omega
       ·obtain ⟨k1,k2,k3⟩:=hE.2 j x hx
        refine ⟨k1,k2,fun m y t hy ht => ?_⟩;obtain ⟨u,hu',hL⟩:=k3 m y t hy ht;exact ⟨u,hu',hL.mono hst⟩)
     refine a_1 hex hd ⟨rfl,by simp [hsz],_,_,hW,s1.congr ?_,s2.congr ?_⟩
     ·intro k;rw [B_];exact c_c _ _ _ _ _
     ·intro k;rw [B_];exact c_c _ _ _ _ _
    ·exact b_
   ·exact b_
  ·exact b_
end
section
variable {P : Program} {C : Ctx} {fr : Fr} {tm : Array Value} {w w' : World} {σ : St} {γ : Key → Option Nat} {D : Nat → Prop}
def StE (tab : Tab) (w : World) (O : Nat → Prop) (ti : TI) (cs : Array Value) (x : T) : Prop :=
 cs.size = ti.cells ∧ x.isG = true ∧ x.leaves.length = ti.cells ∧ ∀ (j : Nat) y ty,x.leaves[j]? = some y → ti.leaves[j]? = some ty → ∃ u,cs[j]? = some u ∧ L tab w O ty u y
theorem StE.put (hG : Good P C.tab) {O : Nat → Prop} {ti : TI} {cs : Array Value} {x : T} (h : StE C.tab w O ti cs x) {cf : TypeId} {tf : TI} (hcf : C.tab.at cf = some (cf,tf)) {off : Nat}
  (hl : (ti.leaves.drop off).take tf.cells = tf.lv cf) (hle : off + tf.cells ≤ ti.cells) {v : Value} {y : T} (hV : V C.tab w O cf v y) :
  off + tf.cells ≤ cs.size ∧ v.cells.size = tf.cells ∧ StE C.tab w O ti (splice cs off v.cells.toList) (setCells x off (a_z y tf.cells)):=by
 obtain ⟨h1,h2,h3,h4⟩:=h;obtain ⟨k1,k2,k3,k4,k5⟩:=e_M hG hcf hV;have hfit : off + v.cells.toList.length ≤ cs.size:=by omega
 refine ⟨by omega,by rw [← k2];simp,by rw [a_r hfit,h1],?_⟩
 cases x with
 | g l =>
  simp only [T.leaves] at h3 h4;obtain ⟨l',s1,s2,s3⟩:=h_r (a_z y tf.cells) l off;rw [s1];have hll : (a_z y tf.cells).length = tf.cells:=by rw [P_ k3,k3]
  refine ⟨rfl,by simp only [T.leaves];omega,fun j q ty hq ht => ?_⟩;simp only [T.leaves] at hq;have hj : j < l.length:=by
   have:=(List.getElem?_eq_some_iff.1 hq).1
   omega
  rw [s3 j hj] at hq;rw [Q_ hfit]
  by_cases hc : off ≤ j ∧ j < off + tf.cells
  ·rw [if_pos (by rw [hll];exact hc),P_ k3] at hq
   obtain ⟨u,hu,hL⟩:=k5 (j - off) q ty hq (by rw [← hl,List.getElem?_take,if_pos (by omega),List.getElem?_drop,show off + (j - off) = j by omega];exact ht);exact ⟨u,by rw [if_neg (by omega),if_pos (by omega)];exact hu,hL⟩
  ·rw [if_neg (by rw [hll];exact hc)] at hq
   obtain ⟨u,hu,hL⟩:=h4 j q ty hq ht;refine ⟨u,?_,hL⟩;split
   ·exact hu
   ·rw [if_neg (by omega)];exact hu
 | _ => simp [T.isG] at h2
inductive f_W (C : Ctx) (tm : Array Value) (w : World) (O : Nat → Prop) (γ : Key → Option Nat) (fs : List (Nat × TypeId)) : List (Nat × Operand) → T → T → List (Key × Ent) → Prop where
 | nil (x : T) : f_W C tm w O γ fs [] x x []
 | cons (j : Nat) (a : Operand) (r : List (Nat × Operand)) (x x' : T) (off : Nat) (ft cf : TypeId) (tf : TI) (y : T) (ws ws' : List (Key × Ent)) (hf : fs[j]? = some (off,ft)) (ht : C.tab.at ft = some (cf,tf))
   (hV : f_F C.tab w O γ ws cf (ev tm a) y) (hr : f_W C tm w O γ fs r (setCells x off (a_z y tf.cells)) x' ws') : f_W C tm w O γ fs ((j,a) :: r) x x' (ws ++ ws')
theorem i_F (hG : Good P C.tab) (h : Rel C.tab fr tm w σ γ) {p : Path} (hp : σ.Holds p) (fs : List (Nat × TypeId)) {k : T → List (Key × Ent) → R} {motive : a_o → Prop} (hbad : motive .bad) :
  ∀ (parts : List (Nat × Operand)) (x : T) (ws0 : List (Key × Ent)) (_ : Frz σ ws0) (_ : ∀ x' ws,Frz σ (ws0 ++ ws) → f_W C tm w (Ob fr γ) γ fs parts x x' ws → motive ((k x' (ws0 ++ ws)).run σ)),motive ((g_i C p fs parts x ws0 k).run σ):=by
 intro parts
 induction parts with
 | nil =>
  intro x ws0 hf hok
  have:=hok x [] (by simpa using hf) (.nil x)
  simpa [g_i] using this
 | cons a r ih =>
  intro x ws0 hf hok;obtain ⟨j,a⟩:=a;simp only [g_i];split
  ·rename_i off ft hfs
   split
   ·rename_i cf tf hft
    refine d_v hG h p hp a ft hbad fun c y ws hfw hV => ?_
    split
    ·rename_i hcc
     have hcc:=Nat.eq_of_beq_eq_true hcc;subst hcc;refine ih _ (ws0 ++ ws) (hf.append hfw) fun x' ws' hfa hP => ?_
     rw [List.append_assoc] at hfa ⊢;exact hok x' (ws ++ ws') hfa (.cons j a r x x' off ft c tf y ws ws' hfs hft hV hP)
    ·exact hbad
   ·exact hbad
  ·exact hbad
theorem j_R (hG : Good P C.tab) {O O' : Nat → Prop} {ti : TI} {t : TypeId} {c : TypeId} (hc : C.tab.at t = some (c,ti)) {fs : List (Nat × TypeId)} (hk : ti.k = .st fs) {places : List (Nat × Nat)}
  (hpl : ∀ (j off : Nat) cf tf,fs[j]? = some (off,cf) → C.tab.at cf = some (cf,tf) → places[j]? = some (off,tf.cells)) {parts : List (Nat × Operand)} {x x' : T} {ws : List (Key × Ent)}
  (hP : f_W C tm w O γ fs parts x x' ws) (hO : ∀ b,O' b → O b) : Free γ ws O' → ∀ cs,StE C.tab w O' ti cs x →
   ∃ cs',Instr.fill (places.toArray[·]?) cs (parts.map fun q => (q.1,ev tm q.2)) = some cs' ∧ StE C.tab w O' ti cs' x' := by
 induction hP with
 | nil x => exact fun _ cs hE => ⟨cs,rfl,hE⟩
 | cons j a r x x' off ft cf tf y ws ws' hf ht hV hr ih =>
  intro hF cs hE;obtain ⟨fa,fl,tf',i,-,-,-,-,g5,g6,g7,g8,-⟩:=hG.field hc hk hf
  have:=e_ g5 ht
  simp only [Prod.mk.injEq] at this;obtain ⟨rfl,rfl⟩:=this;obtain ⟨q1,q2,q3⟩:=hE.put hG g5 g7 g8 (hV O' hO hF.left);obtain ⟨cs',f1,f2⟩:=ih hF.right _ q3;refine ⟨cs',?_,f2⟩;simp only [List.map_cons];have hp:=hpl j off _ _ hf g5;rw [e_n (place:=fun x => places.toArray[x]?) (by simpa using hp) q2 q1];exact f1
theorem o_v {O : Nat → Prop} {c : TypeId} {ti : TI} (hc : C.tab.at c = some (c,ti)) (hS : ti.isS = true) {cs : Array Value} {x : T} (h : StE C.tab w O ti cs x) : V C.tab w O c (.agg cs) x:=by
 obtain ⟨h1,h2,h3,h4⟩:=h;exact ⟨ti,hc,by rw [h2,hS],by rw [hS];rfl,h1,h3,fun j y ty hy ht => h4 j y ty hy (by rw [← b_g hS];exact ht)⟩
def BcOk (tab : Tab) (w : World) (O : Nat → Prop) (σ : St) (tm : Array Value) (cs : Array Value) (as : List Bc) : Prop :=
 cs.size = as.length ∧ ∀ (q : Nat) o a,as[q]? = some (o,a) → ∃ u,cs[q]? = some u ∧
  ((∃ ty y,o = none ∧ a = .t ty y ∧ V tab w O ty u y) ∨ (∃ s c tag xs,o = some s ∧ a = .own c 0 xs ∧ σ.get (a_ s) = some ⟨[],.own c tag xs⟩ ∧ tm[s]? = some u) ∨ ∃ c,o = none ∧ a = .own c 0 [] ∧ Own tab w O c u none [])
theorem l_3 {a : Operand} {f : Nat → TypeId → List T → R} {r : R} {motive : a_o → Prop} (hown : ∀ s c tag xs,a = .tmp s → σ.get (a_ s) = some ⟨[],.own c tag xs⟩ → motive ((f s c xs).run σ)) (hr : motive (r.run σ)) : motive ((s_e a f r).run σ):=by
 unfold s_e;split
 ·rename_i s
  simp only [Rd.run];split
  ·rename_i c tag xs he
   exact hown s c tag xs rfl he
  ·exact hr
 ·exact hr
theorem n_A (hG : Good P C.tab) {O : Nat → Prop} {c : TypeId} {ti : TI} (hc : C.tab.at c = some (c,ti)) {ty : TypeId} (hm : ty ∈ ti.lv c) {u : Value} {y : T} (hl : L C.tab w O ty u y) : V C.tab w O ty u y:=by
 obtain ⟨t1,ht1,hs1⟩:=(hG _ _ _ hc).leaf ty hm;have hno:=f_X hl;exact b_8 ht1 hs1 (U_ hG ht1 hs1) hno.2 hno.1 hl
theorem m_G (hG : Good P C.tab) (h : Rel C.tab fr tm w σ γ) {ti : TI} {t c : TypeId} (hc : C.tab.at t = some (c,ti)) {fs : List (Nat × TypeId)} (hk : ti.k = .st fs) {places : List (Nat × Nat)}
  (hpl : ∀ (j off : Nat) cf tf,fs[j]? = some (off,cf) → C.tab.at cf = some (cf,tf) → places[j]? = some (off,tf.cells)) {k : List Bc → R} {motive : a_o → Prop} (hbad : motive .bad) :
  ∀ (parts : List (Nat × Operand)) (as : List Bc) (_ : as.length = ti.cells) (_ : ∀ as',as'.length = ti.cells →
   (∀ cs,BcOk C.tab w (Ob fr γ) σ tm cs as → ∃ cs',Instr.fill (places.toArray[·]?) cs (parts.map fun q => (q.1,ev tm q.2)) = some cs' ∧ BcOk C.tab w (Ob fr γ) σ tm cs' as') → motive ((k as').run σ)),motive ((bldF C fs parts as k).run σ):=by
 intro parts
 induction parts with
 | nil => exact fun as hl hok => hok as hl fun cs h => ⟨cs,rfl,h⟩
 | cons x r ih =>
  obtain ⟨j,a⟩:=x;intro as hl hok;simp only [bldF];split
  ·rename_i off ft hfs
   split
   ·rename_i cf tf hft
    obtain ⟨fa,fl,tf',i,-,-,-,-,g5,g6,g7,g8,-⟩:=hG.field hc hk hfs
    have:=e_ g5 hft
    simp only [Prod.mk.injEq] at this;obtain ⟨rfl,rfl⟩:=this;have hp:=hpl j off _ _ hfs g5;refine l_3 (fun s c' tag xs ha he => ?_) ?_
    ·split
     ·rename_i hcc
      have hcc:=Nat.eq_of_beq_eq_true hcc;subst hcc;obtain ⟨v,hv,hr,-⟩:=h.ent _ _ he;obtain ⟨t1,e1,ce,te,o1,o2,o3,o4,o5⟩:=id (hr trivial);have hvs : ∃ a n cap,v = .slice a n cap:=by
       rcases o5 with ⟨-,-,a,q⟩ | ⟨b,cap,cs,-,q,-⟩
       ·exact ⟨_,_,_,q⟩
       ·exact ⟨_,_,_,q⟩
      obtain ⟨a1,n1,cap1,hvs⟩:=hvs;have hcells : v.cells = #[v]:=by rw [hvs];rfl
      have:=e_ g5 o1
      simp only [Prod.mk.injEq,true_and] at this;subst this;have hS : tf'.isS = false:=by simp [TI.isS,o2]
      have h1:=U_ hG g5 hS;rw [i_] at hv;have hev : ev tm a = v:=by
       subst ha;simp only [ev,Act.eval,Array.getD_eq_getD_getElem?,hv,Option.getD_some]
      refine ih _ (by simpa using hl) fun as' hl' hP => hok as' hl' fun cs hB => ?_
      obtain ⟨b1,b2⟩:=hB;have hfit : off + [v].length ≤ cs.size:=by simp only [List.length_cons,List.length_nil];omega
      obtain ⟨cs',f1,f2⟩:=hP (splice cs off [v]) ⟨by rw [a_r hfit,b1];simp,fun q o y hq => by
       rw [List.getElem?_set] at hq;rw [Q_ hfit]
       by_cases hqo : off = q
       ·subst hqo
        rw [if_pos rfl,if_pos (by omega)] at hq;simp only [Option.some.injEq,Prod.mk.injEq] at hq;obtain ⟨rfl,rfl⟩:=hq;refine ⟨v,by rw [if_neg (by omega),if_pos (by simp)];simp,.inr (.inl ⟨s,c',tag,xs,rfl,rfl,he,hv⟩)⟩
       ·rw [if_neg hqo] at hq
        obtain ⟨u,hu,hu2⟩:=b2 q o y hq;refine ⟨u,?_,hu2⟩;split
        ·exact hu
        ·rw [if_neg (by simp;omega)];exact hu⟩
      refine ⟨cs',?_,f2⟩;simp only [List.map_cons];rw [e_n (place:=fun x => places.toArray[x]?) (by simpa using hp) (by rw [hev,hcells,h1];rfl) (by omega),hev,hcells];exact f1
     ·exact hbad
    ·refine d_v hG h [] trivial a ft hbad fun c' y ws hfw hV => ?_
     split
     ·rename_i hcc
      have hcc:=Nat.eq_of_beq_eq_true hcc;subst hcc;have hV' := hV (Ob fr γ) (fun _ q => q) (fun k e b hm => by simp at hm);obtain ⟨k1,k2,k3,k4,k5⟩:=e_M hG g5 hV';have hlen:=(hG _ _ _ g5).len;obtain ⟨s1,s2,s3⟩:=n_5 (tf'.lv c') (a_z y tf'.cells) as off (by rw [P_ k3,k3,hlen]) (by rw [P_ k3];omega);refine ih _ (by rw [s1];exact hl) fun as' hl' hP => hok as' hl' fun cs hB => ?_
      obtain ⟨b1,b2⟩:=hB;have hfit : off + (ev tm a).cells.toList.length ≤ cs.size:=by omega
      obtain ⟨cs',f1,f2⟩:=hP (splice cs off (ev tm a).cells.toList) ⟨by rw [a_r hfit,b1,s1],fun q o z hq => by
       rw [Q_ hfit]
       by_cases hin : off ≤ q ∧ q < off + tf'.cells
       ·have e1 : (tf'.lv c')[q - off]? = some ((tf'.lv c')[q - off]'(by omega)):=List.getElem?_eq_getElem _
        obtain ⟨x2,e2⟩ : ∃ x2,(a_z y tf'.cells)[q - off]? = some x2:=⟨_,List.getElem?_eq_getElem (by rw [P_ k3];omega)⟩;have e3:=s2 (q - off) _ _ e1 e2;rw [show off + (q - off) = q by omega,hq] at e3;simp only [Option.some.injEq,Prod.mk.injEq] at e3;obtain ⟨rfl,rfl⟩:=e3;rw [P_ k3] at e2;obtain ⟨u,hu,hL⟩:=k5 (q - off) _ _ e2 e1;exact ⟨u,by rw [if_neg (by omega),if_pos (by omega)];exact hu,.inl ⟨_,_,rfl,rfl,by
         exact n_A hG g5 (List.mem_of_getElem? e1) hL⟩⟩
       ·rw [s3 q (by rw [P_ k3];omega)] at hq
        obtain ⟨u,hu,hu2⟩:=b2 q o z hq;refine ⟨u,?_,hu2⟩;split
        ·exact hu
        ·rw [if_neg (by omega)];exact hu⟩
      refine ⟨cs',?_,f2⟩;simp only [List.map_cons];rw [e_n (place:=fun x => places.toArray[x]?) (by simpa using hp) (by rw [← k2];simp) (by omega)];exact f1
     ·exact hbad
   ·exact hbad
  ·exact hbad
theorem b_E.news (hG : Good P C.tab) {O : Nat → Prop} {c : TypeId} {v : Value} {ys : List T} (hS : b_E C.tab w O c v ys) {ti : TI} {e ce : TypeId} {te : TI} (hc : C.tab.at c = some (c,ti)) (hk : ti.k = .sl e) (he : C.tab.at e = some (ce,te)) :
  ∃ (a : Option Go.Addr) (cap : Nat) (news : List Value),v = .slice a ys.length cap ∧ ys.length ≤ maxLen ∧ news.length = ys.length * te.cells ∧ (∀ u ∈ news,u.oneCell' = true) ∧ (a = none → ys = []) ∧
   (∀ b,a = some b → ∀ (k : Nat) u,news[k]? = some u → w.cell? (b.add k) = some u) ∧
   ∀ (j : Nat) x,ys[j]? = some x → x.isG = te.isS ∧ x.leaves.length = te.cells ∧ ∀ (n : Nat) y ty,x.leaves[n]? = some y → (te.lv ce)[n]? = some ty → ∃ u,news[j * te.cells + n]? = some u ∧ L C.tab w O ty u y:=by
 obtain ⟨ti',e',ce',te',a,cap,q1,q2,q3,hp,hv,hcap,hm,hnone,hel⟩:=hS
 have:=e_ hc q1
 simp only [Prod.mk.injEq,true_and] at this;subst this;rw [hk] at q2;simp only [Go.Pl.K.sl.injEq] at q2;subst q2
 have:=e_ he q3
 simp only [Prod.mk.injEq] at this;obtain ⟨rfl,rfl⟩:=this;have hlv:=(hG _ _ _ he).len
 cases a with
 | none =>
  have hy : ys = []:=by
   cases ys with
   | nil => rfl
   | cons x r => obtain ⟨b,hb,-⟩:=hel 0 x rfl;cases hb
  subst hy;exact ⟨none,cap,[],hv,by simp,by simp,by simp,fun _ => rfl,(fun b hb => nomatch hb),fun j x hx => by simp at hx⟩
 | some b =>
  have hcell : ∀ k,k < ys.length * te.cells → ∃ u,w.cell? (b.add k) = some u ∧ u.oneCell' = true:=by
   intro k hk';have hj : k / te.cells < ys.length:=Nat.div_lt_of_lt_mul (by rw [Nat.mul_comm];exact hk');have hr:=Nat.mod_lt k hp;obtain ⟨b',hb',k1,k2,k3⟩:=hel (k / te.cells) _ (List.getElem?_eq_getElem hj);simp only [Option.some.injEq] at hb';subst hb';obtain ⟨u,hu,hl⟩:=k3 (k % te.cells) _ _ (List.getElem?_eq_getElem (by omega)) (List.getElem?_eq_getElem (by rw [hlv];exact hr));rw [Nat.div_add_mod'] at hu;exact ⟨u,hu,m_x hl⟩
  refine ⟨some b,cap,(List.range (ys.length * te.cells)).map fun k => (w.cell? (b.add k)).getD undef,hv,by omega,by simp,?_,(fun q => nomatch q),?_,?_⟩
  ·intro u hu
   obtain ⟨k,hk',rfl⟩:=List.mem_map.1 hu;obtain ⟨u,h1,h2⟩:=hcell k (List.mem_range.1 hk');rw [h1];exact h2
  ·intro b' hb' k u hu
   simp only [Option.some.injEq] at hb';subst hb';rw [List.getElem?_map] at hu
   cases hr : (List.range (ys.length * te.cells))[k]? with
   | none => rw [hr] at hu;cases hu
   | some m =>
    rw [hr] at hu;have hkl:=(List.getElem?_eq_some_iff.1 hr).1;rw [List.length_range] at hkl;have hmk : m = k:=by
     rw [List.getElem?_range hkl] at hr;exact (Option.some.inj hr).symm
    subst hmk;obtain ⟨u',h1,-⟩:=hcell m hkl;simp only [Option.map_some,h1,Option.getD_some,Option.some.injEq] at hu;rw [h1,hu]
  ·intro j x hx
   obtain ⟨b',hb',k1,k2,k3⟩:=hel j x hx;simp only [Option.some.injEq] at hb';subst hb';refine ⟨k1,k2,fun n y ty hy ht => ?_⟩;obtain ⟨u,hu,hl⟩:=k3 n y ty hy ht;have hj:=(List.getElem?_eq_some_iff.1 hx).1;have hn : n < te.cells:=by rw [← k2];exact (List.getElem?_eq_some_iff.1 hy).1
   have:=Nat.mul_le_mul_right te.cells (show j + 1 ≤ ys.length by omega)
   rw [Nat.add_mul,Nat.one_mul] at this;exact ⟨u,by rw [List.getElem?_map,List.getElem?_range (by omega),Option.map_some,hu];rfl,hl⟩
variable (hG : Good P C.tab) (h : Rel C.tab fr tm w σ γ) (hwf : Wf C D σ) (hsz : tm.size = C.nt) {i : Nat} (hi : ¬ D i) {o : Oper} {p : Path} (hp : σ.Holds p)
 (hpp : ∀ s b,(s,b) ∈ p → a_w C s = false ∧ ∃ q c x,σ.get (a_ s) = some ⟨q,.t c x⟩) {K : St → Prop} {Q : Exit → Act → World → Prop}
include hG h hwf hsz hp hpp
theorem i_t {ty : TypeId} {parts : Array (Nat × Operand)} (ho : o.op = .build ty parts) : Sound P C fr tm w σ D i o p K Q ((m_N C p o ty parts).run σ):=by
 unfold m_N;refine o_ _ _ b_ fun d hd hn hv habs => ?_
 refine Z_ _ b_ fun cr tr hr => ?_
 split
 ·rename_i fs hk
  have hself:=(hG _ _ _ hr).self;have hS : tr.isS = true:=by simp [TI.isS,hk]
  obtain ⟨inf,z,z1,z2,z3,z4,z5,z6,z7,z8⟩:=hG.zero hr;refine i_F hG h hp fs b_ _ _ [] Frz.nil fun x' ws hf hP => ?_
  simp only [List.nil_append] at hf ⊢;intro hW;obtain ⟨γ',r1,r2,r3,r4,r5,r6,r7,r8⟩:=Rel.frz hG h hwf hf;obtain ⟨hp',hpp'⟩:=k_T r3 hp hpp;obtain ⟨dd,hu,hd2⟩:=(hG _ _ _ hr).und;rw [hk] at hd2;cases dd <;> simp at hd2
  rename_i fa;obtain ⟨hlen,hfs⟩:=hd2;have hpl : ∃ places : List (Nat × Nat),fa.toList.mapM (fun f => (P.info? f.type).map fun i => (f.offset,i.size)) = some places ∧
    ∀ (j off : Nat) cf tf,fs[j]? = some (off,cf) → C.tab.at cf = some (cf,tf) → places[j]? = some (off,tf.cells):=by
   refine ⟨fs.map fun q => (q.1,match C.tab.at q.2 with | some (_,tf) => tf.cells | none => 0),mapM_some_of_get _ _ (by simp [hlen]) (fun j f hfj => ?_),fun j off cf tf hj ht => ?_⟩
   ·have hj : j < fs.length:=by
     have:=(List.getElem?_eq_some_iff.1 hfj).1
     rw [hlen];simpa using this
    obtain ⟨⟨off,cf⟩,hq'⟩ : ∃ q,fs[j]? = some q:=⟨_,List.getElem?_eq_getElem hj⟩;obtain ⟨f',h1,h2,tf,h3,-⟩:=hfs j off cf hq';have hff : f' = f:=by
     have : fa.toList[j]? = some f' := by rw [Array.getElem?_toList];exact h1
     rw [hfj] at this;exact (Option.some.inj this).symm
    subst hff;obtain ⟨inf2,h7,h8,-⟩:=hG.size (C:=C) h3;have hcf:=(hG _ _ _ h3).self;rw [List.getElem?_map,hq',Option.map_some];simp [h7,h8,h2,hcf]
   ·rw [List.getElem?_map,hj,Option.map_some]
    simp [ht]
  obtain ⟨places,hpl1,hpl2⟩:=hpl;have hE0 : StE C.tab w (Ob fr γ') tr z.cells tr.zero:=⟨z6,by rw [z5,hS],z7,fun j y t hy ht => z8 w _ j y t hy (by rw [b_g hS];exact ht)⟩;obtain ⟨cs',hfill,hE⟩:=j_R hG hr hk hpl2 hP r5 r6 _ hE0;have hbuilt : P.built ty (parts.map fun q => (q.1,Act.eval ⟨tm,[]⟩ q.2)).toList = some cs' := by
   unfold Program.built;simp only [z1,hu,z4,hpl1];rw [Array.toList_map];exact hfill
  have hbr:=run_build (P:=P) w ty _ cs' hbuilt;have hex : (execOp (Act.eval ⟨tm,[]⟩) o).run P w = .ok (.value (.agg cs')) w:=by
   simp only [execOp,ho];rw [Sem.run_bind,hbr];rfl
  refine b_X hG r1 r2 hsz hp' hpp' hn hd (c_D r3 habs) hex (o_v hself hS hE) ?_;rw [← B_];exact hW
 ·exact b_
include hi in
omit hp hpp in
theorem l_y {ty : TypeId} {parts : Array (Nat × Operand)} (ho : o.op = .build ty parts) : Sound P C fr tm w σ D i o [] K Q ((bldR C i o ty parts).run σ):=by
 unfold bldR;refine o_ _ _ b_ fun d hd hn hv habs => ?_
 refine Z_ _ b_ fun cr tr hr => ?_
 split
 ·rename_i fs hk h1000
  have h1000:=of_decide_eq_true h1000;have hself:=(hG _ _ _ hr).self;have hS : tr.isS = true:=by simp [TI.isS,hk]
  obtain ⟨inf,z,z1,z2,z3,z4,z5,z6,z7,z8⟩:=hG.zero hr;obtain ⟨dd,hu,hd2⟩:=(hG _ _ _ hr).und;rw [hk] at hd2;cases dd <;> simp at hd2
  rename_i fa;obtain ⟨hlen,hfs⟩:=hd2;have hpl : ∃ places : List (Nat × Nat),fa.toList.mapM (fun f => (P.info? f.type).map fun i => (f.offset,i.size)) = some places ∧
    ∀ (j off : Nat) cf tf,fs[j]? = some (off,cf) → C.tab.at cf = some (cf,tf) → places[j]? = some (off,tf.cells):=by
   refine ⟨fs.map fun q => (q.1,match C.tab.at q.2 with | some (_,tf) => tf.cells | none => 0),mapM_some_of_get _ _ (by simp [hlen]) (fun j f hfj => ?_),fun j off cf tf hj ht => ?_⟩
   ·have hj : j < fs.length:=by
     have:=(List.getElem?_eq_some_iff.1 hfj).1
     rw [hlen];simpa using this
    obtain ⟨⟨off,cf⟩,hq'⟩ : ∃ q,fs[j]? = some q:=⟨_,List.getElem?_eq_getElem hj⟩;obtain ⟨f',h1,h2,tf,h3,-⟩:=hfs j off cf hq';have hff : f' = f:=by
     have : fa.toList[j]? = some f' := by rw [Array.getElem?_toList];exact h1
     rw [hfj] at this;exact (Option.some.inj this).symm
    subst hff;obtain ⟨inf2,h7,h8,-⟩:=hG.size (C:=C) h3;have hcf:=(hG _ _ _ h3).self;rw [List.getElem?_map,hq',Option.map_some];simp [h7,h8,h2,hcf]
   ·rw [List.getElem?_map,hj,Option.map_some]
    simp [ht]
  obtain ⟨places,hpl1,hpl2⟩:=hpl;have hll:=(hG _ _ _ hself).len;rw [b_g hS] at hll;have hno : ∀ u ∈ z.cells.toList,noSl u = true:=by
   obtain ⟨inf',z',q1,q2,q3,q4,-,q6⟩:=(hG _ _ _ hr).info;rw [z1] at q1;simp only [Option.some.injEq] at q1;subst q1;rw [z4] at q4;simp only [Option.some.injEq] at q4;subst q4;intro u hu;exact (Array.all_eq_true_iff_forall_mem.1 q6) u (by simpa using hu)
  obtain ⟨zl,zg⟩:=m_s C d tr.cells tr.leaves (a_z tr.zero tr.cells) 0 (by rw [P_ z7,z7,hll]);rw [P_ z7] at zl;refine m_G hG h hr hk hpl2 b_ _ _ (by rw [P_ z7] at *;omega) fun as hl hB => ?_
  split
  ·rename_i hsole
   intro hW;have hB0 : BcOk C.tab w (Ob fr γ) σ tm z.cells (e_K C d tr.cells 0 tr.leaves (a_z tr.zero tr.cells)):=by
    refine ⟨by rw [z6,P_ z7,zl,z7],fun q o' a hq => ?_⟩;have hlt:=(List.getElem?_eq_some_iff.1 hq).1;rw [P_ z7,zl] at hlt;have e1 : tr.leaves[q]? = some (tr.leaves[q]'(by omega)):=List.getElem?_eq_getElem _;have e2 : tr.zero.leaves[q]? = some (tr.zero.leaves[q]'hlt):=List.getElem?_eq_getElem _;have e3:=zg q _ _ e1 (by rw [P_ z7];exact e2);obtain ⟨u,hu,hL⟩:=z8 w (Ob fr γ) q _ _ e2 (by rw [b_g hS];exact e1);rw [hq] at e3;simp only [Option.some.injEq,Prod.mk.injEq] at e3
    rcases e3 with ⟨rfl,rfl⟩ | ⟨e0,rfl,rfl⟩
    ·exact ⟨u,hu,.inl ⟨_,_,rfl,rfl,n_A hG hself (by rw [b_g hS];exact List.mem_of_getElem? e1) hL⟩⟩
    ·refine ⟨u,hu,.inr (.inr ⟨_,rfl,rfl,?_⟩)⟩
     rw [e0] at hL;have hnu:=hno u (by
      have : z.cells.toList[q]? = some u:=by rw [Array.getElem?_toList];exact hu
      exact List.mem_of_getElem? this)
     cases hL with
     | nil h' hk' => exact d_k hG rfl h' hk' rfl
     | sl => simp [noSl] at hnu
   obtain ⟨cs',hfill,hcs,hat⟩:=hB _ hB0;have hbuilt : P.built ty (parts.map fun q => (q.1,Act.eval ⟨tm,[]⟩ q.2)).toList = some cs' := by
    unfold Program.built;simp only [z1,hu,z4,hpl1];rw [Array.toList_map];exact hfill
   have hbr:=run_build (P:=P) w ty _ cs' hbuilt;have hex : (execOp (Act.eval ⟨tm,[]⟩) o).run P w = .ok (.value (.agg cs')) w:=by
    simp only [execOp,ho];rw [Sem.run_bind,hbr];rfl
   have hne : ∀ {s : Nat} {e : Ent},σ.get (a_ s) = some e → s ≠ d:=by
    rintro s e he rfl;rw [habs] at he;cases he
   have hold : ∀ s,s ≠ d → (tm.setIfInBounds d (.agg cs'))[s]? = tm[s]? := fun s hs => by
    rw [Array.getElem?_setIfInBounds,if_neg (Ne.symm hs)]
   have hnew : (tm.setIfInBounds d (.agg cs'))[d]? = some (.agg cs'):=by simp [hsz,hn]
   obtain ⟨γ2,q1,q2⟩:=Rel.bcs hG h hwf hi (fun _ => False) (tm' := tm.setIfInBounds d (.agg cs')) (w' := w) (as:=as) (fld d tr.cells) a_ (fun k => k.b % 1000) (some d) rfl rfl rfl rfl
    (fun _ _ => rfl) (fun _ q => q.elim) (fun q => by simp [fld,comp]) (fun q q' e => by have:=(b_T.1 e).2;omega) (fun q hq => by simp only [fld,comp];omega) (fun q q' e => J_.1 e)
    (fun q s a hq => by
     obtain ⟨u,-,⟨ty',y,e,-⟩ | ⟨s',c',tag,xs,e,rfl,hg,-⟩ | ⟨c',e,-⟩⟩:=hat q _ a hq
     ·cases e
     ·cases e;exact ⟨c',tag,xs,hg,rfl⟩
     ·cases e)
    (fun q a hq => by
     obtain ⟨u,-,⟨ty',y,-,rfl,-⟩ | ⟨s',c',tag,xs,e,-⟩ | ⟨c',-,rfl,-⟩⟩:=hat q _ a hq
     ·exact .inl ⟨ty',y,rfl⟩
     ·cases e
     ·exact .inr (.inl ⟨c',rfl⟩))
    (m_g hsole)
    (fun d' hd' => by
     cases hd';exact ⟨habs,fun γ' => ⟨cs',by rw [i_];exact hnew⟩⟩)
    (fun γ' _ q o' a hq => by
     have hlt:=(List.getElem?_eq_some_iff.1 hq).1;obtain ⟨u,hu,hh⟩:=hat q o' a hq;refine ⟨u,o_l (by omega) hnew (by omega) hu,fun s hs => ?_,fun ty' y he => ?_,fun c' ho he => ?_,fun h0 tag c off len he => ?_⟩
     ·rcases hh with ⟨ty',y,e,-⟩ | ⟨s',c',tag,xs,e,-,-,hv'⟩ | ⟨c',e,-⟩
      ·rw [hs] at e;cases e
      ·rw [hs] at e
       simp only [Option.some.injEq] at e;subst e;rw [i_];exact hv'
      ·rw [hs] at e;cases e
     ·rcases hh with ⟨ty2,y2,-,e,hV⟩ | ⟨s',c',tag,xs,-,e,-⟩ | ⟨c',-,e,-⟩
      ·rw [he] at e;cases e;exact hV
      ·rw [he] at e;cases e
      ·rw [he] at e;cases e
     ·rcases hh with ⟨ty2,y2,-,e,hV⟩ | ⟨s',c',tag,xs,e,-⟩ | ⟨c2,-,e,hO⟩
      ·rw [he] at e;cases e
      ·rw [ho] at e;cases e
      ·rw [he] at e;cases e;exact hO
     ·rcases hh with ⟨ty2,y2,-,e,hV⟩ | ⟨s',c',tag,xs,-,e,-⟩ | ⟨c2,-,e,hO⟩ <;> rw [he] at e <;> cases e)
    (fun s n' q e => absurd e L_)
    (fun s j q e => by rw [(b_T.1 e).1])
    (fun γ' hγ' k e hk he => by
     refine a_S (fun ht => ?_) (fun ht => ?_)
     ·refine hold _ fun e' => ?_
      by_cases h0 : k.tag = 0
      ·have hk0:=b_N h he h0
       rw [hk0,e',habs] at he;cases he
      ·obtain ⟨v0,hv0,-⟩:=h.ent k e he
       have h2 : k.tag = 2:=by
        obtain ⟨t,a,b⟩:=k;unfold s_ at hv0
        match t with
        | 0 => exact absurd rfl h0
        | 1 => exact absurd rfl ht
        | 2 => rfl
        | n + 3 => cases hv0
       obtain ⟨-,q',m,hh⟩:=c_R h he h2;rw [e',habs] at hh;cases hh
     ·obtain ⟨hkc,c',tag',m,hbx⟩:=a_0 h he ht
      exact ⟨hγ' _ _ hbx (by simp) fun q => by simp [a_,fld,comp],fun _ _ => rfl⟩)
   refine a_1 hex hd ⟨rfl,by simp [hsz],_,_,?_,q1,q2⟩;simp only [exBc,List.append_assoc,List.cons_append,List.nil_append];exact hW
  ·exact b_
 ·exact b_
omit hG h hwf hsz hp hpp in
theorem j_9 {s c : Nat} {motive : a_o → Prop} (hbad : motive .bad) : ∀ (m q : Nat) (k : List Bc → R) (_ : ∀ as,as.length = m → (∀ (j : Nat) o a,as[j]? = some (o,a) → o = none ∧ ((∃ ty y,a = .t ty y ∧ σ.get (cell s (c + (q + j))) = some ⟨[],.t ty y⟩ ∧ ∃ c tt,C.tab.at ty = some (c,tt) ∧ tt.isS = false) ∨
   ∃ ty tag xs,a = .alias (cell s (c + (q + j))) tag ty 0 xs.length ∧ σ.get (cell s (c + (q + j))) = some ⟨[],.own ty tag xs⟩)) → motive ((k as).run σ)),motive ((i_S C s c m q k).run σ):=by
 intro m
 induction m with
 | zero => exact fun q k hok => hok [] rfl fun j o a h => by simp at h
 | succ m ih =>
  intro q k hok;simp only [i_S,Rd.run];split
  ·rename_i ty y he
   split
   ·rename_i c0 tt hat
    split
    ·rename_i hS
     refine ih (q + 1) _ fun as hl hP => hok _ (by simp [hl]) fun j o a hj => ?_
     cases j with
     | zero =>
      simp only [List.getElem?_cons_zero,Option.some.injEq,Prod.mk.injEq] at hj;obtain ⟨rfl,rfl⟩:=hj;exact ⟨rfl,.inl ⟨ty,y,rfl,he,c0,tt,hat,hS⟩⟩
     | succ j =>
      simp only [List.getElem?_cons_succ] at hj
      have:=hP j o a hj
      rwa [show q + 1 + j = q + (j + 1) by omega] at this
    ·exact hbad
   ·exact hbad
  ·rename_i ty tag xs he
   refine ih (q + 1) _ fun as hl hP => hok _ (by simp [hl]) fun j o a hj => ?_
   cases j with
   | zero =>
    simp only [List.getElem?_cons_zero,Option.some.injEq,Prod.mk.injEq] at hj;obtain ⟨rfl,rfl⟩:=hj;exact ⟨rfl,.inr ⟨ty,tag,xs,rfl,he⟩⟩
   | succ j =>
    simp only [List.getElem?_cons_succ] at hj
    have:=hP j o a hj
    rwa [show q + 1 + j = q + (j + 1) by omega] at this
  ·exact hbad
include hi in
omit hp hpp in
theorem j_7 {ty : TypeId} {a : Operand} (ho : o.op = .load ty a) : Sound P C fr tm w σ D i o [] K Q ((r_2 C i o ty a).run σ):=by
 unfold r_2;refine o_ _ _ b_ fun d hd hn hv habs => ?_
 refine f_i hG h [] trivial a b_ fun sp hsp => ?_
 have hrun : ∀ v,(Instr.loadAt ty (ev tm a)).run P w = .ok v w → (execOp (Act.eval ⟨tm,[]⟩) o).run P w = .ok (.value v) w:=by
  intro v hv;unfold ev at hv;simp only [execOp,ho];rw [Sem.run_bind,hv];rfl
 cases hsp with
 | box s c n cb tag b hs hb hev =>
  simp only;split
  ·rename_i ct ti hty
   have hself:=(hG _ _ _ hty).self;split
   ·rename_i hS hfit h1000
    have hfit:=of_decide_eq_true hfit;have h1000:=of_decide_eq_true h1000;refine j_9 b_ _ _ _ fun as hl hP => ?_
    simp only [Nat.zero_add] at hP;intro hW;have look : ∀ q,q < ti.cells → ∃ u,s_ tm w γ (cell s (c + q)) = some u ∧ w.cell? ⟨b,c + q,none⟩ = some u:=by
     intro q hq;obtain ⟨⟨o',a'⟩,hoa⟩ : ∃ x,as[q]? = some x:=⟨_,List.getElem?_eq_getElem (by omega)⟩;have hex : ∃ e,σ.get (cell s (c + q)) = some e:=by
      rcases (hP q o' a' hoa).2 with ⟨_,_,_,hg,-⟩ | ⟨_,_,_,_,hg⟩ <;> exact ⟨_,hg⟩
     obtain ⟨e,he⟩:=hex;obtain ⟨u,hu,-⟩:=h.ent _ _ he;refine ⟨u,hu,?_⟩;simp only [s_,cell,hb,Option.bind_some] at hu;exact hu
    have hld:=c_d (w:=w) hG hty ⟨b,c,none⟩ (fun j => (w.cell? ((⟨b,c,none⟩ : Go.Addr).add j)).getD undef) (fun j hj => by
     obtain ⟨u,-,hu⟩:=look j hj;rw [a_I,hu];rfl)
    rw [hS] at hld
    let vs : Array Value:=((List.range ti.cells).map fun j => (w.cell? ((⟨b,c,none⟩ : Go.Addr).add j)).getD undef).toArray
    have hvn : vs.size = ti.cells:=by simp [vs]
    have hvq : ∀ q,q < ti.cells → ∀ u,s_ tm w γ (cell s (c + q)) = some u → vs[q]? = some u:=by
     intro q hq u hu;obtain ⟨u',h1,h2⟩:=look q hq;rw [hu] at h1;simp only [Option.some.injEq] at h1;subst h1;simp only [vs,List.getElem?_toArray,List.getElem?_map,List.getElem?_range hq,Option.map_some,a_I,h2];rfl
    have hnew : (tm.setIfInBounds d (.agg vs))[d]? = some (.agg vs):=by simp [hsz,hn]
    have hold : ∀ s,s ≠ d → (tm.setIfInBounds d (.agg vs))[s]? = tm[s]? := fun s hs => by
     rw [Array.getElem?_setIfInBounds,if_neg (Ne.symm hs)]
    obtain ⟨γ2,q1,q2⟩:=Rel.bcs hG h hwf hi (fun _ => False) (tm' := tm.setIfInBounds d (.agg vs)) (w' := w) (as:=as) (fld d ti.cells) a_ (fun k => k.b % 1000) (some d) rfl rfl rfl rfl
     (fun _ _ => rfl) (fun _ q => q.elim) (fun q => by simp [fld,comp]) (fun q q' e => by have:=(b_T.1 e).2;omega) (fun q hq => by simp only [fld,comp];omega) (fun q q' e => J_.1 e)
     (fun q s a hq => by have:=(hP q _ a hq).1;cases this)
     (fun q a hq => by
      rcases (hP q _ a hq).2 with ⟨ty',y,rfl,-⟩ | ⟨ty',tag',xs,rfl,hg⟩
      ·exact .inl ⟨ty',y,rfl⟩
      ·exact .inr (.inr ⟨_,_,_,_,_,rfl,by rw [hg];simp,fun q => L_,(fun q' s' a' hq' => by have:=(hP q' _ a' hq').1;cases this),hwf.tags _ _ _ hg rfl⟩))
     (fun q q' s' a a' hq hq' => by have:=(hP q _ a hq).1;cases this)
     (fun d' hd' => by
      cases hd';exact ⟨habs,fun γ' => ⟨vs,by rw [i_];exact hnew⟩⟩)
     (fun γ' _ q o' a hq => by
      have hlt:=(List.getElem?_eq_some_iff.1 hq).1;obtain ⟨u,hu,-⟩:=look q (by omega);refine ⟨u,o_l (by omega) hnew hvn (hvq q (by omega) u hu),fun s hs => ?_,fun ty' y he => ?_,fun c' ho he => ?_,fun h0 tag0 c0 off len he => ?_⟩
      ·have:=(hP q _ a hq).1
       rw [hs] at this;cases this
      ·rcases (hP q _ a hq).2 with ⟨ty2,y2,e,hg,-⟩ | ⟨ty2,tag2,xs,e,hg⟩
       ·rw [he] at e;cases e
        obtain ⟨u',hu',hr,-⟩:=h.ent _ _ hg;rw [hu] at hu';simp only [Option.some.injEq] at hu';subst hu';exact hr trivial
       ·rw [he] at e;cases e
      ·rcases (hP q _ a hq).2 with ⟨ty2,y2,e,hg,-⟩ | ⟨ty2,tag2,xs,e,hg⟩ <;> rw [he] at e <;> cases e
      ·rcases (hP q _ a hq).2 with ⟨ty2,y2,e,hg,-⟩ | ⟨ty2,tag2,xs,e,hg⟩
       ·rw [he] at e;cases e
       ·rw [e]
        exact e_O h hg hu)
     (fun s n' q e => absurd e L_)
     (fun s j q e => by rw [(b_T.1 e).1])
     (fun γ' hγ' k e hk he => by
      refine a_S (fun ht => ?_) (fun ht => ?_)
      ·refine hold _ fun e' => ?_
       by_cases h0 : k.tag = 0
       ·have hk0:=b_N h he h0
        rw [hk0,e',habs] at he;cases he
       ·obtain ⟨v0,hv0,-⟩:=h.ent k e he
        have h2 : k.tag = 2:=by
         obtain ⟨t,a,b⟩:=k;unfold s_ at hv0
         match t with
         | 0 => exact absurd rfl h0
         | 1 => exact absurd rfl ht
         | 2 => rfl
         | n + 3 => cases hv0
        obtain ⟨-,q',m,hh⟩:=c_R h he h2;rw [e',habs] at hh;cases hh
      ·obtain ⟨hkc,c',tag',m,hbx⟩:=a_0 h he ht
       exact ⟨hγ' _ _ hbx (by simp) fun q => by simp [a_,fld,comp],fun _ _ => rfl⟩)
    refine a_1 (hrun _ (by rw [hev];exact hld)) hd ⟨rfl,by simp [hsz],_,_,?_,q1,q2⟩;have hno : b_m a_ as = []:=by
     have : ∀ (l : List Bc),(∀ (q : Nat) o a,l[q]? = some (o,a) → o = none) → b_m a_ l = []:=by
      intro l
      induction l with
      | nil => intro _;rfl
      | cons x r ih =>
       obtain ⟨o',a'⟩:=x;intro hq;have h0:=hq 0 o' a' rfl;subst h0;exact ih fun q o a h' => hq (q + 1) o a (by simpa using h')
     exact this as fun q o a hq => (hP q o a hq).1
    rw [hno];simp only [exBc,List.cons_append,List.nil_append];exact hW
   ·exact b_
  ·exact b_
 | _ => exact b_
end
section
variable {P : Program} {C : Ctx} {fr : Fr} {tm : Array Value} {w w' : World} {σ : St} {γ : Key → Option Nat} {D : Nat → Prop}
theorem g_O {t ty e : TypeId} {i : TypeInfo} (ht : P.underlying t = some (.slice e)) (hi : P.info? e = some i) (a a2 : Option Go.Addr) (n cap cap2 : Nat) (hle : n ≤ cap) :
  (Builtin.append_ #[t,t] ty #[.slice a n cap,.slice a2 0 cap2]).run P w = .ok (.slice a n cap) w:=by
 cases a <;> cases a2 <;> simp [Builtin.append_,run_underlying ht,sizeOf,typeInfo,hi,Builtin.lenOf,Builtin.firstCells,hle,storeCells,loadCells,loadCellsFrom]
theorem i_X (hG : Good P C.tab) {O O' : Nat → Prop} {c : TypeId} {xs ys : List T} {ti : TI} {e ce : TypeId} {te : TI} (hc : C.tab.at c = some (c,ti)) (hk : ti.k = .sl e) (he : C.tab.at e = some (ce,te))
  {b cap : Nat} {cs : Array Value} {olds news : List Value} (hh : w'.heap[b]? = some (.cells cs e (0,0))) (hcap : xs.length + ys.length ≤ cap) (hm : cap ≤ maxLen) (hsz : cs.size = cap * te.cells)
  (hol : olds.length = xs.length * te.cells) (hnl : news.length = ys.length * te.cells) (hpre : ∀ (k : Nat) u,(olds ++ news)[k]? = some u → cs[k]? = some u) (hst : Stays w w' O O')
  (ho : ∀ (j : Nat) x,xs[j]? = some x → x.isG = te.isS ∧ x.leaves.length = te.cells ∧ ∀ (n : Nat) y ty,x.leaves[n]? = some y → (te.lv ce)[n]? = some ty → ∃ u,olds[j * te.cells + n]? = some u ∧ L C.tab w O ty u y)
  (hn : ∀ (j : Nat) x,ys[j]? = some x → x.isG = te.isS ∧ x.leaves.length = te.cells ∧ ∀ (n : Nat) y ty,x.leaves[n]? = some y → (te.lv ce)[n]? = some ty → ∃ u,news[j * te.cells + n]? = some u ∧ L C.tab w O ty u y) :
  Own C.tab w' O' c (.slice (some ⟨b,0,none⟩) (xs.length + ys.length) cap) (some b) (xs ++ ys):=by
 refine ⟨ti,e,ce,te,hc,hk,he,(hG _ _ _ he).pos,.inr ⟨b,cap,cs,rfl,by rw [List.length_append],hh,by rw [List.length_append];exact hcap,hm,hsz,fun j x hx => ?_⟩⟩
 by_cases hj : j < xs.length
 ·rw [List.getElem?_append_left hj] at hx
  obtain ⟨k1,k2,k3⟩:=ho j x hx;refine ⟨k1,k2,fun n y ty hy ht => ?_⟩;obtain ⟨u,hu,hl⟩:=k3 n y ty hy ht;refine ⟨u,hpre _ u ?_,hl.mono hst⟩;rw [List.getElem?_append_left (List.getElem?_eq_some_iff.1 hu).1];exact hu
 ·rw [List.getElem?_append_right (by omega)] at hx
  obtain ⟨k1,k2,k3⟩:=hn (j - xs.length) x hx;refine ⟨k1,k2,fun n y ty hy ht => ?_⟩;obtain ⟨u,hu,hl⟩:=k3 n y ty hy ht;refine ⟨u,hpre _ u ?_,hl.mono hst⟩;have hmul : j * te.cells = xs.length * te.cells + (j - xs.length) * te.cells:=by rw [← Nat.add_mul];congr 1;omega
  rw [List.getElem?_append_right (by rw [hol];omega),hol,show j * te.cells + n - xs.length * te.cells = (j - xs.length) * te.cells + n by omega];exact hu
theorem j_u (hG : Good P C.tab) {O : Nat → Prop} {c st ty : TypeId} {v vx : Value} {g : Option Nat} {xs ys : List T} (hown : Own C.tab w O c v g xs) (hS : b_E C.tab w O c vx ys)
  {ti : TI} {e ce : TypeId} {te : TI} (hc : C.tab.at c = some (c,ti)) (hk : ti.k = .sl e) (he : C.tab.at e = some (ce,te)) (hu : P.underlying st = some (.slice e))
  (hroom : (xs.length + ys.length) * te.bytes ≤ room) (hmax : xs.length + ys.length ≤ maxLen) :
  ∃ v' w' g',(Builtin.append_ #[st,st] ty #[v,vx]).run P w = .ok v' w' ∧ w'.os = w.os ∧ w'.tape = w.tape ∧ w'.output = w.output ∧ w.heap.size ≤ w'.heap.size ∧
   (∀ b,b < w.heap.size → g ≠ some b → w'.heap[b]? = w.heap[b]?) ∧ (g' = g ∨ ∃ b,g' = some b ∧ w.heap.size ≤ b ∧ b < w'.heap.size) ∧
   ∀ O',Stays w w' O O' → Own C.tab w' O' c v' g' (xs ++ ys):=by
 obtain ⟨inf,z,z1,z2,z3,z4,-,z6,-,-⟩:=hG.zero he;obtain ⟨a2,cap2,news,n1,n2,n3,n4,n5,n6,n7⟩:=hS.news hG hc hk he;subst n1;have hpos:=(hG _ _ _ he).pos;have hown0:=hown;obtain ⟨ti',e',ce',te',q1,q2,q3,q4,q5⟩:=hown
 have:=e_ hc q1
 simp only [Prod.mk.injEq,true_and] at this;subst this;rw [hk] at q2;simp only [Go.Pl.K.sl.injEq] at q2;subst q2
 have:=e_ he q3
 simp only [Prod.mk.injEq] at this;obtain ⟨rfl,rfl⟩:=this
 by_cases hm : ys.length = 0
 ·have hy : ys = []:=List.eq_nil_of_length_eq_zero hm
  subst hy;have : ∃ a n cap,v = .slice a n cap ∧ n ≤ cap:=by
   rcases q5 with ⟨-,rfl,a,rfl⟩ | ⟨b,cap,cs,-,rfl,-,hcap,-⟩
   ·exact ⟨a,0,0,rfl,Nat.le_refl _⟩
   ·exact ⟨_,_,_,rfl,hcap⟩
  obtain ⟨a,n,cap,rfl,hle⟩:=this;refine ⟨_,w,g,g_O hu z1 a a2 n cap cap2 hle,rfl,rfl,rfl,Nat.le_refl _,fun _ _ _ => rfl,.inl rfl,fun O' hst => ?_⟩;rw [List.append_nil];exact hown0.mono hst fun _ _ => rfl
 ·cases a2 with
  | none => exact absurd (by rw [n5 rfl];rfl) hm
  | some a2 =>
   have hnews:=n6 a2 rfl;have h63 : ((xs.length + ys.length : Nat) : Int) ≤ 9223372036854775807:=by simp only [maxLen] at hmax;omega
   rw [← z3] at hroom;unfold room at hroom;have hzl : z.cells.size = te.cells:=z6;have grown : ∀ (old : Nat) (olds : List Value),olds.length = xs.length * te.cells → old < xs.length + ys.length →
     (∀ (j : Nat) x,xs[j]? = some x → x.isG = te.isS ∧ x.leaves.length = te.cells ∧ ∀ (n : Nat) y ty,x.leaves[n]? = some y → (te.lv ce)[n]? = some ty → ∃ u,olds[j * te.cells + n]? = some u ∧ L C.tab w O ty u y) →
     ∀ O',Stays w (w.drew.alloc (.cells (olds.toArray ++ news.toArray ++ Builtin.zeroCells z.cells (grownCap w (xs.length + ys.length) old e - (xs.length + ys.length))) e)) O O' →
      Own C.tab (w.drew.alloc (.cells (olds.toArray ++ news.toArray ++ Builtin.zeroCells z.cells (grownCap w (xs.length + ys.length) old e - (xs.length + ys.length))) e)) O' c
       (.slice (some ⟨w.heap.size,0,none⟩) (xs.length + ys.length) (grownCap w (xs.length + ys.length) old e)) (some w.heap.size) (xs ++ ys):=by
    intro old olds hol hlt ho O' hst;have hge:=grownCap_ge w (xs.length + ys.length) old e;refine i_X hG hc hk he (heap_alloc_new w.drew _) hge (grownCap_le_maxLen w _ old e hmax) ?_ hol n3 ?_ hst ho n7
    ·simp only [Array.size_append,List.size_toArray,size_zeroCells,hzl,hol,n3,← Nat.add_mul]
     congr 1
     omega
    ·intro k u hku
     have hk' := (List.getElem?_eq_some_iff.1 hku).1;rw [Array.getElem?_append_left (by simpa using hk')];rw [← hku];simp
   rcases q5 with ⟨rfl,rfl,a,rfl⟩ | ⟨b,cap,cs,rfl,rfl,hh,hcap,hmx,hsz,hel⟩
   ·simp only [List.length_nil,Nat.zero_add,List.nil_append] at grown h63 hroom ⊢
    have key : (Builtin.append_ #[st,st] ty #[.slice a 0 0,.slice (some a2) ys.length cap2]).run P w = .ok (.slice (some ⟨w.heap.size,0,none⟩) ys.length (grownCap w ys.length 0 e))
      (w.drew.alloc (.cells (([] : List Value).toArray ++ news.toArray ++ Builtin.zeroCells z.cells (grownCap w ys.length 0 e - ys.length)) e)):=by
     cases a with
     | none =>
      have hr:=run_append_nil (P:=P) w st ty e inf z hu z1 z4 a2 ys.length cap2 news (by rw [n3,z2]) hnews (by omega) h63 (by omega);rw [hr];simp
     | some a =>
      have hr:=run_append_grow (P:=P) w st ty e inf z hu z1 z4 a 0 0 [] (by simp) (fun j v hv => by simp at hv) a2 ys.length cap2 news (by rw [n3,z2]) hnews (by omega) (by rw [Nat.zero_add];exact h63) (growslice_fits (by omega) (by rw [Nat.zero_add];exact hroom));rw [hr];simp
    exact ⟨_,_,some w.heap.size,key,rfl,rfl,rfl,by rw [I_];show w.heap.size ≤ w.heap.size + 1;omega,fun k hk' _ => heap_alloc_old w.drew _ k hk',.inr ⟨_,rfl,Nat.le_refl _,by rw [I_];show w.heap.size < w.heap.size + 1;omega⟩,
     grown 0 [] (by simp) (by omega) (fun j x hx => by simp at hx)⟩
   ·have hmul:=Nat.mul_le_mul_right te.cells hcap
    have hel' : ∀ (j : Nat) x,xs[j]? = some x → x.isG = te.isS ∧ x.leaves.length = te.cells ∧ ∀ (n : Nat) y ty,x.leaves[n]? = some y → (te.lv ce)[n]? = some ty → ∃ u,(cs.toList.take (xs.length * te.cells))[j * te.cells + n]? = some u ∧ L C.tab w O ty u y:=by
     intro j x hx;obtain ⟨k1,k2,k3⟩:=hel j x hx;refine ⟨k1,k2,fun n y t hy ht => ?_⟩;obtain ⟨u,hu',hl⟩:=k3 n y t hy ht;have hj:=(List.getElem?_eq_some_iff.1 hx).1;have hn : n < te.cells:=by rw [← k2];exact (List.getElem?_eq_some_iff.1 hy).1
     have:=Nat.mul_le_mul_right te.cells (show j + 1 ≤ xs.length by omega)
     rw [Nat.add_mul,Nat.one_mul] at this;exact ⟨u,by rw [List.getElem?_take,if_pos (by omega),Array.getElem?_toList];exact hu',hl⟩
    have hol : (cs.toList.take (xs.length * te.cells)).length = xs.length * te.cells:=by
     have:=Array.length_toList (xs:=cs)
     simp;omega
    by_cases hro : xs.length + ys.length ≤ cap
    ·have hmul2:=Nat.mul_le_mul_right te.cells hro
     rw [Nat.add_mul] at hmul2;have hfit : xs.length * te.cells + news.length ≤ cs.size:=by omega
     have hr:=run_append_room (P:=P) w st ty e inf hu z1 b xs.length cap cs hh a2 ys.length cap2 news (by rw [n3,z2]) hnews n4 hro (by rw [z2];exact hfit);rw [z2] at hr;refine ⟨_,_,some b,hr,rfl,rfl,rfl,by simp,fun k _ hk' => setRow_other w b k _ (fun q => hk' (by rw [q])),.inl rfl,fun O' hst => ?_⟩;refine i_X hG hc hk he (setRow_heap w b cs _ e _ hh) hro hmx ?_ hol n3 ?_ hst hel' n7
     ·have:=a_r hfit
      unfold splice at this;rw [this];exact hsz
     ·intro k u hku
      have hk' := (List.getElem?_eq_some_iff.1 hku).1;rw [List.getElem?_toArray,List.getElem?_append_left hk'];exact hku
    ·have holds : ∀ (j : Nat) u,(cs.toList.take (xs.length * te.cells))[j]? = some u → w.cell? ((⟨b,0,none⟩ : Go.Addr).add j) = some u:=by
      intro j u hu';rw [a_I,Nat.zero_add,w_ hh,← Array.getElem?_toList];rw [List.getElem?_take] at hu';split at hu'
      ·exact hu'
      ·cases hu'
     have hr:=run_append_grow (P:=P) w st ty e inf z hu z1 z4 ⟨b,0,none⟩ xs.length cap _ (by rw [z2];exact hol) holds a2 ys.length cap2 news (by rw [n3,z2]) hnews (by omega) h63 (growslice_fits (by omega) hroom);exact ⟨_,_,some w.heap.size,hr,rfl,rfl,rfl,by rw [I_];show w.heap.size ≤ w.heap.size + 1;omega,fun k hk' _ => heap_alloc_old w.drew _ k hk',.inr ⟨_,rfl,Nat.le_refl _,by rw [I_];show w.heap.size < w.heap.size + 1;omega⟩,
      grown cap _ hol (by omega) hel'⟩
end
section
variable {P : Program} {C : Ctx} {fr : Fr} {tm : Array Value} {w w' : World} {σ : St} {γ : Key → Option Nat} {D : Nat → Prop}
theorem k_7 {O : Nat → Prop} {c : TypeId} {hv v : Value} {g : Option Nat} {xs : List T} {len : Nat} (hown : Own C.tab w O c hv g xs) (hsub : Sub C.tab c hv v 0 len xs.length) : Own C.tab w O c v g (xs.take len):=by
 obtain ⟨ti,e1,ce,te,a,cap,a',cap',q1,q2,q3,q4,q5,q6,q7,q8,q9,q10,q11⟩:=hsub;obtain ⟨rfl,rfl⟩:=q9 rfl;obtain ⟨ti',e2,ce2,te2,r1,r2,r3,r4,r5⟩:=hown;refine ⟨ti',e2,ce2,te2,r1,r2,r3,r4,?_⟩;have hlen : (xs.take len).length = len:=by simp;omega
 rcases r5 with ⟨s1,rfl,a2,s3⟩ | ⟨b,cap2,cs,s1,s2,s3,s4,s5,s6,s7⟩
 ·simp at q6
  subst q6;refine .inl ⟨s1,by simp,a',?_⟩;rw [q4] at s3;simp only [Value.slice.injEq] at s3;rw [q5,s3.2.2]
 ·rw [q4] at s2
  simp only [Value.slice.injEq,true_and] at s2;obtain ⟨rfl,rfl⟩:=s2;refine .inr ⟨b,cap',cs,s1,by rw [q5,hlen],s3,by omega,s5,s6,fun j x hx' => s7 j x ?_⟩;rw [List.getElem?_take] at hx';split at hx'
  ·exact hx'
  ·cases hx'
variable (hG : Good P C.tab) (h : Rel C.tab fr tm w σ γ) (hwf : Wf C D σ) (hsz : tm.size = C.nt) {i : Nat} (hi : ¬ D i) {o : Oper} {p : Path} {K : St → Prop} {Q : Exit → Act → World → Prop}
include hG h hwf hsz hi
theorem h_D {st xt : TypeId} {s x : Operand} {c : Call} (ho : o.op = .call c) (hc : c.callee = .builtin .append) (hargs : c.args.toList = [s,x]) (hty : c.argTypes.toList = [st,xt]) :
  Sound P C fr tm w σ D i o p K Q ((j_t C i p o st xt s x).run σ):=by
 unfold j_t
 cases p with
 | cons => exact b_
 | nil =>
  have hp : σ.Holds []:=trivial;simp only;refine o_ _ _ b_ fun d hd hn hv habs => ?_
  split
  ·rename_i hst
   have hst:=Nat.eq_of_beq_eq_true hst;subst hst;refine Z_ _ b_ fun cs ts hr => ?_
   split
   ·rename_i e hel
    have hk:=f_O hel;split
    ·rename_i ce te he
     have hself:=(hG _ _ _ hr).self;have hu:=hG.slice (t:=st) (e:=e) (by unfold Ctx.el Ctx.kd;rw [hr];exact hel);have ha : c.args = #[s,x]:=by rw [← hargs]
     have ht : c.argTypes = #[st,st]:=by rw [← hty]
     refine a_F hG h [] hp x st b_ fun cx vx hx => ?_
     split
     ·rename_i hcx
      have hcx:=Nat.eq_of_beq_eq_true hcx;subst hcx;obtain ⟨-,hS⟩:=hx.slice hG (e:=e) (by unfold Ctx.el Ctx.kd;rw [hself];exact hel);have core : ∀ (ks : Key) (g : Option Nat) (xs : List T),Own C.tab w (Ob fr γ) cx (ev tm s) g xs → (g = none ∨ (b_S σ ks ∧ g = γ ks)) → (ks = a_ d ∨ b_S σ ks) →
        (xs.length + vx.list.length) * te.bytes ≤ room → xs.length + vx.list.length ≤ maxLen → ∀ σ',(∀ k,σ'.get k = ((σ.put ks (top .u)).put (a_ d) (top (.own cx (i + 1) (xs ++ vx.list)))).get k) → K σ' →
        o.wp P ⟨tm,[]⟩ w (After C fr (fun j => D j ∨ j = i) K) Q:=by
       intro ks g xs hown hg hks hroom hmax σ' hσ hK;obtain ⟨v',w',g',r1,r2,r3,r4,r5,r6,r7,r8⟩:=j_u (ty:=o.type) (st:=st) hG hown hS hself hk he hu hroom hmax;have hex : (execOp (Act.eval ⟨tm,[]⟩) o).run P w = .ok (.value v') w' := by
        unfold ev at r1;simp only [execOp,ho,resolve,hc,ha,ht];simp [invoke,builtin,r1]
       obtain ⟨s1,s2⟩:=Rel.j_X (w' := w') (ks:=ks) (d:=d) (c:=cx) (xs:=xs ++ vx.list) (v:=v') (g:=g') hG h hwf hi (by rw [hsz];exact hn) habs r2 r3 r4 r5 (fun b hb hq => r6 b hb (by
         rcases hg with hg | ⟨h1,hg⟩
         ·rw [hg];simp
         ·rw [hg];exact hq h1))
        (by
         rcases r7 with r7 | r7
         ·rw [r7]
          rcases hg with hg | hg
          ·exact .inl hg
          ·exact .inr (.inl hg)
         ·exact .inr (.inr r7)) hks r8
       exact a_1 hex hd ⟨rfl,by simp [hsz],_,_,hK,s1.congr hσ,s2.congr hσ⟩
      refine X_ hG h [] hp s st b_ fun ko a hx => ?_
      cases hx with
      | const => exact b_
      | nil c' e' ti' _ hx' ht' hc' hk' =>
       simp only;split
       ·rename_i hcc
        have hcc:=Nat.eq_of_beq_eq_true hcc;subst hcc;intro hW;exact core (a_ d) none [] (d_k hG hx' hc' hk' rfl) (.inl rfl) (.inl rfl) hW.1.1 hW.1.2 _ (c_c σ _ _ _) hW.2
       ·exact b_
      | tmp s' e' hx' he' hsub' hav =>
       cases hav' : e'.av with
       | own c' tag xs =>
        rw [hav'] at hav;simp only;split
        ·rename_i hcc
         have hcc:=Nat.eq_of_beq_eq_true hcc;subst hcc;split
         ·rename_i k hk'
          simp only [Option.some.injEq,Prod.mk.injEq] at hk';obtain ⟨rfl,hpath⟩:=hk';have hent : b_S σ (a_ s'):=⟨c',tag,xs,by rw [he',← hpath,← hav']⟩;intro hW;exact core (a_ s') _ xs hav (.inr ⟨hent,rfl⟩) (.inr hent) hW.1.1 hW.1.2 _ (fun _ => rfl) hW.2
         ·exact b_
         ·rename_i hk';cases hk'
        ·exact b_
       | alias h0 tag c' off len =>
        rw [hav'] at hav;simp only;split
        ·rename_i hcc hoff
         have hcc:=Nat.eq_of_beq_eq_true hcc;subst hcc;have hoff:=Nat.eq_of_beq_eq_true hoff;subst hoff;refine N_ h0 tag b_ fun c2 xs hh => ?_
         obtain ⟨rfl,-,hv0,hval,hown,hsub⟩:=a_y h hav hh;intro hW;exact core h0 _ (xs.take len) (k_7 hown hsub) (.inr ⟨⟨_,_,_,hh⟩,rfl⟩) (.inr ⟨_,_,_,hh⟩) hW.1.1 hW.1.2 _ (fun _ => rfl) hW.2
        ·exact b_
       | _ => exact b_
     ·exact b_
    ·exact b_
   ·exact b_
  ·exact b_
end
end Go.Pl
