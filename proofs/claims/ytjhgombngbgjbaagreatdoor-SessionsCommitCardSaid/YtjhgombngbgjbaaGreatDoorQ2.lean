/- Part 2 of 11. What a session has committed at any time is the beginning of what it commits later, and of the path at its end (SessionsCommit), for every input; no condition. Names are shortened and spaces left out by program, for the size. -/
import Derived.Test.YtjhgombngbgjbaaGreatDoorQ1
set_option linter.unusedVariables false
set_option linter.unusedSimpArgs false
set_option linter.unusedSectionVars false
set_option linter.constructorNameAsVariable false
set_option maxRecDepth 100000
namespace Go.Pl
section
variable {P : Program} {C : Ctx} {fr : Fr} {tm : Array Value} {w : World} {σ : St} {γ : Key → Option Nat} {D : Nat → Prop}
 (hG : Good P C.tab) (h : Rel C.tab fr tm w σ γ) (hwf : Wf C D σ) (hsz : tm.size = C.nt) {i : Nat} {o : Oper} {p : Path} (hp : σ.Holds p)
 (hpp : ∀ s b,(s,b) ∈ p → a_w C s = false ∧ ∃ q c x,σ.get (a_ s) = some ⟨q,.t c x⟩) {K : St → Prop} {Q : Exit → Act → World → Prop}
theorem o_u {tab : Tab} {O : Nat → Prop} {c : TypeId} {v : Value} {g : Option Nat} {xs : List T} (ho : Own tab w O c v g xs) : Sub tab c v v 0 xs.length xs.length:=by
 obtain ⟨ti,e,ce,te,a,cap,h1,h2,h3,hp,hv,hcap,hm,hnone,hel⟩:=ho.c_H;refine ⟨ti,e,ce,te,a,cap,a,cap,h1,h2,h3,hv,hv,by omega,hcap,Nat.le_refl _,fun _ => ⟨rfl,rfl⟩,id,fun hpos => ?_⟩;obtain ⟨b,hb,-⟩:=hel 0 _ (List.getElem?_eq_getElem hpos);exact ⟨b,hb,by rw [hb];simp [Addr.add]⟩
theorem e_O {k : Key} {c : TypeId} {tag : Nat} {xs : List T} {v : Value} {k' : Key} {γ' : Key → Option Nat} (h : Rel C.tab fr tm w σ γ) (hk : σ.get k = some ⟨[],.own c tag xs⟩) (hv : s_ tm w γ k = some v) :
  AVR C.tab w (Ob fr γ) σ (s_ tm w γ) γ' k' v (.alias k tag c 0 xs.length):=by
 intro c' xs' hx;rw [hk] at hx;simp only [Option.some.injEq,Ent.mk.injEq,AV.own.injEq,true_and] at hx;obtain ⟨rfl,rfl⟩:=hx;obtain ⟨v0,hv0,hr,-⟩:=h.ent k _ hk;rw [hv] at hv0;simp only [Option.some.injEq] at hv0;subst hv0;exact ⟨rfl,v,hv,o_u (hr trivial)⟩
theorem p_S (h : Rel C.tab fr tm w σ γ) {s : Nat} {e : Ent} (he : σ.get (a_ s) = some e) : s_ tm w γ (a_ s) = some (ev tm (.tmp s)):=by
 obtain ⟨v,hv,-⟩:=h.ent _ e he;rw [hv];rw [i_] at hv;simp only [ev,Act.eval,Array.getD_eq_getD_getElem?,hv,Option.getD_some]
theorem b_v (s tag : Nat) {f : TypeId → Nat → R} {motive : a_o → Prop} (hbad : motive .bad)
  (hok : ∀ c n,σ.get (a_ s) = some ⟨[],.box c tag n⟩ → motive ((f c n).run σ)) : motive ((h_6 s tag f).run σ):=by
 simp only [h_6,Rd.run];split
 ·rename_i c tag' n he
  split
  ·rename_i ht
   have:=Nat.eq_of_beq_eq_true ht
   subst this;exact hok c n he
  ·exact hbad
 ·exact hbad
theorem c_b (c : Nat) {r : R} {motive : a_o → Prop} (hbad : motive .bad) (hok : Nat.blt c mthB = true → motive (r.run σ)) : motive ((g_H c r).run σ):=by
 unfold g_H;split
 ·rename_i h;exact hok h
 ·exact hbad
theorem f_P {s : Nat} {c : TypeId} {tag n : Nat} {γ' : Key → Option Nat} {k' : Key} {v : Value} {b : Nat} (hs : σ.get (a_ s) = some ⟨[],.box c tag n⟩) (hb : γ (a_ s) = some b) (off : Nat)
  (hv : v = ptrV b off) (hγ : γ' (a_ s) = γ (a_ s)) : AVR C.tab w (Ob fr γ) σ (s_ tm w γ) γ' k' v (.ptr s tag off):=by
 intro cb m hx;exact ⟨b,by rw [hγ];exact hb,hv⟩
theorem o_r {O : Nat → Prop} {val : Key → Option Value} {k k' : Key} {γ' : Key → Option Nat} {v : Value} {a : AV} (h : AVR C.tab w O σ val γ k v a)
  (h1 : ∀ c tag xs,a ≠ .own c tag xs) (h2 : ∀ c tag n,a ≠ .box c tag n) (hγ : ∀ s tag c,a = .ptr s tag c → γ' (a_ s) = γ (a_ s)) : AVR C.tab w O σ val γ' k' v a:=by
 cases a with
 | own c tag xs => exact absurd rfl (h1 c tag xs)
 | box c tag n => exact absurd rfl (h2 c tag n)
 | ptr s tag c =>
  intro cb n hx;obtain ⟨b,hb,hv⟩:=h cb n hx;exact ⟨b,by rw [hγ s tag c rfl];exact hb,hv⟩
 | _ => exact h
include hG h hwf hsz hp hpp
theorem b_k {s d : Nat} {e : Ent} {a : AV} {v : Value} (hn : d < C.nt) (hdst : o.dst = some d) (habs : σ.get (a_ d) = none) (he : σ.get (a_ s) = some e)
  (hrun : (execOp (Act.eval ⟨tm,[]⟩) o).run P w = .ok (.value v) w) (hav : AVR C.tab w (Ob fr γ) σ (s_ tm w γ) γ (a_ s) v a)
  (hhome : ∀ h0 tag,a.home = some (h0,tag) → e.av.home = some (h0,tag)) (htag : ∀ tag,a.a_C = some tag → e.av.a_C = some tag)
  (h1 : ∀ c tag xs,a ≠ .own c tag xs) (h2 : ∀ c tag n,a ≠ .box c tag n) (hK : K (σ.puts [(a_ d,⟨p,a⟩)])) :
  o.wp P ⟨tm,[]⟩ w (After C fr (fun j => D j ∨ j = i) K) Q:=by
 refine a_P hG h hwf hsz hn hdst habs hp hpp hrun (fun h0 tag hh => hwf.dom _ _ h0 tag he (hhome h0 tag hh)) (fun tag hh => hwf.tags _ _ tag he (htag tag hh)) ?_ hK;refine o_r hav h1 h2 fun s' tag c ha => O_ _ _ fun e' => ?_
 have:=hwf.dom _ _ (a_ s') tag he (hhome _ _ (by rw [ha];rfl))
 rw [e'] at this;exact this habs
theorem g_x {x : Operand} (ho : o.op = .nilCheck x) : Sound P C fr tm w σ D i o p K Q ((g_w C p o x).run σ):=by
 unfold g_w;refine o_ _ _ b_ fun d hd hn hv habs => ?_
 refine X_ hG h p hp x 0 b_ fun ko a hx => ?_
 cases hx with
 | const => exact b_
 | nil => exact b_
 | tmp s e hx he hsub hav =>
  have hrun : ∀ q,ev tm x = .pointer (some q) → (execOp (Act.eval ⟨tm,[]⟩) o).run P w = .ok (.value (ev tm x)) w:=by
   intro q hq;unfold ev at hq ⊢;simp only [execOp,ho,hq];rfl
  cases hav' : e.av with
  | box c tag n =>
   simp only;split
   ·rename_i k hk
    simp only [Option.some.injEq,Prod.mk.injEq] at hk;obtain ⟨rfl,hpath⟩:=hk;rw [hav'] at hav;obtain ⟨b,cs,ety,hb,hvv,-⟩:=hav;intro hW;have hent : σ.get (a_ s) = some ⟨[],.box c tag n⟩:=by rw [he,← hpath,← hav']
    have hne : a_ s ≠ a_ d:=fun e' => by rw [← e',he] at habs;cases habs
    refine a_P (a:=.ptr s tag 0) hG h hwf hsz hn hd habs hp hpp (hrun _ hvv) ?_ ?_ ?_ hW
    ·intro h0 tag0 hh
     simp only [AV.home,Option.some.injEq,Prod.mk.injEq] at hh;obtain ⟨rfl,rfl⟩:=hh;rw [he];simp
    ·intro tag0 hh
     exact hwf.tags _ _ tag0 he (by rw [hav'];exact hh)
    ·exact f_P hent hb 0 hvv (O_ _ _ hne)
   ·exact b_
  | ptr s' tag c =>
   rw [hav'] at hav;refine c_b c b_ fun hlt => ?_
   refine b_v s' tag b_ fun cb n hb => ?_
   obtain ⟨b,-,hvv⟩:=hav cb n hb;rw [g_I hlt] at hvv;intro hW;exact b_k hG h hwf hsz hp hpp hn hd habs he (hrun _ hvv) hav (by simp [hav']) (by simp [hav']) (by simp) (by simp) hW
  | eptr h0 tag j c =>
   rw [hav'] at hav;refine N_ h0 tag b_ fun c' xs hb => ?_
   obtain ⟨-,b,cap,ti,e1,ce,te,-,-,-,-,hvv⟩:=hav c' xs hb;intro hW;exact b_k hG h hwf hsz hp hpp hn hd habs he (hrun _ hvv) hav (by simp [hav']) (by simp [hav']) (by simp) (by simp) hW
  | pl c y off =>
   rw [hav'] at hav;obtain ⟨a,hvv,-⟩:=id hav;intro hW;exact b_k hG h hwf hsz hp hpp hn hd habs he (hrun _ hvv) hav (by simp [hav']) (by simp [hav']) (by simp) (by simp) hW
  | _ => exact b_
end
section
variable {P : Program} {C : Ctx} {fr : Fr} {tm tm' : Array Value} {w w' : World} {σ σ' : St} {γ γ' : Key → Option Nat} {D D' : Nat → Prop}
theorem Rel.upd (hG : Good P C.tab) (h : Rel C.tab fr tm w σ γ) (hwf : Wf C D σ) (W Bx : Key → Prop)
  (hos : w'.os = w.os) (htape : w'.tape = w.tape) (hout : w'.output = w.output) (hsize : w.heap.size ≤ w'.heap.size)
  (hblocks : ∀ b,b < w.heap.size → (∀ k,W k ∨ Bx k → γ k ≠ some b) → w'.heap[b]? = w.heap[b]?)
  (hbx : ∀ k,¬ W k → Bx k → ∃ c tag n,σ.get k = some ⟨[],.box c tag n⟩ ∧ ∀ b cs ety,γ k = some b → w.heap[b]? = some (.cells cs ety (0,0)) → ∃ cs',w'.heap[b]? = some (.cells cs' ety (0,0)) ∧ cs'.size = cs.size)
  (hγ : ∀ k,¬ W k → γ' k = γ k)
  (hγn : ∀ k b,W k → γ' k = some b → (∃ k0,W k0 ∧ γ k0 = some b) ∨ (w.heap.size ≤ b ∧ b < w'.heap.size))
  (hinj : ∀ k k' b,W k → W k' → γ' k = some b → γ' k' = some b → k = k')
  (hsame : ∀ k,¬ W k → σ'.get k = σ.get k)
  (hval : ∀ k e,¬ W k → σ.get k = some e → s_ tm' w' γ' k = s_ tm w γ k)
  (hcel : ∀ s n e,σ'.get (cell s n) = some e → ∃ c tag m,σ'.get (a_ s) = some ⟨[],.box c tag m⟩)
  (hcmp : ∀ s j e,σ'.get (comp s j) = some e → ∃ p n,σ'.get (a_ s) = some ⟨p,.tup n⟩)
  (hguard : ∀ s q c x,a_w C s = false → σ.get (a_ s) = some ⟨q,.t c x⟩ → ¬ W (a_ s))
  (hex : ∀ k,W k → σ.get k ≠ none → σ'.get k ≠ none)
  (htag : ∀ k e tag,W k → σ'.get k = some e → e.av.a_C = some tag → Old D' tag)
  (hDD : ∀ tag,Old D tag → Old D' tag)
  (hfresh : ∀ k tag,W k → σ.get k ≠ none → Old D tag → c_I σ σ' (s_ tm w γ) (s_ tm' w' γ') γ γ' k tag)
  (hhome : ∀ k e h0 tag,W k → σ'.get k = some e → e.av.home = some (h0,tag) → σ'.get h0 ≠ none)
  (hpath : ∀ k e s b,W k → σ'.get k = some e → (s,b) ∈ e.path → a_w C s = false ∧ ∃ q c x,σ'.get (a_ s) = some ⟨q,.t c x⟩)
  (hnew : Stays w w' (Ob fr γ) (Ob fr γ') → ∀ k e,W k → σ'.get k = some e → ∃ v,s_ tm' w' γ' k = some v ∧
   (σ'.Holds e.path → AVR C.tab w' (Ob fr γ') σ' (s_ tm' w' γ') γ' k v e.av) ∧ (¬ σ'.Holds e.path → v = undef)) :
  Rel C.tab fr tm' w' σ' γ' ∧ Wf C D' σ' := by
 have hOb : ∀ b,b < w.heap.size → Ob fr γ' b → Ob fr γ b:=by
  intro b hb hO
  rcases hO with hO | ⟨k,hk⟩
  ·exact .inl hO
  ·by_cases hw : W k
   ·rcases hγn k b hw hk with ⟨k0,-,h0⟩ | ⟨h0,-⟩
    ·exact .inr ⟨k0,h0⟩
    ·omega
   ·rw [hγ k hw] at hk
    exact .inr ⟨k,hk⟩
 have hstay : Stays w w' (Ob fr γ) (Ob fr γ'):=fun b hb hO =>
  ⟨hblocks b hb fun k _ hk => hO (.inr ⟨k,hk⟩),fun q => hO (hOb b hb q)⟩
 have hget : ∀ k,σ.get k ≠ none → σ'.get k ≠ none:=fun k hk => by
  by_cases hw : W k
  ·exact hex k hw hk
  ·rw [hsame k hw];exact hk
 constructor
 ·refine Rel.step hG h W hos htape hout hsize ?_ hstay ?_ ?_ hcel hcmp hsame ?_ (hnew hstay)
  ·intro b hb he
   refine hblocks b (Nat.lt_of_lt_of_le hb h.size) fun k _ hk => he ((h.blk k b hk).2.2 hb)
  ·intro k k' b hk hk'
   by_cases hw : W k <;> by_cases hw' : W k'
   ·exact hinj k k' b hw hw' hk hk'
   ·rw [hγ k' hw'] at hk'
    rcases hγn k b hw hk with ⟨k0,h0,h1⟩ | ⟨h0,-⟩
    ·exact absurd (h.inj k0 k' b h1 hk') (fun e => hw' (e ▸ h0))
    ·have:=(h.blk k' b hk').1
     omega
   ·rw [hγ k hw] at hk
    rcases hγn k' b hw' hk' with ⟨k0,h0,h1⟩ | ⟨h0,-⟩
    ·exact absurd (h.inj k0 k b h1 hk) (fun e => hw (e ▸ h0))
    ·have:=(h.blk k b hk).1
     omega
   ·rw [hγ k hw] at hk
    rw [hγ k' hw'] at hk';exact h.inj k k' b hk hk'
  ·intro k b hk
   by_cases hw : W k
   ·rcases hγn k b hw hk with ⟨k0,-,h1⟩ | ⟨h0,h1⟩
    ·obtain ⟨q1,q2,q3⟩:=h.blk k0 b h1
     exact ⟨by omega,q2,q3⟩
    ·refine ⟨h1,fun q => ?_,fun q => ?_⟩
     ·have:=(h.low b q).1
      have:=h.size
      omega
     ·have:=h.size
      omega
   ·rw [hγ k hw] at hk
    obtain ⟨q1,q2,q3⟩:=h.blk k b hk;exact ⟨by omega,q2,q3⟩
  ·intro k e hw he
   refine ⟨hval k e hw he,hγ k hw,fun s b hm => ?_,fun b hb => ?_,fun h0 tag hh hw0 => ?_,fun h0 tag hh _ => hwf.dom k e h0 tag he hh⟩
   ·obtain ⟨q1,q,c,x,q2⟩:=hwf.paths k e s b he hm
    exact hguard s q c x q1 q2
   ·have hlt:=(h.blk k b hb).1
    refine ⟨fun c tag xs ha => ?_,fun c tag n ha cs ety hh => ?_⟩
    ·refine hblocks b hlt fun k0 hk0 h1 => ?_
     have:=h.inj k0 k b h1 hb
     subst this
     rcases hk0 with hk0 | hk0
     ·exact hw hk0
     ·obtain ⟨c',tag',n',hs,-⟩:=hbx k0 hw hk0
      rw [he] at hs;simp only [Option.some.injEq] at hs;rw [hs] at ha;cases ha
    ·by_cases hb' : Bx k
     ·obtain ⟨c',tag',n',hs,hq⟩:=hbx k hw hb'
      exact hq b cs ety hb hh
     ·refine ⟨cs,?_,rfl⟩
      rw [hblocks b hlt fun k0 hk0 h1 => ?_]
      ·exact hh
      ·have:=h.inj k0 k b h1 hb
       subst this;exact hk0.elim hw hb'
   ·exact hfresh h0 tag hw0 (hwf.dom k e h0 tag he hh) (hwf.tags k e tag he (by
     revert hh;cases e.av <;> simp [AV.home,AV.a_C]))
 ·refine ⟨fun k e tag he hh => ?_,fun k e h0 tag he hh => ?_,fun k e s b he hm => ?_⟩
  ·by_cases hw : W k
   ·exact htag k e tag hw he hh
   ·rw [hsame k hw] at he
    exact hDD tag (hwf.tags k e tag he hh)
  ·by_cases hw : W k
   ·exact hhome k e h0 tag hw he hh
   ·rw [hsame k hw] at he
    exact hget _ (hwf.dom k e h0 tag he hh)
  ·by_cases hw : W k
   ·exact hpath k e s b hw he hm
   ·rw [hsame k hw] at he
    obtain ⟨q1,q,c,x,q2⟩:=hwf.paths k e s b he hm;exact ⟨q1,q,c,x,by rw [hsame _ (hguard s q c x q1 q2)];exact q2⟩
theorem c_C {val val' : Key → Option Value} {k : Key} {tag : Nat} (h : ∀ e t,σ'.get k = some e → e.av.a_C = some t → ¬ Old D t) (ho : Old D tag) : c_I σ σ' val val' γ γ' k tag :=
 ⟨fun c xs hx => absurd ho (h _ tag hx rfl),fun c n hx => absurd ho (h _ tag hx rfl),fun p hx => absurd ho (h _ tag hx rfl)⟩
end
section
variable {P : Program} {C : Ctx} {w : World}
theorem Good.size (hG : Good P C.tab) {t c : TypeId} {ti : TI} (h : C.tab.at t = some (c,ti)) : ∃ i,P.info? t = some i ∧ i.size = ti.cells ∧ i.bytes = ti.bytes:=by
 obtain ⟨i,z,h1,h2,h3,-⟩:=(hG t c ti h).info;exact ⟨i,h1,h2,h3⟩
theorem Good.slice (hG : Good P C.tab) {t : TypeId} {e : TypeId} (h : C.el t = some e) : P.underlying t = some (.slice e):=by
 obtain ⟨c,ti,h1,h2⟩:=i_E h;obtain ⟨d,hd,hm⟩:=(hG _ _ _ h1).und;rw [h2] at hm;cases d <;> simp at hm
 obtain ⟨rfl,-⟩:=hm;exact hd
theorem Good.field (hG : Good P C.tab) {t c : TypeId} {ti : TI} {fs : List (Nat × TypeId)} (h : C.tab.at t = some (c,ti)) (hk : ti.k = .st fs) {f off : Nat} {cf : TypeId} (hf : fs[f]? = some (off,cf)) :
  ∃ fa fl tf i,P.underlying t = some (.struct fa) ∧ fa[f]? = some fl ∧ fl.offset = off ∧ C.tab.at fl.type = some (cf,tf) ∧ C.tab.at cf = some (cf,tf) ∧ 0 < tf.cells ∧
   (ti.leaves.drop off).take tf.cells = tf.lv cf ∧ off + tf.cells ≤ ti.cells ∧ P.info? fl.type = some i ∧ i.size = tf.cells:=by
 obtain ⟨d,hd,hm⟩:=(hG _ _ _ h).und;rw [hk] at hm;cases d <;> simp at hm
 rename_i fa;obtain ⟨-,hm⟩:=hm;obtain ⟨fl,h1,h2,tf,h3,h4,h5,h6⟩:=hm f off cf hf;obtain ⟨i,h7,h8,-⟩:=hG.size (C:=C) h3;exact ⟨fa,fl,tf,i,hd,h1,h2,h3,(hG _ _ _ h3).self,h4,h5,h6,h7,h8⟩
theorem j_a {s : TypeId} {fa : Array Field} {f : Nat} {fl : Field} {i : TypeInfo} (hu : P.underlying s = some (.struct fa)) (hf : fa[f]? = some fl) (hi : P.info? fl.type = some i) (hz : 0 < i.size) (a : Go.Addr) :
  (Instr.fieldAt s (.pointer (some a)) f).run P w = .ok (.pointer (some (a.add fl.offset))) w:=by
 have hz' : i.size ≠ 0:=by omega
 simp [Instr.fieldAt,run_underlying hu,hf,Instr.sureAddr,fieldPlace,sizeOf,typeInfo,hi,hz']
theorem j_b {t e : TypeId} {i : TypeInfo} (hu : P.underlying t = some (.slice e)) (hi : P.info? e = some i) (a : Go.Addr) (len cap : Nat) (k : IntKind) (j : Int) (h0 : 0 ≤ j) (h1 : j < len) :
  (Instr.indexAt t (.slice (some a) len cap) (.int k j)).run P w = .ok (.pointer (some (a.add (j.toNat * i.size)))) w:=by
 simp [Instr.indexAt,asIntOf,run_underlying hu,sizeOf,typeInfo,hi,h0,h1]
theorem e_B {t : TypeId} {e : TypeId} (hu : P.underlying t = some (.slice e)) (a : Option Go.Addr) (n cap : Nat) (ty : TypeId) : (Builtin.len_ #[t] ty #[.slice a n cap]).run P w = .ok (.int .i64 n) w:=by
 simp [Builtin.len_,run_underlying hu,goInt]
theorem g_P {t : TypeId} (hu : P.underlying t = some .string) (s : ByteArray) (ty : TypeId) : (Builtin.len_ #[t] ty #[.string s]).run P w = .ok (.int .i64 s.size) w:=by
 simp [Builtin.len_,run_underlying hu,goInt]
theorem m_b {t e : TypeId} {i : TypeInfo} (hu : P.underlying t = some (.slice e)) (hi : P.info? e = some i) (a : Option Go.Addr) (len cap : Nat) (lo hi' : Option Value)
  (l h : Int) (hlo : match lo with | none => l = 0 | some v => ∃ k,v = .int k l) (hhi : match hi' with | none => h = len | some v => ∃ k,v = .int k h)
  (h0 : 0 ≤ l) (h1 : l ≤ h) (h2 : h ≤ len) (hc : len ≤ cap) :
  ∃ a',(Instr.sliceAt t (.slice a len cap) lo hi' none).run P w = .ok (.slice a' (h - l).toNat (cap - l.toNat)) w ∧ (a' = none ↔ a = none) ∧ (l = 0 → a' = a) ∧
   (0 < (h - l).toNat → ∀ b,a = some b → a' = some (b.add (l.toNat * i.size))):=by
 have e1 : (h - l).toNat = h.toNat - l.toNat:=by omega
 refine ⟨if cap = l.toNat then a else a.map (·.add (l.toNat * i.size)),?_,?_,?_,?_⟩
 ·have hh : 0 ≤ h:=by omega
  have hcap : h ≤ (cap : Int):=by omega
  have hl : l ≤ (h.toNat : Int):=by omega
  have hln : l ≤ (len : Int):=by omega
  have hmax : ¬ max h 0 < l:=by omega
  have hmax' : l ≤ max h 0:=by omega
  cases lo with
  | none =>
   simp only at hlo;subst hlo
   cases hi' with
   | none =>
    simp only at hhi;subst hhi;simp [Instr.sliceAt,Instr.slice,run_underlying hu,Instr.sliceBounds,Instr.sliceBound,asIntOf,sizeOf,typeInfo,hi]
   | some v =>
    obtain ⟨k,rfl⟩:=hhi;simp [Instr.sliceAt,Instr.slice,run_underlying hu,Instr.sliceBounds,Instr.sliceBound,asIntOf,sizeOf,typeInfo,hi,hh,hcap]
  | some v =>
   obtain ⟨k,rfl⟩:=hlo
   cases hi' with
   | none =>
    simp only at hhi;subst hhi;simp [Instr.sliceAt,Instr.slice,run_underlying hu,Instr.sliceBounds,Instr.sliceBound,asIntOf,sizeOf,typeInfo,hi,h0,hln,e1]
   | some v =>
    obtain ⟨k',rfl⟩:=hhi;simp [Instr.sliceAt,Instr.slice,run_underlying hu,Instr.sliceBounds,Instr.sliceBound,asIntOf,sizeOf,typeInfo,hi,hh,hcap,h0,hl,e1,hmax,hmax']
 ·split
  ·exact Iff.rfl
  ·simp
 ·intro hl
  subst hl;split
  ·rfl
  ·cases a <;> simp [Addr.add]
 ·intro hpos b hb
  have : ¬ cap = l.toNat:=by omega
  rw [if_neg this,hb];rfl
theorem m_c {t e : TypeId} {i : TypeInfo} (hu : P.underlying t = some (.slice e)) (hi : P.info? e = some i) (a : Option Go.Addr) (len cap : Nat) (lo : Option Value) (k k' : IntKind)
  (hlo : match lo with | none => True | some v => ∃ k,v = .int k 0) :
  (Instr.sliceAt t (.slice a len cap) lo (some (.int k 0)) (some (.int k' 0))).run P w = .ok (.slice a 0 0) w:=by
 cases lo with
 | none => simp [Instr.sliceAt,Instr.slice,run_underlying hu,Instr.sliceBounds,Instr.sliceBound,asIntOf,sizeOf,typeInfo,hi]
 | some v =>
  obtain ⟨k2,rfl⟩:=hlo;simp [Instr.sliceAt,Instr.slice,run_underlying hu,Instr.sliceBounds,Instr.sliceBound,asIntOf,sizeOf,typeInfo,hi]
theorem c_1 {xs ys : List Nat} (h : b_Y xs ys = true) : xs = ys:=by
 induction xs generalizing ys with
 | nil => cases ys <;> simp [b_Y] at h ⊢
 | cons x r ih =>
  cases ys with
  | nil => simp [b_Y] at h
  | cons y s =>
   simp only [b_Y] at h;split at h
   ·rename_i h1
    rw [Nat.eq_of_beq_eq_true h1,ih h]
   ·cases h
theorem k_F {x : T} {j : Nat} (h : j < x.leaves.length) : x.leaves[j]? = some (x.cell j):=by
 unfold T.cell;rw [List.getD_eq_getElem?_getD,List.getElem?_eq_getElem h];rfl
theorem f_X {tab : Tab} {O : Nat → Prop} {c : TypeId} {v : Value} {x : T} (h : L tab w O c v x) : isAgg v = false ∧ x.isG = false:=by cases h <;> exact ⟨rfl,rfl⟩
theorem u_e {tab : Tab} (hG : Good P tab) {O : Nat → Prop} {c0 c : TypeId} {t0 ti : TI} {x : T} {off : Nat} (h0 : tab.at c0 = some (c0,t0)) (hc : tab.at c = some (c,ti))
  (hlen : x.leaves.length = t0.cells) (hs : ((t0.lv c0).drop off).take ti.cells = ti.lv c) (rd : Nat → Value)
  (hrd : ∀ (j : Nat) y ty,x.leaves[j]? = some y → (t0.lv c0)[j]? = some ty → L tab w O ty (rd j) y) :
  off + ti.cells ≤ t0.cells ∧ (ti.isS = true → V tab w O c (.agg ((List.range ti.cells).map fun j => rd (off + j)).toArray) (x.part off ti.cells)) ∧
  (ti.isS = false → V tab w O c (rd off) (x.cell off)):=by
 have hl1:=(hG c c ti hc).len;have hp1:=(hG c c ti hc).pos;have hl0:=(hG c0 c0 t0 h0).len;have hle : off + ti.cells ≤ t0.cells:=by
  have:=congrArg List.length hs
  simp only [List.length_take,List.length_drop,hl1,hl0] at this;omega
 have hty : ∀ j,j < ti.cells → (ti.lv c)[j]? = (t0.lv c0)[off + j]? := by
  intro j hj;rw [← hs,List.getElem?_take,if_pos hj,List.getElem?_drop]
 have hleaf : ∀ (j : Nat) ty,j < ti.cells → (ti.lv c)[j]? = some ty → L tab w O ty (rd (off + j)) (x.cell (off + j)):=by
  intro j ty hj ht;exact hrd (off + j) _ ty (k_F (by omega)) (by rw [← hty j hj];exact ht)
 refine ⟨hle,fun hS => ?_,fun hS => ?_⟩
 ·refine ⟨ti,hc,by rw [hS];rfl,by rw [hS];rfl,by simp [Value.cells],by simp [T.part,T.leaves],fun j y ty hy ht => ?_⟩
  have hj : j < ti.cells:=by rw [← hl1];exact (List.getElem?_eq_some_iff.1 ht).1
  simp only [T.part,T.leaves,List.getElem?_map,List.getElem?_range hj,Option.map_some,Option.some.injEq] at hy;subst hy;exact ⟨rd (off + j),by simp [Value.cells,hj],hleaf j ty hj ht⟩
 ·have h1:=U_ (C:=⟨tab,[],0,[],[],[],[],[],[]⟩) hG hc hS
  have hlv : ti.lv c = [c]:=by
   unfold TI.lv;unfold TI.isS at hS;split
   ·rename_i fs hk;simp [hk] at hS
   ·rfl
  have hL:=hleaf 0 c (by omega) (by rw [hlv];rfl);simp only [Nat.add_zero] at hL;have hno:=f_X hL;exact b_8 hc hS h1 hno.2 hno.1 hL
theorem s_K (hG : Good P C.tab) {t c : TypeId} {ti : TI} (h : C.tab.at t = some (c,ti)) : ∃ d,P.underlying t = some d ∧ ((∃ fa,d = .struct fa) ↔ ti.isS = true) ∧ (∀ n e,d ≠ .array n e):=by
 obtain ⟨d,hd,hm⟩:=(hG _ _ _ h).und;refine ⟨d,hd,?_,?_⟩
 ·unfold TI.isS
  cases hk : ti.k <;> cases d <;> simp [hk] at hm ⊢
 ·intro n e he
  subst he;cases hk : ti.k <;> simp [hk] at hm
theorem m_a (hG : Good P C.tab) {t c : TypeId} {ti : TI} (h : C.tab.at t = some (c,ti)) : (Go.isAgg t).run P w = .ok ti.isS w:=by
 obtain ⟨d,hd,hS,hA⟩:=s_K hG h;simp only [Go.isAgg,Sem.run_bind,run_underlying hd,Result.andThen_ok]
 cases d with
 | struct fa => rw [hS.1 ⟨fa,rfl⟩];rfl
 | array n e => exact absurd rfl (hA n e)
 | _ =>
  have : ti.isS = false:=by
   cases hs : ti.isS with
   | false => rfl
   | true => obtain ⟨fa,hh⟩:=hS.2 hs;cases hh
  rw [this];rfl
theorem c_0 (hG : Good P C.tab) {t c : TypeId} {ti : TI} (h : C.tab.at t = some (c,ti)) : (sizeOf t).run P w = .ok ti.cells w:=by
 obtain ⟨i,hi,hsz,-⟩:=hG.size h;simp [sizeOf,typeInfo,hi,hsz]
theorem c_d (hG : Good P C.tab) {t c : TypeId} {ti : TI} (h : C.tab.at t = some (c,ti)) (a : Go.Addr) (rd : Nat → Value) (hrd : ∀ j,j < ti.cells → w.cell? (a.add j) = some (rd j)) :
  (Instr.loadAt t (.pointer (some a))).run P w = .ok (match ti.isS with
   | true => .agg ((List.range ti.cells).map rd).toArray
   | false => rd 0) w:=by
 have hpos:=(hG _ _ _ h).pos;simp only [Instr.loadAt,Instr.sureAddr,loadVar,Sem.run_bind,Sem.run_pure,Result.andThen_ok,m_a hG h]
 cases hs : ti.isS with
 | true =>
  have hl:=run_loadCells (P:=P) w a ti.cells rd hrd;simp only [if_true,Sem.run_bind,c_0 hG h,Result.andThen_ok,hl,Sem.run_pure]
 | false =>
  have h0:=hrd 0 hpos;have ha : a.add 0 = a:=by simp [Addr.add]
  rw [ha] at h0;simp [h0]
end
section
variable {P : Program} {C : Ctx} {fr : Fr} {tm : Array Value} {w : World} {σ : St} {γ : Key → Option Nat} {D : Nat → Prop}
 (hG : Good P C.tab) (h : Rel C.tab fr tm w σ γ) (hwf : Wf C D σ) (hsz : tm.size = C.nt) {i : Nat} {o : Oper} {p : Path} (hp : σ.Holds p)
 (hpp : ∀ s b,(s,b) ∈ p → a_w C s = false ∧ ∃ q c x,σ.get (a_ s) = some ⟨q,.t c x⟩) {K : St → Prop} {Q : Exit → Act → World → Prop}
theorem Sub.pos {tab : Tab} {O : Nat → Prop} {c : TypeId} {hv v : Value} {g : Option Nat} {xs : List T} {off len : Nat} (ho : Own tab w O c hv g xs) (hs : Sub tab c hv v off len xs.length) (hpos : 0 < len) :
  ∃ ti e ce te b cap cap',tab.at c = some (c,ti) ∧ ti.k = .sl e ∧ tab.at e = some (ce,te) ∧ g = some b ∧ hv = .slice (some ⟨b,0,none⟩) xs.length cap ∧ v = .slice (some ⟨b,off * te.cells,none⟩) len cap' ∧ off + len ≤ xs.length ∧ len ≤ cap' := by
 obtain ⟨ti,e,ce,te,h1,h2,h3,hp,ho⟩:=ho;obtain ⟨ti',e',ce',te',a1,cap1,a',cap',k1,k2,k3,k4,k5,k6,k7,k8,k9,k10,k11⟩:=hs;have e1:=e_ h1 k1;simp only [Prod.mk.injEq,true_and] at e1;subst e1;rw [h2] at k2;simp only [K.sl.injEq] at k2;subst k2;have e2:=e_ h3 k3;simp only [Prod.mk.injEq] at e2;obtain ⟨rfl,rfl⟩:=e2
 rcases ho with ⟨-,rfl,-⟩ | ⟨b,cap,cs,hgb,hv',-⟩
 ·simp at k6;omega
 ·obtain ⟨b',hb1,hb2⟩:=k11 hpos
  rw [hv'] at k4;simp only [Value.slice.injEq] at k4;obtain ⟨rfl,-,rfl⟩:=k4;simp only [Option.some.injEq] at hb1;subst hb1;refine ⟨ti,e,ce,te,b,cap,cap',h1,h2,h3,hgb,hv',?_,k6,k7⟩;rw [k5,hb2,a_I,Nat.zero_add]
include hG h hwf hsz hp hpp
theorem f_H {ty : TypeId} {x : Operand} {f : Nat} (ho : o.op = .fieldAddr ty x f) : Sound P C fr tm w σ D i o p K Q ((e_3 C p o ty x f).run σ):=by
 unfold e_3;refine o_ _ _ b_ fun d hd hn hv habs => ?_
 refine Z_ _ b_ fun ct tr hr => ?_
 split
 ·rename_i fs hk
  split
  ·rename_i off cf hf
   obtain ⟨fa,fl,tf,inf,hu,hfa,hoff,hft,hcf,hpos,-,-,hi,hisz⟩:=hG.field hr hk hf;have hrun : ∀ q,ev tm x = .pointer (some q) → (execOp (Act.eval ⟨tm,[]⟩) o).run P w = .ok (.value (.pointer (some (q.add off)))) w:=by
    intro q hq;unfold ev at hq;simp only [execOp,ho,hq];rw [Sem.run_bind,j_a hu hfa hi (by omega),hoff];rfl
   refine X_ hG h p hp x 0 b_ fun ko a hx => ?_
   cases hx with
   | const => exact b_
   | nil => exact b_
   | tmp s e hx he hsub hav =>
    cases hav' : e.av with
    | box c tag n =>
     simp only;split
     ·rename_i k hk'
      simp only [Option.some.injEq,Prod.mk.injEq] at hk';obtain ⟨rfl,hpath⟩:=hk';rw [hav'] at hav;obtain ⟨b,cs,ety,hb,hvv,-⟩:=hav;refine c_b off b_ fun hlt => ?_
      intro hW;have hent : σ.get (a_ s) = some ⟨[],.box c tag n⟩:=by rw [he,← hpath,← hav']
      have hne : a_ s ≠ a_ d:=fun e' => by rw [← e',he] at habs;cases habs
      refine a_P (a:=.ptr s tag off) hG h hwf hsz hn hd habs hp hpp (hrun _ hvv) ?_ ?_ ?_ hW
      ·intro h0 tag0 hh
       simp only [AV.home,Option.some.injEq,Prod.mk.injEq] at hh;obtain ⟨rfl,rfl⟩:=hh;rw [he];simp
      ·intro tag0 hh
       exact hwf.tags _ _ tag0 he (by rw [hav'];exact hh)
      ·exact f_P hent hb off (by rw [g_I hlt,a_I,Nat.zero_add]) (O_ _ _ hne)
     ·exact b_
    | ptr s' tag c =>
     rw [hav'] at hav;refine c_b c b_ fun hlt1 => ?_
     refine c_b (c + off) b_ fun hlt2 => ?_
     refine b_v s' tag b_ fun cb n hb => ?_
     obtain ⟨b,hbb,hvv⟩:=hav cb n hb;rw [g_I hlt1] at hvv;intro hW;refine b_k (a:=.ptr s' tag (c + off)) hG h hwf hsz hp hpp hn hd habs he (hrun _ hvv) ?_ (by simp [hav',AV.home]) (by simp [hav',AV.a_C]) (by simp) (by simp) hW;exact f_P hb hbb (c + off) (by rw [g_I hlt2,a_I]) rfl
    | eptr h0 tag j c =>
     rw [hav'] at hav;refine N_ h0 tag b_ fun c' xs hb => ?_
     obtain ⟨-,b,cap,ti,e1,ce,te,-,-,-,-,hvv⟩:=hav c' xs hb;intro hW;refine b_k (a:=.eptr h0 tag j (c + off)) hG h hwf hsz hp hpp hn hd habs he (hrun _ hvv) ?_ (by simp [hav',AV.home]) (by simp [hav',AV.a_C]) (by simp) (by simp) hW;intro c2 xs2 hb2;obtain ⟨q0,b2,cap2,ti2,e2,ce2,te2,q1,q2,q3,q4,q5⟩:=hav c2 xs2 hb2;refine ⟨q0,b2,cap2,ti2,e2,ce2,te2,q1,q2,q3,q4,?_⟩;rw [hvv] at q5;simp only [Value.pointer.injEq,Option.some.injEq,Addr.mk.injEq,and_true] at q5;rw [a_I];simp only [Value.pointer.injEq,Option.some.injEq,Addr.mk.injEq,and_true];exact ⟨q5.1,by omega⟩
    | pl c y off' =>
     rw [hav'] at hav;obtain ⟨a,hvv,hat⟩:=hav;intro hW;refine b_k (a:=.pl c y (off' + off)) hG h hwf hsz hp hpp hn hd habs he (hrun _ hvv) ?_ (by simp [AV.home]) (by simp [AV.a_C]) (by simp) (by simp) hW;exact ⟨a,by rw [f_0],hat⟩
    | _ => exact b_
  ·exact b_
 ·exact b_
theorem l_R {xt : TypeId} {x : Operand} {c : Call} (ho : o.op = .call c) (hc : c.callee = .builtin .len) (hargs : c.args.toList = [x]) (hty : c.argTypes.toList = [xt]) :
  Sound P C fr tm w σ D i o p K Q ((lenR C p o xt x).run σ):=by
 unfold lenR;refine o_ _ _ b_ fun d hd hn hv habs => ?_
 refine Z_ _ b_ fun cr tr hr => ?_
 have hcr:=(hG _ _ _ hr).self;have ha : c.args = #[x]:=by rw [← hargs]
 have ht : c.argTypes = #[xt]:=by rw [← hty]
 have hrun : ∀ n : Nat,(Builtin.len_ #[xt] o.type #[ev tm x]).run P w = .ok (.int .i64 (n : Int)) w → (execOp (Act.eval ⟨tm,[]⟩) o).run P w = .ok (.value (.int .i64 (n : Int))) w:=by
  intro n hl;unfold ev at hl;simp only [execOp,ho,resolve,hc,ha,ht];simp [invoke,builtin,hl]
 have put : ∀ n : Nat,n ≤ maxLen → tr.k = .int .i64 → (Builtin.len_ #[xt] o.type #[ev tm x]).run P w = .ok (.int .i64 (n : Int)) w →
   Sound P C fr tm w σ D i o p K Q (.upd none [(a_ d,⟨p,.t cr (.i .i64 (n : Int))⟩)]):=by
  intro n hm hk hl hW;refine b_X hG h hwf hsz hp hpp hn hd habs (hrun n hl) (j_Z hG hcr hk ?_) hW;rw [s_M];simp only [maxLen] at hm;omega
 split
 ·rename_i hk
  refine X_ hG h p hp x xt b_ fun ko a hx => ?_
  have sl : ∀ {y : T} {cx : TypeId} {e : TypeId},C.kd xt = .sl e → ∀ xs,b_E C.tab w (Ob fr γ) cx (ev tm x) xs →
    (Builtin.len_ #[xt] o.type #[ev tm x]).run P w = .ok (.int .i64 (xs.length : Int)) w ∧ xs.length ≤ maxLen:=by
   intro y cx e hsl xs hS;obtain ⟨ti,e',ce,te,a',cap,-,-,-,-,hvv,hcap,hm,-⟩:=hS;rw [hvv];exact ⟨e_B (hG.slice (by unfold Ctx.el;rw [hsl];rfl)) _ _ _ _,by omega⟩
  cases hx with
  | const cx y _ hV =>
   simp only;split
   ·rename_i e1 e2 h1 h2
    obtain ⟨c1,t1,hc1,hk1⟩:=d_a h1 (by simp);obtain ⟨t2,hc2,-⟩:=id hV
    have:=e_ hc1 hc2
    simp only [Prod.mk.injEq] at this;obtain ⟨rfl,rfl⟩:=this;obtain ⟨-,hS,-⟩:=e_N hG hc1 hk1 hV;obtain ⟨q1,q2⟩:=sl (y:=y) h2 _ hS;exact put _ q2 hk q1
   ·rename_i h1 h2
    obtain ⟨c1,t1,hc1,hk1⟩:=d_a h1 (by simp);obtain ⟨t2,hc2,-⟩:=id hV
    have:=e_ hc1 hc2
    simp only [Prod.mk.injEq] at this;obtain ⟨rfl,rfl⟩:=this;obtain ⟨q1,-,q3⟩:=q_l hc1 hk1 hV;obtain ⟨c3,t3,hc3,hk3⟩:=d_a h2 (by simp);obtain ⟨dd,hu,hdd⟩:=(hG _ _ _ hc3).und;rw [hk3] at hdd;have hu' : P.underlying xt = some .string:=by cases dd <;> simp at hdd;exact hu
    exact put _ q3 hk (by rw [q1];exact g_P hu' _ _)
   ·exact b_
  | nil cx e ti _ hx ht hc' hk' =>
   simp only;split
   ·rename_i e2 h2
    exact put 0 (by simp [maxLen]) hk (by rw [hx];exact e_B (hG.slice (by unfold Ctx.el;rw [h2];rfl)) _ _ _ _)
   ·exact b_
  | tmp s e hx he hsub hav =>
   cases hav' : e.av with
   | t cx y =>
    rw [hav'] at hav;simp only;split
    ·rename_i e1 e2 h1 h2
     obtain ⟨c1,t1,hc1,hk1⟩:=d_a h1 (by simp);obtain ⟨t2,hc2,-⟩:=id hav
     have:=e_ hc1 hc2
     simp only [Prod.mk.injEq] at this;obtain ⟨rfl,rfl⟩:=this;obtain ⟨-,hS,-⟩:=e_N hG hc1 hk1 hav;obtain ⟨q1,q2⟩:=sl (y:=y) h2 _ hS;exact put _ q2 hk q1
    ·rename_i h1 h2
     obtain ⟨c1,t1,hc1,hk1⟩:=d_a h1 (by simp);obtain ⟨t2,hc2,-⟩:=id hav
     have:=e_ hc1 hc2
     simp only [Prod.mk.injEq] at this;obtain ⟨rfl,rfl⟩:=this;obtain ⟨q1,-,q3⟩:=q_l hc1 hk1 hav;obtain ⟨c3,t3,hc3,hk3⟩:=d_a h2 (by simp);obtain ⟨dd,hu,hdd⟩:=(hG _ _ _ hc3).und;rw [hk3] at hdd;have hu' : P.underlying xt = some .string:=by cases dd <;> simp at hdd;exact hu
     exact put _ q3 hk (by rw [q1];exact g_P hu' _ _)
    ·exact b_
   | own cx tag xs =>
    rw [hav'] at hav;simp only;split
    ·rename_i e2 h2
     obtain ⟨q1,q2⟩:=sl (y:=.u) h2 _ (Own.c_H hav);exact put _ q2 hk q1
    ·exact b_
   | alias h0 tag cx off len =>
    rw [hav'] at hav;simp only;split
    ·rename_i e2 h2
     refine N_ h0 tag b_ fun c' xs hh => ?_
     obtain ⟨-,hS,hv0,-,-,hsub⟩:=a_y h hav hh;obtain ⟨_,_,_,_,_,_,_,_,-,-,-,-,-,hle,-⟩:=hsub;have hl : ((xs.drop off).take len).length = len:=by simp;omega
     obtain ⟨q1,q2⟩:=sl (y:=.u) h2 _ hS;rw [hl] at q1 q2;exact put _ q2 hk q1
    ·exact b_
   | _ => exact b_
 ·exact b_
omit hwf hsz hp hpp in
theorem e_y (s : Nat) (want : Bool) (x : Operand) (ty : TypeId) {k : TypeId → T → R} {motive : a_o → Prop} (hbad : motive .bad)
  (hok : ∀ c y,(σ.Holds (p ++ [(s,want)]) → V C.tab w (Ob fr γ) c (ev tm x) y) → motive ((k c y).run σ)) : motive ((d_H C p s want x ty k).run σ):=by
 unfold d_H
 by_cases hh : σ.Holds (p ++ [(s,want)])
 ·refine X_ hG h _ hh x ty hbad fun ko a hx => ?_
  cases hx with
  | const c y _ hV => exact hok c y fun _ => hV
  | nil => exact hbad
  | tmp s' e hx he hsub hav =>
   cases hav' : e.av with
   | t c y =>
    rw [hav'] at hav;exact hok c y fun _ => hav
   | _ => exact hbad
 ·cases x with
  | tmp s' =>
   simp only [opnd,Rd.run]
   cases he : σ.get (a_ s') with
   | none => exact hbad
   | some e =>
    simp only
    cases hs : e.path.sub (p ++ [(s,want)]) with
    | false => exact hbad
    | true =>
     simp only
     cases hav' : e.av with
     | t c y => exact hok c y fun q => absurd q hh
     | _ => exact hbad
  | const v =>
   simp only [opnd]
   cases ht : C.tab.at ty with
   | none => exact hbad
   | some r =>
    obtain ⟨c,ti⟩:=r;simp only
    cases hn : b_3 v with
    | true =>
     simp only
     cases hk : ti.k.elem with
     | none => exact hbad
     | some e => exact hbad
    | false =>
     simp only
     cases hf : ti.k.fits v with
     | false => exact hbad
     | true =>
      simp only
      cases hx : i_A v with
      | none => exact hbad
      | some y => exact hok c y fun q => absurd q hh
  | global g => exact hbad
  | func f =>
   simp only [opnd]
   cases ht : C.tab.at ty with
   | none => exact hbad
   | some r =>
    obtain ⟨c,ti⟩:=r;simp only;split
    ·exact hok c _ fun q => absurd q hh
    ·exact hbad
omit hG h hwf hsz hp hpp in
theorem d_b {q r : Path} : σ.Holds (q ++ r) ↔ σ.Holds q ∧ σ.Holds r:=by
 induction q with
 | nil => simp [St.Holds]
 | cons x q ih =>
  obtain ⟨s,b⟩:=x;simp only [List.cons_append,St.Holds,ih,and_assoc]
theorem k_k {c a b : Operand} (ho : o.op = .pick c a b) : Sound P C fr tm w σ D i o p K Q ((s_g C p o c a b).run σ):=by
 unfold s_g;refine o_ _ _ b_ fun d hd hn hv habs => ?_
 cases c with
 | tmp s =>
  simp only;split
  ·exact b_
  ·
   rename_i hvar;have key : ∀ (cc : TypeId) (vc : T),(∃ e,σ.get (a_ s) = some e ∧ e.av = .t cc vc) → V C.tab w (Ob fr γ) cc (ev tm (.tmp s)) vc →
     Sound P C fr tm w σ D i o p K Q ((match C.kd cc with
      | .bool => d_H C p s true a o.type fun ca va => d_H C p s false b o.type fun cb vb => match Nat.beq ca cb with
       | true => okR [(a_ d,⟨p,.t ca (T.ite vc.bool va vb)⟩)]
       | false => badR
      | _ => badR).run σ):=by
    intro cc vc he hV;split
    ·rename_i hk
     refine e_y hG h s true a o.type b_ fun ca va ha => ?_
     refine e_y hG h s false b o.type b_ fun cb vb hb => ?_
     split
     ·rename_i hcc
      have hcc' := Nat.eq_of_beq_eq_true hcc;subst hcc';obtain ⟨ex,-⟩:=SeeR.bool (.inl hV) hk;obtain ⟨e,he1,he2⟩:=he;have htr : σ.truth s = vc.bool:=by unfold St.truth;rw [he1];simp only [he2]
      intro hW;unfold ev at ex ha hb
      cases hbv : vc.bool with
      | true =>
       rw [hbv] at htr ex;have hV' := ha (d_b.2 ⟨hp,htr,trivial⟩);refine b_X hG h hwf hsz hp hpp hn hd habs ?_ hV' (by rw [hbv] at hW;exact hW);simp [execOp,ho,ex,asBool]
      | false =>
       rw [hbv] at htr ex;have hV' := hb (d_b.2 ⟨hp,htr,trivial⟩);refine b_X hG h hwf hsz hp hpp hn hd habs ?_ hV' (by rw [hbv] at hW;exact hW);simp [execOp,ho,ex,asBool]
     ·exact b_
    ·exact b_
   refine X_ hG h p hp (.tmp s) 0 b_ fun ko a' hx => ?_
   cases hx with
   | const c y hx _ => exact absurd rfl (hx s)
   | nil c e ti hx => exact absurd rfl (hx s)
   | tmp s' e hx he hsub hav =>
    simp only [Operand.tmp.injEq] at hx;subst hx
    cases hav' : e.av with
    | t cc vc =>
     rw [hav'] at hav;exact key cc vc ⟨e,he,hav'⟩ hav
    | _ => exact b_
 | const v => exact b_
 | global g => exact b_
 | func f => exact b_
end
section
variable {P : Program} {C : Ctx} {fr : Fr} {tm : Array Value} {w : World} {σ : St} {γ : Key → Option Nat} {D : Nat → Prop}
 (hG : Good P C.tab) (h : Rel C.tab fr tm w σ γ) (hwf : Wf C D σ) (hsz : tm.size = C.nt) {i : Nat} {o : Oper} {p : Path} (hp : σ.Holds p)
 (hpp : ∀ s b,(s,b) ∈ p → a_w C s = false ∧ ∃ q c x,σ.get (a_ s) = some ⟨q,.t c x⟩) {K : St → Prop} {Q : Exit → Act → World → Prop}
theorem V_at {c : TypeId} {v : Value} {y : T} {e : TypeId} {O : Nat → Prop} (hV : V C.tab w O c v y) (he : C.el c = some e) : ∃ ti,C.tab.at c = some (c,ti) ∧ ti.k = .sl e:=by
 obtain ⟨c',ti,h1,h2⟩:=i_E he;obtain ⟨t2,hc2,-⟩:=hV
 have:=e_ h1 hc2
 simp only [Prod.mk.injEq] at this;obtain ⟨rfl,rfl⟩:=this;exact ⟨ti,h1,h2⟩
theorem h_Q {xs : List T} {n : Nat} (h : n < xs.length) : xs[n]? = some (xs.getD n .u):=by
 rw [List.getD_eq_getElem?_getD,List.getElem?_eq_getElem h];rfl
def ex2 : Bool → Value → Value → Sem Value
 | true => Builtin.max2
 | false => Builtin.min2
include hG h hwf hsz hp hpp
theorem i_L {xt : TypeId} {x ix : Operand} (ho : o.op = .indexAddr xt x ix) : Sound P C fr tm w σ D i o p K Q ((n_v C p o xt x ix).run σ):=by
 unfold n_v;refine o_ _ _ b_ fun d hd hn hv habs => ?_
 refine a_F hG h p hp ix 3 b_ fun ci vi hi => ?_
 split
 ·exact b_
 ·rename_i k hk
  obtain ⟨eix,-,-⟩:=hi.int hk;split
  ·exact b_
  ·rename_i e hel
   have hu:=hG.slice hel;have hrun : ∀ (a : Go.Addr) (len cap : Nat) (te : TI) (ce : TypeId),C.tab.at e = some (ce,te) → ev tm x = .slice (some a) len cap → 0 ≤ vi.int → vi.int < len →
     (execOp (Act.eval ⟨tm,[]⟩) o).run P w = .ok (.value (.pointer (some (a.add (vi.int.toNat * te.cells))))) w:=by
    intro a len cap te ce hte hx h0 h1;obtain ⟨inf,hinf,hisz,-⟩:=hG.size hte;unfold ev at hx eix;simp only [execOp,ho,hx,eix];rw [Sem.run_bind,j_b hu hinf a len cap k vi.int h0 h1,hisz];rfl
   refine X_ hG h p hp x xt b_ fun ko a hx => ?_
   have tree : ∀ (c : TypeId) (v : T),V C.tab w (Ob fr γ) c (ev tm x) v → Sound P C fr tm w σ D i o p K Q ((match C.el c,C.tab.at e with
     | some e',some (ce,_) => match Nat.beq e e' with
      | true => updR (0 ≤ vi.int ∧ vi.int < lenOf v.list) [(a_ d,⟨p,.pl ce (v.list.getD vi.int.toNat .u) 0⟩)]
      | false => badR
     | _,_ => badR).run σ):=by
    intro c v hV;split
    ·rename_i e' ce te hel' hte
     split
     ·rename_i hee
      have:=Nat.eq_of_beq_eq_true hee
      subst this;obtain ⟨ti,hc,hkc⟩:=V_at hV hel';obtain ⟨-,hS,hO⟩:=e_N hG hc hkc hV;obtain ⟨ti',e2,ce2,te2,a2,cap,q1,q2,q3,q4,q5,q6,q7,q8,q9⟩:=hS
      have:=e_ hc q1
      simp only [Prod.mk.injEq,true_and] at this;subst this;rw [hkc] at q2;simp only [Go.Pl.K.sl.injEq] at q2;subst q2
      have:=e_ hte q3
      simp only [Prod.mk.injEq] at this;obtain ⟨rfl,rfl⟩:=this;intro hW;obtain ⟨⟨h0,h1⟩,hK⟩ : (0 ≤ vi.int ∧ vi.int < lenOf v.list) ∧ K (σ.puts [(a_ d,⟨p,.pl ce (v.list.getD vi.int.toNat .u) 0⟩)]):=⟨d_Q hW.1 hp,hW.2⟩;have hlt : vi.int.toNat < v.list.length:=by unfold lenOf at h1;omega
      obtain ⟨b,hb,k1,k2,k3⟩:=q9 _ _ (h_Q hlt);subst hb;refine a_P (a:=.pl ce (v.list.getD vi.int.toNat .u) 0) hG h hwf hsz hn hd habs hp hpp (hrun b _ cap te ce hte q5 h0 (by unfold lenOf at h1;exact h1)) (fun _ _ hh => by cases hh) (fun _ hh => by cases hh) ?_ hK;refine ⟨b.add (vi.int.toNat * te.cells),by simp [Addr.add],te,(hG _ _ _ hte).self,k1,k2,?_,fun j y ty hy ht => ?_⟩
      ·rw [b_F]
       exact hO b _ _ q5 (by omega)
      ·obtain ⟨u,hu',hl⟩:=k3 j y ty hy ht
       exact ⟨u,by rw [f_0];exact hu',hl⟩
     ·exact b_
    ·exact b_
   cases hx with
   | const c y _ hV => exact tree c y hV
   | nil c e' ti _ hx ht hc hk' =>
    simp only;split
    ·rename_i h1 h2
     simp at h2
    ·exact b_
   | tmp s e' hx he hsub hav =>
    cases hav' : e'.av with
    | t c y =>
     rw [hav'] at hav;exact tree c y hav
    | own c tag xs =>
     rw [hav'] at hav;simp only;split
     ·rename_i e2 k0 hel' hko
      simp only [Option.some.injEq,Prod.mk.injEq] at hko;obtain ⟨rfl,hpath⟩:=hko;split
      ·rename_i hee
       have:=Nat.eq_of_beq_eq_true hee
       subst this;intro hW;obtain ⟨⟨h0,h1⟩,hK⟩ : (0 ≤ vi.int ∧ vi.int < lenOf xs) ∧ K (σ.puts [(a_ d,⟨p,.eptr (a_ s) tag vi.int.toNat 0⟩)]):=⟨d_Q hW.1 hp,hW.2⟩;have hlt : vi.int.toNat < xs.length:=by unfold lenOf at h1;omega
       obtain ⟨ti,e3,ce,te,q1,q2,q3,q4,q5⟩:=id hav;have hce : ti.k = .sl e:=by
        obtain ⟨c',ti',r1,r2⟩:=i_E hel'
        have:=e_ q1 r1
        simp only [Prod.mk.injEq] at this;rw [this.2];exact r2
       rw [q2] at hce;simp only [Go.Pl.K.sl.injEq] at hce;subst hce
       rcases q5 with ⟨-,rfl,-⟩ | ⟨b,cap,cs,hgb,hvv,-⟩
       ·simp at hlt
       ·have hent : σ.get (a_ s) = some ⟨[],.own c tag xs⟩:=by rw [he,← hpath,← hav']
        refine a_P (a:=.eptr (a_ s) tag vi.int.toNat 0) hG h hwf hsz hn hd habs hp hpp (hrun _ _ cap te ce q3 hvv h0 (by unfold lenOf at h1;exact h1)) ?_ ?_ ?_ hK
        ·intro h0 tag0 hh
         simp only [AV.home,Option.some.injEq,Prod.mk.injEq] at hh;obtain ⟨rfl,rfl⟩:=hh;rw [he];simp
        ·intro tag0 hh
         exact hwf.tags _ _ tag0 he (by rw [hav'];exact hh)
        ·intro c2 xs2 hb2
         rw [hent] at hb2;simp only [Option.some.injEq,Ent.mk.injEq,AV.own.injEq,true_and] at hb2;obtain ⟨rfl,rfl⟩:=hb2;refine ⟨hlt,b,cap,ti,_,ce,te,?_,q1,q2,q3,?_⟩
         ·rw [p_S h he,← hx,hvv]
         ·rw [a_I];simp
      ·exact b_
     ·exact b_
    | alias h0 tag c off len =>
     rw [hav'] at hav;simp only;split
     ·rename_i e2 hel'
      split
      ·rename_i hee
       have:=Nat.eq_of_beq_eq_true hee
       subst this;refine N_ h0 tag b_ fun c' xs hh => ?_
       obtain ⟨rfl,-,hv0,hval,hown,hsub'⟩:=a_y h hav hh;intro hW;obtain ⟨⟨h0',h1⟩,hK⟩ : (0 ≤ vi.int ∧ vi.int < (len : Int)) ∧ K (σ.puts [(a_ d,⟨p,.eptr h0 tag (off + vi.int.toNat) 0⟩)]):=⟨d_Q hW.1 hp,hW.2⟩;obtain ⟨ti,e3,ce,te,b,cap,cap',q1,q2,q3,q4,q5,q6,q7,q8⟩:=Sub.pos hown hsub' (by omega);have hce : ti.k = .sl e:=by
        obtain ⟨c',ti',r1,r2⟩:=i_E hel'
        have:=e_ q1 r1
        simp only [Prod.mk.injEq] at this;rw [this.2];exact r2
       rw [q2] at hce;simp only [Go.Pl.K.sl.injEq] at hce;subst hce;refine a_P (a:=.eptr h0 tag (off + vi.int.toNat) 0) hG h hwf hsz hn hd habs hp hpp (hrun _ _ cap' te ce q3 q6 h0' h1) ?_ ?_ ?_ hK
       ·intro h2 tag0 hh2
        simp only [AV.home,Option.some.injEq,Prod.mk.injEq] at hh2;obtain ⟨rfl,rfl⟩:=hh2;rw [hh];simp
       ·intro tag0 hh2
        exact hwf.tags _ _ tag0 he (by rw [hav'];exact hh2)
       ·intro c2 xs2 hb2
        rw [hh] at hb2;simp only [Option.some.injEq,Ent.mk.injEq,AV.own.injEq,true_and] at hb2;obtain ⟨rfl,rfl⟩:=hb2;refine ⟨by omega,b,cap,ti,_,ce,te,by rw [hval,q5],q1,q2,q3,?_⟩;rw [a_I,Nat.add_mul,Nat.add_zero]
      ·exact b_
     ·exact b_
    | _ => exact b_
theorem d_O {isMax : Bool} {args : List (Operand × TypeId)} {c : Call} (ho : o.op = .call c) (hc : c.callee = .builtin (exB isMax)) (hargs : args.map (·.1) = c.args.toList) :
  Sound P C fr tm w σ D i o p K Q ((f_M C p o isMax args).run σ):=by
 unfold f_M;refine o_ _ _ b_ fun d hd hn hv habs => ?_
 refine Z_ _ b_ fun cr tr hr => ?_
 have hcr:=(hG _ _ _ hr).self;split
 ·rename_i k hk
  have sees : ∀ (l : List (Operand × TypeId)) (f : List (TypeId × T) → R),(∀ ys : List (TypeId × T),ys.length = l.length → (∀ (j : Nat) x y,l[j]? = some x → ys[j]? = some y → SeeR C.tab w (Ob fr γ) y.1 (ev tm x.1) y.2) →
    Sound P C fr tm w σ D i o p K Q ((f ys).run σ)) → Sound P C fr tm w σ D i o p K Q ((p_u C p l f).run σ):=by
   intro l
   induction l with
   | nil =>
    intro f hf;exact hf [] rfl (fun j x y hx => by simp at hx)
   | cons a l ih =>
    intro f hf;obtain ⟨x,ty⟩:=a;simp only [p_u];refine a_F hG h p hp x ty b_ fun cx vx hx => ?_
    refine ih _ fun ys hl hys => hf _ (by simp [hl]) ?_
    intro j x' y' hx' hy'
    cases j with
    | zero =>
     simp at hx' hy';subst hx';subst hy';exact hx
    | succ j => exact hys j x' y' (by simpa using hx') (by simpa using hy')
  refine sees args _ fun ys hl hys => ?_
  cases ys with
  | nil => exact b_
  | cons y r =>
   simp only;split
   ·rename_i hall
    intro hW;have hints : ∀ (l : List (TypeId × T)),k_B C k l = true → ∀ z ∈ l,C.ik z.1 = some k:=by
     intro l
     induction l with
     | nil => intro _ z hz;simp at hz
     | cons z l ih =>
      intro hh z' hz';obtain ⟨c0,v0⟩:=z;simp only [k_B] at hh;split at hh
      ·rename_i k' hk'
       split at hh
       ·rename_i hkk
        have:=of_decide_eq_true hkk
        subst this
        rcases List.mem_cons.1 hz' with rfl | hz'
        ·exact hk'
        ·exact ih hh z' hz'
       ·cases hh
      ·cases hh
    have hall' := hints _ hall;have hvals : args.map (fun x => ev tm x.1) = (y :: r).map fun z => Value.int k z.2.int:=by
     apply List.ext_getElem?;intro j
     by_cases hj : j < args.length
     ·have hj' : j < (y :: r).length:=by rw [hl];exact hj
      have h1:=List.getElem?_eq_getElem hj;have h2:=List.getElem?_eq_getElem hj';obtain ⟨q,-,-⟩:=(hys j _ _ h1 h2).int (hall' _ (List.getElem_mem hj'));rw [List.getElem?_map,List.getElem?_map,h1,h2,Option.map_some,Option.map_some,q]
     ·rw [List.getElem?_eq_none (by simpa using Nat.le_of_not_lt hj),List.getElem?_eq_none (by rw [List.length_map,hl];exact Nat.le_of_not_lt hj)]
    have hwfs : ∀ z ∈ (y :: r),k.wrap z.2.int = z.2.int:=by
     intro z hz;obtain ⟨j,hj,rfl⟩:=List.getElem_of_mem hz;have hj' : j < args.length:=by rw [← hl];exact hj
     exact ((hys j _ _ (List.getElem?_eq_getElem hj') (List.getElem?_eq_getElem hj)).int (hall' _ hz)).2.2
    have hcargs : c.args.toList.map (Act.eval ⟨tm,[]⟩) = Value.int k y.2.int :: r.map fun z => Value.int k z.2.int:=by
     rw [← hargs,List.map_map];exact hvals
    have hfold : ∀ (l : List (TypeId × T)) (a : Int),k.wrap a = a → (∀ z ∈ l,k.wrap z.2.int = z.2.int) →
      ((l.map fun z => Value.int k z.2.int).foldlM (ex2 isMax) (.int k a)).run P w = .ok (.int k (j_S (exI isMax) a l)) w ∧
       k.wrap (j_S (exI isMax) a l) = j_S (exI isMax) a l:=by
     intro l
     induction l with
     | nil => intro a ha _;exact ⟨rfl,ha⟩
     | cons z l ih =>
      intro a ha hz;have hz0:=hz z (by simp)
      cases isMax with
      | true =>
       have:=ih (exI true a z.2.int) (by simp only [exI,maxI];split <;> assumption) (fun z' h' => hz z' (by simp [h']))
       simp only [List.map_cons,List.foldlM_cons,j_S];refine ⟨?_,this.2⟩;rw [Sem.run_bind];simp only [ex2,Builtin.max2,Sem.run_pure,Result.andThen_ok];exact this.1
      | false =>
       have:=ih (exI false a z.2.int) (by simp only [exI,minI];split <;> assumption) (fun z' h' => hz z' (by simp [h']))
       simp only [List.map_cons,List.foldlM_cons,j_S];refine ⟨?_,this.2⟩;rw [Sem.run_bind];simp only [ex2,Builtin.min2,Sem.run_pure,Result.andThen_ok];exact this.1
    obtain ⟨f1,f2⟩:=hfold r y.2.int (hwfs y (by simp)) (fun z hz => hwfs z (by simp [hz]));refine b_X hG h hwf hsz hp hpp hn hd habs ?_ (j_Z hG hcr hk f2) hW;simp only [execOp,ho,resolve,hc]
    cases isMax with
    | true =>
     simp only [ex2] at f1;simp [invoke,builtin,Builtin.max_,hcargs,f1,exB]
    | false =>
     simp only [ex2] at f1;simp [invoke,builtin,Builtin.min_,hcargs,f1,exB]
   ·exact b_
 ·exact b_
end
section
variable {P : Program} {C : Ctx} {fr : Fr} {tm : Array Value} {w : World} {σ : St} {γ : Key → Option Nat} {D : Nat → Prop}
theorem B_ (σ : St) (a b : List (Key × Ent)) : σ.puts (a ++ b) = (σ.puts a).puts b:=by
 induction a generalizing σ with
 | nil => rfl
 | cons x r ih => obtain ⟨k,e⟩:=x;exact ih _
theorem m_q {k k0 : Key} {g : Option Nat} (h : k0.tag ≠ 0 ∨ ∀ n,σ.get (cell k0.a n) = none) {e : Ent} (hk : σ.get k = some e) : s_ tm w (setG γ k0 g) k = s_ tm w γ k:=by
 obtain ⟨t,a,b⟩:=k;unfold s_
 match t with
 | 0 => rfl
 | 1 =>
  simp only;have : a_ a ≠ k0:=by
   rintro rfl
   rcases h with h | h
   ·exact h rfl
   ·have:=h b
    rw [show (⟨1,a,b⟩ : Key) = cell a b from rfl] at hk;simp only [a_] at this;rw [this] at hk;cases hk
  rw [O_ _ _ this]
 | 2 => rfl
 | n + 3 => rfl
theorem o_9 (h : Rel C.tab fr tm w σ γ) {s : Nat} {e : Ent} (hs : σ.get (a_ s) = some e) (hb : ∀ c tag n,e ≠ ⟨[],.box c tag n⟩) : ∀ n,σ.get (cell s n) = none:=by
 intro n
 cases hc : σ.get (cell s n) with
 | none => rfl
 | some e' =>
  obtain ⟨c,tag,m,hh⟩:=h.cel s n e' hc;rw [hs] at hh;exact absurd (Option.some.inj hh) (hb c tag m)
theorem b_N {k : Key} (h : Rel C.tab fr tm w σ γ) {e : Ent} (hk : σ.get k = some e) (ht : k.tag = 0) : k = a_ k.a:=by
 obtain ⟨v,hv,-⟩:=h.ent k e hk;obtain ⟨t,a,b⟩:=k;simp only at ht;subst ht;unfold s_ at hv;simp only at hv;split at hv
 ·rename_i hb;subst hb;rfl
 ·cases hv
theorem Rel.freeze (hG : Good P C.tab) (h : Rel C.tab fr tm w σ γ) (hwf : Wf C D σ) {k : Key} {c : TypeId} {tag : Nat} {xs : List T} (hk : σ.get k = some ⟨[],.own c tag xs⟩) :
  Rel C.tab fr tm w (σ.put k (top (.t c (.l xs)))) (setG γ k none) ∧ Wf C D (σ.put k (top (.t c (.l xs)))):=by
 have hcells : k.tag ≠ 0 ∨ ∀ n,σ.get (cell k.a n) = none:=by
  by_cases ht : k.tag = 0
  ·refine .inr (o_9 h (e:=⟨[],.own c tag xs⟩) (by rw [← b_N h hk ht];exact hk) (by simp))
  ·exact .inl ht
 have hval : ∀ k' e,σ.get k' = some e → s_ tm w (setG γ k none) k' = s_ tm w γ k' := fun k' e he => m_q hcells he
 have hslot : ∀ {s : Nat} {c' : TypeId} {t m : Nat},σ.get (a_ s) = some ⟨[],.box c' t m⟩ → a_ s ≠ k:=by
  rintro s c' t m hs rfl;rw [hk] at hs;cases hs
 refine Rel.upd hG h hwf (fun k' => k' = k) (fun _ => False) rfl rfl rfl (Nat.le_refl _) (fun _ _ _ => rfl) (fun _ _ q => q.elim) (fun k' hk' => O_ _ _ hk') ?_ ?_
  (fun k' hk' => m_ hk') (fun k' e _ he => hval k' e he) ?_ ?_ ?_ ?_ ?_ (fun _ q => q) ?_ ?_ ?_ ?_
 ·rintro k' b rfl hb
  rw [a_e] at hb;cases hb
 ·rintro k' k'' b rfl rfl _ _
  rfl
 ·intro s n e he
  have : ∃ e0,σ.get (cell s n) = some e0:=by
   by_cases hc : cell s n = k
   ·exact ⟨_,by rw [hc];exact hk⟩
   ·exact ⟨e,by rw [m_ hc] at he;exact he⟩
  obtain ⟨e0,he0⟩:=this;obtain ⟨c',t,m,hb⟩:=h.cel s n e0 he0;exact ⟨c',t,m,by rw [m_ (hslot hb)];exact hb⟩
 ·intro s j e he
  have : ∃ e0,σ.get (comp s j) = some e0:=by
   by_cases hc : comp s j = k
   ·exact ⟨_,by rw [hc];exact hk⟩
   ·exact ⟨e,by rw [m_ hc] at he;exact he⟩
  obtain ⟨e0,he0⟩:=this;obtain ⟨q,m,hb⟩:=h.cmp s j e0 he0;refine ⟨q,m,?_⟩;rw [m_ (by rintro rfl;rw [hk] at hb;cases hb)];exact hb
 ·rintro s q c' x _ hs rfl
  rw [hk] at hs;cases hs
 ·rintro k' rfl _
  rw [j_];simp
 ·rintro k' e tag' rfl he ht
  rw [j_] at he;simp only [Option.some.injEq] at he;subst he;cases ht
 ·rintro k' tag' rfl _ _
  refine ⟨fun c' xs' hx => ?_,fun c' n hx => ?_,fun c' hx => ?_⟩
  ·rw [j_] at hx;cases hx
  ·rw [j_] at hx;cases hx
  ·rw [j_] at hx;cases hx
 ·rintro k' e h0 tag' rfl he hh
  rw [j_] at he;simp only [Option.some.injEq] at he;subst he;cases hh
 ·rintro k' e s b rfl he hm
  rw [j_] at he;simp only [Option.some.injEq] at he;subst he;simp [top] at hm
 ·rintro hstay k' e rfl he
  rw [j_] at he;simp only [Option.some.injEq] at he;subst he;obtain ⟨v,hv,hr,-⟩:=h.ent k' _ hk;refine ⟨v,by rw [hval k' _ hk];exact hv,fun _ => ?_,fun q => absurd trivial q⟩;have ho : Own C.tab w (Ob fr γ) c v (γ k') xs:=hr trivial;refine ho.freeze hG (fun b hb => f_u hb) fun b hb q => ?_
  rcases q with q | ⟨k2,q⟩
  ·exact (h.blk k' b hb).2.1 q
  ·unfold setG at q
   split at q
   ·cases q
   ·rename_i hne
    exact hne (h.inj k2 k' b q hb)
theorem l_d {k : Key} {e : Ent} (h : σ.get k = some e) : ∀ n,(σ.put k e).get n = σ.get n:=by
 intro n;rw [St.e_7];split
 ·rename_i hk;rw [← hk];exact h.symm
 ·rfl
theorem Rel.congr {σ' : St} (h : Rel C.tab fr tm w σ γ) (he : ∀ k,σ'.get k = σ.get k) : Rel C.tab fr tm w σ' γ where
 os:=h.os
 tape:=h.tape
 output:=h.output
 size:=h.size
 old:=h.old
 low:=h.low
 inj:=h.inj
 blk:=h.blk
 cel s n e hh:=by
  rw [he] at hh;obtain ⟨c,t,m,hb⟩:=h.cel s n e hh;exact ⟨c,t,m,by rw [he];exact hb⟩
 cmp s j e hh:=by
  rw [he] at hh;obtain ⟨q,m,hb⟩:=h.cmp s j e hh;exact ⟨q,m,by rw [he];exact hb⟩
 ent k e hk:=by
  rw [he] at hk;obtain ⟨v,hv,h1,h2⟩:=h.ent k e hk;have hH : σ'.Holds e.path ↔ σ.Holds e.path:=b_q _ fun s b _ => he _
  refine ⟨v,hv,fun q => ?_,fun q => h2 fun q' => q (hH.2 q')⟩
  have:=h1 (hH.1 q)
  cases ha : e.av with
  | alias h0 tag c off len => rw [ha] at this;intro c' xs hx;rw [he] at hx;exact this c' xs hx
  | ptr s tag c => rw [ha] at this;intro cb n hx;rw [he] at hx;exact this cb n hx
  | tcp s tag => rw [ha] at this;intro p hx;rw [he] at hx;exact this p hx
  | eptr h0 tag j c => rw [ha] at this;intro c' xs hx;rw [he] at hx;exact this c' xs hx
  | _ => rw [ha] at this;exact this
theorem Wf.congr {σ' : St} (h : Wf C D σ) (he : ∀ k,σ'.get k = σ.get k) : Wf C D σ' where
 tags k e tag hk ht:=by rw [he] at hk;exact h.tags k e tag hk ht
 dom k e h0 tag hk ht:=by rw [he] at hk;rw [he];exact h.dom k e h0 tag hk ht
 paths k e s b hk hm:=by
  rw [he] at hk;obtain ⟨q1,q,c,x,q2⟩:=h.paths k e s b hk hm;exact ⟨q1,q,c,x,by rw [he];exact q2⟩
theorem Rel.freezes (hG : Good P C.tab) : ∀ (ws : List (Key × Ent)) (σ : St) (γ : Key → Option Nat),Rel C.tab fr tm w σ γ → Wf C D σ →
  (∀ k e,(k,e) ∈ ws → ∃ c xs,e = top (.t c (.l xs)) ∧ ((∃ tag,σ.get k = some ⟨[],.own c tag xs⟩) ∨ σ.get k = some e)) →
  ∃ γ',Rel C.tab fr tm w (σ.puts ws) γ' ∧ Wf C D (σ.puts ws) ∧ (∀ k,(∀ e,(k,e) ∉ ws) → (σ.puts ws).get k = σ.get k ∧ γ' k = γ k) ∧ (∀ k b,γ' k = some b → γ k = some b) ∧
   (∀ k e,(k,e) ∈ ws → (σ.puts ws).get k = some e ∧ ((∃ c tag xs,σ.get k = some ⟨[],.own c tag xs⟩) → γ' k = none)):=by
 intro ws
 induction ws with
 | nil =>
  intro σ γ h hwf _;exact ⟨γ,h,hwf,fun k _ => ⟨rfl,rfl⟩,fun k b hb => hb,fun k e hm => by simp at hm⟩
 | cons x r ih =>
  intro σ γ h hwf hok;obtain ⟨k0,e0⟩:=x;obtain ⟨c,xs,rfl,hcase⟩:=hok k0 e0 (by simp);have first : ∃ γ1,Rel C.tab fr tm w (σ.put k0 (top (.t c (.l xs)))) γ1 ∧ Wf C D (σ.put k0 (top (.t c (.l xs)))) ∧ (∀ k,k ≠ k0 → γ1 k = γ k) ∧ (∀ k b,γ1 k = some b → γ k = some b) ∧
    ((∃ c tag xs,σ.get k0 = some ⟨[],.own c tag xs⟩) → γ1 k0 = none):=by
   rcases hcase with ⟨tag,hown⟩ | hsame
   ·obtain ⟨q1,q2⟩:=Rel.freeze hG h hwf hown
    refine ⟨_,q1,q2,fun k hk => O_ _ _ hk,fun k b hb => ?_,fun _ => a_e _ _ _⟩;unfold setG at hb;split at hb
    ·cases hb
    ·exact hb
   ·exact ⟨γ,h.congr (l_d hsame),hwf.congr (l_d hsame),fun _ _ => rfl,fun _ _ hb => hb,fun ⟨_,_,_,hh⟩ => by rw [hsame] at hh;cases hh⟩
  obtain ⟨γ1,h1,hwf1,hg1,hg2,hg3⟩:=first;obtain ⟨γ2,h2,hwf2,k1,k2,k3⟩:=ih (σ.put k0 (top (.t c (.l xs)))) γ1 h1 hwf1 (by
   intro k e hm;obtain ⟨c',xs',rfl,hc⟩:=hok k e (by simp [hm]);refine ⟨c',xs',rfl,?_⟩
   by_cases hk : k = k0
   ·subst hk
    rw [j_]
    rcases hc with ⟨tag',hc⟩ | hc <;> rcases hcase with ⟨tag,hcase⟩ | hcase <;> rw [hcase] at hc <;> simp [top] at hc ⊢
    ·exact ⟨hc.1,hc.2.2⟩
    ·exact hc
   ·rw [m_ hk]
    exact hc)
  refine ⟨γ2,h2,hwf2,fun k hk => ?_,fun k b hb => hg2 k b (k2 k b hb),fun k e hm => ?_⟩
  ·have hne : k ≠ k0:=fun q => hk (top (.t c (.l xs))) (by rw [q];simp)
   obtain ⟨q1,q2⟩:=k1 k (fun e hm => hk e (by simp [hm]));exact ⟨by rw [show σ.puts ((k0,top (.t c (.l xs))) :: r) = (σ.put k0 (top (.t c (.l xs)))).puts r from rfl,q1,m_ hne],by rw [q2,hg1 k hne]⟩
  ·by_cases hin : ∃ e',(k,e') ∈ r
   ·obtain ⟨e',hin⟩:=hin
    obtain ⟨q1,q2⟩:=k3 k e' hin;have hee : e = e' := by
     obtain ⟨c1,x1,rfl,hc1⟩:=hok k e hm;obtain ⟨c2,x2,rfl,hc2⟩:=hok k e' (by simp [hin])
     rcases hc1 with ⟨t1,hc1⟩ | hc1 <;> rcases hc2 with ⟨t2,hc2⟩ | hc2 <;> rw [hc1] at hc2 <;> simp [top] at hc2 ⊢
     ·exact ⟨hc2.1,hc2.2.2⟩
     ·exact hc2
    subst hee;refine ⟨q1,fun hh => ?_⟩
    by_cases hk : k = k0
    ·subst hk
     cases hb : γ2 k with
     | none => rfl
     | some b => have:=k2 k b hb;rw [hg3 hh] at this;cases this
    ·exact q2 (by rw [m_ hk];exact hh)
   ·have hk : k = k0 ∧ e = top (.t c (.l xs)):=by
     rcases List.mem_cons.1 hm with q | q
     ·simpa using q
     ·exact absurd ⟨e,q⟩ hin
    obtain ⟨rfl,rfl⟩:=hk;obtain ⟨q1,q2⟩:=k1 k (fun e' he' => hin ⟨e',he'⟩);refine ⟨by rw [show σ.puts ((k,top (.t c (.l xs))) :: r) = (σ.put k (top (.t c (.l xs)))).puts r from rfl,q1,j_],fun hh => by rw [q2,hg3 hh]⟩
end
section
variable {P : Program} {C : Ctx} {fr : Fr} {tm : Array Value} {w : World} {σ : St} {γ : Key → Option Nat} {D : Nat → Prop}
 (hG : Good P C.tab) (h : Rel C.tab fr tm w σ γ) (hwf : Wf C D σ) (hsz : tm.size = C.nt) {i : Nat} {o : Oper} {p : Path} (hp : σ.Holds p)
 (hpp : ∀ s b,(s,b) ∈ p → a_w C s = false ∧ ∃ q c x,σ.get (a_ s) = some ⟨q,.t c x⟩) {K : St → Prop} {Q : Exit → Act → World → Prop}
theorem Wf.mono {D' : Nat → Prop} (h : Wf C D σ) (hD : ∀ j,D j → D' j) : Wf C D' σ :=
 ⟨fun k e tag he hh => (h.tags k e tag he hh).imp id fun ⟨j,hj,e⟩ => ⟨j,hD j hj,e⟩,h.dom,h.paths⟩
theorem c_J : Old (fun j => D j ∨ j = i) (i + 1):=.inr ⟨i,.inr rfl,rfl⟩
theorem Old.mono {D' : Nat → Prop} {tag : Nat} (h : Old D tag) (hD : ∀ j,D j → D' j) : Old D' tag:=h.imp id fun ⟨j,hj,e⟩ => ⟨j,hD j hj,e⟩
def Bnd (tm : Array Value) (dflt : Int) (l : Int) : Option Operand → Prop
 | none => l = dflt
 | some x => ∃ k,ev tm x = .int k l
theorem l_6 (hG : Good P C.tab) (h : Rel C.tab fr tm w σ γ) (hwf : Wf C D σ) (hsz : tm.size = C.nt) {i : Nat} {o : Oper} {d : Nat} {p : Path} {a : AV} {v : Value} {Q : Exit → Act → World → Prop}
  {K : St → Prop} (hn : d < C.nt) (hdst : o.dst = some d) (habs : σ.get (a_ d) = none) (hp : σ.Holds p) (hpp : ∀ s b,(s,b) ∈ p → a_w C s = false ∧ ∃ q c x,σ.get (a_ s) = some ⟨q,.t c x⟩)
  (hrun : (execOp (Act.eval ⟨tm,[]⟩) o).run P w = .ok (.value v) w)
  (hhome : ∀ h tag,a.home = some (h,tag) → σ.get h ≠ none) (htag : ∀ tag,a.a_C = some tag → Old (fun j => D j ∨ j = i) tag)
  (hval : AVR C.tab w (Ob fr γ) σ (s_ tm w γ) (setG γ (a_ d) none) (a_ d) v a) (hK : K (σ.puts [(a_ d,⟨p,a⟩)])) :
  o.wp P ⟨tm,[]⟩ w (After C fr (fun j => D j ∨ j = i) K) Q:=by
 obtain ⟨h1,h2⟩:=Rel.f_k (D:=fun j => D j ∨ j = i) hG h (hwf.mono fun _ => .inl) (by rw [hsz];exact hn) habs hpp hhome htag (fun _ => hval) (fun q => absurd hp q);exact a_1 hrun hdst ⟨rfl,by simp [hsz],_,_,hK,h1,h2⟩
theorem b_E.sub {tab : Tab} {O : Nat → Prop} {c : TypeId} {v : Value} {xs : List T} (ho : b_E tab w O c v xs) : Sub tab c v v 0 xs.length xs.length:=by
 obtain ⟨ti,e,ce,te,a,cap,h1,h2,h3,hp,hv,hcap,hm,hnone,hel⟩:=ho;refine ⟨ti,e,ce,te,a,cap,a,cap,h1,h2,h3,hv,hv,by omega,hcap,Nat.le_refl _,fun _ => ⟨rfl,rfl⟩,id,fun hpos => ?_⟩;obtain ⟨b,hb,-⟩:=hel 0 _ (List.getElem?_eq_getElem hpos);exact ⟨b,hb,by rw [hb];simp [Addr.add]⟩
theorem Sub.cut {tab : Tab} {c : TypeId} {hv : Value} {a0 a' : Option Go.Addr} {off len n cap0 l len' : Nat} (hs : Sub tab c hv (.slice a0 len cap0) off len n) {ti : TI} {e ce : TypeId} {te : TI}
  (hc : tab.at c = some (c,ti)) (hk : ti.k = .sl e) (he : tab.at e = some (ce,te)) (hle : l + len' ≤ len) (h1 : a' = none ↔ a0 = none) (h2 : l = 0 → a' = a0)
  (h3 : 0 < len' → ∀ b,a0 = some b → a' = some (b.add (l * te.cells))) : Sub tab c hv (.slice a' len' (cap0 - l)) (off + l) len' n:=by
 obtain ⟨ti',e',ce',te',a1,cap1,a2,cap',k1,k2,k3,k4,k5,k6,k7,k8,k9,k10,k11⟩:=hs;have e1:=e_ hc k1;simp only [Prod.mk.injEq,true_and] at e1;subst e1;rw [hk] at k2;simp only [K.sl.injEq] at k2;subst k2;have e2:=e_ he k3;simp only [Prod.mk.injEq] at e2;obtain ⟨rfl,rfl⟩:=e2;simp only [Value.slice.injEq,true_and] at k5;obtain ⟨rfl,rfl⟩:=k5;refine ⟨ti,e,ce,te,a1,cap1,a',cap0 - l,hc,hk,he,k4,rfl,by omega,by omega,by omega,fun q => ?_,fun q => k10 (h1.1 q),fun q => ?_⟩
 ·obtain ⟨q1,q2⟩:=k9 (by omega)
  have hl : l = 0:=by omega
  exact ⟨(h2 hl).trans q1,by omega⟩
 ·obtain ⟨b,hb1,hb2⟩:=k11 (by omega)
  refine ⟨b,hb1,?_⟩;rw [h3 q _ hb2,f_0,Nat.add_mul]
include hG h hwf hsz hp hpp
omit hwf hsz hpp in
theorem c_K (x : Option Operand) (dflt : Int) {f : Int → R} {motive : a_o → Prop} (hbad : motive .bad)
  (hok : ∀ l,Bnd tm dflt l x → motive ((f l).run σ)) : motive ((f_y C p x dflt f).run σ):=by
 cases x with
 | none => exact hok dflt rfl
 | some x =>
  simp only [f_y];refine a_F hG h p hp x 3 hbad fun c v hv => ?_
  split
  ·rename_i k hk
   exact hok v.int ⟨k,(hv.int hk).1⟩
  ·exact hbad
omit hG h hwf hsz hp hpp in
theorem i_q {x : Option Operand} {dflt l : Int} (h : Bnd tm dflt l x) :
  match x.map (Act.eval ⟨tm,[]⟩) with | none => l = dflt | some v => ∃ k,v = .int k l:=by
 cases x with
 | none => exact h
 | some x => exact h
omit hG h hwf hsz hp hpp in
theorem e_s {x : Operand} (hz : c_7 (some x) = true) : ∃ k,ev tm x = .int k 0:=by
 cases x with
 | const v =>
  cases v with
  | int k n =>
   cases n with
   | ofNat m =>
    simp only [c_7] at hz
    have:=Nat.eq_of_beq_eq_true hz
    subst this;exact ⟨k,rfl⟩
   | negSucc m => simp [c_7] at hz
  | _ => simp [c_7] at hz
 | _ => simp [c_7] at hz
omit hG h hwf hsz hp hpp in
theorem i_O {x : Option Operand} {l : Int} (hz : c_7 x = true) (h : Bnd tm 0 l x) : l = 0:=by
 cases x with
 | none => exact h
 | some x =>
  obtain ⟨k,hk⟩:=e_s (tm:=tm) hz;obtain ⟨k',hk'⟩:=h;rw [hk] at hk';simp only [Value.int.injEq] at hk';exact hk'.2.symm
theorem j_h {xt : TypeId} {x : Operand} {lo hi mx : Option Operand} (ho : o.op = .slice xt x lo hi mx) : Sound P C fr tm w σ D i o p K Q ((c_H C i p o xt x lo hi mx).run σ):=by
 unfold c_H;split
 ·exact b_
 ·rename_i e hel
  have hu:=hG.slice hel;refine o_ _ _ b_ fun d hd hn hv habs => ?_
  refine X_ hG h p hp x xt b_ fun ko a hx => ?_
  have hrun : ∀ v,(Instr.sliceAt xt (ev tm x) (lo.map (Act.eval ⟨tm,[]⟩)) (hi.map (Act.eval ⟨tm,[]⟩)) (mx.map (Act.eval ⟨tm,[]⟩))).run P w = .ok v w → (execOp (Act.eval ⟨tm,[]⟩) o).run P w = .ok (.value v) w:=by
   intro v hv;unfold ev at hv;simp only [execOp,ho];rw [Sem.run_bind,hv];rfl
  have elem : ∀ {c : TypeId} {e' : TypeId},C.el c = some e' → Nat.beq e e' = true → ∀ {ti : TI},C.tab.at c = some (c,ti) → ti.k = .sl e:=by
   intro c e' he' hee ti hc
   have:=Nat.eq_of_beq_eq_true hee
   subst this;obtain ⟨c',ti',r1,r2⟩:=i_E he'
   have:=e_ hc r1
   simp only [Prod.mk.injEq] at this;rw [this.2];exact r2
  cases mx with
  | some m =>
   simp only;split
   ·rename_i hi' hz1 hz2 hz3
    obtain ⟨k1,ek1⟩:=e_s (tm:=tm) hz2;obtain ⟨k2,ek2⟩:=e_s (tm:=tm) hz3
    have tree : ∀ (c : TypeId) (v : T),V C.tab w (Ob fr γ) c (ev tm x) v → Sound P C fr tm w σ D i o [] K Q ((match C.el c with
      | some e' => match Nat.beq e e' with
       | true => okR [(a_ d,top (.own c (i + 1) []))]
       | false => badR
      | none => badR).run σ):=by
     intro c v hV;split
     ·rename_i e' he'
      split
      ·rename_i hee
       obtain ⟨ti,hc,hkc⟩:=V_at hV he';have hkc' := elem he' hee hc;rw [hkc] at hkc';simp only [Go.Pl.K.sl.injEq] at hkc';subst hkc';obtain ⟨-,hS,-⟩:=e_N hG hc hkc hV;obtain ⟨ti',e2,ce2,te2,a2,cap,q1,q2,q3,q4,q5,q6,q7,q8,q9⟩:=hS
       have:=e_ hc q1
       simp only [Prod.mk.injEq,true_and] at this;subst this;rw [hkc] at q2;simp only [Go.Pl.K.sl.injEq] at q2;subst q2;obtain ⟨inf,hinf,hisz,-⟩:=hG.size q3;intro hW
       have hlo : match lo.map (Act.eval ⟨tm,[]⟩) with | none => True | some v => ∃ k,v = .int k 0:=by
        cases lo with
        | none => trivial
        | some l => exact e_s (tm:=tm) hz1
       have hr:=m_c (w:=w) hu hinf a2 v.list.length cap (lo.map (Act.eval ⟨tm,[]⟩)) k1 k2 hlo;unfold ev at ek1 ek2;refine l_6 (a:=.own c (i + 1) []) hG h hwf hsz hn hd habs (p:=[]) trivial (fun _ _ hm => by simp at hm) (v:=.slice a2 0 0) (hrun _ ?_) (fun _ _ hh => by cases hh) ?_ ?_ hW
       ·rw [q5]
        simp only [Option.map_some,ek1,ek2];exact hr
       ·intro tag hh
        simp only [AV.a_C,Option.some.injEq] at hh;subst hh;exact c_J
       ·refine ⟨ti,_,ce2,te2,hc,hkc,q3,q4,.inl ⟨a_e _ _ _,rfl,a2,rfl⟩⟩
      ·exact b_
     ·exact b_
    cases hx with
    | const c y _ hV => exact tree c y hV
    | nil => exact b_
    | tmp s e' hx he hsub hav =>
     cases hav' : e'.av with
     | t c y =>
      rw [hav'] at hav;exact tree c y hav
     | _ => exact b_
   ·exact b_
  | none =>
   simp only;have cut : ∀ {c : TypeId} {ti : TI} {ce : TypeId} {te : TI} (a : Option Go.Addr) (len cap : Nat),C.tab.at c = some (c,ti) → C.tab.at e = some (ce,te) → ev tm x = .slice a len cap → len ≤ cap →
     ∀ l hh : Int,Bnd tm 0 l lo → Bnd tm (len : Int) hh hi →
     0 ≤ l → l ≤ hh → hh ≤ len → ∃ a',(execOp (Act.eval ⟨tm,[]⟩) o).run P w = .ok (.value (.slice a' (hh - l).toNat (cap - l.toNat))) w ∧ (a' = none ↔ a = none) ∧ (l.toNat = 0 → a' = a) ∧
      (0 < (hh - l).toNat → ∀ b,a = some b → a' = some (b.add (l.toNat * te.cells))):=by
    intro c ti ce te a len cap hc hte hev hcap l hh hlo hhi h0 h1 h2;obtain ⟨inf,hinf,hisz,-⟩:=hG.size hte;obtain ⟨a',r1,r2,r3,r4⟩:=m_b (w:=w) hu hinf a len cap _ _ l hh (i_q hlo) (i_q hhi) h0 h1 h2 hcap;refine ⟨a',hrun _ (by rw [hev];exact r1),r2,fun q => r3 (by omega),?_⟩;rw [← hisz];exact r4
   have tree : ∀ (c : TypeId) (v : T),V C.tab w (Ob fr γ) c (ev tm x) v → Sound P C fr tm w σ D i o p K Q ((match C.el c with
     | some e' => match Nat.beq e e' with
      | true => f_y C p lo 0 fun l => f_y C p hi (lenOf v.list) fun h =>
       updR (0 ≤ l ∧ l ≤ h ∧ h ≤ lenOf v.list) [(a_ d,⟨p,.t c (.l ((v.list.drop l.toNat).take (h - l).toNat))⟩)]
      | false => badR
     | none => badR).run σ):=by
    intro c v hV;split
    ·rename_i e' he'
     split
     ·rename_i hee
      obtain ⟨ti,hc,hkc⟩:=V_at hV he';have hkc' := elem he' hee hc;obtain ⟨-,hS,hO⟩:=e_N hG hc hkc' hV;obtain ⟨ti',e2,ce2,te2,a2,cap,q1,q2,q3,q4,q5,q6,q7,q8,q9⟩:=id hS
      have:=e_ hc q1
      simp only [Prod.mk.injEq,true_and] at this;subst this;rw [hkc'] at q2;simp only [Go.Pl.K.sl.injEq] at q2;subst q2;refine c_K hG h hp lo 0 b_ fun l hl => ?_
      refine c_K hG h hp hi _ b_ fun hh hhb => ?_
      intro hW;obtain ⟨⟨b0,b1,b2⟩,hK⟩ : (0 ≤ l ∧ l ≤ hh ∧ hh ≤ lenOf v.list) ∧ K (σ.puts [(a_ d,⟨p,.t c (.l ((v.list.drop l.toNat).take (hh - l).toNat))⟩)]):=⟨d_Q hW.1 hp,hW.2⟩;unfold lenOf at hhb b2;obtain ⟨a',r1,r2,r3,r4⟩:=cut a2 v.list.length cap hc q3 q5 q6 l hh hl hhb b0 b1 b2;have hsub:=(b_E.sub hS);have hsub' := hsub;rw [q5] at hsub';have hcut:=Sub.cut (l:=l.toNat) (len' := (hh - l).toNat) hsub' hc hkc' q3 (by omega) r2 r3 r4;rw [← q5,Nat.zero_add] at hcut;have hSS:=Sub.c_H hS hcut;refine b_X hG h hwf hsz hp hpp hn hd habs r1 (hSS.V hG (fun _ q => q) ?_) hK;intro a3 n3 cap3 ha3 hpos;simp only [Value.slice.injEq] at ha3;obtain ⟨rfl,rfl,-⟩:=ha3
      cases a2 with
      | none => simp at r2
      | some b =>
       have hlen : 0 < (hh - l).toNat:=by
        simp only [List.length_take,List.length_drop] at hpos;omega
       have:=r4 hlen b rfl
       simp only [Option.some.injEq] at this;rw [this,b_F];exact hO b _ _ q5 (by omega)
     ·exact b_
    ·exact b_
   cases hx with
   | const c y _ hV => exact tree c y hV
   | nil => exact b_
   | tmp s e' hx he hsub hav =>
    cases hav' : e'.av with
    | t c y =>
     rw [hav'] at hav;exact tree c y hav
    | alias h0 tag c off len =>
     rw [hav'] at hav;simp only;split
     ·rename_i e2 hel'
      split
      ·rename_i hee
       refine N_ h0 tag b_ fun c' xs hh => ?_
       obtain ⟨rfl,hSl,hv0,hval,hown,hsub'⟩:=a_y h hav hh;refine c_K hG h hp lo 0 b_ fun l hl => ?_
       refine c_K hG h hp hi _ b_ fun hb hhb => ?_
       intro hW
       obtain ⟨⟨b0,b1,b2⟩,hK⟩ : (0 ≤ l ∧ l ≤ hb ∧ hb ≤ (len : Int)) ∧ K (σ.puts [(a_ d,⟨p,.alias h0 tag c' (match c_7 lo with | true => off | false => off + l.toNat) (hb - l).toNat⟩)]):=⟨d_Q hW.1 hp,hW.2⟩;obtain ⟨ti,e3,ce,te,a1,cap1,a2,cap2,q1,q2,q3,q4,q5,q6,q7,q8,q9,q10,q11⟩:=id hsub';have hkc' := elem hel' hee q1;rw [q2] at hkc';simp only [Go.Pl.K.sl.injEq] at hkc';subst hkc';obtain ⟨a',r1,r2,r3,r4⟩:=cut a2 len cap2 q1 q3 q5 q7 l hb hl hhb b0 b1 b2;rw [q5] at hsub';have hcut:=Sub.cut (l:=l.toNat) (len' := (hb - l).toNat) hsub' q1 q2 q3 (by omega) r2 r3 r4
       have hoff : (match c_7 lo with | true => off | false => off + l.toNat) = off + l.toNat:=by
        split
        ·rename_i hz
         rw [i_O hz hl];rfl
        ·rfl
       rw [hoff] at hK;refine b_k (a:=.alias h0 tag c' (off + l.toNat) (hb - l).toNat) hG h hwf hsz hp hpp hn hd habs he r1 ?_ (by simp [hav',AV.home]) (by simp [hav',AV.a_C]) (by simp) (by simp) hK;intro c2 xs2 hb2;rw [hh] at hb2;simp only [Option.some.injEq,Ent.mk.injEq,AV.own.injEq,true_and] at hb2;obtain ⟨rfl,rfl⟩:=hb2;exact ⟨rfl,hv0,hval,hcut⟩
      ·exact b_
     ·exact b_
    | _ => exact b_
end
section
variable {P : Program} {C : Ctx} {fr : Fr} {tm : Array Value} {w : World} {σ : St} {γ : Key → Option Nat} {D : Nat → Prop}
def Frz (σ : St) (ws : List (Key × Ent)) : Prop:=∀ k e,(k,e) ∈ ws → ∃ c xs tag,e = top (.t c (.l xs)) ∧ σ.get k = some ⟨[],.own c tag xs⟩
theorem Frz.nil : Frz σ []:=fun k e hm => by simp at hm
theorem Frz.append {a b : List (Key × Ent)} (ha : Frz σ a) (hb : Frz σ b) : Frz σ (a ++ b):=fun k e hm => (List.mem_append.1 hm).elim (ha k e) (hb k e)
theorem Frz.one {k : Key} {c : TypeId} {tag : Nat} {xs : List T} (h : σ.get k = some ⟨[],.own c tag xs⟩) : Frz σ [(k,top (.t c (.l xs)))]:=by
 intro k' e hm;simp only [List.mem_singleton,Prod.mk.injEq] at hm;obtain ⟨rfl,rfl⟩:=hm;exact ⟨c,xs,tag,rfl,h⟩
def Free (γ : Key → Option Nat) (ws : List (Key × Ent)) (O' : Nat → Prop) : Prop:=∀ k e b,(k,e) ∈ ws → γ k = some b → ¬ O' b
theorem Free.left {a b : List (Key × Ent)} {O' : Nat → Prop} (h : Free γ (a ++ b) O') : Free γ a O' := fun k e b hm => h k e b (List.mem_append.2 (.inl hm))
theorem Free.right {a b : List (Key × Ent)} {O' : Nat → Prop} (h : Free γ (a ++ b) O') : Free γ b O' := fun k e b hm => h k e b (List.mem_append.2 (.inr hm))
theorem Rel.frz (hG : Good P C.tab) (h : Rel C.tab fr tm w σ γ) (hwf : Wf C D σ) {ws : List (Key × Ent)} (hf : Frz σ ws) :
  ∃ γ',Rel C.tab fr tm w (σ.puts ws) γ' ∧ Wf C D (σ.puts ws) ∧ (∀ k,(∀ c tag xs,σ.get k ≠ some ⟨[],.own c tag xs⟩) → (σ.puts ws).get k = σ.get k) ∧
   (∀ k,(∀ e,(k,e) ∉ ws) → (σ.puts ws).get k = σ.get k ∧ γ' k = γ k) ∧ (∀ b,Ob fr γ' b → Ob fr γ b) ∧ Free γ ws (Ob fr γ') ∧ (∀ k b,γ' k = some b → γ k = some b) ∧
   ∀ k e,(k,e) ∈ ws → (σ.puts ws).get k = some e:=by
 obtain ⟨γ',h1,h2,h3,h4,h5⟩:=Rel.freezes hG ws σ γ h hwf fun k e hm => by
  obtain ⟨c,xs,tag,he,hk⟩:=hf k e hm;exact ⟨c,xs,he,.inl ⟨tag,hk⟩⟩
 refine ⟨γ',h1,h2,fun k hk => (h3 k fun e hm => ?_).1,h3,fun b hb => ?_,fun k e b hm hb hO => ?_,h4,fun k e hm => (h5 k e hm).1⟩
 ·obtain ⟨c,xs,tag,-,hg⟩:=hf k e hm
  exact hk c tag xs hg
 ·rcases hb with hb | ⟨k,hb⟩
  ·exact .inl hb
  ·exact .inr ⟨k,h4 k b hb⟩
 ·obtain ⟨c,xs,tag,he,hk⟩:=hf k e hm
  have hnone:=(h5 k e hm).2 ⟨c,tag,xs,hk⟩
  rcases hO with hO | ⟨k',hO⟩
  ·exact (h.blk k b hb).2.1 hO
  ·have:=h.inj k' k b (h4 k' b hO) hb
   subst this;rw [hnone] at hO;cases hO
def f_F (tab : Tab) (w : World) (O : Nat → Prop) (γ : Key → Option Nat) (ws : List (Key × Ent)) (c : TypeId) (v : Value) (y : T) : Prop :=
 ∀ O' : Nat → Prop,(∀ b,O' b → O b) → Free γ ws O' → V tab w O' c v y
theorem d_k (hG : Good P C.tab) {O : Nat → Prop} {c e : TypeId} {ti : TI} {v : Value} (hv : v = .slice none 0 0) (hc : C.tab.at c = some (c,ti)) (hk : ti.k = .sl e) {g : Option Nat} (hg : g = none) :
  Own C.tab w O c v g []:=by
 obtain ⟨ce,te,he,hp,-,-⟩:=hG.elem hc hk;exact ⟨ti,e,ce,te,hc,hk,he,hp,.inl ⟨hg,rfl,none,hv⟩⟩
theorem d_v (hG : Good P C.tab) (h : Rel C.tab fr tm w σ γ) (p : Path) (hp : σ.Holds p) (x : Operand) (ty : TypeId) {k : TypeId → T → List (Key × Ent) → R} {motive : a_o → Prop}
  (hbad : motive .bad) (hok : ∀ c y ws,Frz σ ws → f_F C.tab w (Ob fr γ) γ ws c (ev tm x) y → motive ((k c y ws).run σ)) : motive ((asT C p x ty k).run σ):=by
 unfold asT;refine X_ hG h p hp x ty hbad fun ko a ho => ?_
 have plain : ∀ {c : TypeId} {y : T},V C.tab w (Ob fr γ) c (ev tm x) y → f_F C.tab w (Ob fr γ) γ [] c (ev tm x) y :=
  fun hv O' hO _ => hv.mono fun b _ hb => ⟨rfl,fun q => hb (hO b q)⟩
 cases ho with
 | const c y _ hv => exact hok c y [] Frz.nil (plain hv)
 | nil c e ti _ hx ht hc hk =>
  exact hok c (.l []) [] Frz.nil (fun O' hO _ => (d_k hG (O:=Ob fr γ) (g:=none) hx hc hk rfl).freeze hG hO fun b hb => by cases hb)
 | tmp s e hx he hsub hav =>
  cases hav' : e.av with
  | t c y =>
   rw [hav'] at hav;exact hok c y [] Frz.nil (plain hav)
  | own c tag xs =>
   rw [hav'] at hav;simp only;split
   ·rename_i key hk
    simp only [Option.some.injEq,Prod.mk.injEq] at hk;obtain ⟨rfl,hpath⟩:=hk;have hent : σ.get (a_ s) = some ⟨[],.own c tag xs⟩:=by rw [he,← hpath,← hav']
    exact hok c (.l xs) _ (Frz.one hent) (fun O' hO hF => Own.freeze hG hav hO fun b hb => hF _ _ b (List.mem_singleton.2 rfl) hb)
   ·exact hbad
   ·rename_i hk;cases hk
  | alias h0 tag c off len =>
   rw [hav'] at hav;refine N_ h0 tag hbad fun c' xs hh => ?_
   obtain ⟨rfl,hS,hv0,hval,hown,hsub'⟩:=a_y h hav hh;refine hok c' _ _ (Frz.one hh) (fun O' hO hF => hS.V hG hO ?_);intro a n cap hv hpos;have hlen : 0 < len:=by
    simp only [List.length_take,List.length_drop] at hpos;omega
   obtain ⟨ti,e1,ce,te,b,cap1,cap2,q1,q2,q3,q4,q5,q6,q7,q8⟩:=Sub.pos hown hsub' hlen;rw [q6] at hv;simp only [Value.slice.injEq,Option.some.injEq] at hv;rw [← hv.1];exact hF _ _ b (List.mem_singleton.2 rfl) q4
  | _ => exact hbad
inductive o_t (C : Ctx) (fr : Fr) (tm : Array Value) (w : World) (σ : St) (γ : Key → Option Nat) (v : Value) : Spot → Prop where
 | box (s c n : Nat) (cb : TypeId) (tag b : Nat) (hs : σ.get (a_ s) = some ⟨[],.box cb tag n⟩) (hb : γ (a_ s) = some b) (hv : v = .pointer (some ⟨b,c,none⟩)) : o_t C fr tm w σ γ v (.box s c n)
 | row (h0 : Key) (c : TypeId) (xs : List T) (tag i off b cap : Nat) (ti : TI) (e ce : TypeId) (te : TI) (hs : σ.get h0 = some ⟨[],.own c tag xs⟩) (hi : i < xs.length)
   (hval : s_ tm w γ h0 = some (.slice (some ⟨b,0,none⟩) xs.length cap)) (hc : C.tab.at c = some (c,ti)) (hk : ti.k = .sl e) (he : C.tab.at e = some (ce,te))
   (hb : γ h0 = some b) (hv : v = .pointer (some ⟨b,i * te.cells + off,none⟩)) : o_t C fr tm w σ γ v (.row h0 c xs tag i off)
 | tree (c : TypeId) (x : T) (off : Nat) (a : Go.Addr) (hv : v = .pointer (some (a.add off))) (ha : At C.tab w (Ob fr γ) c a x) : o_t C fr tm w σ γ v (.tree c x off)
theorem f_i (hG : Good P C.tab) (h : Rel C.tab fr tm w σ γ) (p : Path) (hp : σ.Holds p) (x : Operand) {f : Spot → R} {motive : a_o → Prop}
  (hbad : motive .bad) (hok : ∀ sp,o_t C fr tm w σ γ (ev tm x) sp → motive ((f sp).run σ)) : motive ((place C p x f).run σ):=by
 unfold place;refine X_ hG h p hp x 0 hbad fun ko a ho => ?_
 cases ho with
 | const c y _ hv => exact hbad
 | nil c e ti _ hx ht hc hk => exact hbad
 | tmp s e hx he hsub hav =>
  cases hav' : e.av with
  | ptr s' tag c =>
   rw [hav'] at hav;refine c_b c hbad fun hlt => ?_
   refine b_v s' tag hbad fun cb n hb => ?_
   obtain ⟨b,h1,h2⟩:=hav cb n hb;rw [g_I hlt] at h2;exact hok _ (.box s' c n cb tag b hb h1 h2)
  | box c tag n =>
   rw [hav'] at hav;simp only;split
   ·rename_i k hk
    simp only [Option.some.injEq,Prod.mk.injEq] at hk;obtain ⟨rfl,hpath⟩:=hk;have hent : σ.get (a_ s) = some ⟨[],.box c tag n⟩:=by rw [he,← hpath,← hav']
    obtain ⟨b,cs,ety,hb,hvv,-⟩:=hav;exact hok _ (.box s 0 n c tag b hent hb hvv)
   ·exact hbad
  | eptr h0 tag i c =>
   rw [hav'] at hav;refine N_ h0 tag hbad fun c' xs hh => ?_
   obtain ⟨hi,b,cap,ti,e1,ce,te,h1,h2,h3,h4,h5⟩:=hav c' xs hh;obtain ⟨v0,hv0,hr,-⟩:=h.ent h0 _ hh;rw [h1] at hv0;simp only [Option.some.injEq] at hv0;subst hv0;have ho : Own C.tab w (Ob fr γ) c' _ (γ h0) xs:=hr trivial;obtain ⟨_,_,_,_,_,_,_,_,ho⟩:=ho
   rcases ho with ⟨-,rfl,-⟩ | ⟨b',cap',cs,hg,hv',-⟩
   ·simp at hi
   ·simp only [Value.slice.injEq,Option.some.injEq,Addr.mk.injEq,true_and,and_true] at hv'
    refine hok _ (.row h0 c' xs tag i c b cap ti e1 ce te hh hi h1 h2 h3 h4 ?_ h5);rw [hg,hv'.1]
  | pl c y off =>
   rw [hav'] at hav;obtain ⟨a,h1,h2⟩:=hav;exact hok _ (.tree c y off a h1 h2)
  | _ => exact hbad
theorem j_W (s : Nat) : ∀ (n c : Nat) (tys : List TypeId) {k : List T → List (Key × Ent) → R} {motive : a_o → Prop} (_ : motive .bad)
  (_ : ∀ l ws,l.length = n → tys.length = n → Frz σ ws → (∀ (j : Nat) y ty,l[j]? = some y → tys[j]? = some ty →
   σ.get (cell s (c + j)) = some (top (.t ty y)) ∨ ((cell s (c + j),top (.t ty y)) ∈ ws)) → (∀ k e,(k,e) ∈ ws → ∃ j,k = cell s j) → motive ((k l ws).run σ)),motive ((gather s c n tys k).run σ):=by
 intro n
 induction n with
 | zero =>
  intro c tys k motive hbad hok
  cases tys with
  | nil => exact hok [] [] rfl rfl Frz.nil (fun j y ty hy => by simp at hy) (fun k e hm => by simp at hm)
  | cons t r => exact hbad
 | succ n ih =>
  intro c tys k motive hbad hok
  cases tys with
  | nil => exact hbad
  | cons ty tys =>
   simp only [gather,Rd.run];split
   ·rename_i c' x he
    split
    ·rename_i hc
     have:=Nat.eq_of_beq_eq_true hc
     subst this;refine ih (c + 1) tys hbad fun l ws h1 h2 h3 h4 h5 => hok (x :: l) ws (by simp [h1]) (by simp [h2]) h3 (fun j y ty hy ht => ?_) h5
     cases j with
     | zero =>
      simp at hy ht;subst hy;subst ht;exact .inl he
     | succ j =>
      simp at hy ht
      have:=h4 j y ty hy ht
      rw [show c + (j + 1) = c + 1 + j by omega];exact this
    ·exact hbad
   ·rename_i c' tag xs he
    split
    ·rename_i hc
     have:=Nat.eq_of_beq_eq_true hc
     subst this;refine ih (c + 1) tys hbad fun l ws h1 h2 h3 h4 h5 => hok (.l xs :: l) _ (by simp [h1]) (by simp [h2]) (fun k e hm => ?_) (fun j y ty hy ht => ?_) (fun k e hm => ?_)
     ·rcases List.mem_cons.1 hm with hm | hm
      ·exact Frz.one he k e (by simpa using hm)
      ·exact h3 k e hm
     ·cases j with
      | zero =>
       simp at hy ht;subst hy;subst ht;exact .inr (by simp)
      | succ j =>
       simp at hy ht;rw [show c + (j + 1) = c + 1 + j by omega];exact (h4 j y ty hy ht).imp id fun q => by simp [q]
     ·rcases List.mem_cons.1 hm with hm | hm
      ·simp only [Prod.mk.injEq] at hm
       exact ⟨c,hm.1⟩
      ·exact h5 k e hm
    ·exact hbad
   ·exact hbad
end
section
variable {P : Program} {C : Ctx} {fr : Fr} {tm : Array Value} {w : World} {σ : St} {γ : Key → Option Nat} {D : Nat → Prop}
 (hG : Good P C.tab) (h : Rel C.tab fr tm w σ γ) (hwf : Wf C D σ) (hsz : tm.size = C.nt) {i : Nat} {o : Oper} {p : Path} (hp : σ.Holds p)
 (hpp : ∀ s b,(s,b) ∈ p → a_w C s = false ∧ ∃ q c x,σ.get (a_ s) = some ⟨q,.t c x⟩) {K : St → Prop} {Q : Exit → Act → World → Prop}
theorem k_T {σ' : St} (hk : ∀ k,(∀ c tag xs,σ.get k ≠ some ⟨[],.own c tag xs⟩) → σ'.get k = σ.get k) (hp : σ.Holds p)
  (hpp : ∀ s b,(s,b) ∈ p → a_w C s = false ∧ ∃ q c x,σ.get (a_ s) = some ⟨q,.t c x⟩) :
  σ'.Holds p ∧ ∀ s b,(s,b) ∈ p → a_w C s = false ∧ ∃ q c x,σ'.get (a_ s) = some ⟨q,.t c x⟩:=by
 have hs : ∀ s b,(s,b) ∈ p → σ'.get (a_ s) = σ.get (a_ s):=fun s b hm => hk _ fun c tag xs hh => by
  obtain ⟨-,q,c',x,h2⟩:=hpp s b hm;rw [h2] at hh;cases hh
 refine ⟨(b_q p hs).2 hp,fun s b hm => ?_⟩;obtain ⟨h1,q,c,x,h2⟩:=hpp s b hm;exact ⟨h1,q,c,x,by rw [hs s b hm];exact h2⟩
theorem g_E {c0 : TypeId} {x : T} {off : Nat} {ty : TypeId} {k : TypeId → T → R} {motive : a_o → Prop} (hbad : motive .bad)
  (hok : ∀ r t0 ct ti,C.tab.at c0 = some (r,t0) → C.tab.at ty = some (ct,ti) → ((t0.lv c0).drop off).take ti.cells = ti.lv ct →
   motive ((k ct (match ti.isS with | true => x.part off ti.cells | false => x.cell off)).run σ)) : motive ((k_9 C c0 x off ty k).run σ):=by
 unfold k_9;split
 ·rename_i r t0 h0
  split
  ·rename_i ct ti h1
   split
   ·rename_i hs
    have:=hok r t0 ct ti h0 h1 (c_1 hs)
    cases hS : ti.isS with
    | true => rw [hS] at this;exact this
    | false => rw [hS] at this;exact this
   ·exact hbad
  ·exact hbad
 ·exact hbad
theorem i_Z (hG : Good P C.tab) {O : Nat → Prop} {c0 ct ty : TypeId} {t0 ti : TI} {x : T} {off : Nat} (h0 : C.tab.at c0 = some (c0,t0)) (hc : C.tab.at ty = some (ct,ti))
  (hlen : x.leaves.length = t0.cells) (hs : ((t0.lv c0).drop off).take ti.cells = ti.lv ct) (a : Go.Addr)
  (hrd : ∀ (j : Nat) y ty,x.leaves[j]? = some y → (t0.lv c0)[j]? = some ty → ∃ u,w.cell? (a.add j) = some u ∧ L C.tab w O ty u y) :
  ∃ v,(Instr.loadAt ty (.pointer (some (a.add off)))).run P w = .ok v w ∧ V C.tab w O ct v (match ti.isS with | true => x.part off ti.cells | false => x.cell off):=by
 have hl0:=(hG c0 c0 t0 h0).len;have hself:=(hG _ _ _ hc).self;have hrd' : ∀ (j : Nat) y ty,x.leaves[j]? = some y → (t0.lv c0)[j]? = some ty → L C.tab w O ty ((w.cell? (a.add j)).getD undef) y:=by
  intro j y ty hy ht;obtain ⟨u,hu,hl⟩:=hrd j y ty hy ht;rw [hu];exact hl
 obtain ⟨hle,hA,hB⟩:=u_e hG h0 hself hlen hs (fun j => (w.cell? (a.add j)).getD undef) hrd';have hcell : ∀ j,j < ti.cells → w.cell? ((a.add off).add j) = some ((w.cell? (a.add (off + j))).getD undef):=by
  intro j hj;have h1 : off + j < x.leaves.length:=by omega
  have h2 : off + j < (t0.lv c0).length:=by omega
  obtain ⟨u,hu,-⟩:=hrd (off + j) _ _ (List.getElem?_eq_getElem h1) (List.getElem?_eq_getElem h2);rw [f_0,hu];rfl
 refine ⟨_,c_d hG hc (a.add off) _ hcell,?_⟩
 cases hS : ti.isS with
 | true => exact hA hS
 | false => exact hB hS
theorem k_6 {O : Nat → Prop} {c : TypeId} {hv : Value} {g : Option Nat} {xs : List T} {b j : Nat} {ti : TI} {e ce : TypeId} {te : TI} (ho : Own C.tab w O c hv g xs) (hg : g = some b) (hj : j < xs.length)
  (hc : C.tab.at c = some (c,ti)) (hk : ti.k = .sl e) (he : C.tab.at e = some (ce,te)) :
  (xs.getD j .u).isG = te.isS ∧ (xs.getD j .u).leaves.length = te.cells ∧ ∀ (n : Nat) y ty,(xs.getD j .u).leaves[n]? = some y → (te.lv ce)[n]? = some ty →
   ∃ u,w.cell? ((⟨b,j * te.cells,none⟩ : Go.Addr).add n) = some u ∧ L C.tab w O ty u y:=by
 obtain ⟨ti',e',ce',te',h1,h2,h3,hp,ho⟩:=ho;have e1:=e_ hc h1;simp only [Prod.mk.injEq,true_and] at e1;subst e1;rw [hk] at h2;simp only [Go.Pl.K.sl.injEq] at h2;subst h2;have e2:=e_ he h3;simp only [Prod.mk.injEq] at e2;obtain ⟨rfl,rfl⟩:=e2
 rcases ho with ⟨-,rfl,-⟩ | ⟨b',cap,cs,hgb,hv',hh,hcap,hm,hsz,hel⟩
 ·simp at hj
 ·rw [hg] at hgb
  simp only [Option.some.injEq] at hgb;subst hgb;obtain ⟨k1,k2,k3⟩:=hel j _ (h_Q hj);refine ⟨k1,k2,fun n y ty hy ht => ?_⟩;obtain ⟨u,hu,hl⟩:=k3 n y ty hy ht;exact ⟨u,by rw [a_I,w_ hh];exact hu,hl⟩
include hG h hwf hsz hp hpp
theorem j_8 {ty : TypeId} {a : Operand} (ho : o.op = .load ty a) : Sound P C fr tm w σ D i o p K Q ((r_3 C p o ty a).run σ):=by
 unfold r_3;refine o_ _ _ b_ fun d hd hn hv habs => ?_
 refine f_i hG h p hp a b_ fun sp hsp => ?_
 have hrun : ∀ v,(Instr.loadAt ty (ev tm a)).run P w = .ok v w → (execOp (Act.eval ⟨tm,[]⟩) o).run P w = .ok (.value v) w:=by
  intro v hv;unfold ev at hv;simp only [execOp,ho];rw [Sem.run_bind,hv];rfl
 cases hsp with
 | box s c n cb tag b hs hb hev =>
  simp only;split
  ·rename_i ct ti hty
   have hself:=(hG _ _ _ hty).self;have hlen:=(hG _ _ _ hself).len;split
   ·rename_i hS
    have hlv : ti.lv ct = ti.leaves:=by
     unfold TI.lv;unfold TI.isS at hS;split
     ·rfl
     ·rename_i hno
      split at hS
      ·rename_i hk;exact absurd hk (hno _)
      ·cases hS
    refine j_W s _ _ _ b_ fun l ws h1 h2 hf hcells hkeys => ?_
    intro hW;obtain ⟨γ',r1,r2,r3,r4,r5,r6,r7,r8⟩:=Rel.frz hG h hwf hf;obtain ⟨hp',hpp'⟩:=k_T r3 hp hpp;have hγs : γ' (a_ s) = some b:=by
     rw [(r4 (a_ s) fun e hm => ?_).2,hb];obtain ⟨j,hj⟩:=hkeys _ _ hm;exact f_ hj
    have hcell : ∀ (j : Nat) y t,l[j]? = some y → ti.leaves[j]? = some t → ∃ u,w.cell? ((⟨b,c,none⟩ : Go.Addr).add j) = some u ∧ L C.tab w (Ob fr γ') t u y:=by
     intro j y t hy ht;have hg : (σ.puts ws).get (cell s (c + j)) = some (top (.t t y)):=by
      rcases hcells j y t hy ht with q | q
      ·rw [r3 _ fun c' tag' xs' q' => by rw [q] at q';cases q'];exact q
      ·exact r8 _ _ q
     obtain ⟨v,hv',hr,-⟩:=r1.ent _ _ hg;have hVt : V C.tab w (Ob fr γ') t v y:=hr trivial;obtain ⟨t1,ht1,hs1⟩:=(hG _ _ _ hself).leaf t (by rw [hlv];exact List.mem_of_getElem? ht);refine ⟨v,?_,(b_Q ht1 hs1 hVt).1⟩;simp only [s_,cell,hγs,Option.bind_some] at hv';rw [a_I];exact hv'
    have hld:=c_d (w:=w) hG hty ⟨b,c,none⟩ (fun j => (w.cell? ((⟨b,c,none⟩ : Go.Addr).add j)).getD undef) (fun j hj => by
     obtain ⟨u,hu,-⟩:=hcell j (l[j]'(by omega)) (ti.leaves[j]'(by omega)) (by simp) (by simp);rw [hu];rfl)
    rw [hS] at hld;have hVg : V C.tab w (Ob fr γ') ct (.agg ((List.range ti.cells).map fun j => (w.cell? ((⟨b,c,none⟩ : Go.Addr).add j)).getD undef).toArray) (.g l):=by
     refine ⟨ti,hself,by rw [hS];rfl,by rw [hS];rfl,by simp [Value.cells],by simp [T.leaves,h1],fun j y t hy ht => ?_⟩;rw [hlv] at ht;obtain ⟨u,hu,hL⟩:=hcell j y t hy ht;have hj : j < ti.cells:=by rw [← h2];exact (List.getElem?_eq_some_iff.1 ht).1
     exact ⟨u,by simp [Value.cells,hj,hu],hL⟩
    refine b_X hG r1 r2 hsz hp' hpp' hn hd (by rw [r3 _ fun c' tag' xs' q' => by rw [habs] at q';cases q'];exact habs) (hrun _ (by rw [hev];exact hld)) hVg ?_;rw [← B_];exact hW
   ·rename_i hS
    have scal : ∀ v,w.cell? ⟨b,c,none⟩ = some v → (Instr.loadAt ty (ev tm a)).run P w = .ok v w:=by
     intro v hv';have h1:=U_ hG hself hS
     have:=c_d (w:=w) hG hty ⟨b,c,none⟩ (fun _ => v) (fun j hj => by
      have : j = 0:=by omega
      subst this;rw [a_I];exact hv')
     rw [hS] at this;rw [hev];exact this
    simp only [Rd.run];split
    ·rename_i c' x he
     split
     ·rename_i hc
      have:=Nat.eq_of_beq_eq_true hc
      subst this;intro hW;obtain ⟨v,hv',hr,-⟩:=h.ent _ _ he;simp only [s_,cell,hb,Option.bind_some] at hv';exact b_X hG h hwf hsz hp hpp hn hd habs (hrun _ (scal v hv')) (hr trivial) hW
     ·exact b_
    ·rename_i c' tag' xs he
     split
     ·rename_i hc
      have:=Nat.eq_of_beq_eq_true hc
      subst this;intro hW;obtain ⟨v,hv',hr,-⟩:=h.ent _ _ he;have hv2:=hv';simp only [s_,cell,hb,Option.bind_some] at hv';refine a_P (a:=.alias (cell s c) tag' c' 0 xs.length) hG h hwf hsz hn hd habs hp hpp (hrun _ (scal v hv')) ?_ ?_ ?_ hW
      ·intro h0 tag0 hh
       simp only [AV.home,Option.some.injEq,Prod.mk.injEq] at hh;obtain ⟨rfl,rfl⟩:=hh;rw [he];simp
      ·intro tag0 hh
       exact hwf.tags _ _ tag0 he (by exact hh)
      ·exact e_O (k' := a_ d) h he hv2
     ·exact b_
    ·exact b_
  ·exact b_
 | row h0 c xs tag j off b cap ti e ce te hs hi hval hc hk he hb hev =>
  simp only;split
  ·rename_i e' hel
   have hee : e' = e:=by
    obtain ⟨c',ti',r1,r2⟩:=i_E hel
    have:=e_ hc r1
    simp only [Prod.mk.injEq] at this;rw [← this.2,hk] at r2;simp only [Go.Pl.K.sl.injEq] at r2;exact r2.symm
   subst hee;split
   ·rename_i ce' te' he'
    have:=e_ he he'
    simp only [Prod.mk.injEq] at this;obtain ⟨rfl,rfl⟩:=this;refine g_E b_ fun r t0 ct t1 q0 q1 q2 => ?_
    have hce:=(hG _ _ _ he).self
    have:=e_ hce q0
    simp only [Prod.mk.injEq] at this;obtain ⟨rfl,rfl⟩:=this;intro hW;obtain ⟨v0,hv0,hr,-⟩:=h.ent h0 _ hs;obtain ⟨k1,k2,k3⟩:=k_6 (hr trivial) hb hi hc hk he;obtain ⟨v,hv1,hv2⟩:=i_Z hG (O:=Ob fr γ) hce q1 k2 q2 _ k3;rw [a_I,← hev] at hv1;exact b_X hG h hwf hsz hp hpp hn hd habs (hrun _ hv1) hv2 hW
   ·exact b_
  ·exact b_
 | tree c x off a' hev hat =>
  simp only;obtain ⟨t0',k0,k1,k2,k3,k4⟩:=hat
  refine g_E b_ fun r t0 ct t1 q0 q1 q2 => ?_
  have:=e_ k0 q0
  simp only [Prod.mk.injEq] at this;obtain ⟨rfl,rfl⟩:=this;intro hW;obtain ⟨v,hv1,hv2⟩:=i_Z hG (O:=Ob fr γ) k0 q1 k2 q2 a' k4;rw [← hev] at hv1;exact b_X hG h hwf hsz hp hpp hn hd habs (hrun _ hv1) hv2 hW
end
section
variable {P : Program} {C : Ctx} {fr : Fr} {tm tm' : Array Value} {w w' : World} {σ : St} {γ γ' : Key → Option Nat} {D : Nat → Prop}
theorem a_S {k : Key} (h0 : k.tag ≠ 1 → tm'[k.a]? = tm[k.a]?) (h1 : k.tag = 1 → γ' (a_ k.a) = γ (a_ k.a) ∧ ∀ b,γ (a_ k.a) = some b → w'.cell? ⟨b,k.b,none⟩ = w.cell? ⟨b,k.b,none⟩) :
  s_ tm' w' γ' k = s_ tm w γ k:=by
 obtain ⟨t,a,b⟩:=k;unfold s_
 match t with
 | 0 => simp only at h0 ⊢;rw [h0 (by simp)]
 | 1 =>
  obtain ⟨q1,q2⟩:=h1 rfl;simp only at q1 q2 ⊢;rw [q1]
  cases hb : γ (a_ a) with
  | none => rfl
  | some b' => simp only [Option.bind_some];exact q2 b' hb
 | 2 => simp only at h0 ⊢;rw [h0 (by simp)]
 | n + 3 => rfl
def b_S (σ : St) (k : Key) : Prop:=∃ c tag xs,σ.get k = some ⟨[],.own c tag xs⟩
theorem a_0 (h : Rel C.tab fr tm w σ γ) {k : Key} {e : Ent} (hk : σ.get k = some e) (ht : k.tag = 1) : k = cell k.a k.b ∧ ∃ c tag m,σ.get (a_ k.a) = some ⟨[],.box c tag m⟩:=by
 obtain ⟨t,a,b⟩:=k;simp only at ht;subst ht;exact ⟨rfl,h.cel a b e hk⟩
theorem c_R (h : Rel C.tab fr tm w σ γ) {k : Key} {e : Ent} (hk : σ.get k = some e) (ht : k.tag = 2) : k = comp k.a k.b ∧ ∃ q m,σ.get (a_ k.a) = some ⟨q,.tup m⟩:=by
 obtain ⟨t,a,b⟩:=k;simp only at ht;subst ht;exact ⟨rfl,h.cmp a b e hk⟩
theorem Rel.give (hG : Good P C.tab) (h : Rel C.tab fr tm w σ γ) (hwf : Wf C D σ) {i : Nat} (hi : ¬ D i) (Bx : Key → Prop) {kt ks : Key} {av : AV} {v : Value} {g : Option Nat}
  (hos : w'.os = w.os) (htape : w'.tape = w.tape) (hout : w'.output = w.output) (hsize : w'.heap.size = w.heap.size)
  (hblocks : ∀ b,(∀ k,Bx k → γ k ≠ some b) → w'.heap[b]? = w.heap[b]?)
  (hbx : ∀ k,Bx k → k ≠ kt ∧ k ≠ ks ∧ ∃ c tag n,σ.get k = some ⟨[],.box c tag n⟩ ∧ ∀ b cs ety,γ k = some b → w.heap[b]? = some (.cells cs ety (0,0)) → ∃ cs',w'.heap[b]? = some (.cells cs' ety (0,0)) ∧ cs'.size = cs.size)
  (hav : (∃ c y,av = .t c y ∧ g = none ∧ V C.tab w (Ob fr γ) c v y) ∨ (∃ c xs,av = .own c (i + 1) xs ∧ Own C.tab w (Ob fr γ) c v g xs))
  (hg : g = none ∨ (b_S σ ks ∧ g = γ ks)) (hks : ks = kt ∨ b_S σ ks)
  (hkt : ∀ s e,kt = a_ s → σ.get kt = some e → (∀ c tag n,e.av ≠ .box c tag n) ∧ (∀ n,e.av ≠ .tup n))
  (hkv : ∀ s,kt = a_ s → a_w C s = true ∨ σ.get (a_ s) = none)
  (hkc : kt.tag = 0 ∧ kt.b = 0 ∨ (kt.tag = 1 ∧ ∃ c tag m,σ.get (a_ kt.a) = some ⟨[],.box c tag m⟩))
  (hvt : s_ tm' w' (setG (setG γ ks none) kt g) kt = some v)
  (hval : ∀ k e,k ≠ kt → σ.get k = some e → s_ tm' w' (setG (setG γ ks none) kt g) k = s_ tm w γ k) :
  Rel C.tab fr tm' w' ((σ.put ks (top .u)).put kt (top av)) (setG (setG γ ks none) kt g) ∧ Wf C (fun j => D j ∨ j = i) ((σ.put ks (top .u)).put kt (top av)):=by
 have hget : ∀ k,k ≠ kt → k ≠ ks → ((σ.put ks (top .u)).put kt (top av)).get k = σ.get k:=fun k h1 h2 => by rw [m_ h1,m_ h2]
 have hgt : ((σ.put ks (top .u)).put kt (top av)).get kt = some (top av):=j_;have hgs : ks ≠ kt → ((σ.put ks (top .u)).put kt (top av)).get ks = some (top .u):=fun q => by rw [m_ q,j_]
 have hold : ∀ k e,((σ.put ks (top .u)).put kt (top av)).get k = some e → k = kt ∧ e = top av ∨ k ≠ kt ∧ k = ks ∧ e = top .u ∨ k ≠ kt ∧ k ≠ ks ∧ σ.get k = some e:=by
  intro k e he
  by_cases h1 : k = kt
  ·subst h1;rw [hgt] at he;exact .inl ⟨rfl,(Option.some.inj he).symm⟩
  ·by_cases h2 : k = ks
   ·subst h2;rw [hgs h1] at he;exact .inr (.inl ⟨h1,rfl,(Option.some.inj he).symm⟩)
   ·rw [hget k h1 h2] at he;exact .inr (.inr ⟨h1,h2,he⟩)
 have ks_ne : ∀ {k : Key} {e : Ent},σ.get k = some e → (∀ c tag xs,e ≠ ⟨[],.own c tag xs⟩) → k ≠ kt → k ≠ ks:=by
  rintro k e he hne h1 rfl
  rcases hks with rfl | ⟨c,tag,xs,hh⟩
  ·exact h1 rfl
  ·rw [he] at hh;exact hne c tag xs (Option.some.inj hh)
 have hbox_ne : ∀ {s : Nat} {c : TypeId} {tag m : Nat},σ.get (a_ s) = some ⟨[],.box c tag m⟩ → a_ s ≠ kt ∧ a_ s ≠ ks:=by
  intro s c tag m hs;have h1 : a_ s ≠ kt:=by
   intro q;exact (hkt s _ q.symm (by rw [← q];exact hs)).1 c tag m rfl
  exact ⟨h1,ks_ne hs (by simp) h1⟩
 have htup_ne : ∀ {s : Nat} {q : Path} {m : Nat},σ.get (a_ s) = some ⟨q,.tup m⟩ → a_ s ≠ kt ∧ a_ s ≠ ks:=by
  intro s q m hs;have h1 : a_ s ≠ kt:=by
   intro q;exact (hkt s _ q.symm (by rw [← q];exact hs)).2 m rfl
  exact ⟨h1,ks_ne hs (by simp) h1⟩
 have hnotD : ¬ Old D (i + 1):=by
  rintro (q | ⟨j,hj,q⟩)
  ·cases q
  ·have : i = j:=by omega
   subst this;exact hi hj
 have ks_ex : σ.get ks ≠ none ∨ ks = kt:=by
  rcases hks with q | ⟨c,tag,xs,hh⟩
  ·exact .inr q
  ·exact .inl (by rw [hh];simp)
 refine Rel.upd hG h hwf (fun k => k = kt ∨ k = ks) Bx hos htape hout (by omega) ?_ ?_ ?_ ?_ ?_ ?_ ?_ ?_ ?_ ?_ ?_ ?_ ?_ ?_ ?_ ?_ ?_
 ·exact fun b _ hb => hblocks b fun k hk => hb k (.inr hk)
 ·intro k _ hk
  exact (hbx k hk).2.2
 ·intro k hk
  rw [O_ _ _ fun q => hk (.inl q),O_ _ _ fun q => hk (.inr q)]
 ·intro k b hk hb
  have : g = some b:=by
   by_cases h1 : k = kt
   ·subst h1;rw [a_e] at hb;exact hb
   ·rcases hk with hk | hk
    ·exact absurd hk h1
    ·subst hk
     rw [O_ _ _ h1,a_e] at hb;cases hb
  rcases hg with hg | ⟨-,hg⟩
  ·rw [hg] at this;cases this
  ·exact .inl ⟨ks,.inr rfl,by rw [← hg];exact this⟩
 ·intro k k' b hk hk' hb hb'
  have one : ∀ k,k = kt ∨ k = ks → setG (setG γ ks none) kt g k = some b → k = kt:=by
   intro k hk hb
   by_cases h1 : k = kt
   ·exact h1
   ·rcases hk with hk | hk
    ·exact hk
    ·subst hk
     rw [O_ _ _ h1,a_e] at hb;cases hb
  rw [one k hk hb,one k' hk' hb']
 ·intro k hk
  exact hget k (fun q => hk (.inl q)) fun q => hk (.inr q)
 ·intro k e hk he
  exact hval k e (fun q => hk (.inl q)) he
 ·intro s n e he
  have : ∃ c tag m,σ.get (a_ s) = some ⟨[],.box c tag m⟩:=by
   rcases hold _ e he with ⟨h1,-⟩ | ⟨-,h2,-⟩ | ⟨-,-,h3⟩
   ·rcases hkc with ⟨q,-⟩ | ⟨-,q⟩
    ·rw [← h1] at q;simp [cell] at q
    ·rw [← h1] at q;exact q
   ·rcases hks with q | ⟨c,tag,xs,hh⟩
    ·rcases hkc with ⟨q',-⟩ | ⟨-,q'⟩
     ·rw [← q,← h2] at q';simp [cell] at q'
     ·rw [← q,← h2] at q';exact q'
    ·rw [← h2] at hh;exact h.cel s n _ hh
   ·exact h.cel s n e h3
  obtain ⟨c,tag,m,hb⟩:=this;obtain ⟨q1,q2⟩:=hbox_ne hb;exact ⟨c,tag,m,by rw [hget _ q1 q2];exact hb⟩
 ·intro s j e he
  have : ∃ q m,σ.get (a_ s) = some ⟨q,.tup m⟩:=by
   rcases hold _ e he with ⟨h1,-⟩ | ⟨-,h2,-⟩ | ⟨-,-,h3⟩
   ·rcases hkc with ⟨q,-⟩ | ⟨q,-⟩ <;> rw [← h1] at q <;> simp [comp] at q
   ·rcases hks with q | ⟨c,tag,xs,hh⟩
    ·rcases hkc with ⟨q',-⟩ | ⟨q',-⟩ <;> rw [← q,← h2] at q' <;> simp [comp] at q'
    ·rw [← h2] at hh;exact h.cmp s j _ hh
   ·exact h.cmp s j e h3
  obtain ⟨q,m,hb⟩:=this;obtain ⟨q1,q2⟩:=htup_ne hb;exact ⟨q,m,by rw [hget _ q1 q2];exact hb⟩
 ·rintro s q c x hs hh hk
  have h1 : a_ s ≠ kt:=by
   intro e
   rcases hkv s e.symm with q1 | q1
   ·rw [hs] at q1;cases q1
   ·rw [hh] at q1;cases q1
  rcases hk with hk | hk
  ·exact h1 hk
  ·exact ks_ne hh (by simp) h1 hk
 ·intro k hk _
  by_cases h1 : k = kt
  ·rw [h1,hgt];simp
  ·rcases hk with hk | hk
   ·exact absurd hk h1
   ·subst hk;rw [hgs h1];simp
 ·intro k e tag hk he ht
  rcases hold k e he with ⟨-,rfl⟩ | ⟨-,-,rfl⟩ | ⟨h1,h2,-⟩
  ·rcases hav with ⟨c,y,rfl,-⟩ | ⟨c,xs,rfl,-⟩
   ·cases ht
   ·simp only [top,AV.a_C,Option.some.injEq] at ht
    subst ht;exact c_J
  ·cases ht
  ·exact absurd hk (by rintro (q | q);exact h1 q;exact h2 q)
 ·exact fun tag ho => ho.mono fun _ => .inl
 ·intro k tag hk _ ho
  refine c_C (D:=D) (fun e t he ht q => ?_) ho
  rcases hold k e he with ⟨-,rfl⟩ | ⟨-,-,rfl⟩ | ⟨h1,h2,-⟩
  ·rcases hav with ⟨c,y,rfl,-⟩ | ⟨c,xs,rfl,-⟩
   ·cases ht
   ·simp only [top,AV.a_C,Option.some.injEq] at ht
    subst ht;exact hnotD q
  ·cases ht
  ·exact absurd hk (by rintro (q | q);exact h1 q;exact h2 q)
 ·intro k e h0 tag hk he hh
  rcases hold k e he with ⟨-,rfl⟩ | ⟨-,-,rfl⟩ | ⟨h1,h2,-⟩
  ·rcases hav with ⟨c,y,rfl,-⟩ | ⟨c,xs,rfl,-⟩ <;> cases hh
  ·cases hh
  ·exact absurd hk (by rintro (q | q);exact h1 q;exact h2 q)
 ·intro k e s b hk he hm
  rcases hold k e he with ⟨-,rfl⟩ | ⟨-,-,rfl⟩ | ⟨h1,h2,-⟩
  ·simp [top] at hm
  ·simp [top] at hm
  ·exact absurd hk (by rintro (q | q);exact h1 q;exact h2 q)
 ·intro hstay k e hk he
  rcases hold k e he with ⟨rfl,rfl⟩ | ⟨h1,rfl,rfl⟩ | ⟨h1,h2,-⟩
  ·refine ⟨v,hvt,fun _ => ?_,fun q => absurd trivial q⟩
   rcases hav with ⟨c,y,rfl,-,hV⟩ | ⟨c,xs,rfl,hO⟩
   ·exact V.mono hstay hV
   ·show Own C.tab w' _ c v (setG (setG γ ks none) k g k) xs
    rw [a_e];refine hO.mono hstay fun b hb => hblocks b fun k' hk' hb' => ?_
    rcases hg with hg | ⟨-,hg⟩
    ·rw [hg] at hb;cases hb
    ·rw [hg] at hb
     exact (hbx k' hk').2.1 (h.inj k' ks b hb' hb)
  ·rcases hks with q | ⟨c,tag,xs,hh⟩
   ·exact absurd q h1
   ·obtain ⟨v0,hv0,-⟩:=h.ent k _ hh
    exact ⟨v0,by rw [hval k _ h1 hh];exact hv0,fun _ => trivial,fun q => absurd trivial q⟩
  ·exact absurd hk (by rintro (q | q);exact h1 q;exact h2 q)
theorem Rel.k_U (hG : Good P C.tab) (h : Rel C.tab fr tm w σ γ) (hwf : Wf C D σ) {i : Nat} (hi : ¬ D i) {d : Nat} {ks : Key} {av : AV} {v : Value} {g : Option Nat} (hd : d < tm.size)
  (hav : (∃ c y,av = .t c y ∧ g = none ∧ V C.tab w (Ob fr γ) c v y) ∨ (∃ c xs,av = .own c (i + 1) xs ∧ Own C.tab w (Ob fr γ) c v g xs))
  (hg : g = none ∨ (b_S σ ks ∧ g = γ ks)) (hks : ks = a_ d ∨ b_S σ ks)
  (hkt : ∀ e,σ.get (a_ d) = some e → (∀ c tag n,e.av ≠ .box c tag n) ∧ (∀ n,e.av ≠ .tup n)) (hkv : a_w C d = true ∨ σ.get (a_ d) = none) :
  Rel C.tab fr (tm.setIfInBounds d v) w ((σ.put ks (top .u)).put (a_ d) (top av)) (setG (setG γ ks none) (a_ d) g) ∧ Wf C (fun j => D j ∨ j = i) ((σ.put ks (top .u)).put (a_ d) (top av)):=by
 refine Rel.give hG h hwf hi (fun _ => False) rfl rfl rfl rfl (fun _ _ => rfl) (fun _ q => q.elim) hav hg hks (fun _ e _ he => hkt e he) (fun s hs => ?_) (.inl ⟨rfl,rfl⟩) ?_ ?_
 ·rw [J_.1 hs] at hkv;exact hkv
 ·rw [i_];simp [hd]
 ·intro k e hne he
  have ksne : ∀ {c : TypeId} {tag m : Nat} {s : Nat},σ.get (a_ s) = some ⟨[],.box c tag m⟩ → a_ s ≠ a_ d ∧ a_ s ≠ ks:=by
   intro c tag m s hs;have h1 : a_ s ≠ a_ d:=by
    intro q;rw [q] at hs;exact (hkt _ hs).1 c tag m rfl
   refine ⟨h1,fun q => ?_⟩
   rcases hks with q' | ⟨c',t',xs,hh⟩
   ·exact h1 (q.trans q')
   ·rw [← q,hs] at hh;cases hh
  refine a_S (fun ht => ?_) (fun ht => ?_)
  ·have : d ≠ k.a:=by
    intro q
    by_cases h0 : k.tag = 0
    ·exact hne (by rw [b_N h he h0,q])
    ·obtain ⟨v0,hv0,-⟩:=h.ent k e he
     have h2 : k.tag = 2:=by
      obtain ⟨t,a,b⟩:=k;unfold s_ at hv0
      match t with
      | 0 => exact absurd rfl h0
      | 1 => exact absurd rfl ht
      | 2 => rfl
      | n + 3 => cases hv0
     obtain ⟨-,q',m,hh⟩:=c_R h he h2;rw [← q] at hh;exact (hkt _ hh).2 m rfl
   simp [Array.getElem?_setIfInBounds,this]
  ·obtain ⟨hk,c,tag,m,hs⟩:=a_0 h he ht
   obtain ⟨q1,q2⟩:=ksne hs;exact ⟨by rw [O_ _ _ q1,O_ _ _ q2],fun _ _ => rfl⟩
end
section
variable {P : Program} {C : Ctx} {fr : Fr} {tm : Array Value} {w : World} {σ : St} {γ : Key → Option Nat} {D : Nat → Prop}
 (hG : Good P C.tab) (h : Rel C.tab fr tm w σ γ) (hwf : Wf C D σ) (hsz : tm.size = C.nt) {i : Nat} (hi : ¬ D i) {o : Oper} {p : Path} (hp : σ.Holds p)
 (hpp : ∀ s b,(s,b) ∈ p → a_w C s = false ∧ ∃ q c x,σ.get (a_ s) = some ⟨q,.t c x⟩) {K : St → Prop} {Q : Exit → Act → World → Prop}
theorem e_w (hG : Good P C.tab) (h : Rel C.tab fr tm w σ γ) (hwf : Wf C D σ) (hsz : tm.size = C.nt) {i : Nat} (hi : ¬ D i) {o : Oper} {K : St → Prop} {Q : Exit → Act → World → Prop}
  {d : Nat} {ks : Key} {c : TypeId} {xs : List T} {v : Value} {g : Option Nat} (hn : d < C.nt) (hd : o.dst = some d)
  (hrun : (execOp (Act.eval ⟨tm,[]⟩) o).run P w = .ok (.value v) w) (ho : Own C.tab w (Ob fr γ) c v g xs) (hg : g = none ∨ (b_S σ ks ∧ g = γ ks)) (hks : ks = a_ d ∨ b_S σ ks)
  (hkt : ∀ e,σ.get (a_ d) = some e → (∀ c tag n,e.av ≠ .box c tag n) ∧ (∀ n,e.av ≠ .tup n)) (hkv : a_w C d = true ∨ σ.get (a_ d) = none)
  {σ' : St} (he : ∀ k,σ'.get k = ((σ.put ks (top .u)).put (a_ d) (top (.own c (i + 1) xs))).get k) (hK : K σ') :
  o.wp P ⟨tm,[]⟩ w (After C fr (fun j => D j ∨ j = i) K) Q:=by
 obtain ⟨h1,h2⟩:=Rel.k_U hG h hwf hi (by rw [hsz];exact hn) (.inr ⟨c,xs,rfl,ho⟩) hg hks hkt hkv;exact a_1 hrun hd ⟨rfl,by simp [hsz],_,_,hK,h1.congr he,h2.congr he⟩
theorem c_c (σ : St) (k : Key) (a b : Ent) (n : Key) : (σ.put k b).get n = ((σ.put k a).put k b).get n:=by
 simp only [St.e_7];split <;> rfl
theorem c_t {d : Nat} (habs : σ.get (a_ d) = none) : ∀ e,σ.get (a_ d) = some e → (∀ c tag n,e.av ≠ .box c tag n) ∧ (∀ n,e.av ≠ .tup n):=by
 intro e he;rw [habs] at he;cases he
include hG h hwf hsz hi hp hpp
theorem g_t {x : Operand} (ho : o.op = .move x ∨ o.op = .assign x) : Sound P C fr tm w σ D i o p K Q ((n_H C i p o x).run σ):=by
 unfold n_H;refine o_ _ _ b_ fun d hd hn hv habs => ?_
 refine X_ hG h p hp x _ b_ fun ko a hx => ?_
 have hrun : (execOp (Act.eval ⟨tm,[]⟩) o).run P w = .ok (.value (ev tm x)) w:=by rcases ho with ho | ho <;> simp only [execOp,ho] <;> rfl
 cases hx with
 | const c y _ hV => exact fun hW => b_X hG h hwf hsz hp hpp hn hd habs hrun hV hW
 | nil c e ti _ hx ht hc hk =>
  cases p with
  | cons => exact b_
  | nil =>
   intro hW;exact e_w hG h hwf hsz hi hn hd hrun (d_k hG hx hc hk (g:=none) rfl) (.inl rfl) (.inl rfl) (c_t habs) (.inr habs) (c_c σ _ _ _) hW
 | tmp s e hx he hsub hav =>
  cases hav' : e.av with
  | t c y =>
   rw [hav'] at hav;exact fun hW => b_X hG h hwf hsz hp hpp hn hd habs hrun hav hW
  | own c tag xs =>
   rw [hav'] at hav;simp only;split
   ·rename_i k hk
    simp only [Option.some.injEq,Prod.mk.injEq] at hk;obtain ⟨rfl,hpath⟩:=hk;have hent : σ.get (a_ s) = some ⟨[],.own c tag xs⟩:=by rw [he,← hpath,← hav']
    split
    ·intro hW
     refine a_P (a:=.alias (a_ s) tag c 0 xs.length) hG h hwf hsz hn hd habs hp hpp hrun ?_ ?_ ?_ hW
     ·intro h0 tag0 hh
      simp only [AV.home,Option.some.injEq,Prod.mk.injEq] at hh;obtain ⟨rfl,rfl⟩:=hh;rw [he];simp
     ·intro tag0 hh
      exact hwf.tags _ _ tag0 he (by rw [hav'];exact hh)
     ·refine e_O (k' := a_ d) h hent ?_
      rw [p_S h he,hx]
    ·cases p with
     | cons => exact b_
     | nil =>
      intro hW;exact e_w hG h hwf hsz hi hn hd hrun hav (.inr ⟨⟨c,tag,xs,hent⟩,rfl⟩) (.inr ⟨c,tag,xs,hent⟩) (c_t habs) (.inr habs) (fun _ => rfl) hW
   ·exact b_
   ·rename_i hk;cases hk
  | box c tag n =>
   rw [hav'] at hav;simp only;split
   ·rename_i k hk
    simp only [Option.some.injEq,Prod.mk.injEq] at hk;obtain ⟨rfl,hpath⟩:=hk;obtain ⟨b,cs,ety,hb,hvv,-⟩:=hav;intro hW;have hent : σ.get (a_ s) = some ⟨[],.box c tag n⟩:=by rw [he,← hpath,← hav']
    have hne : a_ s ≠ a_ d:=fun e' => by rw [← e',he] at habs;cases habs
    refine a_P (a:=.ptr s tag 0) hG h hwf hsz hn hd habs hp hpp hrun ?_ ?_ ?_ hW
    ·intro h0 tag0 hh
     simp only [AV.home,Option.some.injEq,Prod.mk.injEq] at hh;obtain ⟨rfl,rfl⟩:=hh;rw [he];simp
    ·intro tag0 hh
     exact hwf.tags _ _ tag0 he (by rw [hav'];exact hh)
    ·exact f_P hent hb 0 hvv (O_ _ _ hne)
   ·exact b_
  | alias h0 tag c off len =>
   rw [hav'] at hav;exact fun hW => b_k hG h hwf hsz hp hpp hn hd habs he hrun hav (by simp [hav']) (by simp [hav']) (by simp) (by simp) hW
  | ptr s' tag c =>
   rw [hav'] at hav;exact fun hW => b_k hG h hwf hsz hp hpp hn hd habs he hrun hav (by simp [hav']) (by simp [hav']) (by simp) (by simp) hW
  | eptr h0 tag j c =>
   rw [hav'] at hav;exact fun hW => b_k hG h hwf hsz hp hpp hn hd habs he hrun hav (by simp [hav']) (by simp [hav']) (by simp) (by simp) hW
  | pl c y off =>
   rw [hav'] at hav;exact fun hW => b_k hG h hwf hsz hp hpp hn hd habs he hrun hav (by simp [hav']) (by simp [hav']) (by simp) (by simp) hW
  | tup tag =>
   intro hW;refine a_P (a:=.tcp s tag) hG h hwf hsz hn hd habs hp hpp hrun ?_ ?_ ?_ hW
   ·intro h0 tag0 hh
    simp only [AV.home,Option.some.injEq,Prod.mk.injEq] at hh;obtain ⟨rfl,rfl⟩:=hh;rw [he];simp
   ·intro tag0 hh
    exact hwf.tags _ _ tag0 he (by rw [hav'];exact hh)
   ·intro p' _
    obtain ⟨v0,h1,-⟩:=h.ent _ _ he;rw [h1];rw [i_] at h1;have : ev tm (.tmp s) = v0:=by
     simp only [ev,Act.eval,Array.getD_eq_getD_getElem?,h1,Option.getD_some]
    rw [hx,this]
  | _ => exact b_
theorem c_B {x : Operand} {ix s d : Nat} (ho : o.op = .extract x ix) (hd : o.dst = some d) (hn : d < C.nt) (habs : σ.get (a_ d) = none) (hx : ∀ v,tm[s]? = some v → ev tm x = v) :
  Sound P C fr tm w σ D i o p K Q ((c_O i p d s ix).run σ):=by
 unfold c_O;split
 ·exact b_
 rename_i hix;simp only [Rd.run]
 cases he' : σ.get (comp s ix) with
 | none => exact b_
 | some e' =>
  simp only;split
  ·rename_i hsub'
   obtain ⟨v,hv',hr,-⟩:=h.ent _ _ he';have hrun : (execOp (Act.eval ⟨tm,[]⟩) o).run P w = .ok (.value v) w:=by
    simp only [s_,comp] at hv';split at hv'
    ·rename_i vs hvs
     rw [hix] at hv';simp only at hv';have hev:=hx _ hvs;unfold ev at hev;simp only [execOp,ho,hev,Instr.extract,hv'];rfl
    ·rw [hix] at hv';cases hv'
    ·cases hv'
   have hr' := hr (g_W hsub' hp);split
   ·rename_i c y hav
    rw [hav] at hr';exact fun hW => b_X hG h hwf hsz hp hpp hn hd habs hrun hr' hW
   ·rename_i c tag xs hav
    rw [hav] at hr'
    cases p with
    | cons => exact b_
    | nil =>
     cases hpath : e'.path with
     | cons => exact b_
     | nil =>
      intro hW;have hent : b_S σ (comp s ix):=⟨c,tag,xs,by rw [he',← hpath,← hav]⟩;exact e_w hG h hwf hsz hi hn hd hrun hr' (.inr ⟨hent,rfl⟩) (.inr hent) (c_t habs) (.inr habs) (fun _ => rfl) hW
   ·rename_i s' tag c hav
    rw [hav] at hr';intro hW;have hdom:=hwf.dom _ _ (a_ s') tag he' (by rw [hav];rfl);refine a_P (a:=.ptr s' tag c) hG h hwf hsz hn hd habs hp hpp hrun ?_ ?_ ?_ hW
    ·intro h0 tag0 hh
     simp only [AV.home,Option.some.injEq,Prod.mk.injEq] at hh;obtain ⟨rfl,rfl⟩:=hh;exact hdom
    ·intro tag0 hh
     exact hwf.tags _ _ tag0 he' (by rw [hav];exact hh)
    ·intro cb n hx
     obtain ⟨b,q1,q2⟩:=hr' cb n hx;exact ⟨b,by rw [O_ _ _ fun q => hdom (by rw [q];exact habs)];exact q1,q2⟩
   ·exact b_
  ·exact b_
theorem g_3 {x : Operand} {ix : Nat} (ho : o.op = .extract x ix) : Sound P C fr tm w σ D i o p K Q ((h_M C i p o x ix).run σ):=by
 unfold h_M;refine o_ _ _ b_ fun d hd hn hv habs => ?_
 cases x with
 | tmp s =>
  have hself : ∀ v,tm[s]? = some v → ev tm (.tmp s) = v:=by
   intro v hv;simp only [ev,Act.eval,Array.getD_eq_getD_getElem?,hv,Option.getD_some]
  simp only [Rd.run]
  cases he : σ.get (a_ s) with
  | none => exact b_
  | some e =>
   simp only;split
   ·rename_i hsub
    split
    ·exact c_B hG h hwf hsz hi hp hpp ho hd hn habs hself
    ·rename_i s' tag hav
     simp only [Rd.run]
     cases he2 : σ.get (a_ s') with
     | none => exact b_
     | some e2 =>
      simp only;split
      ·rename_i tag' hav2
       split
       ·rename_i ht
        have ht:=Nat.eq_of_beq_eq_true ht;subst ht;refine c_B hG h hwf hsz hi hp hpp ho hd hn habs fun v hv => ?_
        obtain ⟨v0,h1,h2,-⟩:=h.ent _ _ he;have h3:=h2 (g_W hsub hp);rw [hav] at h3;have h4:=h3 e2.path (by rw [he2,← hav2]);rw [i_] at h1 h4;rw [hv] at h4;simp only [Option.some.injEq] at h4;rw [h4];exact hself v0 h1
       ·exact b_
      ·exact b_
    ·exact b_
   ·exact b_
 | _ => exact b_
omit hG h hwf hsz hi hp hpp in
theorem c_x {ty c : TypeId} {r : R} {motive : a_o → Prop} (hbad : motive .bad) (hok : (∃ ti,C.tab.at ty = some (c,ti)) → motive (r.run σ)) : motive ((m_R C ty c r).run σ):=by
 unfold m_R;split
 ·rename_i ct ti h1
  split
  ·rename_i hc
   have:=Nat.eq_of_beq_eq_true hc
   subst this;exact hok ⟨ti,h1⟩
  ·exact hbad
 ·exact hbad
omit hwf hsz hi hp hpp in
theorem f_z {kt : Key} {x : Operand} {ty : TypeId} {fin : List (Key × Ent) → R} {motive : a_o → Prop} (hbad : motive .bad)
  (hA : ∀ fz c y,(∃ ti,C.tab.at ty = some (c,ti)) → Frz σ fz → f_F C.tab w (Ob fr γ) γ fz c (ev tm x) y → motive ((fin (fz ++ [(kt,top (.t c y))])).run σ))
  (hB : ∀ c xs,(∃ ti,C.tab.at ty = some (c,ti)) → Own C.tab w (Ob fr γ) c (ev tm x) none xs → motive ((fin [(kt,top (.own c (i + 1) xs))]).run σ))
  (hC : ∀ ks c xs,(∃ ti,C.tab.at ty = some (c,ti)) → b_S σ ks → Own C.tab w (Ob fr γ) c (ev tm x) (γ ks) xs → motive ((fin [(ks,top .u),(kt,top (.own c (i + 1) xs))]).run σ)) :
  motive ((d_7 C i kt x ty fin).run σ):=by
 have hp0 : σ.Holds []:=trivial;unfold d_7;refine X_ hG h [] hp0 x ty hbad fun ko a hx => ?_
 have plain : ∀ {c : TypeId} {y : T},V C.tab w (Ob fr γ) c (ev tm x) y → f_F C.tab w (Ob fr γ) γ [] c (ev tm x) y :=
  fun hv O' hO _ => hv.mono fun b _ hb => ⟨rfl,fun q => hb (hO b q)⟩
 cases hx with
 | const c y _ hV => exact c_x hbad fun hty => hA [] c y hty Frz.nil (plain hV)
 | nil c e ti _ hx ht hc hk =>
  have hO:=d_k (w:=w) hG (O:=Ob fr γ) hx hc hk (g:=none) rfl;refine c_x hbad fun hty => ?_
  simp only;split
  ·exact hB c [] hty hO
  ·exact hA [] c (.l []) hty Frz.nil (fun O' hO' _ => hO.freeze hG hO' fun b hb => by cases hb)
 | tmp s e hx he hsub hav =>
  cases hav' : e.av with
  | t c y =>
   rw [hav'] at hav;exact c_x hbad fun hty => hA [] c y hty Frz.nil (plain hav)
  | own c tag xs =>
   rw [hav'] at hav;refine c_x hbad fun hty => ?_
   split
   ·split
    ·rename_i hk;cases hk
    ·rename_i ks hk
     simp only [Option.some.injEq,Prod.mk.injEq] at hk;obtain ⟨rfl,hpath⟩:=hk;have hent : b_S σ (a_ s):=⟨c,tag,xs,by rw [he,← hpath,← hav']⟩;exact hC _ c xs hty hent hav
    ·exact hbad
   ·split
    ·rename_i hk;cases hk
    ·rename_i ks hk
     simp only [Option.some.injEq,Prod.mk.injEq] at hk;obtain ⟨rfl,hpath⟩:=hk;have hent : σ.get (a_ s) = some ⟨[],.own c tag xs⟩:=by rw [he,← hpath,← hav']
     exact hA [_] c _ hty (Frz.one hent) (fun O' hO hF => Own.freeze hG hav hO fun b hb => hF _ _ b (List.mem_singleton.2 rfl) hb)
    ·exact hbad
  | alias h0 tag c off len =>
   rw [hav'] at hav;refine c_x hbad fun hty => ?_
   refine N_ h0 tag hbad fun c' xs hh => ?_
   obtain ⟨rfl,hS,hv0,hval,hown,hsub'⟩:=a_y h hav hh;split
   ·split
    ·rename_i hoff
     have:=Nat.eq_of_beq_eq_true hoff
     subst this;refine hC h0 c' _ hty ⟨c',tag,xs,hh⟩ ?_;obtain ⟨ti,e1,ce,te,a,cap,a',cap',q1,q2,q3,q4,q5,q6,q7,q8,q9,q10,q11⟩:=hsub';obtain ⟨rfl,rfl⟩:=q9 rfl;obtain ⟨ti',e2,ce2,te2,r1,r2,r3,r4,r5⟩:=hown;refine ⟨ti',e2,ce2,te2,r1,r2,r3,r4,?_⟩;have hlen : (xs.take len).length = len:=by simp;omega
     rcases r5 with ⟨s1,rfl,a2,s3⟩ | ⟨b,cap2,cs,s1,s2,s3,s4,s5,s6,s7⟩
     ·simp at q6
      subst q6;refine .inl ⟨s1,by simp,a',?_⟩;rw [q4] at s3;simp only [Value.slice.injEq] at s3;rw [q5,s3.2.2]
     ·rw [q4] at s2
      simp only [Value.slice.injEq,true_and] at s2;obtain ⟨rfl,rfl⟩:=s2;refine .inr ⟨b,cap',cs,s1,by rw [q5,hlen],s3,by omega,s5,s6,fun j x hx' => s7 j x ?_⟩;rw [List.getElem?_take] at hx';split at hx'
      ·exact hx'
      ·cases hx'
    ·exact hbad
   ·refine hA [_] c' _ hty (Frz.one hh) (fun O' hO hF => hS.V hG hO ?_)
    intro a n cap hv hpos;have hlen : 0 < len:=by
     simp only [List.length_take,List.length_drop] at hpos;omega
    obtain ⟨ti,e1,ce,te,b,cap1,cap2,q1,q2,q3,q4,q5,q6,q7,q8⟩:=Sub.pos hown hsub' hlen;rw [q6] at hv;simp only [Value.slice.injEq,Option.some.injEq] at hv;rw [← hv.1];exact hF _ _ b (List.mem_singleton.2 rfl) q4
  | _ => exact hbad
omit hpp hp in
theorem e_j {x : Operand} (ho : o.op = .move x ∨ o.op = .assign x) : Sound P C fr tm w σ D i o p K Q ((h_E C i p o x).run σ):=by
 unfold h_E
 have hrun : (execOp (Act.eval ⟨tm,[]⟩) o).run P w = .ok (.value (ev tm x)) w:=by rcases ho with ho | ho <;> simp only [execOp,ho] <;> rfl
 cases p with
 | cons => exact b_
 | nil =>
  simp only;split
  ·exact b_
  ·rename_i d hd
   split
   ·rename_i hn
    have hn:=of_decide_eq_true hn;split
    ·rename_i hvar
     have main : (∀ e,σ.get (a_ d) = some e → (∀ c tag n,e.av ≠ .box c tag n) ∧ (∀ n,e.av ≠ .tup n)) →
       Sound P C fr tm w σ D i o [] K Q ((d_7 C i (a_ d) x o.type fun ws => okR ws).run σ):=by
      intro hkt;refine f_z hG h b_ (fun fz c y _ hf hV => ?_) (fun c xs _ hO => ?_) (fun ks c xs _ hks hO => ?_)
      ·intro hW
       obtain ⟨γ',r1,r2,r3,r4,r5,r6,r7,r8⟩:=Rel.frz hG h hwf hf;have hkt' : ∀ e,(σ.puts fz).get (a_ d) = some e → (∀ c tag n,e.av ≠ .box c tag n) ∧ (∀ n,e.av ≠ .tup n):=by
        intro e he
        by_cases hin : ∃ e',(a_ d,e') ∈ fz
        ·obtain ⟨e',hin⟩:=hin
         rw [r8 _ _ hin] at he;obtain ⟨c',xs',tag',rfl,-⟩:=hf _ _ hin;simp only [Option.some.injEq] at he;subst he;simp [top]
        ·rw [(r4 _ fun e' hm => hin ⟨e',hm⟩).1] at he
         exact hkt e he
       obtain ⟨h1,h2⟩:=Rel.k_U hG r1 r2 hi (ks:=a_ d) (d:=d) (v:=ev tm x) (by rw [hsz];exact hn) (.inl ⟨c,y,rfl,rfl,hV _ r5 r6⟩) (.inl rfl) (.inl rfl) hkt' (.inl hvar);refine a_1 hrun hd ⟨rfl,by simp [hsz],_,_,hW,h1.congr ?_,h2.congr ?_⟩
       ·intro k;rw [B_];exact c_c _ _ _ _ _
       ·intro k;rw [B_];exact c_c _ _ _ _ _
      ·intro hW
       exact e_w hG h hwf hsz hi hn hd hrun hO (.inl rfl) (.inl rfl) hkt (.inl hvar) (c_c σ _ _ _) hW
      ·intro hW
       exact e_w hG h hwf hsz hi hn hd hrun hO (.inr ⟨hks,rfl⟩) (.inr hks) hkt (.inl hvar) (fun _ => rfl) hW
     simp only [Rd.run]
     cases he : σ.get (a_ d) with
     | none =>
      simp only;refine X_ hG h [] trivial x o.type b_ fun ko a hx => ?_
      have hm:=g_t (P:=P) (K:=K) (Q:=Q) (o:=o) (p:=[]) hG h hwf hsz hi trivial (fun s b hm => by simp at hm) ho
      cases hx with
      | tmp s e hx he2 hsub hav => cases hav2 : e.av <;> first | exact hm | exact main (c_t he) | (simp only;split;exact hm;exact main (c_t he))
      | _ => exact main (c_t he)
     | some e =>
      have hkt : (∀ c tag n,e.av ≠ .box c tag n) → (∀ n,e.av ≠ .tup n) → (∀ e',σ.get (a_ d) = some e' → (∀ c tag n,e'.av ≠ .box c tag n) ∧ (∀ n,e'.av ≠ .tup n)):=by
       intro q1 q2 e' he';rw [he] at he';simp only [Option.some.injEq] at he';subst he';exact ⟨q1,q2⟩
      simp only;split
      ·exact b_
      ·exact b_
      ·rename_i q1 q2
       exact main (hkt q1 q2)
    ·exact b_
   ·exact b_
end
end Go.Pl
