/- Part 8 of 11. What a session has committed at any time is the beginning of what it commits later, and of the path at its end (SessionsCommit), for every input; no condition. Names are shortened and spaces left out by program, for the size. -/
import Derived.Test.YtjhgombngbgjbaaGreatDoorQ7
import Derived.ProofKit
import Derived.OpenShut
import Derived.Deep.DeepHandedRow
import Derived.Deep.DeepWitnessRowRef
import Derived.Lib.SmallJoins
import Derived.Carry
import Derived.WalkKit
import Derived.Lib.Walk
import Derived.Deep.OwnRows
import Derived.LoopTactic
import Derived.Laws.EntriesVeiled
import Derived.Shelf.Spec.SlicesGrow
set_option linter.unusedVariables false
set_option linter.unusedSimpArgs false
set_option linter.unusedSectionVars false
set_option linter.constructorNameAsVariable false
set_option maxRecDepth 100000
namespace Go.Pq
open Go.Pl Go.Proofs
def d_6 (s : Bool) (n d : Nat) : T:=.g [.b s,lim (Lb.nat n),lim (Lb.nat d)]
theorem l_Z : F 153 [] (zo 0 22) [lim (Lb.nat 1)]:=r_g _ ⟨trivial,by rw [Lb.d_j];rfl,trivial⟩
theorem b_5 {x y : Nat} : cmpI x y = 0 ↔ x = y:=by
 unfold cmpI
 by_cases h : x < y
 ·rw [if_pos h];constructor
  ·intro q;cases q
  ·intro q;omega
 ·rw [if_neg h]
  by_cases h2 : x = y
  ·rw [if_pos h2];exact ⟨fun _ => h2,fun _ => rfl⟩
  ·rw [if_neg h2];constructor
   ·intro q;cases q
   ·intro q;exact absurd q h2
theorem l_b (a : List UInt32) (hl : a.length ≤ 2 ^ 60) (hc : Lb.Canon a) : F 151 [.t 22 (lim a)] (zo 1 4) [.b true]:=by
 refine r_e _ _ ?_;rw [n_,g_]
 by_cases h : a = []
 ·subst h
  exact ⟨fun q => (by cases q.1),trivial,rfl,trivial⟩
 ·have hp:=List.length_pos_iff.2 h
  have e : subI .i64 (a.length : Int) 1 = ((a.length - 1 : Nat) : Int):=by rw [Y_ (by omega)];omega
  rw [e,Int.toNat_natCast,V_ a (by omega),b_R];refine ⟨fun _ => ⟨by omega,by omega⟩,trivial,?_,trivial⟩
  rcases hc with hc | hc
  ·exact absurd hc h
  ·rw [a_D.2 (by omega),b_h.2 (by unfold Lb.dg at hc;omega)];rfl
theorem k_z (q : Rat) (hq : rl q ≤ 2 ^ 32) : F 115 [.t 23 (ratT q)] (zo 1 4) [.b true]:=by
 have h1:=c_9 q;have h2:=c_8 q;have h3:=n_a q.den;refine q_O _ _ ⟨_,l_b _ (by omega) (Lb.H_ _),_,fun _ => l_b _ (by omega) (k_N _),fun h => (by cases h),fun _ => ?_⟩;simp only [e_c,f_l,f_m,f_w,den1];refine ⟨fun h4 => ?_,fun h4 => ?_⟩
 ·rw [c_S,Lb.b_u] at h4
  have hz : q.num = 0:=by omega
  have hd:=g_f hz;rw [hz,hd,n_b];exact ⟨trivial,rfl,trivial⟩
 ·refine ⟨fun h5 => ⟨trivial,(by trivial),trivial⟩,fun h5 => ?_⟩
  rw [d_8] at h5;have hd : q.den ≠ 1:=fun z => h5 ((i_D (c_6 q)).2 z)
  rw [j_M hd];have c1:=j_E (Lb.nat q.den) (Lb.nat 1) (by omega) (by rw [Lb.d_j];decide);rw [Lb.h_,Lb.h_] at c1;have c2:=t_0 (Lb.nat q.num.natAbs) (Lb.nat q.den) (by omega) (by omega) (Lb.H_ _) (Lb.H_ _);rw [Lb.h_,Lb.h_,show Nat.gcd q.num.natAbs q.den = 1 from q.reduced] at c2;have c3:=j_E (Lb.nat 1) (Lb.nat 1) (by rw [Lb.d_j];decide) (by rw [Lb.d_j];decide);rw [Lb.h_] at c3;refine ⟨_,l_Z,_,c1,_,fun _ => c2,_,fun _ => l_Z,_,fun _ => c3,trivial,?_,trivial⟩;rw [k_,k_,b_h.2 fun z => hd (b_5.1 z),M_.2 (b_5.2 rfl)];rfl
theorem of_F (q : Rat) (hq : rl q ≤ 2 ^ 32) : F 155 [.t 23 (ratT q)] (zo 1 23) [d_6 (decide (q.num < 0)) q.num.natAbs q.den]:=by
 refine r_i _ _ ⟨_,k_z q hq,fun h => (by cases h),fun _ => ?_⟩;simp only [e_c,f_l,f_m,b_c0,n_B,den1];refine ⟨fun h => ?_,fun h => ?_⟩
 ·rw [c_S,i_D (c_6 q)] at h
  refine ⟨_,l_Z,trivial,?_,trivial⟩;unfold d_6;rw [h];rfl
 ·rw [d_8] at h
  have hd : q.den ≠ 1:=fun z => h ((i_D (c_6 q)).2 z)
  rw [j_M hd];exact ⟨trivial,rfl,trivial⟩
theorem m_T (a : List UInt32) (ha : a.length ≤ 2 ^ 40) : F 190 [.t 22 (lim a)] (zo 1 22) [lim a]:=by
 refine r_A _ _ fun y hy => ⟨fun h => ?_,fun h => ?_⟩
 ·have : lim a = .l []:=by
   have:=hy h
   rw [n_] at this;unfold lim;rw [this]
  exact ⟨trivial,this.symm,trivial⟩
 ·rw [n_,y_]
  (try unfold Rm);unfold room
  exact ⟨⟨by omega,by omega⟩,trivial,rfl,trivial⟩
theorem s_j (s : Bool) (n d : Nat) (hn : (Lb.nat n).length ≤ 2 ^ 32) (hdl : (Lb.nat d).length ≤ 2 ^ 32) (hd : d ≠ 0) : F 150 [.t 23 (d_6 s n d)] (zo 1 23) [ratT (frac s n d)]:=by
 refine r_d _ _ ?_;have e0 : (d_6 s n d).cell 0 = .b s:=rfl;have e1 : (d_6 s n d).cell 1 = lim (Lb.nat n):=rfl;have e2 : (d_6 s n d).cell 2 = lim (Lb.nat d):=rfl;rw [e0,e1,e2];refine ⟨fun h => ?_,fun h => ?_⟩
 ·rw [c_S,Lb.b_u] at h
  subst h;rw [i_G];exact ⟨trivial,rfl,trivial⟩
 ·rw [d_8] at h
  have hn0 : n ≠ 0:=fun z => h (Lb.b_u.2 z)
  have hg:=n_s (n:=n) hd;have hgn : Lb.nat (Nat.gcd n d) ≠ []:=fun q => hg (Lb.b_u.1 q)
  have hgl : (Lb.nat (Nat.gcd n d)).length ≤ 2 ^ 32:=Nat.le_trans (b_W (Nat.gcd_le_right n (Nat.pos_of_ne_zero hd))) hdl;have l1 : (Lb.nat 1).length ≤ 2 ^ 60:=by rw [Lb.d_j];decide
  have c1:=t_0 (Lb.nat n) (Lb.nat d) hn hdl (Lb.H_ _) (Lb.H_ _);rw [Lb.h_,Lb.h_] at c1;have c2:=j_E (Lb.nat (Nat.gcd n d)) (Lb.nat 1) (by omega) l1;have c3:=n_T (Lb.nat n) (Lb.nat (Nat.gcd n d)) hn hgl (Lb.H_ _) hgn;have c4:=n_T (Lb.nat d) (Lb.nat (Nat.gcd n d)) hdl hgl (Lb.H_ _) hgn;have hd2:=b_W (Nat.div_le_self d (Nat.gcd n d));have c5:=j_E (Lb.nat (d / Nat.gcd n d)) (Lb.nat 1) (by omega) l1;have c6:=j_E (Lb.nat d) (Lb.nat 1) (by omega) l1;rw [Lb.h_,Lb.h_] at c2 c3 c4 c5 c6;rw [i_7 s n d hd hn0];refine ⟨_,m_T _ (by omega),_,m_T _ (by omega),_,c1,_,l_Z,_,c2,fun h1 => ?_,fun h1 => ?_⟩
  ·refine ⟨_,_,c3,_,_,c4,_,l_Z,_,c5,fun h2 => ?_,fun h2 => ?_⟩
   ·rw [k_,M_,b_5] at h2
    rw [h2];exact ⟨trivial,rfl,trivial⟩
   ·rw [k_,a_D] at h2
    unfold den1;rw [j_M fun z => h2 (b_5.2 z)];exact ⟨trivial,rfl,trivial⟩
  ·rw [k_,c_i,b_5] at h1
   rw [h1,Nat.div_one,Nat.div_one];refine ⟨_,l_Z,_,c6,fun h2 => ?_,fun h2 => ?_⟩
   ·rw [k_,M_,b_5] at h2
    rw [h2];exact ⟨trivial,rfl,trivial⟩
   ·rw [k_,a_D] at h2
    unfold den1;rw [j_M fun z => h2 (b_5.2 z)];exact ⟨trivial,rfl,trivial⟩
theorem l_V (s : Bool) (n d : Nat) : F 194 [.t 23 (d_6 s n d)] (zo 1 23) [d_6 (!s) n d]:=r_D _ _ ⟨trivial,rfl,trivial⟩
theorem r_V (s t : Bool) (m d n e : Nat) (h1 : (Lb.nat m).length ≤ 2 ^ 31) (h2 : (Lb.nat d).length ≤ 2 ^ 31) (h3 : (Lb.nat n).length ≤ 2 ^ 31) (h4 : (Lb.nat e).length ≤ 2 ^ 31) :
  ∃ (u : Bool) (k : Nat),sg u k = sg s (m * e) + sg t (n * d) ∧ k ≤ m * e + n * d ∧ F 193 [.t 23 (d_6 s m d),.t 23 (d_6 t n e)] (zo 2 23) [d_6 u k (d * e)]:=by
 have m1:=a_B m e;have m2:=a_B n d;have c1:=f_s (Lb.nat m) (Lb.nat e) (by omega) (by omega);have c2:=f_s (Lb.nat n) (Lb.nat d) (by omega) (by omega);have c3:=f_s (Lb.nat d) (Lb.nat e) (by omega) (by omega);rw [Lb.h_,Lb.h_] at c1 c2 c3;have c4:=j_E (Lb.nat (m * e)) (Lb.nat (n * d)) (by omega) (by omega);rw [Lb.h_,Lb.h_] at c4
 by_cases hs : (s == t) = true
 ·have hst:=eq_of_beq hs
  subst hst;have c5:=u_f (Lb.nat (m * e)) (Lb.nat (n * d)) (by omega) (by omega);rw [Lb.h_,Lb.h_] at c5;refine ⟨s,m * e + n * d,(n_8 _ _ _).symm,Nat.le_refl _,j_N _ _ _ ⟨_,c1,_,c2,_,c3,fun _ => ⟨_,c5,trivial,rfl,trivial⟩,fun h => ?_⟩⟩;exact absurd (show (s == s) = false from h) (by rw [hs];decide)
 ·have hs' : (s == t) = false:=by simpa using hs
  by_cases hle : n * d ≤ m * e
  ·have c5:=h_0 (Lb.nat (m * e)) (Lb.nat (n * d)) (by omega) (by rw [Lb.h_,Lb.h_];exact hle)
   rw [Lb.h_,Lb.h_] at c5;refine ⟨s,m * e - n * d,(n_7 _ _ _ _ hs' hle).symm,by omega,j_N _ _ _ ⟨_,c1,_,c2,_,c3,fun h => absurd (show (s == t) = true from h) hs,fun _ => ⟨_,c4,fun _ => ⟨_,c5,trivial,rfl,trivial⟩,fun h => ?_⟩⟩⟩;rw [k_,f_L] at h;omega
  ·have c5:=h_0 (Lb.nat (n * d)) (Lb.nat (m * e)) (by omega) (by rw [Lb.h_,Lb.h_];omega)
   rw [Lb.h_,Lb.h_] at c5;refine ⟨t,n * d - m * e,(n_6 _ _ _ _ hs' (by omega)).symm,by omega,j_N _ _ _ ⟨_,c1,_,c2,_,c3,fun h => absurd (show (s == t) = true from h) hs,fun _ => ⟨_,c4,fun h => ?_,fun _ => ⟨_,c5,trivial,rfl,trivial⟩⟩⟩⟩;rw [k_,h_I] at h;exact absurd h hle
theorem r_5 (a b : Rat) (ha : rl a ≤ 2 ^ 30) (hb : rl b ≤ 2 ^ 30) : F 166 [.t 23 (ratT a),.t 23 (ratT b)] (zo 2 23) [ratT (a * b)]:=by
 have a1:=c_9 a;have a2:=c_8 a;have b1:=c_9 b;have b2:=c_8 b;have m1:=h_o a b;have m2:=d_K a b;have c1:=f_s (Lb.nat a.num.natAbs) (Lb.nat b.num.natAbs) (by omega) (by omega);have c2:=f_s (Lb.nat a.den) (Lb.nat b.den) (by omega) (by omega);rw [Lb.h_,Lb.h_] at c1 c2;have c3:=s_j (!(decide (a.num < 0) == decide (b.num < 0))) (a.num.natAbs * b.num.natAbs) (a.den * b.den) (by omega) (by omega) (b_2 a b);rw [h_1] at c3;exact r_r _ _ _ ⟨_,of_F a (by omega),_,of_F b (by omega),_,c1,_,c2,_,c3,trivial,rfl,trivial⟩
theorem i_M (a b : Rat) (ha : rl a ≤ 2 ^ 30) (hb : rl b ≤ 2 ^ 30) (t : Bool) (ht : sg t b.num.natAbs = b.num) :
  ∃ y,F 193 [.t 23 (d_6 (decide (a.num < 0)) a.num.natAbs a.den),.t 23 (d_6 t b.num.natAbs b.den)] (zo 2 23) [y] ∧ F 150 [.t 23 y] (zo 1 23) [ratT (a + b)]:=by
 have a1:=c_9 a;have a2:=c_8 a;have b1:=c_9 b;have b2:=c_8 b;have m1:=d_L a b;have m2:=d_L b a;have m3:=d_K a b;obtain ⟨u,k,hk,hle,c⟩:=r_V (decide (a.num < 0)) t a.num.natAbs a.den b.num.natAbs b.den (by omega) (by omega) (by omega) (by omega);have hl:=b_W hle;have hl2:=d_9 (a.num.natAbs * b.den) (b.num.natAbs * a.den);refine ⟨_,c,?_⟩;have c2:=s_j u k (a.den * b.den) (by omega) (by omega) (b_2 a b);rw [← g_M a b u k ?_] at c2
 ·exact c2
 ·rw [hk,k_e]
  congr 1
  conv => lhs;rw [← ht]
  unfold sg;split <;> simp [Int.neg_mul]
theorem u_E (a b : Rat) (ha : rl a ≤ 2 ^ 30) (hb : rl b ≤ 2 ^ 30) : F 187 [.t 23 (ratT a),.t 23 (ratT b)] (zo 2 23) [ratT (a + b)]:=by
 obtain ⟨y,c1,c2⟩:=i_M a b ha hb (decide (b.num < 0)) (k_v _);exact r_x _ _ _ ⟨_,of_F a (by omega),_,of_F b (by omega),y,c1,_,c2,trivial,rfl,trivial⟩
theorem u_N (a b : Rat) (ha : rl a ≤ 2 ^ 30) (hb : rl b ≤ 2 ^ 30) : F 156 [.t 23 (ratT a),.t 23 (ratT b)] (zo 2 23) [ratT (a - b)]:=by
 obtain ⟨y,c1,c2⟩:=i_M a (-b) ha (by rw [n_Z];exact hb) (!decide (b.num < 0)) (by
  rw [Rat.neg_num,Int.natAbs_neg]
  have:=k_v b.num
  unfold sg at *
  by_cases h : b.num < 0
  ·simp [h] at this ⊢;omega
  ·simp [h] at this ⊢;omega)
 rw [Rat.neg_num,Rat.neg_den,Int.natAbs_neg] at c1;rw [← Rat.sub_eq_add_neg] at c2;exact r_j _ _ _ ⟨_,of_F a (by omega),_,of_F b (by omega),_,l_V _ _ _,y,c1,_,c2,trivial,rfl,trivial⟩
theorem e_e (q : Rat) (hq : rl q ≤ 2 ^ 32) : F 116 [.t 23 (ratT q)] (zo 1 2) [.i .i64 (sgnZ q.num)]:=by
 refine q_P _ _ ⟨_,of_F q hq,?_⟩;have e0 : (d_6 (decide (q.num < 0)) q.num.natAbs q.den).cell 0 = .b (decide (q.num < 0)):=rfl;have e1 : (d_6 (decide (q.num < 0)) q.num.natAbs q.den).cell 1 = lim (Lb.nat q.num.natAbs):=rfl;rw [e0,e1,f_w];unfold sgnZ;refine ⟨fun h => ?_,fun h => ⟨fun h1 => ?_,fun h1 => ?_⟩⟩
 ·rw [c_S,Lb.b_u] at h
  have : q.num = 0:=by omega
  rw [this];exact ⟨trivial,rfl,trivial⟩
 ·rw [decide_eq_true_eq] at h1
  rw [if_pos h1];exact ⟨trivial,rfl,trivial⟩
 ·rw [decide_eq_false_iff_not] at h1
  rw [d_8] at h;have : q.num ≠ 0:=fun z => h (by rw [z];rfl)
  rw [if_neg h1,if_pos (by omega)];exact ⟨trivial,rfl,trivial⟩
theorem b_1 (a b : Rat) (ha : rl a ≤ 2 ^ 30) (hb : rl b ≤ 2 ^ 30) : F 117 [.t 23 (ratT a),.t 23 (ratT b)] (zo 2 2) [.i .i64 (cmpQ a b)]:=by
 have:=q_a a b
 exact q_Q _ _ _ ⟨_,u_N a b ha hb,_,e_e (a - b) (by omega),trivial,rfl,trivial⟩
theorem o_n (x : Int) (h : -9223372036854775808 ≤ x ∧ x ≤ 9223372036854775807) : F 149 [.t 2 (.i .i64 x)] Z2 [.b (decide (x < 0)),lim (Lb.nat x.natAbs)]:=by
 have hB : Lb.B = 4294967296:=rfl;have key : ∀ n : Nat,n < 18446744073709551616 → F 189 [.t 22 (T.l (((List.replicate 2 (T.i .u32 0)).set 0 (T.i .u32 (p_ .u32 (n : Int)))).set 1 (T.i .u32 (p_ .u32 (shrI .u64 (n : Int) 32)))))] (zo 1 22) [lim (Lb.nat n)]:=by
  intro n hn;have hq : n / Lb.B < Lb.B:=by rw [hB];omega
  rw [shr32,show (n : Int) / 4294967296 = ((n / Lb.B : Nat) : Int) by rw [hB];omega,c_U,c_V hq];have e : T.l (((List.replicate 2 (T.i .u32 0)).set 0 (lm (UInt32.ofNat (n % Lb.B)))).set 1 (lm (UInt32.ofNat (n / Lb.B)))) = lim [UInt32.ofNat (n % Lb.B),UInt32.ofNat (n / Lb.B)]:=rfl;rw [e];have c:=c_n [UInt32.ofNat (n % Lb.B),UInt32.ofNat (n / Lb.B)] (by simp);have hv : Lb.val [UInt32.ofNat (n % Lb.B),UInt32.ofNat (n / Lb.B)] = n:=by
   rw [Lb.val,Lb.i_g,Lb.ofNat_toNat (Nat.mod_lt _ Lb.a_l),Lb.ofNat_toNat hq,Nat.mod_add_div]
  rw [hv] at c;exact c
 have k:=key x.natAbs (by omega);refine r_c _ _ _ ?_;rw [k_];refine ⟨fun h1 => ⟨by decide,_,?_,trivial,?_,rfl,trivial⟩,fun h1 => ⟨by decide,_,?_,trivial,?_,rfl,trivial⟩⟩
 ·rw [d_] at h1
  have : subI .u64 0 (p_ .u64 x) = (x.natAbs : Int):=by
   unfold subI p_;rw [g_Z,g_Z];omega
  rw [this];exact k
 ·rw [h1];rw [d_] at h1;simp [h1]
 ·rw [l_] at h1
  have : p_ .u64 x = (x.natAbs : Int):=by rw [a_2 (by omega)];omega
  rw [this];exact k
 ·rw [h1];rw [l_] at h1;simp;omega
theorem p_X (a b : Int) (ha : -9223372036854775808 ≤ a ∧ a ≤ 9223372036854775807) (hb : -9223372036854775808 ≤ b ∧ b ≤ 9223372036854775807) (h0 : b ≠ 0) :
  F 114 [.t 2 (.i .i64 a),.t 2 (.i .i64 b)] Z1 [ratT (mkQ a b),.i .i64 0]:=by
 refine q_N _ _ _ _ ⟨fun h => ?_,fun _ => ?_⟩
 ·rw [k_,M_] at h;exact absurd h h0
 have len2 : ∀ n : Nat,n < 18446744073709551616 → (Lb.nat n).length ≤ 2:=fun n h => Lb.b_P _ _ (by rw [show Lb.B ^ 2 = 18446744073709551616 from rfl];exact h)
 have l1:=len2 a.natAbs (by omega);have l2:=len2 b.natAbs (by omega);have c:=s_j (!(decide (a < 0) == decide (b < 0))) a.natAbs b.natAbs (by omega) (by omega) (by omega);exact ⟨_,_,o_n a ha,_,_,o_n b hb,_,c,trivial,rfl,rfl,trivial⟩
end Go.Pq
namespace Go.Pl
def ratL (l : List Rat) : List T:=l.map ratT
def v_ (l : List Rat) : T:=.l (ratL l)
theorem a_v (l : List Rat) : (v_ l).list = ratL l:=rfl
theorem d_J (l : List Rat) : (ratL l).length = l.length:=by simp [ratL]
theorem d_B (l : List Rat) : lenOf (ratL l) = (l.length : Int):=by simp [lenOf,ratL]
theorem a_W (l : List Rat) {i : Nat} (h : i < l.length) : (ratL l).getD i .u = ratT (l.getD i 0):=by
 simp [ratL,List.getD_eq_getElem?_getD,h]
theorem C_ (q : Rat) : (ratT q).part 0 3 = ratT q:=rfl
theorem f_S {x : Int} : sgnZ x < 0 ↔ x < 0:=by unfold sgnZ;split <;> (try split) <;> omega
theorem c_l {x : Int} : 0 < sgnZ x ↔ 0 < x:=by unfold sgnZ;split <;> (try split) <;> omega
theorem k_3 {q : Rat} : q.num < 0 ↔ q < 0:=by
 rw [Rat.lt_iff];simp
theorem f_A {q : Rat} : 0 < q.num ↔ 0 < q:=by
 rw [Rat.lt_iff];simp
theorem k_I {a b : Rat} : cmpQ a b < 0 ↔ a < b:=by
 unfold cmpQ;rw [f_S,k_3,Rat.sub_lt_iff,Rat.zero_add]
theorem e_m {a b : Rat} : 0 < cmpQ a b ↔ b < a:=by
 unfold cmpQ;rw [c_l,f_A,← Rat.lt_iff_sub_pos]
theorem j_D {a b : Rat} : cmpQ a b ≤ 0 ↔ a ≤ b:=by
 rw [← Int.not_lt,e_m,Rat.not_lt]
theorem b_H {a b : Rat} : cmpQ a b = 0 ↔ a = b:=by
 constructor
 ·intro h
  have h1 : ¬ a < b:=by rw [← k_I];omega
  have h2 : ¬ b < a:=by rw [← e_m];omega
  rw [Rat.not_lt] at h1 h2;exact Rat.le_antisymm h2 h1
 ·intro h
  subst h;have h1 : ¬ cmpQ a a < 0:=by rw [k_I];exact Rat.lt_irrefl
  have h2 : ¬ 0 < cmpQ a a:=by rw [e_m];exact Rat.lt_irrefl
  omega
theorem k_c (n : Int) : mkQ n 1 = (n : Rat):=by
 unfold mkQ frac;have e : sg (!(decide (n < 0) == decide ((1 : Int) < 0))) n.natAbs = n:=by
  have:=k_v n
  unfold sg at *
  by_cases h : n < 0
  ·simp [h] at this ⊢;omega
  ·simp [h] at this ⊢;omega
 rw [e];exact Rat.mkRat_one n
theorem f_C : rl 1 = 1:=by decide
def Share (q : Rat) : Prop:=0 ≤ q ∧ q ≤ 1
end Go.Pl
namespace Go.Pq
open Go.Pl Go.Proofs
theorem i_j (n : Int) (h : -9223372036854775808 ≤ n ∧ n ≤ 9223372036854775807) : F 56 [.t 2 (.i .i64 n)] (zo 1 23) [ratT (n : Rat)]:=by
 have c:=k_a n 1 h (by decide) (by decide);rw [k_c] at c;exact t_r _ _ ⟨_,_,c,trivial,rfl,trivial⟩
theorem g_a (q : Rat) (hq : rl q ≤ 2 ^ 30) (hs : Share q) : F 65 [.t 23 (ratT q)] (zo 1 4) [.b true]:=by
 have c1:=i_j 1 (by decide);have c2:=b_6 q 1 hq (by rw [f_C];decide);refine t_z _ _ ⟨_,l_t q (by omega),_,fun _ => e_E q (by omega),_,fun _ => c1,_,fun _ => c2,trivial,?_,trivial⟩;have h1 : leI 0 (sgnZ q.num) = true:=by
  rw [a_R,← Int.not_lt,f_S,k_3,Rat.not_lt];exact hs.1
 have h2 : leI (cmpQ q 1) 0 = true:=by rw [a_R,j_D];exact hs.2
 rw [k_,k_,h1,h2];rfl
end Go.Pq
namespace Go.Pl
def sumQ (l : List Rat) : Rat:=l.foldl (· + ·) 0
theorem d_s (l : List Rat) {k : Nat} (h : k < l.length) : sumQ (l.take (k + 1)) = sumQ (l.take k) + l.getD k 0:=by
 unfold sumQ;rw [List.take_succ_eq_append_getElem h,List.foldl_append,List.getD_eq_getElem?_getD,List.getElem?_eq_getElem h];rfl
theorem f_p : rl 0 = 1:=by decide
theorem k_o (l : List Rat) (c : Nat) (h : ∀ q ∈ l,rl q ≤ c) : ∀ k,k ≤ l.length → rl (sumQ (l.take k)) ≤ 1 + k * (c + 1):=by
 intro k
 induction k with
 | zero => intro _;simp [sumQ,f_p]
 | succ k ih =>
  intro hk;rw [d_s l (by omega)];have h1:=p_9 (sumQ (l.take k)) (l.getD k 0);have h2 : rl (l.getD k 0) ≤ c:=by
   rw [List.getD_eq_getElem?_getD,List.getElem?_eq_getElem (by omega)];exact h _ (List.getElem_mem _)
  have h3:=ih (by omega);rw [Nat.add_mul];omega
end Go.Pl
namespace Go.Pq
open Go.Pl Go.Proofs
theorem b_e {l : List Rat} {k : Nat} (h : k < l.length) : l.getD k 0 ∈ l:=by
 rw [List.getD_eq_getElem?_getD,List.getElem?_eq_getElem h];exact List.getElem_mem _
theorem d_w (l : List Rat) (hl : l.length ≤ 2 ^ 40) (h : ∀ q ∈ l,rl q ≤ 2 ^ 30 ∧ Share q) : F 141 [.t 25 (v_ l)] (zo 1 4) [.b true]:=by
 refine q_6 _ _ (fun k => k ≤ l.length) (fun k => l.length - k) ⟨⟨0,Nat.zero_le _,rfl,rfl,rfl,trivial⟩,fun _ => rfl,?_⟩;intro k hk;rw [a_v,d_B];refine ⟨fun h1 => ?_,fun h1 => ⟨trivial,rfl,trivial⟩⟩;rw [d_] at h1;have hlt : k < l.length:=by omega
 rw [Int.toNat_natCast,a_W l hlt,C_];refine ⟨⟨by omega,by omega⟩,_,g_a _ (h _ (b_e hlt)).1 (h _ (b_e hlt)).2,fun h2 => (by cases h2),fun _ => ?_⟩;exact ⟨k + 1,hlt,by omega,rfl,rfl,by rw [c_ (by omega)];rfl,trivial⟩
theorem u_r (l : List Rat) (c : Nat) (hl : l.length ≤ 2 ^ 14) (hc : c ≤ 2 ^ 14) (h : ∀ q ∈ l,rl q ≤ c) : F 142 [.t 25 (v_ l)] (zo 1 23) [ratT (sumQ l)]:=by
 refine q_7 _ _ (fun i => i.1 = ratT (sumQ (l.take i.2)) ∧ i.2 ≤ l.length) (fun i => l.length - i.2) ⟨⟨(ratT 0,0),⟨rfl,Nat.zero_le _⟩,rfl,trivial,rfl,rfl,rfl,trivial,rfl,rfl,rfl,rfl,trivial⟩,fun _ => rfl,?_⟩;rintro ⟨x,k⟩ ⟨hx,hk⟩;simp only at hx hk ⊢;subst hx;rw [a_v,d_B];refine ⟨fun h1 => ?_,fun h1 => ?_⟩
 ·rw [d_] at h1
  have hlt : k < l.length:=by omega
  rw [Int.toNat_natCast,a_W l hlt,C_];have hb:=k_o l c h k (by omega);have hm : k * (c + 1) ≤ 2 ^ 14 * (2 ^ 14 + 1):=Nat.mul_le_mul (by omega) (by omega);have c1:=m_y (sumQ (l.take k)) (l.getD k 0) (by omega) (by have:=h _ (b_e hlt);omega);rw [← d_s l hlt] at c1;exact ⟨⟨by omega,by omega⟩,_,c1,(ratT (sumQ (l.take (k + 1))),k + 1),⟨rfl,hlt⟩,by simp only;omega,(by trivial),(by trivial),(by trivial),(by trivial),(by trivial),(by trivial),(by trivial),(by trivial),(by trivial),by rw [c_ (by omega)];rfl,trivial⟩
 ·rw [l_] at h1
  have : k = l.length:=by omega
  subst this;rw [List.take_length];exact ⟨trivial,rfl,trivial⟩
theorem g_A (q : Rat) (l : List Rat) (c : Nat) (hl : l.length ≤ 2 ^ 14) (hc : c ≤ 2 ^ 14) (hq : rl q ≤ c) (h : ∀ q ∈ l,rl q ≤ c) (hs : q + sumQ l = 1) :
  F 106 [.t 23 (ratT q),.t 25 (v_ l)] (zo 2 4) [.b true]:=by
 have h1:=k_o l c h l.length (Nat.le_refl _);rw [List.take_length] at h1;have hm : l.length * (c + 1) ≤ 2 ^ 14 * (2 ^ 14 + 1):=Nat.mul_le_mul (by omega) (by omega);have c1:=m_y q (sumQ l) (by omega) (by omega);rw [hs] at c1;have c2:=b_6 1 1 (by rw [f_C];decide) (by rw [f_C];decide);rw [b_H.2 rfl] at c2;exact q_G _ _ _ ⟨_,u_r l c hl hc h,_,c1,_,i_j 1 (by decide),_,c2,trivial,rfl,trivial⟩
theorem k_s (l : List Rat) (hl : l.length ≤ 2 ^ 40) (h : ∀ q ∈ l,rl q ≤ 2 ^ 30) : F 79 [.t 25 (v_ l),.t 25 (v_ l)] (zo 2 4) [.b true]:=by
 refine t_M _ _ _ (fun k => k ≤ l.length) (fun k => l.length - k) ?_;rw [a_v,d_B];refine ⟨fun h1 => absurd rfl (b_h.1 h1),fun _ => ⟨⟨0,Nat.zero_le _,rfl,rfl,rfl,rfl,trivial⟩,fun _ => rfl,?_⟩⟩;intro k hk;refine ⟨fun h1 => ?_,fun h1 => ⟨trivial,rfl,trivial⟩⟩;rw [d_] at h1;have hlt : k < l.length:=by omega
 rw [Int.toNat_natCast,a_W l hlt,C_];have hb:=h _ (b_e hlt);have c2:=b_6 _ _ hb hb;rw [b_H.2 rfl] at c2;refine ⟨⟨by omega,by omega⟩,⟨by omega,by omega⟩,_,c2,fun h2 => (by cases h2),fun _ => ?_⟩;exact ⟨k + 1,hlt,by omega,rfl,rfl,rfl,by rw [c_ (by omega)];rfl,trivial⟩
end Go.Pq
namespace Go.Pl
def b_w (m : List (List Rat)) : List T:=m.map v_
def R_ (m : List (List Rat)) : T:=.l (b_w m)
def intL (l : List Nat) : List T:=l.map fun x : Nat => T.i .i64 (x : Int)
def intT (l : List Nat) : T:=.l (intL l)
def a_Y (l : List Bool) : List T:=l.map T.b
def b_b (l : List Bool) : T:=.l (a_Y l)
structure Md where
 sym : Nat
 st : Nat
 empty : Rat
 init : List Rat
 trans : List (List Rat)
 stop : List Rat
 emit : List (List Rat)
 ties : List Nat
def hidT (h : Md) : T:=.g [.i .i64 (h.sym : Int),.i .i64 (h.st : Int),.b (decide (h.empty.num < 0)),lim (Lb.nat h.empty.num.natAbs),den1 h.empty.den,
 v_ h.init,R_ h.trans,v_ h.stop,R_ h.emit,b_b (List.replicate h.st false),intT h.ties]
theorem b_y (m : List (List Rat)) : (R_ m).list = b_w m:=rfl
theorem g_N (m : List (List Rat)) : (b_w m).length = m.length:=by simp [b_w]
theorem j_5 (m : List (List Rat)) : lenOf (b_w m) = (m.length : Int):=by simp [lenOf,b_w]
theorem b_x (m : List (List Rat)) {i : Nat} (h : i < m.length) : (b_w m).getD i .u = v_ (m.getD i []):=by
 simp [b_w,List.getD_eq_getElem?_getD,h]
theorem a_c (l : List Nat) : (intT l).list = intL l:=rfl
theorem T_ (l : List Nat) : (intL l).length = l.length:=by simp [intL]
theorem l_Q (l : List Nat) : lenOf (intL l) = (l.length : Int):=by simp [lenOf,intL]
theorem e_q (l : List Nat) {i : Nat} (h : i < l.length) : (intL l).getD i .u = .i .i64 ((l.getD i 0 : Nat) : Int):=by
 simp [intL,List.getD_eq_getElem?_getD,h]
theorem e_W (l : List Bool) : (b_b l).list = a_Y l:=rfl
theorem d_c (l : List Bool) : (a_Y l).length = l.length:=by simp [a_Y]
theorem j_4 (l : List Bool) : lenOf (a_Y l) = (l.length : Int):=by simp [lenOf,a_Y]
theorem c_w (l : List Bool) {i : Nat} (h : i < l.length) : (a_Y l).getD i .u = .b (l.getD i false):=by
 simp [a_Y,List.getD_eq_getElem?_getD,h]
theorem a_h (l : List Rat) : (v_ l).cell 0 = v_ l:=rfl
structure MdOk (h : Md) (c : Nat) : Prop where
 sym : 1 ≤ h.sym ∧ h.sym ≤ 8
 st : 1 ≤ h.st ∧ h.st ≤ 8
 cc : 1 ≤ c ∧ c ≤ 2 ^ 10
 init : h.init.length = h.st
 trans : h.trans.length = h.st
 stop : h.stop.length = h.st
 emit : h.emit.length = h.st
 ties : h.ties.length = h.st
 rows : ∀ r ∈ h.trans,r.length = h.st
 shows : ∀ r ∈ h.emit,r.length = h.sym
 tie : ∀ t ∈ h.ties,t < h.st
 q0 : rl h.empty ≤ c ∧ Share h.empty
 q1 : ∀ q ∈ h.init,rl q ≤ c ∧ Share q
 q2 : ∀ r ∈ h.trans,∀ q ∈ r,rl q ≤ c ∧ Share q
 q3 : ∀ q ∈ h.stop,rl q ≤ c ∧ Share q
 q4 : ∀ r ∈ h.emit,∀ q ∈ r,rl q ≤ c ∧ Share q
 s0 : h.empty + sumQ h.init = 1
 s1 : ∀ i,i < h.st → h.stop.getD i 0 + sumQ (h.trans.getD i []) = 1
 s2 : ∀ r ∈ h.emit,sumQ r = 1
 tied : ∀ i j,i < h.st → j < i → h.ties.getD i 0 = h.ties.getD j 0 → h.emit.getD i [] = h.emit.getD j []
open Go.RowKit
def i_c (xs : List (TypeId × T)) : List Arg:=xs.map fun p => Arg.t p.1 p.2
theorem f_1 : ∀ (xs : List (TypeId × T)) (j : Nat) (k : Key) (e : Ent),(a_T j (i_c xs)).get k = some e → ∃ i c x,xs[i]? = some (c,x) ∧ k = a_ (j + i) ∧ e = top (.t c x):=by
 intro xs
 induction xs with
 | nil => intro j k e h;cases h
 | cons p r ih =>
  intro j k e h;obtain ⟨c,x⟩:=p;simp only [i_c,List.map_cons,a_T,St.get] at h;split at h
  ·rename_i hk
   exact ⟨0,c,x,rfl,(Key.a_b.1 hk).symm,(Option.some.inj h).symm⟩
  ·obtain ⟨i,c',x',h1,h2,h3⟩:=ih (j + 1) k e h
   exact ⟨i + 1,c',x',h1,by rw [h2];congr 1;omega,h3⟩
theorem j_y : ∀ (xs : List (TypeId × T)) (j : Nat),b_s j (i_c xs) = []:=by
 intro xs
 induction xs with
 | nil => intro j;rfl
 | cons p r ih => intro j;exact ih (j + 1)
theorem Fn.calls {P : Program} {tab : Tab} {f : FuncId} {fn : Func} {c : Code} {xs : List (TypeId × T)} {ty : TypeId} {y : T} (hF : Fn P tab f (i_c xs) [(a_ xs.length,ty,false)] [y]) (hf : P.funcs[f]? = some fn)
  (hname : (fn.name == "runtime.NumGoroutine") = false) (hb : fn.body = some c) (w : World) (vals : Array Value) (hsz : vals.size = xs.length)
  (hV : ∀ (i : Nat) c x v,xs[i]? = some (c,x) → vals[i]? = some v → V tab w (fun _ => False) c v x) :
  Calls P f vals w fun e w' => ∃ v,e = .returned v ∧ Below w.heap.size w w' ∧ ∃ O,V tab w' O ty v y:=by
 have hst : Stays w w (fun _ => False) (Ob ⟨w.heap.size,w,fun _ => False,fun b => ∃ k : Key,(fun _ => none : Key → Option Nat) k = some b⟩ fun _ => none):=by
  intro b _ _;refine ⟨rfl,fun h => ?_⟩
  rcases h with h | ⟨k,h⟩
  ·exact h
  ·cases h
 have hrel : Rel tab ⟨w.heap.size,w,fun _ => False,fun b => ∃ k,(fun _ => none : Key → Option Nat) k = some b⟩ vals w (a_T 0 (i_c xs)) (fun _ => none):=by
  refine ⟨rfl,rfl,rfl,Nat.le_refl _,fun _ _ _ => rfl,fun b h => h.elim,(fun _ _ _ h => by cases h),(fun _ _ h => by cases h),?_,?_,?_⟩
  ·intro s n e he
   obtain ⟨i,c,x,-,hk,-⟩:=f_1 xs 0 _ _ he;exact absurd hk.symm f_
  ·intro s n e he
   obtain ⟨i,c,x,-,hk,-⟩:=f_1 xs 0 _ _ he;exact absurd hk.symm x_
  ·intro k e he
   obtain ⟨i,c,x,hx,rfl,rfl⟩:=f_1 xs 0 _ _ he;have hi : i < vals.size:=by rw [hsz];exact (List.getElem?_eq_some_iff.1 hx).1
   refine ⟨vals[i],?_,fun _ => ?_,fun q => absurd trivial q⟩
   ·rw [i_,Nat.zero_add,Array.getElem?_eq_getElem hi]
   ·exact V.mono hst (hV i c x _ hx (Array.getElem?_eq_getElem hi))
 have hl : (i_c xs).length = xs.length:=by simp [i_c]
 have h:=hF.run w (fun _ => False) vals (fun _ => none) (by rw [hl];exact hsz) hrel;have hcall : (callFunc f vals).run P w = .ok (.enter f vals) w:=by
  have : ¬ fn.name = "runtime.NumGoroutine" := by simpa using hname
  simp [callFunc,hf,this,hb]
 unfold CallsF at h;rw [hcall] at h;refine Calls.mono h ?_;rintro e w' ⟨v,rfl,γ',hr⟩;refine ⟨v,rfl,⟨hr.os,hr.tape,hr.output,hr.size,fun b hb => hr.old b hb (fun ⟨k,hk⟩ => by cases hk)⟩,?_⟩;have hout : b_j (i_c xs) [(a_ xs.length,ty,false)] [y] = [(a_ xs.length,top (.t ty y))]:=by
  unfold b_j;rw [j_y];rfl
 rw [hout] at hr;obtain ⟨u,hu,hv,-⟩:=hr.ent (a_ xs.length) (top (.t ty y)) (by simp only [St.get];rw [Key.a_b.2 rfl]);rw [i_,← hsz] at hu;have : u = v:=by simpa using hu.symm
 subst this;exact ⟨_,hv trivial⟩
end Go.Pl
namespace Go.Pq
open Go.Pl Go.Proofs
def C107 : Ctx:=⟨tab,sigs,87,[0,1,2,3,4,5,6,7,8],[a_ 3],[],[],[],[]⟩
theorem q_H (a0 : T) (y0 : T) (I0 : (List T × Nat) → Prop) (M0 : (List T × Nat) → Nat) (I1 : (List T × Nat) → (List T × Nat) → Prop) (M1 : (List T × Nat) → (List T × Nat) → Nat) (I2 : (List T × Nat) → (List T × Nat) → (Bool × Nat) → Prop) (M2 : (List T × Nat) → (List T × Nat) → (Bool × Nat) → Nat) (I3 : (List T × Nat) → Prop) (M3 : (List T × Nat) → Nat) (h : (0 ≤ (a0.cell 1).int ∧ (a0.cell 1).int ≤ (a0.cell 1).int ∧ (↑1 : Int) * (a0.cell 1).int ≤ (281474976710656 : Int) ∧ (a0.cell 1).int ≤ (9223372036854775807 : Int)) ∧ (∃ (i : List T × Nat),I0 i ∧ R4 a0 (List.replicate (a0.cell 1).int.toNat (T.b false) = i.1 ∧ kI 0 = kI ↑i.2 ∧ True)) ∧ (∀ (i : List T × Nat),true = true) ∧ ∀ (i : List T × Nat),I0 i → (ltI ↑i.2 (a0.cell 1).int = true → (∃ (i_1 : List T × Nat),I1 i i_1 ∧ R4 a0 (i.1 = i_1.1 ∧ kI ↑i.2 = kI ↑i.2 ∧ kI 0 = kI ↑i_1.2 ∧ True)) ∧ (∀ (i : List T × Nat),true = true) ∧ ∀ (i_1 : List T × Nat),I1 i i_1 → (ltI ↑i_1.2 (a0.cell 1).int = true → (∃ (i_2 : Bool × Nat),I2 i i_1 i_2 ∧ R12 a0 i_1.1 i.2 i_1.2 (T.b false = T.b i_2.1 ∧ kI 0 = kI ↑i_2.2 ∧ True)) ∧ (∀ (i : Bool × Nat),true = true) ∧ ∀ (i_2 : Bool × Nat),I2 i i_1 i_2 → (ltI ↑i_2.2 (a0.cell 1).int = true → (i_2.1 = false ∧ True → 0 ≤ (↑i_2.2 : Int) ∧ (↑i_2.2 : Int) < lenOf (a0.cell 9).list) ∧ (i_2.1 = false ∧ (((a0.cell 9).list.getD (↑i_2.2 : Int).toNat T.u).cell 0).bool = true ∧ True → 0 ≤ (↑i_2.2 : Int) ∧ (↑i_2.2 : Int) < (↑i_1.1.length : Int)) ∧ (i_2.1 = false ∧ (T.ite (((a0.cell 9).list.getD (↑i_2.2 : Int).toNat T.u).cell 0).bool (T.b !((i_1.1.getD (0 + (↑i_2.2 : Int).toNat) T.u).cell 0).bool) (T.b false)).bool = true ∧ True → 0 ≤ (↑i_1.2 : Int) ∧ (↑i_1.2 : Int) < lenOf (a0.cell 6).list) ∧ (i_2.1 = false ∧ (T.ite (((a0.cell 9).list.getD (↑i_2.2 : Int).toNat T.u).cell 0).bool (T.b !((i_1.1.getD (0 + (↑i_2.2 : Int).toNat) T.u).cell 0).bool) (T.b false)).bool = true ∧ True → 0 ≤ (↑i_2.2 : Int) ∧ (↑i_2.2 : Int) < lenOf (((a0.cell 6).list.getD (↑i_1.2 : Int).toNat T.u).cell 0).list) ∧ ∃ y : T,(i_2.1 = false ∧ (T.ite (((a0.cell 9).list.getD (↑i_2.2 : Int).toNat T.u).cell 0).bool (T.b !((i_1.1.getD (0 + (↑i_2.2 : Int).toNat) T.u).cell 0).bool) (T.b false)).bool = true ∧ True → F 48 [.t 23 (((((a0.cell 6).list.getD (↑i_1.2 : Int).toNat T.u).cell 0).list.getD (↑i_2.2 : Int).toNat T.u).part 0 3)] (zo 1 2) [y]) ∧ ∃ (j : Bool × Nat),I2 i i_1 j ∧ M2 i i_1 j < M2 i i_1 i_2 ∧ R12 a0 i_1.1 i.2 i_1.2 (T.ite i_2.1 (T.b true) (T.ite (T.ite (((a0.cell 9).list.getD (↑i_2.2 : Int).toNat T.u).cell 0).bool (T.b !((i_1.1.getD (0 + (↑i_2.2 : Int).toNat) T.u).cell 0).bool) (T.b false)).bool (T.b (ltI 0 y.int)) (T.b false)) = T.b j.1 ∧ kI (addI .i64 ↑i_2.2 1) = kI ↑j.2 ∧ True)) ∧ (ltI ↑i_2.2 (a0.cell 1).int = false → (Bd ↑i_1.2 (↑i_1.1.length : Int)) ∧ ((T.ite ((i_1.1.getD (0 + (↑i_1.2 : Int).toNat) T.u).cell 0).bool (T.b true) (T.b !i_2.1)).bool = false ∧ True → 0 ≤ (↑i_1.2 : Int) ∧ (↑i_1.2 : Int) < lenOf (a0.cell 9).list) ∧ (Bd ↑i_1.2 (↑i_1.1.length : Int)) ∧ ∃ (j : List T × Nat),I1 i j ∧ M1 i j < M1 i i_1 ∧ R4 a0 (i_1.1.set (0 + (↑i_1.2 : Int).toNat) (T.ite (T.ite ((i_1.1.getD (0 + (↑i_1.2 : Int).toNat) T.u).cell 0).bool (T.b true) (T.b !i_2.1)).bool (T.b true) (T.b !(((a0.cell 9).list.getD (↑i_1.2 : Int).toNat T.u).cell 0).bool)) = j.1 ∧ kI ↑i.2 = kI ↑i.2 ∧ kI (addI .i64 ↑i_1.2 1) = kI ↑j.2 ∧ True))) ∧ (ltI ↑i_1.2 (a0.cell 1).int = false → ∃ (j : List T × Nat),I0 j ∧ M0 j < M0 i ∧ R4 a0 (i_1.1 = j.1 ∧ kI (addI .i64 ↑i.2 1) = kI ↑j.2 ∧ True))) ∧ (ltI ↑i.2 (a0.cell 1).int = false → (∃ (i_1 : List T × Nat),I3 i_1 ∧ R4 a0 (i.1 = i_1.1 ∧ kI 0 = kI ↑i_1.2 ∧ True)) ∧ (∀ (i : List T × Nat),true = true) ∧ ∀ (i : List T × Nat),I3 i → (ltI ↑i.2 (a0.cell 1).int = true → (Bd ↑i.2 (↑i.1.length : Int)) ∧ ((!((i.1.getD (0 + (↑i.2 : Int).toNat) T.u).cell 0).bool) = true → True ∧ T.b true = y0 ∧ True) ∧ ((!((i.1.getD (0 + (↑i.2 : Int).toNat) T.u).cell 0).bool) = false → ∃ (j : List T × Nat),I3 j ∧ M3 j < M3 i ∧ R4 a0 (i.1 = j.1 ∧ kI (addI .i64 ↑i.2 1) = kI ↑j.2 ∧ True))) ∧ (ltI ↑i.2 (a0.cell 1).int = false → True ∧ T.b false = y0 ∧ True))) : F 107 [.t 29 a0] (zo 1 4) [y0] :=
 F_nf C107 (by kernel_rfl) Tryz.func107 (by kernel_rfl) (.two .no (.two .no (.two (.two .no (.lp (fun (ia : List T × Nat) => [(a_ 0,AV.t 29 a0),(a_ 1,AV.box 29 0 11)] ++ bxS 1 a0 0 Y2 ++ [(a_ 2,AV.t 4 (T.b false)),(a_ 3,.own 27 0 ia.1),(a_ 4,.t 2 (.i .i64 (ia.2 : Int)))]) I0 M0 (fun (ia : List T × Nat) => (.two .no (.two (.two .no (.lp (fun (ib : List T × Nat) => [(a_ 0,AV.t 29 a0),(a_ 1,AV.box 29 0 11)] ++ bxS 1 a0 0 Y2 ++ [(a_ 2,AV.t 4 (T.b false)),(a_ 3,.own 27 0 ib.1),(a_ 4,AV.t 2 (T.i IntKind.i64 (↑ia.2 : Int))),(a_ 5,.t 2 (.i .i64 (ib.2 : Int)))]) (I1 ia) (M1 ia) (fun (ib : List T × Nat) => (.two .no (.two (.two .no (.two (.two .no (.lp (fun (ic : Bool × Nat) => [(a_ 0,AV.t 29 a0),(a_ 1,AV.box 29 0 11)] ++ bxS 1 a0 0 Y2 ++ [(a_ 2,AV.t 4 (T.b false)),(a_ 3,AV.own 27 0 ib.1),(a_ 4,AV.t 2 (T.i IntKind.i64 (↑ia.2 : Int))),(a_ 5,AV.t 2 (T.i IntKind.i64 (↑ib.2 : Int))),(a_ 6,.t 4 (.b ic.1)),(a_ 7,.t 2 (.i .i64 (ic.2 : Int)))]) (I2 ia ib) (M2 ia ib) (fun _ => .no))) .no)) .no))))) .no))))) (.two (.two .no (.lp (fun (id : List T × Nat) => [(a_ 0,AV.t 29 a0),(a_ 1,AV.box 29 0 11)] ++ bxS 1 a0 0 Y2 ++ [(a_ 2,AV.t 4 (T.b false)),(a_ 3,.own 27 0 id.1),(a_ 8,.t 2 (.i .i64 (id.2 : Int)))]) I3 M3 (fun _ => .no))) .no)))) (by kernel_rfl) h
def C105 : Ctx:=⟨tab,sigs,143,[0,1,2,3,4],[],[],[],[],[]⟩
theorem q_F (a0 : T) (y0 : T) (I0 : Nat → Prop) (M0 : Nat → Nat) (h : ((T.ite (T.ite (T.ite (T.ite (T.ite (neI (lenOf (a0.cell 5).list) (a0.cell 1).int) (T.b true) (T.b (neI (lenOf (a0.cell 7).list) (a0.cell 1).int))).bool (T.b true) (T.b (neI (lenOf (a0.cell 9).list) (a0.cell 1).int))).bool (T.b true) (T.b (neI (lenOf (a0.cell 10).list) (a0.cell 1).int))).bool (T.b true) (T.b (neI (lenOf (a0.cell 6).list) (a0.cell 1).int))).bool (T.b true) (T.b (neI (lenOf (a0.cell 8).list) (a0.cell 1).int))).bool = true → True ∧ T.b false = y0 ∧ True) ∧ ((T.ite (T.ite (T.ite (T.ite (T.ite (neI (lenOf (a0.cell 5).list) (a0.cell 1).int) (T.b true) (T.b (neI (lenOf (a0.cell 7).list) (a0.cell 1).int))).bool (T.b true) (T.b (neI (lenOf (a0.cell 9).list) (a0.cell 1).int))).bool (T.b true) (T.b (neI (lenOf (a0.cell 10).list) (a0.cell 1).int))).bool (T.b true) (T.b (neI (lenOf (a0.cell 6).list) (a0.cell 1).int))).bool (T.b true) (T.b (neI (lenOf (a0.cell 8).list) (a0.cell 1).int))).bool = false → (∃ i : Nat,I0 i ∧ R13 a0 (kI 0 = kI ↑i ∧ True)) ∧ (∀ i : Nat,true = true) ∧ ∀ i : Nat,I0 i → (ltI ↑i (a0.cell 1).int = true → (Bd ↑i (lenOf (a0.cell 6).list)) ∧ (neI (lenOf (((a0.cell 6).list.getD (↑i : Int).toNat T.u).cell 0).list) (a0.cell 1).int = false ∧ True → 0 ≤ (↑i : Int) ∧ (↑i : Int) < lenOf (a0.cell 9).list) ∧ (neI (lenOf (((a0.cell 6).list.getD (↑i : Int).toNat T.u).cell 0).list) (a0.cell 1).int = false ∧ (((a0.cell 9).list.getD (↑i : Int).toNat T.u).cell 0).bool = true ∧ True → 0 ≤ (↑i : Int) ∧ (↑i : Int) < lenOf (a0.cell 8).list) ∧ ((T.ite (neI (lenOf (((a0.cell 6).list.getD (↑i : Int).toNat T.u).cell 0).list) (a0.cell 1).int) (T.b true) (T.ite (((a0.cell 9).list.getD (↑i : Int).toNat T.u).cell 0).bool (T.b (neI (lenOf (((a0.cell 8).list.getD (↑i : Int).toNat T.u).cell 0).list) (0 : Int))) (T.b false))).bool = false ∧ True → 0 ≤ (↑i : Int) ∧ (↑i : Int) < lenOf (a0.cell 9).list) ∧ ((T.ite (neI (lenOf (((a0.cell 6).list.getD (↑i : Int).toNat T.u).cell 0).list) (a0.cell 1).int) (T.b true) (T.ite (((a0.cell 9).list.getD (↑i : Int).toNat T.u).cell 0).bool (T.b (neI (lenOf (((a0.cell 8).list.getD (↑i : Int).toNat T.u).cell 0).list) (0 : Int))) (T.b false))).bool = false ∧ (!(((a0.cell 9).list.getD (↑i : Int).toNat T.u).cell 0).bool) = true ∧ True → 0 ≤ (↑i : Int) ∧ (↑i : Int) < lenOf (a0.cell 8).list) ∧ ((T.ite (T.ite (neI (lenOf (((a0.cell 6).list.getD (↑i : Int).toNat T.u).cell 0).list) (a0.cell 1).int) (T.b true) (T.ite (((a0.cell 9).list.getD (↑i : Int).toNat T.u).cell 0).bool (T.b (neI (lenOf (((a0.cell 8).list.getD (↑i : Int).toNat T.u).cell 0).list) (0 : Int))) (T.b false))).bool (T.b true) (T.ite (!(((a0.cell 9).list.getD (↑i : Int).toNat T.u).cell 0).bool) (T.b (neI (lenOf (((a0.cell 8).list.getD (↑i : Int).toNat T.u).cell 0).list) (a0.cell 0).int)) (T.b false))).bool = false ∧ True → 0 ≤ (↑i : Int) ∧ (↑i : Int) < lenOf (a0.cell 6).list) ∧ ∃ y : T,((T.ite (T.ite (neI (lenOf (((a0.cell 6).list.getD (↑i : Int).toNat T.u).cell 0).list) (a0.cell 1).int) (T.b true) (T.ite (((a0.cell 9).list.getD (↑i : Int).toNat T.u).cell 0).bool (T.b (neI (lenOf (((a0.cell 8).list.getD (↑i : Int).toNat T.u).cell 0).list) (0 : Int))) (T.b false))).bool (T.b true) (T.ite (!(((a0.cell 9).list.getD (↑i : Int).toNat T.u).cell 0).bool) (T.b (neI (lenOf (((a0.cell 8).list.getD (↑i : Int).toNat T.u).cell 0).list) (a0.cell 0).int)) (T.b false))).bool = false ∧ True → F 141 [.t 25 (((a0.cell 6).list.getD (↑i : Int).toNat T.u).cell 0)] (zo 1 4) [y]) ∧ ((T.ite (T.ite (T.ite (neI (lenOf (((a0.cell 6).list.getD (↑i : Int).toNat T.u).cell 0).list) (a0.cell 1).int) (T.b true) (T.ite (((a0.cell 9).list.getD (↑i : Int).toNat T.u).cell 0).bool (T.b (neI (lenOf (((a0.cell 8).list.getD (↑i : Int).toNat T.u).cell 0).list) (0 : Int))) (T.b false))).bool (T.b true) (T.ite (!(((a0.cell 9).list.getD (↑i : Int).toNat T.u).cell 0).bool) (T.b (neI (lenOf (((a0.cell 8).list.getD (↑i : Int).toNat T.u).cell 0).list) (a0.cell 0).int)) (T.b false))).bool (T.b true) (T.b !y.bool)).bool = false ∧ True → 0 ≤ (↑i : Int) ∧ (↑i : Int) < lenOf (a0.cell 8).list) ∧ ∃ y_1 : T,((T.ite (T.ite (T.ite (neI (lenOf (((a0.cell 6).list.getD (↑i : Int).toNat T.u).cell 0).list) (a0.cell 1).int) (T.b true) (T.ite (((a0.cell 9).list.getD (↑i : Int).toNat T.u).cell 0).bool (T.b (neI (lenOf (((a0.cell 8).list.getD (↑i : Int).toNat T.u).cell 0).list) (0 : Int))) (T.b false))).bool (T.b true) (T.ite (!(((a0.cell 9).list.getD (↑i : Int).toNat T.u).cell 0).bool) (T.b (neI (lenOf (((a0.cell 8).list.getD (↑i : Int).toNat T.u).cell 0).list) (a0.cell 0).int)) (T.b false))).bool (T.b true) (T.b !y.bool)).bool = false ∧ True → F 141 [.t 25 (((a0.cell 8).list.getD (↑i : Int).toNat T.u).cell 0)] (zo 1 4) [y_1]) ∧ ((T.ite (T.ite (T.ite (T.ite (neI (lenOf (((a0.cell 6).list.getD (↑i : Int).toNat T.u).cell 0).list) (a0.cell 1).int) (T.b true) (T.ite (((a0.cell 9).list.getD (↑i : Int).toNat T.u).cell 0).bool (T.b (neI (lenOf (((a0.cell 8).list.getD (↑i : Int).toNat T.u).cell 0).list) (0 : Int))) (T.b false))).bool (T.b true) (T.ite (!(((a0.cell 9).list.getD (↑i : Int).toNat T.u).cell 0).bool) (T.b (neI (lenOf (((a0.cell 8).list.getD (↑i : Int).toNat T.u).cell 0).list) (a0.cell 0).int)) (T.b false))).bool (T.b true) (T.b !y.bool)).bool (T.b true) (T.b !y_1.bool)).bool = false ∧ True → 0 ≤ (↑i : Int) ∧ (↑i : Int) < lenOf (a0.cell 10).list) ∧ ((T.ite (T.ite (T.ite (T.ite (T.ite (neI (lenOf (((a0.cell 6).list.getD (↑i : Int).toNat T.u).cell 0).list) (a0.cell 1).int) (T.b true) (T.ite (((a0.cell 9).list.getD (↑i : Int).toNat T.u).cell 0).bool (T.b (neI (lenOf (((a0.cell 8).list.getD (↑i : Int).toNat T.u).cell 0).list) (0 : Int))) (T.b false))).bool (T.b true) (T.ite (!(((a0.cell 9).list.getD (↑i : Int).toNat T.u).cell 0).bool) (T.b (neI (lenOf (((a0.cell 8).list.getD (↑i : Int).toNat T.u).cell 0).list) (a0.cell 0).int)) (T.b false))).bool (T.b true) (T.b !y.bool)).bool (T.b true) (T.b !y_1.bool)).bool (T.b true) (T.b (ltI (((a0.cell 10).list.getD (↑i : Int).toNat T.u).cell 0).int (0 : Int)))).bool = false ∧ True → 0 ≤ (↑i : Int) ∧ (↑i : Int) < lenOf (a0.cell 10).list) ∧ ((T.ite (T.ite (T.ite (T.ite (T.ite (T.ite (neI (lenOf (((a0.cell 6).list.getD (↑i : Int).toNat T.u).cell 0).list) (a0.cell 1).int) (T.b true) (T.ite (((a0.cell 9).list.getD (↑i : Int).toNat T.u).cell 0).bool (T.b (neI (lenOf (((a0.cell 8).list.getD (↑i : Int).toNat T.u).cell 0).list) (0 : Int))) (T.b false))).bool (T.b true) (T.ite (!(((a0.cell 9).list.getD (↑i : Int).toNat T.u).cell 0).bool) (T.b (neI (lenOf (((a0.cell 8).list.getD (↑i : Int).toNat T.u).cell 0).list) (a0.cell 0).int)) (T.b false))).bool (T.b true) (T.b !y.bool)).bool (T.b true) (T.b !y_1.bool)).bool (T.b true) (T.b (ltI (((a0.cell 10).list.getD (↑i : Int).toNat T.u).cell 0).int (0 : Int)))).bool (T.b true) (T.b (leI (a0.cell 1).int (((a0.cell 10).list.getD (↑i : Int).toNat T.u).cell 0).int))).bool = true → True ∧ T.b false = y0 ∧ True) ∧ ((T.ite (T.ite (T.ite (T.ite (T.ite (T.ite (neI (lenOf (((a0.cell 6).list.getD (↑i : Int).toNat T.u).cell 0).list) (a0.cell 1).int) (T.b true) (T.ite (((a0.cell 9).list.getD (↑i : Int).toNat T.u).cell 0).bool (T.b (neI (lenOf (((a0.cell 8).list.getD (↑i : Int).toNat T.u).cell 0).list) (0 : Int))) (T.b false))).bool (T.b true) (T.ite (!(((a0.cell 9).list.getD (↑i : Int).toNat T.u).cell 0).bool) (T.b (neI (lenOf (((a0.cell 8).list.getD (↑i : Int).toNat T.u).cell 0).list) (a0.cell 0).int)) (T.b false))).bool (T.b true) (T.b !y.bool)).bool (T.b true) (T.b !y_1.bool)).bool (T.b true) (T.b (ltI (((a0.cell 10).list.getD (↑i : Int).toNat T.u).cell 0).int (0 : Int)))).bool (T.b true) (T.b (leI (a0.cell 1).int (((a0.cell 10).list.getD (↑i : Int).toNat T.u).cell 0).int))).bool = false → ∃ j : Nat,I0 j ∧ M0 j < M0 i ∧ R13 a0 (kI (addI .i64 ↑i 1) = kI ↑j ∧ True))) ∧ (ltI ↑i (a0.cell 1).int = false → ∃ y : T,F 141 [.t 25 (a0.cell 5)] (zo 1 4) [y] ∧ ∃ y_1 : T,(y.bool = true ∧ True → F 141 [.t 25 (a0.cell 7)] (zo 1 4) [y_1]) ∧ ∃ y_2 : T,((T.ite y.bool y_1 (T.b false)).bool = true ∧ True → F 65 [.t 23 (T.g [a0.cell 2,a0.cell 3,a0.cell 4])] (zo 1 4) [y_2]) ∧ True ∧ T.ite (T.ite y.bool y_1 (T.b false)).bool y_2 (T.b false) = y0 ∧ True))) : F 105 [.t 29 a0] (zo 1 4) [y0] :=
 F_nf C105 (by kernel_rfl) Tryz.func105 (by kernel_rfl) (.two .no (.two .no (.two .no (.two (.two .no (.lp (fun (ia : Nat) => [(a_ 0,AV.t 29 a0),(a_ 1,AV.box 29 0 11)] ++ bxS 1 a0 0 Y2 ++ [(a_ 2,AV.t 4 (T.b false)),(a_ 3,AV.t 2 (a0.cell 1)),(a_ 4,.t 2 (.i .i64 (ia : Int)))]) I0 M0 (fun _ => .no))) .no)))) (by kernel_rfl) h
end Go.Pq
namespace Go.Pl
theorem r_ {α : Type} {l : List α} {d : α} {i : Nat} (h : i < l.length) : l.getD i d ∈ l:=by
 rw [List.getD_eq_getElem?_getD,List.getElem?_eq_getElem h];exact List.getElem_mem _
theorem a_7 (h : Md) : (G11 (hidT h)) = hidT h:=rfl
theorem c_E (h : Md) : T.g [(hidT h).cell 2,(hidT h).cell 3,(hidT h).cell 4] = ratT h.empty:=rfl
theorem h_S (h : Md) : ((hidT h).cell 0).int = (h.sym : Int):=rfl
theorem d_P (h : Md) : ((hidT h).cell 1).int = (h.st : Int):=rfl
theorem c_Q (h : Md) : (hidT h).cell 5 = v_ h.init:=rfl
theorem b_K (h : Md) : (hidT h).cell 6 = R_ h.trans:=rfl
theorem d_y (h : Md) : (hidT h).cell 7 = v_ h.stop:=rfl
theorem c_h (h : Md) : (hidT h).cell 8 = R_ h.emit:=rfl
theorem c_p (h : Md) : (hidT h).cell 9 = b_b (List.replicate h.st false):=rfl
theorem d_z (h : Md) : (hidT h).cell 10 = intT h.ties:=rfl
section
variable {h : Md} {c : Nat} (hk : MdOk h c) {i : Nat} (hi : i < h.st)
include hk hi
theorem MdOk.tr : (R_ h.trans).list.getD (i : Int).toNat T.u = v_ (h.trans.getD i []):=by
 rw [Int.toNat_natCast,b_y];exact b_x _ (by have:=hk.trans;omega)
theorem MdOk.em : (R_ h.emit).list.getD (i : Int).toNat T.u = v_ (h.emit.getD i []):=by
 rw [Int.toNat_natCast,b_y];exact b_x _ (by have:=hk.emit;omega)
theorem MdOk.sp : (v_ h.stop).list.getD (i : Int).toNat T.u = ratT (h.stop.getD i 0):=by
 rw [Int.toNat_natCast,a_v];exact a_W _ (by have:=hk.stop;omega)
theorem MdOk.it : (v_ h.init).list.getD (i : Int).toNat T.u = ratT (h.init.getD i 0):=by
 rw [Int.toNat_natCast,a_v];exact a_W _ (by have:=hk.init;omega)
theorem MdOk.si : (b_b (List.replicate h.st false)).list.getD (i : Int).toNat T.u = .b false:=by
 rw [Int.toNat_natCast,e_W,c_w _ (by simpa using hi)];simp [List.getD_eq_getElem?_getD,hi]
theorem MdOk.ti : (intT h.ties).list.getD (i : Int).toNat T.u = .i .i64 ((h.ties.getD i 0 : Nat) : Int):=by
 rw [Int.toNat_natCast,a_c];exact e_q _ (by have:=hk.ties;omega)
theorem MdOk.trl : (h.trans.getD i []).length = h.st:=hk.rows _ (r_ (by have:=hk.trans;omega))
theorem MdOk.eml : (h.emit.getD i []).length = h.sym:=hk.shows _ (r_ (by have:=hk.emit;omega))
theorem MdOk.trq : ∀ q ∈ h.trans.getD i [],rl q ≤ c ∧ Share q:=hk.q2 _ (r_ (by have:=hk.trans;omega))
theorem MdOk.emq : ∀ q ∈ h.emit.getD i [],rl q ≤ c ∧ Share q:=hk.q4 _ (r_ (by have:=hk.emit;omega))
theorem MdOk.til : h.ties.getD i 0 < h.st:=hk.tie _ (r_ (by have:=hk.ties;omega))
end
theorem a_x (m : List (List Rat)) : lenOf (R_ m).list = (m.length : Int):=by rw [b_y,j_5]
theorem z_ (m : List Rat) : lenOf (v_ m).list = (m.length : Int):=by rw [a_v,d_B]
theorem b_L (m : List Bool) : lenOf (b_b m).list = (m.length : Int):=by rw [e_W,j_4]
theorem D_ (m : List Nat) : lenOf (intT m).list = (m.length : Int):=by rw [a_c,l_Q]
theorem a_f (x : Int) : neI x x = false:=c_i.2 rfl
theorem c_N (x : Int) : eqI x x = true:=M_.2 rfl
end Go.Pl
namespace Go.Pq
open Go.Pl Go.Proofs
theorem n_r (h : Md) (c : Nat) (hk : MdOk h c) : F 105 [.t 29 (hidT h)] (zo 1 4) [.b true]:=by
 have hst:=hk.st;have hsy:=hk.sym;have hc:=hk.cc;refine q_F _ _ (fun i => i ≤ h.st) (fun i => h.st - i) ?_;rw [c_E,d_P,h_S,c_Q,b_K,d_y,c_h,c_p,d_z,z_,z_,a_x,a_x,b_L,D_,hk.init,hk.stop,hk.trans,hk.emit,hk.ties,List.length_replicate,a_f];refine ⟨fun h1 => (by cases h1),fun _ => ⟨⟨0,Nat.zero_le _,(by and_intros <;> first | exact trivial | rfl | (rw [c_ (by omega)];rfl))⟩,fun _ => rfl,?_⟩⟩;intro i hi;refine ⟨fun h1 => ?_,fun h1 => ?_⟩
 ·rw [d_] at h1
  have hlt : i < h.st:=by omega
  rw [hk.tr hlt,hk.em hlt,hk.si hlt,hk.ti hlt,a_h,a_h,z_,z_,hk.trl hlt,hk.eml hlt,a_f,a_f];have hti:=hk.til hlt;have b1 : ltI ((T.i .i64 ((h.ties.getD i 0 : Nat) : Int)).cell 0).int 0 = false:=by rw [l_];show (0 : Int) ≤ ((h.ties.getD i 0 : Nat) : Int);omega
  have b2 : leI (h.st : Int) ((T.i .i64 ((h.ties.getD i 0 : Nat) : Int)).cell 0).int = false:=by rw [b_o];show ((h.ties.getD i 0 : Nat) : Int) < _;omega
  refine ⟨⟨by omega,by omega⟩,fun _ => ⟨by omega,by omega⟩,fun _ => ⟨by omega,by omega⟩,fun _ => ⟨by omega,by omega⟩,fun _ => ⟨by omega,by omega⟩,fun _ => ⟨by omega,by omega⟩,_,fun _ => d_w _ (by rw [hk.trl hlt];omega) (fun q hq => ⟨by have:=(hk.trq hlt q hq).1;omega,(hk.trq hlt q hq).2⟩),fun _ => ⟨by omega,by omega⟩,_,fun _ => d_w _ (by rw [hk.eml hlt];omega) (fun q hq => ⟨by have:=(hk.emq hlt q hq).1;omega,(hk.emq hlt q hq).2⟩),fun _ => ⟨by omega,by omega⟩,fun _ => ⟨by omega,by omega⟩,?_,?_⟩
  ·rw [b1,b2];intro q;cases q
  ·intro _
   exact ⟨i + 1,hlt,by omega,(by and_intros <;> first | exact trivial | rfl | (rw [c_ (by omega)];rfl))⟩
 ·refine ⟨_,d_w _ (by rw [hk.init];omega) (fun q hq => ⟨by have:=(hk.q1 q hq).1;omega,(hk.q1 q hq).2⟩),_,fun _ => d_w _ (by rw [hk.stop];omega) (fun q hq => ⟨by have:=(hk.q3 q hq).1;omega,(hk.q3 q hq).2⟩),_,fun _ => g_a _ (by have:=hk.q0.1;omega) hk.q0.2,trivial,rfl,trivial⟩
theorem l_F (h : Md) (c : Nat) (hk : MdOk h c) : F 107 [.t 29 (hidT h)] (zo 1 4) [.b false]:=by
 have hst:=hk.st;refine q_H _ _ (fun i => (∃ g,i.1 = a_Y g ∧ g.length = h.st ∧ (1 ≤ i.2 → ∀ j,j < h.st → g.getD j false = true)) ∧ i.2 ≤ h.st) (fun i => h.st - i.2)
  (fun _ i => (∃ g,i.1 = a_Y g ∧ g.length = h.st ∧ ∀ j,j < i.2 → g.getD j false = true) ∧ i.2 ≤ h.st) (fun _ i => h.st - i.2)
  (fun _ _ i => i.1 = false ∧ i.2 ≤ h.st) (fun _ _ i => h.st - i.2)
  (fun i => (∃ g,i.1 = a_Y g ∧ g.length = h.st ∧ ∀ j,j < h.st → g.getD j false = true) ∧ i.2 ≤ h.st) (fun i => h.st - i.2) ?_
 rw [d_P,b_K,c_p,a_x,b_L,hk.trans,List.length_replicate];refine ⟨⟨by omega,by omega,by omega,by omega⟩,⟨(a_Y (List.replicate h.st false),0),⟨⟨_,rfl,by simp,fun q => (by simp at q)⟩,Nat.zero_le _⟩,(by trivial),(by trivial),(by trivial),(by trivial),(by trivial),(by trivial),(by trivial),(by trivial),(by trivial),(by trivial),(by trivial),(by trivial),(by trivial),(by trivial),by rw [Int.toNat_natCast];simp [a_Y],(by trivial),trivial⟩,fun _ => rfl,?_⟩;rintro ⟨gs,i⟩ ⟨⟨g,hg,hgl,hga⟩,hi⟩;dsimp only at hg hga hi ⊢;refine ⟨fun h1 => ?_,fun h1 => ?_⟩
 ·rw [d_] at h1
  refine ⟨⟨(gs,0),⟨⟨g,hg,hgl,fun j hj => (by simp at hj)⟩,Nat.zero_le _⟩,(by and_intros <;> first | exact trivial | rfl | (rw [c_ (by omega)];rfl))⟩,fun _ => rfl,?_⟩;rintro ⟨gs1,i1⟩ ⟨⟨g1,hg1,hgl1,hga1⟩,hi1⟩;dsimp only at hg1 hga1 hi1 ⊢;subst hg1;refine ⟨fun h2 => ?_,fun h2 => ?_⟩
  ·rw [d_] at h2
   have hlt1 : i1 < h.st:=by omega
   refine ⟨⟨(false,0),⟨rfl,Nat.zero_le _⟩,(by and_intros <;> first | exact trivial | rfl | (rw [c_ (by omega)];rfl))⟩,fun _ => rfl,?_⟩;rintro ⟨o,k⟩ ⟨ho,hkk⟩;dsimp only at ho hkk ⊢;subst ho;refine ⟨fun h3 => ?_,fun h3 => ?_⟩
   ·rw [d_] at h3
    have hlt : k < h.st:=by omega
    rw [hk.si hlt];refine ⟨fun _ => ⟨by omega,by omega⟩,fun q => (by cases q.2.1),fun q => (by cases q.2.1),fun q => (by cases q.2.1),.i .i64 0,fun q => (by cases q.2.1),(false,k + 1),⟨rfl,hlt⟩,by simp only;omega,(by and_intros <;> first | exact trivial | rfl | (rw [c_ (by omega)];rfl))⟩
   ·rw [hk.si hlt1,d_c]
    refine ⟨⟨by omega,by omega⟩,fun _ => ⟨by omega,by omega⟩,⟨by omega,by omega⟩,(a_Y (g1.set i1 true),i1 + 1),⟨⟨_,rfl,by simpa using hgl1,fun j hj => ?_⟩,hlt1⟩,by simp only;omega,(by trivial),(by trivial),(by trivial),(by trivial),(by trivial),(by trivial),(by trivial),(by trivial),(by trivial),(by trivial),(by trivial),(by trivial),(by trivial),(by trivial),?_,(by trivial),by rw [c_ (by omega)];rfl,trivial⟩
    ·rw [List.getD_eq_getElem?_getD,List.getElem?_set]
     by_cases e : i1 = j
     ·rw [if_pos e,if_pos (by omega)];rfl
     ·rw [if_neg e,← List.getD_eq_getElem?_getD];exact hga1 j (by omega)
    ·have hx : ((a_Y g1).getD (0 + (i1 : Int).toNat) T.u).cell 0 = T.b (g1.getD i1 false):=by
      rw [Nat.zero_add,Int.toNat_natCast,c_w _ (by omega)];rfl
     rw [hx,Nat.zero_add,Int.toNat_natCast];simp only
     show (a_Y g1).set i1 (T.ite (T.ite (g1.getD i1 false) (T.b true) (T.b true)).bool (T.b true) (T.b true)) = _
     have : ∀ b : Bool,T.ite (T.ite b (T.b true) (T.b true)).bool (T.b true) (T.b true) = T.b true:=by intro b;cases b <;> rfl
     rw [this];simp [a_Y,List.map_set]
  ·rw [l_] at h2
   have : i1 = h.st:=by omega
   subst this;exact ⟨(a_Y g1,i + 1),⟨⟨g1,rfl,hgl1,fun _ => hga1⟩,by omega⟩,by simp only;omega,(by and_intros <;> first | exact trivial | rfl | (rw [c_ (by omega)];rfl))⟩
 ·rw [l_] at h1
  have : i = h.st:=by omega
  subst this;refine ⟨⟨(gs,0),⟨⟨g,hg,hgl,hga (by omega)⟩,Nat.zero_le _⟩,(by and_intros <;> first | exact trivial | rfl | (rw [c_ (by omega)];rfl))⟩,fun _ => rfl,?_⟩;rintro ⟨gs1,i1⟩ ⟨⟨g1,hg1,hgl1,hga1⟩,hi1⟩;dsimp only at hg1 hga1 hi1 ⊢;subst hg1;refine ⟨fun h2 => ?_,fun h2 => ⟨trivial,rfl,trivial⟩⟩;rw [d_] at h2;have hx : ((a_Y g1).getD (0 + (i1 : Int).toNat) T.u).cell 0 = T.b true:=by
   rw [Nat.zero_add,Int.toNat_natCast,c_w _ (by omega),hga1 i1 (by omega)];rfl
  rw [hx,d_c];refine ⟨⟨by omega,by omega⟩,fun q => (by cases q),fun _ => ⟨(a_Y g1,i1 + 1),⟨⟨g1,rfl,hgl1,hga1⟩,by omega⟩,by simp only;omega,(by and_intros <;> first | exact trivial | rfl | (rw [c_ (by omega)];rfl))⟩⟩
theorem j_A {w : World} {s : Go.Addr} {k : Nat} {v : Value} (hlt : s.block < w.heap.size) (h : w.cell? (s.add k) = some v) (o1 o2 o3 o4 o5 : Obj) :
  (((((w.alloc o1).alloc o2).alloc o3).alloc o4).alloc o5).cell? (s.add k) = some v:=by
 have e : (s.add k).block = s.block:=by
  unfold Go.Addr.add;split <;> rfl
 have hs : ∀ (u : World) (o : Obj),(u.alloc o).heap.size = u.heap.size + 1:=by
  intro u o;exact Array.size_push _
 rw [World.cell?_alloc_lt _ _ _ (by rw [e];simp only [hs];omega),World.cell?_alloc_lt _ _ _ (by rw [e];simp only [hs];omega),World.cell?_alloc_lt _ _ _ (by rw [e];simp only [hs];omega),
  World.cell?_alloc_lt _ _ _ (by rw [e];simp only [hs];omega),World.cell?_alloc_lt _ _ _ (by rw [e];omega),h]
theorem I_ (u : World) (o : Obj) : (u.alloc o).heap.size = u.heap.size + 1:=Array.size_push _
theorem d_n {u : World} {b : Nat} (h : b < u.heap.size) (o : Obj) : (u.alloc o).heap[b]? = u.heap[b]? := Array.getElem?_push_lt h |>.trans (Array.getElem?_eq_getElem h).symm
theorem l_Y {w : World} {b : Nat} (h : b < w.heap.size) (o1 o2 o3 o4 o5 : Obj) : (((((w.alloc o1).alloc o2).alloc o3).alloc o4).alloc o5).heap[b]? = w.heap[b]? := by
 rw [d_n (by simp only [I_];omega),d_n (by simp only [I_];omega),d_n (by simp only [I_];omega),d_n (by simp only [I_];omega),d_n h]
set_option maxHeartbeats 4000000 in
theorem k_h (n cap : Nat) (w : World) (s : Go.Addr) (c0 c2 c3 c4 c5 c6 c7 c8 c10 : Value) (hn : n ≤ 1000) (hlt : s.block < w.heap.size) (hb : ∀ i,i < n → w.cell? (s.add i) = some (.bool false)) :
  Calls Tryz.prog 111 #[.agg #[c0,.int .i64 n,c2,c3,c4,c5,c6,c7,c8,.slice (some s) n cap,c10]] w fun e w' => e = .returned (.tuple #[.slice none 0 0,.bool true]) ∧ w'.os = w.os ∧ w'.tape = w.tape ∧ w'.output = w.output ∧ w.heap.size ≤ w'.heap.size ∧ ∀ b,b < w.heap.size → w'.heap[b]? = w.heap[b]? := by
 have hmk:=run_make_row' (P:=Tryz.prog) 28 3 (.int .i64 0) 8 Tryz.underlying28 (by kernel_rfl) rfl .i64 .i64 n (by omega) (by omega)
 go_enter Tryz.func111,Tryz.ntmps111
 go_wp2
 go_loop [14] (fun i => ∃ k : Nat,k ≤ n ∧ i = .int .i64 k) (fun i => n - (Go.RowKit.intOf i).toNat)
 case atStart => exact ⟨0,Nat.zero_le _,rfl⟩
 case round =>
  obtain ⟨k,hk,rfl⟩:=hrel
  by_cases hkn : k < n
  ·have hcell : ∀ o1 o2 o3 o4 o5,(((((w.alloc o1).alloc o2).alloc o3).alloc o4).alloc o5).cell? (s.add k) = some (.bool false):=by
    intro o1 o2 o3 o4 o5;exact j_A hlt (hb k hkn) o1 o2 o3 o4 o5
   clear hb
   go_wp2
   refine ⟨⟨k + 1,by omega,by push_cast;rfl⟩,?_⟩;simp only [RowKit.intOf];omega
  ·clear hb
   go_wp2
   go_loop [2,3] (fun i j => i = .int .i64 0 ∧ j = .int .i64 (-1)) (fun _ _ => 0)
   case atStart => exact ⟨rfl,rfl⟩
   case round =>
    obtain ⟨rfl,rfl⟩:=hrel
    go_wp2
    refine bodyPost_end (results_none (by kernel_rfl) _ _ _) (by rfl) ?_;simp only []
    go_at_K
    go_wp2
    go_ret2
    refine ⟨rfl,rfl,rfl,rfl,?_,?_⟩
    ·simp only [I_]
     omega
    ·intro b hb
     exact l_Y hb _ _ _ _ _
theorem u_B {tab : Tab} {w : World} {O : Nat → Prop} {c : TypeId} {v : Value} {x : T} {ti : TI} (ht : tab.at c = some (c,ti)) (hs : ti.isS = true) (h : V tab w O c v x) :
  ∃ vs,v = .agg vs ∧ vs.size = ti.cells ∧ ∀ (j : Nat) y ty,x.leaves[j]? = some y → (ti.lv c)[j]? = some ty → ∃ u,vs[j]? = some u ∧ L tab w O ty u y:=by
 obtain ⟨ti',h1,h2,h3,h4,h5,h6⟩:=h
 have:=h1.symm.trans ht
 simp only [Option.some.injEq,Prod.mk.injEq,true_and] at this;subst this;rw [hs] at h3
 match v,h3 with
 | .agg vs,_ => exact ⟨vs,rfl,h4,h6⟩
theorem s_d {tab : Tab} {w w' : World} {A : Nat → Prop} {vals : Array Value} {γ : Key → Option Nat} {args : List Arg} {c1 c2 : TypeId} {v1 v2 : Value} {y1 y2 : T} {σ : St}
  (hr : Rel tab ⟨w.heap.size,w,A,fun b => ∃ k,γ k = some b⟩ vals w σ γ) (hsz : vals.size = args.length) (hb : b_s 0 args = [])
  (hos : w'.os = w.os) (htape : w'.tape = w.tape) (hout : w'.output = w.output) (hsize : w.heap.size ≤ w'.heap.size) (hold : ∀ b,b < w.heap.size → w'.heap[b]? = w.heap[b]?)
  (h1 : ∀ O,V tab w' O c1 v1 y1) (h2 : ∀ O,V tab w' O c2 v2 y2) :
  ∃ γ',Rel tab ⟨w.heap.size,w,A,fun b => ∃ k,γ k = some b⟩ (vals.push (.tuple #[v1,v2])) w' (b_j args [(comp args.length 0,c1,false),(comp args.length 1,c2,false)] [y1,y2]) γ' := by
 have hst : b_j args [(comp args.length 0,c1,false),(comp args.length 1,c2,false)] [y1,y2] = [(a_ args.length,top (.tup 0)),(comp args.length 0,top (.t c1 y1)),(comp args.length 1,top (.t c2 y2))]:=by
  unfold b_j;rw [hb];rfl
 rw [hst];have hget : ∀ k e,St.get [(a_ args.length,top (.tup 0)),(comp args.length 0,top (.t c1 y1)),(comp args.length 1,top (.t c2 y2))] k = some e →
   (k = a_ args.length ∧ e = top (.tup 0)) ∨ (k = comp args.length 0 ∧ e = top (.t c1 y1)) ∨ (k = comp args.length 1 ∧ e = top (.t c2 y2)):=by
  intro k e he;simp only [St.get] at he;split at he
  ·rename_i hk;exact .inl ⟨(Key.a_b.1 hk).symm,(Option.some.inj he).symm⟩
  ·split at he
   ·rename_i hk;exact .inr (.inl ⟨(Key.a_b.1 hk).symm,(Option.some.inj he).symm⟩)
   ·split at he
    ·rename_i hk;exact .inr (.inr ⟨(Key.a_b.1 hk).symm,(Option.some.inj he).symm⟩)
    ·cases he
 have hpush : (vals.push (Value.tuple #[v1,v2]))[args.length]? = some (.tuple #[v1,v2]):=by
  rw [← hsz];simp
 refine ⟨fun _ => none,⟨hos,htape,hout,hsize,fun b hb' _ => hold b hb',hr.low,?_,?_,?_,?_,?_⟩⟩
 ·intro k k' b h;cases h
 ·intro k b h;cases h
 ·intro s n e he
  rcases hget _ _ he with ⟨q,-⟩ | ⟨q,-⟩ | ⟨q,-⟩
  ·exact absurd q.symm f_
  ·exact absurd q L_
  ·exact absurd q L_
 ·intro s j e he
  have hs : s = args.length:=by
   rcases hget _ _ he with ⟨q,-⟩ | ⟨q,-⟩ | ⟨q,-⟩
   ·exact absurd q.symm x_
   ·simp only [comp,Key.mk.injEq] at q;exact q.2.1
   ·simp only [comp,Key.mk.injEq] at q;exact q.2.1
  subst hs;refine ⟨[],0,?_⟩;simp only [St.get];split
  ·rfl
  ·rename_i hk;exact absurd (Key.a_b.2 rfl) (by rw [hk];decide)
 ·intro k e he
  rcases hget _ _ he with ⟨rfl,rfl⟩ | ⟨rfl,rfl⟩ | ⟨rfl,rfl⟩
  ·exact ⟨_,by rw [i_];exact hpush,fun _ => .inl ⟨_,rfl⟩,fun q => absurd trivial q⟩
  ·refine ⟨v1,?_,fun _ => h1 _,fun q => absurd trivial q⟩
   simp [s_,comp,hpush];rfl
  ·refine ⟨v2,?_,fun _ => h2 _,fun q => absurd trivial q⟩
   simp [s_,comp,hpush];rfl
theorem s_c {h : Md} {c : Nat} (H : MdOk h c) : F 111 [.t 29 (hidT h)] Z5 [.l [],.b true]:=by
 refine h_y Tryz.func111 (by kernel_rfl) (c:=c_5 Tryz.f111) (by kernel_rfl) fun w A vals γ hsz hr => ?_
 obtain ⟨v0,hv0,hr0,-⟩:=hr.ent (a_ 0) (top (.t 29 (hidT h))) rfl;have hV : V tab w _ 29 v0 (hidT h):=hr0 trivial;rw [i_] at hv0;have evals : vals = #[v0]:=by
  apply Array.ext
  ·simp [hsz]
  ·intro i h1 h2
   have hi2 : i = 0:=by have : i < 1:=by simpa using h2
                        omega
   subst hi2;rw [Array.getElem?_eq_getElem h1] at hv0;simpa using hv0
 obtain ⟨t29,ht29⟩ : ∃ t,tab.at 29 = some (29,t) ∧ t.isS = true ∧ t.cells = 11 ∧ (t.lv 29)[1]? = some 2 ∧ (t.lv 29)[9]? = some 27:=⟨((tab.at 29).map Prod.snd).getD default,by kernel_rfl,by kernel_rfl,by kernel_rfl,by kernel_rfl,by kernel_rfl⟩;obtain ⟨vs,rfl,hvs,hcell⟩:=u_B ht29.1 ht29.2.1 hV;rw [ht29.2.2.1] at hvs;obtain ⟨u1,hu1,l1⟩:=hcell 1 (.i .i64 (h.st : Int)) 2 rfl ht29.2.2.2.1;obtain ⟨u9,hu9,l9⟩:=hcell 9 (b_b (List.replicate h.st false)) 27 rfl ht29.2.2.2.2;have e1 : u1 = .int .i64 (h.st : Int):=by cases l1;rfl
 have hlen : (a_Y (List.replicate h.st false)).length = h.st:=by simp [a_Y]
 have hs9 : ∃ a cap,u9 = .slice (some a) h.st cap ∧ ∀ i,i < h.st → w.cell? (a.add i) = some (.bool false):=by
  have e27 : ∃ t27 : TI,tab.at 27 = some (27,t27) ∧ t27.k = .sl 4:=⟨⟨.sl 4,1,24,[],.l []⟩,by kernel_rfl,rfl⟩;obtain ⟨t27,q1,q2⟩:=e27;have hsl : ∀ {O : Nat → Prop} {v : Value} {xs : List T},L tab w O 27 v (.l xs) → 0 < xs.length → ∃ (ce : TypeId) (te : TI) (a : Go.Addr) (cap : Nat) (vz : Nat → Nat → Value),v = .slice (some a) xs.length cap ∧ tab.at 4 = some (ce,te) ∧
    (∀ (j : Nat) (x : T) (n : Nat) (y : T),xs[j]? = some x → x.leaves[n]? = some y → w.cell? (a.add (j * te.cells + n)) = some (vz j n)) ∧
    (∀ (j : Nat) (x : T) (n : Nat) (y : T) (ty : TypeId),xs[j]? = some x → x.leaves[n]? = some y → (te.lv ce)[n]? = some ty → L tab w O ty (vz j n) y):=by
   intro O v xs hL hpos
   cases hL with
   | nil _ _ => simp at hpos
   | @sl c ti e ce te a cap xs hh hk he hp hcap hm ho vz hg hvz hl =>
    have:=q1.symm.trans hh
    simp only [Option.some.injEq,Prod.mk.injEq,true_and] at this;subst this;rw [hk] at q2;simp only [K.sl.injEq] at q2;subst q2;exact ⟨ce,te,a,cap,vz,rfl,he,hvz,hl⟩
  obtain ⟨ce,te,a,cap,vz,rfl,he,hvz,hl⟩:=hsl l9 (by rw [hlen];exact H.st.1);rw [hlen];refine ⟨a,cap,rfl,fun i hi => ?_⟩;have hx : (a_Y (List.replicate h.st false))[i]? = some (T.b false):=by simp [a_Y,hi]
  obtain ⟨t4,r1,r2,r3⟩ : ∃ t4 : TI,tab.at 4 = some (4,t4) ∧ t4.cells = 1 ∧ (t4.lv 4)[0]? = some 4:=⟨⟨.bool,1,1,[],.b false⟩,by kernel_rfl,rfl,rfl⟩
  have:=r1.symm.trans he
  simp only [Option.some.injEq,Prod.mk.injEq] at this;obtain ⟨rfl,rfl⟩:=this;have hc:=hvz i (T.b false) 0 (T.b false) hx rfl;have hL:=hl i (T.b false) 0 (T.b false) 4 hx rfl r3;rw [r2,Nat.mul_one,Nat.add_zero] at hc;rw [hc]
  generalize vz i 0 = q at hL ⊢
  cases hL;rfl
 obtain ⟨a,cap,rfl,hbits⟩:=hs9;have hvs' : vs = #[vs[0]!,.int .i64 (h.st : Int),vs[2]!,vs[3]!,vs[4]!,vs[5]!,vs[6]!,vs[7]!,vs[8]!,.slice (some a) h.st cap,vs[10]!]:=by
  subst e1;apply Array.ext
  ·simp [hvs]
  ·intro i h1 h2
   have hi : i < 11:=by simpa using h2
   have hg : vs[i]! = vs[i]:=by simp [h1]
   match i,hi with
   | 0,_ => exact hg.symm
   | 1,_ => rw [Array.getElem?_eq_getElem h1] at hu1;simpa using hu1
   | 2,_ => exact hg.symm
   | 3,_ => exact hg.symm
   | 4,_ => exact hg.symm
   | 5,_ => exact hg.symm
   | 6,_ => exact hg.symm
   | 7,_ => exact hg.symm
   | 8,_ => exact hg.symm
   | 9,_ => rw [Array.getElem?_eq_getElem h1] at hu9;simpa using hu9
   | 10,_ => exact hg.symm
 have hlt : a.block < w.heap.size:=by
  have hz:=hbits 0 (by have:=H.st.1;omega)
  have:=World.block_lt_of_cell? w _ hz
  unfold Go.Addr.add at this;split at this <;> exact this
 have hmain:=k_h h.st cap w a vs[0]! vs[2]! vs[3]! vs[4]! vs[5]! vs[6]! vs[7]! vs[8]! vs[10]! (by have:=H.st.2;omega) hlt hbits;rw [← hvs'] at hmain;rw [evals] at hr ⊢;refine hmain.mono ?_;rintro r w' ⟨rfl,q1,q2,q3,q4,q5⟩;refine ⟨_,rfl,s_d hr rfl rfl q1 q2 q3 q4 q5 ?_ ?_⟩
 ·intro O
  have e1 : tab.at 28 = some (28,⟨.sl 3,1,24,[],.l []⟩):=by kernel_rfl
  exact b_8 e1 rfl rfl rfl rfl (.nil e1 rfl)
 ·intro O
  have e1 : tab.at 4 = some (4,⟨.bool,1,1,[],.b false⟩):=by kernel_rfl
  exact b_8 e1 rfl rfl rfl rfl (.bool e1 rfl)
def C63 : Ctx:=⟨tab,sigs,128,[0,1,2,3,4,5,6],[],[],[],[],[]⟩
theorem t_x (a0 : T) (y0 : T) (I0 : Nat → Prop) (M0 : Nat → Nat) (I1 : Nat → Prop) (M1 : Nat → Nat) (I2 : Nat → Prop) (M2 : Nat → Nat) (I3 : Nat → Nat → Prop) (M3 : Nat → Nat → Nat) (h : ((T.ite (T.ite (T.ite (ltI (a0.cell 0).int (1 : Int)) (T.b true) (T.b (ltI 32 (a0.cell 0).int))).bool (T.b true) (T.b (ltI (a0.cell 1).int (1 : Int)))).bool (T.b true) (T.b (ltI 12 (a0.cell 1).int))).bool = true → True ∧ kI 1 = y0 ∧ True) ∧ ((T.ite (T.ite (T.ite (ltI (a0.cell 0).int (1 : Int)) (T.b true) (T.b (ltI 32 (a0.cell 0).int))).bool (T.b true) (T.b (ltI (a0.cell 1).int (1 : Int)))).bool (T.b true) (T.b (ltI 12 (a0.cell 1).int))).bool = false → ∃ y : T,F 105 [.t 29 (G11 a0)] (zo 1 4) [y] ∧ ((!y.bool) = true → True ∧ kI 4 = y0 ∧ True) ∧ ((!y.bool) = false → ∃ y : T,F 106 [.t 23 (T.g [a0.cell 2,a0.cell 3,a0.cell 4]),.t 25 (a0.cell 5)] (zo 2 4) [y] ∧ ((!y.bool) = true → True ∧ kI 18 = y0 ∧ True) ∧ ((!y.bool) = false → (∃ i : Nat,I0 i ∧ R14 a0 (kI 0 = kI ↑i ∧ True)) ∧ (∀ i : Nat,true = true) ∧ ∀ i : Nat,I0 i → (ltI ↑i (a0.cell 1).int = true → (Bd ↑i (lenOf (a0.cell 7).list)) ∧ (Bd ↑i (lenOf (a0.cell 6).list)) ∧ ∃ y : T,F 106 [.t 23 (((a0.cell 7).list.getD (↑i : Int).toNat T.u).part 0 3),.t 25 (((a0.cell 6).list.getD (↑i : Int).toNat T.u).cell 0)] (zo 2 4) [y] ∧ ((!y.bool) = true → True ∧ kI 18 = y0 ∧ True) ∧ ((!y.bool) = false → ∃ j : Nat,I0 j ∧ M0 j < M0 i ∧ R14 a0 (kI (addI .i64 ↑i 1) = kI ↑j ∧ True))) ∧ (ltI ↑i (a0.cell 1).int = false → (∃ i : Nat,I1 i ∧ R14 a0 (kI 0 = kI ↑i ∧ True)) ∧ (∀ i : Nat,true = true) ∧ ∀ i : Nat,I1 i → (ltI ↑i (a0.cell 1).int = true → (Bd ↑i (lenOf (a0.cell 9).list)) ∧ ((!(((a0.cell 9).list.getD (↑i : Int).toNat T.u).cell 0).bool) = true ∧ True → 0 ≤ (↑i : Int) ∧ (↑i : Int) < lenOf (a0.cell 8).list) ∧ ∃ y : T,((!(((a0.cell 9).list.getD (↑i : Int).toNat T.u).cell 0).bool) = true ∧ True → F 106 [.t 23 (T.g [T.b false,T.l [],T.l []]),.t 25 (((a0.cell 8).list.getD (↑i : Int).toNat T.u).cell 0)] (zo 2 4) [y]) ∧ ((T.ite (!(((a0.cell 9).list.getD (↑i : Int).toNat T.u).cell 0).bool) (T.b !y.bool) (T.b false)).bool = true → True ∧ kI 18 = y0 ∧ True) ∧ ((T.ite (!(((a0.cell 9).list.getD (↑i : Int).toNat T.u).cell 0).bool) (T.b !y.bool) (T.b false)).bool = false → ∃ j : Nat,I1 j ∧ M1 j < M1 i ∧ R14 a0 (kI (addI .i64 ↑i 1) = kI ↑j ∧ True))) ∧ (ltI ↑i (a0.cell 1).int = false → ∃ y : T,F 107 [.t 29 (G11 a0)] (zo 1 4) [y] ∧ (y.bool = true → True ∧ kI 16 = y0 ∧ True) ∧ (y.bool = false → (∃ i : Nat,I2 i ∧ R14 a0 (kI 0 = kI ↑i ∧ True)) ∧ (∀ i : Nat,true = true) ∧ ∀ i : Nat,I2 i → (ltI ↑i (a0.cell 1).int = true → (∃ i_1 : Nat,I3 i i_1 ∧ R15 a0 i (kI 0 = kI ↑i_1 ∧ True)) ∧ (∀ i : Nat,true = true) ∧ ∀ i_1 : Nat,I3 i i_1 → (ltI ↑i_1 ↑i = true → (Bd ↑i (lenOf (a0.cell 9).list)) ∧ ((!(((a0.cell 9).list.getD (↑i : Int).toNat T.u).cell 0).bool) = true ∧ True → 0 ≤ (↑i_1 : Int) ∧ (↑i_1 : Int) < lenOf (a0.cell 9).list) ∧ ((T.ite (!(((a0.cell 9).list.getD (↑i : Int).toNat T.u).cell 0).bool) (T.b !(((a0.cell 9).list.getD (↑i_1 : Int).toNat T.u).cell 0).bool) (T.b false)).bool = true ∧ True → 0 ≤ (↑i : Int) ∧ (↑i : Int) < lenOf (a0.cell 10).list) ∧ ((T.ite (!(((a0.cell 9).list.getD (↑i : Int).toNat T.u).cell 0).bool) (T.b !(((a0.cell 9).list.getD (↑i_1 : Int).toNat T.u).cell 0).bool) (T.b false)).bool = true ∧ True → 0 ≤ (↑i_1 : Int) ∧ (↑i_1 : Int) < lenOf (a0.cell 10).list) ∧ ((T.ite (T.ite (!(((a0.cell 9).list.getD (↑i : Int).toNat T.u).cell 0).bool) (T.b !(((a0.cell 9).list.getD (↑i_1 : Int).toNat T.u).cell 0).bool) (T.b false)).bool (T.b (eqI (((a0.cell 10).list.getD (↑i : Int).toNat T.u).cell 0).int (((a0.cell 10).list.getD (↑i_1 : Int).toNat T.u).cell 0).int)) (T.b false)).bool = true ∧ True → 0 ≤ (↑i : Int) ∧ (↑i : Int) < lenOf (a0.cell 8).list) ∧ ((T.ite (T.ite (!(((a0.cell 9).list.getD (↑i : Int).toNat T.u).cell 0).bool) (T.b !(((a0.cell 9).list.getD (↑i_1 : Int).toNat T.u).cell 0).bool) (T.b false)).bool (T.b (eqI (((a0.cell 10).list.getD (↑i : Int).toNat T.u).cell 0).int (((a0.cell 10).list.getD (↑i_1 : Int).toNat T.u).cell 0).int)) (T.b false)).bool = true ∧ True → 0 ≤ (↑i_1 : Int) ∧ (↑i_1 : Int) < lenOf (a0.cell 8).list) ∧ ∃ y : T,((T.ite (T.ite (!(((a0.cell 9).list.getD (↑i : Int).toNat T.u).cell 0).bool) (T.b !(((a0.cell 9).list.getD (↑i_1 : Int).toNat T.u).cell 0).bool) (T.b false)).bool (T.b (eqI (((a0.cell 10).list.getD (↑i : Int).toNat T.u).cell 0).int (((a0.cell 10).list.getD (↑i_1 : Int).toNat T.u).cell 0).int)) (T.b false)).bool = true ∧ True → F 79 [.t 25 (((a0.cell 8).list.getD (↑i : Int).toNat T.u).cell 0),.t 25 (((a0.cell 8).list.getD (↑i_1 : Int).toNat T.u).cell 0)] (zo 2 4) [y]) ∧ ((T.ite (T.ite (T.ite (!(((a0.cell 9).list.getD (↑i : Int).toNat T.u).cell 0).bool) (T.b !(((a0.cell 9).list.getD (↑i_1 : Int).toNat T.u).cell 0).bool) (T.b false)).bool (T.b (eqI (((a0.cell 10).list.getD (↑i : Int).toNat T.u).cell 0).int (((a0.cell 10).list.getD (↑i_1 : Int).toNat T.u).cell 0).int)) (T.b false)).bool (T.b !y.bool) (T.b false)).bool = true → True ∧ kI 5 = y0 ∧ True) ∧ ((T.ite (T.ite (T.ite (!(((a0.cell 9).list.getD (↑i : Int).toNat T.u).cell 0).bool) (T.b !(((a0.cell 9).list.getD (↑i_1 : Int).toNat T.u).cell 0).bool) (T.b false)).bool (T.b (eqI (((a0.cell 10).list.getD (↑i : Int).toNat T.u).cell 0).int (((a0.cell 10).list.getD (↑i_1 : Int).toNat T.u).cell 0).int)) (T.b false)).bool (T.b !y.bool) (T.b false)).bool = false → ∃ j : Nat,I3 i j ∧ M3 i j < M3 i i_1 ∧ R15 a0 i (kI (addI .i64 ↑i_1 1) = kI ↑j ∧ True))) ∧ (ltI ↑i_1 ↑i = false → ∃ j : Nat,I2 j ∧ M2 j < M2 i ∧ R14 a0 (kI (addI .i64 ↑i 1) = kI ↑j ∧ True))) ∧ (ltI ↑i (a0.cell 1).int = false → True ∧ kI 0 = y0 ∧ True)))))))) : F 63 [.t 29 a0] (zo 1 2) [y0] :=
 F_nf C63 (by kernel_rfl) Tryz.func63 (by kernel_rfl) (.two .no (.two .no (.two .no (.two .no (.two (.two .no (.lp (fun (ia : Nat) => [(a_ 0,AV.t 29 a0),(a_ 1,AV.box 29 0 11)] ++ bxS 1 a0 0 Y2 ++ [(a_ 2,AV.t 2 (T.i IntKind.i64 (0 : Int))),(a_ 3,.t 2 (.i .i64 (ia : Int)))]) I0 M0 (fun _ => .no))) (.two (.two .no (.lp (fun (ib : Nat) => [(a_ 0,AV.t 29 a0),(a_ 1,AV.box 29 0 11)] ++ bxS 1 a0 0 Y2 ++ [(a_ 2,AV.t 2 (T.i IntKind.i64 (0 : Int))),(a_ 4,.t 2 (.i .i64 (ib : Int)))]) I1 M1 (fun _ => .no))) (.two .no (.two (.two .no (.lp (fun (ic : Nat) => [(a_ 0,AV.t 29 a0),(a_ 1,AV.box 29 0 11)] ++ bxS 1 a0 0 Y2 ++ [(a_ 2,AV.t 2 (T.i IntKind.i64 (0 : Int))),(a_ 5,.t 2 (.i .i64 (ic : Int)))]) I2 M2 (fun (ic : Nat) => (.two .no (.two (.two .no (.lp (fun (id : Nat) => [(a_ 0,AV.t 29 a0),(a_ 1,AV.box 29 0 11)] ++ bxS 1 a0 0 Y2 ++ [(a_ 2,AV.t 2 (T.i IntKind.i64 (0 : Int))),(a_ 5,AV.t 2 (T.i IntKind.i64 (↑ic : Int))),(a_ 6,.t 2 (.i .i64 (id : Int)))]) (I3 ic) (M3 ic) (fun _ => .no))) .no))))) .no)))))))) (by kernel_rfl) h
theorem j_q (h : Md) (c : Nat) (hk : MdOk h c) : F 63 [.t 29 (hidT h)] (zo 1 2) [.i .i64 0]:=by
 have hst:=hk.st;have hsy:=hk.sym;have hc:=hk.cc;have e0 : ltI (h.sym : Int) 1 = false:=l_.2 (by omega);have e1 : ltI (32 : Int) (h.sym : Int) = false:=l_.2 (by omega);have e2 : ltI (h.st : Int) 1 = false:=l_.2 (by omega);have e3 : ltI (12 : Int) (h.st : Int) = false:=l_.2 (by omega);refine t_x _ _ (fun i => i ≤ h.st) (fun i => h.st - i) (fun i => i ≤ h.st) (fun i => h.st - i) (fun i => i ≤ h.st) (fun i => h.st - i) (fun i j => i < h.st ∧ j ≤ i) (fun i j => i - j) ?_;rw [a_7,c_E,h_S,d_P,c_Q,b_K,d_y,c_h,c_p,d_z,z_,a_x,a_x,b_L,D_,hk.stop,hk.trans,hk.emit,hk.ties,List.length_replicate,e0,e1,e2,e3];have i1:=g_A h.empty h.init c (by rw [hk.init];omega) (by omega) hk.q0.1 (fun q hq => (hk.q1 q hq).1) hk.s0;refine ⟨fun q => (by cases q),fun _ => ⟨_,n_r h c hk,fun q => (by cases q),fun _ => ⟨_,i1,fun q => (by cases q),fun _ => ⟨⟨0,Nat.zero_le _,(by and_intros <;> first | exact trivial | rfl | (rw [c_ (by omega)];rfl))⟩,fun _ => rfl,?_⟩⟩⟩⟩;intro i hi;refine ⟨fun h1 => ?_,fun h1 => ⟨⟨0,Nat.zero_le _,(by and_intros <;> first | exact trivial | rfl | (rw [c_ (by omega)];rfl))⟩,fun _ => rfl,?_⟩⟩
 ·rw [d_] at h1
  have hlt : i < h.st:=by omega
  rw [hk.sp hlt,hk.tr hlt,C_,a_h];refine ⟨⟨by omega,by omega⟩,⟨by omega,by omega⟩,_,g_A _ _ c (by rw [hk.trl hlt];omega) (by omega) (hk.q3 _ (b_e (by rw [hk.stop];exact hlt))).1 (fun q hq => (hk.trq hlt q hq).1) (hk.s1 i hlt),fun q => (by cases q),fun _ => ⟨i + 1,hlt,by omega,(by and_intros <;> first | exact trivial | rfl | (rw [c_ (by omega)];rfl))⟩⟩
 ·intro i hi
  refine ⟨fun h1 => ?_,fun h1 => ⟨_,l_F h c hk,fun q => (by cases q),fun _ => ⟨⟨0,Nat.zero_le _,(by and_intros <;> first | exact trivial | rfl | (rw [c_ (by omega)];rfl))⟩,fun _ => rfl,?_⟩⟩⟩
  ·rw [d_] at h1
   have hlt : i < h.st:=by omega
   rw [hk.si hlt,hk.em hlt,a_h];refine ⟨⟨by omega,by omega⟩,fun _ => ⟨by omega,by omega⟩,.b true,fun _ => ?_,fun q => (by cases q),fun _ => ⟨i + 1,hlt,by omega,(by and_intros <;> first | exact trivial | rfl | (rw [c_ (by omega)];rfl))⟩⟩;exact g_A 0 _ c (by rw [hk.eml hlt];omega) (by omega) (by rw [f_p];omega) (fun q hq => (hk.emq hlt q hq).1) (by rw [hk.s2 _ (r_ (by have:=hk.emit;omega)),Rat.zero_add])
  ·intro i hi
   refine ⟨fun h1 => ?_,fun h1 => ⟨trivial,rfl,trivial⟩⟩;rw [d_] at h1;have hlt : i < h.st:=by omega
   refine ⟨⟨0,⟨hlt,Nat.zero_le _⟩,(by and_intros <;> first | exact trivial | rfl | (rw [c_ (by omega)];rfl))⟩,fun _ => rfl,?_⟩;rintro j ⟨-,hj⟩;refine ⟨fun h2 => ?_,fun h2 => ⟨i + 1,hlt,by omega,(by and_intros <;> first | exact trivial | rfl | (rw [c_ (by omega)];rfl))⟩⟩;rw [d_] at h2;have hjlt : j < h.st:=by omega
   rw [hk.si hlt,hk.si hjlt,hk.ti hlt,hk.ti hjlt,hk.em hlt,hk.em hjlt,a_h,a_h];refine ⟨⟨by omega,by omega⟩,fun _ => ⟨by omega,by omega⟩,fun _ => ⟨by omega,by omega⟩,fun _ => ⟨by omega,by omega⟩,fun _ => ⟨by omega,by omega⟩,fun _ => ⟨by omega,by omega⟩,.b true,fun q => ?_,fun q => ?_,fun _ => ⟨j + 1,⟨hlt,by omega⟩,by omega,(by and_intros <;> first | exact trivial | rfl | (rw [c_ (by omega)];rfl))⟩⟩
   ·have q1:=q.1
    have q2 : eqI ((h.ties.getD i 0 : Nat) : Int) ((h.ties.getD j 0 : Nat) : Int) = true:=q1;rw [M_] at q2;rw [← hk.tied i j hlt (by omega) (by omega)];exact k_s _ (by rw [hk.eml hlt];omega) (fun q hq => by have:=(hk.emq hlt q hq).1;omega)
   ·exfalso
    revert q;have : ∀ b : Bool,(T.ite b (T.b false) (T.b false)).bool = true → False:=by intro b;cases b <;> intro q <;> cases q
    exact this _
theorem l_a (h : Md) (c : Nat) (hk : MdOk h c) : F 31 [.t 29 (hidT h)] (zo 1 4) [.b true]:=by
 have hst:=hk.st;refine t_c _ _ (fun i => i ≤ h.st) (fun i => h.st - i) ?_;rw [a_7,d_P,c_p,b_L,List.length_replicate];refine ⟨_,j_q h c hk,fun q => (by cases q),fun _ => ⟨⟨0,Nat.zero_le _,(by and_intros <;> first | exact trivial | rfl | (rw [c_ (by omega)];rfl))⟩,fun _ => rfl,?_⟩⟩;intro i hi;refine ⟨fun h1 => ?_,fun h1 => ⟨trivial,rfl,trivial⟩⟩;rw [d_] at h1;have hlt : i < h.st:=by omega
 rw [hk.si hlt];exact ⟨⟨by omega,by omega⟩,fun q => (by cases q),fun _ => ⟨i + 1,hlt,by omega,(by and_intros <;> first | exact trivial | rfl | (rw [c_ (by omega)];rfl))⟩⟩
theorem o_F (h : Md) (c : Nat) (hk : MdOk h c) : F 45 [.t 29 (hidT h)] (zo 1 2) [.i .i64 0]:=by
 refine t_k _ _ ?_;rw [a_7];exact ⟨_,j_q h c hk,fun q => (by cases q),fun _ => ⟨_,l_a h c hk,fun q => (by cases q),fun _ => ⟨trivial,rfl,trivial⟩⟩⟩
def C112 : Ctx:=⟨tab,sigs,57,[0,1,2,3,4,6,7,10,11],[],[],[],[],[]⟩
theorem q_L (a0 : T) (y0 : T) (I0 : Nat → Prop) (M0 : Nat → Nat) (I1 : Nat → Nat → Prop) (M1 : Nat → Nat → Nat) (h : (∃ i : Nat,I0 i ∧ R13 a0 (kI 0 = kI ↑i ∧ True)) ∧ (∀ i : Nat,true = true) ∧ ∀ i : Nat,I0 i → (ltI ↑i (a0.cell 1).int = true → (∃ i_1 : Nat,I1 i i_1 ∧ R16 a0 i (kI 0 = kI ↑i_1 ∧ True)) ∧ (∀ i : Nat,true = true) ∧ ∀ i_1 : Nat,I1 i i_1 → (ltI ↑i_1 ↑i = true → (Bd ↑i (lenOf (a0.cell 9).list)) ∧ ((!(((a0.cell 9).list.getD (↑i : Int).toNat T.u).cell 0).bool) = true ∧ True → 0 ≤ (↑i_1 : Int) ∧ (↑i_1 : Int) < lenOf (a0.cell 9).list) ∧ ((T.ite (!(((a0.cell 9).list.getD (↑i : Int).toNat T.u).cell 0).bool) (T.b !(((a0.cell 9).list.getD (↑i_1 : Int).toNat T.u).cell 0).bool) (T.b false)).bool = true ∧ True → 0 ≤ (↑i : Int) ∧ (↑i : Int) < lenOf (a0.cell 10).list) ∧ ((T.ite (!(((a0.cell 9).list.getD (↑i : Int).toNat T.u).cell 0).bool) (T.b !(((a0.cell 9).list.getD (↑i_1 : Int).toNat T.u).cell 0).bool) (T.b false)).bool = true ∧ True → 0 ≤ (↑i_1 : Int) ∧ (↑i_1 : Int) < lenOf (a0.cell 10).list) ∧ ((T.ite (T.ite (!(((a0.cell 9).list.getD (↑i : Int).toNat T.u).cell 0).bool) (T.b !(((a0.cell 9).list.getD (↑i_1 : Int).toNat T.u).cell 0).bool) (T.b false)).bool (T.b (eqI (((a0.cell 10).list.getD (↑i : Int).toNat T.u).cell 0).int (((a0.cell 10).list.getD (↑i_1 : Int).toNat T.u).cell 0).int)) (T.b false)).bool = true ∧ True → 0 ≤ (↑i : Int) ∧ (↑i : Int) < lenOf (a0.cell 8).list) ∧ ((T.ite (T.ite (!(((a0.cell 9).list.getD (↑i : Int).toNat T.u).cell 0).bool) (T.b !(((a0.cell 9).list.getD (↑i_1 : Int).toNat T.u).cell 0).bool) (T.b false)).bool (T.b (eqI (((a0.cell 10).list.getD (↑i : Int).toNat T.u).cell 0).int (((a0.cell 10).list.getD (↑i_1 : Int).toNat T.u).cell 0).int)) (T.b false)).bool = true ∧ True → 0 ≤ (↑i_1 : Int) ∧ (↑i_1 : Int) < lenOf (a0.cell 8).list) ∧ ∃ y : T,((T.ite (T.ite (!(((a0.cell 9).list.getD (↑i : Int).toNat T.u).cell 0).bool) (T.b !(((a0.cell 9).list.getD (↑i_1 : Int).toNat T.u).cell 0).bool) (T.b false)).bool (T.b (eqI (((a0.cell 10).list.getD (↑i : Int).toNat T.u).cell 0).int (((a0.cell 10).list.getD (↑i_1 : Int).toNat T.u).cell 0).int)) (T.b false)).bool = true ∧ True → F 148 [.t 25 (((a0.cell 8).list.getD (↑i : Int).toNat T.u).cell 0),.t 25 (((a0.cell 8).list.getD (↑i_1 : Int).toNat T.u).cell 0)] (zo 2 4) [y]) ∧ ((T.ite (T.ite (T.ite (!(((a0.cell 9).list.getD (↑i : Int).toNat T.u).cell 0).bool) (T.b !(((a0.cell 9).list.getD (↑i_1 : Int).toNat T.u).cell 0).bool) (T.b false)).bool (T.b (eqI (((a0.cell 10).list.getD (↑i : Int).toNat T.u).cell 0).int (((a0.cell 10).list.getD (↑i_1 : Int).toNat T.u).cell 0).int)) (T.b false)).bool (T.b !y.bool) (T.b false)).bool = true → True ∧ T.b false = y0 ∧ True) ∧ ((T.ite (T.ite (T.ite (!(((a0.cell 9).list.getD (↑i : Int).toNat T.u).cell 0).bool) (T.b !(((a0.cell 9).list.getD (↑i_1 : Int).toNat T.u).cell 0).bool) (T.b false)).bool (T.b (eqI (((a0.cell 10).list.getD (↑i : Int).toNat T.u).cell 0).int (((a0.cell 10).list.getD (↑i_1 : Int).toNat T.u).cell 0).int)) (T.b false)).bool (T.b !y.bool) (T.b false)).bool = false → ∃ j : Nat,I1 i j ∧ M1 i j < M1 i i_1 ∧ R16 a0 i (kI (addI .i64 ↑i_1 1) = kI ↑j ∧ True))) ∧ (ltI ↑i_1 ↑i = false → ∃ j : Nat,I0 j ∧ M0 j < M0 i ∧ R13 a0 (kI (addI .i64 ↑i 1) = kI ↑j ∧ True))) ∧ (ltI ↑i (a0.cell 1).int = false → True ∧ T.b true = y0 ∧ True)) : F 112 [.t 29 a0] (zo 1 4) [y0] :=
 F_nf C112 (by kernel_rfl) Tryz.func112 (by kernel_rfl) (.two .no (.two (.two .no (.lp (fun (ia : Nat) => [(a_ 0,AV.t 29 a0),(a_ 1,AV.box 29 0 11)] ++ bxS 1 a0 0 Y2 ++ [(a_ 2,AV.t 4 (T.b false)),(a_ 6,AV.t 2 (a0.cell 1)),(a_ 7,.t 2 (.i .i64 (ia : Int)))]) I0 M0 (fun (ia : Nat) => (.two .no (.two .no (.two (.two .no (.two .no (.lp (fun (ib : Nat) => [(a_ 0,AV.t 29 a0),(a_ 1,AV.box 29 0 11)] ++ bxS 1 a0 0 Y2 ++ [(a_ 2,AV.t 4 (T.b false)),(a_ 6,AV.t 2 (a0.cell 1)),(a_ 7,AV.t 2 (T.i IntKind.i64 (↑ia : Int))),(a_ 3,AV.t 2 (T.i IntKind.i64 (↑ia : Int))),(a_ 10,AV.t 2 (T.i IntKind.i64 (↑ia : Int))),(a_ 11,.t 2 (.i .i64 (ib : Int)))]) (I1 ia) (M1 ia) (fun _ => .no)))) .no)))))) .no)) (by kernel_rfl) h
def C186 : Ctx:=⟨tab,sigs,36,[0,2,3,5,6,8,9,10,11,25,26,27],[a_ 6],[(204,⟨[true],[],[true,false]⟩)],[],[],[]⟩
theorem r_w (a0 : T) (y0 : T) (I0 : (Nat × Nat) → Prop) (M0 : (Nat × Nat) → Nat) (I1 : X4 → Prop) (M1 : X4 → Nat) (h : (∃ (i : Nat × Nat),I0 i ∧ R17 a0 (kI 0 = kI ↑i.1 ∧ R10 a0 (kI 0 = kI ↑i.2 ∧ True))) ∧ (∀ (i : Nat × Nat),true = true) ∧ ∀ (i : Nat × Nat),I0 i → (ltI ↑i.2 (lenOf a0.list) = true → (Bd ↑i.2 (lenOf a0.list)) ∧ (ltI (addI .i64 ↑i.1 (lenOf ((a0.list.getD (↑i.2 : Int).toNat T.u).cell 0).list)) (0 : Int) = true → False) ∧ (ltI (addI .i64 ↑i.1 (lenOf ((a0.list.getD (↑i.2 : Int).toNat T.u).cell 0).list)) (0 : Int) = false → ∃ (j : Nat × Nat),I0 j ∧ M0 j < M0 i ∧ R17 a0 (kI (addI .i64 ↑i.1 (lenOf ((a0.list.getD (↑i.2 : Int).toNat T.u).cell 0).list)) = kI ↑j.1 ∧ R10 a0 (kI (addI .i64 ↑i.2 1) = kI ↑j.2 ∧ True)))) ∧ (ltI ↑i.2 (lenOf a0.list) = false → ∃ y : T,F 204 [.own 25 [],.t 2 (kI ↑i.1)] [(a_ 2,25,[true].headD false)] [y] ∧ (∃ (i_1 : X4),I1 i_1 ∧ R17 a0 (kI ↑i.1 = kI ↑i_1.2.1 ∧ y.list = i_1.1 ∧ R10 a0 (kI 0 = kI ↑i_1.2.2 ∧ True))) ∧ (∀ (i : X4),true = true) ∧ ∀ (i : X4),I1 i → (ltI ↑i.2.2 (lenOf a0.list) = true → (Bd ↑i.2.2 (lenOf a0.list)) ∧ (Rm ((List.take i.1.length i.1).length + ((a0.list.getD (↑i.2.2 : Int).toNat T.u).cell 0).list.length) 56) ∧ ∃ (j : X4),I1 j ∧ M1 j < M1 i ∧ R17 a0 (kI ↑i.2.1 = kI ↑j.2.1 ∧ List.take i.1.length i.1 ++ ((a0.list.getD (↑i.2.2 : Int).toNat T.u).cell 0).list = j.1 ∧ R10 a0 (kI (addI .i64 ↑i.2.2 1) = kI ↑j.2.2 ∧ True))) ∧ (ltI ↑i.2.2 (lenOf a0.list) = false → True ∧ T.l (List.take i.1.length (List.drop 0 i.1)) = y0 ∧ True))) : F 186 [.t 26 a0] (zo 1 25) [y0] :=
 F_nf C186 (by kernel_rfl) Tryz.func186 (by kernel_rfl) (.two .no (.two .no (.two (.two .no (.lp (fun (ia : Nat × Nat) => [(a_ 0,AV.t 26 a0),(a_ 2,AV.t 25 (T.l [])),(a_ 3,.t 2 (.i .i64 (ia.1 : Int))),(a_ 9,AV.t 26 a0),(a_ 10,AV.t 2 (T.i IntKind.i64 (lenOf a0.list))),(a_ 11,.t 2 (.i .i64 (ia.2 : Int)))]) I0 M0 (fun _ => .no))) (.two .no (.two (.two .no (.lp (fun (ib : X4) => [(a_ 0,AV.t 26 a0),(a_ 2,AV.t 25 (T.l [])),(a_ 3,.t 2 (.i .i64 (ib.2.1 : Int))),(a_ 6,.own 25 0 ib.1),(a_ 25,AV.t 26 a0),(a_ 26,AV.t 2 (T.i IntKind.i64 (lenOf a0.list))),(a_ 27,.t 2 (.i .i64 (ib.2.2 : Int)))]) I1 M1 (fun _ => .no))) .no))))) (by kernel_rfl) h
def C118 : Ctx:=⟨tab,sigs,36,[0,2,3,5,6,8,9,10,11,25,26,27],[a_ 6],[(157,⟨[true],[],[true,false]⟩)],[],[],[]⟩
theorem q_R (a0 : T) (y0 : T) (I0 : (Nat × Nat) → Prop) (M0 : (Nat × Nat) → Nat) (I1 : X4 → Prop) (M1 : X4 → Nat) (h : (∃ (i : Nat × Nat),I0 i ∧ R17 a0 (kI 0 = kI ↑i.1 ∧ R10 a0 (kI 0 = kI ↑i.2 ∧ True))) ∧ (∀ (i : Nat × Nat),true = true) ∧ ∀ (i : Nat × Nat),I0 i → (ltI ↑i.2 (lenOf a0.list) = true → (Bd ↑i.2 (lenOf a0.list)) ∧ (ltI (addI .i64 ↑i.1 (lenOf ((a0.list.getD (↑i.2 : Int).toNat T.u).cell 0).list)) (0 : Int) = true → False) ∧ (ltI (addI .i64 ↑i.1 (lenOf ((a0.list.getD (↑i.2 : Int).toNat T.u).cell 0).list)) (0 : Int) = false → ∃ (j : Nat × Nat),I0 j ∧ M0 j < M0 i ∧ R17 a0 (kI (addI .i64 ↑i.1 (lenOf ((a0.list.getD (↑i.2 : Int).toNat T.u).cell 0).list)) = kI ↑j.1 ∧ R10 a0 (kI (addI .i64 ↑i.2 1) = kI ↑j.2 ∧ True)))) ∧ (ltI ↑i.2 (lenOf a0.list) = false → ∃ y : T,F 157 [.own 28 [],.t 2 (kI ↑i.1)] [(a_ 2,28,[true].headD false)] [y] ∧ (∃ (i_1 : X4),I1 i_1 ∧ R17 a0 (kI ↑i.1 = kI ↑i_1.2.1 ∧ y.list = i_1.1 ∧ R10 a0 (kI 0 = kI ↑i_1.2.2 ∧ True))) ∧ (∀ (i : X4),true = true) ∧ ∀ (i : X4),I1 i → (ltI ↑i.2.2 (lenOf a0.list) = true → (Bd ↑i.2.2 (lenOf a0.list)) ∧ (Rm ((List.take i.1.length i.1).length + ((a0.list.getD (↑i.2.2 : Int).toNat T.u).cell 0).list.length) 8) ∧ ∃ (j : X4),I1 j ∧ M1 j < M1 i ∧ R17 a0 (kI ↑i.2.1 = kI ↑j.2.1 ∧ List.take i.1.length i.1 ++ ((a0.list.getD (↑i.2.2 : Int).toNat T.u).cell 0).list = j.1 ∧ R10 a0 (kI (addI .i64 ↑i.2.2 1) = kI ↑j.2.2 ∧ True))) ∧ (ltI ↑i.2.2 (lenOf a0.list) = false → True ∧ T.l (List.take i.1.length (List.drop 0 i.1)) = y0 ∧ True))) : F 118 [.t 59 a0] (zo 1 28) [y0] :=
 F_nf C118 (by kernel_rfl) Tryz.func118 (by kernel_rfl) (.two .no (.two .no (.two (.two .no (.lp (fun (ia : Nat × Nat) => [(a_ 0,AV.t 59 a0),(a_ 2,AV.t 28 (T.l [])),(a_ 3,.t 2 (.i .i64 (ia.1 : Int))),(a_ 9,AV.t 59 a0),(a_ 10,AV.t 2 (T.i IntKind.i64 (lenOf a0.list))),(a_ 11,.t 2 (.i .i64 (ia.2 : Int)))]) I0 M0 (fun _ => .no))) (.two .no (.two (.two .no (.lp (fun (ib : X4) => [(a_ 0,AV.t 59 a0),(a_ 2,AV.t 28 (T.l [])),(a_ 3,.t 2 (.i .i64 (ib.2.1 : Int))),(a_ 6,.own 28 0 ib.1),(a_ 25,AV.t 59 a0),(a_ 26,AV.t 2 (T.i IntKind.i64 (lenOf a0.list))),(a_ 27,.t 2 (.i .i64 (ib.2.2 : Int)))]) I1 M1 (fun _ => .no))) .no))))) (by kernel_rfl) h
def C53 : Ctx:=⟨tab,sigs,60,[0,1,2,4,5,6,7,8],[],[],[],[],[]⟩
theorem t_o (a0 : T) (a1 : T) (y0 : T) (I0 : X5 → Prop) (M0 : X5 → Nat) (I1 : X5 → Nat → Prop) (M1 : X5 → Nat → Nat) (h : (∃ (i : X5),I0 i ∧ R18 a0 a1 (kI 0 = kI ↑i.1 ∧ kI (-1 : Int) = kI i.2.1 ∧ kI (-1 : Int) = kI i.2.2.1 ∧ kI 0 = kI ↑i.2.2.2 ∧ True)) ∧ (∀ (i : X5),true = true) ∧ ∀ (i : X5),I0 i → (ltI ↑i.2.2.2 (lenOf a1.list) = true → ∃ y : T,F 54 [.t 60 (G15 a0),.t 2 (kI ↑i.2.2.2)] (zo 2 4) [y] ∧ ((!y.bool) = true → ∃ (j : X5),I0 j ∧ M0 j < M0 i ∧ R18 a0 a1 (kI ↑i.1 = kI ↑j.1 ∧ kI i.2.1 = kI j.2.1 ∧ kI i.2.2.1 = kI j.2.2.1 ∧ kI (addI .i64 ↑i.2.2.2 1) = kI ↑j.2.2.2 ∧ True)) ∧ ((!y.bool) = false → (ltI i.2.2.1 0 = true → (Bd ↑i.2.2.2 (lenOf a1.list)) ∧ ∃ (j : X5),I0 j ∧ M0 j < M0 i ∧ R18 a0 a1 (kI ↑i.1 = kI ↑j.1 ∧ kI (lenOf ((a1.list.getD (↑i.2.2.2 : Int).toNat T.u).cell 0).list) = kI j.2.1 ∧ kI ↑i.2.2.2 = kI j.2.2.1 ∧ kI (addI .i64 ↑i.2.2.2 1) = kI ↑j.2.2.2 ∧ True)) ∧ (ltI i.2.2.1 0 = false → (∃ i_1 : Nat,I1 i i_1 ∧ R19 a0 a1 i.1 (kI i.2.1 = kI i.2.1 ∧ kI i.2.2.1 = kI i.2.2.1 ∧ kI ↑i.2.2.2 = kI ↑i.2.2.2 ∧ kI 0 = kI ↑i_1 ∧ True)) ∧ (∀ i : Nat,true = true) ∧ ∀ i_1 : Nat,I1 i i_1 → (ltI ↑i_1 i.2.1 = true ∧ True → 0 ≤ (↑i.2.2.2 : Int) ∧ (↑i.2.2.2 : Int) < lenOf a1.list) ∧ ((T.ite (ltI ↑i_1 i.2.1) (T.b (ltI ↑i_1 (lenOf ((a1.list.getD (↑i.2.2.2 : Int).toNat T.u).cell 0).list))) (T.b false)).bool = true ∧ True → 0 ≤ (↑i.2.2.2 : Int) ∧ (↑i.2.2.2 : Int) < lenOf a1.list) ∧ ((T.ite (ltI ↑i_1 i.2.1) (T.b (ltI ↑i_1 (lenOf ((a1.list.getD (↑i.2.2.2 : Int).toNat T.u).cell 0).list))) (T.b false)).bool = true ∧ True → 0 ≤ (↑i_1 : Int) ∧ (↑i_1 : Int) < lenOf ((a1.list.getD (↑i.2.2.2 : Int).toNat T.u).cell 0).list) ∧ ((T.ite (ltI ↑i_1 i.2.1) (T.b (ltI ↑i_1 (lenOf ((a1.list.getD (↑i.2.2.2 : Int).toNat T.u).cell 0).list))) (T.b false)).bool = true ∧ True → 0 ≤ i.2.2.1 ∧ i.2.2.1 < lenOf a1.list) ∧ ((T.ite (ltI ↑i_1 i.2.1) (T.b (ltI ↑i_1 (lenOf ((a1.list.getD (↑i.2.2.2 : Int).toNat T.u).cell 0).list))) (T.b false)).bool = true ∧ True → 0 ≤ (↑i_1 : Int) ∧ (↑i_1 : Int) < lenOf ((a1.list.getD i.2.2.1.toNat T.u).cell 0).list) ∧ ((T.ite (T.ite (ltI ↑i_1 i.2.1) (T.b (ltI ↑i_1 (lenOf ((a1.list.getD (↑i.2.2.2 : Int).toNat T.u).cell 0).list))) (T.b false)).bool (T.b (eqI ((((a1.list.getD (↑i.2.2.2 : Int).toNat T.u).cell 0).list.getD (↑i_1 : Int).toNat T.u).cell 0).int ((((a1.list.getD i.2.2.1.toNat T.u).cell 0).list.getD (↑i_1 : Int).toNat T.u).cell 0).int)) (T.b false)).bool = true → ∃ j : Nat,I1 i j ∧ M1 i j < M1 i i_1 ∧ R19 a0 a1 i.1 (kI i.2.1 = kI i.2.1 ∧ kI i.2.2.1 = kI i.2.2.1 ∧ kI ↑i.2.2.2 = kI ↑i.2.2.2 ∧ kI (addI .i64 ↑i_1 1) = kI ↑j ∧ True)) ∧ ((T.ite (T.ite (ltI ↑i_1 i.2.1) (T.b (ltI ↑i_1 (lenOf ((a1.list.getD (↑i.2.2.2 : Int).toNat T.u).cell 0).list))) (T.b false)).bool (T.b (eqI ((((a1.list.getD (↑i.2.2.2 : Int).toNat T.u).cell 0).list.getD (↑i_1 : Int).toNat T.u).cell 0).int ((((a1.list.getD i.2.2.1.toNat T.u).cell 0).list.getD (↑i_1 : Int).toNat T.u).cell 0).int)) (T.b false)).bool = false → ∃ (j : X5),I0 j ∧ M0 j < M0 i ∧ R18 a0 a1 (kI ↑i.1 = kI ↑j.1 ∧ kI ↑i_1 = kI j.2.1 ∧ kI i.2.2.1 = kI j.2.2.1 ∧ kI (addI .i64 ↑i.2.2.2 1) = kI ↑j.2.2.2 ∧ True))))) ∧ (ltI ↑i.2.2.2 (lenOf a1.list) = false → True ∧ kI i.2.1 = y0 ∧ True)) : F 53 [.t 60 a0,.t 59 a1] (zo 2 2) [y0] :=
 F_nf C53 (by kernel_rfl) Tryz.func53 (by kernel_rfl) (.two .no (.two .no (.two .no (.two (.two .no (.lp (fun (ia : X5) => [(a_ 0,AV.t 60 a0),(a_ 1,AV.t 59 a1),(a_ 2,AV.box 60 0 15)] ++ bxS 2 a0 0 Y3 ++ [(a_ 4,.t 2 (.i .i64 (ia.1 : Int))),(a_ 5,.t 2 (.i .i64 ia.2.1)),(a_ 6,.t 2 (.i .i64 ia.2.2.1)),(a_ 7,.t 2 (.i .i64 (ia.2.2.2 : Int)))]) I0 M0 (fun (ia : X5) => (.two .no (.two (.two .no (.two .no (.two .no (.two (.lp (fun (ib : Nat) => [(a_ 0,AV.t 60 a0),(a_ 1,AV.t 59 a1),(a_ 2,AV.box 60 0 15)] ++ bxS 2 a0 0 Y3 ++ [(a_ 4,AV.t 2 (T.i IntKind.i64 (↑ia.1 : Int))),(a_ 5,AV.t 2 (T.i IntKind.i64 ia.2.1)),(a_ 6,AV.t 2 (T.i IntKind.i64 ia.2.2.1)),(a_ 7,AV.t 2 (T.i IntKind.i64 (↑ia.2.2.2 : Int))),(a_ 8,.t 2 (.i .i64 (ib : Int)))]) (I1 ia) (M1 ia) (fun _ => .no)) .no)))) .no))))) .no)))) (by kernel_rfl) h
def C80 : Ctx:=⟨tab,sigs,56,[0,1,4,5,6,7,8,9,10,11,12],[a_ 5,a_ 9],[(81,⟨[],[(0,[false,false])],[]⟩)],[],[],[0]⟩
theorem t_N (b0_0 : T) (b0_1 : T) (a1 : T) (y0 : T) (y1 : T) (y2 : T) (I0 : X6 → Prop) (M0 : X6 → Nat) (I1 : X7 → Prop) (M1 : X7 → Nat) (h : (∃ (i : X6),I0 i ∧ True ∧ b0_0 = b0_0 ∧ b0_1 = kI ↑i.2.1 ∧ R17 a1 ([] = i.1 ∧ kI 0 = kI ↑i.2.2.1 ∧ kI 0 = kI ↑i.2.2.2 ∧ True)) ∧ (∀ (i : X6),true = true) ∧ ∀ (i : X6),I0 i → (ltI ↑i.2.2.2 a1.int = true → ∃ y y_1 y_2 : T,F 81 [.box 129 2 [.t 28 b0_0,.t 2 (kI ↑i.2.1)],.t 2 (kI 4)] Z6 [y,y_1,y_2] ∧ (eqI y.int 3 = true → (Rm ((List.take i.1.length i.1).length + ((List.replicate 1 (kI 0)).set 0 (kI 0)).length) 8) ∧ ∃ (j : X6),I0 j ∧ M0 j < M0 i ∧ True ∧ y_1 = b0_0 ∧ y_2 = kI ↑j.2.1 ∧ R17 a1 (List.take i.1.length i.1 ++ (List.replicate 1 (kI 0)).set 0 (kI 0) = j.1 ∧ kI (addI .i64 ↑i.2.2.1 0) = kI ↑j.2.2.1 ∧ kI (addI .i64 ↑i.2.2.2 1) = kI ↑j.2.2.2 ∧ True)) ∧ (eqI y.int 3 = false → (Rm ((List.take i.1.length i.1).length + ((List.replicate 1 (kI 0)).set 0 y).length) 8) ∧ ∃ (j : X6),I0 j ∧ M0 j < M0 i ∧ True ∧ y_1 = b0_0 ∧ y_2 = kI ↑j.2.1 ∧ R17 a1 (List.take i.1.length i.1 ++ (List.replicate 1 (kI 0)).set 0 y = j.1 ∧ kI (addI .i64 ↑i.2.2.1 y.int) = kI ↑j.2.2.1 ∧ kI (addI .i64 ↑i.2.2.2 1) = kI ↑j.2.2.2 ∧ True))) ∧ (ltI ↑i.2.2.2 a1.int = false → (eqI ↑i.2.2.1 0 = true → ∃ y y_1 y_2 : T,F 81 [.box 129 2 [.t 28 b0_0,.t 2 (kI ↑i.2.1)],.t 2 (kI 100)] Z6 [y,y_1,y_2] ∧ ∃ y_3 : T,F 19 [.t 2 y,.t 2 a1] (zo 2 2) [y_3] ∧ (Bd (y_3.int) (↑i.1.length : Int)) ∧ (∃ (i_1 : X7),I1 i_1 ∧ True ∧ y_1 = b0_0 ∧ y_2 = kI ↑i_1.2.2.1 ∧ R17 a1 (i.1.set (0 + y_3.int.toNat) (kI 1) = i_1.1 ∧ kI 1 = kI ↑i_1.2.2.2.1 ∧ [] = i_1.2.1 ∧ kI 0 = kI ↑i_1.2.2.2.2 ∧ True)) ∧ (∀ (i : X7),true = true) ∧ ∀ (i : X7),I1 i → (ltI ↑i.2.2.2.2 a1.int = true → (Bd ↑i.2.2.2.2 (↑i.1.length : Int)) ∧ ∃ y y_4 : T,F 55 [.t 2 ((i.1.getD (0 + (↑i.2.2.2.2 : Int).toNat) T.u).cell 0),.t 2 (kI ↑i.2.2.2.1)] Z1 [y,y_4] ∧ (Rm ((List.take i.2.1.length i.2.1).length + ((List.replicate 1 (T.g [T.b false,T.l [],T.l []])).set 0 (G3 y)).length) 56) ∧ ∃ (j : X7),I1 j ∧ M1 j < M1 i ∧ True ∧ b0_0 = b0_0 ∧ kI ↑i.2.2.1 = kI ↑j.2.2.1 ∧ R17 a1 (i.1 = j.1 ∧ kI ↑i.2.2.2.1 = kI ↑j.2.2.2.1 ∧ List.take i.2.1.length i.2.1 ++ (List.replicate 1 (T.g [T.b false,T.l [],T.l []])).set 0 (G3 y) = j.2.1 ∧ kI (addI .i64 ↑i.2.2.2.2 1) = kI ↑j.2.2.2.2 ∧ True)) ∧ (ltI ↑i.2.2.2.2 a1.int = false → (True ∧ True) ∧ T.l (List.take i.2.1.length (List.drop 0 i.2.1)) = y0 ∧ b0_0 = y1 ∧ kI ↑i.2.2.1 = y2 ∧ True)) ∧ (eqI ↑i.2.2.1 0 = false → (∃ (i_1 : X7),I1 i_1 ∧ True ∧ b0_0 = b0_0 ∧ kI ↑i.2.1 = kI ↑i_1.2.2.1 ∧ R17 a1 (i.1 = i_1.1 ∧ kI ↑i.2.2.1 = kI ↑i_1.2.2.2.1 ∧ [] = i_1.2.1 ∧ kI 0 = kI ↑i_1.2.2.2.2 ∧ True)) ∧ (∀ (i : X7),true = true) ∧ ∀ (i : X7),I1 i → (ltI ↑i.2.2.2.2 a1.int = true → (Bd ↑i.2.2.2.2 (↑i.1.length : Int)) ∧ ∃ y y_1 : T,F 55 [.t 2 ((i.1.getD (0 + (↑i.2.2.2.2 : Int).toNat) T.u).cell 0),.t 2 (kI ↑i.2.2.2.1)] Z1 [y,y_1] ∧ (Rm ((List.take i.2.1.length i.2.1).length + ((List.replicate 1 (T.g [T.b false,T.l [],T.l []])).set 0 (G3 y)).length) 56) ∧ ∃ (j : X7),I1 j ∧ M1 j < M1 i ∧ True ∧ b0_0 = b0_0 ∧ kI ↑i.2.2.1 = kI ↑j.2.2.1 ∧ R17 a1 (i.1 = j.1 ∧ kI ↑i.2.2.2.1 = kI ↑j.2.2.2.1 ∧ List.take i.2.1.length i.2.1 ++ (List.replicate 1 (T.g [T.b false,T.l [],T.l []])).set 0 (G3 y) = j.2.1 ∧ kI (addI .i64 ↑i.2.2.2.2 1) = kI ↑j.2.2.2.2 ∧ True)) ∧ (ltI ↑i.2.2.2.2 a1.int = false → (True ∧ True) ∧ T.l (List.take i.2.1.length (List.drop 0 i.2.1)) = y0 ∧ b0_0 = y1 ∧ kI ↑i.2.2.1 = y2 ∧ True)))) : F 80 [.box 129 2 [.t 28 b0_0,.t 2 b0_1],.t 2 a1] Z7 [y0,y1,y2] :=
 F_nf C80 (by kernel_rfl) Tryz.func80 (by kernel_rfl) (.two .no (.two .no (.two .no (.two (.two .no (.lp (fun (ia : X6) => [(a_ 0,AV.box 129 0 2),(cell 0 0,AV.t 28 b0_0),(cell 0 1,.t 2 (.i .i64 (ia.2.1 : Int))),(a_ 1,AV.t 2 a1),(a_ 4,AV.t 25 (T.l [])),(a_ 5,.own 28 0 ia.1),(a_ 6,.t 2 (.i .i64 (ia.2.2.1 : Int))),(a_ 7,.t 2 (.i .i64 (ia.2.2.2 : Int)))]) I0 M0 (fun _ => .no))) (.two .no (.two .no (.two (.two .no (.lp (fun (ib : X7) => [(a_ 0,AV.box 129 0 2),(cell 0 0,.t 28 b0_0),(cell 0 1,.t 2 (.i .i64 (ib.2.2.1 : Int))),(a_ 1,AV.t 2 a1),(a_ 4,AV.t 25 (T.l [])),(a_ 5,.own 28 0 ib.1),(a_ 6,.t 2 (.i .i64 (ib.2.2.2.1 : Int))),(a_ 9,.own 25 0 ib.2.1),(a_ 10,.t 2 (.i .i64 (ib.2.2.2.2 : Int)))]) I1 M1 (fun _ => .no))) .no))))))) (by kernel_rfl) h
def C71 : Ctx:=⟨tab,sigs,52,[0,1,2,4,5,6,7,8,9,10,11,12],[],[],[],[],[]⟩
theorem t_F (a0 : T) (a1 : T) (y0 : T) (I0 : X8 → Prop) (M0 : X8 → Nat) (I1 : X8 → X8 → Prop) (M1 : X8 → X8 → Nat) (h : (∃ (i : X8),I0 i ∧ R20 a0 a1 (kI (-1 : Int) = kI i.1 ∧ T.l [] = i.2.1 ∧ R10 a1 (kI 0 = kI ↑i.2.2 ∧ True))) ∧ (∀ (i : X8),true = true) ∧ ∀ (i : X8),I0 i → (ltI ↑i.2.2 (lenOf a1.list) = true → (Bd ↑i.2.2 (lenOf a1.list)) ∧ ∃ y : T,F 69 [.t 60 (G15 a0),.t 2 (kI ↑i.2.2)] (zo 2 4) [y] ∧ ((!y.bool) = true → ∃ (j : X8),I0 j ∧ M0 j < M0 i ∧ R20 a0 a1 (kI i.1 = kI j.1 ∧ i.2.1 = j.2.1 ∧ R10 a1 (kI (addI .i64 ↑i.2.2 1) = kI ↑j.2.2 ∧ True))) ∧ ((!y.bool) = false → (ltI i.1 0 = true → (∃ (i_1 : X8),I1 i i_1 ∧ R20 a0 a1 (kI (lenOf ((a1.list.getD (↑i.2.2 : Int).toNat T.u).cell 0).list) = kI i_1.1 ∧ (a1.list.getD (↑i.2.2 : Int).toNat T.u).cell 0 = i_1.2.1 ∧ R21 a1 i.2.2 (kI 0 = kI ↑i_1.2.2 ∧ True))) ∧ (∀ (i : X8),true = true) ∧ ∀ (i_1 : X8),I1 i i_1 → ((T.ite (ltI ↑i_1.2.2 i_1.1) (T.b (ltI ↑i_1.2.2 (lenOf ((a1.list.getD (↑i.2.2 : Int).toNat T.u).cell 0).list))) (T.b false)).bool = true ∧ True → 0 ≤ (↑i_1.2.2 : Int) ∧ (↑i_1.2.2 : Int) < lenOf ((a1.list.getD (↑i.2.2 : Int).toNat T.u).cell 0).list) ∧ ((T.ite (ltI ↑i_1.2.2 i_1.1) (T.b (ltI ↑i_1.2.2 (lenOf ((a1.list.getD (↑i.2.2 : Int).toNat T.u).cell 0).list))) (T.b false)).bool = true ∧ True → 0 ≤ (↑i_1.2.2 : Int) ∧ (↑i_1.2.2 : Int) < lenOf i_1.2.1.list) ∧ ((T.ite (T.ite (ltI ↑i_1.2.2 i_1.1) (T.b (ltI ↑i_1.2.2 (lenOf ((a1.list.getD (↑i.2.2 : Int).toNat T.u).cell 0).list))) (T.b false)).bool (T.b (eqI ((((a1.list.getD (↑i.2.2 : Int).toNat T.u).cell 0).list.getD (↑i_1.2.2 : Int).toNat T.u).cell 0).int ((i_1.2.1.list.getD (↑i_1.2.2 : Int).toNat T.u).cell 0).int)) (T.b false)).bool = true → ∃ (j : X8),I1 i j ∧ M1 i j < M1 i i_1 ∧ R20 a0 a1 (kI i_1.1 = kI j.1 ∧ i_1.2.1 = j.2.1 ∧ R21 a1 i.2.2 (kI (addI .i64 ↑i_1.2.2 1) = kI ↑j.2.2 ∧ True))) ∧ ((T.ite (T.ite (ltI ↑i_1.2.2 i_1.1) (T.b (ltI ↑i_1.2.2 (lenOf ((a1.list.getD (↑i.2.2 : Int).toNat T.u).cell 0).list))) (T.b false)).bool (T.b (eqI ((((a1.list.getD (↑i.2.2 : Int).toNat T.u).cell 0).list.getD (↑i_1.2.2 : Int).toNat T.u).cell 0).int ((i_1.2.1.list.getD (↑i_1.2.2 : Int).toNat T.u).cell 0).int)) (T.b false)).bool = false → ∃ (j : X8),I0 j ∧ M0 j < M0 i ∧ R20 a0 a1 (kI ↑i_1.2.2 = kI j.1 ∧ i_1.2.1 = j.2.1 ∧ R10 a1 (kI (addI .i64 ↑i.2.2 1) = kI ↑j.2.2 ∧ True)))) ∧ (ltI i.1 0 = false → (∃ (i_1 : X8),I1 i i_1 ∧ R20 a0 a1 (kI i.1 = kI i_1.1 ∧ i.2.1 = i_1.2.1 ∧ R21 a1 i.2.2 (kI 0 = kI ↑i_1.2.2 ∧ True))) ∧ (∀ (i : X8),true = true) ∧ ∀ (i_1 : X8),I1 i i_1 → ((T.ite (ltI ↑i_1.2.2 i_1.1) (T.b (ltI ↑i_1.2.2 (lenOf ((a1.list.getD (↑i.2.2 : Int).toNat T.u).cell 0).list))) (T.b false)).bool = true ∧ True → 0 ≤ (↑i_1.2.2 : Int) ∧ (↑i_1.2.2 : Int) < lenOf ((a1.list.getD (↑i.2.2 : Int).toNat T.u).cell 0).list) ∧ ((T.ite (ltI ↑i_1.2.2 i_1.1) (T.b (ltI ↑i_1.2.2 (lenOf ((a1.list.getD (↑i.2.2 : Int).toNat T.u).cell 0).list))) (T.b false)).bool = true ∧ True → 0 ≤ (↑i_1.2.2 : Int) ∧ (↑i_1.2.2 : Int) < lenOf i_1.2.1.list) ∧ ((T.ite (T.ite (ltI ↑i_1.2.2 i_1.1) (T.b (ltI ↑i_1.2.2 (lenOf ((a1.list.getD (↑i.2.2 : Int).toNat T.u).cell 0).list))) (T.b false)).bool (T.b (eqI ((((a1.list.getD (↑i.2.2 : Int).toNat T.u).cell 0).list.getD (↑i_1.2.2 : Int).toNat T.u).cell 0).int ((i_1.2.1.list.getD (↑i_1.2.2 : Int).toNat T.u).cell 0).int)) (T.b false)).bool = true → ∃ (j : X8),I1 i j ∧ M1 i j < M1 i i_1 ∧ R20 a0 a1 (kI i_1.1 = kI j.1 ∧ i_1.2.1 = j.2.1 ∧ R21 a1 i.2.2 (kI (addI .i64 ↑i_1.2.2 1) = kI ↑j.2.2 ∧ True))) ∧ ((T.ite (T.ite (ltI ↑i_1.2.2 i_1.1) (T.b (ltI ↑i_1.2.2 (lenOf ((a1.list.getD (↑i.2.2 : Int).toNat T.u).cell 0).list))) (T.b false)).bool (T.b (eqI ((((a1.list.getD (↑i.2.2 : Int).toNat T.u).cell 0).list.getD (↑i_1.2.2 : Int).toNat T.u).cell 0).int ((i_1.2.1.list.getD (↑i_1.2.2 : Int).toNat T.u).cell 0).int)) (T.b false)).bool = false → ∃ (j : X8),I0 j ∧ M0 j < M0 i ∧ R20 a0 a1 (kI ↑i_1.2.2 = kI j.1 ∧ i_1.2.1 = j.2.1 ∧ R10 a1 (kI (addI .i64 ↑i.2.2 1) = kI ↑j.2.2 ∧ True)))))) ∧ (ltI ↑i.2.2 (lenOf a1.list) = false → True ∧ kI (maxI i.1 (0 : Int)) = y0 ∧ True)) : F 71 [.t 60 a0,.t 59 a1] (zo 2 2) [y0] :=
 F_nf C71 (by kernel_rfl) Tryz.func71 (by kernel_rfl) (.two .no (.two .no (.two .no (.two (.two .no (.lp (fun (ia : X8) => [(a_ 0,AV.t 60 a0),(a_ 1,AV.t 59 a1),(a_ 2,AV.box 60 0 15)] ++ bxS 2 a0 0 Y3 ++ [(a_ 4,AV.t 2 (T.i IntKind.i64 (0 : Int))),(a_ 5,.t 2 (.i .i64 ia.1)),(a_ 6,.t 28 ia.2.1),(a_ 10,AV.t 59 a1),(a_ 11,AV.t 2 (T.i IntKind.i64 (lenOf a1.list))),(a_ 12,.t 2 (.i .i64 (ia.2.2 : Int)))]) I0 M0 (fun (ia : X8) => (.two .no (.two .no (.two (.two .no (.two .no (.two .no (.two .no (.two (.lp (fun (ib : X8) => [(a_ 0,AV.t 60 a0),(a_ 1,AV.t 59 a1),(a_ 2,AV.box 60 0 15)] ++ bxS 2 a0 0 Y3 ++ [(a_ 4,AV.t 2 (T.i IntKind.i64 (0 : Int))),(a_ 5,.t 2 (.i .i64 ib.1)),(a_ 6,.t 28 ib.2.1),(a_ 10,AV.t 59 a1),(a_ 11,AV.t 2 (T.i IntKind.i64 (lenOf a1.list))),(a_ 12,AV.t 2 (T.i IntKind.i64 (↑ia.2.2 : Int))),(a_ 7,AV.t 2 (T.i IntKind.i64 (↑ia.2.2 : Int))),(a_ 8,AV.t 28 ((a1.list.getD (↑ia.2.2 : Int).toNat T.u).cell 0)),(a_ 9,.t 2 (.i .i64 (ib.2.2 : Int)))]) (I1 ia) (M1 ia) (fun _ => .no)) .no))))) .no)))))) .no)))) (by kernel_rfl) h
end Go.Pq
namespace Go.Proofs
open Go.Shelf
def Tryz.growI_ren : Go.Shelf.Ren:=⟨fun | 4 => 157 | n => n,fun | 22 => 28 | 25 => 3 | 3 => 3 | 4 => 4 | 9 => 9 | 20 => 20 | 0 => 0 | n => n,fun | n => n⟩
theorem Tryz.growI : Go.Proofs.Lays8.n4 Tryz.prog Tryz.growI_ren:={
 mixed:=by kernel_rfl
 f4:=⟨Tryz.f157.name,by decide,Tryz.func157.trans (congrArg some (by kernel_rfl))⟩
 t0:=Tryz.underlying0
 a0:=Tryz.isAgg0
 z0:=Tryz.sizeOf0
 v0:=Tryz.zeroValue0
 t3:=Tryz.underlying3
 a3:=Tryz.isAgg3
 z3:=Tryz.sizeOf3
 v3:=Tryz.zeroValue3
 t4:=Tryz.underlying4
 a4:=Tryz.isAgg4
 z4:=Tryz.sizeOf4
 v4:=Tryz.zeroValue4
 t9:=Tryz.underlying9
 a9:=Tryz.isAgg9
 z9:=Tryz.sizeOf9
 v9:=Tryz.zeroValue9
 t20:=Tryz.underlying20
 a20:=Tryz.isAgg20
 z20:=Tryz.sizeOf20
 v20:=Tryz.zeroValue20
 t22:=Tryz.underlying28
 a22:=Tryz.isAgg28
 z22:=Tryz.sizeOf28
 v22:=Tryz.zeroValue28 }
def Tryz.growR_ren : Go.Shelf.Ren:=⟨fun | 4 => 204 | n => n,fun | 22 => 25 | 25 => 24 | 3 => 3 | 4 => 4 | 9 => 9 | 20 => 20 | 0 => 0 | n => n,fun | n => n⟩
theorem Tryz.growR : Go.Proofs.Lays8.n4 Tryz.prog Tryz.growR_ren:={
 mixed:=by kernel_rfl
 f4:=⟨Tryz.f204.name,by decide,Tryz.func204.trans (congrArg some (by kernel_rfl))⟩
 t0:=Tryz.underlying0
 a0:=Tryz.isAgg0
 z0:=Tryz.sizeOf0
 v0:=Tryz.zeroValue0
 t3:=Tryz.underlying3
 a3:=Tryz.isAgg3
 z3:=Tryz.sizeOf3
 v3:=Tryz.zeroValue3
 t4:=Tryz.underlying4
 a4:=Tryz.isAgg4
 z4:=Tryz.sizeOf4
 v4:=Tryz.zeroValue4
 t9:=Tryz.underlying9
 a9:=Tryz.isAgg9
 z9:=Tryz.sizeOf9
 v9:=Tryz.zeroValue9
 t20:=Tryz.underlying20
 a20:=Tryz.isAgg20
 z20:=Tryz.sizeOf20
 v20:=Tryz.zeroValue20
 t22:=Tryz.underlying25
 a22:=Tryz.isAgg25
 z22:=Tryz.sizeOf25
 v22:=Tryz.zeroValue25 }
end Go.Proofs
namespace Go.Pq
open Go.Pl Go.Proofs
theorem r_W (n : Nat) (hn : n ≤ 2 ^ 40) : F 157 [.own 28 [],.t 2 (.i .i64 (n : Int))] (zw 2 28) [.l []]:=by
 obtain ⟨i0,z,z1,z2,z3,z4,-,z6,-⟩:=Good.zero (C:=C118) (t:=3) (c:=2) good (ti:=⟨.int .i64,1,8,[],.i .i64 0⟩) (by kernel_rfl);refine m_u (ci:=2) (i0:=i0) (z:=z) (cd:=c_5 Tryz.f157) good Tryz.func157 (by kernel_rfl) (by kernel_rfl) (c:=28) (ti:=⟨.sl 3,1,24,[],.l []⟩) (e:=3) (by kernel_rfl) (by kernel_rfl) (ce:=2) (te:=⟨.int .i64,1,8,[],.i .i64 0⟩) (by kernel_rfl) (tn:=⟨.int .i64,1,8,[],.i .i64 0⟩) (by kernel_rfl) (by kernel_rfl) z6 z2
  (fun base l c n w h1 h2 h3 h4 => Any8.slices_Grow_room Tryz.growI base l c n w h1 h2 h3 h4)
  (fun base l c n cs w h1 h2 h3 h4 h5 h6 h7 => Any8.slices_Grow_grow Tryz.growI i0 z z1 z4 (by rw [z2];decide) base l c n cs w h1 h2 h3 h4 h5 h6 h7) n (by rw [z3];simp only;omega) (by omega)
theorem r_X (n : Nat) (hn : n ≤ 2 ^ 40) : F 204 [.own 25 [],.t 2 (.i .i64 (n : Int))] (zw 2 25) [.l []]:=by
 obtain ⟨i0,z,z1,z2,z3,z4,-,z6,-⟩:=Good.zero (C:=C118) (t:=24) (c:=23) good (ti:=⟨.st [(0,4),(1,22),(2,22)],3,56,[4,22,22],.g [.b false,.l [],.l []]⟩) (by kernel_rfl);refine m_u (ci:=2) (i0:=i0) (z:=z) (cd:=c_5 Tryz.f204) good Tryz.func204 (by kernel_rfl) (by kernel_rfl) (c:=25) (ti:=⟨.sl 24,1,24,[],.l []⟩) (e:=24) (by kernel_rfl) (by kernel_rfl) (ce:=23) (te:=⟨.st [(0,4),(1,22),(2,22)],3,56,[4,22,22],.g [.b false,.l [],.l []]⟩) (by kernel_rfl) (tn:=⟨.int .i64,1,8,[],.i .i64 0⟩) (by kernel_rfl) (by kernel_rfl) z6 z2
  (fun base l c n w h1 h2 h3 h4 => Any8.slices_Grow_room Tryz.growR base l c n w h1 h2 h3 h4)
  (fun base l c n cs w h1 h2 h3 h4 h5 h6 h7 => Any8.slices_Grow_grow Tryz.growR i0 z z1 z4 (by rw [z2];decide) base l c n cs w h1 h2 h3 h4 h5 h6 h7) n (by rw [z3];simp only;omega) (by omega)
def C66 : Ctx:=⟨tab,sigs,39,[0,1,2,3,4],[],[],[],[],[]⟩
theorem t_A (a0 : T) (y0 : T) (h : ((T.ite (T.ite (T.ite (ltI (a0.cell 0).int (1 : Int)) (T.b true) (T.b (ltI 32 (a0.cell 0).int))).bool (T.b true) (T.b (ltI (a0.cell 1).int (1 : Int)))).bool (T.b true) (T.b (ltI 12 (a0.cell 1).int))).bool = true → True ∧ kI 1 = y0 ∧ True) ∧ ((T.ite (T.ite (T.ite (ltI (a0.cell 0).int (1 : Int)) (T.b true) (T.b (ltI 32 (a0.cell 0).int))).bool (T.b true) (T.b (ltI (a0.cell 1).int (1 : Int)))).bool (T.b true) (T.b (ltI 12 (a0.cell 1).int))).bool = false → ∃ y : T,F 109 [.t 29 (G11 a0)] (zo 1 4) [y] ∧ ((!y.bool) = true → True ∧ kI 4 = y0 ∧ True) ∧ ((!y.bool) = false → ∃ y : T,F 110 [.t 29 (G11 a0)] (zo 1 4) [y] ∧ ((!y.bool) = true → True ∧ kI 18 = y0 ∧ True) ∧ ((!y.bool) = false → ∃ y y_1 : T,F 111 [.t 29 (G11 a0)] Z5 [y,y_1] ∧ ((!y_1.bool) = true → True ∧ kI 16 = y0 ∧ True) ∧ ((!y_1.bool) = false → ∃ y : T,F 112 [.t 29 (G11 a0)] (zo 1 4) [y] ∧ ((!y.bool) = true → True ∧ kI 5 = y0 ∧ True) ∧ ((!y.bool) = false → True ∧ kI 0 = y0 ∧ True)))))) : F 66 [.t 29 a0] (zo 1 2) [y0] :=
 F_nf C66 (by kernel_rfl) Tryz.func66 (by kernel_rfl) .no (by kernel_rfl) h
def C33 : Ctx:=⟨tab,sigs,12,[0,1,2],[],[],[],[],[]⟩
theorem t_e (a0 : T) (y0 : T) (h : ∃ y : T,F 66 [.t 29 (G11 a0)] (zo 1 2) [y] ∧ ∃ y_1 : T,(eqI y.int 0 = true ∧ True → F 67 [.t 27 (a0.cell 9),.t 4 (T.b true)] (zo 2 4) [y_1]) ∧ True ∧ T.ite (eqI y.int 0) (T.b !y_1.bool) (T.b false) = y0 ∧ True) : F 33 [.t 29 a0] (zo 1 4) [y0] :=
 F_nf C33 (by kernel_rfl) Tryz.func33 (by kernel_rfl) .no (by kernel_rfl) h
def C67 : Ctx:=⟨tab,sigs,9,[0,1,4],[],[],[],[],[]⟩
theorem t_B (a0 : T) (a1 : T) (y0 : T) (h : ∃ y : T,F 113 [.t 27 a0,.t 4 a1] (zo 2 2) [y] ∧ True ∧ T.b (leI 0 y.int) = y0 ∧ True) : F 67 [.t 27 a0,.t 4 a1] (zo 2 4) [y0] :=
 F_nf C67 (by kernel_rfl) Tryz.func67 (by kernel_rfl) .no (by kernel_rfl) h
def C143 : Ctx:=⟨tab,sigs,16,[0,1,2],[],[],[],[],[]⟩
theorem q_8 (a0 : T) (y0 : T) (h : ∃ y : T,F 115 [.t 23 (G3 a0)] (zo 1 4) [y] ∧ ∃ y_1 : T,(y.bool = true ∧ True → F 116 [.t 23 (G3 a0)] (zo 1 2) [y_1]) ∧ ∃ y_2 : T,((T.ite y.bool (T.b (leI 0 y_1.int)) (T.b false)).bool = true ∧ True → F 183 [] (zo 0 23) [y_2]) ∧ ∃ y_3 : T,((T.ite y.bool (T.b (leI 0 y_1.int)) (T.b false)).bool = true ∧ True → F 117 [.t 23 (G3 a0),.t 23 y_2] (zo 2 2) [y_3]) ∧ True ∧ T.ite (T.ite y.bool (T.b (leI 0 y_1.int)) (T.b false)).bool (T.b (leI y_3.int 0)) (T.b false) = y0 ∧ True) : F 143 [.t 23 a0] (zo 1 4) [y0] :=
 F_nf C143 (by kernel_rfl) Tryz.func143 (by kernel_rfl) .no (by kernel_rfl) h
def C144 : Ctx:=⟨tab,sigs,6,[0,2],[],[],[],[],[]⟩
theorem q_9 (a0 : T) (y0 : T) (h : ∃ y : T,F 184 [.t 25 a0,.t 1 (T.f 185 [])] (zo 2 4) [y] ∧ True ∧ (T.b !y.bool) = y0 ∧ True) : F 144 [.t 25 a0] (zo 1 4) [y0] :=
 F_nf C144 (by kernel_rfl) Tryz.func144 (by kernel_rfl) .no (by kernel_rfl) h
def C148 : Ctx:=⟨tab,sigs,8,[0,1,4],[],[],[],[],[]⟩
theorem r_b (a0 : T) (a1 : T) (y0 : T) (h : ∃ y : T,F 73 [.t 25 a0,.t 25 a1,.t 1 (T.f 188 [])] (zo 3 4) [y] ∧ True ∧ y = y0 ∧ True) : F 148 [.t 25 a0,.t 25 a1] (zo 2 4) [y0] :=
 F_nf C148 (by kernel_rfl) Tryz.func148 (by kernel_rfl) .no (by kernel_rfl) h
def C183 : Ctx:=⟨tab,sigs,8,[0,1,2],[],[],[],[],[]⟩
theorem r_t  (y0 : T) (h : ∃ y y_1 : T,F 114 [.t 2 (kI 1),.t 2 (kI 1)] Z1 [y,y_1] ∧ True ∧ (G3 y) = y0 ∧ True) : F 183 [] (zo 0 23) [y0] :=
 F_nf C183 (by kernel_rfl) Tryz.func183 (by kernel_rfl) .no (by kernel_rfl) h
def C184 : Ctx:=⟨tab,sigs,9,[0,1,4],[],[],[],[],[]⟩
theorem r_u (a0 : T) (a1 : T) (y0 : T) (h : ∃ y : T,F 203 [.t 25 a0,.t 1 a1] (zo 2 2) [y] ∧ True ∧ T.b (leI 0 y.int) = y0 ∧ True) : F 184 [.t 25 a0,.t 1 a1] (zo 2 4) [y0] :=
 F_nf C184 (by kernel_rfl) Tryz.func184 (by kernel_rfl) .no (by kernel_rfl) h
def C185 : Ctx:=⟨tab,sigs,6,[0,1,2],[],[],[],[],[]⟩
theorem r_v (a0 : T) (y0 : T) (h : ∃ y : T,F 143 [.t 23 (G3 a0)] (zo 1 4) [y] ∧ True ∧ (T.b !y.bool) = y0 ∧ True) : F 185 [.t 23 a0] (zo 1 4) [y0] :=
 F_nf C185 (by kernel_rfl) Tryz.func185 (by kernel_rfl) .no (by kernel_rfl) h
def C188 : Ctx:=⟨tab,sigs,9,[0,1,2,3,4],[],[],[],[],[]⟩
theorem r_y (a0 : T) (a1 : T) (y0 : T) (h : ∃ y : T,F 117 [.t 23 (G3 a0),.t 23 (G3 a1)] (zo 2 2) [y] ∧ True ∧ T.b (eqI y.int 0) = y0 ∧ True) : F 188 [.t 23 a0,.t 23 a1] (zo 2 4) [y0] :=
 F_nf C188 (by kernel_rfl) Tryz.func188 (by kernel_rfl) .no (by kernel_rfl) h
def C35 : Ctx:=⟨tab,sigs,71,[0,1,2,3,4,5],[],[],[],[],[]⟩
theorem t_g (a0 : T) (a1 : T) (y0 : T) (h : ∃ y : T,((T.ite (eqI (a0.cell 0).int (a1.cell 0).int) (T.b (eqI (a0.cell 1).int (a1.cell 1).int)) (T.b false)).bool = true ∧ True → F 74 [.t 23 (T.g [a0.cell 2,a0.cell 3,a0.cell 4]),.t 23 (T.g [a1.cell 2,a1.cell 3,a1.cell 4])] (zo 2 4) [y]) ∧ ∃ y_1 : T,((T.ite (T.ite (eqI (a0.cell 0).int (a1.cell 0).int) (T.b (eqI (a0.cell 1).int (a1.cell 1).int)) (T.b false)).bool y (T.b false)).bool = true ∧ True → true = true ∧ F 72 [.t 25 (a0.cell 5),.t 25 (a1.cell 5)] (zo 2 4) [y_1]) ∧ ∃ y_2 : T,((T.ite (T.ite (T.ite (eqI (a0.cell 0).int (a1.cell 0).int) (T.b (eqI (a0.cell 1).int (a1.cell 1).int)) (T.b false)).bool y (T.b false)).bool y_1 (T.b false)).bool = true ∧ True → F 75 [.t 26 (a0.cell 6),.t 26 (a1.cell 6),.t 1 (T.f 72 [])] (zo 3 4) [y_2]) ∧ ∃ y_3 : T,((T.ite (T.ite (T.ite (T.ite (eqI (a0.cell 0).int (a1.cell 0).int) (T.b (eqI (a0.cell 1).int (a1.cell 1).int)) (T.b false)).bool y (T.b false)).bool y_1 (T.b false)).bool y_2 (T.b false)).bool = true ∧ True → true = true ∧ F 72 [.t 25 (a0.cell 7),.t 25 (a1.cell 7)] (zo 2 4) [y_3]) ∧ ∃ y_4 : T,((T.ite (T.ite (T.ite (T.ite (T.ite (eqI (a0.cell 0).int (a1.cell 0).int) (T.b (eqI (a0.cell 1).int (a1.cell 1).int)) (T.b false)).bool y (T.b false)).bool y_1 (T.b false)).bool y_2 (T.b false)).bool y_3 (T.b false)).bool = true ∧ True → F 75 [.t 26 (a0.cell 8),.t 26 (a1.cell 8),.t 1 (T.f 72 [])] (zo 3 4) [y_4]) ∧ ∃ y_5 : T,((T.ite (T.ite (T.ite (T.ite (T.ite (T.ite (eqI (a0.cell 0).int (a1.cell 0).int) (T.b (eqI (a0.cell 1).int (a1.cell 1).int)) (T.b false)).bool y (T.b false)).bool y_1 (T.b false)).bool y_2 (T.b false)).bool y_3 (T.b false)).bool y_4 (T.b false)).bool = true ∧ True → F 76 [.t 27 (a0.cell 9),.t 27 (a1.cell 9)] (zo 2 4) [y_5]) ∧ ∃ y_6 : T,((T.ite (T.ite (T.ite (T.ite (T.ite (T.ite (T.ite (eqI (a0.cell 0).int (a1.cell 0).int) (T.b (eqI (a0.cell 1).int (a1.cell 1).int)) (T.b false)).bool y (T.b false)).bool y_1 (T.b false)).bool y_2 (T.b false)).bool y_3 (T.b false)).bool y_4 (T.b false)).bool y_5 (T.b false)).bool = true ∧ True → F 77 [.t 28 (a0.cell 10),.t 28 (a1.cell 10)] (zo 2 4) [y_6]) ∧ True ∧ T.ite (T.ite (T.ite (T.ite (T.ite (T.ite (T.ite (T.ite (eqI (a0.cell 0).int (a1.cell 0).int) (T.b (eqI (a0.cell 1).int (a1.cell 1).int)) (T.b false)).bool y (T.b false)).bool y_1 (T.b false)).bool y_2 (T.b false)).bool y_3 (T.b false)).bool y_4 (T.b false)).bool y_5 (T.b false)).bool y_6 (T.b false) = y0 ∧ True) : F 35 [.t 29 a0,.t 29 a1] (zo 2 4) [y0] :=
 F_nf C35 (by kernel_rfl) Tryz.func35 (by kernel_rfl) .no (by kernel_rfl) h
def C72 : Ctx:=⟨tab,sigs,8,[0,1,4],[],[],[],[],[]⟩
theorem t_G (a0 : T) (a1 : T) (y0 : T) (h : ∃ y : T,F 73 [.t 25 a0,.t 25 a1,.t 1 (T.f 74 [])] (zo 3 4) [y] ∧ True ∧ y = y0 ∧ True) : F 72 [.t 25 a0,.t 25 a1] (zo 2 4) [y0] :=
 F_nf C72 (by kernel_rfl) Tryz.func72 (by kernel_rfl) .no (by kernel_rfl) h
def C74 : Ctx:=⟨tab,sigs,24,[0,1,2,3,4],[],[],[],[],[]⟩
theorem t_H (a0 : T) (a1 : T) (y0 : T) (h : ∃ y : T,(((a0.cell 0).bool == (a1.cell 0).bool) = true ∧ True → F 121 [.t 22 (a0.cell 1),.t 22 (a1.cell 1)] (zo 2 4) [y]) ∧ ∃ y_1 : T,((T.ite ((a0.cell 0).bool == (a1.cell 0).bool) y (T.b false)).bool = true ∧ True → F 121 [.t 22 (a0.cell 2),.t 22 (a1.cell 2)] (zo 2 4) [y_1]) ∧ True ∧ T.ite (T.ite ((a0.cell 0).bool == (a1.cell 0).bool) y (T.b false)).bool y_1 (T.b false) = y0 ∧ True) : F 74 [.t 23 a0,.t 23 a1] (zo 2 4) [y0] :=
 F_nf C74 (by kernel_rfl) Tryz.func74 (by kernel_rfl) .no (by kernel_rfl) h
def C59 : Ctx:=⟨tab,sigs,29,[0,1,2],[],[(62,⟨[true],[],[]⟩)],[],[],[]⟩
theorem t_t (a0 : T) (y0 : T) (h : ∃ y : T,F 100 [.t 23 (T.g [a0.cell 2,a0.cell 3,a0.cell 4])] (zo 1 23) [y] ∧ ∃ y_1 : T,F 60 [.t 25 (a0.cell 5)] (zo 1 25) [y_1] ∧ ∃ y_2 : T,F 101 [.t 26 (a0.cell 6)] (zo 1 26) [y_2] ∧ ∃ y_3 : T,F 60 [.t 25 (a0.cell 7)] (zo 1 25) [y_3] ∧ ∃ y_4 : T,F 101 [.t 26 (a0.cell 8)] (zo 1 26) [y_4] ∧ ∃ y_5 : T,F 102 [.t 27 (a0.cell 9)] (zo 1 27) [y_5] ∧ ∃ y_6 : T,F 62 [.t 28 (a0.cell 10)] [(a_ 1,28,[true].headD false)] [y_6] ∧ True ∧ T.g [(a0.cell 0).cell 0,(a0.cell 1).cell 0,y.cell 0,y.cell 1,y.cell 2,y_1.cell 0,y_2.cell 0,y_3.cell 0,y_4.cell 0,y_5.cell 0,T.l y_6.list] = y0 ∧ True) : F 59 [.t 29 a0] (zo 1 29) [y0] :=
 F_nf C59 (by kernel_rfl) Tryz.func59 (by kernel_rfl) .no (by kernel_rfl) h
def C60 : Ctx:=⟨tab,sigs,5,[0,2],[],[],[],[],[]⟩
theorem t_u (a0 : T) (y0 : T) (h : ∃ y : T,F 103 [.t 25 a0,.t 1 (T.f 100 [])] (zo 2 25) [y] ∧ True ∧ y = y0 ∧ True) : F 60 [.t 25 a0] (zo 1 25) [y0] :=
 F_nf C60 (by kernel_rfl) Tryz.func60 (by kernel_rfl) .no (by kernel_rfl) h
def C61 : Ctx:=⟨tab,sigs,5,[0,2],[],[],[],[],[]⟩
theorem t_v (a0 : T) (y0 : T) (h : ∃ y : T,F 104 [.t 59 a0,.t 1 (T.f 62 [])] (zo 2 59) [y] ∧ True ∧ y = y0 ∧ True) : F 61 [.t 59 a0] (zo 1 59) [y0] :=
 F_nf C61 (by kernel_rfl) Tryz.func61 (by kernel_rfl) .no (by kernel_rfl) h
def C62 : Ctx:=⟨tab,sigs,8,[0,2],[a_ 2],[],[],[],[]⟩
theorem t_w (a0 : T) (y0 : T) (h : ∀ y : T,nilC a0 y → (y.bool = true → True ∧ T.l [] = y0 ∧ True) ∧ (y.bool = false → (Rm (0 + a0.list.length) 8) ∧ True ∧ T.l (List.replicate 0 (kI 0) ++ a0.list) = y0 ∧ True)) : F 62 [.t 28 a0] (zw 1 28) [y0] :=
 F_nf C62 (by kernel_rfl) Tryz.func62 (by kernel_rfl) .no (by kernel_rfl) h
def C100 : Ctx:=⟨tab,sigs,12,[0,1,2],[],[],[],[],[]⟩
theorem q_A (a0 : T) (y0 : T) (h : ∃ y : T,F 139 [.t 22 (a0.cell 1)] (zo 1 22) [y] ∧ ∃ y_1 : T,F 139 [.t 22 (a0.cell 2)] (zo 1 22) [y_1] ∧ True ∧ T.g [(a0.cell 0).cell 0,y.cell 0,y_1.cell 0] = y0 ∧ True) : F 100 [.t 23 a0] (zo 1 23) [y0] :=
 F_nf C100 (by kernel_rfl) Tryz.func100 (by kernel_rfl) .no (by kernel_rfl) h
def C101 : Ctx:=⟨tab,sigs,5,[0,2],[],[],[],[],[]⟩
theorem q_B (a0 : T) (y0 : T) (h : ∃ y : T,F 140 [.t 26 a0,.t 1 (T.f 60 [])] (zo 2 26) [y] ∧ True ∧ y = y0 ∧ True) : F 101 [.t 26 a0] (zo 1 26) [y0] :=
 F_nf C101 (by kernel_rfl) Tryz.func101 (by kernel_rfl) .no (by kernel_rfl) h
def C102 : Ctx:=⟨tab,sigs,8,[0,2],[],[],[],[],[]⟩
theorem q_C (a0 : T) (y0 : T) (h : ∀ y : T,nilC a0 y → (y.bool = true → True ∧ T.l [] = y0 ∧ True) ∧ (y.bool = false → (Rm (0 + a0.list.length) 1) ∧ True ∧ T.l (List.replicate 0 (T.b false) ++ a0.list) = y0 ∧ True)) : F 102 [.t 27 a0] (zo 1 27) [y0] :=
 F_nf C102 (by kernel_rfl) Tryz.func102 (by kernel_rfl) .no (by kernel_rfl) h
def C139 : Ctx:=⟨tab,sigs,8,[0,2],[],[],[],[],[]⟩
theorem q_4 (a0 : T) (y0 : T) (h : ∀ y : T,nilC a0 y → (y.bool = true → True ∧ T.l [] = y0 ∧ True) ∧ (y.bool = false → (Rm (0 + a0.list.length) 4) ∧ True ∧ T.l (List.replicate 0 (T.i .u32 0) ++ a0.list) = y0 ∧ True)) : F 139 [.t 22 a0] (zo 1 22) [y0] :=
 F_nf C139 (by kernel_rfl) Tryz.func139 (by kernel_rfl) .no (by kernel_rfl) h
end Go.Pq
