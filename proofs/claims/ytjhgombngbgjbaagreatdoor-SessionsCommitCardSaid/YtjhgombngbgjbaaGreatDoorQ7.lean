/- Part 7 of 11. What a session has committed at any time is the beginning of what it commits later, and of the path at its end (SessionsCommit), for every input; no condition. Names are shortened and spaces left out by program, for the size. -/
import Derived.Test.YtjhgombngbgjbaaGreatDoorQ6
import Derived.IntWalk
set_option linter.unusedVariables false
set_option linter.unusedSimpArgs false
set_option linter.unusedSectionVars false
set_option linter.constructorNameAsVariable false
set_option maxRecDepth 100000
namespace Go.Pl
theorem k_ (k : IntKind) (n : Int) : (T.i k n).int = n:=rfl
theorem c_ {x y : Int} (h : -9223372036854775808 ≤ x + y ∧ x + y ≤ 9223372036854775807) : addI .i64 x y = x + y:=IntWalk.i64_in _ h
theorem Y_ {x y : Int} (h : -9223372036854775808 ≤ x - y ∧ x - y ≤ 9223372036854775807) : subI .i64 x y = x - y:=IntWalk.i64_in _ h
theorem h_i {x y : Int} (h : -9223372036854775808 ≤ x * y ∧ x * y ≤ 9223372036854775807) : mulI .i64 x y = x * y:=IntWalk.i64_in _ h
theorem d_M {x y : Int} (h : 0 ≤ x + y ∧ x + y ≤ 18446744073709551615) : addI .u64 x y = x + y:=IntWalk.u64_in _ h
theorem j_m {x y : Int} (h : 0 ≤ x - y ∧ x - y ≤ 18446744073709551615) : subI .u64 x y = x - y:=IntWalk.u64_in _ h
theorem p_0 {x y : Int} (h : 0 ≤ x * y ∧ x * y ≤ 18446744073709551615) : mulI .u64 x y = x * y:=IntWalk.u64_in _ h
theorem g_Z (n : Int) : IntKind.u64.wrap n = n % 18446744073709551616:=by simp [IntKind.wrap,IntKind.bits,IntKind.signed]
theorem s_N (n : Int) : IntKind.u32.wrap n = n % 4294967296:=by simp [IntKind.wrap,IntKind.bits,IntKind.signed]
theorem a_2 {x : Int} (h : 0 ≤ x ∧ x ≤ 18446744073709551615) : p_ .u64 x = x:=IntWalk.u64_in _ h
theorem e_1 {x : Int} (h : -9223372036854775808 ≤ x ∧ x ≤ 9223372036854775807) : p_ .i64 x = x:=IntWalk.i64_in _ h
theorem g_e (x : Int) : p_ .u32 x = x % 4294967296:=s_N x
theorem shr32 (x : Int) : shrI .u64 x 32 = x / 4294967296:=by
 unfold shrI;rw [show (min (Int.toNat 32) IntKind.u64.bits) = 32 from rfl,Int.fdiv_eq_ediv_of_nonneg _ (by decide)];rfl
theorem shr63 (x : Int) : shrI .u64 x 63 = x / 9223372036854775808:=by
 unfold shrI;rw [show (min (Int.toNat 63) IntKind.u64.bits) = 63 from rfl,Int.fdiv_eq_ediv_of_nonneg _ (by decide)];rfl
theorem d_ {x y : Int} : ltI x y = true ↔ x < y:=by simp [ltI]
theorem l_ {x y : Int} : ltI x y = false ↔ y ≤ x:=by simp [ltI]
theorem a_R {x y : Int} : leI x y = true ↔ x ≤ y:=by simp [leI]
theorem b_o {x y : Int} : leI x y = false ↔ y < x:=by simp [leI]
theorem M_ {x y : Int} : eqI x y = true ↔ x = y:=by simp [eqI]
theorem a_D {x y : Int} : eqI x y = false ↔ x ≠ y:=by simp [eqI]
theorem b_h {x y : Int} : neI x y = true ↔ x ≠ y:=by simp [neI]
theorem c_i {x y : Int} : neI x y = false ↔ x = y:=by simp [neI]
theorem a_3 {c x : Bool} : (T.ite c (T.b x) (T.b false)).bool = (c && x):=by cases c <;> rfl
theorem d_R {c x : Bool} : (T.ite c (T.b true) (T.b x)).bool = (c || x):=by cases c <;> rfl
theorem h_Y (a b : Nat) : maxI a b = ((max a b : Nat) : Int):=by unfold maxI;split <;> omega
def lm (x : UInt32) : T:=.i .u32 (x.toNat : Int)
def limL (a : List UInt32) : List T:=a.map lm
def lim (a : List UInt32) : T:=.l (limL a)
theorem n_ (a : List UInt32) : (lim a).list = limL a:=rfl
theorem y_ (a : List UInt32) : (limL a).length = a.length:=by simp [limL]
theorem g_ (a : List UInt32) : lenOf (limL a) = (a.length : Int):=by simp [lenOf,limL]
theorem V_ (a : List UInt32) {i : Nat} (h : i < a.length) : (limL a).getD i .u = lm (a.getD i 0):=by
 simp [limL,List.getD_eq_getElem?_getD,h]
theorem b_R (x : UInt32) : ((lm x).cell 0).int = (x.toNat : Int):=rfl
theorem a_d (a : List UInt32) (n : Nat) : (limL a).take n = limL (a.take n):=by simp [limL]
theorem b_a (a b : List UInt32) : limL a ++ limL b = limL (a ++ b):=by simp [limL]
theorem c_T (a : List UInt32) (i : Nat) (x : UInt32) : (limL a).set i (lm x) = limL (a.set i x):=by simp [limL,List.map_set]
theorem a_A (n : Nat) : List.replicate n (T.i .u32 0) = limL (List.replicate n 0):=by simp [limL,lm]
end Go.Pl
namespace Lb
def B : Nat:=4294967296
theorem a_l : 0 < B:=by decide
def val : List UInt32 → Nat
 | [] => 0
 | x :: r => x.toNat + B * val r
def natF : Nat → Nat → List UInt32
 | 0,_ => []
 | f + 1,n => match n with
  | 0 => []
  | n + 1 => UInt32.ofNat ((n + 1) % B) :: natF f ((n + 1) / B)
def nat (n : Nat) : List UInt32:=natF (n.log2 + 1) n
def dg (a : List UInt32) (i : Nat) : Nat:=(a.getD i 0).toNat
def pv (f : Nat → Nat) : Nat → Nat
 | 0 => 0
 | n + 1 => pv f n + f n * B ^ n
theorem a_Q (a : List UInt32) (i : Nat) : dg a i < B:=(a.getD i 0).toNat_lt
theorem c_g {a : List UInt32} {i : Nat} (h : a.length ≤ i) : dg a i = 0:=by
 unfold dg;rw [List.getD_eq_getElem?_getD,List.getElem?_eq_none h];rfl
theorem h_v (a b : List UInt32) : val (a ++ b) = val a + B ^ a.length * val b:=by
 induction a with
 | nil => simp [val]
 | cons x r ih =>
  simp only [List.cons_append,val,ih,List.length_cons,Nat.pow_succ];rw [Nat.mul_add,Nat.add_assoc,← Nat.mul_assoc,Nat.mul_comm B (B ^ r.length)]
theorem c_3 (a : List UInt32) (x : UInt32) : val (a ++ [x]) = val a + B ^ a.length * x.toNat:=by
 rw [h_v];simp [val]
theorem a_t (a : List UInt32) : val a < B ^ a.length:=by
 induction a with
 | nil => simp [val]
 | cons x r ih =>
  simp only [val,List.length_cons,Nat.pow_succ];have hx : x.toNat < B:=x.toNat_lt;have : B * (val r + 1) ≤ B * B ^ r.length:=Nat.mul_le_mul_left _ ih;rw [Nat.mul_comm (B ^ r.length) B];rw [Nat.mul_add,Nat.mul_one] at this;omega
theorem n_V (a : List UInt32) : ∀ n,n ≤ a.length → val (a.take n) = pv (dg a) n:=by
 intro n
 induction n with
 | zero => intro _;simp [val,pv]
 | succ n ih =>
  intro h;rw [List.take_succ_eq_append_getElem (by omega),c_3,ih (by omega),pv];have : (a.take n).length = n:=by simp;omega
  rw [this,Nat.mul_comm]
  congr 2
  unfold dg;rw [List.getD_eq_getElem?_getD,List.getElem?_eq_getElem (by omega)];rfl
theorem u_M (f : Nat → Nat) (n : Nat) : ∀ m,n ≤ m → (∀ i,n ≤ i → f i = 0) → pv f m = pv f n:=by
 intro m h hz
 induction m with
 | zero =>
  have : n = 0:=by omega
  rw [this]
 | succ m ih =>
  by_cases hm : n ≤ m
  ·rw [pv,ih hm,hz m hm];simp
  ·have : n = m + 1:=by omega
   rw [this]
theorem a_H (a : List UInt32) (n : Nat) (h : a.length ≤ n) : val a = pv (dg a) n:=by
 rw [u_M (dg a) a.length n h fun i hi => c_g hi,← n_V a a.length (Nat.le_refl _),List.take_length]
theorem s_i (f : Nat → Nat) (hf : ∀ i,f i < B) (n : Nat) : pv f n < B ^ n:=by
 induction n with
 | zero => simp [pv]
 | succ n ih =>
  rw [pv,Nat.pow_succ];have : (f n + 1) * B ^ n ≤ B * B ^ n:=Nat.mul_le_mul_right _ (hf n);rw [Nat.add_mul,Nat.one_mul,Nat.mul_comm B] at this;omega
theorem f_Q {f g : Nat → Nat} (n : Nat) (h : ∀ i,i < n → f i = g i) : pv f n = pv g n:=by
 induction n with
 | zero => rfl
 | succ n ih => rw [pv,pv,ih fun i hi => h i (by omega),h n (by omega)]
theorem l_f {f g : Nat → Nat} (hf : ∀ i,f i < B) (k : Nat) : ∀ n,k < n → (∀ i,k < i → i < n → f i = g i) → f k < g k → pv f n < pv g n:=by
 intro n
 induction n with
 | zero => intro h;omega
 | succ n ih =>
  intro hk he hlt;rw [pv,pv]
  by_cases hkn : k < n
  ·have:=ih hkn (fun i h1 h2 => he i h1 (by omega)) hlt
   rw [he n hkn (by omega)];omega
  ·have : k = n:=by omega
   subst this;have h1:=s_i f hf k;have h2 : (f k + 1) * B ^ k ≤ g k * B ^ k:=Nat.mul_le_mul_right _ hlt;rw [Nat.add_mul,Nat.one_mul] at h2;omega
theorem k_0 : ∀ (f n : Nat),n < 2 ^ f → val (natF f n) = n:=by
 intro f
 induction f with
 | zero => intro n h;simp at h;subst h;rfl
 | succ f ih =>
  intro n h
  cases n with
  | zero => rfl
  | succ n =>
   simp only [natF,val];have h1 : (n + 1) / B < 2 ^ f:=by
    rw [Nat.div_lt_iff_lt_mul a_l]
    calc n + 1 < 2 ^ (f + 1):=h
     _ = 2 ^ f * 2:=Nat.pow_succ ..
     _ ≤ 2 ^ f * B:=Nat.mul_le_mul_left _ (by decide)
   rw [ih _ h1];have h2 : (UInt32.ofNat ((n + 1) % B)).toNat = (n + 1) % B:=by
    rw [UInt32.toNat_ofNat'];exact Nat.mod_eq_of_lt (Nat.lt_of_lt_of_le (Nat.mod_lt _ a_l) (by decide))
   rw [h2,Nat.mod_add_div]
theorem h_ (n : Nat) : val (nat n) = n:=k_0 _ _ Nat.lt_log2_self
def Canon (a : List UInt32) : Prop:=a = [] ∨ dg a (a.length - 1) ≠ 0
theorem l_U : ∀ (f n : Nat),n < 2 ^ f → Canon (natF f n):=by
 intro f
 induction f with
 | zero => intro n _;exact .inl rfl
 | succ f ih =>
  intro n h
  cases n with
  | zero => exact .inl rfl
  | succ n =>
   right
   have h1 : (n + 1) / B < 2 ^ f:=by
    rw [Nat.div_lt_iff_lt_mul a_l]
    calc n + 1 < 2 ^ (f + 1):=h
     _ = 2 ^ f * 2:=Nat.pow_succ ..
     _ ≤ 2 ^ f * B:=Nat.mul_le_mul_left _ (by decide)
   simp only [natF,List.length_cons,Nat.add_sub_cancel]
   rcases ih _ h1 with hc | hc
   ·rw [hc]
    have hv:=k_0 f _ h1;rw [hc] at hv;simp only [val] at hv;have : (n + 1) % B = n + 1:=Nat.mod_eq_of_lt ((Nat.div_eq_zero_iff_lt a_l).1 hv.symm);simp only [List.length_nil,dg,List.getD_cons_zero];rw [UInt32.toNat_ofNat',this];have hlt:=Nat.mod_lt (n + 1) a_l;rw [this] at hlt;rw [Nat.mod_eq_of_lt (Nat.lt_of_lt_of_le hlt (by decide))];omega
   ·intro hz
    apply hc;have hl : (natF f ((n + 1) / B)).length ≠ 0:=by
     intro q;rw [List.length_eq_zero_iff] at q;rw [q] at hc;exact hc rfl
    obtain ⟨m,hm⟩:=Nat.exists_eq_succ_of_ne_zero hl;rw [hm] at hz ⊢;simpa [dg] using hz
theorem H_ (n : Nat) : Canon (nat n):=l_U _ _ Nat.lt_log2_self
theorem Canon.lower {a : List UInt32} (h : Canon a) (hn : a ≠ []) : B ^ (a.length - 1) ≤ val a:=by
 rcases h with h | h
 ·exact absurd h hn
 ·have hl : 0 < a.length:=List.length_pos_iff.2 hn
  rw [a_H a a.length (Nat.le_refl _)];obtain ⟨m,hm⟩ : ∃ m,a.length = m + 1:=⟨a.length - 1,by omega⟩;rw [hm] at h ⊢;simp only [Nat.add_sub_cancel] at h ⊢;rw [pv];have : 1 * B ^ m ≤ dg a m * B ^ m:=Nat.mul_le_mul_right _ (by omega);omega
theorem s_L {a b : List UInt32} (hl : a.length = b.length) (h : val a = val b) : a = b:=by
 induction a generalizing b with
 | nil => cases b with
  | nil => rfl
  | cons => simp at hl
 | cons x r ih => cases b with
  | nil => simp at hl
  | cons y s =>
   simp only [val] at h;have hx : x.toNat < B:=x.toNat_lt;have hy : y.toNat < B:=y.toNat_lt;have h1 : x.toNat = y.toNat:=by
    have:=congrArg (· % B) h
    simpa [Nat.add_mul_mod_self_left,Nat.mod_eq_of_lt hx,Nat.mod_eq_of_lt hy] using this
   have h2 : B * val r = B * val s:=by omega
   rw [UInt32.toNat_inj.1 h1,ih (by simpa using hl) (Nat.eq_of_mul_eq_mul_left a_l h2)]
theorem Canon.eq {a b : List UInt32} (ha : Canon a) (hb : Canon b) (h : val a = val b) : a = b:=by
 have len : ∀ {a b : List UInt32},Canon a → Canon b → val a = val b → a.length ≤ b.length:=by
  intro a b ha hb h
  by_cases hn : a = []
  ·subst hn;simp
  ·have h1:=ha.lower hn
   have h2:=a_t b;rw [h] at h1;have : B ^ (a.length - 1) < B ^ b.length:=Nat.lt_of_le_of_lt h1 h2
   have:=(Nat.pow_lt_pow_iff_right (by decide : 1 < B)).1 this
   have hl : 0 < a.length:=List.length_pos_iff.2 hn;omega
 exact s_L (Nat.le_antisymm (len ha hb h) (len hb ha h.symm)) h
theorem k_1 {a : List UInt32} (h : Canon a) : nat (val a) = a:=(H_ _).eq h (h_ _)
theorem b_u {n : Nat} : nat n = [] ↔ n = 0:=by
 constructor
 ·intro h
  have:=h_ n
  rw [h] at this;exact this.symm
 ·intro h;subst h;rfl
theorem b_P (n k : Nat) (h : n < B ^ k) : (nat n).length ≤ k:=by
 by_cases hn : nat n = []
 ·rw [hn];simp
 ·have h1:=(H_ n).lower hn
  rw [h_] at h1
  have:=(Nat.pow_lt_pow_iff_right (by decide : 1 < B)).1 (Nat.lt_of_le_of_lt h1 h)
  have hl : 0 < (nat n).length:=List.length_pos_iff.2 hn;omega
theorem d_j : nat 1 = [1]:=by
 apply (H_ 1).eq (.inr (by decide));rw [h_];rfl
end Lb
namespace Go.Pq
open Go.Pl Go.Proofs
theorem at_F (a : List UInt32) (i : Nat) : F 192 [.t 22 (lim a),.t 2 (.i .i64 (i : Int))] (zo 2 12) [.i .u64 (Lb.dg a i : Int)]:=by
 refine r_C _ _ _ ⟨fun h => ?_,fun h => ?_⟩
 ·rw [n_,g_,d_] at h
  simp only [T.int] at h;have hi : i < a.length:=by omega
  have hx:=(a.getD i 0).toNat_lt;refine ⟨⟨by simp only [T.int];omega,by rw [n_,g_];exact h⟩,(by trivial),?_,(by trivial)⟩;simp only [T.int,n_];rw [Int.toNat_natCast,V_ a hi];have : ((lm (a.getD i 0)).cell 0).int = ((a.getD i 0).toNat : Int):=rfl;simp only [T.int] at this;rw [this,a_2 (by omega)];rfl
 ·rw [n_,g_,l_] at h
  simp only [T.int] at h;refine ⟨(by trivial),?_,(by trivial)⟩;rw [Lb.c_g (by omega)];rfl
theorem j_p {a : List UInt32} {n : Nat} (hn : a.length = n + 1) (h : Lb.dg a n = 0) : Lb.val (a.take n) = Lb.val a:=by
 rw [Lb.n_V a n (by omega),Lb.a_H a (n + 1) (by omega),Lb.pv,h];simp
theorem c_n (a : List UInt32) (ha : a.length ≤ 2 ^ 60) : F 189 [.t 22 (lim a)] (zo 1 22) [lim (Lb.nat (Lb.val a))]:=by
 refine r_z _ _ (fun i => ∃ b : List UInt32,i = limL b ∧ Lb.val b = Lb.val a ∧ b.length ≤ 2 ^ 60) (fun i => i.length) ⟨⟨limL a,⟨a,rfl,rfl,ha⟩,rfl,rfl,(by trivial)⟩,fun _ => rfl,?_⟩;rintro i ⟨b,rfl,hv,hb⟩;rw [g_]
 by_cases h0 : 0 < b.length
 ·have hlt : ltI 0 (b.length : Int) = true:=d_.2 (by omega)
  have hsub : subI .i64 (b.length : Int) 1 = ((b.length - 1 : Nat) : Int):=by rw [Y_ (by omega)];omega
  have hg : ((limL b).getD (Int.toNat ((b.length - 1 : Nat) : Int)) .u) = lm (b.getD (b.length - 1) 0):=by
   rw [Int.toNat_natCast];exact V_ b (by omega)
  rw [hsub,hg,b_R,a_3,hlt,Bool.true_and];refine ⟨fun _ => by omega,fun h => ?_,fun h => ?_⟩
  ·rw [M_] at h
   have hz : Lb.dg b (b.length - 1) = 0:=by unfold Lb.dg;omega
   refine ⟨by omega,limL (b.take (b.length - 1)),⟨b.take (b.length - 1),rfl,?_,by simp;omega⟩,?_,?_,rfl,(by trivial)⟩
   ·rw [← hv];exact j_p (by omega) hz
   ·simp only [y_,List.length_take];omega
   ·rw [Int.sub_zero,Int.toNat_natCast,List.drop_zero,a_d]
  ·rw [a_D] at h
   refine ⟨(by trivial),?_,(by trivial)⟩;have hc : Lb.Canon b:=.inr (by unfold Lb.dg;omega);rw [← hv,Lb.k_1 hc];rfl
 ·have hb0 : b = []:=by
   cases b with
   | nil => rfl
   | cons => simp at h0
  subst hb0;have hlt : ltI 0 (([] : List UInt32).length : Int) = false:=l_.2 (by simp);rw [a_3,hlt,Bool.false_and];refine ⟨fun h => (by cases h.1),fun h => (by cases h),fun _ => ⟨(by trivial),?_,(by trivial)⟩⟩;rw [← hv];rfl
def cmpI (x y : Nat) : Int:=if x < y then -1 else if x = y then 0 else 1
theorem j_E (a b : List UInt32) (ha : a.length ≤ 2 ^ 60) (hb : b.length ≤ 2 ^ 60) : F 152 [.t 22 (lim a),.t 22 (lim b)] (zo 2 2) [.i .i64 (cmpI (Lb.val a) (Lb.val b))]:=by
 have hm : subI .i64 (maxI (lenOf (lim a).list) (lenOf (lim b).list)) 1 = ((max a.length b.length : Nat) : Int) - 1:=by
  rw [n_,n_,g_,g_,h_Y,Y_ (by omega)]
 refine r_f _ _ _ (fun k => k ≤ max a.length b.length ∧ ∀ i,k ≤ i → Lb.dg a i = Lb.dg b i) (fun k => k) ⟨⟨max a.length b.length,⟨Nat.le_refl _,fun i hi => ?_⟩,rfl,rfl,rfl,by rw [hm],(by trivial)⟩,fun _ => rfl,?_⟩
 ·rw [Lb.c_g (by omega),Lb.c_g (by omega)]
 rintro k ⟨hk,he⟩;refine ⟨fun h => ?_,fun h => ?_⟩
 ·rw [a_R] at h
  obtain ⟨m,rfl⟩ : ∃ m,k = m + 1:=⟨k - 1,by omega⟩;have hkm : ((m + 1 : Nat) : Int) - 1 = (m : Int):=by omega
  rw [hkm];refine ⟨_,at_F a m,_,at_F b m,fun hne => ?_,fun heq => ?_⟩
  ·rw [b_h] at hne
   simp only [T.int] at hne ⊢;have hxa:=Lb.a_Q a m;have hxb:=Lb.a_Q b m;unfold Lb.B at hxa hxb;refine ⟨by decide,(by trivial),?_,(by trivial)⟩;have hva:=Lb.a_H a (max a.length b.length) (by omega);have hvb:=Lb.a_H b (max a.length b.length) (by omega);unfold cmpI
   rcases Nat.lt_trichotomy (Lb.dg a m) (Lb.dg b m) with q | q | q
   ·have hlt : Lb.val a < Lb.val b:=by
     rw [hva,hvb];exact Lb.l_f (Lb.a_Q a) m _ (by omega) (fun i h1 _ => he i (by omega)) q
    rw [if_pos hlt];have e1 : subI .u64 (Lb.dg a m : Int) (Lb.dg b m : Int) = (Lb.dg a m : Int) - (Lb.dg b m : Int) + 18446744073709551616:=by
     unfold subI;rw [g_Z];omega
    rw [e1,shr63];have e2 : ((Lb.dg a m : Int) - (Lb.dg b m : Int) + 18446744073709551616) / 9223372036854775808 = 1:=by omega
    rw [e2,e_1 (by omega),h_i (by omega),Y_ (by omega)];rfl
   ·exact absurd (by rw [q]) hne
   ·have hlt : Lb.val b < Lb.val a:=by
     rw [hva,hvb];exact Lb.l_f (Lb.a_Q b) m _ (by omega) (fun i h1 _ => (he i (by omega)).symm) q
    rw [if_neg (by omega),if_neg (by omega)];have e1 : subI .u64 (Lb.dg a m : Int) (Lb.dg b m : Int) = (Lb.dg a m : Int) - (Lb.dg b m : Int):=j_m (by omega);rw [e1,shr63];have e2 : ((Lb.dg a m : Int) - (Lb.dg b m : Int)) / 9223372036854775808 = 0:=by omega
    rw [e2,e_1 (by omega),h_i (by omega),Y_ (by omega)];rfl
  ·rw [c_i] at heq
   simp only [T.int] at heq;refine ⟨m,⟨by omega,fun i hi => ?_⟩,by omega,rfl,rfl,rfl,by rw [Y_ (by omega)],(by trivial)⟩
   by_cases him : i = m
   ·subst him;omega
   ·exact he i (by omega)
 ·rw [b_o] at h
  refine ⟨(by trivial),?_,(by trivial)⟩;have hk0 : k = 0:=by omega
  subst hk0;have : Lb.val a = Lb.val b:=by
   rw [Lb.a_H a (max a.length b.length) (by omega),Lb.a_H b (max a.length b.length) (by omega)];exact Lb.f_Q _ fun i _ => he i (by omega)
  unfold cmpI;rw [this,if_neg (by omega),if_pos rfl]
theorem l_K (a : List UInt32) (x : UInt32) {i : Nat} (h : i < a.length) : Lb.dg (a ++ [x]) i = Lb.dg a i:=by
 unfold Lb.dg;rw [List.getD_eq_getElem?_getD,List.getD_eq_getElem?_getD,List.getElem?_append_left h]
theorem u_f (a b : List UInt32) (ha : a.length ≤ 2 ^ 40) (hb : b.length ≤ 2 ^ 40) : F 210 [.t 22 (lim a),.t 22 (lim b)] (zo 2 22) [lim (Lb.nat (Lb.val a + Lb.val b))]:=by
 refine r_L _ _ _ (fun i => ∃ (c : List UInt32) (s : Nat),i.2.1 = (s : Int) ∧ i.2.2 = limL c ∧ s ≤ 1 ∧ c.length = i.1 ∧ i.1 ≤ max a.length b.length + 1 ∧ Lb.val c + s * Lb.B ^ i.1 = Lb.pv (Lb.dg a) i.1 + Lb.pv (Lb.dg b) i.1 ∧ (max a.length b.length < i.1 → s = 0))
  (fun i => 2 * (max a.length b.length - i.1) + i.2.1.toNat) ⟨⟨(0,0,[]),⟨[],0,rfl,rfl,by omega,rfl,by omega,rfl,fun _ => rfl⟩,rfl,rfl,rfl,rfl,rfl,rfl,(by trivial)⟩,fun _ => rfl,?_⟩
 rintro ⟨k,s',xs⟩ ⟨c,s,hs,hxs,hs1,hc,hk,hv,hlast⟩;simp only at hs hxs hc hk hv hlast ⊢;subst hs;subst hxs;rw [d_R,n_,n_,g_,g_,h_Y,a_d,y_];refine ⟨fun h => ?_,fun h => ?_⟩
 ·refine ⟨_,at_F a k,_,at_F b k,?_⟩
  simp only [T.int];have hxa:=Lb.a_Q a k;have hxb:=Lb.a_Q b k;have hB : Lb.B = 4294967296:=rfl;have hsum : addI .u64 (s : Int) (addI .u64 (Lb.dg a k : Int) (Lb.dg b k : Int)) = ((s + (Lb.dg a k + Lb.dg b k) : Nat) : Int):=by
   rw [d_M (x:=(Lb.dg a k : Int)) (by omega),d_M (by omega)];omega
  rw [hsum]
  generalize hq : s + (Lb.dg a k + Lb.dg b k) = q at *
  have hq1 : q / Lb.B ≤ 1:=by rw [hB] at hxa hxb ⊢;omega
  have hcv : (T.i .u32 (p_ .u32 (q : Int))) = lm (UInt32.ofNat (q % Lb.B)):=by
   unfold lm;rw [g_e,UInt32.toNat_ofNat',hB]
   congr 1
   omega
  have hset : (List.replicate 1 (T.i .u32 0)).set 0 (T.i .u32 (p_ .u32 (q : Int))) = limL [UInt32.ofNat (q % Lb.B)]:=by
   rw [hcv];rfl
  have hct : List.take (limL c).length c = c:=by rw [y_];exact List.take_of_length_le (Nat.le_refl _)
  rw [hset,shr32,hct,b_a];simp only [y_];refine ⟨⟨by simp;(try unfold Rm);unfold room;omega,by simp;omega⟩,by decide,(k + 1,((q / Lb.B : Nat) : Int),limL (c ++ [UInt32.ofNat (q % Lb.B)])),⟨c ++ [UInt32.ofNat (q % Lb.B)],q / Lb.B,rfl,rfl,by omega,by simp;omega,?_,?_,?_⟩,?_,(by trivial),(by trivial),(by trivial),rfl,?_,?_,(by trivial)⟩
  ·simp only
   rw [Bool.or_eq_true,d_,d_] at h
   rcases h with h | h
   ·omega
   ·have : ¬ max a.length b.length < k:=fun q => by have:=hlast q;omega
    omega
  ·simp only
   rw [Lb.c_3,hc,Lb.pv,Lb.pv];have hm : (UInt32.ofNat (q % Lb.B)).toNat = q % Lb.B:=by
    rw [UInt32.toNat_ofNat',hB];omega
   rw [hm,Nat.pow_succ];have e1 : q / Lb.B * (Lb.B ^ k * Lb.B) = (q / Lb.B * Lb.B) * Lb.B ^ k:=by
    rw [Nat.mul_comm (Lb.B ^ k),Nat.mul_assoc]
   have e2 : (q % Lb.B + q / Lb.B * Lb.B) * Lb.B ^ k = q * Lb.B ^ k:=by
    rw [Nat.mul_comm (q / Lb.B),Nat.mod_add_div]
   rw [e1,Nat.mul_comm (Lb.B ^ k) (q % Lb.B),Nat.add_assoc,← Nat.add_mul,e2,← hq,Nat.add_mul,Nat.add_mul];omega
  ·simp only
   intro hlt;have hz : Lb.dg a k = 0:=Lb.c_g (by omega);have hz2 : Lb.dg b k = 0:=Lb.c_g (by omega);have : q ≤ 1:=by omega
   exact Nat.div_eq_of_lt (by omega)
  ·simp only [Int.toNat_natCast]
   rw [Bool.or_eq_true,d_,d_] at h
   by_cases hk2 : k < max a.length b.length
   ·omega
   ·have hz : Lb.dg a k = 0:=Lb.c_g (by omega)
    have hz2 : Lb.dg b k = 0:=Lb.c_g (by omega);have : q / Lb.B = 0:=Nat.div_eq_of_lt (by omega);omega
  ·congr 1
  ·rw [c_ (by omega)];congr 1
 ·rw [Bool.or_eq_false_iff,l_,l_] at h
  obtain ⟨h1,h2⟩:=h;have hs0 : s = 0:=by omega
  have hkk : max a.length b.length ≤ k:=by omega
  rw [List.drop_zero,a_d];have hct : List.take (limL c).length c = c:=by rw [y_];exact List.take_of_length_le (Nat.le_refl _)
  rw [hct];refine ⟨_,c_n c (by omega),(by trivial),?_,(by trivial)⟩
  congr 2
  rw [hs0] at hv;rw [Lb.a_H a k (by omega),Lb.a_H b k (by omega)];omega
end Go.Pq
namespace Lb
theorem i_C (c : List UInt32) (k : Nat) (x : UInt32) (hk : k < c.length) (i : Nat) : dg (c.set k x) i = if i = k then x.toNat else dg c i:=by
 unfold dg;rw [List.getD_eq_getElem?_getD,List.getD_eq_getElem?_getD,List.getElem?_set]
 by_cases h : k = i
 ·subst h;simp [hk]
 ·rw [if_neg h,if_neg (fun e => h e.symm)]
theorem u_h (c : List UInt32) (k : Nat) (x : UInt32) (hk : k < c.length) (n : Nat) (h : n ≤ k) : pv (dg (c.set k x)) n = pv (dg c) n :=
 f_Q n fun i hi => by rw [i_C c k x hk,if_neg (by omega)]
theorem ofNat_toNat {n : Nat} (h : n < B) : (UInt32.ofNat n).toNat = n:=by
 rw [UInt32.toNat_ofNat'];exact Nat.mod_eq_of_lt h
theorem m_r {a : List UInt32} {n : Nat} (h : val a < B ^ n) : ∀ m,n ≤ m → pv (dg a) m = val a → pv (dg a) n = val a:=by
 intro m
 induction m with
 | zero =>
  intro hn he;have : n = 0:=by omega
  rw [this];exact he
 | succ m ih =>
  intro hn he
  by_cases hm : n = m + 1
  ·rw [hm];exact he
  ·have hnm : n ≤ m:=by omega
   refine ih hnm ?_;rw [pv] at he
   by_cases hz : dg a m = 0
   ·rw [hz] at he;simpa using he
   ·have h1 : B ^ n ≤ B ^ m:=Nat.pow_le_pow_right a_l hnm
    have h2 : 1 * B ^ m ≤ dg a m * B ^ m:=Nat.mul_le_mul_right _ (by omega);omega
theorem l_e {a : List UInt32} {n : Nat} (h : val a < B ^ n) : pv (dg a) n = val a:=by
 by_cases hn : a.length ≤ n
 ·exact (a_H a n hn).symm
 ·exact m_r h a.length (by omega) (a_H a a.length (Nat.le_refl _)).symm
theorem e_H (n : Nat) : val (List.replicate n 0) = 0:=by
 induction n with
 | zero => rfl
 | succ n ih => simp [List.replicate_succ,val,ih]
theorem i_h (c : List UInt32) (k : Nat) (x : UInt32) (hk : k < c.length) : val (c.set k x) + dg c k * B ^ k = val c + x.toNat * B ^ k:=by
 induction c generalizing k with
 | nil => simp at hk
 | cons y r ih =>
  cases k with
  | zero => simp [val,dg];omega
  | succ k =>
   have:=ih k (by simpa using hk)
   have hd : dg (y :: r) (k + 1) = dg r k:=by simp [dg]
   simp only [List.set_cons_succ,val,hd,Nat.pow_succ];have e : ∀ z : Nat,z * (B ^ k * B) = B * (z * B ^ k):=fun z => by rw [Nat.mul_comm (B ^ k),← Nat.mul_assoc,← Nat.mul_assoc,Nat.mul_comm z]
   rw [e,e];have h2 : B * (val (r.set k x) + dg r k * B ^ k) = B * (val r + x.toNat * B ^ k):=by rw [this]
   rw [Nat.mul_add,Nat.mul_add] at h2;omega
end Lb
namespace Go.Pq
open Go.Pl Go.Proofs
theorem n_E {x : Int} {n : Nat} (h : x = (n : Int)) (hn : n < Lb.B) : T.i .u32 x = lm (UInt32.ofNat n):=by
 unfold lm;rw [Lb.ofNat_toNat hn,h]
theorem h_0 (a b : List UInt32) (ha : a.length ≤ 2 ^ 40) (hle : Lb.val b ≤ Lb.val a) : F 208 [.t 22 (lim a),.t 22 (lim b)] (zo 2 22) [lim (Lb.nat (Lb.val a - Lb.val b))]:=by
 have hB : Lb.B = 4294967296:=rfl;refine r_J _ _ _ (fun i => ∃ (c : List UInt32) (s : Nat),i.2.1 = (s : Int) ∧ i.2.2 = limL c ∧ s ≤ 1 ∧ c.length = a.length ∧ i.1 ≤ a.length ∧ Lb.pv (Lb.dg c) i.1 + Lb.pv (Lb.dg b) i.1 = Lb.pv (Lb.dg a) i.1 + s * Lb.B ^ i.1)
  (fun i => a.length - i.1) ⟨?_,⟨(0,0,limL (List.replicate a.length 0)),⟨List.replicate a.length 0,0,rfl,rfl,by omega,by simp,by simp,rfl⟩,rfl,rfl,rfl,?_,rfl,rfl,rfl,(by trivial)⟩,fun _ => rfl,?_⟩
 ·rw [n_,g_];omega
 ·rw [n_,g_,Int.toNat_natCast,a_A]
 rintro ⟨k,s',xs⟩ ⟨c,s,hs,hxs,hs1,hc,hk,hv⟩;simp only at hs hxs hc hk hv ⊢;subst hs;subst hxs;rw [n_,g_];refine ⟨fun h => ?_,fun h => ?_⟩
 ·rw [d_] at h
  have hlt : k < a.length:=by omega
  refine ⟨_,at_F a k,_,at_F b k,by decide,⟨by omega,by rw [y_];omega⟩,?_⟩;simp only [T.int];have hxa:=Lb.a_Q a k;have hxb:=Lb.a_Q b k;rw [hB] at hxa hxb;obtain ⟨d,s2,hd,hs2,hrel,he1,he2⟩ : ∃ d s2 : Nat,d < Lb.B ∧ s2 ≤ 1 ∧ d + Lb.dg b k + s = Lb.dg a k + s2 * Lb.B ∧
    p_ .u32 (subI .u64 (subI .u64 (Lb.dg a k : Int) (Lb.dg b k : Int)) (s : Int)) = (d : Int) ∧ shrI .u64 (subI .u64 (subI .u64 (Lb.dg a k : Int) (Lb.dg b k : Int)) (s : Int)) 63 = (s2 : Int):=by
   rw [g_e,shr63];unfold subI;rw [g_Z,g_Z]
   by_cases q : Lb.dg b k + s ≤ Lb.dg a k
   ·exact ⟨Lb.dg a k - Lb.dg b k - s,0,by omega,by omega,by omega,by omega,by omega⟩
   ·exact ⟨Lb.dg a k + Lb.B - Lb.dg b k - s,1,by omega,by omega,by omega,by omega,by omega⟩
  have hset : (limL c).set (0 + (k : Int).toNat) (T.i .u32 (p_ .u32 (subI .u64 (subI .u64 (Lb.dg a k : Int) (Lb.dg b k : Int)) (s : Int)))) = limL (c.set k (UInt32.ofNat d)):=by
   rw [n_E he1 hd,Int.toNat_natCast,Nat.zero_add,c_T]
  rw [hset,he2];refine ⟨(k + 1,(s2 : Int),limL (c.set k (UInt32.ofNat d))),⟨c.set k (UInt32.ofNat d),s2,rfl,rfl,hs2,by simp [hc],by simp only;omega,?_⟩,by simp only;omega,(by trivial),(by trivial),(by trivial),rfl,rfl,(by trivial),?_,(by trivial)⟩
  ·simp only
   rw [Lb.pv,Lb.pv,Lb.pv,Lb.u_h c k _ (by omega) k (Nat.le_refl _),Lb.i_C c k _ (by omega),if_pos rfl,Lb.ofNat_toNat hd];have e1 : (d + Lb.dg b k + s) * Lb.B ^ k = (Lb.dg a k + s2 * Lb.B) * Lb.B ^ k:=by rw [hrel]
   have e2 : s2 * Lb.B ^ (k + 1) = s2 * Lb.B * Lb.B ^ k:=by rw [Nat.pow_succ,Nat.mul_comm (Lb.B ^ k),Nat.mul_assoc]
   rw [e2];simp only [Nat.add_mul] at e1;omega
  ·rw [c_ (by omega)];congr 1
 ·rw [l_] at h
  have hkk : k = a.length:=by omega
  have hct : List.take (limL c).length c = c:=by rw [y_];exact List.take_of_length_le (Nat.le_refl _)
  rw [List.drop_zero,a_d,hct];refine ⟨_,c_n c (by omega),(by trivial),?_,(by trivial)⟩;have hva:=Lb.a_H a k (by omega);have hvb : Lb.pv (Lb.dg b) k = Lb.val b:=Lb.l_e (by rw [hkk];have:=Lb.a_t a;omega);have hvc:=Lb.a_H c k (by omega);have hcl:=Lb.a_t c;rw [hc,← hkk] at hcl;have hs0 : s = 0:=by
   by_cases hs0 : s = 0
   ·exact hs0
   ·have : s = 1:=by omega
    subst this;omega
  subst hs0
  congr 2
  omega
theorem f_s (a b : List UInt32) (ha : a.length ≤ 2 ^ 40) (hb : b.length ≤ 2 ^ 40) : F 196 [.t 22 (lim a),.t 22 (lim b)] (zo 2 22) [lim (Lb.nat (Lb.val a * Lb.val b))]:=by
 have hB : Lb.B = 4294967296:=rfl;have hadd : addI .i64 (lenOf (lim a).list) (lenOf (lim b).list) = ((a.length + b.length : Nat) : Int):=by
  rw [n_,n_,g_,g_,c_ (by omega)];omega
 refine r_E _ _ _
  (fun i => ∃ c : List UInt32,i.2 = limL c ∧ c.length = a.length + b.length ∧ i.1 ≤ a.length ∧ Lb.val c = Lb.pv (Lb.dg a) i.1 * Lb.val b)
  (fun i => a.length - i.1)
  (fun i j => ∃ (c : List UInt32) (s : Nat),i.1 < a.length ∧ j.2.2 = limL c ∧ j.2.1 = (s : Int) ∧ s < Lb.B ∧ c.length = a.length + b.length ∧ j.1 ≤ b.length + 1 ∧
   Lb.val c + s * Lb.B ^ (i.1 + j.1) = Lb.pv (Lb.dg a) i.1 * Lb.val b + Lb.B ^ i.1 * (Lb.dg a i.1 * Lb.pv (Lb.dg b) j.1))
  (fun i j => b.length + 1 - j.1) ⟨?_,⟨(0,limL (List.replicate (a.length + b.length) 0)),⟨List.replicate (a.length + b.length) 0,rfl,by simp,by simp,?_⟩,rfl,rfl,rfl,?_,rfl,rfl,(by trivial)⟩,fun _ => rfl,?_⟩
 ·rw [hadd];omega
 ·simp only [Lb.pv,Nat.zero_mul]
  exact Lb.e_H _
 ·rw [hadd,Int.toNat_natCast,a_A]
 rintro ⟨k,xs⟩ ⟨c,hxs,hc,hk,hv⟩;simp only at hxs hk hv ⊢;subst hxs;rw [n_,n_,g_,g_];refine ⟨fun h => ?_,fun h => ?_⟩
 ·rw [d_] at h
  have hlt : k < a.length:=by omega
  refine ⟨⟨(0,0,limL c),⟨c,0,hlt,rfl,rfl,Lb.a_l,hc,by simp,by simp [Lb.pv,hv]⟩,(by trivial),(by trivial),(by trivial),rfl,(by trivial),(by trivial),(by trivial),rfl,rfl,(by trivial)⟩,fun _ => (by trivial),?_⟩;rintro ⟨m,s',ys⟩ ⟨c1,s,-,hys,hs,hsB,hc1,hm,hv1⟩;simp only at hys hs hm hv1 ⊢;subst hys;subst hs;rw [d_R];refine ⟨fun h2 => ?_,fun h2 => ?_⟩
  ·rw [Bool.or_eq_true,d_,d_] at h2
   have hml : m ≤ b.length:=by
    rcases Nat.lt_or_ge m b.length with q | q
    ·omega
    ·have hpb : Lb.pv (Lb.dg b) m = Lb.val b:=(Lb.a_H b m q).symm
     have h3 : s * Lb.B ^ (k + m) ≤ Lb.pv (Lb.dg a) (k + 1) * Lb.val b:=by
      rw [Lb.pv,Nat.add_mul,Nat.mul_comm (Lb.dg a k),Nat.mul_assoc];rw [hpb] at hv1;omega
     have h4 : Lb.pv (Lb.dg a) (k + 1) < Lb.B ^ (k + 1):=Lb.s_i _ (Lb.a_Q a) _;have h5 : Lb.pv (Lb.dg a) (k + 1) * Lb.val b < Lb.B ^ (k + 1) * Lb.B ^ b.length ∨ Lb.val b = 0:=by
      by_cases hz : Lb.val b = 0
      ·exact .inr hz
      ·exact .inl (Nat.mul_lt_mul_of_lt_of_le h4 (Nat.le_of_lt (Lb.a_t b)) (Nat.pow_pos Lb.a_l))
     have hs0 : 0 < s:=by
      rcases h2 with h2 | h2
      ·omega
      ·omega
     have h6 : 1 * Lb.B ^ (k + m) ≤ s * Lb.B ^ (k + m):=Nat.mul_le_mul_right _ hs0
     rcases h5 with h5 | h5
     ·rw [← Nat.pow_add] at h5
      rw [Nat.one_mul] at h6
      have:=(Nat.pow_lt_pow_iff_right (by decide : 1 < Lb.B)).1 (Nat.lt_of_le_of_lt (Nat.le_trans h6 h3) h5)
      omega
     ·rw [h5,Nat.mul_zero] at h3
      have : 0 < Lb.B ^ (k + m):=Nat.pow_pos Lb.a_l;rw [Nat.one_mul] at h6;exact absurd (Nat.le_trans h6 h3) (Nat.not_le.2 this)
   have hkm : k + m < a.length + b.length:=by omega
   have hidx : addI .i64 (k : Int) (m : Int) = ((k + m : Nat) : Int):=by rw [c_ (by omega)];omega
   rw [hidx];have hget : (limL c1).getD (0 + ((k + m : Nat) : Int).toNat) .u = lm (c1.getD (k + m) 0):=by
    rw [Int.toNat_natCast,Nat.zero_add];exact V_ c1 (by omega)
   refine ⟨⟨by omega,by rw [y_];omega⟩,_,at_F a k,_,at_F b m,⟨by omega,by rw [y_];omega⟩,by decide,?_⟩;rw [hget,b_R];simp only [T.int];have hxa:=Lb.a_Q a k;have hxb:=Lb.a_Q b m;have hxc:=Lb.a_Q c1 (k + m);have hgc : (c1.getD (k + m) 0).toNat = Lb.dg c1 (k + m):=rfl;rw [hgc];have hmul : Lb.dg a k * Lb.dg b m ≤ (Lb.B - 1) * (Lb.B - 1):=Nat.mul_le_mul (by omega) (by omega);have hmm : ((Lb.dg a k : Int) * (Lb.dg b m : Int)) = ((Lb.dg a k * Lb.dg b m : Nat) : Int):=by simp
   have hbb : (Lb.B - 1) * (Lb.B - 1) = 18446744065119617025:=by rw [hB]
   rw [hbb] at hmul
   generalize hpr : Lb.dg a k * Lb.dg b m = pr at *
   rw [hB] at hxa hxb hxc hsB;have hsum : addI .u64 (s : Int) (addI .u64 (p_ .u64 (Lb.dg c1 (k + m) : Int)) (mulI .u64 (Lb.dg a k : Int) (Lb.dg b m : Int))) = ((s + (Lb.dg c1 (k + m) + pr) : Nat) : Int):=by
    rw [p_0 (by rw [hmm];omega),hmm,a_2 (by omega),d_M (x:=(Lb.dg c1 (k + m) : Int)) (by omega),d_M (by omega)];omega
   rw [hsum,shr32]
   generalize hq : s + (Lb.dg c1 (k + m) + pr) = q at *
   have hset : (limL c1).set (0 + ((k + m : Nat) : Int).toNat) (T.i .u32 (p_ .u32 (q : Int))) = limL (c1.set (k + m) (UInt32.ofNat (q % Lb.B))):=by
    rw [n_E (n:=q % Lb.B) (by rw [g_e,hB];omega) (Nat.mod_lt _ Lb.a_l),Int.toNat_natCast,Nat.zero_add,c_T]
   rw [hset];refine ⟨(m + 1,((q / Lb.B : Nat) : Int),limL (c1.set (k + m) (UInt32.ofNat (q % Lb.B)))),⟨c1.set (k + m) (UInt32.ofNat (q % Lb.B)),q / Lb.B,hlt,rfl,rfl,?_,by simp [hc1],?_,?_⟩,?_,(by trivial),(by trivial),(by trivial),rfl,(by trivial),(by trivial),(by trivial),?_,?_,(by trivial)⟩
   ·rw [hB];omega
   ·simp only;omega
   ·simp only
    have hvs:=Lb.i_h c1 (k + m) (UInt32.ofNat (q % Lb.B)) (by omega);rw [Lb.ofNat_toNat (Nat.mod_lt _ Lb.a_l)] at hvs;have e1 : q / Lb.B * Lb.B ^ (k + (m + 1)) = (q / Lb.B * Lb.B) * Lb.B ^ (k + m):=by
     rw [← Nat.add_assoc,Nat.pow_succ,Nat.mul_comm (Lb.B ^ (k + m)),Nat.mul_assoc]
    have e2 : q % Lb.B * Lb.B ^ (k + m) + q / Lb.B * Lb.B * Lb.B ^ (k + m) = s * Lb.B ^ (k + m) + Lb.dg c1 (k + m) * Lb.B ^ (k + m) + pr * Lb.B ^ (k + m):=by
     rw [← Nat.add_mul,Nat.mul_comm (q / Lb.B),Nat.mod_add_div,← hq,Nat.add_mul,Nat.add_mul,Nat.add_assoc]
    have e3 : Lb.B ^ k * (Lb.dg a k * Lb.pv (Lb.dg b) (m + 1)) = Lb.B ^ k * (Lb.dg a k * Lb.pv (Lb.dg b) m) + pr * Lb.B ^ (k + m):=by
     rw [Lb.pv,Nat.mul_add,Nat.mul_add,← hpr,Nat.pow_add]
     congr 1
     simp only [Nat.mul_left_comm,Nat.mul_comm,Nat.mul_assoc]
    rw [e1,e3];omega
   ·simp only;omega
   ·rw [show ((q / Lb.B : Nat) : Int) = (q : Int) / 4294967296 by rw [hB];omega]
   ·rw [c_ (by omega)];congr 1
  ·rw [Bool.or_eq_false_iff,l_,l_] at h2
   have hs0 : s = 0:=by omega
   subst hs0;refine ⟨(k + 1,limL c1),⟨c1,rfl,hc1,by simp only;omega,?_⟩,by simp only;omega,(by trivial),(by trivial),(by trivial),rfl,(by trivial),?_,(by trivial)⟩
   ·simp only
    rw [Lb.pv,Nat.add_mul];have hpb : Lb.pv (Lb.dg b) m = Lb.val b:=(Lb.a_H b m (by omega)).symm;rw [hpb] at hv1;rw [Nat.mul_comm (Lb.dg a k),Nat.mul_assoc];omega
   ·rw [c_ (by omega)];congr 1
 ·rw [l_] at h
  have hkk : k = a.length:=by omega
  have hct : List.take (limL c).length c = c:=by rw [y_];exact List.take_of_length_le (Nat.le_refl _)
  rw [List.drop_zero,a_d,hct];refine ⟨_,c_n c (by omega),(by trivial),?_,(by trivial)⟩;rw [hv,← Lb.a_H a k (by omega)]
end Go.Pq
namespace Go.Pl
theorem j_e {n k : Nat} (hk : k ≤ 64) (h : n * 2 ^ k < 18446744073709551616) : shlI .u64 (n : Int) (k : Int) = ((n * 2 ^ k : Nat) : Int):=by
 unfold shlI;rw [show IntKind.u64.bits = 64 from rfl,Int.toNat_natCast,Nat.min_eq_left hk];rw [show ((n : Int) * 2 ^ k) = ((n * 2 ^ k : Nat) : Int) by simp];exact IntWalk.u64_in _ ⟨by omega,by omega⟩
theorem q_b {n k : Nat} (hk : k ≤ 64) : shrI .u64 (n : Int) (k : Int) = ((n / 2 ^ k : Nat) : Int):=by
 unfold shrI;rw [show IntKind.u64.bits = 64 from rfl,Int.toNat_natCast,Nat.min_eq_left hk];rw [Int.fdiv_eq_ediv_of_nonneg _ (by exact_mod_cast Nat.zero_le (2 ^ k))];simp
theorem s_b {a b : Nat} (ha : a < 18446744073709551616) (hb : b < 18446744073709551616) : a_J .or .u64 (a : Int) (b : Int) = ((a ||| b : Nat) : Int):=by
 unfold a_J;simp only []
 show IntKind.u64.wrap ((BitVec.ofInt 64 (a : Int) ||| BitVec.ofInt 64 (b : Int)).toNat : Int) = _
 rw [BitVec.ofInt_natCast,BitVec.ofInt_natCast,BitVec.toNat_or,BitVec.toNat_ofNat,BitVec.toNat_ofNat,Nat.mod_eq_of_lt (b:=2 ^ 64) (by omega),Nat.mod_eq_of_lt (b:=2 ^ 64) (by omega)];have : a ||| b < 2 ^ 64:=Nat.or_lt_two_pow (by omega) (by omega);exact IntWalk.u64_in _ ⟨by omega,by omega⟩
theorem n_P {x s k : Nat} (hs : s < 2 ^ k) (h : x * 2 ^ k + s < 18446744073709551616) : a_J .or .u64 ((x * 2 ^ k : Nat) : Int) (s : Int) = ((x * 2 ^ k + s : Nat) : Int):=by
 rw [s_b (by omega) (by omega),Nat.mul_comm,Nat.two_pow_add_eq_or_of_lt hs]
theorem u_L {x s k : Nat} (hs : s < 2 ^ k) (h : x * 2 ^ k + s < 18446744073709551616) : a_J .or .u64 (s : Int) ((x * 2 ^ k : Nat) : Int) = ((x * 2 ^ k + s : Nat) : Int):=by
 rw [← n_P hs h,s_b (by omega) (by omega),s_b (by omega) (by omega),Nat.or_comm]
theorem p_8 {a b : Nat} (ha : a < 18446744073709551616) : quoI .u64 (a : Int) (b : Int) = ((a / b : Nat) : Int):=by
 unfold quoI;rw [← Int.ofNat_tdiv];have : a / b ≤ a:=Nat.div_le_self a b
 generalize a / b = q at *
 exact IntWalk.u64_in _ ⟨by omega,by omega⟩
theorem i_6 {a b : Nat} (ha : a < 9223372036854775808) : quoI .i64 (a : Int) (b : Int) = ((a / b : Nat) : Int):=by
 unfold quoI;rw [← Int.ofNat_tdiv];have : a / b ≤ a:=Nat.div_le_self a b
 generalize a / b = q at *
 exact IntWalk.i64_in _ ⟨by omega,by omega⟩
theorem h_m {a b : Nat} : remI (a : Int) (b : Int) = ((a % b : Nat) : Int):=by
 unfold remI;exact (Int.ofNat_tmod ..).symm
end Go.Pl
namespace Lb
theorem f_T (a : List UInt32) (k : Nat) (h : k < a.length) : val (a.drop k) = dg a k + B * val (a.drop (k + 1)):=by
 rw [List.drop_eq_getElem_cons h,val];unfold dg;rw [List.getD_eq_getElem?_getD,List.getElem?_eq_getElem h];rfl
theorem d_e (a : List UInt32) (i : Nat) : dg a i = val a / B ^ i % B:=by
 by_cases h : i < a.length
 ·have h1:=h_v (a.take i) (a.drop i)
  rw [List.take_append_drop,List.length_take,Nat.min_eq_left (by omega)] at h1;have h2:=a_t (a.take i);rw [List.length_take,Nat.min_eq_left (by omega)] at h2;rw [h1,Nat.add_mul_div_left _ _ (Nat.pow_pos a_l),Nat.div_eq_of_lt h2,Nat.zero_add,f_T a i h,Nat.add_mul_mod_self_left,Nat.mod_eq_of_lt (a_Q a i)]
 ·rw [c_g (by omega),Nat.div_eq_of_lt,Nat.zero_mod]
  exact Nat.lt_of_lt_of_le (a_t a) (Nat.pow_le_pow_right a_l (by omega))
theorem e_h (n : Nat) : B ^ n = 2 ^ (32 * n):=by
 rw [Nat.pow_mul];rfl
end Lb
namespace Go.Pq
open Go.Pl Go.Proofs
theorem c_U (w : Nat) : T.i .u32 (p_ .u32 (w : Int)) = lm (UInt32.ofNat (w % Lb.B)):=by
 have hB : Lb.B = 4294967296:=rfl;exact n_E (n:=w % Lb.B) (by rw [g_e,hB];omega) (Nat.mod_lt _ Lb.a_l)
theorem c_V {w : Nat} (h : w < Lb.B) : T.i .u32 (p_ .u32 (w : Int)) = lm (UInt32.ofNat w):=by
 rw [c_U,Nat.mod_eq_of_lt h]
theorem n_C (x : UInt32) : (List.replicate 1 (T.i .u32 0)).set 0 (lm x) = limL [x]:=rfl
theorem s_w (a : List UInt32) (d : UInt32) (ha : a.length ≤ 2 ^ 40) (hd : d ≠ 0) : F 205 [.t 22 (lim a),.t 155 (lm d)] Z4
  [lim (Lb.nat (Lb.val a / d.toNat)),.i .u32 ((Lb.val a % d.toNat : Nat) : Int)]:=by
 have hB : Lb.B = 4294967296:=rfl;have hd0 : 0 < d.toNat:=by
  rcases Nat.eq_zero_or_pos d.toNat with q | q
  ·exact absurd (UInt32.toNat_inj.1 (by rw [q];rfl)) hd
  ·exact q
 have hdB : d.toNat < Lb.B:=d.toNat_lt;have hdi : (lm d).int = (d.toNat : Int):=rfl;have hdc : p_ .u64 (d.toNat : Int) = (d.toNat : Int):=a_2 (by rw [hB] at hdB;omega);refine r_G _ _ _ _ (fun i => ∃ (c : List UInt32) (r : Nat),i.2.1 = (r : Int) ∧ i.2.2 = limL c ∧ c.length = a.length ∧ i.1 ≤ a.length ∧ r < d.toNat ∧ Lb.val (a.drop i.1) = Lb.val (c.drop i.1) * d.toNat + r)
  (fun i => i.1) ⟨?_,⟨(a.length,0,limL (List.replicate a.length 0)),⟨List.replicate a.length 0,0,rfl,rfl,by simp,by simp,hd0,by simp [Lb.val]⟩,rfl,rfl,rfl,rfl,?_,rfl,?_,(by trivial)⟩,fun _ => rfl,?_⟩
 ·rw [n_,g_];omega
 ·rw [n_,g_,Int.toNat_natCast,a_A]
 ·rw [n_,g_,Y_ (by omega)]
 rintro ⟨k,r',xs⟩ ⟨c,r,hr,hxs,hc,hk,hrd,hv⟩;simp only at hr hxs hk hv ⊢;subst hr;subst hxs;rw [n_,g_,hdi,hdc];refine ⟨fun h => ?_,fun h => ?_⟩
 ·rw [a_R] at h
  obtain ⟨m,rfl⟩ : ∃ m,k = m + 1:=⟨k - 1,by omega⟩;have e0 : ((m + 1 : Nat) : Int) - 1 = (m : Int):=by omega
  rw [e0,Int.toNat_natCast,V_ a (by omega),b_R,show ((a.getD m 0).toNat) = Lb.dg a m from rfl,Nat.zero_add];have hx:=Lb.a_Q a m;have e1 : a_J .or .u64 (shlI .u64 (r : Int) 32) (p_ .u64 (Lb.dg a m : Int)) = ((r * Lb.B + Lb.dg a m : Nat) : Int):=by
   rw [a_2 (by rw [hB] at hx;omega),show (32 : Int) = ((32 : Nat) : Int) from rfl,j_e (by decide) (by rw [hB] at hdB;omega),n_P (by exact hx) (by rw [hB] at hdB hx;omega)];rfl
  rw [e1,p_8 (by rw [hB] at hdB hx ⊢;omega),h_m]
  generalize hw : r * Lb.B + Lb.dg a m = w at *
  have hwd : w / d.toNat < Lb.B:=by
   rw [Nat.div_lt_iff_lt_mul hd0,← hw];have h5 : (r + 1) * Lb.B ≤ d.toNat * Lb.B:=Nat.mul_le_mul_right _ hrd;rw [Nat.add_mul,Nat.one_mul,Nat.mul_comm d.toNat] at h5;omega
  refine ⟨by decide,⟨by omega,by omega⟩,by omega,⟨by omega,by rw [y_];omega⟩,by omega,
   (m,((w % d.toNat : Nat) : Int),limL (c.set m (UInt32.ofNat (w / d.toNat)))),⟨c.set m (UInt32.ofNat (w / d.toNat)),w % d.toNat,(by trivial),(by trivial),by simp [hc],by simp only;omega,Nat.mod_lt _ hd0,?_⟩,by simp only;omega,(by trivial),(by trivial),(by trivial),(by trivial),?_,(by trivial),?_,(by trivial)⟩
  ·simp only
   rw [Lb.f_T a m (by omega),hv,Lb.f_T (c.set m _) m (by simp;omega),Lb.i_C c m _ (by omega),if_pos rfl,Lb.ofNat_toNat hwd,List.drop_set_of_lt (by omega)];have h1:=Nat.div_add_mod w d.toNat
   generalize Lb.val (List.drop (m + 1) c) = V
   rw [Nat.add_mul,Nat.mul_comm (w / d.toNat),Nat.mul_add,Nat.mul_assoc];have : Lb.B * r = r * Lb.B:=Nat.mul_comm ..;omega
  ·rw [c_V hwd,c_T]
  ·rw [Y_ (by omega)]
 ·rw [b_o] at h
  have hk0 : k = 0:=by omega
  subst hk0;rw [List.drop_zero,List.drop_zero] at hv;have hct : List.take (limL c).length c = c:=by rw [y_];exact List.take_of_length_le (Nat.le_refl _)
  rw [List.drop_zero,a_d,hct];have h1 : Lb.val a / d.toNat = Lb.val c:=by
   rw [hv,Nat.mul_comm,Nat.mul_add_div hd0,Nat.div_eq_of_lt hrd,Nat.add_zero]
  have h2 : Lb.val a % d.toNat = r:=by
   rw [hv,Nat.mul_comm,Nat.mul_add_mod,Nat.mod_eq_of_lt hrd]
  rw [h1,h2];refine ⟨_,c_n c (by omega),(by trivial),(by trivial),?_,(by trivial)⟩;rw [g_e];congr 1;rw [hB] at hdB;omega
theorem k_Y (a : List UInt32) (n : Nat) (ha : a.length ≤ 2 ^ 40) (hn : n ≤ 2 ^ 45) : F 207 [.t 22 (lim a),.t 2 (.i .i64 (n : Int))] (zo 2 22) [lim (Lb.nat (Lb.val a * 2 ^ n))]:=by
 have hB : Lb.B = 4294967296:=rfl;have hB32 : Lb.B = 2 ^ 32:=rfl;have hq : quoI .i64 (n : Int) 32 = ((n / 32 : Nat) : Int):=i_6 (b:=32) (by omega);have hm : remI (n : Int) 32 = ((n % 32 : Nat) : Int):=h_m (b:=32);have hsh : n % 32 < 32:=Nat.mod_lt _ (by decide);have hpow : 2 ^ n = Lb.B ^ (n / 32) * 2 ^ (n % 32):=by
  rw [Lb.e_h,← Nat.pow_add];congr 1;omega
 have hsp : 2 ^ (n % 32) ≤ 2 ^ 31:=Nat.pow_le_pow_right (by decide) (by omega);have hadd : addI .i64 (addI .i64 ((n / 32 : Nat) : Int) (a.length : Int)) 1 = ((n / 32 + a.length + 1 : Nat) : Int):=by
  rw [c_ (x:=((n / 32 : Nat) : Int)) (by omega),c_ (by omega)];omega
 refine r_I _ _ _ (fun i => ∃ (c : List UInt32) (s : Nat),i.2.1 = (s : Int) ∧ i.2.2 = limL c ∧ c.length = n / 32 + i.1 ∧ i.1 ≤ a.length ∧ s < 2 ^ (n % 32) ∧ Lb.val c + s * Lb.B ^ (n / 32 + i.1) = Lb.pv (Lb.dg a) i.1 * 2 ^ n)
  (fun i => a.length - i.1) ?_
 simp only [k_];rw [n_,g_,hq,hadd,hm];refine ⟨by decide,by decide,⟨by omega,by omega,by omega,by omega⟩,⟨(0,0,limL (List.replicate (n / 32) 0)),⟨List.replicate (n / 32) 0,0,(by trivial),(by trivial),by simp,by simp,Nat.pow_pos (by decide),?_⟩,(by trivial),(by trivial),(by trivial),?_,(by trivial),(by trivial),(by trivial),(by trivial),(by trivial)⟩,fun _ => (by trivial),?_⟩
 ·simp only [Lb.pv,Nat.zero_mul,Lb.e_H]
 ·rw [Int.toNat_natCast,a_A]
 rintro ⟨k,s',xs⟩ ⟨c,s,hs,hxs,hc,hk,hsl,hv⟩;simp only at hs hxs hc hk hv ⊢;subst hs;subst hxs;rw [y_ c,a_d,List.take_of_length_le (l:=c) (Nat.le_refl _)];refine ⟨fun h => ?_,fun h => ?_⟩
 ·rw [d_] at h
  have hlt : k < a.length:=by omega
  have hx:=Lb.a_Q a k;rw [Int.toNat_natCast,V_ a hlt,b_R,show ((a.getD k 0).toNat) = Lb.dg a k from rfl];have hmul : Lb.dg a k * 2 ^ (n % 32) ≤ (Lb.B - 1) * 2 ^ (n % 32):=Nat.mul_le_mul_right _ (by omega);have hwl : Lb.dg a k * 2 ^ (n % 32) + s < Lb.B * 2 ^ (n % 32):=by
   have : Lb.B * 2 ^ (n % 32) = (Lb.B - 1) * 2 ^ (n % 32) + 2 ^ (n % 32):=by
    rw [← Nat.succ_mul];rfl
   omega
  have hw64 : Lb.B * 2 ^ (n % 32) < 18446744073709551616:=by
   have:=Nat.mul_le_mul_left Lb.B hsp
   have e : Lb.B * 2 ^ 31 < 18446744073709551616:=by decide
   omega
  have e1 : a_J .or .u64 (s : Int) (shlI .u64 (p_ .u64 (Lb.dg a k : Int)) ((n % 32 : Nat) : Int)) = ((Lb.dg a k * 2 ^ (n % 32) + s : Nat) : Int):=by
   rw [a_2 (by rw [hB] at hx;omega),j_e (by omega) (by omega),u_L hsl (by omega)]
  rw [e1]
  generalize hw : Lb.dg a k * 2 ^ (n % 32) + s = w at *
  have hset : (List.replicate 1 (T.i .u32 0)).set 0 (T.i .u32 (p_ .u32 (w : Int))) = limL [UInt32.ofNat (w % Lb.B)]:=by
   rw [c_U];rfl
  rw [hset,b_a,shr32];simp only [y_];refine ⟨⟨by omega,by omega⟩,by decide,by omega,⟨by simp only [List.length_singleton];(try unfold Rm);unfold room;omega,by simp only [List.length_singleton];omega⟩,by decide,
   (k + 1,((w / Lb.B : Nat) : Int),limL (c ++ [UInt32.ofNat (w % Lb.B)])),⟨c ++ [UInt32.ofNat (w % Lb.B)],w / Lb.B,(by trivial),(by trivial),by simp;omega,by simp only;omega,?_,?_⟩,by simp only;omega,(by trivial),(by trivial),(by trivial),(by trivial),?_,(by trivial),(by trivial),?_,(by trivial)⟩
  ·rw [Nat.div_lt_iff_lt_mul Lb.a_l,Nat.mul_comm];exact hwl
  ·simp only
   rw [Lb.c_3,Lb.ofNat_toNat (Nat.mod_lt _ Lb.a_l),hc,Lb.pv,Nat.add_mul,← hv];have e2 : w / Lb.B * Lb.B ^ (n / 32 + (k + 1)) = (w / Lb.B * Lb.B) * Lb.B ^ (n / 32 + k):=by
    rw [← Nat.add_assoc,Nat.pow_succ,Nat.mul_comm (Lb.B ^ (n / 32 + k)),Nat.mul_assoc]
   have e3 : w % Lb.B * Lb.B ^ (n / 32 + k) + w / Lb.B * Lb.B * Lb.B ^ (n / 32 + k) = (Lb.dg a k * 2 ^ (n % 32)) * Lb.B ^ (n / 32 + k) + s * Lb.B ^ (n / 32 + k):=by
    rw [← Nat.add_mul,Nat.mul_comm (w / Lb.B),Nat.mod_add_div,← hw,Nat.add_mul]
   have e4 : Lb.dg a k * Lb.B ^ k * 2 ^ n = (Lb.dg a k * 2 ^ (n % 32)) * Lb.B ^ (n / 32 + k):=by
    rw [hpow,Nat.pow_add];simp only [Nat.mul_left_comm,Nat.mul_comm,Nat.mul_assoc]
   rw [e2,e4,Nat.mul_comm (Lb.B ^ (n / 32 + k))];omega
  ·congr 1
  ·rw [c_ (by omega)];congr 1
 ·rw [l_] at h
  have hkk : k = a.length:=by omega
  have hsB : s < Lb.B:=by rw [hB];omega
  have hset : (List.replicate 1 (T.i .u32 0)).set 0 (T.i .u32 (p_ .u32 (s : Int))) = limL [UInt32.ofNat s]:=by
   rw [c_V hsB];rfl
  rw [hset,b_a];simp only [y_];refine ⟨⟨by simp only [List.length_singleton];(try unfold Rm);unfold room;omega,by simp only [List.length_singleton];omega⟩,_,c_n (c ++ [UInt32.ofNat s]) (by simp;omega),(by trivial),?_,(by trivial)⟩
  congr 2
  rw [Lb.c_3,Lb.ofNat_toNat hsB,hc,Nat.mul_comm (Lb.B ^ (n / 32 + k)),hv,hkk,← Lb.a_H a a.length (Nat.le_refl _)]
theorem s_k (a : List UInt32) (n : Nat) (ha : a.length ≤ 2 ^ 40) (hn : n ≤ 2 ^ 45) : F 209 [.t 22 (lim a),.t 2 (.i .i64 (n : Int))] (zo 2 22) [lim (Lb.nat (Lb.val a / 2 ^ n))]:=by
 have hB : Lb.B = 4294967296:=rfl;have hq : quoI .i64 (n : Int) 32 = ((n / 32 : Nat) : Int):=i_6 (b:=32) (by omega);have hm : remI (n : Int) 32 = ((n % 32 : Nat) : Int):=h_m (b:=32);have hsh : n % 32 < 32:=Nat.mod_lt _ (by decide);have hpow : 2 ^ n = Lb.B ^ (n / 32) * 2 ^ (n % 32):=by
  rw [Lb.e_h,← Nat.pow_add];congr 1;omega
 refine r_K _ _ _ (fun i => ∃ (c : List UInt32),i.2 = limL c ∧ i.1 = n / 32 + c.length ∧ c.length ≤ a.length ∧ Lb.val c = Lb.val a / 2 ^ n % Lb.B ^ c.length)
  (fun i => a.length - i.1) ?_
 simp only [k_];rw [n_,g_,hq,hm];refine ⟨by decide,⟨(n / 32,limL []),⟨[],(by trivial),(by trivial),by simp,by simp [Lb.val,Nat.mod_one]⟩,(by trivial),(by trivial),(by trivial),(by trivial),(by trivial),(by trivial)⟩,fun _ => (by trivial),?_⟩;rintro ⟨k,xs⟩ ⟨c,hxs,hk,hca,hv⟩;simp only at hxs hk ⊢;subst hxs;rw [y_ c,List.drop_zero,a_d,List.take_of_length_le (l:=c) (Nat.le_refl _)];refine ⟨fun h => ?_,fun h => ?_⟩
 ·rw [d_] at h
  have hlt : k < a.length:=by omega
  rw [show addI .i64 (k : Int) 1 = ((k + 1 : Nat) : Int) by rw [c_ (by omega)];omega];refine ⟨_,at_F a (k + 1),by decide,_,at_F a k,by decide,by omega,?_⟩;simp only [k_];have hx:=Lb.a_Q a k;have hy:=Lb.a_Q a (k + 1);have e1 : a_J .or .u64 (shlI .u64 (Lb.dg a (k + 1) : Int) 32) (Lb.dg a k : Int) = ((Lb.dg a (k + 1) * Lb.B + Lb.dg a k : Nat) : Int):=by
   rw [show (32 : Int) = ((32 : Nat) : Int) from rfl,j_e (by decide) (by rw [hB] at hy;omega),n_P (by exact hx) (by rw [hB] at hx hy;omega)];rfl
  rw [e1,q_b (by omega)]
  generalize hw : Lb.dg a (k + 1) * Lb.B + Lb.dg a k = w at *
  have hset : (List.replicate 1 (T.i .u32 0)).set 0 (T.i .u32 (p_ .u32 ((w / 2 ^ (n % 32) : Nat) : Int))) = limL [UInt32.ofNat (w / 2 ^ (n % 32) % Lb.B)]:=by
   rw [c_U];rfl
  rw [hset,b_a];simp only [y_];refine ⟨⟨by simp only [List.length_singleton];(try unfold Rm);unfold room;omega,by simp only [List.length_singleton];omega⟩,
   (k + 1,limL (c ++ [UInt32.ofNat (w / 2 ^ (n % 32) % Lb.B)])),⟨c ++ [UInt32.ofNat (w / 2 ^ (n % 32) % Lb.B)],(by trivial),by simp;omega,by simp;omega,?_⟩,by simp only;omega,(by trivial),(by trivial),(by trivial),(by trivial),(by trivial),(by trivial)⟩
  ·rw [Lb.c_3,Lb.ofNat_toNat (Nat.mod_lt _ Lb.a_l),hv,List.length_append,List.length_singleton,Nat.pow_succ,Nat.mod_mul]
   congr 2
   have e2 : w = Lb.val a / Lb.B ^ k % (Lb.B * Lb.B):=by
    rw [Nat.mod_mul,← Lb.d_e,Nat.div_div_eq_div_mul,← Nat.pow_succ,← Lb.d_e,← hw,Nat.mul_comm Lb.B,Nat.add_comm]
   have e3 : Lb.B * Lb.B = 2 ^ (n % 32) * (Lb.B * 2 ^ (32 - n % 32)):=by
    rw [Nat.mul_left_comm,← Nat.pow_add,Nat.add_sub_cancel' (by omega)];rfl
   rw [e2,e3,Nat.mod_mul_right_div_self,Nat.mod_mul_right_mod,Nat.div_div_eq_div_mul,Nat.div_div_eq_div_mul,hk,hpow,Nat.pow_add]
   congr 2
   simp only [Nat.mul_left_comm,Nat.mul_comm,Nat.mul_assoc]
 ·rw [l_] at h
  refine ⟨_,c_n c (by omega),(by trivial),?_,(by trivial)⟩
  congr 2
  rw [hv];apply Nat.mod_eq_of_lt;rw [hpow,← Nat.div_div_eq_div_mul];refine Nat.lt_of_le_of_lt (Nat.div_le_self _ _) ?_;rw [Nat.div_lt_iff_lt_mul (Nat.pow_pos Lb.a_l),← Nat.pow_add];exact Nat.lt_of_lt_of_le (Lb.a_t a) (Nat.pow_le_pow_right Lb.a_l (by omega))
end Go.Pq
namespace Lb
def bl (n : Nat) : Nat:=if n = 0 then 0 else n.log2 + 1
theorem q_p (n : Nat) : n < 2 ^ bl n:=by
 unfold bl;split
 ·omega
 ·exact Nat.lt_log2_self
theorem o_B {n : Nat} (h : n ≠ 0) : 2 ^ (bl n - 1) ≤ n:=by
 unfold bl;rw [if_neg h,Nat.add_sub_cancel];exact Nat.log2_self_le h
theorem i_p {n : Nat} (h : n ≠ 0) : 0 < bl n:=by unfold bl;rw [if_neg h];omega
theorem q_o {n k : Nat} (h1 : n < 2 ^ k) (h2 : k = 0 ∨ 2 ^ (k - 1) ≤ n) : bl n = k:=by
 by_cases h : n = 0
 ·subst h
  rcases h2 with h2 | h2
  ·rw [h2];rfl
  ·have : 0 < 2 ^ (k - 1):=Nat.pow_pos (by decide)
   omega
 ·have a1:=q_p n
  have a2:=o_B h;have a3:=i_p h
  rcases h2 with h2 | h2
  ·subst h2;omega
  ·have q1:=(Nat.pow_lt_pow_iff_right (by decide : 1 < 2)).1 (Nat.lt_of_le_of_lt a2 h1)
   have q2:=(Nat.pow_lt_pow_iff_right (by decide : 1 < 2)).1 (Nat.lt_of_le_of_lt h2 a1);have : k ≠ 0:=by intro q;subst q;simp at h1;exact h h1
   omega
theorem e_V {n k : Nat} (h : n < 2 ^ k) : bl n ≤ k:=by
 by_cases hz : n = 0
 ·subst hz;simp [bl]
 ·have a2:=o_B hz
  have q1:=(Nat.pow_lt_pow_iff_right (by decide : 1 < 2)).1 (Nat.lt_of_le_of_lt a2 h)
  have:=i_p hz
  omega
theorem k_C {n k : Nat} (h : 2 ^ k ≤ n) : bl n = bl (n / 2 ^ k) + k:=by
 have hp : 0 < 2 ^ k:=Nat.pow_pos (by decide);have hz : n / 2 ^ k ≠ 0:=by
  have:=(Nat.one_le_div_iff hp).2 h
  omega
 apply q_o
 ·rw [Nat.pow_add]
  exact (Nat.div_lt_iff_lt_mul hp).1 (q_p _)
 ·right
  have a2:=o_B hz;have a3:=i_p hz;rw [show bl (n / 2 ^ k) + k - 1 = (bl (n / 2 ^ k) - 1) + k by omega,Nat.pow_add];exact (Nat.le_div_iff_mul_le hp).1 a2
theorem p_P {a : List UInt32} (hc : Canon a) (hn : a ≠ []) : bl (val a) = 32 * (a.length - 1) + bl (dg a (a.length - 1)):=by
 have hl : 0 < a.length:=List.length_pos_iff.2 hn;have hd : dg a (a.length - 1) = val a / 2 ^ (32 * (a.length - 1)):=by
  rw [← e_h,d_e];apply Nat.mod_eq_of_lt;rw [Nat.div_lt_iff_lt_mul (Nat.pow_pos a_l),Nat.mul_comm,← Nat.pow_succ]
  have:=a_t a
  rw [show (a.length - 1).succ = a.length by omega];exact this
 have:=hc.lower hn
 rw [e_h] at this;rw [k_C this,hd];omega
end Lb
namespace Go.Pq
open Go.Pl Go.Proofs
theorem tab216 : ((List.range 256).all fun i => f_8 (bs str216) (i : Int) == (Lb.bl i : Int)) = true:=by kernel_rfl
theorem o_j {n : Nat} (h : n < 256) : f_8 (bs str216) (n : Int) = (Lb.bl n : Int):=by
 have:=List.all_eq_true.1 tab216 n (List.mem_range.2 h)
 simpa using this
theorem size216 : (bs str216).size = 256:=by kernel_rfl
theorem j_f {n k : Nat} (hk : k ≤ 32) : shrI .u32 (n : Int) (k : Int) = ((n / 2 ^ k : Nat) : Int):=by
 unfold shrI;rw [show IntKind.u32.bits = 32 from rfl,Int.toNat_natCast,Nat.min_eq_left hk];rw [Int.fdiv_eq_ediv_of_nonneg _ (by exact_mod_cast Nat.zero_le (2 ^ k))];simp
theorem i_B {n : Nat} (h : n < 256) : p_ .u8 (n : Int) = (n : Int):=by
 unfold p_;rw [w_u8];omega
theorem r_0 (x : UInt32) : F 216 [.t 155 (lm x)] (zo 1 2) [.i .i64 (Lb.bl x.toNat : Int)]:=by
 have hx : x.toNat < 4294967296:=x.toNat_lt;have hi : (lm x).int = (x.toNat : Int):=rfl;refine r_N _ _ ?_;have s16 : shrI .u32 (x.toNat : Int) 16 = ((x.toNat / 65536 : Nat) : Int):=j_f (k:=16) (by decide);have s8 : shrI .u32 (x.toNat : Int) 8 = ((x.toNat / 256 : Nat) : Int):=j_f (k:=8) (by decide);have s24 : shrI .u32 ((x.toNat / 65536 : Nat) : Int) 8 = ((x.toNat / 65536 / 256 : Nat) : Int):=j_f (k:=8) (by decide);rw [hi,s16,s8,s24,size216];have fin : ∀ {n : Nat} (_ : n < 256) (k : Nat),k ≤ 24 → addI .i64 (k : Int) (p_ .i64 (f_8 (bs str216) (p_ .u8 (n : Int)))) = ((Lb.bl n + k : Nat) : Int):=by
  intro n hn k hk
  have:=Lb.e_V (n:=n) (k:=8) hn
  rw [i_B hn,o_j hn,e_1 (by omega),c_ (by omega)];omega
 refine ⟨fun h => ⟨by decide,fun h2 => ?_,fun h2 => ?_⟩,fun h => ⟨fun h2 => ?_,fun h2 => ?_⟩⟩
 ·rw [a_R] at h h2
  have hn : x.toNat / 65536 / 256 < 256:=by omega
  have e : addI .i64 16 8 = ((24 : Nat) : Int):=by rw [c_ (by omega)];rfl
  rw [e,fin hn 24 (by omega),i_B hn];refine ⟨by decide,⟨by omega,by omega⟩,(by trivial),?_,(by trivial)⟩;rw [Lb.k_C (n:=x.toNat) (k:=24) (by omega),Nat.div_div_eq_div_mul]
 ·rw [a_R] at h
  rw [b_o] at h2;have hn : x.toNat / 65536 < 256:=by omega
  have e:=fin hn 16 (by omega);rw [show ((16 : Nat) : Int) = 16 from rfl] at e;rw [e,i_B hn];refine ⟨⟨by omega,by omega⟩,(by trivial),?_,(by trivial)⟩;rw [Lb.k_C (n:=x.toNat) (k:=16) (by omega)]
 ·rw [a_R] at h2
  rw [b_o] at h;have hn : x.toNat / 256 < 256:=by omega
  have e : addI .i64 0 8 = ((8 : Nat) : Int):=by rw [c_ (by omega)];rfl
  rw [e,fin hn 8 (by omega),i_B hn];refine ⟨by decide,⟨by omega,by omega⟩,(by trivial),?_,(by trivial)⟩;rw [Lb.k_C (n:=x.toNat) (k:=8) (by omega)]
 ·rw [b_o] at h h2
  have hn : x.toNat < 256:=by omega
  have e:=fin hn 0 (by omega);rw [show ((0 : Nat) : Int) = 0 from rfl] at e;rw [e,i_B hn];refine ⟨⟨by omega,by omega⟩,(by trivial),?_,(by trivial)⟩;rfl
theorem t_4 (x : UInt32) : F 214 [.t 155 (lm x)] (zo 1 2) [.i .i64 ((32 - Lb.bl x.toNat : Nat) : Int)]:=by
 have:=Lb.e_V (n:=x.toNat) (k:=32) x.toNat_lt
 refine r_M _ _ ⟨_,r_0 x,(by trivial),?_,(by trivial)⟩;rw [k_,Y_ (by omega)]
 congr 1
 omega
theorem o_3 (a : List UInt32) (ha : a.length ≤ 2 ^ 40) (hc : Lb.Canon a) : F 206 [.t 22 (lim a)] (zo 1 2) [.i .i64 (Lb.bl (Lb.val a) : Int)]:=by
 refine r_H _ _ ?_;rw [n_,g_];refine ⟨fun h => ?_,fun h => ?_⟩
 ·rw [M_] at h
  have : a = []:=List.length_eq_zero_iff.1 (by omega);subst this;exact ⟨(by trivial),rfl,(by trivial)⟩
 ·rw [a_D] at h
  have hl : 0 < a.length:=by omega
  have hn : a ≠ []:=List.length_pos_iff.1 hl;have e : subI .i64 (a.length : Int) 1 = ((a.length - 1 : Nat) : Int):=by rw [Y_ (by omega)];omega
  rw [e,Int.toNat_natCast,V_ a (by omega)];refine ⟨⟨by omega,by omega⟩,_,t_4 _,(by trivial),?_,(by trivial)⟩;have hb:=Lb.e_V (n:=(a.getD (a.length - 1) 0).toNat) (k:=32) (UInt32.toNat_lt _);rw [k_,Lb.p_P hc hn,h_i (by omega),Y_ (by omega)];have : Lb.dg a (a.length - 1) = (a.getD (a.length - 1) 0).toNat:=rfl;rw [this]
  congr 1
  omega
end Go.Pq
namespace Lb
theorem c_a {x y m n : Nat} (h1 : x < B ^ m) (h2 : y < B ^ n) : (nat (x * y)).length ≤ m + n:=by
 apply b_P;rw [Nat.pow_add]
 rcases Nat.eq_zero_or_pos y with q | q
 ·subst q;simp;exact Nat.mul_pos (Nat.pow_pos a_l) (Nat.pow_pos a_l)
 ·exact Nat.mul_lt_mul_of_lt_of_le h1 (Nat.le_of_lt h2) (by omega)
theorem e_l {b : List UInt32} (hc : Canon b) (hn : b ≠ []) : 0 < val b:=by
 have:=hc.lower hn
 have h2 : 0 < B ^ (b.length - 1):=Nat.pow_pos a_l;omega
theorem i_g (x : UInt32) : val [x] = x.toNat:=by simp [val]
theorem o_Y {U V m l tu tv Q : Nat} (hu : tu = U / B ^ (m + l)) (hv : tv = V / B ^ l) (hv0 : tv ≠ 0) (hq : Q * (V * B ^ m) ≤ U) : Q ≤ tu / tv:=by
 rw [Nat.le_div_iff_mul_le (by omega),hu,Nat.le_div_iff_mul_le (Nat.pow_pos a_l)];have h1 : tv * B ^ l ≤ V:=by rw [hv];exact Nat.div_mul_le_self _ _
 have h2 : Q * tv * B ^ (m + l) = Q * ((tv * B ^ l) * B ^ m):=by
  rw [Nat.pow_add];simp only [Nat.mul_left_comm,Nat.mul_comm,Nat.mul_assoc]
 rw [h2];exact Nat.le_trans (Nat.mul_le_mul_left _ (Nat.mul_le_mul_right _ h1)) hq
end Lb
namespace Go.Pq
open Go.Pl Go.Proofs
theorem t_7 {x y : UInt32} (h : lm x = lm y) : x = y:=by
 unfold lm at h
 injection h with _ h
 exact UInt32.toNat_inj.1 (by omega)
theorem r_1 {a b : List UInt32} (h : lim a = lim b) : a = b:=by
 unfold lim at h
 injection h with h
 unfold limL at h;exact (List.map_inj_right fun _ _ => t_7).1 h
def lv (t : T) : Nat:=Lb.val (t.list.map fun x => UInt32.ofNat x.int.toNat)
theorem k_Z (a : List UInt32) : lv (lim a) = Lb.val a:=by
 unfold lv;rw [n_];unfold limL;rw [List.map_map]
 congr 1
 conv => rhs;rw [← List.map_id a]
 apply List.map_congr_left;intro x _
 show UInt32.ofNat (Int.toNat (x.toNat : Int)) = x
 rw [Int.toNat_natCast,UInt32.ofNat_toNat]
theorem n_T (a b : List UInt32) (ha : a.length ≤ 2 ^ 32) (hb : b.length ≤ 2 ^ 32) (hc : Lb.Canon b) (hn : b ≠ []) :
  F 191 [.t 22 (lim a),.t 22 (lim b)] Z3 [lim (Lb.nat (Lb.val a / Lb.val b)),lim (Lb.nat (Lb.val a % Lb.val b))]:=by
 have hB : Lb.B = 4294967296:=rfl;have hbp:=Lb.e_l hc hn;have hbl : 0 < b.length:=List.length_pos_iff.2 hn;have hup : ∃ n : Nat,n = 32 * b.length - Lb.bl (Lb.val b) ∧ n < 32 ∧ Lb.bl (Lb.val b) ≤ 32 * b.length:=by
  refine ⟨_,rfl,?_,?_⟩
  ·rw [Lb.p_P hc hn]
   rcases hc with h | h
   ·exact absurd h hn
   ·have:=Lb.i_p h
    omega
  ·apply Lb.e_V
   rw [← Lb.e_h];exact Lb.a_t b
 obtain ⟨n,hnd,hn32,hbl2⟩:=hup;have hp32 : 2 ^ n ≤ 2 ^ 31:=Nat.pow_le_pow_right (by decide) (by omega);have hpB : 2 ^ n < Lb.B ^ 1:=by rw [Nat.pow_one,hB];omega
 have hpp : 0 < 2 ^ n:=Nat.pow_pos (by decide)
 generalize hV : Lb.val b * 2 ^ n = V at *
 generalize hU0 : Lb.val a * 2 ^ n = U0 at *
 have hVp : 0 < V:=by rw [← hV];exact Nat.mul_pos hbp hpp
 have hVl : (Lb.nat V).length ≤ b.length + 1:=by rw [← hV];exact Lb.c_a (Lb.a_t b) hpB
 have hUl : (Lb.nat U0).length ≤ a.length + 1:=by rw [← hU0];exact Lb.c_a (Lb.a_t a) hpB
 have hVn : Lb.nat V ≠ []:=fun q => by have:=Lb.b_u.1 q;omega
 have hVlow:=(Lb.H_ V).lower hVn;have hVup:=Lb.a_t (Lb.nat V);have hUup:=Lb.a_t (Lb.nat U0);rw [Lb.h_] at hVlow hVup hUup;have hVl0 : 0 < (Lb.nat V).length:=List.length_pos_iff.2 hVn
 generalize hlv : (Lb.nat V).length = lv at *
 generalize hlu : (Lb.nat U0).length = lu at *
 have hL : maxI (0 : Int) (addI .i64 (subI .i64 (lu : Int) (lv : Int)) 1) = ((lu + 1 - lv : Nat) : Int):=by
  rw [Y_ (by omega),c_ (by omega)];unfold maxI;split <;> omega
 refine r_B _ _ _ _
  (fun i => ∃ (c : List UInt32) (U : Nat),i.2.2.1 = lim (Lb.nat V) ∧ i.2.2.2.1 = .i .i64 (n : Int) ∧ i.2.2.2.2 = limL c ∧ c.length = lu + 1 - lv ∧ i.1 ≤ lu + 1 - lv ∧ i.2.1 = lim (Lb.nat U) ∧ U < V * Lb.B ^ i.1 ∧ Lb.val (c.drop i.1) * V * Lb.B ^ i.1 + U = U0)
  (fun i => i.1)
  (fun i j => ∃ (U G : Nat),0 < i.1 ∧ i.2.1 = lim (Lb.nat U) ∧ j.1 = (G : Int) ∧ G < Lb.B ∧ U / (V * Lb.B ^ (i.1 - 1)) ≤ G ∧ j.2 = lim (Lb.nat (V * G * Lb.B ^ (i.1 - 1))))
  (fun _ j => j.1.toNat) ?_
 rw [n_,g_];refine ⟨fun h => ?_,fun h => ?_⟩
 ·
  rw [M_] at h;obtain ⟨d,rfl⟩:=List.length_eq_one_iff.1 (show b.length = 1 by omega);have hd : d ≠ 0:=by
   rintro rfl;simp [Lb.val] at hbp
  have hvd : Lb.val [d] = d.toNat:=by simp [Lb.val]
  have hget : ((limL [d]).getD (Int.toNat 0) .u).cell 0 = lm d:=rfl;rw [hget];have hlt : Lb.val a % d.toNat < Lb.B:=Nat.lt_of_lt_of_le (Nat.mod_lt _ (by rw [← hvd];exact hbp)) (Nat.le_of_lt d.toNat_lt);have hset : (List.replicate 1 (T.i .u32 0)).set 0 (T.i .u32 ((Lb.val a % d.toNat : Nat) : Int)) = limL [UInt32.ofNat (Lb.val a % d.toNat)]:=by
   rw [n_E rfl hlt];rfl
  refine ⟨⟨by omega,by omega⟩,_,_,s_w a d (by omega) hd,_,?_,(by trivial),?_,rfl,(by trivial)⟩
  ·rw [hset]
   have:=c_n [UInt32.ofNat (Lb.val a % d.toNat)] (by simp)
   have hv1 : Lb.val [UInt32.ofNat (Lb.val a % d.toNat)] = Lb.val a % Lb.val [d]:=by
    rw [hvd,Lb.i_g,Lb.ofNat_toNat hlt]
   rw [hv1] at this;exact this
  ·rw [hvd]
 ·
  have hsh : subI .i64 (mulI .i64 32 (b.length : Int)) (Lb.bl (Lb.val b) : Int) = (n : Int):=by
   rw [h_i (by omega),Y_ (by omega)];omega
  have hfU:=k_Y a n (by omega) (by omega);have hfV:=k_Y b n (by omega) (by omega);rw [hU0] at hfU;rw [hV] at hfV;refine ⟨_,o_3 b (by omega) hc,lim (Lb.nat U0),?_,lim (Lb.nat V),?_,?_⟩
  ·rw [k_,hsh];exact hfU
  ·rw [k_,hsh];exact hfV
  rw [k_,hsh,n_,n_,g_,g_,hlu,hlv,hL,Int.toNat_natCast,a_A];have hinit : U0 < V * Lb.B ^ (lu + 1 - lv):=by
   by_cases q : lv ≤ lu + 1
   ·have h1 : Lb.B ^ lu ≤ Lb.B ^ (lv - 1) * Lb.B ^ (lu + 1 - lv):=by
     rw [← Nat.pow_add];exact Nat.pow_le_pow_right Lb.a_l (by omega)
    exact Nat.lt_of_lt_of_le hUup (Nat.le_trans h1 (Nat.mul_le_mul_right _ hVlow))
   ·have h1 : Lb.B ^ lu ≤ Lb.B ^ (lv - 1):=Nat.pow_le_pow_right Lb.a_l (by omega)
    have e : lu + 1 - lv = 0:=by omega
    rw [e,Nat.pow_zero,Nat.mul_one];exact Nat.lt_of_lt_of_le hUup (Nat.le_trans h1 hVlow)
  refine ⟨⟨by omega,by omega,by omega,by omega⟩,⟨(lu + 1 - lv,lim (Lb.nat U0),lim (Lb.nat V),.i .i64 (n : Int),limL (List.replicate (lu + 1 - lv) 0)),
   ⟨List.replicate (lu + 1 - lv) 0,U0,rfl,rfl,rfl,by simp,Nat.le_refl _,rfl,hinit,by simp [Lb.val]⟩,rfl,rfl,rfl,rfl,rfl,rfl,rfl,?_,(by trivial)⟩,fun _ => rfl,?_⟩
  ·rw [y_,List.length_replicate,Y_ (by omega)]
  rintro ⟨k,u,v,up,q⟩ ⟨c,U,hv,hup,hq,hcl,hk,hu,hUlt,hinv⟩;simp only at hv hup hq hk hu hUlt hinv ⊢;subst hv;subst hup;subst hq;subst hu;have hUle : U ≤ U0:=by omega
  have hUl2 : (Lb.nat U).length ≤ lu:=Lb.b_P _ _ (Nat.lt_of_le_of_lt hUle hUup);refine ⟨fun hk0 => ?_,fun hk0 => ?_⟩
  ·rw [a_R] at hk0
   obtain ⟨m,rfl⟩ : ∃ m,k = m + 1:=⟨k - 1,by omega⟩;have em : ((m + 1 : Nat) : Int) - 1 = (m : Int):=by omega
   simp only [Nat.add_sub_cancel];rw [em,n_,g_,hlv];have e1 : addI .i64 (m : Int) (lv : Int) = ((m + lv : Nat) : Int):=by rw [c_ (by omega)];omega
   have e2 : subI .i64 ((m + lv : Nat) : Int) 1 = ((m + lv - 1 : Nat) : Int):=by rw [Y_ (by omega)];omega
   have e3 : subI .i64 (lv : Int) 1 = ((lv - 1 : Nat) : Int):=by rw [Y_ (by omega)];omega
   have e4 : mulI .i64 32 (m : Int) = ((32 * m : Nat) : Int):=by rw [h_i (by omega)];omega
   rw [e1,e2,e3,e4];have hx:=Lb.a_Q (Lb.nat U) (m + lv);have hy:=Lb.a_Q (Lb.nat U) (m + lv - 1);have hz:=Lb.a_Q (Lb.nat V) (lv - 1)
   generalize htu : Lb.dg (Lb.nat U) (m + lv) * Lb.B + Lb.dg (Lb.nat U) (m + lv - 1) = tu at *
   generalize htv : Lb.dg (Lb.nat V) (lv - 1) = tv at *
   have hor : a_J .or .u64 (shlI .u64 (Lb.dg (Lb.nat U) (m + lv) : Int) 32) (Lb.dg (Lb.nat U) (m + lv - 1) : Int) = (tu : Int):=by
    rw [show (32 : Int) = ((32 : Nat) : Int) from rfl,j_e (by decide) (by rw [hB] at hx;omega),n_P (by exact hy) (by rw [hB] at hx hy;omega),← htu];rfl
   have htv0 : tv ≠ 0:=by
    rcases Lb.H_ V with h | h
    ·exact absurd h hVn
    ·rw [hlv,htv] at h;exact h
   have htu' : tu = U / Lb.B ^ (m + (lv - 1)):=by
    have h1 : U < Lb.B ^ (m + lv + 1):=by
     have : V * Lb.B ^ (m + 1) ≤ Lb.B ^ lv * Lb.B ^ (m + 1):=Nat.mul_le_mul_right _ (Nat.le_of_lt hVup);rw [← Nat.pow_add] at this;rw [show m + lv + 1 = lv + (m + 1) by omega];omega
    rw [← htu,Lb.d_e,Lb.d_e,Lb.h_,show m + (lv - 1) = m + lv - 1 by omega];have h2 : U / Lb.B ^ (m + lv) < Lb.B:=by
     rw [Nat.div_lt_iff_lt_mul (Nat.pow_pos Lb.a_l),Nat.mul_comm,← Nat.pow_succ];exact h1
    rw [Nat.mod_eq_of_lt h2];have h3 : Lb.B ^ (m + lv) = Lb.B ^ (m + lv - 1) * Lb.B:=by rw [← Nat.pow_succ];congr 1;omega
    rw [h3,← Nat.div_div_eq_div_mul,Nat.mul_comm,Nat.add_comm];exact Nat.mod_add_div _ _
   have htv' : tv = V / Lb.B ^ (lv - 1):=by
    rw [← htv,Lb.d_e,Lb.h_];apply Nat.mod_eq_of_lt;rw [Nat.div_lt_iff_lt_mul (Nat.pow_pos Lb.a_l),Nat.mul_comm,← Nat.pow_succ,show (lv - 1).succ = lv by omega];exact hVup
   have htul : tu < 18446744073709551616:=by rw [← htu,hB];rw [hB] at hx hy;omega
   have hVB : 0 < V * Lb.B ^ m:=Nat.mul_pos hVp (Nat.pow_pos Lb.a_l);have hQB : U / (V * Lb.B ^ m) < Lb.B:=by
    rw [Nat.div_lt_iff_lt_mul hVB,Nat.mul_comm,Nat.mul_assoc,← Nat.pow_succ];exact hUlt
   have hQt : U / (V * Lb.B ^ m) ≤ tu / tv:=Lb.o_Y htu' htv' htv0 (Nat.div_mul_le_self _ _);have hmin : minI (quoI .u64 (tu : Int) (tv : Int)) 4294967295 = ((min (tu / tv) (Lb.B - 1) : Nat) : Int):=by
    have hb1 : Lb.B - 1 = 4294967295:=by omega
    rw [p_8 htul,hb1]
    generalize tu / tv = z
    unfold minI;split <;> omega
   have hg1 : min (tu / tv) (Lb.B - 1) < Lb.B:=by rw [hB];omega
   have hg2 : U / (V * Lb.B ^ m) ≤ min (tu / tv) (Lb.B - 1):=by rw [Nat.le_min];exact ⟨hQt,by omega⟩
   generalize hG : min (tu / tv) (Lb.B - 1) = G at *
   have hone : T.l ((List.replicate 1 (T.i .u32 0)).set 0 (T.i .u32 (p_ .u32 (G : Int)))) = lim [UInt32.ofNat G]:=by
    rw [c_V hg1];rfl
   have hval1 : Lb.val [UInt32.ofNat G] = G:=by rw [Lb.i_g,Lb.ofNat_toNat hg1]
   have c1:=c_n [UInt32.ofNat G] (by simp);rw [hval1] at c1;have hGl : (Lb.nat G).length ≤ 1:=Lb.b_P _ _ (by rw [Nat.pow_one];exact hg1);have c2:=f_s (Lb.nat V) (Lb.nat G) (by omega) (by omega);rw [Lb.h_,Lb.h_] at c2;have hVGl : ∀ z,z < Lb.B → (Lb.nat (V * z)).length ≤ lv + 1:=fun z hz => Lb.c_a hVup (by rw [Nat.pow_one];exact hz)
   have hPl : ∀ z,z < Lb.B → (Lb.nat (V * z * Lb.B ^ m)).length ≤ lv + 1 + (m + 1):=fun z hz =>
    Lb.c_a (m:=lv + 1) (by have:=Lb.a_t (Lb.nat (V * z));rw [Lb.h_] at this;exact Nat.lt_of_lt_of_le this (Nat.pow_le_pow_right Lb.a_l (hVGl z hz)))
     (by rw [Nat.pow_succ];have : 0 < Lb.B ^ m:=Nat.pow_pos Lb.a_l;rw [hB] at this ⊢;omega)
   have c3:=k_Y (Lb.nat (V * G)) (32 * m) (by have:=hVGl G hg1;omega) (by omega);rw [Lb.h_,← Lb.e_h] at c3;have c4:=k_Y (Lb.nat V) (32 * m) (by omega) (by omega);rw [Lb.h_,← Lb.e_h] at c4;refine ⟨_,at_F (Lb.nat U) (m + lv),by decide,_,at_F (Lb.nat U) (m + lv - 1),_,at_F (Lb.nat V) (lv - 1),?_,?_⟩
   ·rw [k_,htv];omega
   rw [k_,k_,k_,hor,htv,hmin,hone];refine ⟨_,c1,_,c2,_,c3,⟨((G : Int),lim (Lb.nat (V * G * Lb.B ^ m))),⟨U,G,by omega,rfl,rfl,hg1,hg2,rfl⟩,(by trivial),(by trivial),(by trivial),(by trivial),(by trivial),(by trivial),(by trivial),(by trivial),(by trivial),(by trivial),(by trivial),(by trivial)⟩,fun _ => (by trivial),?_⟩;rintro ⟨g,p⟩ ⟨U',G',-,hU',hg,hgB,hQ,hp⟩;simp only [Nat.add_sub_cancel] at hU' hg hQ hp ⊢;subst hg;subst hp;have hUU : U' = U:=by
    have:=congrArg Lb.val (r_1 hU')
    rw [Lb.h_,Lb.h_] at this;exact this.symm
   subst hUU;have c5:=j_E (Lb.nat U') (Lb.nat (V * G' * Lb.B ^ m)) (by omega) (by have:=hPl G' hgB;omega);rw [Lb.h_,Lb.h_] at c5;refine ⟨_,c5,fun hlt => ?_,fun hge => ?_⟩
   ·rw [k_,d_] at hlt
    have hlt : U' < V * G' * Lb.B ^ m:=by
     unfold cmpI at hlt
     by_cases q : U' < V * G' * Lb.B ^ m
     ·exact q
     ·rw [if_neg q] at hlt;split at hlt <;> omega
    have hQ2 : U' / (V * Lb.B ^ m) < G' := by
     rw [Nat.div_lt_iff_lt_mul hVB,← Nat.mul_assoc,Nat.mul_comm G'];exact hlt
    obtain ⟨G1,rfl⟩ : ∃ z,G' = z + 1:=⟨G' - 1,(Nat.succ_pred_eq_of_pos (Nat.lt_of_le_of_lt (Nat.zero_le _) hQ2)).symm⟩;have hsub : V * (G1 + 1) * Lb.B ^ m - V * Lb.B ^ m = V * G1 * Lb.B ^ m:=by
     rw [Nat.mul_add,Nat.mul_one,Nat.add_mul,Nat.add_sub_cancel]
    have c6:=h_0 (Lb.nat (V * (G1 + 1) * Lb.B ^ m)) (Lb.nat (V * Lb.B ^ m)) (by have:=hPl _ hgB;omega) (by
     rw [Lb.h_,Lb.h_,Nat.mul_add,Nat.mul_one,Nat.add_mul];omega)
    rw [Lb.h_,Lb.h_,hsub] at c6;refine ⟨_,c4,_,c6,((G1 : Int),lim (Lb.nat (V * G1 * Lb.B ^ m))),⟨U',G1,by omega,rfl,rfl,by omega,Nat.le_of_lt_succ hQ2,rfl⟩,by simp only;omega,(by trivial),(by trivial),(by trivial),(by trivial),(by trivial),(by trivial),(by trivial),(by trivial),(by trivial),?_,(by trivial),(by trivial)⟩;rw [hB] at hgB;rw [j_m (by omega)]
    congr 1
    simp only;omega
   ·rw [k_,l_] at hge
    have hge : V * G' * Lb.B ^ m ≤ U' := by
     unfold cmpI at hge
     by_cases q : U' < V * G' * Lb.B ^ m
     ·rw [if_pos q] at hge;omega
     ·omega
    have hQ2 : U' / (V * Lb.B ^ m) = G' := by
     refine Nat.le_antisymm hQ ?_;rw [Nat.le_div_iff_mul_le hVB,← Nat.mul_assoc,Nat.mul_comm G'];exact hge
    have c6:=h_0 (Lb.nat U') (Lb.nat (V * G' * Lb.B ^ m)) (by omega) (by rw [Lb.h_,Lb.h_];exact hge);rw [Lb.h_,Lb.h_] at c6;have hdm:=Nat.div_add_mod U' (V * Lb.B ^ m);rw [hQ2] at hdm;have e5 : V * Lb.B ^ m * G' = V * G' * Lb.B ^ m:=by simp only [Nat.mul_left_comm,Nat.mul_comm,Nat.mul_assoc]
    rw [e5] at hdm;have hml:=Nat.mod_lt U' hVB;refine ⟨_,c6,⟨by omega,by rw [y_];omega⟩,(m,lim (Lb.nat (U' - V * G' * Lb.B ^ m)),lim (Lb.nat V),.i .i64 (n : Int),limL (c.set m (UInt32.ofNat G'))),
     ⟨c.set m (UInt32.ofNat G'),U' - V * G' * Lb.B ^ m,rfl,rfl,rfl,by simp [hcl],by simp only;omega,rfl,?_,?_⟩,by simp only;omega,(by trivial),(by trivial),?_,(by trivial),(by trivial),(by trivial),(by trivial),?_,(by trivial)⟩
    ·simp only;omega
    ·simp only
     rw [Lb.f_T (c.set m _) m (by simp;omega),Lb.i_C c m _ (by omega),if_pos rfl,Lb.ofNat_toNat hgB,List.drop_set_of_lt (by omega),Nat.add_mul,Nat.add_mul,← hinv];have e6 : Lb.B * Lb.val (List.drop (m + 1) c) * V * Lb.B ^ m = Lb.val (List.drop (m + 1) c) * V * Lb.B ^ (m + 1):=by
      rw [Nat.pow_succ];simp only [Nat.mul_left_comm,Nat.mul_comm,Nat.mul_assoc]
     have e7 : G' * V * Lb.B ^ m = V * G' * Lb.B ^ m:=by rw [Nat.mul_comm G']
     rw [e6,e7];omega
    ·rw [Int.toNat_natCast,Nat.zero_add,c_V hgB,c_T]
    ·rw [Y_ (by omega)]
  ·rw [b_o] at hk0
   have hkz : k = 0:=by omega
   subst hkz;rw [Nat.pow_zero,Nat.mul_one,List.drop_zero] at hinv;rw [Nat.pow_zero,Nat.mul_one] at hUlt;have hct : List.take (limL c).length c = c:=by rw [y_];exact List.take_of_length_le (Nat.le_refl _)
   rw [List.drop_zero,a_d,hct];have d1 : Lb.val a / Lb.val b = Lb.val c:=by
    rw [← Nat.mul_div_mul_right _ _ hpp,hU0,hV,← hinv,Nat.mul_comm,Nat.mul_add_div hVp,Nat.div_eq_of_lt hUlt,Nat.add_zero]
   have d2 : U / 2 ^ n = Lb.val a % Lb.val b:=by
    have : U = U0 % V:=by rw [← hinv,Nat.mul_comm,Nat.mul_add_mod,Nat.mod_eq_of_lt hUlt]
    rw [this,← hU0,← hV,Nat.mul_mod_mul_right,Nat.mul_div_cancel _ hpp]
   have c7:=s_k (Lb.nat U) n (by omega) (by omega);rw [Lb.h_,d2] at c7;refine ⟨_,c_n c (by omega),_,c7,(by trivial),by rw [d1],rfl,(by trivial)⟩
theorem t_0 (a b : List UInt32) (ha : a.length ≤ 2 ^ 32) (hb : b.length ≤ 2 ^ 32) (hca : Lb.Canon a) (hcb : Lb.Canon b) :
  F 154 [.t 22 (lim a),.t 22 (lim b)] (zo 2 22) [lim (Lb.nat (Nat.gcd (Lb.val a) (Lb.val b)))]:=by
 refine r_h _ _ _ (fun i => ∃ x y : List UInt32,i.1 = lim x ∧ i.2 = lim y ∧ x.length ≤ 2 ^ 32 ∧ y.length ≤ 2 ^ 32 ∧ Lb.Canon x ∧ Lb.Canon y ∧ Nat.gcd (Lb.val x) (Lb.val y) = Nat.gcd (Lb.val a) (Lb.val b))
  (fun i => (lv i.2)) ⟨⟨(lim a,lim b),⟨a,b,rfl,rfl,ha,hb,hca,hcb,rfl⟩,rfl,rfl,rfl,(by trivial)⟩,fun _ => rfl,?_⟩
 rintro ⟨x',y'⟩ ⟨x,y,hx,hy,hxl,hyl,hcx,hcy,hg⟩;simp only at hx hy ⊢;subst hx;subst hy;rw [n_,g_];refine ⟨fun h => ?_,fun h => ?_⟩
 ·rw [d_] at h
  have hn : y ≠ []:=List.length_pos_iff.1 (by omega);have hp:=Lb.e_l hcy hn;have hml:=Nat.mod_lt (Lb.val x) hp;refine ⟨_,_,n_T x y hxl hyl hcy hn,(lim y,lim (Lb.nat (Lb.val x % Lb.val y))),⟨y,Lb.nat (Lb.val x % Lb.val y),rfl,rfl,hyl,?_,hcy,Lb.H_ _,?_⟩,?_,rfl,rfl,(by trivial),(by trivial)⟩
  ·exact Nat.le_trans (Lb.b_P _ y.length (Nat.lt_trans hml (Lb.a_t y))) hyl
  ·rw [Lb.h_,← hg,Nat.gcd_comm (Lb.val y),← Nat.gcd_rec,Nat.gcd_comm]
  ·simp only
   rw [k_Z,k_Z,Lb.h_];exact hml
 ·rw [l_] at h
  have : y = []:=List.length_eq_zero_iff.1 (by omega);subst this;refine ⟨(by trivial),?_,(by trivial)⟩;rw [← hg];have : Lb.val ([] : List UInt32) = 0:=rfl;rw [this,Nat.gcd_zero_right,Lb.k_1 hcx]
theorem f_t (a : List UInt32) (ha : a.length ≤ 2 ^ 60) : F 131 [.t 22 (lim a)] (zo 1 22) [lim (Lb.nat (Lb.val a))]:=by
 refine q_1 _ _ (fun i => ∃ b : List UInt32,i = limL b ∧ Lb.val b = Lb.val a ∧ b.length ≤ 2 ^ 60) (fun i => i.length) ⟨⟨limL a,⟨a,rfl,rfl,ha⟩,rfl,rfl,(by trivial)⟩,fun _ => rfl,?_⟩;rintro i ⟨b,rfl,hv,hb⟩;rw [g_]
 by_cases h0 : 0 < b.length
 ·have hlt : ltI 0 (b.length : Int) = true:=d_.2 (by omega)
  have hsub : subI .i64 (b.length : Int) 1 = ((b.length - 1 : Nat) : Int):=by rw [Y_ (by omega)];omega
  have hg : ((limL b).getD (Int.toNat ((b.length - 1 : Nat) : Int)) .u) = lm (b.getD (b.length - 1) 0):=by
   rw [Int.toNat_natCast];exact V_ b (by omega)
  rw [hsub,hg,b_R,a_3,hlt,Bool.true_and];refine ⟨fun _ => by omega,fun h => ?_,fun h => ?_⟩
  ·rw [M_] at h
   have hz : Lb.dg b (b.length - 1) = 0:=by unfold Lb.dg;omega
   refine ⟨by omega,limL (b.take (b.length - 1)),⟨b.take (b.length - 1),rfl,?_,by simp;omega⟩,?_,?_,rfl,(by trivial)⟩
   ·rw [← hv];exact j_p (by omega) hz
   ·simp only [y_,List.length_take];omega
   ·rw [Int.sub_zero,Int.toNat_natCast,List.drop_zero,a_d]
  ·rw [a_D] at h
   refine ⟨(by trivial),?_,(by trivial)⟩;have hc : Lb.Canon b:=.inr (by unfold Lb.dg;omega);rw [← hv,Lb.k_1 hc];rfl
 ·have hb0 : b = []:=by
   cases b with
   | nil => rfl
   | cons => simp at h0
  subst hb0;have hlt : ltI 0 (([] : List UInt32).length : Int) = false:=l_.2 (by simp);rw [a_3,hlt,Bool.false_and];refine ⟨fun h => (by cases h.1),fun h => (by cases h),fun _ => ⟨(by trivial),?_,(by trivial)⟩⟩;rw [← hv];rfl
theorem n_J (a : List UInt32) : F 130 [.t 22 (lim a)] (zo 1 4) [.b (decide (a = [1]))]:=by
 refine q_0 _ _ ⟨fun h => ?_,(by trivial),?_,(by trivial)⟩
 ·rw [n_,g_,M_] at h
  rw [n_,g_];omega
 ·rw [n_,g_]
  match a with
  | [] => rfl
  | [x] =>
   have : eqI (([x] : List UInt32).length : Int) 1 = true:=rfl;rw [this]
   show T.b (eqI (x.toNat : Int) 1) = _
   congr 1
   by_cases h : x = 1
   ·subst h;rfl
   ·rw [a_D.2 fun q => h (UInt32.toNat_inj.1 (show x.toNat = 1 by omega))]
    simp [h]
  | x :: y :: r =>
   have : eqI ((x :: y :: r : List UInt32).length : Int) 1 = false:=a_D.2 (by simp only [List.length_cons];omega);rw [this];simp [T.ite]
theorem f_d (a : List UInt32) (i : Nat) : F 159 [.t 22 (lim a),.t 2 (.i .i64 (i : Int))] (zo 2 12) [.i .u64 (Lb.dg a i : Int)]:=by
 refine r_l _ _ _ ⟨fun h => ?_,fun h => ?_⟩
 ·rw [n_,g_,a_R,k_] at h
  refine ⟨(by trivial),?_,(by trivial)⟩;rw [Lb.c_g (by omega)];rfl
 ·rw [n_,g_,b_o,k_] at h
  have hi : i < a.length:=by omega
  have hx:=(a.getD i 0).toNat_lt;rw [k_,n_,g_];refine ⟨⟨by omega,h⟩,(by trivial),?_,(by trivial)⟩;rw [Int.toNat_natCast,V_ a hi,b_R,a_2 (by omega)];rfl
def sgn (x : Int) : Int:=if x < 0 then -1 else if 0 < x then 1 else 0
theorem n_9 (x : Int) : F 160 [.t 2 (.i .i64 x)] (zo 1 2) [.i .i64 (sgn x)]:=by
 refine r_m _ _ ⟨fun h => ?_,fun h => ⟨fun h2 => ?_,fun h2 => ?_⟩⟩
 ·rw [k_,d_] at h
  exact ⟨(by trivial),by unfold sgn;rw [if_pos h],(by trivial)⟩
 ·rw [k_,l_] at h
  rw [k_,d_] at h2;exact ⟨(by trivial),by unfold sgn;rw [if_neg (by omega),if_pos h2],(by trivial)⟩
 ·rw [k_,l_] at h h2
  exact ⟨(by trivial),by unfold sgn;rw [if_neg (by omega),if_neg (by omega)],(by trivial)⟩
theorem k_l (a b : List UInt32) (ha : a.length ≤ 2 ^ 40) (hb : b.length ≤ 2 ^ 40) : F 122 [.t 22 (lim a),.t 22 (lim b)] (zo 2 22) [lim (Lb.nat (Lb.val a + Lb.val b))]:=by
 have hB : Lb.B = 4294967296:=rfl;refine q_V _ _ _ (fun i => ∃ (c : List UInt32) (s : Nat),i.2.1 = (s : Int) ∧ i.2.2 = limL c ∧ s ≤ 1 ∧ c.length = i.1 ∧ i.1 ≤ max a.length b.length + 1 ∧ Lb.val c + s * Lb.B ^ i.1 = Lb.pv (Lb.dg a) i.1 + Lb.pv (Lb.dg b) i.1 ∧ (max a.length b.length < i.1 → s = 0))
  (fun i => max a.length b.length + 1 - i.1) ?_
 rw [n_,n_,g_,g_,h_Y];have e0 : addI .i64 ((max a.length b.length : Nat) : Int) 1 = ((max a.length b.length + 1 : Nat) : Int):=by rw [c_ (by omega)];omega
 rw [e0];refine ⟨⟨by omega,by omega,by omega,by omega⟩,⟨(0,0,[]),⟨[],0,rfl,rfl,by omega,rfl,by omega,rfl,fun _ => rfl⟩,(by trivial),(by trivial),(by trivial),(by trivial),(by trivial),(by trivial),(by trivial)⟩,fun _ => rfl,?_⟩;rintro ⟨k,s',xs⟩ ⟨c,s,hs,hxs,hs1,hc,hk,hv,hlast⟩;simp only at hs hxs hc hk hv hlast ⊢;subst hs;subst hxs;rw [y_ c,a_d,List.take_of_length_le (l:=c) (Nat.le_refl _),List.drop_zero,a_d,List.take_of_length_le (l:=c) (Nat.le_refl _)];refine ⟨fun h => ?_,fun h => ?_⟩
 ·rw [a_R] at h
  refine ⟨_,f_d a k,_,f_d b k,?_⟩;simp only [k_];have hxa:=Lb.a_Q a k;have hxb:=Lb.a_Q b k;have hsum : addI .u64 (addI .u64 (Lb.dg a k : Int) (Lb.dg b k : Int)) (s : Int) = ((s + (Lb.dg a k + Lb.dg b k) : Nat) : Int):=by
   rw [hB] at hxa hxb;rw [d_M (x:=(Lb.dg a k : Int)) (by omega),d_M (by omega)];omega
  rw [hsum]
  generalize hq : s + (Lb.dg a k + Lb.dg b k) = q at *
  have hq1 : q / Lb.B ≤ 1:=by rw [hB] at hxa hxb ⊢;omega
  rw [c_U,n_C,b_a,shr32];simp only [y_];refine ⟨⟨by simp only [List.length_singleton];(try unfold Rm);unfold room;omega,by simp only [List.length_singleton];omega⟩,by decide,(k + 1,((q / Lb.B : Nat) : Int),limL (c ++ [UInt32.ofNat (q % Lb.B)])),⟨c ++ [UInt32.ofNat (q % Lb.B)],q / Lb.B,rfl,rfl,hq1,by simp;omega,by simp only;omega,?_,?_⟩,by simp only;omega,(by trivial),(by trivial),(by trivial),(by trivial),?_,?_,(by trivial)⟩
  ·simp only
   rw [Lb.c_3,hc,Lb.pv,Lb.pv,Lb.ofNat_toNat (Nat.mod_lt _ Lb.a_l),Nat.pow_succ];have e1 : q / Lb.B * (Lb.B ^ k * Lb.B) = (q / Lb.B * Lb.B) * Lb.B ^ k:=by
    rw [Nat.mul_comm (Lb.B ^ k),Nat.mul_assoc]
   have e2 : (q % Lb.B + q / Lb.B * Lb.B) * Lb.B ^ k = q * Lb.B ^ k:=by
    rw [Nat.mul_comm (q / Lb.B),Nat.mod_add_div]
   rw [e1,Nat.mul_comm (Lb.B ^ k) (q % Lb.B),Nat.add_assoc,← Nat.add_mul,e2,← hq,Nat.add_mul,Nat.add_mul];omega
  ·simp only
   intro hlt;have hz : Lb.dg a k = 0:=Lb.c_g (by omega);have hz2 : Lb.dg b k = 0:=Lb.c_g (by omega);have : q ≤ 1:=by omega
   exact Nat.div_eq_of_lt (by omega)
  ·congr 1
  ·rw [c_ (by omega)];congr 1
 ·rw [b_o] at h
  have hs0 : s = 0:=hlast (by omega);refine ⟨_,f_t c (by omega),(by trivial),?_,(by trivial)⟩
  congr 2
  rw [hs0] at hv;rw [Lb.a_H a k (by omega),Lb.a_H b k (by omega)];omega
theorem h_Z (a b : List UInt32) (ha : a.length ≤ 2 ^ 40) (hle : Lb.val b ≤ Lb.val a) : F 124 [.t 22 (lim a),.t 22 (lim b)] (zo 2 22) [lim (Lb.nat (Lb.val a - Lb.val b))]:=by
 have hB : Lb.B = 4294967296:=rfl;refine q_X _ _ _ (fun i => ∃ (c : List UInt32) (s : Nat),i.2.1 = (s : Int) ∧ i.2.2 = limL c ∧ s ≤ 1 ∧ c.length = i.1 ∧ i.1 ≤ a.length ∧ Lb.pv (Lb.dg c) i.1 + Lb.pv (Lb.dg b) i.1 = Lb.pv (Lb.dg a) i.1 + s * Lb.B ^ i.1)
  (fun i => a.length - i.1) ?_
 rw [n_,g_];refine ⟨⟨by omega,by omega,by omega,by omega⟩,⟨(0,0,[]),⟨[],0,rfl,rfl,by omega,rfl,by omega,rfl⟩,(by trivial),(by trivial),(by trivial),(by trivial),(by trivial),(by trivial),(by trivial)⟩,fun _ => rfl,?_⟩;rintro ⟨k,s',xs⟩ ⟨c,s,hs,hxs,hs1,hc,hk,hv⟩;simp only at hs hxs hc hk hv ⊢;subst hs;subst hxs;rw [y_ c,a_d,List.take_of_length_le (l:=c) (Nat.le_refl _),List.drop_zero,a_d,List.take_of_length_le (l:=c) (Nat.le_refl _)];refine ⟨fun h => ?_,fun h => ?_⟩
 ·rw [d_] at h
  have hlt : k < a.length:=by omega
  refine ⟨_,f_d a k,_,f_d b k,?_⟩;simp only [k_];have hxa:=Lb.a_Q a k;have hxb:=Lb.a_Q b k;have hsum : subI .u64 (subI .u64 (addI .u64 (Lb.dg a k : Int) 4294967296) (Lb.dg b k : Int)) (s : Int) = ((Lb.dg a k + Lb.B - Lb.dg b k - s : Nat) : Int):=by
   rw [hB] at hxa hxb ⊢;rw [d_M (by omega),j_m (x:=(Lb.dg a k : Int) + 4294967296) (by omega),j_m (by omega)];omega
  rw [hsum];have hqe : Lb.dg a k + Lb.B - Lb.dg b k - s + Lb.dg b k + s = Lb.dg a k + Lb.B:=by rw [hB] at hxa hxb ⊢;omega
  generalize Lb.dg a k + Lb.B - Lb.dg b k - s = q at *
  have hq1 : q / Lb.B ≤ 1:=by rw [hB] at hxa hxb hqe ⊢;omega
  rw [c_U,n_C,b_a,shr32];simp only [y_];have hbr : subI .u64 1 ((q : Int) / 4294967296) = ((1 - q / Lb.B : Nat) : Int):=by
   rw [hB] at hq1 ⊢;rw [j_m (by omega)];omega
  rw [hbr];have hd : Lb.dg (c ++ [UInt32.ofNat (q % Lb.B)]) k = q % Lb.B:=by
   unfold Lb.dg;rw [List.getD_eq_getElem?_getD,List.getElem?_append_right (by omega),hc,Nat.sub_self];exact Lb.ofNat_toNat (Nat.mod_lt _ Lb.a_l)
  refine ⟨⟨by simp only [List.length_singleton];(try unfold Rm);unfold room;omega,by simp only [List.length_singleton];omega⟩,by decide,(k + 1,((1 - q / Lb.B : Nat) : Int),limL (c ++ [UInt32.ofNat (q % Lb.B)])),⟨c ++ [UInt32.ofNat (q % Lb.B)],1 - q / Lb.B,rfl,rfl,Nat.sub_le _ _,by simp;omega,by simp only;omega,?_⟩,by simp only;omega,(by trivial),(by trivial),(by trivial),(by trivial),(by trivial),?_,(by trivial)⟩
  ·simp only
   rw [Lb.pv,Lb.pv,Lb.pv,hd,Lb.f_Q (g:=Lb.dg c) k (fun i hi => l_K c _ (by omega))];have e1 : q % Lb.B + Lb.dg b k + s = Lb.dg a k + (1 - q / Lb.B) * Lb.B:=by
    have h1:=Nat.mod_add_div q Lb.B;have h2 : Lb.B * (q / Lb.B) + (1 - q / Lb.B) * Lb.B = Lb.B:=by
     rw [Nat.mul_comm (1 - q / Lb.B),← Nat.mul_add,show q / Lb.B + (1 - q / Lb.B) = 1 by omega,Nat.mul_one]
    omega
   have e2 : (q % Lb.B + Lb.dg b k + s) * Lb.B ^ k = (Lb.dg a k + (1 - q / Lb.B) * Lb.B) * Lb.B ^ k:=by rw [e1]
   have e3 : (1 - q / Lb.B) * Lb.B ^ (k + 1) = (1 - q / Lb.B) * Lb.B * Lb.B ^ k:=by rw [Nat.pow_succ,Nat.mul_comm (Lb.B ^ k),Nat.mul_assoc]
   rw [e3]
   generalize (1 - q / Lb.B) * Lb.B = t at *
   generalize q % Lb.B = z at *
   simp only [Nat.add_mul] at e2;omega
  ·rw [c_ (by omega)];congr 1
 ·rw [l_] at h
  have hkk : k = a.length:=by omega
  refine ⟨_,f_t c (by omega),(by trivial),?_,(by trivial)⟩;have hva:=Lb.a_H a k (by omega);have hvb : Lb.pv (Lb.dg b) k = Lb.val b:=Lb.l_e (by rw [hkk];have:=Lb.a_t a;omega);have hvc:=Lb.a_H c k (by omega);have hcl:=Lb.a_t c;rw [hc] at hcl;have hs0 : s = 0:=by
   by_cases hs0 : s = 0
   ·exact hs0
   ·have : s = 1:=by omega
    subst this;omega
  subst hs0
  congr 2
  omega
theorem g_7 (a b : List UInt32) (ha : a.length ≤ 2 ^ 60) (hb : b.length ≤ 2 ^ 60) (hca : Lb.Canon a) (hcb : Lb.Canon b) : F 123 [.t 22 (lim a),.t 22 (lim b)] (zo 2 2) [.i .i64 (cmpI (Lb.val a) (Lb.val b))]:=by
 have longer : ∀ {a b : List UInt32},Lb.Canon b → a.length < b.length → Lb.val a < Lb.val b:=by
  intro a b hc hl;have h1:=hc.lower (fun q => by subst q;simp at hl);have h2:=Lb.a_t a;have h3 : Lb.B ^ a.length ≤ Lb.B ^ (b.length - 1):=Nat.pow_le_pow_right Lb.a_l (by omega);omega
 refine q_W _ _ _ (fun k => k ≤ a.length ∧ ∀ i,k ≤ i → Lb.dg a i = Lb.dg b i) (fun k => k) ?_;rw [n_,n_,g_,g_];refine ⟨fun h => ?_,fun h => ?_⟩
 ·rw [b_h] at h
  refine ⟨_,n_9 _,(by trivial),?_,(by trivial)⟩;rw [Y_ (by omega)];unfold sgn cmpI
  rcases Nat.lt_trichotomy a.length b.length with q | q | q
  ·rw [if_pos (by omega),if_pos (longer hcb q)]
  ·omega
  ·have:=longer hca q
   rw [if_neg (by omega),if_pos (by omega),if_neg (by omega),if_neg (by omega)]
 ·rw [c_i] at h
  have hl : a.length = b.length:=by omega
  refine ⟨⟨a.length,⟨Nat.le_refl _,fun i hi => by rw [Lb.c_g (by omega),Lb.c_g (by omega)]⟩,(by trivial),(by trivial),(by trivial),by rw [Y_ (by omega)],(by trivial)⟩,fun _ => rfl,?_⟩;rintro k ⟨hk,he⟩;refine ⟨fun h2 => ?_,fun h2 => ?_⟩
  ·rw [a_R] at h2
   obtain ⟨m,rfl⟩ : ∃ m,k = m + 1:=⟨k - 1,by omega⟩;have em : ((m + 1 : Nat) : Int) - 1 = (m : Int):=by omega
   rw [em,Int.toNat_natCast,V_ a (by omega),V_ b (by omega),b_R,b_R,show (a.getD m 0).toNat = Lb.dg a m from rfl,show (b.getD m 0).toNat = Lb.dg b m from rfl];have hxa:=Lb.a_Q a m;have hxb:=Lb.a_Q b m;unfold Lb.B at hxa hxb;refine ⟨⟨by omega,by omega⟩,⟨by omega,by omega⟩,fun hne => ?_,fun heq => ?_⟩
   ·rw [b_h] at hne
    refine ⟨⟨by omega,by omega⟩,⟨by omega,by omega⟩,_,n_9 _,(by trivial),?_,(by trivial)⟩;rw [e_1 (by omega),e_1 (by omega),Y_ (by omega)];have hva:=Lb.a_H a a.length (by omega);have hvb:=Lb.a_H b a.length (by omega);unfold sgn cmpI
    rcases Nat.lt_trichotomy (Lb.dg a m) (Lb.dg b m) with q | q | q
    ·have hlt : Lb.val a < Lb.val b:=by
      rw [hva,hvb];exact Lb.l_f (Lb.a_Q a) m _ (by omega) (fun i h1 _ => he i (by omega)) q
     rw [if_pos (by omega),if_pos hlt]
    ·exact absurd (by rw [q]) hne
    ·have hlt : Lb.val b < Lb.val a:=by
      rw [hva,hvb];exact Lb.l_f (Lb.a_Q b) m _ (by omega) (fun i h1 _ => (he i (by omega)).symm) q
     rw [if_neg (by omega),if_pos (by omega),if_neg (by omega),if_neg (by omega)]
   ·rw [c_i] at heq
    refine ⟨m,⟨by omega,fun i hi => ?_⟩,by omega,(by trivial),(by trivial),(by trivial),by rw [Y_ (by omega)],(by trivial)⟩
    by_cases him : i = m
    ·subst him;omega
    ·exact he i (by omega)
  ·rw [b_o] at h2
   refine ⟨(by trivial),?_,(by trivial)⟩;have hk0 : k = 0:=by omega
   subst hk0;have : Lb.val a = Lb.val b:=by
    rw [Lb.a_H a a.length (by omega),Lb.a_H b a.length (by omega)];exact Lb.f_Q _ fun i _ => he i (by omega)
   unfold cmpI;rw [this,if_neg (by omega),if_pos rfl]
end Go.Pq
namespace Go.Pl
theorem p_M (n : Nat) (h : n < 4294967296) : a_J .and .u32 (n : Int) 1 = ((n % 2 : Nat) : Int):=by
 show IntKind.u32.wrap ((BitVec.ofInt 32 (n : Int) &&& BitVec.ofInt 32 1).toNat : Int) = _
 rw [show (1 : Int) = ((1 : Nat) : Int) from rfl,BitVec.ofInt_natCast,BitVec.ofInt_natCast,BitVec.toNat_and,BitVec.toNat_ofNat,BitVec.toNat_ofNat,Nat.mod_eq_of_lt (b:=2 ^ 32) (by omega),Nat.mod_eq_of_lt (b:=2 ^ 32) (by omega),Nat.and_one_is_mod,o_m];omega
theorem u_K {a b : Nat} (ha : a < 4294967296) (hb : b < 4294967296) : a_J .or .u32 (a : Int) (b : Int) = ((a ||| b : Nat) : Int):=by
 show IntKind.u32.wrap ((BitVec.ofInt 32 (a : Int) ||| BitVec.ofInt 32 (b : Int)).toNat : Int) = _
 rw [BitVec.ofInt_natCast,BitVec.ofInt_natCast,BitVec.toNat_or,BitVec.toNat_ofNat,BitVec.toNat_ofNat,Nat.mod_eq_of_lt (b:=2 ^ 32) (by omega),Nat.mod_eq_of_lt (b:=2 ^ 32) (by omega),o_m];have : a ||| b < 2 ^ 32:=Nat.or_lt_two_pow (by omega) (by omega);omega
theorem u_o {n k : Nat} (hk : k ≤ 32) (h : n * 2 ^ k < 4294967296) : shlI .u32 (n : Int) (k : Int) = ((n * 2 ^ k : Nat) : Int):=by
 unfold shlI;rw [show IntKind.u32.bits = 32 from rfl,Int.toNat_natCast,Nat.min_eq_left hk,show ((n : Int) * 2 ^ k) = ((n * 2 ^ k : Nat) : Int) by simp,o_m];omega
end Go.Pl
namespace Lb
theorem p_O (a : List UInt32) (j : Nat) : dg a (j / 32) / 2 ^ (j % 32) % 2 = val a / 2 ^ j % 2:=by
 have hs : j % 32 < 32:=Nat.mod_lt _ (by decide);have hB : B = 2 ^ (j % 32) * 2 ^ (32 - j % 32):=by rw [← Nat.pow_add,Nat.add_sub_cancel' (by omega)];rfl
 have h2 : 2 ∣ 2 ^ (32 - j % 32):=Nat.dvd_trans (by simp) (Nat.pow_dvd_pow 2 (show 1 ≤ 32 - j % 32 by omega));have hp : B ^ (j / 32) * 2 ^ (j % 32) = 2 ^ j:=by rw [e_h,← Nat.pow_add];congr 1;omega
 rw [d_e]
 generalize hX : val a / B ^ (j / 32) = X
 rw [hB,Nat.mod_mul_right_div_self,Nat.mod_mod_of_dvd _ h2,← hX,Nat.div_div_eq_div_mul,hp]
theorem m_F {v k : Nat} (h : v < 2 ^ (k + 1)) : (v / 2 ^ k % 2 = 0 → v < 2 ^ k) ∧ (v / 2 ^ k % 2 ≠ 0 → 2 ^ k ≤ v):=by
 have hp : 0 < 2 ^ k:=Nat.pow_pos (by decide);have h1 : v / 2 ^ k < 2:=by rw [Nat.div_lt_iff_lt_mul hp,Nat.mul_comm,← Nat.pow_succ];exact h
 rw [Nat.mod_eq_of_lt h1];refine ⟨fun h2 => ?_,fun h2 => ?_⟩
 ·exact (Nat.div_eq_zero_iff_lt hp).1 h2
 ·have:=(Nat.le_div_iff_mul_le hp (x:=1) (y:=v)).1 (Nat.pos_of_ne_zero h2)
  omega
end Lb
namespace Go.Pq
open Go.Pl Go.Proofs
theorem e_G (a b : List UInt32) (ha : a.length ≤ 2 ^ 40) (hb : b.length ≤ 2 ^ 40) : F 91 [.t 22 (lim a),.t 22 (lim b)] (zo 2 22) [lim (Lb.nat (Lb.val a * Lb.val b))]:=by
 have hB : Lb.B = 4294967296:=rfl;have hadd : addI .i64 (lenOf (lim a).list) (lenOf (lim b).list) = ((a.length + b.length : Nat) : Int):=by
  rw [n_,n_,g_,g_,c_ (by omega)];omega
 refine t_U _ _ _
  (fun i => ∃ c : List UInt32,i.2 = limL c ∧ c.length = a.length + b.length ∧ i.1 ≤ a.length ∧ Lb.val c = Lb.pv (Lb.dg a) i.1 * Lb.val b)
  (fun i => a.length - i.1)
  (fun i j => ∃ (c : List UInt32) (s : Nat),i.1 < a.length ∧ j.2.2 = limL c ∧ j.2.1 = (s : Int) ∧ s < Lb.B ∧ c.length = a.length + b.length ∧ j.1 ≤ b.length ∧ Lb.dg c (i.1 + b.length) = 0 ∧
   Lb.val c + s * Lb.B ^ (i.1 + j.1) = Lb.pv (Lb.dg a) i.1 * Lb.val b + Lb.B ^ i.1 * (Lb.dg a i.1 * Lb.pv (Lb.dg b) j.1))
  (fun i j => b.length - j.1) ⟨?_,⟨(0,limL (List.replicate (a.length + b.length) 0)),⟨List.replicate (a.length + b.length) 0,rfl,by simp,by simp,?_⟩,(by trivial),(by trivial),(by trivial),?_,(by trivial),(by trivial)⟩,fun _ => rfl,?_⟩
 ·rw [hadd];omega
 ·simp only [Lb.pv,Nat.zero_mul]
  exact Lb.e_H _
 ·rw [hadd,Int.toNat_natCast,a_A]
 rintro ⟨k,xs⟩ ⟨c,hxs,hc,hk,hv⟩;simp only at hxs hk hv ⊢;subst hxs;rw [n_,n_,g_,g_];refine ⟨fun h => ?_,fun h => ?_⟩
 ·rw [d_] at h
  have hlt : k < a.length:=by omega
  have hz : Lb.dg c (k + b.length) = 0:=by
   rw [Lb.d_e,Nat.div_eq_of_lt,Nat.zero_mod];rw [hv,Nat.pow_add]
   rcases Nat.eq_zero_or_pos (Lb.val b) with q | q
   ·rw [q,Nat.mul_zero];exact Nat.mul_pos (Nat.pow_pos Lb.a_l) (Nat.pow_pos Lb.a_l)
   ·exact Nat.mul_lt_mul_of_lt_of_le (Lb.s_i _ (Lb.a_Q a) _) (Nat.le_of_lt (Lb.a_t b)) (Nat.pow_pos Lb.a_l)
  refine ⟨⟨(0,0,limL c),⟨c,0,hlt,rfl,rfl,Lb.a_l,hc,by simp,hz,by simp [Lb.pv,hv]⟩,(by trivial),(by trivial),(by trivial),(by trivial),(by trivial),(by trivial),(by trivial),(by trivial)⟩,fun _ => (by trivial),?_⟩;rintro ⟨m,s',ys⟩ ⟨c1,s,-,hys,hs,hsB,hc1,hm,hz1,hv1⟩;simp only at hys hs hm hv1 hz1 ⊢;subst hys;subst hs;refine ⟨fun h2 => ?_,fun h2 => ?_⟩
  ·rw [d_] at h2
   have hml : m < b.length:=by omega
   have hkm : k + m < a.length + b.length:=by omega
   have hidx : addI .i64 (k : Int) (m : Int) = ((k + m : Nat) : Int):=by rw [c_ (by omega)];omega
   rw [hidx];have hget : (limL c1).getD (0 + ((k + m : Nat) : Int).toNat) .u = lm (c1.getD (k + m) 0):=by
    rw [Int.toNat_natCast,Nat.zero_add];exact V_ c1 (by omega)
   rw [hget,b_R];simp only [Int.toNat_natCast];rw [V_ a (by omega),V_ b (by omega),b_R,b_R,show (a.getD k 0).toNat = Lb.dg a k from rfl,show (b.getD m 0).toNat = Lb.dg b m from rfl];refine ⟨⟨by omega,by omega⟩,⟨by omega,by omega⟩,⟨by omega,by rw [y_];omega⟩,by decide,⟨by omega,by rw [y_];omega⟩,?_⟩;have hxa:=Lb.a_Q a k;have hxb:=Lb.a_Q b m;have hxc:=Lb.a_Q c1 (k + m);have hgc : (c1.getD (k + m) 0).toNat = Lb.dg c1 (k + m):=rfl;rw [hgc];have hmul : Lb.dg a k * Lb.dg b m ≤ (Lb.B - 1) * (Lb.B - 1):=Nat.mul_le_mul (by omega) (by omega);have hmm : ((Lb.dg a k : Int) * (Lb.dg b m : Int)) = ((Lb.dg a k * Lb.dg b m : Nat) : Int):=by simp
   have hbb : (Lb.B - 1) * (Lb.B - 1) = 18446744065119617025:=by rw [hB]
   rw [hbb] at hmul;rw [a_2 (x:=(Lb.dg a k : Int)) (by rw [hB] at hxa;omega),a_2 (x:=(Lb.dg b m : Int)) (by rw [hB] at hxb;omega)]
   generalize hpr : Lb.dg a k * Lb.dg b m = pr at *
   rw [hB] at hxa hxb hxc hsB;have hsum : addI .u64 (addI .u64 (mulI .u64 (Lb.dg a k : Int) (Lb.dg b m : Int)) (p_ .u64 (Lb.dg c1 (k + m) : Int))) (s : Int) = ((s + (Lb.dg c1 (k + m) + pr) : Nat) : Int):=by
    rw [p_0 (by rw [hmm];omega),hmm,a_2 (by omega),d_M (x:=(pr : Int)) (by omega),d_M (by omega)];omega
   rw [hsum,shr32,c_U]
   generalize hq : s + (Lb.dg c1 (k + m) + pr) = q at *
   refine ⟨(m + 1,((q / Lb.B : Nat) : Int),limL (c1.set (k + m) (UInt32.ofNat (q % Lb.B)))),⟨c1.set (k + m) (UInt32.ofNat (q % Lb.B)),q / Lb.B,hlt,rfl,rfl,?_,by simp [hc1],?_,?_,?_⟩,?_,(by trivial),(by trivial),(by trivial),?_,(by trivial),?_,?_,(by trivial)⟩
   ·rw [hB];omega
   ·simp only;omega
   ·rw [Lb.i_C c1 (k + m) _ (by omega),if_neg (by omega)];exact hz1
   ·simp only
    have hvs:=Lb.i_h c1 (k + m) (UInt32.ofNat (q % Lb.B)) (by omega);rw [Lb.ofNat_toNat (Nat.mod_lt _ Lb.a_l)] at hvs;have e1 : q / Lb.B * Lb.B ^ (k + (m + 1)) = (q / Lb.B * Lb.B) * Lb.B ^ (k + m):=by
     rw [← Nat.add_assoc,Nat.pow_succ,Nat.mul_comm (Lb.B ^ (k + m)),Nat.mul_assoc]
    have e2 : q % Lb.B * Lb.B ^ (k + m) + q / Lb.B * Lb.B * Lb.B ^ (k + m) = s * Lb.B ^ (k + m) + Lb.dg c1 (k + m) * Lb.B ^ (k + m) + pr * Lb.B ^ (k + m):=by
     rw [← Nat.add_mul,Nat.mul_comm (q / Lb.B),Nat.mod_add_div,← hq,Nat.add_mul,Nat.add_mul,Nat.add_assoc]
    have e3 : Lb.B ^ k * (Lb.dg a k * Lb.pv (Lb.dg b) (m + 1)) = Lb.B ^ k * (Lb.dg a k * Lb.pv (Lb.dg b) m) + pr * Lb.B ^ (k + m):=by
     rw [Lb.pv,Nat.mul_add,Nat.mul_add,← hpr,Nat.pow_add]
     congr 1
     simp only [Nat.mul_left_comm,Nat.mul_comm,Nat.mul_assoc]
    rw [e1,e3];omega
   ·simp only;omega
   ·rw [Nat.zero_add,c_T]
   ·rw [show ((q / Lb.B : Nat) : Int) = (q : Int) / 4294967296 by rw [hB];omega]
   ·rw [c_ (by omega)];congr 1
  ·rw [l_] at h2
   have hmb : m = b.length:=by omega
   subst hmb;have hidx : addI .i64 (k : Int) (b.length : Int) = ((k + b.length : Nat) : Int):=by rw [c_ (by omega)];omega
   rw [hidx,c_V hsB,Int.toNat_natCast,Nat.zero_add,c_T];refine ⟨⟨by omega,by rw [y_];omega⟩,(k + 1,limL (c1.set (k + b.length) (UInt32.ofNat s))),⟨c1.set (k + b.length) (UInt32.ofNat s),rfl,by simp [hc1],by simp only;omega,?_⟩,by simp only;omega,(by trivial),(by trivial),(by trivial),(by trivial),?_,(by trivial)⟩
   ·simp only
    have hvs:=Lb.i_h c1 (k + b.length) (UInt32.ofNat s) (by omega);rw [Lb.ofNat_toNat hsB,hz1,Nat.zero_mul,Nat.add_zero] at hvs;rw [hvs,hv1,Lb.pv,Nat.add_mul,← Lb.a_H b b.length (Nat.le_refl _)]
    congr 1
    simp only [Nat.mul_left_comm,Nat.mul_comm,Nat.mul_assoc]
   ·rw [c_ (by omega)];congr 1
 ·rw [l_] at h
  have hkk : k = a.length:=by omega
  have hct : List.take (limL c).length c = c:=by rw [y_];exact List.take_of_length_le (Nat.le_refl _)
  rw [List.drop_zero,a_d,hct];refine ⟨_,f_t c (by omega),(by trivial),?_,(by trivial)⟩;rw [hv,← Lb.a_H a k (by omega)]
theorem i_Q (a : List UInt32) (ha : a.length ≤ 2 ^ 40) : F 161 [.t 22 (lim a)] (zo 1 2) [.i .i64 (Lb.bl (Lb.val a) : Int)]:=by
 refine r_n _ _ (fun k => k ≤ 32 * a.length ∧ Lb.val a < 2 ^ k) (fun k => k) ⟨⟨32 * a.length,⟨Nat.le_refl _,by rw [← Lb.e_h];exact Lb.a_t a⟩,(by trivial),(by trivial),?_,(by trivial)⟩,fun _ => rfl,?_⟩
 ·rw [n_,g_,h_i (by omega)];congr 1
 rintro k ⟨hk,hv⟩;rw [n_,g_]
 cases k with
 | zero =>
  have h0 : ltI 0 ((0 : Nat) : Int) = false:=rfl;rw [a_3,h0,Bool.false_and];refine ⟨fun h => (by cases h.1),fun h => (by cases h.1),fun h => (by cases h.1),fun h => (by cases h.1),fun h => (by cases h),fun _ => ⟨(by trivial),?_,(by trivial)⟩⟩;rw [Lb.q_o hv (.inl rfl)]
 | succ k =>
  have h1 : ltI 0 ((k + 1 : Nat) : Int) = true:=d_.2 (by omega);have e1 : subI .i64 ((k + 1 : Nat) : Int) 1 = (k : Int):=by rw [Y_ (by omega)];omega
  have e2 : quoI .i64 (k : Int) 32 = ((k / 32 : Nat) : Int):=i_6 (b:=32) (by omega);have e3 : p_ .u64 (remI (k : Int) 32) = ((k % 32 : Nat) : Int):=by
   rw [show remI (k : Int) 32 = ((k % 32 : Nat) : Int) from h_m (b:=32),a_2 (by omega)]
  have hd:=Lb.a_Q a (k / 32);have hs : k % 32 < 32:=Nat.mod_lt _ (by decide);have e4 : a_J .and .u32 (shrI .u32 (((limL a).getD ((k / 32 : Nat) : Int).toNat .u).cell 0).int ((k % 32 : Nat) : Int)) 1 = ((Lb.val a / 2 ^ k % 2 : Nat) : Int):=by
   rw [Int.toNat_natCast,V_ a (by omega),b_R,j_f (by omega),show (a.getD (k / 32) 0).toNat = Lb.dg a (k / 32) from rfl,p_M _ (Nat.lt_of_le_of_lt (Nat.div_le_self _ _) hd),Lb.p_O]
  rw [a_3,h1,Bool.true_and,e1,e2,e3,e4];have hb:=Lb.m_F hv;refine ⟨fun _ => by decide,fun _ => ⟨by omega,by omega⟩,fun _ => by decide,fun _ => by omega,fun h => ?_,fun h => ?_⟩
  ·rw [M_] at h
   exact ⟨k,⟨by omega,hb.1 (by omega)⟩,by omega,(by trivial),(by trivial),(by trivial),(by trivial)⟩
  ·rw [a_D] at h
   refine ⟨(by trivial),?_,(by trivial)⟩;rw [Lb.q_o hv (.inr (hb.2 (by omega)))]
theorem o_w (a : List UInt32) (n : Nat) (ha : a.length ≤ 2 ^ 40) (hn : n ≤ 2 ^ 45) : F 162 [.t 22 (lim a),.t 2 (.i .i64 (n : Int))] (zo 2 22) [lim (Lb.nat (Lb.val a / 2 ^ n))]:=by
 have hB : Lb.B = 4294967296:=rfl;have hq : quoI .i64 (n : Int) 32 = ((n / 32 : Nat) : Int):=i_6 (b:=32) (by omega);have hm : p_ .u64 (remI (n : Int) 32) = ((n % 32 : Nat) : Int):=by
  rw [show remI (n : Int) 32 = ((n % 32 : Nat) : Int) from h_m (b:=32),a_2 (by omega)]
 have hsh : n % 32 < 32:=Nat.mod_lt _ (by decide);have hpow : 2 ^ n = Lb.B ^ (n / 32) * 2 ^ (n % 32):=by
  rw [Lb.e_h,← Nat.pow_add];congr 1;omega
 refine r_o _ _ _ (fun i => ∃ (c : List UInt32),i.2 = limL c ∧ i.1 = n / 32 + c.length ∧ c.length ≤ a.length ∧ Lb.val c = Lb.val a / 2 ^ n % Lb.B ^ c.length)
  (fun i => a.length - i.1) ?_
 simp only [k_];rw [n_,g_,hq,hm];refine ⟨by decide,⟨(n / 32,limL []),⟨[],(by trivial),(by trivial),by simp,by simp [Lb.val,Nat.mod_one]⟩,(by trivial),(by trivial),(by trivial),(by trivial),(by trivial),(by trivial)⟩,fun _ => (by trivial),?_⟩;rintro ⟨k,xs⟩ ⟨c,hxs,hk,hca,hv⟩;simp only at hxs hk ⊢;subst hxs;rw [y_ c,List.drop_zero,a_d,List.take_of_length_le (l:=c) (Nat.le_refl _)];refine ⟨fun h => ?_,fun h => ?_⟩
 ·rw [d_] at h
  have hlt : k < a.length:=by omega
  rw [show addI .i64 (k : Int) 1 = ((k + 1 : Nat) : Int) by rw [c_ (by omega)];omega];refine ⟨_,f_d a (k + 1),by decide,_,f_d a k,by decide,by omega,?_⟩;simp only [k_];have hx:=Lb.a_Q a k;have hy:=Lb.a_Q a (k + 1);have e1 : a_J .or .u64 (shlI .u64 (Lb.dg a (k + 1) : Int) 32) (Lb.dg a k : Int) = ((Lb.dg a (k + 1) * Lb.B + Lb.dg a k : Nat) : Int):=by
   rw [show (32 : Int) = ((32 : Nat) : Int) from rfl,j_e (by decide) (by rw [hB] at hy;omega),n_P (by exact hx) (by rw [hB] at hx hy;omega)];rfl
  rw [e1,q_b (by omega)]
  generalize hw : Lb.dg a (k + 1) * Lb.B + Lb.dg a k = w at *
  have hset : (List.replicate 1 (T.i .u32 0)).set 0 (T.i .u32 (p_ .u32 ((w / 2 ^ (n % 32) : Nat) : Int))) = limL [UInt32.ofNat (w / 2 ^ (n % 32) % Lb.B)]:=by
   rw [c_U];rfl
  rw [hset,b_a];simp only [y_];refine ⟨⟨by simp only [List.length_singleton];(try unfold Rm);unfold room;omega,by simp only [List.length_singleton];omega⟩,
   (k + 1,limL (c ++ [UInt32.ofNat (w / 2 ^ (n % 32) % Lb.B)])),⟨c ++ [UInt32.ofNat (w / 2 ^ (n % 32) % Lb.B)],(by trivial),by simp;omega,by simp;omega,?_⟩,by simp only;omega,(by trivial),(by trivial),(by trivial),(by trivial),(by trivial),(by trivial)⟩
  ·rw [Lb.c_3,Lb.ofNat_toNat (Nat.mod_lt _ Lb.a_l),hv,List.length_append,List.length_singleton,Nat.pow_succ,Nat.mod_mul]
   congr 2
   have e2 : w = Lb.val a / Lb.B ^ k % (Lb.B * Lb.B):=by
    rw [Nat.mod_mul,← Lb.d_e,Nat.div_div_eq_div_mul,← Nat.pow_succ,← Lb.d_e,← hw,Nat.mul_comm Lb.B,Nat.add_comm]
   have e3 : Lb.B * Lb.B = 2 ^ (n % 32) * (Lb.B * 2 ^ (32 - n % 32)):=by
    rw [Nat.mul_left_comm,← Nat.pow_add,Nat.add_sub_cancel' (by omega)];rfl
   rw [e2,e3,Nat.mod_mul_right_div_self,Nat.mod_mul_right_mod,Nat.div_div_eq_div_mul,Nat.div_div_eq_div_mul,hk,hpow,Nat.pow_add]
   congr 2
   simp only [Nat.mul_left_comm,Nat.mul_comm,Nat.mul_assoc]
 ·rw [l_] at h
  refine ⟨_,f_t c (by omega),(by trivial),?_,(by trivial)⟩
  congr 2
  rw [hv];apply Nat.mod_eq_of_lt;rw [hpow,← Nat.div_div_eq_div_mul];refine Nat.lt_of_le_of_lt (Nat.div_le_self _ _) ?_;rw [Nat.div_lt_iff_lt_mul (Nat.pow_pos Lb.a_l),← Nat.pow_add];exact Nat.lt_of_lt_of_le (Lb.a_t a) (Nat.pow_le_pow_right Lb.a_l (by omega))
end Go.Pq
namespace Lb
theorem q_w (v k : Nat) : v / 2 ^ k = 2 * (v / 2 ^ (k + 1)) + v / 2 ^ k % 2:=by
 rw [Nat.pow_succ,← Nat.div_div_eq_div_mul]
 have:=Nat.div_add_mod (v / 2 ^ k) 2
 omega
theorem p_A {X Y b t : Nat} (hb : 0 < b) (hY : Y = 2 * X + t) (ht : t < 2) (hbig : t = 0 ∨ True) :
  (2 * (X % b) + t < b → Y % b = 2 * (X % b) + t ∧ Y / b = 2 * (X / b)) ∧ (b ≤ 2 * (X % b) + t → Y % b = 2 * (X % b) + t - b ∧ Y / b = 2 * (X / b) + 1):=by
 have h1:=Nat.div_add_mod X b;have h2:=Nat.mod_lt X hb;have e : Y = b * (2 * (X / b)) + (2 * (X % b) + t):=by
  have : b * (2 * (X / b)) = 2 * (b * (X / b)):=by rw [Nat.mul_left_comm]
  omega
 refine ⟨fun h => ?_,fun h => ?_⟩
 ·rw [e,Nat.mul_add_mod,Nat.mod_eq_of_lt h,Nat.mul_add_div hb,Nat.div_eq_of_lt h];exact ⟨rfl,rfl⟩
 ·have e2 : Y = b * (2 * (X / b) + 1) + (2 * (X % b) + t - b):=by rw [Nat.mul_add,Nat.mul_one];omega
  have hlt : 2 * (X % b) + t - b < b:=by omega
  rw [e2,Nat.mul_add_mod,Nat.mod_eq_of_lt hlt,Nat.mul_add_div hb,Nat.div_eq_of_lt hlt];exact ⟨rfl,rfl⟩
theorem p_5 (q : List UInt32) (k Z : Nat) (h : val q = 2 ^ (k + 1) * Z) : dg q (k / 32) ||| 2 ^ (k % 32) = dg q (k / 32) + 2 ^ (k % 32):=by
 have hs : k % 32 < 32:=Nat.mod_lt _ (by decide);have hdv : 2 ^ (k % 32 + 1) ∣ dg q (k / 32):=by
  rw [d_e,h];have hp : 2 ^ (k + 1) = B ^ (k / 32) * 2 ^ (k % 32 + 1):=by rw [e_h,← Nat.pow_add];congr 1;omega
  rw [hp,Nat.mul_assoc,Nat.mul_div_cancel_left _ (Nat.pow_pos a_l)];have hB : B = 2 ^ (k % 32 + 1) * 2 ^ (31 - k % 32):=by rw [← Nat.pow_add,show k % 32 + 1 + (31 - k % 32) = 32 by omega];rfl
  rw [hB,Nat.mul_mod_mul_left];exact Nat.dvd_mul_right ..
 obtain ⟨z,hz⟩:=hdv;rw [hz];exact (Nat.two_pow_add_eq_or_of_lt (Nat.pow_lt_pow_right (by decide) (by omega)) z).symm
end Lb
namespace Go.Pq
open Go.Pl Go.Proofs
theorem o_4 : T.l ((List.replicate 1 (T.i .u32 0)).set 0 (T.i .u32 1)) = lim [1]:=rfl
theorem f_L {x y : Nat} : leI 0 (cmpI x y) = false ↔ x < y:=by
 rw [b_o];unfold cmpI
 constructor
 ·intro h;by_cases q : x < y
  ·exact q
  ·rw [if_neg q] at h;split at h <;> omega
 ·intro h;rw [if_pos h];decide
theorem h_I {x y : Nat} : leI 0 (cmpI x y) = true ↔ y ≤ x:=by
 rw [← Bool.not_eq_false,f_L];omega
theorem g_g (a b : List UInt32) (ha : a.length ≤ 2 ^ 32) (hb : b.length ≤ 2 ^ 32) (hcb : Lb.Canon b) (hn : b ≠ []) :
  F 129 [.t 22 (lim a),.t 22 (lim b)] Z3 [lim (Lb.nat (Lb.val a / Lb.val b)),lim (Lb.nat (Lb.val a % Lb.val b))]:=by
 have hB : Lb.B = 4294967296:=rfl;have hbp:=Lb.e_l hcb hn;have hla : Lb.bl (Lb.val a) ≤ 32 * a.length:=Lb.e_V (by rw [← Lb.e_h];exact Lb.a_t a);have hlb : Lb.bl (Lb.val b) ≤ 32 * b.length:=Lb.e_V (by rw [← Lb.e_h];exact Lb.a_t b);have hlb0:=Lb.i_p (show Lb.val b ≠ 0 by omega);have hmax : maxI (subI .i64 (Lb.bl (Lb.val a) : Int) (Lb.bl (Lb.val b) : Int)) (-1) = ((Lb.bl (Lb.val a) + 1 - Lb.bl (Lb.val b) : Nat) : Int) - 1:=by
  rw [Y_ (by omega)];unfold maxI;split <;> omega
 have hK : Lb.bl (Lb.val a) + 1 - Lb.bl (Lb.val b) ≤ 32 * a.length:=by omega
 have hstart : Lb.val a / 2 ^ (Lb.bl (Lb.val a) + 1 - Lb.bl (Lb.val b)) < Lb.val b:=by
  rw [Nat.div_lt_iff_lt_mul (Nat.pow_pos (by decide))];have h1:=Lb.q_p (Lb.val a);have h2:=Lb.o_B (show Lb.val b ≠ 0 by omega);have h3 : 2 ^ (Lb.bl (Lb.val b) - 1) * 2 ^ (Lb.bl (Lb.val a) + 1 - Lb.bl (Lb.val b)) ≤ Lb.val b * 2 ^ (Lb.bl (Lb.val a) + 1 - Lb.bl (Lb.val b)):=Nat.mul_le_mul_right _ h2;rw [← Nat.pow_add] at h3;have h4 : 2 ^ Lb.bl (Lb.val a) ≤ 2 ^ (Lb.bl (Lb.val b) - 1 + (Lb.bl (Lb.val a) + 1 - Lb.bl (Lb.val b))):=Nat.pow_le_pow_right (by decide) (by omega);omega
 refine q_Z _ _ _ _ (fun i => ∃ c : List UInt32,i.2.2.2 = limL c ∧ c.length = a.length ∧ i.1 ≤ 32 * a.length ∧ i.2.1 = lim (Lb.nat (Lb.val a / 2 ^ i.1 % Lb.val b)) ∧ Lb.val c = 2 ^ i.1 * (Lb.val a / 2 ^ i.1 / Lb.val b))
  (fun i => i.1) ?_
 rw [n_,g_];refine ⟨⟨by omega,by omega,by omega,by omega⟩,_,i_Q a (by omega),_,i_Q b (by omega),?_⟩;simp only [k_];rw [hmax,show addI .i64 (((Lb.bl (Lb.val a) + 1 - Lb.bl (Lb.val b) : Nat) : Int) - 1) 1 = ((Lb.bl (Lb.val a) + 1 - Lb.bl (Lb.val b) : Nat) : Int) by rw [c_ (by omega)];omega]
 generalize Lb.bl (Lb.val a) + 1 - Lb.bl (Lb.val b) = K at *
 refine ⟨_,o_w a K (by omega) (by omega),⟨(K,lim (Lb.nat (Lb.val a / 2 ^ K)),.i .i64 ((K : Int) - 1),limL (List.replicate a.length 0)),⟨List.replicate a.length 0,rfl,by simp,hK,?_,?_⟩,(by trivial),(by trivial),(by trivial),(by trivial),?_,(by trivial),(by trivial),(by trivial),(by trivial)⟩,fun _ => (by trivial),?_⟩
 ·simp only;rw [Nat.mod_eq_of_lt hstart]
 ·simp only;rw [Nat.div_eq_of_lt hstart,Lb.e_H,Nat.mul_zero]
 ·rw [Int.toNat_natCast,a_A]
 rintro ⟨k,r,tp,xs⟩ ⟨c,hxs,hc,hk,hr,hv⟩;simp only at hxs hk hr hv ⊢;subst hxs;subst hr;refine ⟨fun h => ?_,fun h => ?_⟩
 ·rw [a_R] at h
  obtain ⟨m,rfl⟩ : ∃ m,k = m + 1:=⟨k - 1,by omega⟩;have em : ((m + 1 : Nat) : Int) - 1 = (m : Int):=by omega
  have e2 : quoI .i64 (m : Int) 32 = ((m / 32 : Nat) : Int):=i_6 (b:=32) (by omega);have e3 : p_ .u64 (remI (m : Int) 32) = ((m % 32 : Nat) : Int):=by
   rw [show remI (m : Int) 32 = ((m % 32 : Nat) : Int) from h_m (b:=32),a_2 (by omega)]
  have hd:=Lb.a_Q a (m / 32);have hdc:=Lb.a_Q c (m / 32);have hs : m % 32 < 32:=Nat.mod_lt _ (by decide);have e4 : a_J .and .u32 (shrI .u32 (((limL a).getD ((m / 32 : Nat) : Int).toNat .u).cell 0).int ((m % 32 : Nat) : Int)) 1 = ((Lb.val a / 2 ^ m % 2 : Nat) : Int):=by
   rw [Int.toNat_natCast,V_ a (by omega),b_R,j_f (by omega),show (a.getD (m / 32) 0).toNat = Lb.dg a (m / 32) from rfl,p_M _ (Nat.lt_of_le_of_lt (Nat.div_le_self _ _) hd),Lb.p_O]
  have hp32 : 2 ^ (m % 32) < 4294967296:=by
   have : 2 ^ (m % 32) ≤ 2 ^ 31:=Nat.pow_le_pow_right (by decide) (by omega);omega
  have e5 : shlI .u32 1 ((m % 32 : Nat) : Int) = ((2 ^ (m % 32) : Nat) : Int):=by
   have:=u_o (n:=1) (k:=m % 32) (by omega) (by omega)
   rw [Nat.one_mul] at this;exact this
  have e6 : a_J .or .u32 (((limL c).getD (0 + ((m / 32 : Nat) : Int).toNat) .u).cell 0).int ((2 ^ (m % 32) : Nat) : Int) = ((Lb.dg c (m / 32) + 2 ^ (m % 32) : Nat) : Int):=by
   rw [Int.toNat_natCast,Nat.zero_add,V_ c (by omega),b_R,show (c.getD (m / 32) 0).toNat = Lb.dg c (m / 32) from rfl,u_K hdc hp32,Lb.p_5 c m _ hv]
  have hsum : Lb.dg c (m / 32) + 2 ^ (m % 32) < Lb.B:=by
   rw [← Lb.p_5 c m _ hv];exact Nat.or_lt_two_pow (n:=32) hdc hp32
  have e7 : T.i .u32 ((Lb.dg c (m / 32) + 2 ^ (m % 32) : Nat) : Int) = lm (UInt32.ofNat (Lb.dg c (m / 32) + 2 ^ (m % 32))):=n_E rfl hsum;have hset : Lb.val (c.set (m / 32) (UInt32.ofNat (Lb.dg c (m / 32) + 2 ^ (m % 32)))) = Lb.val c + 2 ^ m:=by
   have:=Lb.i_h c (m / 32) (UInt32.ofNat (Lb.dg c (m / 32) + 2 ^ (m % 32))) (by omega)
   rw [Lb.ofNat_toNat hsum,Nat.add_mul] at this;have hp : 2 ^ (m % 32) * Lb.B ^ (m / 32) = 2 ^ m:=by rw [Lb.e_h,← Nat.pow_add];congr 1;omega
   omega
  rw [em,e2,e3,e4,e5,e6,e7,o_4];simp only [Int.toNat_natCast,Nat.zero_add,c_T,y_];have hmod : Lb.val a / 2 ^ (m + 1) % Lb.val b < Lb.val b:=Nat.mod_lt _ hbp;have hbl:=Lb.a_t b;have hRl : ∀ {z : Nat},z < Lb.val b * 2 → (Lb.nat z).length ≤ b.length + 1:=fun {z} hz => Lb.b_P _ _ (by rw [Nat.pow_succ,hB] at *;omega)
  have hstep:=Lb.p_A (t:=Lb.val a / 2 ^ m % 2) hbp (Lb.q_w (Lb.val a) m) (Nat.mod_lt _ (by decide)) (.inr trivial);have ht2 : Lb.val a / 2 ^ m % 2 < 2:=Nat.mod_lt _ (by decide);have hX2 : Lb.val c = 2 ^ m * (2 * (Lb.val a / 2 ^ (m + 1) / Lb.val b)):=by rw [hv,Nat.pow_succ,Nat.mul_assoc]
  generalize hX : Lb.val a / 2 ^ (m + 1) % Lb.val b = X at *
  generalize Lb.val a / 2 ^ (m + 1) / Lb.val b = Q at *
  generalize ht : Lb.val a / 2 ^ m % 2 = t at *
  have c1:=k_l (Lb.nat X) (Lb.nat X) (by have:=hRl (z:=X) (by omega);omega) (by have:=hRl (z:=X) (by omega);omega);rw [Lb.h_,← Nat.two_mul] at c1;have tail : ∀ R,R = 2 * X + t →
    ∃ y,F 123 [.t 22 (lim (Lb.nat R)),.t 22 (lim b)] (zo 2 2) [y] ∧
     (leI 0 y.int = true → ∃ y,F 124 [.t 22 (lim (Lb.nat R)),.t 22 (lim b)] (zo 2 22) [y] ∧ y = lim (Lb.nat (Lb.val a / 2 ^ m % Lb.val b)) ∧ Lb.val c + 2 ^ m = 2 ^ m * (Lb.val a / 2 ^ m / Lb.val b)) ∧
     (leI 0 y.int = false → lim (Lb.nat R) = lim (Lb.nat (Lb.val a / 2 ^ m % Lb.val b)) ∧ Lb.val c = 2 ^ m * (Lb.val a / 2 ^ m / Lb.val b)):=by
   rintro R rfl;have hl:=hRl (z:=2 * X + t) (by omega);have c2:=g_7 (Lb.nat (2 * X + t)) b (by omega) (by omega) (Lb.H_ _) hcb;rw [Lb.h_] at c2;refine ⟨_,c2,fun h => ?_,fun h => ?_⟩
   ·rw [k_,h_I] at h
    have c3:=h_Z (Lb.nat (2 * X + t)) b (by omega) (by rw [Lb.h_];exact h);rw [Lb.h_] at c3;refine ⟨_,c3,?_,?_⟩
    ·rw [(hstep.2 h).1]
    ·rw [(hstep.2 h).2,hX2,Nat.mul_add,Nat.mul_one]
   ·rw [k_,f_L] at h
    rw [(hstep.1 h).1,(hstep.1 h).2];exact ⟨rfl,hX2⟩
  refine ⟨_,c1,by decide,⟨by omega,by omega⟩,by decide,by omega,fun h1 => ?_,fun h1 => ?_⟩
  ·rw [M_] at h1
   have ht1 : t = 1:=by omega
   have c4:=k_l (Lb.nat (2 * X)) [1] (by have:=hRl (z:=2 * X) (by omega);omega) (by simp);rw [Lb.h_,show Lb.val [1] = t by rw [ht1];rfl] at c4;obtain ⟨y,hy,hp,hq⟩:=tail _ rfl;refine ⟨_,c4,y,hy,fun h2 => ?_,fun h2 => ?_⟩
   ·obtain ⟨z,hz,rfl,hvz⟩:=hp h2
    exact ⟨_,hz,by decide,⟨by omega,by omega⟩,by decide,by omega,⟨by omega,by omega⟩,(m,lim (Lb.nat (Lb.val a / 2 ^ m % Lb.val b)),tp,limL _),⟨_,rfl,by simp [hc],by simp only;omega,rfl,by rw [hset];exact hvz⟩,by simp only;omega,(by trivial),(by trivial),(by trivial),(by trivial),rfl,(by trivial),(by trivial),by rw [Y_ (by omega)],(by trivial)⟩
   ·obtain ⟨hz,hvz⟩:=hq h2
    exact ⟨(m,lim (Lb.nat (Lb.val a / 2 ^ m % Lb.val b)),tp,limL c),⟨c,rfl,hc,by simp only;omega,rfl,hvz⟩,by simp only;omega,(by trivial),(by trivial),(by trivial),(by trivial),(by trivial),(by trivial),hz,by rw [Y_ (by omega)],(by trivial)⟩
  ·rw [a_D] at h1
   have ht0 : t = 0:=by omega
   obtain ⟨y,hy,hp,hq⟩:=tail (2 * X) (by omega);refine ⟨y,hy,fun h2 => ?_,fun h2 => ?_⟩
   ·obtain ⟨z,hz,rfl,hvz⟩:=hp h2
    exact ⟨_,hz,by decide,⟨by omega,by omega⟩,by decide,by omega,⟨by omega,by omega⟩,(m,lim (Lb.nat (Lb.val a / 2 ^ m % Lb.val b)),tp,limL _),⟨_,rfl,by simp [hc],by simp only;omega,rfl,by rw [hset];exact hvz⟩,by simp only;omega,(by trivial),(by trivial),(by trivial),(by trivial),rfl,(by trivial),(by trivial),by rw [Y_ (by omega)],(by trivial)⟩
   ·obtain ⟨hz,hvz⟩:=hq h2
    exact ⟨(m,lim (Lb.nat (Lb.val a / 2 ^ m % Lb.val b)),tp,limL c),⟨c,rfl,hc,by simp only;omega,rfl,hvz⟩,by simp only;omega,(by trivial),(by trivial),(by trivial),(by trivial),(by trivial),(by trivial),hz,by rw [Y_ (by omega)],(by trivial)⟩
 ·rw [b_o] at h
  have hk0 : k = 0:=by omega
  subst hk0;rw [Nat.pow_zero,Nat.one_mul,Nat.div_one] at hv;have hct : List.take (limL c).length c = c:=by rw [y_];exact List.take_of_length_le (Nat.le_refl _)
  rw [List.drop_zero,a_d,hct];refine ⟨_,f_t c (by omega),(by trivial),by rw [hv],by rw [Nat.pow_zero,Nat.div_one],(by trivial)⟩
theorem g_9 (a b : List UInt32) (ha : a.length ≤ 2 ^ 32) (hb : b.length ≤ 2 ^ 32) (hca : Lb.Canon a) (hcb : Lb.Canon b) :
  F 128 [.t 22 (lim a),.t 22 (lim b)] (zo 2 22) [lim (Lb.nat (Nat.gcd (Lb.val a) (Lb.val b)))]:=by
 refine q_Y _ _ _ (fun i => ∃ x y : List UInt32,i.1 = lim x ∧ i.2 = lim y ∧ x.length ≤ 2 ^ 32 ∧ y.length ≤ 2 ^ 32 ∧ Lb.Canon x ∧ Lb.Canon y ∧ Nat.gcd (Lb.val x) (Lb.val y) = Nat.gcd (Lb.val a) (Lb.val b))
  (fun i => (lv i.2)) ⟨⟨(lim a,lim b),⟨a,b,rfl,rfl,ha,hb,hca,hcb,rfl⟩,rfl,rfl,rfl,(by trivial)⟩,fun _ => rfl,?_⟩
 rintro ⟨x',y'⟩ ⟨x,y,hx,hy,hxl,hyl,hcx,hcy,hg⟩;simp only at hx hy ⊢;subst hx;subst hy;rw [n_,g_];refine ⟨fun h => ?_,fun h => ?_⟩
 ·rw [d_] at h
  have hn : y ≠ []:=List.length_pos_iff.1 (by omega);have hp:=Lb.e_l hcy hn;have hml:=Nat.mod_lt (Lb.val x) hp;refine ⟨_,_,g_g x y hxl hyl hcy hn,(lim y,lim (Lb.nat (Lb.val x % Lb.val y))),⟨y,Lb.nat (Lb.val x % Lb.val y),rfl,rfl,hyl,?_,hcy,Lb.H_ _,?_⟩,?_,rfl,rfl,(by trivial),(by trivial)⟩
  ·exact Nat.le_trans (Lb.b_P _ y.length (Nat.lt_trans hml (Lb.a_t y))) hyl
  ·rw [Lb.h_,← hg,Nat.gcd_comm (Lb.val y),← Nat.gcd_rec,Nat.gcd_comm]
  ·simp only
   rw [k_Z,k_Z,Lb.h_];exact hml
 ·rw [l_] at h
  have : y = []:=List.length_eq_zero_iff.1 (by omega);subst this;refine ⟨(by trivial),?_,(by trivial)⟩;rw [← hg];have : Lb.val ([] : List UInt32) = 0:=rfl;rw [this,Nat.gcd_zero_right,Lb.k_1 hcx]
theorem h_j (n : Nat) (h : n < 18446744073709551616) : F 93 [.t 12 (.i .u64 (n : Int))] (zo 1 22) [lim (Lb.nat n)]:=by
 have hB : Lb.B = 4294967296:=rfl;have hq : n / Lb.B < Lb.B:=by rw [hB];omega
 refine t_W _ _ ⟨by decide,_,?_,(by trivial),rfl,(by trivial)⟩;rw [k_,shr32,show (n : Int) / 4294967296 = ((n / Lb.B : Nat) : Int) by rw [hB];omega,c_U,c_V hq];have e : T.l (((List.replicate 2 (T.i .u32 0)).set 0 (lm (UInt32.ofNat (n % Lb.B)))).set 1 (lm (UInt32.ofNat (n / Lb.B)))) = lim [UInt32.ofNat (n % Lb.B),UInt32.ofNat (n / Lb.B)]:=rfl;rw [e];have c:=f_t [UInt32.ofNat (n % Lb.B),UInt32.ofNat (n / Lb.B)] (by simp);have hv : Lb.val [UInt32.ofNat (n % Lb.B),UInt32.ofNat (n / Lb.B)] = n:=by
  rw [Lb.val,Lb.i_g,Lb.ofNat_toNat (Nat.mod_lt _ Lb.a_l),Lb.ofNat_toNat hq,Nat.mod_add_div]
 rw [hv] at c;exact c
theorem f_Y (x : Int) (h : -9223372036854775808 ≤ x ∧ x ≤ 9223372036854775807) : F 94 [.t 2 (.i .i64 x)] (zo 1 12) [.i .u64 (x.natAbs : Int)]:=by
 refine t_X _ _ ⟨fun h1 => ?_,fun h1 => ?_⟩
 ·rw [k_,d_] at h1
  refine ⟨(by trivial),?_,(by trivial)⟩;rw [k_,c_ (by omega),Y_ (by omega),a_2 (by omega),d_M (by omega)]
  congr 1
  omega
 ·rw [k_,l_] at h1
  refine ⟨(by trivial),?_,(by trivial)⟩;rw [k_,a_2 (by omega)]
  congr 1
  omega
end Go.Pq
namespace Go.Pl
def sg (s : Bool) (n : Nat) : Int:=if s = true then -(n : Int) else (n : Int)
theorem l_l (s : Bool) (n : Nat) : (sg s n).natAbs = n:=by unfold sg;split <;> omega
theorem u_n (s : Bool) (n : Nat) (h : n ≠ 0) : decide (sg s n < 0) = s:=by
 unfold sg;cases s <;> simp <;> omega
theorem s_u (s : Bool) : sg s 0 = 0:=by unfold sg;split <;> rfl
theorem k_v (x : Int) : sg (decide (x < 0)) x.natAbs = x:=by
 unfold sg;by_cases h : x < 0
 ·rw [if_pos (by simpa using h)];omega
 ·rw [if_neg (by simpa using h)];omega
theorem u_m (s t : Bool) (m n : Nat) : sg (!(s == t)) (m * n) = sg s m * sg t n:=by
 unfold sg;cases s <;> cases t <;> simp [Int.neg_mul,Int.mul_neg]
theorem u_l (s : Bool) (n g : Nat) (h : g ∣ n) : sg s (n / g) = sg s n / (g : Int):=by
 unfold sg;cases s
 ·simp
 ·simp only [if_true]
  rw [Int.neg_ediv_of_dvd (Int.ofNat_dvd.2 h)];simp
def frac (s : Bool) (n d : Nat) : Rat:=mkRat (sg s n) d
def dl (d : Nat) : List UInt32:=if d = 1 then [] else Lb.nat d
def den1 (d : Nat) : T:=lim (dl d)
theorem n_b : dl 1 = []:=rfl
theorem j_M {d : Nat} (h : d ≠ 1) : dl d = Lb.nat d:=if_neg h
theorem k_N (d : Nat) : Lb.Canon (dl d):=by
 unfold dl;split
 ·exact .inl rfl
 ·exact Lb.H_ d
theorem f_e {n : Nat} : Lb.nat n = [1] ↔ n = 1:=by
 constructor
 ·intro h
  have:=congrArg Lb.val h
  rw [Lb.h_] at this;exact this
 ·intro h;rw [h];exact Lb.d_j
theorem l_L (d : Nat) : dl d ≠ [1]:=by
 unfold dl;split
 ·simp
 ·intro h;exact absurd (f_e.1 h) (by assumption)
theorem i_D {d : Nat} (hd : d ≠ 0) : dl d = [] ↔ d = 1:=by
 unfold dl;split
 ·simp [*]
 ·rw [Lb.b_u];omega
theorem n_a (d : Nat) : (dl d).length ≤ (Lb.nat d).length:=by
 unfold dl;split
 ·simp
 ·exact Nat.le_refl _
def ratT (q : Rat) : T:=.g [.b (decide (q.num < 0)),lim (Lb.nat q.num.natAbs),den1 q.den]
theorem k_S (s : Bool) (n d : Nat) (hd : d ≠ 0) : (frac s n d).num = sg s (n / Nat.gcd n d):=by
 unfold frac;rw [Rat.num_mkRat,if_neg hd,l_l,Nat.gcd_comm d n,u_l _ _ _ (Nat.gcd_dvd_left n d)]
theorem k_R (s : Bool) (n d : Nat) (hd : d ≠ 0) : (frac s n d).den = d / Nat.gcd n d:=by
 unfold frac;rw [Rat.den_mkRat,if_neg hd,l_l,Nat.gcd_comm d n]
theorem i_G (s : Bool) (d : Nat) : frac s 0 d = 0:=by
 unfold frac;rw [s_u];exact Rat.zero_mkRat d
theorem n_s {n d : Nat} (hd : d ≠ 0) : Nat.gcd n d ≠ 0:=fun h => hd (Nat.eq_zero_of_gcd_eq_zero_right h)
theorem i_7 (s : Bool) (n d : Nat) (hd : d ≠ 0) (hn : n ≠ 0) :
  ratT (frac s n d) = .g [.b s,lim (Lb.nat (n / Nat.gcd n d)),den1 (d / Nat.gcd n d)]:=by
 have hg:=Nat.pos_of_ne_zero (n_s (n:=n) hd);have h1 : n / Nat.gcd n d ≠ 0:=by
  have:=Nat.div_pos (Nat.le_of_dvd (Nat.pos_of_ne_zero hn) (Nat.gcd_dvd_left n d)) hg
  omega
 unfold ratT;rw [k_S s n d hd,k_R s n d hd,l_l,u_n s _ h1]
theorem e_z : ratT 0 = .g [.b false,.l [],.l []]:=rfl
theorem e_c (q : Rat) : (ratT q).cell 0 = .b (decide (q.num < 0)):=rfl
theorem f_l (q : Rat) : (ratT q).cell 1 = lim (Lb.nat q.num.natAbs):=rfl
theorem f_m (q : Rat) : (ratT q).cell 2 = den1 q.den:=rfl
theorem n_B (a : List UInt32) : (lim a).cell 0 = lim a:=rfl
theorem b_c0 (x : Bool) : (T.b x).cell 0 = .b x:=rfl
theorem f_w (x : Bool) : (T.b x).bool = x:=rfl
def rl (q : Rat) : Nat:=max (Lb.nat q.num.natAbs).length (Lb.nat q.den).length
theorem b_W {m n : Nat} (h : m ≤ n) : (Lb.nat m).length ≤ (Lb.nat n).length :=
 Lb.b_P _ _ (Nat.lt_of_le_of_lt h (by have:=Lb.a_t (Lb.nat n);rwa [Lb.h_] at this))
theorem a_B (m n : Nat) : (Lb.nat (m * n)).length ≤ (Lb.nat m).length + (Lb.nat n).length :=
 Lb.c_a (by have:=Lb.a_t (Lb.nat m);rwa [Lb.h_] at this) (by have:=Lb.a_t (Lb.nat n);rwa [Lb.h_] at this)
theorem d_9 (m n : Nat) : (Lb.nat (m + n)).length ≤ max (Lb.nat m).length (Lb.nat n).length + 1:=by
 apply Lb.b_P;have h1:=Lb.a_t (Lb.nat m);have h2:=Lb.a_t (Lb.nat n);rw [Lb.h_] at h1 h2;have h3 : Lb.B ^ (Lb.nat m).length ≤ Lb.B ^ max (Lb.nat m).length (Lb.nat n).length:=Nat.pow_le_pow_right Lb.a_l (by omega);have h4 : Lb.B ^ (Lb.nat n).length ≤ Lb.B ^ max (Lb.nat m).length (Lb.nat n).length:=Nat.pow_le_pow_right Lb.a_l (by omega);rw [Nat.pow_succ];have : Lb.B ^ max (Lb.nat m).length (Lb.nat n).length * 2 ≤ Lb.B ^ max (Lb.nat m).length (Lb.nat n).length * Lb.B:=Nat.mul_le_mul_left _ (by decide);omega
theorem j_V (s : Bool) (n d : Nat) (hd : d ≠ 0) : rl (frac s n d) ≤ max (Lb.nat n).length (Lb.nat d).length:=by
 unfold rl;rw [k_S s n d hd,k_R s n d hd,l_l];have h1:=b_W (Nat.div_le_self n (Nat.gcd n d));have h2:=b_W (Nat.div_le_self d (Nat.gcd n d));omega
theorem h_1 (a b : Rat) : frac (!(decide (a.num < 0) == decide (b.num < 0))) (a.num.natAbs * b.num.natAbs) (a.den * b.den) = a * b:=by
 unfold frac;rw [u_m,k_v,k_v,Rat.mul_def,← Rat.normalize_eq_mkRat]
theorem o_x (a b : Rat) : mkRat (a.num * b.den + b.num * a.den) (a.den * b.den) = a + b:=by
 rw [Rat.add_def,← Rat.normalize_eq_mkRat]
theorem n_8 (s : Bool) (m n : Nat) : sg s m + sg s n = sg s (m + n):=by unfold sg;split <;> omega
theorem n_7 (s t : Bool) (m n : Nat) (h : (s == t) = false) (hle : n ≤ m) : sg s m + sg t n = sg s (m - n):=by
 unfold sg;cases s <;> cases t <;> simp at h ⊢ <;> omega
theorem n_6 (s t : Bool) (m n : Nat) (h : (s == t) = false) (hle : m ≤ n) : sg s m + sg t n = sg t (n - m):=by
 unfold sg;cases s <;> cases t <;> simp at h ⊢ <;> omega
theorem c_6 (q : Rat) : q.den ≠ 0:=q.den_nz
theorem k_e (a : Rat) (d : Nat) : a.num * (d : Int) = sg (decide (a.num < 0)) (a.num.natAbs * d):=by
 conv => lhs;rw [← k_v a.num]
 unfold sg;split <;> simp [Int.neg_mul]
theorem h_n (a b : Rat) : rl (a * b) ≤ rl a + rl b:=by
 rw [← h_1];refine Nat.le_trans (j_V _ _ _ (Nat.mul_ne_zero (c_6 a) (c_6 b))) ?_;have h1:=a_B a.num.natAbs b.num.natAbs;have h2:=a_B a.den b.den;unfold rl;omega
theorem g_M (a b : Rat) (s : Bool) (n : Nat) (h : a.num * b.den + b.num * a.den = sg s n) : a + b = frac s n (a.den * b.den):=by
 unfold frac;rw [← h,o_x]
theorem p_9 (a b : Rat) : rl (a + b) ≤ rl a + rl b + 1:=by
 have key:=g_M a b _ _ (k_v (a.num * b.den + b.num * a.den)).symm;rw [key];refine Nat.le_trans (j_V _ _ _ (Nat.mul_ne_zero (c_6 a) (c_6 b))) ?_;have h0 : (a.num * b.den + b.num * a.den).natAbs ≤ a.num.natAbs * b.den + b.num.natAbs * a.den:=by
  refine Nat.le_trans (Int.natAbs_add_le _ _) ?_;rw [Int.natAbs_mul,Int.natAbs_mul];simp
 have h1:=a_B a.num.natAbs b.den;have h2:=a_B b.num.natAbs a.den;have h3:=a_B a.den b.den;have h4:=d_9 (a.num.natAbs * b.den) (b.num.natAbs * a.den);have h5:=b_W h0;unfold rl;omega
theorem n_Z (a : Rat) : rl (-a) = rl a:=by unfold rl;rw [Rat.neg_num,Rat.neg_den,Int.natAbs_neg]
theorem q_a (a b : Rat) : rl (a - b) ≤ rl a + rl b + 1:=by
 rw [Rat.sub_eq_add_neg]
 have:=p_9 a (-b)
 rw [n_Z] at this;exact this
end Go.Pl
namespace Go.Pq
open Go.Pl Go.Proofs
theorem e_v (s : Bool) (n d : Nat) (hn : (Lb.nat n).length ≤ 2 ^ 32) (hdl : (Lb.nat d).length ≤ 2 ^ 32) (hd : d ≠ 0) :
  F 90 [.t 4 (.b s),.t 22 (lim (Lb.nat n)),.t 22 (lim (Lb.nat d))] (zo 3 23) [ratT (frac s n d)]:=by
 refine t_T _ _ _ _ ?_;rw [n_,g_];refine ⟨fun h => ?_,fun h => ?_⟩
 ·rw [M_] at h
  have : n = 0:=Lb.b_u.1 (List.length_eq_zero_iff.1 (by omega));subst this;rw [i_G];exact ⟨trivial,rfl,trivial⟩
 ·rw [a_D] at h
  have hn0 : n ≠ 0:=by
   intro q;subst q;exact h rfl
  have hg:=n_s (n:=n) hd;have hgn : Lb.nat (Nat.gcd n d) ≠ []:=fun q => hg (Lb.b_u.1 q)
  have c1:=g_9 (Lb.nat n) (Lb.nat d) hn hdl (Lb.H_ _) (Lb.H_ _);rw [Lb.h_,Lb.h_] at c1;have hgl : (Lb.nat (Nat.gcd n d)).length ≤ 2 ^ 32:=Nat.le_trans (b_W (Nat.gcd_le_right n (Nat.pos_of_ne_zero hd))) hdl;have c2:=g_g (Lb.nat n) (Lb.nat (Nat.gcd n d)) hn hgl (Lb.H_ _) hgn;have c3:=g_g (Lb.nat d) (Lb.nat (Nat.gcd n d)) hdl hgl (Lb.H_ _) hgn;rw [Lb.h_,Lb.h_] at c2 c3;refine ⟨_,c1,_,_,c2,_,_,c3,_,n_J _,?_⟩;rw [i_7 s n d hd hn0,b_c0,n_B,n_B,f_w];refine ⟨fun h1 => ?_,fun h1 => ?_⟩
  ·rw [decide_eq_true_eq,f_e] at h1
   rw [h1];exact ⟨trivial,rfl,trivial⟩
  ·rw [decide_eq_false_iff_not,f_e] at h1
   unfold den1;rw [j_M h1];exact ⟨trivial,rfl,trivial⟩
theorem q_f {a : List UInt32} (hl : a.length ≤ 2 ^ 60) (hc : Lb.Canon a) :
  (T.ite (ltI 0 (lenOf (lim a).list)) (T.b (eqI (((lim a).list.getD (subI .i64 (lenOf (lim a).list) 1).toNat .u).cell 0).int 0)) (T.b false)).bool = false:=by
 rw [n_,g_]
 by_cases h : a = []
 ·subst h;rfl
 ·have hp : 0 < a.length:=List.length_pos_iff.2 h
  have e : subI .i64 (a.length : Int) 1 = ((a.length - 1 : Nat) : Int):=by rw [Y_ (by omega)];omega
  rw [a_3,e,Int.toNat_natCast,V_ a (by omega),b_R]
  rcases hc with hc | hc
  ·exact absurd hc h
  ·have : eqI ((a.getD (a.length - 1) 0).toNat : Int) 0 = false:=a_D.2 (by unfold Lb.dg at hc;omega)
   rw [this,Bool.and_false]
theorem q_e {a : List UInt32} (hl : a.length ≤ 2 ^ 60) (h : ltI 0 (lenOf (lim a).list) = true) :
  0 ≤ subI .i64 (lenOf (lim a).list) 1 ∧ subI .i64 (lenOf (lim a).list) 1 < lenOf (lim a).list:=by
 rw [n_,g_,d_] at *;rw [Y_ (by omega)];omega
theorem c_9 (q : Rat) : (Lb.nat q.num.natAbs).length ≤ rl q:=by unfold rl;omega
theorem c_8 (q : Rat) : (Lb.nat q.den).length ≤ rl q:=by unfold rl;omega
theorem g_f {q : Rat} (h : q.num = 0) : q.den = 1:=by
 have:=q.reduced
 rw [h] at this;simpa using this
theorem c_S (a : List UInt32) : eqI (lenOf (lim a).list) 0 = true ↔ a = []:=by
 rw [n_,g_,M_]
 constructor
 ·intro h;exact List.length_eq_zero_iff.1 (by omega)
 ·intro h;subst h;rfl
theorem d_8 (a : List UInt32) : eqI (lenOf (lim a).list) 0 = false ↔ a ≠ []:=by
 rw [← Bool.not_eq_true,c_S]
theorem l_t (q : Rat) (hq : rl q ≤ 2 ^ 32) : F 108 [.t 23 (ratT q)] (zo 1 4) [.b true]:=by
 have h1:=c_9 q;have h2:=c_8 q;have h3:=n_a q.den;refine q_I _ _ ?_;simp only [e_c,f_l,f_m,f_w];unfold den1;have t1:=q_f (a:=Lb.nat q.num.natAbs) (by omega) (Lb.H_ _);have t2:=q_f (a:=dl q.den) (by omega) (k_N _);rw [t1];have e : ∀ x : T,T.ite false (T.b true) x = x:=fun x => rfl
 rw [e,t2];simp only [e];refine ⟨fun h => q_e (by omega) h.1,fun h => q_e (by omega) h.2.1,_,fun _ => n_J _,fun h => ?_,fun h => ⟨fun h4 => ?_,fun h4 => ?_⟩⟩
 ·rw [f_w,decide_eq_true_eq] at h
  exact absurd h (l_L _)
 ·rw [c_S,Lb.b_u] at h4
  have hz : q.num = 0:=by omega
  have hd:=g_f hz;rw [hz,hd,n_b];exact ⟨trivial,rfl,trivial⟩
 ·rw [d_8] at h4
  by_cases hd : q.den = 1
  ·rw [hd,n_b]
   exact ⟨.u,fun h => (by cases h.1),.u,fun h => (by cases h.1),trivial,rfl,trivial⟩
  ·rw [j_M hd]
   have hne : Lb.nat q.den ≠ []:=fun z => c_6 q (Lb.b_u.1 z)
   have c1:=g_9 (Lb.nat q.num.natAbs) (Lb.nat q.den) (by omega) (by omega) (Lb.H_ _) (Lb.H_ _);rw [Lb.h_,Lb.h_,show Nat.gcd q.num.natAbs q.den = 1 from q.reduced] at c1;refine ⟨_,fun _ => c1,_,fun _ => n_J _,trivial,?_,trivial⟩;rw [(d_8 _).2 hne,show (decide (Lb.nat 1 = [1])) = true from decide_eq_true Lb.d_j];rfl
theorem f_r (q : Rat) (hq : rl q ≤ 2 ^ 32) : F 87 [.t 23 (ratT q)] (zo 1 23) [ratT q]:=by
 refine t_R _ _ ⟨_,l_t q hq,fun h => (by cases h),fun _ => ?_⟩;have h1:=c_9 q;have h2:=c_8 q;have h3:=n_a q.den;simp only [e_c,f_l,f_m,den1,n_,y_,List.nil_append]
 (try unfold Rm);unfold room
 exact ⟨⟨by omega,by omega⟩,⟨by omega,by omega⟩,trivial,rfl,trivial⟩
theorem g_8 (q : Rat) : F 92 [.t 23 (ratT q)] (zo 1 22) [lim (Lb.nat q.den)]:=by
 refine t_V _ _ ?_;simp only [f_m,den1];refine ⟨fun h => ?_,fun h => ?_⟩
 ·rw [c_S,i_D (c_6 q)] at h
  rw [h,Lb.d_j];exact ⟨trivial,rfl,trivial⟩
 ·rw [d_8] at h
  have : q.den ≠ 1:=fun z => h ((i_D (c_6 q)).2 z)
  rw [j_M this];exact ⟨trivial,rfl,trivial⟩
theorem u_c (q : Rat) (hq : rl q ≤ 2 ^ 32) : F 88 [.t 23 (ratT q)] (zo 1 23) [ratT (-q)]:=by
 refine t_S _ _ ⟨_,f_r q hq,trivial,?_,trivial⟩;simp only [e_c,f_l,f_m,f_w];unfold ratT;rw [Rat.neg_num,Rat.neg_den,Int.natAbs_neg]
 congr 2
 rw [n_,g_]
 by_cases h : q.num = 0
 ·rw [h];rfl
 ·have hl : (0 : Int) < ((Lb.nat q.num.natAbs).length : Int):=by
   have : Lb.nat q.num.natAbs ≠ []:=fun z => h (by have:=Lb.b_u.1 z;omega)
   have:=List.length_pos_iff.2 this
   omega
  rw [d_.2 hl]
  show T.b _ = _
  congr 1
  by_cases h2 : q.num < 0
  ·simp [h2];omega
  ·simp [h2];omega
end Go.Pq
namespace Go.Pl
theorem d_K (a b : Rat) : (Lb.nat (a.den * b.den)).length ≤ rl a + rl b:=by
 have:=a_B a.den b.den
 unfold rl;omega
theorem d_L (a b : Rat) : (Lb.nat (a.num.natAbs * b.den)).length ≤ rl a + rl b:=by
 have:=a_B a.num.natAbs b.den
 unfold rl;omega
theorem h_o (a b : Rat) : (Lb.nat (a.num.natAbs * b.num.natAbs)).length ≤ rl a + rl b:=by
 have:=a_B a.num.natAbs b.num.natAbs
 unfold rl;omega
theorem b_2 (a b : Rat) : a.den * b.den ≠ 0:=Nat.mul_ne_zero (c_6 a) (c_6 b)
def sgnZ (x : Int) : Int:=if x < 0 then -1 else if 0 < x then 1 else 0
def cmpQ (a b : Rat) : Int:=sgnZ (a - b).num
def mkQ (a b : Int) : Rat:=frac (!(decide (a < 0) == decide (b < 0))) a.natAbs b.natAbs
end Go.Pl
namespace Go.Pq
open Go.Pl Go.Proofs
theorem p_Z (a b : Rat) (ha : rl a ≤ 2 ^ 30) (hb : rl b ≤ 2 ^ 30) : F 52 [.t 23 (ratT a),.t 23 (ratT b)] (zo 2 23) [ratT (a * b)]:=by
 have a1:=c_9 a;have a2:=c_8 a;have b1:=c_9 b;have b2:=c_8 b;have m1:=h_o a b;have m2:=d_K a b;have c1:=e_G (Lb.nat a.num.natAbs) (Lb.nat b.num.natAbs) (by omega) (by omega);have c2:=e_G (Lb.nat a.den) (Lb.nat b.den) (by omega) (by omega);rw [Lb.h_,Lb.h_] at c1 c2;have c3:=e_v (!(decide (a.num < 0) == decide (b.num < 0))) (a.num.natAbs * b.num.natAbs) (a.den * b.den) (by omega) (by omega) (b_2 a b);rw [h_1] at c3;exact t_n _ _ _ ⟨_,f_r a (by omega),_,f_r b (by omega),_,c1,_,g_8 a,_,g_8 b,_,c2,_,c3,trivial,rfl,trivial⟩
theorem m_y (a b : Rat) (ha : rl a ≤ 2 ^ 30) (hb : rl b ≤ 2 ^ 30) : F 78 [.t 23 (ratT a),.t 23 (ratT b)] (zo 2 23) [ratT (a + b)]:=by
 have a1:=c_9 a;have a2:=c_8 a;have b1:=c_9 b;have b2:=c_8 b;have m1:=d_L a b;have m2:=d_L b a;have m3:=d_K a b;have c1:=e_G (Lb.nat a.num.natAbs) (Lb.nat b.den) (by omega) (by omega);have c2:=e_G (Lb.nat b.num.natAbs) (Lb.nat a.den) (by omega) (by omega);have c3:=e_G (Lb.nat a.den) (Lb.nat b.den) (by omega) (by omega);rw [Lb.h_,Lb.h_] at c1 c2 c3;have hsum : a.num * b.den + b.num * a.den = sg (decide (a.num < 0)) (a.num.natAbs * b.den) + sg (decide (b.num < 0)) (b.num.natAbs * a.den):=by
  rw [k_e,k_e]
 refine t_L _ _ _ ⟨_,f_r a (by omega),_,f_r b (by omega),_,g_8 b,_,c1,_,g_8 a,_,c2,_,g_8 a,_,g_8 b,_,c3,?_⟩;simp only [e_c,f_w];refine ⟨fun h => ?_,fun h => ?_⟩
 ·have c4:=k_l (Lb.nat (a.num.natAbs * b.den)) (Lb.nat (b.num.natAbs * a.den)) (by omega) (by omega)
  rw [Lb.h_,Lb.h_] at c4;have hl:=d_9 (a.num.natAbs * b.den) (b.num.natAbs * a.den);have c5:=e_v (decide (a.num < 0)) (a.num.natAbs * b.den + b.num.natAbs * a.den) (a.den * b.den) (by omega) (by omega) (b_2 a b);rw [← g_M a b _ _ (by rw [hsum,← eq_of_beq h,n_8])] at c5;exact ⟨_,c4,_,c5,trivial,rfl,trivial⟩
 ·have c4:=g_7 (Lb.nat (a.num.natAbs * b.den)) (Lb.nat (b.num.natAbs * a.den)) (by omega) (by omega) (Lb.H_ _) (Lb.H_ _)
  rw [Lb.h_,Lb.h_] at c4;refine ⟨_,c4,fun h1 => ?_,fun h1 => ?_⟩
  ·rw [k_,h_I] at h1
   have c5:=h_Z (Lb.nat (a.num.natAbs * b.den)) (Lb.nat (b.num.natAbs * a.den)) (by omega) (by rw [Lb.h_,Lb.h_];exact h1);rw [Lb.h_,Lb.h_] at c5;have hl:=b_W (Nat.sub_le (a.num.natAbs * b.den) (b.num.natAbs * a.den));have c6:=e_v (decide (a.num < 0)) (a.num.natAbs * b.den - b.num.natAbs * a.den) (a.den * b.den) (by omega) (by omega) (b_2 a b);rw [← g_M a b _ _ (by rw [hsum,n_7 _ _ _ _ h h1])] at c6;exact ⟨_,c5,_,c6,trivial,rfl,trivial⟩
  ·rw [k_,f_L] at h1
   have c5:=h_Z (Lb.nat (b.num.natAbs * a.den)) (Lb.nat (a.num.natAbs * b.den)) (by omega) (by rw [Lb.h_,Lb.h_];omega);rw [Lb.h_,Lb.h_] at c5;have hl:=b_W (Nat.sub_le (b.num.natAbs * a.den) (a.num.natAbs * b.den));have c6:=e_v (decide (b.num < 0)) (b.num.natAbs * a.den - a.num.natAbs * b.den) (a.den * b.den) (by omega) (by omega) (b_2 a b);rw [← g_M a b _ _ (by rw [hsum,n_6 _ _ _ _ h (by omega)])] at c6;exact ⟨_,c5,_,c6,trivial,rfl,trivial⟩
theorem u_q (a b : Rat) (ha : rl a ≤ 2 ^ 30) (hb : rl b ≤ 2 ^ 30) : F 49 [.t 23 (ratT a),.t 23 (ratT b)] (zo 2 23) [ratT (a - b)]:=by
 have c1:=m_y a (-b) ha (by rw [n_Z];exact hb);rw [← Rat.sub_eq_add_neg] at c1;exact t_m _ _ _ ⟨_,u_c b (by omega),_,c1,trivial,rfl,trivial⟩
theorem g_y (q : Rat) : ltI 0 (lenOf (lim (Lb.nat q.num.natAbs)).list) = true ↔ q.num ≠ 0:=by
 rw [n_,g_,d_]
 constructor
 ·intro h z
  rw [z] at h;exact absurd h (by decide)
 ·intro h
  have : Lb.nat q.num.natAbs ≠ []:=fun z => h (by have:=Lb.b_u.1 z;omega)
  have:=List.length_pos_iff.2 this
  omega
theorem e_E (q : Rat) (hq : rl q ≤ 2 ^ 32) : F 48 [.t 23 (ratT q)] (zo 1 2) [.i .i64 (sgnZ q.num)]:=by
 refine t_l _ _ ⟨_,f_r q hq,?_⟩;simp only [e_c,f_l,f_w];unfold sgnZ;refine ⟨fun h => ?_,fun h => ⟨fun h1 => ?_,fun h1 => ?_⟩⟩
 ·rw [decide_eq_true_eq] at h
  rw [if_pos h];exact ⟨trivial,rfl,trivial⟩
 ·rw [decide_eq_false_iff_not] at h
  rw [g_y] at h1;rw [if_neg h,if_pos (by omega)];exact ⟨trivial,rfl,trivial⟩
 ·rw [decide_eq_false_iff_not] at h
  rw [← Bool.not_eq_true,g_y] at h1;rw [if_neg h,if_neg (by omega)];exact ⟨trivial,rfl,trivial⟩
theorem b_6 (a b : Rat) (ha : rl a ≤ 2 ^ 30) (hb : rl b ≤ 2 ^ 30) : F 23 [.t 23 (ratT a),.t 23 (ratT b)] (zo 2 2) [.i .i64 (cmpQ a b)]:=by
 have:=q_a a b
 exact s_7 _ _ _ ⟨_,u_q a b ha hb,_,e_E (a - b) (by omega),trivial,rfl,trivial⟩
theorem k_a (a b : Int) (ha : -9223372036854775808 ≤ a ∧ a ≤ 9223372036854775807) (hb : -9223372036854775808 ≤ b ∧ b ≤ 9223372036854775807) (h0 : b ≠ 0) :
  F 55 [.t 2 (.i .i64 a),.t 2 (.i .i64 b)] Z1 [ratT (mkQ a b),.i .i64 0]:=by
 refine t_q _ _ _ _ ⟨fun h => ?_,fun _ => ?_⟩
 ·rw [k_,M_] at h;exact absurd h h0
 have two : ∀ x : Int,-9223372036854775808 ≤ x ∧ x ≤ 9223372036854775807 → x.natAbs < 18446744073709551616:=fun x h => by omega
 have len2 : ∀ n : Nat,n < 18446744073709551616 → (Lb.nat n).length ≤ 2:=fun n h => Lb.b_P _ _ (by rw [show Lb.B ^ 2 = 18446744073709551616 from rfl];exact h)
 have l1:=len2 _ (two a ha);have l2:=len2 _ (two b hb);have c:=e_v (!(decide (a < 0) == decide (b < 0))) a.natAbs b.natAbs (by omega) (by omega) (by omega);exact ⟨_,f_Y a ha,_,h_j _ (two a ha),_,f_Y b hb,_,h_j _ (two b hb),_,c,trivial,rfl,rfl,trivial⟩
end Go.Pq
