/- Part 10 of 11. What a session has committed at any time is the beginning of what it commits later, and of the path at its end (SessionsCommit), for every input; no condition. Names are shortened and spaces left out by program, for the size. -/
import Derived.Test.YtjhgombngbgjbaaGreatDoorQ9
import Derived.WalkKit
import Derived.Deep.RegionLaw
import Derived.Shelf.RegionOpenPlain
import Derived.Lib.Walk
import Derived.Lib.SliceRun
import Derived.Deep.LoopGhost
set_option linter.unusedVariables false
set_option linter.unusedSimpArgs false
set_option linter.unusedSectionVars false
set_option linter.constructorNameAsVariable false
set_option maxRecDepth 100000
namespace Go.Pl
def better (p b : Rat) (t u : List Nat) : Bool:=decide (b < p) || ((decide (p = b) && decide (0 < p)) && decide (cmpL t u < 0))
def tl : Option (List Nat) → List Nat
 | some t => t
 | none => []
def e_x (d : List Nat) : Option (List Nat) → List Nat
 | some t => d ++ t
 | none => []
def A_ (h : Md) (o : On) (j : Nat) : Nat → Rat × Option (List Nat)
 | 0 => (if o.time = 0 then h.init.getD j 0 else 0,none)
 | i + 1 =>
  if better (o.sc.getD i 0 * (h.trans.getD i []).getD j 0) (A_ h o j i).1 (o.tails.getD i []) (tl (A_ h o j i).2) then (o.sc.getD i 0 * (h.trans.getD i []).getD j 0,some (o.tails.getD i [])) else A_ h o j i
def g_X (h : Md) (o : On) (j : Nat) : Rat × Option (List Nat):=A_ h o j o.sc.length
def W_ (h : Md) (o : On) (s j : Nat) : Rat:=(g_X h o j).1 * (h.emit.getD j []).getD (s - 1) 0
def t_ (h : Md) (o : On) (s j : Nat) : List Nat:=if 0 < W_ h o s j then tl (g_X h o j).2 ++ [j] else []
def a_4 (h : Md) (o : On) (s j : Nat) : List Nat:=if 0 < W_ h o s j then e_x o.done (g_X h o j).2 ++ [j] else []
def scN (h : Md) (o : On) (s k : Nat) : List Rat:=(List.range k).map (W_ h o s)
def tlN (h : Md) (o : On) (s k : Nat) : List (List Nat):=(List.range k).map (t_ h o s)
def paN (h : Md) (o : On) (s k : Nat) : List (List Nat):=(List.range k).map (a_4 h o s)
def lvN (h : Md) (o : On) (s : Nat) : List (List Nat):=b_9 (scN h o s h.st) (tlN h o s h.st) h.st
def comN (h : Md) (o : On) (s : Nat) : Nat:=comF (lvN h o s)
def S_ (h : Md) (o : On) (s : Nat) : List Nat:=((lvN h o s).headD []).take (comN h o s)
def f_I (h : Md) (o : On) (s : Nat) : Bool:=decide (∃ j,j < h.st ∧ 0 < W_ h o s j)
def f_j (h : Md) (o : On) (s : Nat) : On:=⟨o.time + 1,scN h o s h.st,(tlN h o s h.st).map (List.drop (comN h o s)),o.done ++ S_ h o s⟩
theorem a_g {α : Type} (f : Nat → α) (d : α) {n i : Nat} (h : i < n) : ((List.range n).map f).getD i d = f i:=by
 rw [List.getD_eq_getElem?_getD,List.getElem?_map,List.getElem?_range h];rfl
theorem g_U {a b : Rat} (ha : Share a) (hb : Share b) : Share (a * b) :=
 ⟨Rat.mul_nonneg ha.1 hb.1,by
  have h1:=Rat.mul_le_mul_of_nonneg_left hb.2 ha.1;rw [Rat.mul_one] at h1;exact Rat.le_trans h1 ha.2⟩
theorem f_q : Share 0:=⟨by decide,by decide⟩
theorem f_n {a b : Rat} (ha : 0 ≤ a) (hb : 0 ≤ b) (h : 0 < a * b) : 0 < a ∧ 0 < b:=by
 constructor
 ·rcases Rat.le_iff_lt_or_eq.1 ha with q | q
  ·exact q
  ·rw [← q,Rat.zero_mul] at h;exact absurd h Rat.lt_irrefl
 ·rcases Rat.le_iff_lt_or_eq.1 hb with q | q
  ·exact q
  ·rw [← q,Rat.mul_zero] at h;exact absurd h Rat.lt_irrefl
section
variable {h : Md} {c : Nat} {o : On} (hk : MdOk h c) (H : OnOk h c o)
include hk H
theorem OnOk.h_F {j : Nat} (hj : j < h.st) : ∀ i,i ≤ o.sc.length → Share (A_ h o j i).1 ∧ rl (A_ h o j i).1 ≤ 2 * o.time * c + c ∧
  (((A_ h o j i).2 = none ∧ (0 < o.time → (A_ h o j i).1 = 0)) ∨ ∃ m,m < i ∧ m < h.st ∧ 0 < o.sc.getD m 0 ∧ (A_ h o j i).2 = Option.some (o.tails.getD m [])):=by
 intro i
 induction i with
 | zero =>
  intro _;unfold A_
  by_cases hz : o.time = 0
  ·rw [if_pos hz]
   have:=hk.q1 _ (r_ (d:=(0 : Rat)) (show j < h.init.length by have:=hk.init;omega))
   exact ⟨this.2,by have:=this.1;show rl (h.init.getD j 0) ≤ _;omega,.inl ⟨rfl,fun q => by omega⟩⟩
  ·rw [if_neg hz]
   refine ⟨f_q,?_,.inl ⟨rfl,fun _ => rfl⟩⟩
   have:=hk.cc.1
   show rl 0 ≤ _
   rw [f_p];omega
 | succ i ih =>
  intro hi;obtain ⟨h1,h2,h3⟩:=ih (by omega);have hz : 0 < o.time:=by
   rcases Nat.eq_zero_or_pos o.time with q | q
   ·rw [(H.zero q).1] at hi;simp at hi
   ·exact q
  have hl:=(H.lens hz).1;have hm:=r_ (d:=(0 : Rat)) (show i < o.sc.length by omega);have hsh:=H.share _ hm;have htr:=hk.trq (show i < h.st by omega) _ (r_ (d:=(0 : Rat)) (show j < (h.trans.getD i []).length by rw [hk.trl (by omega)];exact hj));have hr:=h_n (o.sc.getD i 0) ((h.trans.getD i []).getD j 0);have hr1:=H.rls _ hm;unfold A_
  by_cases hb : better (o.sc.getD i 0 * (h.trans.getD i []).getD j 0) (A_ h o j i).1 (o.tails.getD i []) (tl (A_ h o j i).2) = true
  ·rw [if_pos hb]
   have hp : 0 < o.sc.getD i 0 * (h.trans.getD i []).getD j 0:=by
    unfold better at hb;rw [Bool.or_eq_true,Bool.and_eq_true,Bool.and_eq_true,decide_eq_true_eq,decide_eq_true_eq,decide_eq_true_eq] at hb
    rcases hb with q | q
    ·exact Rat.not_le.1 fun hle => absurd (Rat.le_trans hle h1.1) (Rat.not_le.2 q)
    ·exact q.1.2
   refine ⟨g_U hsh htr.2,by have:=htr.1;show rl (o.sc.getD i 0 * (h.trans.getD i []).getD j 0) ≤ _;omega,.inr ⟨i,by omega,by omega,(f_n hsh.1 htr.2.1 hp).1,rfl⟩⟩
  ·rw [if_neg hb]
   refine ⟨h1,h2,?_⟩
   rcases h3 with q | ⟨m,q1,q2⟩
   ·exact .inl q
   ·exact .inr ⟨m,by omega,q2⟩
theorem OnOk.k_t {s j : Nat} (hs : 1 ≤ s ∧ s ≤ h.sym) (hj : j < h.st) : Share (W_ h o s j) ∧ rl (W_ h o s j) ≤ 2 * (o.time + 1) * c ∧ rl (g_X h o j).1 ≤ 2 ^ 20:=by
 obtain ⟨h1,h2,-⟩:=H.h_F hk hj o.sc.length (Nat.le_refl _);have he:=hk.emq hj _ (r_ (d:=(0 : Rat)) (show s - 1 < (h.emit.getD j []).length by rw [hk.eml hj];omega));have hr:=h_n (g_X h o j).1 ((h.emit.getD j []).getD (s - 1) 0);have h3:=H.time;have h4:=hk.cc;have h5 : 2 * o.time * c ≤ 2 * 256 * 2 ^ 10:=Nat.mul_le_mul (by omega) h4.2;have h6 : 2 * (o.time + 1) * c = 2 * o.time * c + 2 * c:=by rw [Nat.mul_add,Nat.add_mul]
 have h2' : rl (g_X h o j).1 ≤ 2 * o.time * c + c:=h2;refine ⟨g_U h1 he.2,?_,by omega⟩;have : rl (W_ h o s j) ≤ rl (g_X h o j).1 + rl ((h.emit.getD j []).getD (s - 1) 0):=hr
 have:=he.1
 omega
theorem OnOk.path {s j : Nat} (hs : 1 ≤ s ∧ s ≤ h.sym) (hj : j < h.st) (hp : 0 < W_ h o s j) :
  a_4 h o s j = o.done ++ t_ h o s j ∧ o.done.length + (t_ h o s j).length = o.time + 1 ∧ (o.done ++ t_ h o s j).getD o.time 0 = j ∧ ∀ x ∈ t_ h o s j,x < h.st:=by
 obtain ⟨h1,-,h3⟩:=H.h_F hk hj o.sc.length (Nat.le_refl _);have he:=hk.emq hj _ (r_ (d:=(0 : Rat)) (show s - 1 < (h.emit.getD j []).length by rw [hk.eml hj];omega));have hb:=(f_n h1.1 he.2.1 hp).1;unfold a_4 t_;rw [if_pos hp,if_pos hp];have last : ∀ (d t : List Nat),d.length + t.length = o.time → (d ++ (t ++ [j])).getD o.time 0 = j:=by
  intro d t hl;rw [← List.append_assoc,List.getD_eq_getElem?_getD,List.getElem?_append_right (by rw [List.length_append];omega),List.length_append,hl,Nat.sub_self];rfl
 rcases h3 with ⟨q1,q2⟩ | ⟨m,-,q2,q3,q4⟩
 ·have hz : o.time = 0:=by
   rcases Nat.eq_zero_or_pos o.time with q | q
   ·exact q
   ·rw [q2 q] at hb;exact absurd hb Rat.lt_irrefl
  obtain ⟨-,-,z3⟩:=H.zero hz;have q1' : (g_X h o j).2 = none:=q1;rw [q1',z3];refine ⟨rfl,by simp [tl];omega,last [] [] (by simp [hz]),?_⟩;intro x hx;simp [tl] at hx;omega
 ·have q4' : (g_X h o j).2 = Option.some (o.tails.getD m []):=q4
  have hz : 0 < o.time:=by
   rcases Nat.eq_zero_or_pos o.time with q | q
   ·rw [(H.zero q).1] at q3;exact absurd q3 Rat.lt_irrefl
   ·exact q
  obtain ⟨q5,-⟩:=H.live m q2 q3;rw [q4'];refine ⟨by simp [tl,e_x],by simp only [tl,List.length_append,List.length_cons,List.length_nil];omega,last _ _ q5,?_⟩;intro x hx
  rcases List.mem_append.1 hx with q | q
  ·exact H.tst _ (r_ (by have:=(H.lens hz).2;omega)) x q
  ·simp at q;omega
theorem OnOk.p_W {s : Nat} {p : List Nat} : p ∈ lvN h o s ↔ ∃ i,i < h.st ∧ 0 < W_ h o s i ∧ p = t_ h o s i:=by
 unfold lvN;rw [i_R]
 constructor
 ·rintro ⟨i,h1,h2,h3⟩
  unfold scN at h2;unfold tlN at h3;rw [a_g _ _ h1] at h2 h3;exact ⟨i,h1,h2,h3⟩
 ·rintro ⟨i,h1,h2,h3⟩
  refine ⟨i,h1,?_,?_⟩
  ·unfold scN;rw [a_g _ _ h1];exact h2
  ·unfold tlN;rw [a_g _ _ h1];exact h3
theorem OnOk.commit {s i : Nat} (hi : i < h.st) (hp : 0 < W_ h o s i) : S_ h o s = (t_ h o s i).take (comN h o s) ∧ comN h o s ≤ (t_ h o s i).length:=by
 have hm : t_ h o s i ∈ lvN h o s:=(H.p_W hk).2 ⟨i,hi,hp,rfl⟩;refine ⟨?_,h_K _ hm⟩;unfold S_ comN
 cases hl : lvN h o s with
 | nil => rw [hl] at hm;cases hm
 | cons f r =>
  rw [hl] at hm;exact m_2 (by simp) hm
theorem OnOk.s_h {s : Nat} (hs : 1 ≤ s ∧ s ≤ h.sym) (ht : o.time < 256) (ha : f_I h o s = true) : OnOk h c (f_j h o s):=by
 have scAt : ∀ {i},i < h.st → (f_j h o s).sc.getD i 0 = W_ h o s i:=fun {i} hi => a_g _ _ hi
 have tlAt : ∀ {i},i < h.st → (f_j h o s).tails.getD i [] = (t_ h o s i).drop (comN h o s):=by
  intro i hi
  show ((tlN h o s h.st).map _).getD i [] = _
  unfold tlN;rw [List.map_map];exact a_g (fun j => (t_ h o s j).drop (comN h o s)) _ hi
 have full : ∀ {i},i < h.st → 0 < W_ h o s i → (f_j h o s).done ++ (f_j h o s).tails.getD i [] = o.done ++ t_ h o s i:=by
  intro i hi hp;rw [tlAt hi]
  show o.done ++ S_ h o s ++ _ = _
  rw [(H.commit hk hi hp).1,List.append_assoc,List.take_append_drop]
 obtain ⟨j0,hj0,hp0⟩:=of_decide_eq_true ha;have sc_mem : ∀ x ∈ (f_j h o s).sc,∃ i,i < h.st ∧ x = W_ h o s i:=by
  intro x hx;obtain ⟨i,hi,rfl⟩:=List.mem_map.1 hx;exact ⟨i,List.mem_range.1 hi,rfl⟩
 have tl_mem : ∀ x ∈ (f_j h o s).tails,∃ i,i < h.st ∧ x = (t_ h o s i).drop (comN h o s):=by
  intro x hx;obtain ⟨t,ht,rfl⟩:=List.mem_map.1 hx;obtain ⟨i,hi,rfl⟩:=List.mem_map.1 ht;exact ⟨i,List.mem_range.1 hi,rfl⟩
 have tlen : ∀ {i},i < h.st → (t_ h o s i).length ≤ 256:=by
  intro i hi
  by_cases hp : 0 < W_ h o s i
  ·have:=(H.path hk hs hi hp).2.1;omega
  ·unfold t_;rw [if_neg hp];simp
 have tst : ∀ {i},i < h.st → ∀ x ∈ t_ h o s i,x < h.st:=by
  intro i hi
  by_cases hp : 0 < W_ h o s i
  ·exact (H.path hk hs hi hp).2.2.2
  ·unfold t_;rw [if_neg hp];intro x hx;cases hx
 have hcl : (S_ h o s).length ≤ (t_ h o s j0).length:=by
  rw [(H.commit hk hj0 hp0).1,List.length_take];omega
 have hpl:=(H.path hk hs hj0 hp0).2.1;refine ⟨?_,?_,?_,?_,?_,?_,?_,?_,?_,?_,?_,?_,?_⟩
 ·show o.time + 1 ≤ 256;omega
 ·intro q;exact absurd q (Nat.succ_ne_zero _)
 ·intro _
  exact ⟨by show ((List.range h.st).map _).length = _;simp,by show ((tlN h o s h.st).map _).length = _;unfold tlN;simp⟩
 ·intro x hx
  obtain ⟨i,hi,rfl⟩:=sc_mem x hx;exact (H.k_t hk hs hi).2.1
 ·intro x hx
  obtain ⟨i,hi,rfl⟩:=sc_mem x hx;exact (H.k_t hk hs hi).1
 ·intro x hx
  rcases List.mem_append.1 hx with q | q
  ·exact H.dst x q
  ·rw [(H.commit hk hj0 hp0).1] at q
   exact tst hj0 x (List.mem_of_mem_take q)
 ·intro l hl x hx
  obtain ⟨i,hi,rfl⟩:=tl_mem l hl;exact tst hi x (List.mem_of_mem_drop hx)
 ·intro l hl
  obtain ⟨i,hi,rfl⟩:=tl_mem l hl
  have:=tlen hi
  rw [List.length_drop];omega
 ·show (o.done ++ S_ h o s).length ≤ 256
  rw [List.length_append];omega
 ·intro i hi hd
  rw [scAt hi] at hd;rw [tlAt hi];unfold t_;rw [if_neg hd];simp
 ·intro i hi hp
  rw [scAt hi] at hp;obtain ⟨-,p2,p3,-⟩:=H.path hk hs hi hp;rw [full hi hp,← List.length_append,full hi hp,List.length_append];exact ⟨p2,p3⟩
 ·intro _
  exact ⟨j0,hj0,by rw [scAt hj0];exact hp0⟩
 ·intro _
  have e : b_9 (f_j h o s).sc (f_j h o s).tails h.st = (lvN h o s).map (List.drop (comN h o s)):=by
   unfold lvN b_9;rw [List.map_map];apply List.map_congr_left;intro i hi;have hi' : i < h.st:=List.mem_range.1 (List.mem_filter.1 hi).1;rw [tlAt hi']
   show _ = List.drop _ ((tlN h o s h.st).getD i [])
   unfold tlN;rw [a_g _ _ hi']
  rw [e];exact m_1 _
end
theorem p_2 (h : Md) (c : Nat) : OnOk h c on0:=by
 refine ⟨Nat.zero_le _,fun _ => ⟨rfl,rfl,rfl⟩,fun q => absurd q (Nat.lt_irrefl _),?_,?_,?_,?_,?_,Nat.zero_le _,?_,?_,fun q => absurd q (Nat.lt_irrefl _),fun q => absurd q (Nat.lt_irrefl _)⟩
 ·intro x hx;cases hx
 ·intro x hx;cases hx
 ·intro x hx;cases hx
 ·intro x hx;cases hx
 ·intro x hx;cases hx
 ·intro i _ _;rfl
 ·intro i _ q;exact absurd q Rat.lt_irrefl
end Go.Pl
namespace Go.Pq
open Go.Pl Go.Proofs
def C133 : Ctx:=⟨tab,sigs,185,[0,1,2,4,5,6,7,8,9,10,11,12,13,14,15,16,17,18,19,20,21,26,57,58,70,71,72,154,155,156],[cell 8 12,cell 8 13,fld 55 15 12,fld 55 15 13,a_ 55,a_ 133,a_ 149,a_ 161],[(62,⟨[true],[],[]⟩)],[],[],[]⟩
theorem n_h (a0 : T) (a1 : T) (y0 : T) (y1 : T) (y2 : T) (I0 : X10 → Prop) (M0 : X10 → Nat) (I1 : X10 → T → Prop) (I2 : X10 → T → X9 → Prop) (M2 : X10 → T → X9 → Nat) (I3 : X11 → Prop) (M3 : X11 → Nat) (h : ∃ y : T,F 34 [.t 60 (G15 a0)] (zo 1 4) [y] ∧ ((!y.bool) = true → True ∧ T.g [kI 0,kI 0,T.b false,T.l [],T.l [],T.l [],T.l [],T.l [],T.l [],T.l [],T.l [],kI 0,T.l [],T.l [],T.l []] = y0 ∧ T.l [] = y1 ∧ kI 4 = y2 ∧ True) ∧ ((!y.bool) = false → ((T.ite (T.ite (ltI a1.int 1) (T.b true) (T.b (ltI (a0.cell 0).int a1.int))).bool (T.b true) (T.b (eqI (a0.cell 11).int (256 : Int)))).bool = true → True ∧ T.g [kI 0,kI 0,T.b false,T.l [],T.l [],T.l [],T.l [],T.l [],T.l [],T.l [],T.l [],kI 0,T.l [],T.l [],T.l []] = y0 ∧ T.l [] = y1 ∧ kI 1 = y2 ∧ True) ∧ ((T.ite (T.ite (ltI a1.int 1) (T.b true) (T.b (ltI (a0.cell 0).int a1.int))).bool (T.b true) (T.b (eqI (a0.cell 11).int (256 : Int)))).bool = false → ∃ y : T,F 59 [.t 29 (G11 a0)] (zo 1 29) [y] ∧ (0 ≤ (y.cell 1).int ∧ (y.cell 1).int ≤ (y.cell 1).int ∧ (↑56 : Int) * (y.cell 1).int ≤ (281474976710656 : Int) ∧ (y.cell 1).int ≤ (9223372036854775807 : Int)) ∧ (0 ≤ (y.cell 1).int ∧ (y.cell 1).int ≤ (y.cell 1).int ∧ (↑24 : Int) * (y.cell 1).int ≤ (281474976710656 : Int) ∧ (y.cell 1).int ≤ (9223372036854775807 : Int)) ∧ (∃ (i : X10),I0 i ∧ R36 a0 a1 (E11 y i.1 (True ∧ E11 y i.1 (kI (addI .i64 (a0.cell 11).int (1 : Int)) = kI (addI .i64 (a0.cell 11).int (1 : Int)) ∧ List.replicate (y.cell 1).int.toNat (T.g [T.b false,T.l [],T.l []]) = i.2.1 ∧ List.replicate (y.cell 1).int.toNat (T.l []) = i.2.2.1 ∧ T.l [] = T.l [] ∧ T.b false = T.b i.2.2.2.1 ∧ y.cell 1 = i.1.cell 1 ∧ kI 0 = kI ↑i.2.2.2.2 ∧ True)))) ∧ (∀ (i : X10),true = true) ∧ ∀ (i : X10),I0 i → (ltI ↑i.2.2.2.2 (i.1.cell 1).int = true → ((eqI (a0.cell 11).int (0 : Int) = true → (Bd ↑i.2.2.2.2 (lenOf (i.1.cell 5).list)) ∧ ∃ i_1 : T,I1 i i_1 ∧ R37 a0 a1 i.1 i.2.1 i.2.2.1 i.2.2.2.1 i.2.2.2.2 (E3 (((i.1.cell 5).list.getD (↑i.2.2.2.2 : Int).toNat T.u).part 0 3) i_1 (True))) ∧ (eqI (a0.cell 11).int (0 : Int) = false → ∃ i_1 : T,I1 i i_1 ∧ R37 a0 a1 i.1 i.2.1 i.2.2.1 i.2.2.2.1 i.2.2.2.2 (T.b false = i_1.cell 0 ∧ T.l [] = i_1.cell 1 ∧ T.l [] = i_1.cell 2 ∧ True))) ∧ (∀ i : T,true = true) ∧ ∀ i_1 : T,I1 i i_1 → (∃ (i_2 : X9),I2 i i_1 i_2 ∧ R38 a0 a1 i.1 i.2.1 i.2.2.1 i.2.2.2.1 i.2.2.2.2 (T.l [] = i_2.2.1 ∧ E3 i_1 i_2.1 (R34 a0 (kI 0 = kI ↑i_2.2.2 ∧ True)))) ∧ (∀ (i : X9),true = true) ∧ ∀ (i_2 : X9),I2 i i_1 i_2 → (ltI ↑i_2.2.2 (lenOf (a0.cell 12).list) = true → (Bd ↑i_2.2.2 (lenOf (a0.cell 12).list)) ∧ (Bd ↑i_2.2.2 (lenOf (i.1.cell 6).list)) ∧ (Bd ↑i.2.2.2.2 (lenOf (((i.1.cell 6).list.getD (↑i_2.2.2 : Int).toNat T.u).cell 0).list)) ∧ ∃ y : T,F 166 [.t 23 (G3 (((a0.cell 12).list.getD (↑i_2.2.2 : Int).toNat T.u).part 0 3)),.t 23 (((((i.1.cell 6).list.getD (↑i_2.2.2 : Int).toNat T.u).cell 0).list.getD (↑i.2.2.2.2 : Int).toNat T.u).part 0 3)] (zo 2 23) [y] ∧ ∃ y_1 : T,F 117 [.t 23 (G3 y),.t 23 (G3 i_2.1)] (zo 2 2) [y_1] ∧ ∃ y_2 : T,(ltI 0 y_1.int = false ∧ eqI y_1.int 0 = true ∧ True → F 116 [.t 23 (G3 y)] (zo 1 2) [y_2]) ∧ (ltI 0 y_1.int = false ∧ (T.ite (eqI y_1.int 0) (T.b (ltI 0 y_2.int)) (T.b false)).bool = true ∧ True → 0 ≤ (↑i_2.2.2 : Int) ∧ (↑i_2.2.2 : Int) < lenOf (a0.cell 13).list) ∧ ∃ y_3 : T,(ltI 0 y_1.int = false ∧ (T.ite (eqI y_1.int 0) (T.b (ltI 0 y_2.int)) (T.b false)).bool = true ∧ True → F 167 [.t 28 (((a0.cell 13).list.getD (↑i_2.2.2 : Int).toNat T.u).cell 0),.t 28 i_2.2.1] (zo 2 2) [y_3]) ∧ ((T.ite (ltI 0 y_1.int) (T.b true) (T.ite (T.ite (eqI y_1.int 0) (T.b (ltI 0 y_2.int)) (T.b false)).bool (T.b (ltI y_3.int 0)) (T.b false))).bool = true → (Bd ↑i_2.2.2 (lenOf (a0.cell 13).list)) ∧ ∃ (j : X9),I2 i i_1 j ∧ M2 i i_1 j < M2 i i_1 i_2 ∧ R38 a0 a1 i.1 i.2.1 i.2.2.1 i.2.2.2.1 i.2.2.2.2 (((a0.cell 13).list.getD (↑i_2.2.2 : Int).toNat T.u).cell 0 = j.2.1 ∧ E3 y j.1 (R34 a0 (kI (addI .i64 ↑i_2.2.2 1) = kI ↑j.2.2 ∧ True)))) ∧ ((T.ite (ltI 0 y_1.int) (T.b true) (T.ite (T.ite (eqI y_1.int 0) (T.b (ltI 0 y_2.int)) (T.b false)).bool (T.b (ltI y_3.int 0)) (T.b false))).bool = false → ∃ (j : X9),I2 i i_1 j ∧ M2 i i_1 j < M2 i i_1 i_2 ∧ R38 a0 a1 i.1 i.2.1 i.2.2.1 i.2.2.2.1 i.2.2.2.2 (i_2.2.1 = j.2.1 ∧ E3 i_2.1 j.1 (R34 a0 (kI (addI .i64 ↑i_2.2.2 1) = kI ↑j.2.2 ∧ True))))) ∧ (ltI ↑i_2.2.2 (lenOf (a0.cell 12).list) = false → (Bd ↑i.2.2.2.2 (lenOf (i.1.cell 8).list)) ∧ (Bd (subI .i64 a1.int 1) (lenOf (((i.1.cell 8).list.getD (↑i.2.2.2.2 : Int).toNat T.u).cell 0).list)) ∧ ∃ y : T,F 166 [.t 23 (G3 i_2.1),.t 23 (((((i.1.cell 8).list.getD (↑i.2.2.2.2 : Int).toNat T.u).cell 0).list.getD (subI .i64 a1.int 1).toNat T.u).part 0 3)] (zo 2 23) [y] ∧ (Bd ↑i.2.2.2.2 (↑i.2.1.length : Int)) ∧ ∃ y_1 : T,F 69 [.t 60 (T.g [i.1.cell 0,i.1.cell 1,i.1.cell 2,i.1.cell 3,i.1.cell 4,i.1.cell 5,i.1.cell 6,i.1.cell 7,i.1.cell 8,i.1.cell 9,i.1.cell 10,kI (addI .i64 (a0.cell 11).int (1 : Int)),T.l (List.take (i.2.1.set (0 + (↑i.2.2.2.2 : Int).toNat) ((((i.2.1.getD (0 + (↑i.2.2.2.2 : Int).toNat) T.u).setCell 0 (y.cell 0)).setCell 1 (y.cell 1)).setCell 2 (y.cell 2))).length (List.drop 0 (i.2.1.set (0 + (↑i.2.2.2.2 : Int).toNat) ((((i.2.1.getD (0 + (↑i.2.2.2.2 : Int).toNat) T.u).setCell 0 (y.cell 0)).setCell 1 (y.cell 1)).setCell 2 (y.cell 2))))),T.l (List.take i.2.2.1.length (List.drop 0 i.2.2.1)),T.l []]),.t 2 (kI ↑i.2.2.2.2)] (zo 2 4) [y_1] ∧ (y_1.bool = true → ∃ y_2 : T,F 62 [.t 28 i_2.2.1] (zw 1 28) [y_2] ∧ (Rm (y_2.list.length + ((List.replicate 1 (kI 0)).set 0 (kI ↑i.2.2.2.2)).length) 8) ∧ (Bd ↑i.2.2.2.2 (↑i.2.2.1.length : Int)) ∧ ∃ (j : X10),I0 j ∧ M0 j < M0 i ∧ R36 a0 a1 (E11 i.1 j.1 (True ∧ E11 i.1 j.1 (kI (addI .i64 (a0.cell 11).int (1 : Int)) = kI (addI .i64 (a0.cell 11).int (1 : Int)) ∧ i.2.1.set (0 + (↑i.2.2.2.2 : Int).toNat) ((((i.2.1.getD (0 + (↑i.2.2.2.2 : Int).toNat) T.u).setCell 0 (y.cell 0)).setCell 1 (y.cell 1)).setCell 2 (y.cell 2)) = j.2.1 ∧ i.2.2.1.set (0 + (↑i.2.2.2.2 : Int).toNat) (T.l (y_2.list ++ (List.replicate 1 (kI 0)).set 0 (kI ↑i.2.2.2.2))) = j.2.2.1 ∧ T.l [] = T.l [] ∧ T.b true = T.b j.2.2.2.1 ∧ i.1.cell 1 = j.1.cell 1 ∧ kI (addI .i64 ↑i.2.2.2.2 1) = kI ↑j.2.2.2.2 ∧ True)))) ∧ (y_1.bool = false → ∃ (j : X10),I0 j ∧ M0 j < M0 i ∧ R36 a0 a1 (E11 i.1 j.1 (True ∧ E11 i.1 j.1 (kI (addI .i64 (a0.cell 11).int (1 : Int)) = kI (addI .i64 (a0.cell 11).int (1 : Int)) ∧ i.2.1.set (0 + (↑i.2.2.2.2 : Int).toNat) ((((i.2.1.getD (0 + (↑i.2.2.2.2 : Int).toNat) T.u).setCell 0 (y.cell 0)).setCell 1 (y.cell 1)).setCell 2 (y.cell 2)) = j.2.1 ∧ i.2.2.1 = j.2.2.1 ∧ T.l [] = T.l [] ∧ T.b i.2.2.2.1 = T.b j.2.2.2.1 ∧ i.1.cell 1 = j.1.cell 1 ∧ kI (addI .i64 ↑i.2.2.2.2 1) = kI ↑j.2.2.2.2 ∧ True)))))) ∧ (ltI ↑i.2.2.2.2 (i.1.cell 1).int = false → ((!i.2.2.2.1) = true → True ∧ T.g [kI 0,kI 0,T.b false,T.l [],T.l [],T.l [],T.l [],T.l [],T.l [],T.l [],T.l [],kI 0,T.l [],T.l [],T.l []] = y0 ∧ T.l [] = y1 ∧ kI 11 = y2 ∧ True) ∧ ((!i.2.2.2.1) = false → ∃ y : T,F 71 [.t 60 (T.g [i.1.cell 0,i.1.cell 1,i.1.cell 2,i.1.cell 3,i.1.cell 4,i.1.cell 5,i.1.cell 6,i.1.cell 7,i.1.cell 8,i.1.cell 9,i.1.cell 10,kI (addI .i64 (a0.cell 11).int (1 : Int)),T.l (List.take i.2.1.length (List.drop 0 i.2.1)),T.l (List.take i.2.2.1.length (List.drop 0 i.2.2.1)),T.l []]),.t 59 (T.l (List.take i.2.2.1.length (List.drop 0 i.2.2.1)))] (zo 2 2) [y] ∧ (∃ (i_1 : X11),I3 i_1 ∧ R36 a0 a1 (E11 i.1 i_1.1 (kI (addI .i64 (a0.cell 11).int (1 : Int)) = kI (addI .i64 (a0.cell 11).int (1 : Int)) ∧ i.2.1 = i_1.2.1 ∧ i.2.2.1 = i_1.2.2.1 ∧ T.l [] = T.l [] ∧ y = kI ↑i_1.2.2.2.2.1 ∧ T.l [] = i_1.2.2.2.1 ∧ kI ↑i.2.2.1.length = kI ↑i_1.2.2.1.length ∧ kI 0 = kI ↑i_1.2.2.2.2.2 ∧ i.2.2.1.length = i_1.2.2.1.length ∧ True))) ∧ (∀ (i : X11),true = true) ∧ ∀ (i : X11),I3 i → (ltI ↑i.2.2.2.2.2 ↑i.2.2.1.length = true → (Bd ↑i.2.2.2.2.2 (↑i.2.2.1.length : Int)) ∧ ∃ y : T,F 69 [.t 60 (T.g [i.1.cell 0,i.1.cell 1,i.1.cell 2,i.1.cell 3,i.1.cell 4,i.1.cell 5,i.1.cell 6,i.1.cell 7,i.1.cell 8,i.1.cell 9,i.1.cell 10,kI (addI .i64 (a0.cell 11).int (1 : Int)),T.l (List.take i.2.1.length (List.drop 0 i.2.1)),T.l (List.take i.2.2.1.length (List.drop 0 i.2.2.1)),T.l []]),.t 2 (kI ↑i.2.2.2.2.2)] (zo 2 4) [y] ∧ (y.bool = true → (0 ≤ (0 : Int) ∧ 0 ≤ (↑i.2.2.2.2.1 : Int) ∧ (↑i.2.2.2.2.1 : Int) ≤ lenOf ((i.2.2.1.getD (0 + (↑i.2.2.2.2.2 : Int).toNat) T.u).cell 0).list) ∧ ∃ y : T,F 62 [.t 28 (T.l (List.take ((↑i.2.2.2.2.1 : Int) - (0 : Int)).toNat (List.drop 0 ((i.2.2.1.getD (0 + (↑i.2.2.2.2.2 : Int).toNat) T.u).cell 0).list)))] (zw 1 28) [y] ∧ (0 ≤ (↑i.2.2.2.2.1 : Int) ∧ (↑i.2.2.2.2.1 : Int) ≤ lenOf ((i.2.2.1.getD (0 + (↑i.2.2.2.2.2 : Int).toNat) T.u).cell 0).list ∧ lenOf ((i.2.2.1.getD (0 + (↑i.2.2.2.2.2 : Int).toNat) T.u).cell 0).list ≤ lenOf ((i.2.2.1.getD (0 + (↑i.2.2.2.2.2 : Int).toNat) T.u).cell 0).list) ∧ ∃ y_1 : T,F 62 [.t 28 (T.l (List.take (lenOf ((i.2.2.1.getD (0 + (↑i.2.2.2.2.2 : Int).toNat) T.u).cell 0).list - (↑i.2.2.2.2.1 : Int)).toNat (List.drop (↑i.2.2.2.2.1 : Int).toNat ((i.2.2.1.getD (0 + (↑i.2.2.2.2.2 : Int).toNat) T.u).cell 0).list)))] (zw 1 28) [y_1] ∧ (Bd ↑i.2.2.2.2.2 (↑i.2.2.1.length : Int)) ∧ ∃ (j : X11),I3 j ∧ M3 j < M3 i ∧ R36 a0 a1 (E11 i.1 j.1 (kI (addI .i64 (a0.cell 11).int (1 : Int)) = kI (addI .i64 (a0.cell 11).int (1 : Int)) ∧ i.2.1 = j.2.1 ∧ i.2.2.1.set (0 + (↑i.2.2.2.2.2 : Int).toNat) (T.l y_1.list) = j.2.2.1 ∧ T.l [] = T.l [] ∧ kI ↑i.2.2.2.2.1 = kI ↑j.2.2.2.2.1 ∧ T.l y.list = j.2.2.2.1 ∧ kI ↑i.2.2.1.length = kI ↑j.2.2.1.length ∧ kI (addI .i64 ↑i.2.2.2.2.2 1) = kI ↑j.2.2.2.2.2 ∧ i.2.2.1.length = j.2.2.1.length ∧ True))) ∧ (y.bool = false → ∃ (j : X11),I3 j ∧ M3 j < M3 i ∧ R36 a0 a1 (E11 i.1 j.1 (kI (addI .i64 (a0.cell 11).int (1 : Int)) = kI (addI .i64 (a0.cell 11).int (1 : Int)) ∧ i.2.1 = j.2.1 ∧ i.2.2.1 = j.2.2.1 ∧ T.l [] = T.l [] ∧ kI ↑i.2.2.2.2.1 = kI ↑j.2.2.2.2.1 ∧ i.2.2.2.1 = j.2.2.2.1 ∧ kI ↑i.2.2.1.length = kI ↑j.2.2.1.length ∧ kI (addI .i64 ↑i.2.2.2.2.2 1) = kI ↑j.2.2.2.2.2 ∧ i.2.2.1.length = j.2.2.1.length ∧ True)))) ∧ (ltI ↑i.2.2.2.2.2 ↑i.2.2.1.length = false → ∃ y : T,F 118 [.t 59 (T.l (((List.replicate 2 (T.l [])).set 0 (a0.cell 14)).set 1 i.2.2.2.1))] (zo 1 28) [y] ∧ True ∧ T.g [i.1.cell 0,i.1.cell 1,i.1.cell 2,i.1.cell 3,i.1.cell 4,i.1.cell 5,i.1.cell 6,i.1.cell 7,i.1.cell 8,i.1.cell 9,i.1.cell 10,kI (addI .i64 (a0.cell 11).int (1 : Int)),T.l i.2.1,T.l i.2.2.1,y] = y0 ∧ i.2.2.2.1 = y1 ∧ kI 0 = y2 ∧ True)))))) : F 133 [.t 60 a0,.t 2 a1] Z16 [y0,y1,y2] :=
 F_nf C133 (by kernel_rfl) Tryz.func133 (by kernel_rfl) (.two .no (.two .no (.two .no (.two .no (.two .no (.two (.two .no (.lp (fun (ia : X10) => [(a_ 0,AV.t 60 a0),(a_ 1,AV.t 2 a1),(a_ 2,AV.box 60 0 15)] ++ bxS 2 a0 0 Y3 ++ [(a_ 4,AV.box 60 0 15),(cell 4 0,AV.t 2 (T.i IntKind.i64 (0 : Int))),(cell 4 1,AV.t 2 (T.i IntKind.i64 (0 : Int))),(cell 4 2,AV.t 4 (T.b false)),(cell 4 3,AV.t 22 (T.l [])),(cell 4 4,AV.t 22 (T.l [])),(cell 4 5,AV.t 25 (T.l [])),(cell 4 6,AV.t 26 (T.l [])),(cell 4 7,AV.t 25 (T.l [])),(cell 4 8,AV.t 26 (T.l [])),(cell 4 9,AV.t 27 (T.l [])),(cell 4 10,AV.t 28 (T.l [])),(cell 4 11,AV.t 2 (T.i IntKind.i64 (0 : Int))),(cell 4 12,AV.t 25 (T.l [])),(cell 4 13,AV.t 59 (T.l [])),(cell 4 14,AV.t 28 (T.l [])),(a_ 5,AV.t 28 (T.l [])),(a_ 6,AV.t 2 (T.i IntKind.i64 (0 : Int))),(a_ 7,AV.box 29 0 11)] ++ bxS 7 ia.1 0 Y2 ++ [(a_ 8,AV.box 60 0 15)] ++ bxS 8 ia.1 0 Y2 ++ [(cell 8 11,AV.t 2 (T.i IntKind.i64 (addI IntKind.i64 (a0.cell 11).int (1 : Int)))),(cell 8 12,.own 25 0 ia.2.1),(cell 8 13,.own 59 0 ia.2.2.1),(cell 8 14,AV.t 28 (T.l [])),(a_ 9,.t 4 (.b ia.2.2.2.1)),(a_ 57,.t 2 (ia.1.cell 1)),(a_ 58,.t 2 (.i .i64 (ia.2.2.2.2 : Int)))]) I0 M0 (fun (ia : X10) => (.two .no (.two .no (.two (.two .no (.two .no (.two .no (.cut (fun (ib : T) => [(a_ 0,AV.t 60 a0),(a_ 1,AV.t 2 a1),(a_ 2,AV.box 60 0 15)] ++ bxS 2 a0 0 Y3 ++ [(a_ 4,AV.box 60 0 15),(cell 4 0,AV.t 2 (T.i IntKind.i64 (0 : Int))),(cell 4 1,AV.t 2 (T.i IntKind.i64 (0 : Int))),(cell 4 2,AV.t 4 (T.b false)),(cell 4 3,AV.t 22 (T.l [])),(cell 4 4,AV.t 22 (T.l [])),(cell 4 5,AV.t 25 (T.l [])),(cell 4 6,AV.t 26 (T.l [])),(cell 4 7,AV.t 25 (T.l [])),(cell 4 8,AV.t 26 (T.l [])),(cell 4 9,AV.t 27 (T.l [])),(cell 4 10,AV.t 28 (T.l [])),(cell 4 11,AV.t 2 (T.i IntKind.i64 (0 : Int))),(cell 4 12,AV.t 25 (T.l [])),(cell 4 13,AV.t 59 (T.l [])),(cell 4 14,AV.t 28 (T.l [])),(a_ 5,AV.t 28 (T.l [])),(a_ 6,AV.t 2 (T.i IntKind.i64 (0 : Int))),(a_ 7,AV.box 29 0 11)] ++ bxS 7 ia.1 0 Y2 ++ [(a_ 8,AV.box 60 0 15)] ++ bxS 8 ia.1 0 Y2 ++ [(cell 8 11,AV.t 2 (T.i IntKind.i64 (addI IntKind.i64 (a0.cell 11).int (1 : Int)))),(cell 8 12,.own 25 0 ia.2.1),(cell 8 13,.own 59 0 ia.2.2.1),(cell 8 14,AV.t 28 (T.l [])),(a_ 9,.t 4 (.b ia.2.2.2.1)),(a_ 57,.t 2 (ia.1.cell 1)),(a_ 58,.t 2 (.i .i64 (ia.2.2.2.2 : Int))),(a_ 10,.t 2 (.i .i64 (ia.2.2.2.2 : Int))),(a_ 11,.box 23 0 3),(a_ 12,.t 28 (.l []))] ++ bxS 11 ib 0 Y1) (I1 ia) .no (fun (ib : T) => (.two (.two .no (.lp (fun (ic : X9) => [(a_ 0,AV.t 60 a0),(a_ 1,AV.t 2 a1),(a_ 2,AV.box 60 0 15)] ++ bxS 2 a0 0 Y3 ++ [(a_ 4,AV.box 60 0 15),(cell 4 0,AV.t 2 (T.i IntKind.i64 (0 : Int))),(cell 4 1,AV.t 2 (T.i IntKind.i64 (0 : Int))),(cell 4 2,AV.t 4 (T.b false)),(cell 4 3,AV.t 22 (T.l [])),(cell 4 4,AV.t 22 (T.l [])),(cell 4 5,AV.t 25 (T.l [])),(cell 4 6,AV.t 26 (T.l [])),(cell 4 7,AV.t 25 (T.l [])),(cell 4 8,AV.t 26 (T.l [])),(cell 4 9,AV.t 27 (T.l [])),(cell 4 10,AV.t 28 (T.l [])),(cell 4 11,AV.t 2 (T.i IntKind.i64 (0 : Int))),(cell 4 12,AV.t 25 (T.l [])),(cell 4 13,AV.t 59 (T.l [])),(cell 4 14,AV.t 28 (T.l [])),(a_ 5,AV.t 28 (T.l [])),(a_ 6,AV.t 2 (T.i IntKind.i64 (0 : Int))),(a_ 7,AV.box 29 0 11)] ++ bxS 7 ia.1 0 Y2 ++ [(a_ 8,AV.box 60 0 15)] ++ bxS 8 ia.1 0 Y2 ++ [(cell 8 11,AV.t 2 (T.i IntKind.i64 (addI IntKind.i64 (a0.cell 11).int (1 : Int)))),(cell 8 12,AV.own 25 0 ia.2.1),(cell 8 13,AV.own 59 0 ia.2.2.1),(cell 8 14,AV.t 28 (T.l [])),(a_ 9,AV.t 4 (T.b ia.2.2.2.1)),(a_ 57,AV.t 2 (ia.1.cell 1)),(a_ 58,AV.t 2 (T.i IntKind.i64 (↑ia.2.2.2.2 : Int))),(a_ 10,AV.t 2 (T.i IntKind.i64 (↑ia.2.2.2.2 : Int))),(a_ 11,AV.box 23 0 3),(a_ 12,.t 28 ic.2.1)] ++ bxS 11 ic.1 0 Y1 ++ [(a_ 70,AV.t 25 (a0.cell 12)),(a_ 71,AV.t 2 (T.i IntKind.i64 (lenOf (a0.cell 12).list))),(a_ 72,.t 2 (.i .i64 (ic.2.2 : Int)))]) (I2 ia ib) (M2 ia ib) (fun _ => .no))) .no)))))) .no)))))) (.two .no (.two .no (.two .no (.two (.two .no (.lp (fun (id : X11) => [(a_ 0,AV.t 60 a0),(a_ 1,AV.t 2 a1),(a_ 2,AV.box 60 0 15)] ++ bxS 2 a0 0 Y3 ++ [(a_ 4,AV.box 60 0 15),(cell 4 0,AV.t 2 (T.i IntKind.i64 (0 : Int))),(cell 4 1,AV.t 2 (T.i IntKind.i64 (0 : Int))),(cell 4 2,AV.t 4 (T.b false)),(cell 4 3,AV.t 22 (T.l [])),(cell 4 4,AV.t 22 (T.l [])),(cell 4 5,AV.t 25 (T.l [])),(cell 4 6,AV.t 26 (T.l [])),(cell 4 7,AV.t 25 (T.l [])),(cell 4 8,AV.t 26 (T.l [])),(cell 4 9,AV.t 27 (T.l [])),(cell 4 10,AV.t 28 (T.l [])),(cell 4 11,AV.t 2 (T.i IntKind.i64 (0 : Int))),(cell 4 12,AV.t 25 (T.l [])),(cell 4 13,AV.t 59 (T.l [])),(cell 4 14,AV.t 28 (T.l [])),(a_ 5,AV.t 28 (T.l [])),(a_ 6,AV.t 2 (T.i IntKind.i64 (0 : Int))),(a_ 8,AV.box 60 0 15)] ++ bxS 8 id.1 0 Y2 ++ [(cell 8 11,AV.t 2 (T.i IntKind.i64 (addI IntKind.i64 (a0.cell 11).int (1 : Int)))),(cell 8 12,.own 25 0 id.2.1),(cell 8 13,.own 59 0 id.2.2.1),(cell 8 14,AV.t 28 (T.l [])),(a_ 17,.t 2 (.i .i64 (id.2.2.2.2.1 : Int))),(a_ 18,.t 28 id.2.2.2.1),(a_ 155,.t 2 (.i .i64 (id.2.2.1.length : Int))),(a_ 156,.t 2 (.i .i64 (id.2.2.2.2.2 : Int))),(a_ 154,.alias (cell 8 13) 0 59 0 id.2.2.1.length)]) I3 M3 (fun _ => .no))) .no)))))))))) (by kernel_rfl) h
def C26 : Ctx:=⟨tab,sigs,201,[0,1,2,4,5,6,7,8,9,10,11,12,13,14,15,16,17,18,19],[cell 8 12,cell 8 13,fld 44 15 12,fld 44 15 13,a_ 9,a_ 44,a_ 152,a_ 161],[],[],[],[]⟩
theorem p_T (a0 : T) (a1 : T) (y0 : T) (y1 : T) (y2 : T) (I0 : X12 → Prop) (M0 : X12 → Nat) (I1 : X12 → T → Prop) (I2 : X12 → T → X9 → Prop) (M2 : X12 → T → X9 → Nat) (I3 : X13 → Prop) (M3 : X13 → Nat) (h : ∃ y : T,F 32 [.t 60 (G15 a0)] (zo 1 4) [y] ∧ ((!y.bool) = true → True ∧ T.g [kI 0,kI 0,T.b false,T.l [],T.l [],T.l [],T.l [],T.l [],T.l [],T.l [],T.l [],kI 0,T.l [],T.l [],T.l []] = y0 ∧ T.l [] = y1 ∧ kI 4 = y2 ∧ True) ∧ ((!y.bool) = false → ((T.ite (T.ite (ltI a1.int 1) (T.b true) (T.b (ltI (a0.cell 0).int a1.int))).bool (T.b true) (T.b (eqI (a0.cell 11).int (256 : Int)))).bool = true → True ∧ T.g [kI 0,kI 0,T.b false,T.l [],T.l [],T.l [],T.l [],T.l [],T.l [],T.l [],T.l [],kI 0,T.l [],T.l [],T.l []] = y0 ∧ T.l [] = y1 ∧ kI 1 = y2 ∧ True) ∧ ((T.ite (T.ite (ltI a1.int 1) (T.b true) (T.b (ltI (a0.cell 0).int a1.int))).bool (T.b true) (T.b (eqI (a0.cell 11).int (256 : Int)))).bool = false → (∃ (i : X12),I0 i ∧ R39 a0 a1 ([] = i.1 ∧ ([] : List T) = [] ∧ T.l [] = T.l [] ∧ [] = i.2.1 ∧ T.b false = T.b i.2.2.1 ∧ kI 0 = kI ↑i.2.2.2 ∧ True)) ∧ (∀ (i : X12),true = true) ∧ ∀ (i : X12),I0 i → (ltI ↑i.2.2.2 (a0.cell 1).int = true → ((eqI (a0.cell 11).int (0 : Int) = true → (Bd ↑i.2.2.2 (lenOf (a0.cell 5).list)) ∧ ∃ i_1 : T,I1 i i_1 ∧ R41 a0 a1 i.1 (([] : List T) = [] ∧ R40 i.2.1 i.2.2.1 i.2.2.2 (E3 (((a0.cell 5).list.getD (↑i.2.2.2 : Int).toNat T.u).part 0 3) i_1 (True)))) ∧ (eqI (a0.cell 11).int (0 : Int) = false → ∃ i_1 : T,I1 i i_1 ∧ R41 a0 a1 i.1 (([] : List T) = [] ∧ R40 i.2.1 i.2.2.1 i.2.2.2 (T.b false = i_1.cell 0 ∧ T.l [] = i_1.cell 1 ∧ T.l [] = i_1.cell 2 ∧ True)))) ∧ (∀ i : T,true = true) ∧ ∀ i_1 : T,I1 i i_1 → (∃ (i_2 : X9),I2 i i_1 i_2 ∧ R41 a0 a1 i.1 (([] : List T) = [] ∧ R42 i.2.1 i.2.2.1 i.2.2.2 (T.l [] = i_2.2.1 ∧ E3 i_1 i_2.1 (kI 0 = kI ↑i_2.2.2 ∧ True)))) ∧ (∀ (i : X9),true = true) ∧ ∀ (i_2 : X9),I2 i i_1 i_2 → ((T.ite (ltI ↑i_2.2.2 (a0.cell 1).int) (T.b (ltI 0 (a0.cell 11).int)) (T.b false)).bool = true → (Bd ↑i_2.2.2 (lenOf (a0.cell 12).list)) ∧ (Bd ↑i_2.2.2 (lenOf (a0.cell 6).list)) ∧ (Bd ↑i.2.2.2 (lenOf (((a0.cell 6).list.getD (↑i_2.2.2 : Int).toNat T.u).cell 0).list)) ∧ ∃ y : T,F 52 [.t 23 (((a0.cell 12).list.getD (↑i_2.2.2 : Int).toNat T.u).part 0 3),.t 23 (((((a0.cell 6).list.getD (↑i_2.2.2 : Int).toNat T.u).cell 0).list.getD (↑i.2.2.2 : Int).toNat T.u).part 0 3)] (zo 2 23) [y] ∧ (Rm (0 + (a0.cell 14).list.length) 8) ∧ (Bd ↑i_2.2.2 (lenOf (a0.cell 13).list)) ∧ (Rm ((List.replicate 0 (kI 0) ++ (a0.cell 14).list).length + (((a0.cell 13).list.getD (↑i_2.2.2 : Int).toNat T.u).cell 0).list.length) 8) ∧ ∃ y_1 : T,F 23 [.t 23 (G3 y),.t 23 (G3 i_2.1)] (zo 2 2) [y_1] ∧ ∃ y_2 : T,(ltI 0 y_1.int = false ∧ eqI y_1.int 0 = true ∧ True → F 48 [.t 23 (G3 y)] (zo 1 2) [y_2]) ∧ ∃ y_3 : T,(ltI 0 y_1.int = false ∧ (T.ite (eqI y_1.int 0) (T.b (ltI 0 y_2.int)) (T.b false)).bool = true ∧ True → F 41 [.t 28 (T.l (List.replicate 0 (kI 0) ++ (a0.cell 14).list ++ (((a0.cell 13).list.getD (↑i_2.2.2 : Int).toNat T.u).cell 0).list)),.t 28 i_2.2.1] (zo 2 2) [y_3]) ∧ ((T.ite (ltI 0 y_1.int) (T.b true) (T.ite (T.ite (eqI y_1.int 0) (T.b (ltI 0 y_2.int)) (T.b false)).bool (T.b (ltI y_3.int 0)) (T.b false))).bool = true → ∃ (j : X9),I2 i i_1 j ∧ M2 i i_1 j < M2 i i_1 i_2 ∧ R41 a0 a1 i.1 (([] : List T) = [] ∧ R42 i.2.1 i.2.2.1 i.2.2.2 (T.l (List.replicate 0 (kI 0) ++ (a0.cell 14).list ++ (((a0.cell 13).list.getD (↑i_2.2.2 : Int).toNat T.u).cell 0).list) = j.2.1 ∧ E3 y j.1 (kI (addI .i64 ↑i_2.2.2 1) = kI ↑j.2.2 ∧ True)))) ∧ ((T.ite (ltI 0 y_1.int) (T.b true) (T.ite (T.ite (eqI y_1.int 0) (T.b (ltI 0 y_2.int)) (T.b false)).bool (T.b (ltI y_3.int 0)) (T.b false))).bool = false → ∃ (j : X9),I2 i i_1 j ∧ M2 i i_1 j < M2 i i_1 i_2 ∧ R41 a0 a1 i.1 (([] : List T) = [] ∧ R42 i.2.1 i.2.2.1 i.2.2.2 (i_2.2.1 = j.2.1 ∧ E3 i_2.1 j.1 (kI (addI .i64 ↑i_2.2.2 1) = kI ↑j.2.2 ∧ True))))) ∧ ((T.ite (ltI ↑i_2.2.2 (a0.cell 1).int) (T.b (ltI 0 (a0.cell 11).int)) (T.b false)).bool = false → (Bd ↑i.2.2.2 (lenOf (a0.cell 8).list)) ∧ (Bd (subI .i64 a1.int 1) (lenOf (((a0.cell 8).list.getD (↑i.2.2.2 : Int).toNat T.u).cell 0).list)) ∧ ∃ y : T,F 52 [.t 23 (G3 i_2.1),.t 23 (((((a0.cell 8).list.getD (↑i.2.2.2 : Int).toNat T.u).cell 0).list.getD (subI .i64 a1.int 1).toNat T.u).part 0 3)] (zo 2 23) [y] ∧ (Rm ((List.take i.1.length i.1).length + ((List.replicate 1 (T.g [T.b false,T.l [],T.l []])).set 0 (G3 y)).length) 56) ∧ ∃ y_1 : T,F 48 [.t 23 (G3 y)] (zo 1 2) [y_1] ∧ (ltI 0 y_1.int = true → (Rm (0 + i_2.2.1.list.length) 8) ∧ (Rm ((List.replicate 0 (kI 0) ++ i_2.2.1.list).length + ((List.replicate 1 (kI 0)).set 0 (kI ↑i.2.2.2)).length) 8) ∧ (Rm ((List.take i.2.1.length i.2.1).length + ((List.replicate 1 (T.l [])).set 0 (T.l (List.replicate 0 (kI 0) ++ i_2.2.1.list ++ (List.replicate 1 (kI 0)).set 0 (kI ↑i.2.2.2)))).length) 24) ∧ ∃ (j : X12),I0 j ∧ M0 j < M0 i ∧ R39 a0 a1 (List.take i.1.length i.1 ++ (List.replicate 1 (T.g [T.b false,T.l [],T.l []])).set 0 (G3 y) = j.1 ∧ ([] : List T) = [] ∧ T.l [] = T.l [] ∧ List.take i.2.1.length i.2.1 ++ (List.replicate 1 (T.l [])).set 0 (T.l (List.replicate 0 (kI 0) ++ i_2.2.1.list ++ (List.replicate 1 (kI 0)).set 0 (kI ↑i.2.2.2))) = j.2.1 ∧ T.b true = T.b j.2.2.1 ∧ kI (addI .i64 ↑i.2.2.2 1) = kI ↑j.2.2.2 ∧ True)) ∧ (ltI 0 y_1.int = false → (Rm ((List.take i.2.1.length i.2.1).length + ((List.replicate 1 (T.l [])).set 0 (T.l [])).length) 24) ∧ ∃ (j : X12),I0 j ∧ M0 j < M0 i ∧ R39 a0 a1 (List.take i.1.length i.1 ++ (List.replicate 1 (T.g [T.b false,T.l [],T.l []])).set 0 (G3 y) = j.1 ∧ ([] : List T) = [] ∧ T.l [] = T.l [] ∧ List.take i.2.1.length i.2.1 ++ (List.replicate 1 (T.l [])).set 0 (T.l []) = j.2.1 ∧ T.b i.2.2.1 = T.b j.2.2.1 ∧ kI (addI .i64 ↑i.2.2.2 1) = kI ↑j.2.2.2 ∧ True)))) ∧ (ltI ↑i.2.2.2 (a0.cell 1).int = false → ((!i.2.2.1) = true → True ∧ T.g [kI 0,kI 0,T.b false,T.l [],T.l [],T.l [],T.l [],T.l [],T.l [],T.l [],T.l [],kI 0,T.l [],T.l [],T.l []] = y0 ∧ T.l [] = y1 ∧ kI 11 = y2 ∧ True) ∧ ((!i.2.2.1) = false → ∃ y : T,F 53 [.t 60 (T.g [a0.cell 0,a0.cell 1,a0.cell 2,a0.cell 3,a0.cell 4,a0.cell 5,a0.cell 6,a0.cell 7,a0.cell 8,a0.cell 9,a0.cell 10,kI (addI .i64 (a0.cell 11).int (1 : Int)),T.l (List.take i.1.length (List.drop 0 i.1)),T.l (List.take 0 (List.drop 0 [])),T.l []]),.t 59 (T.l (List.take i.2.1.length (List.drop 0 i.2.1)))] (zo 2 2) [y] ∧ (∃ (i_1 : X13),I3 i_1 ∧ R39 a0 a1 (i.1 = i_1.1 ∧ [] = i_1.2.2.1 ∧ T.l [] = i_1.2.2.2.1 ∧ i.2.1 = i_1.2.1 ∧ y = kI ↑i_1.2.2.2.2.1 ∧ kI 0 = kI ↑i_1.2.2.2.2.2 ∧ True)) ∧ (∀ (i : X13),true = true) ∧ ∀ (i : X13),I3 i → (ltI ↑i.2.2.2.2.2 (a0.cell 1).int = true → ∃ y : T,F 54 [.t 60 (T.g [a0.cell 0,a0.cell 1,a0.cell 2,a0.cell 3,a0.cell 4,a0.cell 5,a0.cell 6,a0.cell 7,a0.cell 8,a0.cell 9,a0.cell 10,kI (addI .i64 (a0.cell 11).int (1 : Int)),T.l (List.take i.1.length (List.drop 0 i.1)),T.l (List.take i.2.2.1.length (List.drop 0 i.2.2.1)),i.2.2.2.1]),.t 2 (kI ↑i.2.2.2.2.2)] (zo 2 4) [y] ∧ ((!y.bool) = true → (Rm ((List.take i.2.2.1.length i.2.2.1).length + ((List.replicate 1 (T.l [])).set 0 (T.l [])).length) 24) ∧ ∃ (j : X13),I3 j ∧ M3 j < M3 i ∧ R39 a0 a1 (i.1 = j.1 ∧ List.take i.2.2.1.length i.2.2.1 ++ (List.replicate 1 (T.l [])).set 0 (T.l []) = j.2.2.1 ∧ i.2.2.2.1 = j.2.2.2.1 ∧ i.2.1 = j.2.1 ∧ kI ↑i.2.2.2.2.1 = kI ↑j.2.2.2.2.1 ∧ kI (addI .i64 ↑i.2.2.2.2.2 1) = kI ↑j.2.2.2.2.2 ∧ True)) ∧ ((!y.bool) = false → (Bd ↑i.2.2.2.2.2 (↑i.2.1.length : Int)) ∧ (0 ≤ (0 : Int) ∧ 0 ≤ (↑i.2.2.2.2.1 : Int) ∧ (↑i.2.2.2.2.1 : Int) ≤ lenOf ((i.2.1.getD (0 + (↑i.2.2.2.2.2 : Int).toNat) T.u).cell 0).list) ∧ (Rm (0 + (List.take ((↑i.2.2.2.2.1 : Int) - (0 : Int)).toNat (List.drop 0 ((i.2.1.getD (0 + (↑i.2.2.2.2.2 : Int).toNat) T.u).cell 0).list)).length) 8) ∧ (Bd ↑i.2.2.2.2.2 (↑i.2.1.length : Int)) ∧ (0 ≤ (↑i.2.2.2.2.1 : Int) ∧ (↑i.2.2.2.2.1 : Int) ≤ lenOf ((i.2.1.getD (0 + (↑i.2.2.2.2.2 : Int).toNat) T.u).cell 0).list ∧ lenOf ((i.2.1.getD (0 + (↑i.2.2.2.2.2 : Int).toNat) T.u).cell 0).list ≤ lenOf ((i.2.1.getD (0 + (↑i.2.2.2.2.2 : Int).toNat) T.u).cell 0).list) ∧ (Rm (0 + (List.take (lenOf ((i.2.1.getD (0 + (↑i.2.2.2.2.2 : Int).toNat) T.u).cell 0).list - (↑i.2.2.2.2.1 : Int)).toNat (List.drop (↑i.2.2.2.2.1 : Int).toNat ((i.2.1.getD (0 + (↑i.2.2.2.2.2 : Int).toNat) T.u).cell 0).list)).length) 8) ∧ (Rm ((List.take i.2.2.1.length i.2.2.1).length + ((List.replicate 1 (T.l [])).set 0 (T.l (List.replicate 0 (kI 0) ++ List.take (lenOf ((i.2.1.getD (0 + (↑i.2.2.2.2.2 : Int).toNat) T.u).cell 0).list - (↑i.2.2.2.2.1 : Int)).toNat (List.drop (↑i.2.2.2.2.1 : Int).toNat ((i.2.1.getD (0 + (↑i.2.2.2.2.2 : Int).toNat) T.u).cell 0).list)))).length) 24) ∧ ∃ (j : X13),I3 j ∧ M3 j < M3 i ∧ R39 a0 a1 (i.1 = j.1 ∧ List.take i.2.2.1.length i.2.2.1 ++ (List.replicate 1 (T.l [])).set 0 (T.l (List.replicate 0 (kI 0) ++ List.take (lenOf ((i.2.1.getD (0 + (↑i.2.2.2.2.2 : Int).toNat) T.u).cell 0).list - (↑i.2.2.2.2.1 : Int)).toNat (List.drop (↑i.2.2.2.2.1 : Int).toNat ((i.2.1.getD (0 + (↑i.2.2.2.2.2 : Int).toNat) T.u).cell 0).list))) = j.2.2.1 ∧ T.l (List.replicate 0 (kI 0) ++ List.take ((↑i.2.2.2.2.1 : Int) - (0 : Int)).toNat (List.drop 0 ((i.2.1.getD (0 + (↑i.2.2.2.2.2 : Int).toNat) T.u).cell 0).list)) = j.2.2.2.1 ∧ i.2.1 = j.2.1 ∧ kI ↑i.2.2.2.2.1 = kI ↑j.2.2.2.2.1 ∧ kI (addI .i64 ↑i.2.2.2.2.2 1) = kI ↑j.2.2.2.2.2 ∧ True))) ∧ (ltI ↑i.2.2.2.2.2 (a0.cell 1).int = false → (0 ≤ lenOf (a0.cell 14).list ∧ lenOf (a0.cell 14).list ≤ lenOf i.2.2.2.1.list ∧ lenOf i.2.2.2.1.list ≤ lenOf i.2.2.2.1.list) ∧ (Rm (0 + (List.take (lenOf i.2.2.2.1.list - lenOf (a0.cell 14).list).toNat (List.drop (lenOf (a0.cell 14).list).toNat i.2.2.2.1.list)).length) 8) ∧ True ∧ T.g [a0.cell 0,a0.cell 1,a0.cell 2,a0.cell 3,a0.cell 4,a0.cell 5,a0.cell 6,a0.cell 7,a0.cell 8,a0.cell 9,a0.cell 10,kI (addI .i64 (a0.cell 11).int (1 : Int)),T.l i.1,T.l i.2.2.1,i.2.2.2.1] = y0 ∧ T.l (List.replicate 0 (kI 0) ++ List.take (lenOf i.2.2.2.1.list - lenOf (a0.cell 14).list).toNat (List.drop (lenOf (a0.cell 14).list).toNat i.2.2.2.1.list)) = y1 ∧ kI 0 = y2 ∧ True)))))) : F 26 [.t 60 a0,.t 2 a1] Z16 [y0,y1,y2] :=
 F_nf C26 (by kernel_rfl) Tryz.func26 (by kernel_rfl) (.two .no (.two .no (.two .no (.two .no (.two .no (.two .no (.two .no (.two (.two .no (.lp (fun (ia : X12) => [(a_ 0,AV.t 60 a0),(a_ 1,AV.t 2 a1),(a_ 2,AV.box 60 0 15)] ++ bxS 2 a0 0 Y3 ++ [(a_ 4,AV.box 60 0 15),(cell 4 0,AV.t 2 (T.i IntKind.i64 (0 : Int))),(cell 4 1,AV.t 2 (T.i IntKind.i64 (0 : Int))),(cell 4 2,AV.t 4 (T.b false)),(cell 4 3,AV.t 22 (T.l [])),(cell 4 4,AV.t 22 (T.l [])),(cell 4 5,AV.t 25 (T.l [])),(cell 4 6,AV.t 26 (T.l [])),(cell 4 7,AV.t 25 (T.l [])),(cell 4 8,AV.t 26 (T.l [])),(cell 4 9,AV.t 27 (T.l [])),(cell 4 10,AV.t 28 (T.l [])),(cell 4 11,AV.t 2 (T.i IntKind.i64 (0 : Int))),(cell 4 12,AV.t 25 (T.l [])),(cell 4 13,AV.t 59 (T.l [])),(cell 4 14,AV.t 28 (T.l [])),(a_ 5,AV.t 28 (T.l [])),(a_ 6,AV.t 2 (T.i IntKind.i64 (0 : Int))),(a_ 7,AV.box 29 0 11)] ++ bxS 7 a0 0 Y2 ++ [(a_ 8,AV.box 60 0 15)] ++ bxS 8 a0 0 Y2 ++ [(cell 8 11,AV.t 2 (T.i IntKind.i64 (addI IntKind.i64 (a0.cell 11).int (1 : Int)))),(cell 8 12,.own 25 0 ia.1),(cell 8 13,AV.own 59 0 []),(cell 8 14,AV.t 28 (T.l [])),(a_ 9,.own 59 0 ia.2.1),(a_ 10,.t 4 (.b ia.2.2.1)),(a_ 11,.t 2 (.i .i64 (ia.2.2.2 : Int)))]) I0 M0 (fun (ia : X12) => (.two .no (.two (.two .no (.cut (fun (ib : T) => [(a_ 0,AV.t 60 a0),(a_ 1,AV.t 2 a1),(a_ 2,AV.box 60 0 15)] ++ bxS 2 a0 0 Y3 ++ [(a_ 4,AV.box 60 0 15),(cell 4 0,AV.t 2 (T.i IntKind.i64 (0 : Int))),(cell 4 1,AV.t 2 (T.i IntKind.i64 (0 : Int))),(cell 4 2,AV.t 4 (T.b false)),(cell 4 3,AV.t 22 (T.l [])),(cell 4 4,AV.t 22 (T.l [])),(cell 4 5,AV.t 25 (T.l [])),(cell 4 6,AV.t 26 (T.l [])),(cell 4 7,AV.t 25 (T.l [])),(cell 4 8,AV.t 26 (T.l [])),(cell 4 9,AV.t 27 (T.l [])),(cell 4 10,AV.t 28 (T.l [])),(cell 4 11,AV.t 2 (T.i IntKind.i64 (0 : Int))),(cell 4 12,AV.t 25 (T.l [])),(cell 4 13,AV.t 59 (T.l [])),(cell 4 14,AV.t 28 (T.l [])),(a_ 5,AV.t 28 (T.l [])),(a_ 6,AV.t 2 (T.i IntKind.i64 (0 : Int))),(a_ 7,AV.box 29 0 11)] ++ bxS 7 a0 0 Y2 ++ [(a_ 8,AV.box 60 0 15)] ++ bxS 8 a0 0 Y2 ++ [(cell 8 11,AV.t 2 (T.i IntKind.i64 (addI IntKind.i64 (a0.cell 11).int (1 : Int)))),(cell 8 12,.own 25 0 ia.1),(cell 8 13,AV.own 59 0 []),(cell 8 14,AV.t 28 (T.l [])),(a_ 9,.own 59 0 ia.2.1),(a_ 10,.t 4 (.b ia.2.2.1)),(a_ 11,.t 2 (.i .i64 (ia.2.2.2 : Int))),(a_ 12,.box 23 0 3),(a_ 13,.t 28 (.l []))] ++ bxS 12 ib 0 Y1) (I1 ia) .no (fun (ib : T) => (.two (.two .no (.lp (fun (ic : X9) => [(a_ 0,AV.t 60 a0),(a_ 1,AV.t 2 a1),(a_ 2,AV.box 60 0 15)] ++ bxS 2 a0 0 Y3 ++ [(a_ 4,AV.box 60 0 15),(cell 4 0,AV.t 2 (T.i IntKind.i64 (0 : Int))),(cell 4 1,AV.t 2 (T.i IntKind.i64 (0 : Int))),(cell 4 2,AV.t 4 (T.b false)),(cell 4 3,AV.t 22 (T.l [])),(cell 4 4,AV.t 22 (T.l [])),(cell 4 5,AV.t 25 (T.l [])),(cell 4 6,AV.t 26 (T.l [])),(cell 4 7,AV.t 25 (T.l [])),(cell 4 8,AV.t 26 (T.l [])),(cell 4 9,AV.t 27 (T.l [])),(cell 4 10,AV.t 28 (T.l [])),(cell 4 11,AV.t 2 (T.i IntKind.i64 (0 : Int))),(cell 4 12,AV.t 25 (T.l [])),(cell 4 13,AV.t 59 (T.l [])),(cell 4 14,AV.t 28 (T.l [])),(a_ 5,AV.t 28 (T.l [])),(a_ 6,AV.t 2 (T.i IntKind.i64 (0 : Int))),(a_ 7,AV.box 29 0 11)] ++ bxS 7 a0 0 Y2 ++ [(a_ 8,AV.box 60 0 15)] ++ bxS 8 a0 0 Y2 ++ [(cell 8 11,AV.t 2 (T.i IntKind.i64 (addI IntKind.i64 (a0.cell 11).int (1 : Int)))),(cell 8 12,AV.own 25 0 ia.1),(cell 8 13,AV.own 59 0 []),(cell 8 14,AV.t 28 (T.l [])),(a_ 9,AV.own 59 0 ia.2.1),(a_ 10,AV.t 4 (T.b ia.2.2.1)),(a_ 11,AV.t 2 (T.i IntKind.i64 (↑ia.2.2.2 : Int))),(a_ 12,AV.box 23 0 3),(a_ 13,.t 28 ic.2.1)] ++ bxS 12 ic.1 0 Y1 ++ [(a_ 14,.t 2 (.i .i64 (ic.2.2 : Int)))]) (I2 ia ib) (M2 ia ib) (fun _ => .no))) .no)))) .no))))) (.two .no (.two .no (.two (.two .no (.lp (fun (id : X13) => [(a_ 0,AV.t 60 a0),(a_ 1,AV.t 2 a1),(a_ 2,AV.box 60 0 15)] ++ bxS 2 a0 0 Y3 ++ [(a_ 4,AV.box 60 0 15),(cell 4 0,AV.t 2 (T.i IntKind.i64 (0 : Int))),(cell 4 1,AV.t 2 (T.i IntKind.i64 (0 : Int))),(cell 4 2,AV.t 4 (T.b false)),(cell 4 3,AV.t 22 (T.l [])),(cell 4 4,AV.t 22 (T.l [])),(cell 4 5,AV.t 25 (T.l [])),(cell 4 6,AV.t 26 (T.l [])),(cell 4 7,AV.t 25 (T.l [])),(cell 4 8,AV.t 26 (T.l [])),(cell 4 9,AV.t 27 (T.l [])),(cell 4 10,AV.t 28 (T.l [])),(cell 4 11,AV.t 2 (T.i IntKind.i64 (0 : Int))),(cell 4 12,AV.t 25 (T.l [])),(cell 4 13,AV.t 59 (T.l [])),(cell 4 14,AV.t 28 (T.l [])),(a_ 5,AV.t 28 (T.l [])),(a_ 6,AV.t 2 (T.i IntKind.i64 (0 : Int))),(a_ 7,AV.box 29 0 11)] ++ bxS 7 a0 0 Y2 ++ [(a_ 8,AV.box 60 0 15)] ++ bxS 8 a0 0 Y2 ++ [(cell 8 11,AV.t 2 (T.i IntKind.i64 (addI IntKind.i64 (a0.cell 11).int (1 : Int)))),(cell 8 12,.own 25 0 id.1),(cell 8 13,.own 59 0 id.2.2.1),(cell 8 14,.t 28 id.2.2.2.1),(a_ 9,.own 59 0 id.2.1),(a_ 18,.t 2 (.i .i64 (id.2.2.2.2.1 : Int))),(a_ 19,.t 2 (.i .i64 (id.2.2.2.2.2 : Int)))]) I3 M3 (fun _ => .no))) .no))))))))))) (by kernel_rfl) h
end Go.Pq
namespace Go.Pl
def scP (h : Md) (o : On) (s k : Nat) : List Rat:=scN h o s k ++ List.replicate (h.st - k) 0
def tlP (h : Md) (o : On) (s k : Nat) : List (List Nat):=tlN h o s k ++ List.replicate (h.st - k) []
def tlD (h : Md) (o : On) (s k : Nat) : List (List Nat):=(List.range h.st).map fun m => if m < k then (t_ h o s m).drop (comN h o s) else t_ h o s m
def h_x : T:=T.g [T.i .i64 0,T.i .i64 0,T.b false,T.l [],T.l [],T.l [],T.l [],T.l [],T.l [],T.l [],T.l [],T.i .i64 0,T.l [],T.l [],T.l []]
theorem f_3 (p b : Rat) (t u : List Nat) : (T.ite (ltI 0 (cmpQ p b)) (T.b true) (T.ite (T.ite (eqI (cmpQ p b) 0) (T.b (ltI 0 (sgnZ p.num))) (T.b false)).bool (T.b (ltI (cmpL t u) 0)) (T.b false))).bool = better p b t u:=by
 unfold better;have e1 : ltI 0 (cmpQ p b) = decide (b < p):=by unfold ltI;exact decide_eq_decide.2 e_m
 have e2 : eqI (cmpQ p b) 0 = decide (p = b):=by unfold eqI;exact decide_eq_decide.2 b_H
 have e3 : ltI 0 (sgnZ p.num) = decide (0 < p):=by unfold ltI;exact decide_eq_decide.2 (c_l.trans f_A)
 have e4 : ltI (cmpL t u) 0 = decide (cmpL t u < 0):=rfl;rw [e1,e2,e3,e4];cases decide (b < p) <;> cases decide (p = b) <;> cases decide (0 < p) <;> cases decide (cmpL t u < 0) <;> rfl
theorem map_set {α : Type} (f : Nat → α) (n k : Nat) (v : α) : ((List.range n).map f).set k v = (List.range n).map fun m => if m = k then v else f m:=by
 apply List.ext_getElem
 ·simp
 ·intro i h1 h2
  simp only [List.length_map,List.length_range] at h2;rw [List.getElem_set];simp only [List.getElem_map,List.getElem_range]
  by_cases e : k = i
  ·subst e;simp
  ·rw [if_neg e,if_neg (Ne.symm e)]
theorem p_j (l : List Rat) (k : Nat) (x : Rat) : (ratL l).set k (ratT x) = ratL (l.set k x):=by simp [ratL,List.map_set]
theorem h_w (l : List (List Nat)) (k : Nat) (x : List Nat) : (G_ l).set k (intT x) = G_ (l.set k x):=by simp [G_,List.map_set]
theorem b_A (l : List (List Nat)) : (G_ l).length = l.length:=by simp [G_]
theorem c_e (h : Md) (o : On) (s k : Nat) : (scN h o s k).length = k:=by simp [scN]
theorem i_e (h : Md) (o : On) (s k : Nat) : (tlN h o s k).length = k:=by simp [tlN]
theorem n_2 {h : Md} {o : On} {s k : Nat} (hk : k ≤ h.st) : (scP h o s k).length = h.st:=by simp [scP,c_e];omega
theorem s_F {h : Md} {o : On} {s k : Nat} (hk : k ≤ h.st) : (tlP h o s k).length = h.st:=by simp [tlP,i_e];omega
theorem l_j (h : Md) (o : On) (s k : Nat) : scN h o s (k + 1) = scN h o s k ++ [W_ h o s k]:=by simp [scN,List.range_succ]
theorem l_r (h : Md) (o : On) (s k : Nat) : tlN h o s (k + 1) = tlN h o s k ++ [t_ h o s k]:=by simp [tlN,List.range_succ]
theorem s_r {h : Md} {o : On} {s k : Nat} (hk : k < h.st) : (scP h o s k).set k (W_ h o s k) = scP h o s (k + 1):=by
 unfold scP;rw [d_f _ _ _ _ (c_e h o s k) (by omega),l_j];rfl
theorem s_G {h : Md} {o : On} {s k : Nat} (hk : k < h.st) : (tlP h o s k).set k (t_ h o s k) = tlP h o s (k + 1):=by
 unfold tlP;rw [d_f _ _ _ _ (i_e h o s k) (by omega),l_r];rfl
theorem p_F {h : Md} {o : On} {s k : Nat} (hk : k < h.st) (hd : t_ h o s k = []) : tlP h o s (k + 1) = tlP h o s k:=by
 unfold tlP;rw [l_r,hd];obtain ⟨m,hm⟩ : ∃ m,h.st - k = m + 1:=⟨h.st - k - 1,by omega⟩;rw [hm,show h.st - (k + 1) = m from by omega,List.replicate_succ,List.append_assoc];rfl
theorem s_q (h : Md) (o : On) (s : Nat) : scP h o s h.st = scN h o s h.st:=by simp [scP]
theorem s_E (h : Md) (o : On) (s : Nat) : tlP h o s h.st = tlN h o s h.st:=by simp [tlP]
theorem u_j {h : Md} {o : On} {s k i : Nat} (hi : i < k) : (scP h o s k).getD i 0 = W_ h o s i:=by
 unfold scP;rw [List.getD_eq_getElem?_getD,List.getElem?_append_left (by rw [c_e];exact hi),← List.getD_eq_getElem?_getD];exact a_g _ _ hi
theorem i_d (h : Md) (o : On) (s k : Nat) : (tlD h o s k).length = h.st:=by simp [tlD]
theorem p_E (h : Md) (o : On) (s : Nat) : tlD h o s 0 = tlN h o s h.st:=by simp [tlD,tlN]
theorem s_B (h : Md) (o : On) (s : Nat) : tlD h o s h.st = (tlN h o s h.st).map (List.drop (comN h o s)):=by
 unfold tlD tlN;rw [List.map_map];apply List.map_congr_left;intro i hi;rw [if_pos (List.mem_range.1 hi)];rfl
theorem u_s {h : Md} {o : On} {s k : Nat} (hk : k < h.st) : (tlD h o s k).getD k [] = t_ h o s k:=by
 unfold tlD;rw [a_g _ _ hk,if_neg (Nat.lt_irrefl _)]
theorem s_C {h : Md} {o : On} {s k : Nat} : (tlD h o s k).set k ((t_ h o s k).drop (comN h o s)) = tlD h o s (k + 1):=by
 unfold tlD;rw [map_set];apply List.map_congr_left;intro i _
 by_cases e : i = k
 ·subst e;rw [if_pos rfl,if_pos (by omega)]
 ·rw [if_neg e]
  by_cases q : i < k
  ·rw [if_pos q,if_pos (by omega)]
  ·rw [if_neg q,if_neg (by omega)]
theorem p_D {h : Md} {o : On} {s k : Nat} (hd : t_ h o s k = []) : tlD h o s (k + 1) = tlD h o s k:=by
 unfold tlD;apply List.map_congr_left;intro i _
 by_cases e : i = k
 ·subst e;rw [if_pos (by omega),if_neg (by omega),hd];simp
 ·by_cases q : i < k
  ·rw [if_pos q,if_pos (by omega)]
  ·rw [if_neg q,if_neg (by omega)]
def anyN (h : Md) (o : On) (s k : Nat) : Bool:=decide (∃ j,j < k ∧ 0 < W_ h o s j)
theorem f_J {h : Md} {o : On} {s k : Nat} (hp : 0 < W_ h o s k) : anyN h o s (k + 1) = true:=decide_eq_true ⟨k,by omega,hp⟩
theorem h_C {h : Md} {o : On} {s k : Nat} (hp : ¬ 0 < W_ h o s k) : anyN h o s (k + 1) = anyN h o s k:=by
 unfold anyN;rw [decide_eq_decide]
 constructor
 ·rintro ⟨j,h1,h2⟩
  by_cases e : j = k
  ·subst e;exact absurd h2 hp
  ·exact ⟨j,by omega,h2⟩
 ·rintro ⟨j,h1,h2⟩;exact ⟨j,by omega,h2⟩
theorem a_U (h : Md) (o : On) (j i : Nat) : A_ h o j (i + 1) =
  if better (o.sc.getD i 0 * (h.trans.getD i []).getD j 0) (A_ h o j i).1 (o.tails.getD i []) (tl (A_ h o j i).2) then (o.sc.getD i 0 * (h.trans.getD i []).getD j 0,some (o.tails.getD i [])) else A_ h o j i:=rfl
end Go.Pl
namespace Go.Pq
open Go.Pl Go.Proofs
theorem p_7 {h : Md} {c : Nat} {o : On} (hk : MdOk h c) (H : OnOk h c o) (s : Nat) (hs : 1 ≤ s ∧ s ≤ h.sym) (ht : o.time < 256) (y0 y1 : T) (y2 : Int)
  (r1 : f_I h o s = true → y0 = onT h (f_j h o s) ∧ y1 = intT (S_ h o s) ∧ y2 = 0) (r2 : f_I h o s = false → y0 = h_x ∧ y1 = .l [] ∧ y2 = 11) :
  F 133 [.t 60 (onT h o),.t 2 (.i .i64 (s : Int))] Z16 [y0,y1,.i .i64 y2]:=by
 have hst:=hk.st;have hsy:=hk.sym;have hr:=H.rl30 hk;have hcc:=hk.cc;refine n_h _ _ _ _ _
  (fun i => i.1 = hidT h ∧ i.2.1 = ratL (scP h o s i.2.2.2.2) ∧ i.2.2.1 = G_ (tlP h o s i.2.2.2.2) ∧ i.2.2.2.1 = anyN h o s i.2.2.2.2 ∧ i.2.2.2.2 ≤ h.st)
  (fun i => h.st - i.2.2.2.2)
  (fun i x => x = ratT (A_ h o i.2.2.2.2 0).1)
  (fun i _ j => i.2.2.2.2 < h.st ∧ j.1 = ratT (A_ h o i.2.2.2.2 j.2.2).1 ∧ j.2.1 = intT (tl (A_ h o i.2.2.2.2 j.2.2).2) ∧ j.2.2 ≤ o.sc.length)
  (fun _ _ j => o.sc.length - j.2.2)
  (fun i => i.1 = hidT h ∧ i.2.1 = ratL (scN h o s h.st) ∧ i.2.2.1 = G_ (tlD h o s i.2.2.2.2.2) ∧ i.2.2.2.1 = (if anyN h o s i.2.2.2.2.2 then intT (S_ h o s) else .l []) ∧ i.2.2.2.2.1 = comN h o s ∧ i.2.2.2.2.2 ≤ h.st)
  (fun i => h.st - i.2.2.2.2.2) ?_
 rw [c_q,k_4,c_r,k_g,d_F,e_a,k_5,z_,b_f,k_,a_D.2 (by omega : (o.time : Int) ≠ 256),l_.2 (by omega : (1 : Int) ≤ (s : Int)),l_.2 (by omega : (s : Int) ≤ (h.sym : Int))];refine ⟨_,f_U hk H,fun q => (by cases q),fun _ => ⟨fun q => (by cases q),fun _ => ⟨_,b_U h c hk,?_⟩⟩⟩;rw [d_P];refine ⟨⟨by omega,by omega,by omega,by omega⟩,⟨by omega,by omega,by omega,by omega⟩,⟨(hidT h,ratL (scP h o s 0),G_ (tlP h o s 0),false,0),⟨rfl,rfl,rfl,rfl,Nat.zero_le _⟩,?_⟩,fun _ => rfl,?_⟩
 ·rw [Int.toNat_natCast]
  have e1 : List.replicate h.st (T.g [T.b false,T.l [],T.l []]) = ratL (scP h o s 0):=by
   rw [← e_z];simp [scP,scN,ratL]
  have e2 : List.replicate h.st (T.l []) = G_ (tlP h o s 0):=by
   simp [tlP,tlN,G_,intT,intL]
  rw [e1,e2];exact (by and_intros <;> first | exact trivial | rfl | (rw [c_ (by omega)];rfl))
 rintro ⟨md,scs,tls,sm,k⟩ ⟨hmd,hsc,htl,hsm,hkk⟩;dsimp only at hmd hsc htl hsm hkk ⊢;subst hmd hsc htl hsm;rw [d_P,c_Q,b_K,c_h];refine ⟨fun h1 => ?_,fun h1 => ?_⟩
 ·rw [d_] at h1
  have hlt : k < h.st:=by omega
  refine ⟨⟨fun h0 => ⟨⟨by omega,by rw [z_,hk.init];omega⟩,ratT (A_ h o k 0).1,rfl,?_⟩,fun h0 => ⟨ratT (A_ h o k 0).1,rfl,?_⟩⟩,fun _ => rfl,?_⟩
  ·rw [M_] at h0
   have e : (A_ h o k 0).1 = h.init.getD k 0:=by unfold A_;rw [if_pos (by omega)]
   rw [e,hk.it hlt,C_];exact (by and_intros <;> first | exact trivial | rfl | (rw [c_ (by omega)];rfl))
  ·rw [a_D] at h0
   have e : (A_ h o k 0).1 = 0:=by unfold A_;rw [if_neg (by omega)]
   rw [e,e_z];exact (by and_intros <;> first | exact trivial | rfl | (rw [c_ (by omega)];rfl))
  rintro _ rfl;refine ⟨⟨(ratT (A_ h o k 0).1,intT [],0),⟨hlt,rfl,rfl,Nat.zero_le _⟩,(by and_intros <;> first | exact trivial | rfl | (rw [c_ (by omega)];rfl))⟩,fun _ => rfl,?_⟩
  all_goals
   rintro ⟨bt,tt,m⟩ ⟨-,hbt,htt,hm⟩;dsimp only at hbt htt hm ⊢;subst hbt htt;obtain ⟨b1,b2,b3⟩:=H.h_F hk hlt m hm;have b4 : rl (A_ h o k m).1 ≤ 2 ^ 20:=by
    have h3:=H.time;have h5 : 2 * o.time * c ≤ 2 * 256 * 2 ^ 10:=Nat.mul_le_mul (by omega) hcc.2;omega
   refine ⟨fun h2 => ?_,fun h2 => ?_⟩
   ·rw [d_] at h2
    have hml : m < o.sc.length:=by omega
    have hz : 0 < o.time:=by
     rcases Nat.eq_zero_or_pos o.time with q | q
     ·rw [(H.zero q).1] at hml;simp at hml
     ·exact q
    obtain ⟨l1,l2⟩:=H.lens hz;have hmst : m < h.st:=by omega
    have q1:=hr _ (r_ (d:=(0 : Rat)) hml);have q2:=(hk.trq hmst _ (r_ (d:=(0 : Rat)) (show k < (h.trans.getD m []).length by rw [hk.trl hmst];exact hlt))).1;have q3:=h_n (o.sc.getD m 0) ((h.trans.getD m []).getD k 0);have q4:=H.tlen _ (r_ (d:=([] : List Nat)) (show m < o.tails.length by omega));have q5 : (tl (A_ h o k m).2).length ≤ 256:=by
     rcases b3 with ⟨e,-⟩ | ⟨i,-,e1,-,e⟩
     ·rw [e];exact Nat.zero_le _
     ·rw [e];exact H.tlen _ (r_ (d:=([] : List Nat)) (show i < o.tails.length by omega))
    rw [a_X _ hml,hk.tr hmst,a_h,a_x,hk.trans,z_,hk.trl hmst,a_X _ (show k < (h.trans.getD m []).length by rw [hk.trl hmst];exact hlt),C_,C_,b_n _ (show m < o.tails.length by omega),b_t];refine ⟨⟨by omega,by omega⟩,⟨by omega,by omega⟩,⟨by omega,by omega⟩,_,r_5 _ _ (by omega) (by omega),_,b_1 _ _ (by omega) (by omega),_,fun _ => e_e _ (by omega),fun _ => ⟨by omega,by omega⟩,_,fun _ => p_R _ _ (by omega) (by omega),?_⟩;rw [k_,k_,k_,f_3];refine ⟨fun hb => ⟨⟨by omega,by omega⟩,?_⟩,fun hb => ?_⟩
    ·refine ⟨(ratT (o.sc.getD m 0 * (h.trans.getD m []).getD k 0),intT (o.tails.getD m []),m + 1),⟨hlt,?_,?_,hml⟩,by dsimp only;omega,(by and_intros <;> first | exact trivial | rfl | (rw [c_ (by omega)];rfl))⟩
     ·dsimp only;rw [a_U,if_pos hb]
     ·dsimp only;rw [a_U,if_pos hb];rfl
    ·refine ⟨(ratT (A_ h o k m).1,intT (tl (A_ h o k m).2),m + 1),⟨hlt,?_,?_,hml⟩,by dsimp only;omega,(by and_intros <;> first | exact trivial | rfl | (rw [c_ (by omega)];rfl))⟩
     ·dsimp only;rw [a_U,if_neg (by rw [hb];decide)]
     ·dsimp only;rw [a_U,if_neg (by rw [hb];decide)]
   ·rw [l_] at h2
    have hme : m = o.sc.length:=by omega
    subst hme;have hse : s - 1 < (h.emit.getD k []).length:=by rw [hk.eml hlt];omega
    have q1:=(hk.emq hlt _ (r_ (d:=(0 : Rat)) hse)).1;obtain ⟨n1,n2,n3⟩:=H.k_t hk hs hlt;have n4 : ∀ x ∈ scP h o s (k + 1),rl x ≤ 2 ^ 20:=by
     intro x hx
     rcases List.mem_append.1 hx with q | q
     ·obtain ⟨i,hi,rfl⟩:=List.mem_map.1 q
      have hi' := List.mem_range.1 hi
      have:=(H.k_t hk hs (show i < h.st by omega)).2.1
      have h3:=H.time;have h5 : 2 * (o.time + 1) * c ≤ 2 * 257 * 2 ^ 10:=Nat.mul_le_mul (by omega) hcc.2;omega
     ·rw [(List.mem_replicate.1 q).2,f_p];omega
    have hsl:=n_2 (h:=h) (o:=o) (s:=s) hkk;have hsl1:=n_2 (h:=h) (o:=o) (s:=s) (show k + 1 ≤ h.st by omega);have htl:=s_F (h:=h) (o:=o) (s:=s) hkk;rw [hk.em hlt,a_h,a_x,hk.emit,z_,hk.eml hlt,Y_ (by omega),show ((s : Int) - 1) = ((s - 1 : Nat) : Int) from by omega,a_X _ hse,C_];refine ⟨⟨by omega,by omega⟩,⟨by omega,by omega⟩,_,r_5 _ _ (by omega) (by omega),⟨by omega,by rw [d_J,hsl];omega⟩,?_⟩;have e0 : (ratL (scP h o s k)).getD (0 + ((k : Nat) : Int).toNat) T.u = ratT 0:=by
     rw [Nat.zero_add,Int.toNat_natCast,a_W _ (by omega)];unfold scP;rw [k_P _ _ _ _ (c_e h o s k) (by omega)]
    have e1 : (ratL (scP h o s k)).set (0 + ((k : Nat) : Int).toNat) (((((ratL (scP h o s k)).getD (0 + ((k : Nat) : Int).toNat) T.u).setCell 0 ((ratT (W_ h o s k)).cell 0)).setCell 1 ((ratT (W_ h o s k)).cell 1)).setCell 2 ((ratT (W_ h o s k)).cell 2)) = ratL (scP h o s (k + 1)):=by
     rw [e0,Nat.zero_add,Int.toNat_natCast];have : (((ratT 0).setCell 0 ((ratT (W_ h o s k)).cell 0)).setCell 1 ((ratT (W_ h o s k)).cell 1)).setCell 2 ((ratT (W_ h o s k)).cell 2) = ratT (W_ h o s k):=rfl;rw [this,p_j,s_r hlt]
    have e1' := e1;unfold W_ g_X at e1';rw [e1',List.drop_zero,List.drop_zero,q_,q_];have al:=h_A h ⟨o.time + 1,scP h o s (k + 1),tlP h o s k,[]⟩ k (by show k < (scP h o s (k + 1)).length;omega) (by show (scP h o s (k + 1)).length ≤ _;omega) (by have:=n4 _ (r_ (d:=(0 : Rat)) (show k < (scP h o s (k + 1)).length by omega));show rl ((scP h o s (k + 1)).getD k 0) ≤ _;omega);have al2 : ((scP h o s (k + 1)).getD k 0) = W_ h o s k:=u_j (by omega);rw [show (⟨o.time + 1,scP h o s (k + 1),tlP h o s k,[]⟩ : On).sc.getD k 0 = W_ h o s k from al2] at al;rw [c_ (by omega),show ((o.time : Int) + 1) = ((o.time + 1 : Nat) : Int) from by omega];refine ⟨_,al,fun q => ?_,fun q => ?_⟩
    ·have hp : 0 < W_ h o s k:=by
      have : decide (0 < W_ h o s k) = true:=q;simpa using this
     have q5 : (tl (g_X h o k).2).length ≤ 256:=by
      have:=(H.path hk hs hlt hp).2.1
      unfold t_ at this;rw [if_pos hp,List.length_append] at this;simp only [List.length_cons,List.length_nil] at this;omega
     have e2 : (intT (tl (A_ h o k o.sc.length).2)).list ++ (List.replicate 1 (T.i .i64 0)).set 0 (T.i .i64 (k : Int)) = intL (t_ h o s k):=by
      unfold t_;rw [if_pos hp,← a_9];rfl
     have hroom : room = 140737488355328:=rfl;have e3 : (intL (tl (A_ h o k o.sc.length).2)).length ≤ 256:=by rw [T_];exact q5
     refine ⟨_,c_y (intL (tl (A_ h o k o.sc.length).2)) (by omega),⟨?_,?_⟩,⟨by omega,by rw [b_A,htl];omega⟩,?_⟩
     ·show ((intL (tl (A_ h o k o.sc.length).2)).length + 1) * 8 ≤ room
      omega
     ·show (intL (tl (A_ h o k o.sc.length).2)).length + 1 ≤ _
      omega
     ·have e4 : (G_ (tlP h o s k)).set (0 + ((k : Nat) : Int).toNat) (T.l ((T.l (intL (tl (A_ h o k o.sc.length).2))).list ++ (List.replicate 1 (T.i .i64 0)).set 0 (T.i .i64 (k : Int)))) = G_ (tlP h o s (k + 1)):=by
       rw [show (T.l (intL (tl (A_ h o k o.sc.length).2))).list ++ (List.replicate 1 (T.i .i64 0)).set 0 (T.i .i64 (k : Int)) = intL (t_ h o s k) from e2,Nat.zero_add,Int.toNat_natCast];rw [show T.l (intL (t_ h o s k)) = intT (t_ h o s k) from rfl,h_w,s_G hlt]
      rw [e4];refine ⟨(hidT h,ratL (scP h o s (k + 1)),G_ (tlP h o s (k + 1)),true,k + 1),⟨rfl,rfl,rfl,(f_J hp).symm,hlt⟩,by dsimp only;omega,(by and_intros <;> first | exact trivial | rfl | (rw [c_ (by omega)];rfl))⟩
    ·have hp : ¬ 0 < W_ h o s k:=by
      have : decide (0 < W_ h o s k) = false:=q;simpa using this
     have hd : t_ h o s k = []:=by unfold t_;rw [if_neg hp]
     refine ⟨(hidT h,ratL (scP h o s (k + 1)),G_ (tlP h o s k),anyN h o s k,k + 1),⟨rfl,rfl,?_,?_,hlt⟩,by dsimp only;omega,(by and_intros <;> first | exact trivial | rfl | (rw [c_ (by omega)];rfl))⟩
     ·dsimp only;rw [p_F hlt hd]
     ·dsimp only;rw [h_C hp]
 ·rw [l_] at h1
  have hke : k = h.st:=by omega
  subst hke;refine ⟨fun q => ?_,fun q => ?_⟩
  ·have ha : f_I h o s = false:=by
    have e : (!anyN h o s h.st) = true:=q;have : anyN h o s h.st = false:=by simpa using e
    exact this
   obtain ⟨e0,e1,e2⟩:=r2 ha;subst e0 e1 e2;exact ⟨trivial,rfl,rfl,rfl,trivial⟩
  ·have ha : f_I h o s = true:=by
    have e : (!anyN h o s h.st) = false:=q;have : anyN h o s h.st = true:=by simpa using e
    exact this
   obtain ⟨e0,e1,e2⟩:=r1 ha;have n4 : ∀ x ∈ scN h o s h.st,rl x ≤ 2 ^ 20:=by
    intro x hx;obtain ⟨i,hi,rfl⟩:=List.mem_map.1 hx;have hi' := List.mem_range.1 hi
    have:=(H.k_t hk hs hi').2.1
    have h3:=H.time;have h5 : 2 * (o.time + 1) * c ≤ 2 * 257 * 2 ^ 10:=Nat.mul_le_mul (by omega) hcc.2;omega
   have n5 : ∀ i,i < h.st → (t_ h o s i).length ≤ 256:=by
    intro i hi
    by_cases hp : 0 < W_ h o s i
    ·have:=(H.path hk hs hi hp).2.1;omega
    ·unfold t_;rw [if_neg hp];exact Nat.zero_le _
   have n6 : ∀ p ∈ tlN h o s h.st,p.length ≤ 2 ^ 20:=by
    intro x hx;obtain ⟨i,hi,rfl⟩:=List.mem_map.1 hx
    have:=n5 i (List.mem_range.1 hi)
    omega
   have cm:=k_L h ⟨o.time + 1,scN h o s h.st,tlN h o s h.st,[]⟩ (tlN h o s h.st) (by rw [i_e];show _ ≤ (scN h o s h.st).length;rw [c_e];exact Nat.le_refl _) (by show (scN h o s h.st).length ≤ _;rw [c_e];omega) n6
    (fun x hx => by have:=n4 x hx;omega)
   rw [i_e] at cm;rw [s_q,s_E,List.drop_zero,List.drop_zero,q_,q_,c_ (by omega),show ((o.time : Int) + 1) = ((o.time + 1 : Nat) : Int) from by omega];refine ⟨_,cm,⟨(hidT h,ratL (scN h o s h.st),G_ (tlD h o s 0),.l [],comN h o s,0),⟨rfl,rfl,rfl,rfl,rfl,Nat.zero_le _⟩,?_⟩,fun _ => rfl,?_⟩
   ·rw [← p_E]
    exact (by and_intros <;> first | exact trivial | rfl | (rw [c_ (by omega)];rfl))
   rintro ⟨md,scs,tls,cmt,kc,i⟩ ⟨hmd,hsc,htl,hcm,hkc,hi⟩;dsimp only at hmd hsc htl hcm hkc hi ⊢;subst hmd hsc htl hkc;rw [hcm,List.drop_zero,List.drop_zero,q_,q_,b_A,i_d];refine ⟨fun h2 => ?_,fun h2 => ?_⟩
   ·rw [d_] at h2
    have hlt : i < h.st:=by omega
    have hscl:=c_e h o s h.st;have al:=h_A h ⟨o.time + 1,scN h o s h.st,tlD h o s i,[]⟩ i (by show i < (scN h o s h.st).length;omega) (by show (scN h o s h.st).length ≤ _;omega) (by have:=n4 _ (r_ (d:=(0 : Rat)) (show i < (scN h o s h.st).length by omega));show rl ((scN h o s h.st).getD i 0) ≤ _;omega);have al2 : ((scN h o s h.st).getD i 0) = W_ h o s i:=a_g _ _ hlt;rw [show (⟨o.time + 1,scN h o s h.st,tlD h o s i,[]⟩ : On).sc.getD i 0 = W_ h o s i from al2] at al;have hat : (G_ (tlD h o s i)).getD (0 + ((i : Nat) : Int).toNat) T.u = intT (t_ h o s i):=by
     rw [Nat.zero_add,Int.toNat_natCast,e_f _ (by rw [i_d];exact hlt),u_s hlt]
    rw [hat,b_t,D_,a_c,List.drop_zero];have hlen:=n5 i hlt;refine ⟨⟨by omega,by omega⟩,_,al,fun q => ?_,fun q => ?_⟩
    ·have hp : 0 < W_ h o s i:=by
      have : decide (0 < W_ h o s i) = true:=q;simpa using this
     obtain ⟨c1,c2⟩:=H.commit hk hlt hp;have e1 : (((comN h o s : Nat) : Int) - 0).toNat = comN h o s:=by omega
     have e2 : (((t_ h o s i).length : Int) - ((comN h o s : Nat) : Int)).toNat = (t_ h o s i).length - comN h o s:=by omega
     have e3 : ((t_ h o s i).drop (comN h o s)).length = (t_ h o s i).length - comN h o s:=by rw [List.length_drop]
     rw [e1,e2,Int.toNat_natCast,b_7,e_p,b_7,← c1,← e3,q_];have hcl : (S_ h o s).length ≤ 256:=by rw [c1,List.length_take];omega
     refine ⟨⟨by omega,by omega,by omega⟩,_,c_y _ (by rw [T_];omega),⟨by omega,by omega,by omega⟩,_,c_y _ (by rw [T_];omega),⟨by omega,by omega⟩,
      (hidT h,ratL (scN h o s h.st),G_ (tlD h o s (i + 1)),intT (S_ h o s),comN h o s,i + 1),⟨rfl,rfl,rfl,?_,rfl,hlt⟩,by dsimp only;omega,?_⟩
     ·dsimp only;rw [f_J hp];rfl
     ·have e4 : (G_ (tlD h o s i)).set (0 + ((i : Nat) : Int).toNat) (T.l (T.l (intL ((t_ h o s i).drop (comN h o s)))).list) = G_ (tlD h o s (i + 1)):=by
       rw [Nat.zero_add,Int.toNat_natCast];rw [show T.l (T.l (intL ((t_ h o s i).drop (comN h o s)))).list = intT ((t_ h o s i).drop (comN h o s)) from rfl,h_w,s_C]
      rw [e4];dsimp only;rw [b_A,i_d];exact (by and_intros <;> first | exact trivial | rfl | (rw [c_ (by omega)];rfl))
    ·have hp : ¬ 0 < W_ h o s i:=by
      have : decide (0 < W_ h o s i) = false:=q;simpa using this
     have hd : t_ h o s i = []:=by unfold t_;rw [if_neg hp]
     have e5:=p_D (h:=h) (o:=o) (s:=s) hd;refine ⟨(hidT h,ratL (scN h o s h.st),G_ (tlD h o s i),(if anyN h o s i = true then intT (S_ h o s) else T.l []),comN h o s,i + 1),⟨rfl,rfl,?_,?_,rfl,hlt⟩,by dsimp only;omega,?_⟩
     ·dsimp only;rw [e5]
     ·dsimp only;rw [h_C hp]
     ·dsimp only
      rw [b_A,i_d];exact (by and_intros <;> first | exact trivial | rfl | (rw [c_ (by omega)];rfl))
   ·rw [l_] at h2
    have hie : i = h.st:=by omega
    subst hie;have ha' : anyN h o s h.st = true:=ha;rw [if_pos ha'];have hcl : (S_ h o s).length ≤ 256:=by
     obtain ⟨j0,hj0,hp0⟩:=of_decide_eq_true ha;rw [(H.commit hk hj0 hp0).1,List.length_take]
     have:=n5 j0 hj0
     omega
    have c1:=g_d o.done (S_ h o s) (by have:=H.dlen;omega) (by omega);refine ⟨_,c1,trivial,?_,e1.symm,by rw [e2],trivial⟩;rw [e0,s_B];rfl
def C138 : Ctx:=⟨tab,sigs,79,[0,1,2,3,4,5,6,7,8,9,10,23,24,25],[],[],[],[],[]⟩
theorem q_3 (a0 : T) (y0 : T) (y1 : T) (y2 : T) (I0 : X9 → Prop) (M0 : X9 → Nat) (I1 : T → Prop) (h : ∃ y : T,F 34 [.t 60 (G15 a0)] (zo 1 4) [y] ∧ ((!y.bool) = true → True ∧ T.l [] = y0 ∧ T.g [T.b false,T.l [],T.l []] = y1 ∧ kI 4 = y2 ∧ True) ∧ ((!y.bool) = false → ((eqI (a0.cell 11).int (0 : Int) = true → ∃ y : T,F 100 [.t 23 (T.g [a0.cell 2,a0.cell 3,a0.cell 4])] (zo 1 23) [y] ∧ ∃ i : T,I1 i ∧ R43 a0 (E3 y i (T.l [] = T.l [] ∧ True))) ∧ (eqI (a0.cell 11).int (0 : Int) = false → ∃ i : T,I1 i ∧ R43 a0 (T.b false = i.cell 0 ∧ T.l [] = i.cell 1 ∧ T.l [] = i.cell 2 ∧ T.l [] = T.l [] ∧ True))) ∧ (∀ i : T,true = true) ∧ ∀ i : T,I1 i → (∃ (i_1 : X9),I0 i_1 ∧ R43 a0 (E3 i i_1.1 (T.l [] = i_1.2.1 ∧ R34 a0 (kI 0 = kI ↑i_1.2.2 ∧ True)))) ∧ (∀ (i : X9),true = true) ∧ ∀ (i : X9),I0 i → (ltI ↑i.2.2 (lenOf (a0.cell 12).list) = true → (Bd ↑i.2.2 (lenOf (a0.cell 12).list)) ∧ (Bd ↑i.2.2 (lenOf (a0.cell 7).list)) ∧ ∃ y : T,F 166 [.t 23 (G3 (((a0.cell 12).list.getD (↑i.2.2 : Int).toNat T.u).part 0 3)),.t 23 (((a0.cell 7).list.getD (↑i.2.2 : Int).toNat T.u).part 0 3)] (zo 2 23) [y] ∧ ∃ y_1 : T,F 117 [.t 23 (G3 y),.t 23 (G3 i.1)] (zo 2 2) [y_1] ∧ ∃ y_2 : T,(ltI 0 y_1.int = false ∧ eqI y_1.int 0 = true ∧ True → F 116 [.t 23 (G3 y)] (zo 1 2) [y_2]) ∧ (ltI 0 y_1.int = false ∧ (T.ite (eqI y_1.int 0) (T.b (ltI 0 y_2.int)) (T.b false)).bool = true ∧ True → 0 ≤ (↑i.2.2 : Int) ∧ (↑i.2.2 : Int) < lenOf (a0.cell 13).list) ∧ ∃ y_3 : T,(ltI 0 y_1.int = false ∧ (T.ite (eqI y_1.int 0) (T.b (ltI 0 y_2.int)) (T.b false)).bool = true ∧ True → F 167 [.t 28 (((a0.cell 13).list.getD (↑i.2.2 : Int).toNat T.u).cell 0),.t 28 i.2.1] (zo 2 2) [y_3]) ∧ ((T.ite (ltI 0 y_1.int) (T.b true) (T.ite (T.ite (eqI y_1.int 0) (T.b (ltI 0 y_2.int)) (T.b false)).bool (T.b (ltI y_3.int 0)) (T.b false))).bool = true → (Bd ↑i.2.2 (lenOf (a0.cell 13).list)) ∧ ∃ (j : X9),I0 j ∧ M0 j < M0 i ∧ R43 a0 (E3 y j.1 (((a0.cell 13).list.getD (↑i.2.2 : Int).toNat T.u).cell 0 = j.2.1 ∧ R34 a0 (kI (addI .i64 ↑i.2.2 1) = kI ↑j.2.2 ∧ True)))) ∧ ((T.ite (ltI 0 y_1.int) (T.b true) (T.ite (T.ite (eqI y_1.int 0) (T.b (ltI 0 y_2.int)) (T.b false)).bool (T.b (ltI y_3.int 0)) (T.b false))).bool = false → ∃ (j : X9),I0 j ∧ M0 j < M0 i ∧ R43 a0 (E3 i.1 j.1 (i.2.1 = j.2.1 ∧ R34 a0 (kI (addI .i64 ↑i.2.2 1) = kI ↑j.2.2 ∧ True))))) ∧ (ltI ↑i.2.2 (lenOf (a0.cell 12).list) = false → ∃ y : T,F 116 [.t 23 (G3 i.1)] (zo 1 2) [y] ∧ (eqI y.int 0 = true → True ∧ T.l [] = y0 ∧ T.g [T.b false,T.l [],T.l []] = y1 ∧ kI 11 = y2 ∧ True) ∧ (eqI y.int 0 = false → ∃ y : T,F 118 [.t 59 (T.l (((List.replicate 2 (T.l [])).set 0 (a0.cell 14)).set 1 i.2.1))] (zo 1 28) [y] ∧ True ∧ y = y0 ∧ (G3 i.1) = y1 ∧ kI 0 = y2 ∧ True)))) : F 138 [.t 60 a0] Z15 [y0,y1,y2] :=
 F_nf C138 (by kernel_rfl) Tryz.func138 (by kernel_rfl) (.two .no (.two .no (.two .no (.two .no (.cut (fun (ib : T) => [(a_ 0,AV.t 60 a0),(a_ 1,AV.box 60 0 15)] ++ bxS 1 a0 0 Y3 ++ [(a_ 2,AV.t 28 (T.l [])),(a_ 3,AV.box 23 0 3),(cell 3 0,AV.t 4 (T.b false)),(cell 3 1,AV.t 22 (T.l [])),(cell 3 2,AV.t 22 (T.l [])),(a_ 4,AV.t 2 (T.i IntKind.i64 (0 : Int))),(a_ 5,AV.box 23 0 3)] ++ bxS 5 ib 0 Y1 ++ [(a_ 6,.t 28 (.l []))]) I1 .no (fun (ib : T) => (.two (.two .no (.lp (fun (ia : X9) => [(a_ 0,AV.t 60 a0),(a_ 1,AV.box 60 0 15)] ++ bxS 1 a0 0 Y3 ++ [(a_ 2,AV.t 28 (T.l [])),(a_ 3,AV.box 23 0 3),(cell 3 0,AV.t 4 (T.b false)),(cell 3 1,AV.t 22 (T.l [])),(cell 3 2,AV.t 22 (T.l [])),(a_ 4,AV.t 2 (T.i IntKind.i64 (0 : Int))),(a_ 5,AV.box 23 0 3)] ++ bxS 5 ia.1 0 Y1 ++ [(a_ 6,.t 28 ia.2.1),(a_ 23,AV.t 25 (a0.cell 12)),(a_ 24,AV.t 2 (T.i IntKind.i64 (lenOf (a0.cell 12).list))),(a_ 25,.t 2 (.i .i64 (ia.2.2 : Int)))]) I0 M0 (fun _ => .no))) .no))))))) (by kernel_rfl) h
def C96 : Ctx:=⟨tab,sigs,89,[0,1,3,4,5,6,7,8,10,11,12,13,55,56,57],[cell 0 11],[(62,⟨[true],[],[]⟩),(132,⟨[],[(0,[false,false,false,false,false,false,false,false,false,false,false,true,false])],[]⟩)],[],[],[0]⟩
theorem n_k (b0_0 : T) (b0_1 : T) (b0_2 : T) (b0_3 : T) (b0_4 : T) (b0_5 : T) (b0_6 : T) (b0_7 : T) (b0_8 : T) (b0_9 : T) (b0_10 : T) (b0_11 : List T) (b0_12 : T) (a1 : T) (y0 : T) (y1 : T) (y2 : T) (y3 : T) (y4 : T) (y5 : T) (y6 : T) (y7 : T) (y8 : T) (y9 : T) (y10 : T) (y11 : T) (y12 : T) (y13 : T) (y14 : T) (I0 : X14 → Prop) (M0 : X14 → Nat) (h : ∃ y y_1 y_2 y_3 y_4 y_5 y_6 y_7 y_8 y_9 y_10 y_11 y_12 y_13 y_14 : T,F 132 [.box 111 13 [.t 2 b0_0,.t 2 b0_1,.t 4 b0_2,.t 22 b0_3,.t 22 b0_4,.t 25 b0_5,.t 26 b0_6,.t 25 b0_7,.t 26 b0_8,.t 27 b0_9,.t 28 b0_10,.own 31 0 b0_11,.t 2 b0_12],.t 2 (a1.cell 1)] Z14 [y,y_1,y_2,y_3,y_4,y_5,y_6,y_7,y_8,y_9,y_10,y_11,y_12,y_13,y_14] ∧ ((!y_1.bool) = true → (True ∧ True) ∧ T.g [kI 0,kI 0,T.l [],T.l [],T.l [],T.b false,T.l [],T.l []] = y0 ∧ kI 5 = y1 ∧ y_2 = y2 ∧ y_3 = y3 ∧ y_4 = y4 ∧ y_5 = y5 ∧ y_6 = y6 ∧ y_7 = y7 ∧ y_8 = y8 ∧ y_9 = y9 ∧ y_10 = y10 ∧ y_11 = y11 ∧ y_12 = y12 ∧ T.l y_13.list = y13 ∧ y_14 = y14 ∧ True) ∧ ((!y_1.bool) = false → (Bd (y.int) (↑y_13.list.length : Int)) ∧ ((T.ite (ltI (a1.cell 2).int (0 : Int)) (T.b true) (T.b (ltI (((y_13.list.getD (0 + y.int.toNat) T.u).part 1 15).cell 11).int (a1.cell 2).int))).bool = true → (True ∧ True) ∧ T.g [kI 0,kI 0,T.l [],T.l [],T.l [],T.b false,T.l [],T.l []] = y0 ∧ kI 23 = y1 ∧ y_2 = y2 ∧ y_3 = y3 ∧ y_4 = y4 ∧ y_5 = y5 ∧ y_6 = y6 ∧ y_7 = y7 ∧ y_8 = y8 ∧ y_9 = y9 ∧ y_10 = y10 ∧ y_11 = y11 ∧ y_12 = y12 ∧ T.l y_13.list = y13 ∧ y_14 = y14 ∧ True) ∧ ((T.ite (ltI (a1.cell 2).int (0 : Int)) (T.b true) (T.b (ltI (((y_13.list.getD (0 + y.int.toNat) T.u).part 1 15).cell 11).int (a1.cell 2).int))).bool = false → (0 ≤ minI (subI .i64 (((y_13.list.getD (0 + y.int.toNat) T.u).part 1 15).cell 11).int (a1.cell 2).int) (lenOf (a1.cell 3).list) ∧ minI (subI .i64 (((y_13.list.getD (0 + y.int.toNat) T.u).part 1 15).cell 11).int (a1.cell 2).int) (lenOf (a1.cell 3).list) ≤ lenOf (a1.cell 3).list ∧ lenOf (a1.cell 3).list ≤ lenOf (a1.cell 3).list) ∧ (∃ (i : X14),I0 i ∧ True ∧ y_2 = i.1.cell 0 ∧ y_3 = i.1.cell 1 ∧ y_4 = i.1.cell 2 ∧ y_5 = i.1.cell 3 ∧ y_6 = i.1.cell 4 ∧ y_7 = i.1.cell 5 ∧ y_8 = i.1.cell 6 ∧ y_9 = i.1.cell 7 ∧ y_10 = i.1.cell 8 ∧ y_11 = i.1.cell 9 ∧ y_12 = i.1.cell 10 ∧ y_13.list = i.2.1 ∧ y_14 = i.1.cell 12 ∧ R44 a1 (y = kI ↑i.2.2.1 ∧ True ∧ E15 ((y_13.list.getD (0 + y.int.toNat) T.u).part 1 15) i.2.2.2.1 (T.l (List.take (lenOf (a1.cell 3).list - minI (subI .i64 (((y_13.list.getD (0 + y.int.toNat) T.u).part 1 15).cell 11).int (a1.cell 2).int) (lenOf (a1.cell 3).list)).toNat (List.drop (minI (subI .i64 (((y_13.list.getD (0 + y.int.toNat) T.u).part 1 15).cell 11).int (a1.cell 2).int) (lenOf (a1.cell 3).list)).toNat (a1.cell 3).list)) = i.2.2.2.2.2 ∧ kI (lenOf (List.take (lenOf (a1.cell 3).list - minI (subI .i64 (((y_13.list.getD (0 + y.int.toNat) T.u).part 1 15).cell 11).int (a1.cell 2).int) (lenOf (a1.cell 3).list)).toNat (List.drop (minI (subI .i64 (((y_13.list.getD (0 + y.int.toNat) T.u).part 1 15).cell 11).int (a1.cell 2).int) (lenOf (a1.cell 3).list)).toNat (a1.cell 3).list))) = kI (lenOf i.2.2.2.2.2.list) ∧ kI 0 = kI ↑i.2.2.2.2.1 ∧ True))) ∧ (∀ (i : X14),true = true) ∧ ∀ (i : X14),I0 i → (ltI ↑i.2.2.2.2.1 (lenOf i.2.2.2.2.2.list) = true → (Bd ↑i.2.2.2.2.1 (lenOf i.2.2.2.2.2.list)) ∧ ∃ y y_15 y_16 : T,F 133 [.t 60 (G15 i.2.2.2.1),.t 2 ((i.2.2.2.2.2.list.getD (↑i.2.2.2.2.1 : Int).toNat T.u).cell 0)] Z16 [y,y_15,y_16] ∧ (neI y_16.int 0 = true → (True ∧ True) ∧ T.g [kI 0,kI 0,T.l [],T.l [],T.l [],T.b false,T.l [],T.l []] = y0 ∧ y_16 = y1 ∧ i.1.cell 0 = y2 ∧ i.1.cell 1 = y3 ∧ i.1.cell 2 = y4 ∧ i.1.cell 3 = y5 ∧ i.1.cell 4 = y6 ∧ i.1.cell 5 = y7 ∧ i.1.cell 6 = y8 ∧ i.1.cell 7 = y9 ∧ i.1.cell 8 = y10 ∧ i.1.cell 9 = y11 ∧ i.1.cell 10 = y12 ∧ T.l i.2.1 = y13 ∧ i.1.cell 12 = y14 ∧ True) ∧ (neI y_16.int 0 = false → ∃ (j : X14),I0 j ∧ M0 j < M0 i ∧ True ∧ E11 i.1 j.1 (i.2.1 = j.2.1 ∧ i.1.cell 12 = j.1.cell 12 ∧ R44 a1 (kI ↑i.2.2.1 = kI ↑j.2.2.1 ∧ True ∧ E15 y j.2.2.2.1 (i.2.2.2.2.2 = j.2.2.2.2.2 ∧ kI (lenOf i.2.2.2.2.2.list) = kI (lenOf j.2.2.2.2.2.list) ∧ kI (addI .i64 ↑i.2.2.2.2.1 1) = kI ↑j.2.2.2.2.1 ∧ True))))) ∧ (ltI ↑i.2.2.2.2.1 (lenOf i.2.2.2.2.2.list) = false → (Bd ↑i.2.2.1 (↑i.2.1.length : Int)) ∧ ∃ y : T,F 62 [.t 28 (i.2.2.2.1.cell 14)] [(a_ 1,28,[true].headD false)] [y] ∧ (True ∧ True) ∧ T.g [kI 0,(a1.cell 1).cell 0,T.l y.list,T.l [],T.l [],T.b false,T.l [],T.l []] = y0 ∧ kI 0 = y1 ∧ i.1.cell 0 = y2 ∧ i.1.cell 1 = y3 ∧ i.1.cell 2 = y4 ∧ i.1.cell 3 = y5 ∧ i.1.cell 4 = y6 ∧ i.1.cell 5 = y7 ∧ i.1.cell 6 = y8 ∧ i.1.cell 7 = y9 ∧ i.1.cell 8 = y10 ∧ i.1.cell 9 = y11 ∧ i.1.cell 10 = y12 ∧ T.l (i.2.1.set (0 + (↑i.2.2.1 : Int).toNat) ((((((((((((((((i.2.1.getD (0 + (↑i.2.2.1 : Int).toNat) T.u).setCell 1 (i.2.2.2.1.cell 0)).setCell 2 (i.2.2.2.1.cell 1)).setCell 3 (i.2.2.2.1.cell 2)).setCell 4 (i.2.2.2.1.cell 3)).setCell 5 (i.2.2.2.1.cell 4)).setCell 6 (i.2.2.2.1.cell 5)).setCell 7 (i.2.2.2.1.cell 6)).setCell 8 (i.2.2.2.1.cell 7)).setCell 9 (i.2.2.2.1.cell 8)).setCell 10 (i.2.2.2.1.cell 9)).setCell 11 (i.2.2.2.1.cell 10)).setCell 12 (i.2.2.2.1.cell 11)).setCell 13 (i.2.2.2.1.cell 12)).setCell 14 (i.2.2.2.1.cell 13)).setCell 15 (i.2.2.2.1.cell 14))) = y13 ∧ i.1.cell 12 = y14 ∧ True)))) : F 96 [.box 111 13 [.t 2 b0_0,.t 2 b0_1,.t 4 b0_2,.t 22 b0_3,.t 22 b0_4,.t 25 b0_5,.t 26 b0_6,.t 25 b0_7,.t 26 b0_8,.t 27 b0_9,.t 28 b0_10,.own 31 0 b0_11,.t 2 b0_12],.t 35 a1] Z13 [y0,y1,y2,y3,y4,y5,y6,y7,y8,y9,y10,y11,y12,y13,y14] :=
 F_nf C96 (by kernel_rfl) Tryz.func96 (by kernel_rfl) (.two .no (.two .no (.two .no (.two .no (.two .no (.two (.two .no (.lp (fun (ia : X14) => [(a_ 0,AV.box 111 0 13)] ++ bxS 0 ia.1 0 Y2 ++ [(cell 0 11,.own 31 0 ia.2.1),(cell 0 12,.t 2 (ia.1.cell 12)),(a_ 1,AV.t 35 a1),(a_ 3,AV.box 35 0 5)] ++ bxS 3 a1 0 Y5 ++ [(a_ 4,AV.box 40 0 8),(cell 4 0,AV.t 2 (T.i IntKind.i64 (0 : Int))),(cell 4 1,AV.t 2 (T.i IntKind.i64 (0 : Int))),(cell 4 2,AV.t 28 (T.l [])),(cell 4 3,AV.t 34 (T.l [])),(cell 4 4,AV.t 28 (T.l [])),(cell 4 5,AV.t 4 (T.b false)),(cell 4 6,AV.t 22 (T.l [])),(cell 4 7,AV.t 22 (T.l [])),(a_ 5,AV.t 2 (T.i IntKind.i64 (0 : Int))),(a_ 6,.t 2 (.i .i64 (ia.2.2.1 : Int))),(a_ 8,AV.box 60 0 15)] ++ bxS 8 ia.2.2.2.1 0 Y3 ++ [(a_ 55,.t 28 ia.2.2.2.2.2),(a_ 56,.t 2 (.i .i64 (lenOf ia.2.2.2.2.2.list))),(a_ 57,.t 2 (.i .i64 (ia.2.2.2.2.1 : Int)))]) I0 M0 (fun _ => .no))) .no)))))) (by kernel_rfl) h
def C27 : Ctx:=⟨tab,sigs,50,[0,1,2,4,5,6,7,8,9,11,12,13,19,24,29,30,31],[a_ 9],[],[],[],[]⟩
theorem s_9 (a0 : T) (a1 : T) (y0 : T) (y1 : T) (y2 : T) (I0 : X15 → Prop) (M0 : X15 → Nat) (h : ∃ y y_1 : T,F 17 [.t 29 (G11 a0)] Z12 [y,y_1] ∧ (neI y_1.int 0 = true → True ∧ T.l [] = y0 ∧ T.g [kI 0,kI 0,T.b false,T.l [],T.l [],T.l [],T.l [],T.l [],T.l [],T.l [],T.l [],T.l [],kI 0] = y1 ∧ y_1 = y2 ∧ True) ∧ (neI y_1.int 0 = false → (ltI 400 (lenOf a1.list) = true → True ∧ T.l [] = y0 ∧ T.g [kI 0,kI 0,T.b false,T.l [],T.l [],T.l [],T.l [],T.l [],T.l [],T.l [],T.l [],T.l [],kI 0] = y1 ∧ kI 2 = y2 ∧ True) ∧ (ltI 400 (lenOf a1.list) = false → (∃ (i : X15),I0 i ∧ R45 a0 a1 (E13 y i.1 ([] = i.2.1 ∧ R10 a1 (kI 0 = kI ↑i.2.2 ∧ True)))) ∧ (∀ (i : X15),true = true) ∧ ∀ (i : X15),I0 i → (ltI ↑i.2.2 (lenOf a1.list) = true → (Bd ↑i.2.2 (lenOf a1.list)) ∧ ∃ y y_2 : T,F 29 [.t 32 (G13 i.1),.t 35 (G5 ((a1.list.getD (↑i.2.2 : Int).toNat T.u).part 0 5))] Z10 [y,y_2] ∧ (Rm ((List.take i.2.1.length i.2.1).length + ((List.replicate 1 (T.g [kI 0,kI 0,T.l [],T.l [],T.l [],T.b false,T.l [],T.l []])).set 0 (G8 y_2)).length) 144) ∧ ∃ (j : X15),I0 j ∧ M0 j < M0 i ∧ R45 a0 a1 (E13 y j.1 (List.take i.2.1.length i.2.1 ++ (List.replicate 1 (T.g [kI 0,kI 0,T.l [],T.l [],T.l [],T.b false,T.l [],T.l []])).set 0 (G8 y_2) = j.2.1 ∧ R10 a1 (kI (addI .i64 ↑i.2.2 1) = kI ↑j.2.2 ∧ True)))) ∧ (ltI ↑i.2.2 (lenOf a1.list) = false → ∃ y : T,F 30 [.t 32 (G13 i.1)] (zo 1 32) [y] ∧ True ∧ T.l (List.take i.2.1.length (List.drop 0 i.2.1)) = y0 ∧ (G13 y) = y1 ∧ kI 0 = y2 ∧ True)))) : F 27 [.t 29 a0,.t 82 a1] Z17 [y0,y1,y2] :=
 F_nf C27 (by kernel_rfl) Tryz.func27 (by kernel_rfl) (.two .no (.two .no (.two .no (.two .no (.two (.two .no (.lp (fun (ia : X15) => [(a_ 0,AV.t 29 a0),(a_ 1,AV.t 82 a1),(a_ 2,AV.box 29 0 11)] ++ bxS 2 a0 0 Y2 ++ [(a_ 4,AV.t 78 (T.l [])),(a_ 5,AV.box 32 0 13),(cell 5 0,AV.t 2 (T.i IntKind.i64 (0 : Int))),(cell 5 1,AV.t 2 (T.i IntKind.i64 (0 : Int))),(cell 5 2,AV.t 4 (T.b false)),(cell 5 3,AV.t 22 (T.l [])),(cell 5 4,AV.t 22 (T.l [])),(cell 5 5,AV.t 25 (T.l [])),(cell 5 6,AV.t 26 (T.l [])),(cell 5 7,AV.t 25 (T.l [])),(cell 5 8,AV.t 26 (T.l [])),(cell 5 9,AV.t 27 (T.l [])),(cell 5 10,AV.t 28 (T.l [])),(cell 5 11,AV.t 31 (T.l [])),(cell 5 12,AV.t 2 (T.i IntKind.i64 (0 : Int))),(a_ 6,AV.t 2 (T.i IntKind.i64 (0 : Int))),(a_ 7,AV.box 32 0 13)] ++ bxS 7 ia.1 0 Y4 ++ [(a_ 9,.own 78 0 ia.2.1),(a_ 29,AV.t 82 a1),(a_ 30,AV.t 2 (T.i IntKind.i64 (lenOf a1.list))),(a_ 31,.t 2 (.i .i64 (ia.2.2 : Int)))]) I0 M0 (fun _ => .no))) .no))))) (by kernel_rfl) h
def C30 : Ctx:=⟨tab,sigs,49,[0,1,2,3,5,6,14,15,16],[cell 3 11,fld 12 13 11,a_ 12],[(62,⟨[true],[],[]⟩)],[],[],[]⟩
theorem t_b (a0 : T) (y0 : T) (I0 : X15 → Prop) (M0 : X15 → Nat) (h : ∃ y : T,F 59 [.t 29 (G11 a0)] (zo 1 29) [y] ∧ (∃ (i : X15),I0 i ∧ R47 a0 (E11 y i.1 ([] = i.2.1 ∧ R46 a0 (kI 0 = kI ↑i.2.2 ∧ True)))) ∧ (∀ (i : X15),true = true) ∧ ∀ (i : X15),I0 i → (ltI ↑i.2.2 (lenOf (a0.cell 11).list) = true → (Bd ↑i.2.2 (lenOf (a0.cell 11).list)) ∧ ∃ y : T,F 59 [.t 29 (T.g [(((a0.cell 11).list.getD (↑i.2.2 : Int).toNat T.u).part 0 16).cell 1,(((a0.cell 11).list.getD (↑i.2.2 : Int).toNat T.u).part 0 16).cell 2,(((a0.cell 11).list.getD (↑i.2.2 : Int).toNat T.u).part 0 16).cell 3,(((a0.cell 11).list.getD (↑i.2.2 : Int).toNat T.u).part 0 16).cell 4,(((a0.cell 11).list.getD (↑i.2.2 : Int).toNat T.u).part 0 16).cell 5,(((a0.cell 11).list.getD (↑i.2.2 : Int).toNat T.u).part 0 16).cell 6,(((a0.cell 11).list.getD (↑i.2.2 : Int).toNat T.u).part 0 16).cell 7,(((a0.cell 11).list.getD (↑i.2.2 : Int).toNat T.u).part 0 16).cell 8,(((a0.cell 11).list.getD (↑i.2.2 : Int).toNat T.u).part 0 16).cell 9,(((a0.cell 11).list.getD (↑i.2.2 : Int).toNat T.u).part 0 16).cell 10,(((a0.cell 11).list.getD (↑i.2.2 : Int).toNat T.u).part 0 16).cell 11])] (zo 1 29) [y] ∧ ∃ y_1 : T,F 60 [.t 25 ((((a0.cell 11).list.getD (↑i.2.2 : Int).toNat T.u).part 0 16).cell 13)] (zo 1 25) [y_1] ∧ ∃ y_2 : T,F 61 [.t 59 ((((a0.cell 11).list.getD (↑i.2.2 : Int).toNat T.u).part 0 16).cell 14)] (zo 1 59) [y_2] ∧ ∃ y_3 : T,F 62 [.t 28 ((((a0.cell 11).list.getD (↑i.2.2 : Int).toNat T.u).part 0 16).cell 15)] [(a_ 1,28,[true].headD false)] [y_3] ∧ (Rm ((List.take i.2.1.length i.2.1).length + ((List.replicate 1 (T.g [kI 0,kI 0,kI 0,T.b false,T.l [],T.l [],T.l [],T.l [],T.l [],T.l [],T.l [],T.l [],kI 0,T.l [],T.l [],T.l []])).set 0 (T.g [((((a0.cell 11).list.getD (↑i.2.2 : Int).toNat T.u).part 0 16).cell 0).cell 0,y.cell 0,y.cell 1,y.cell 2,y.cell 3,y.cell 4,y.cell 5,y.cell 6,y.cell 7,y.cell 8,y.cell 9,y.cell 10,(((a0.cell 11).list.getD (↑i.2.2 : Int).toNat T.u).part 0 16).cell 12,y_1,y_2,T.l y_3.list])).length) 304) ∧ ∃ (j : X15),I0 j ∧ M0 j < M0 i ∧ R47 a0 (E11 i.1 j.1 (List.take i.2.1.length i.2.1 ++ (List.replicate 1 (T.g [kI 0,kI 0,kI 0,T.b false,T.l [],T.l [],T.l [],T.l [],T.l [],T.l [],T.l [],T.l [],kI 0,T.l [],T.l [],T.l []])).set 0 (T.g [((((a0.cell 11).list.getD (↑i.2.2 : Int).toNat T.u).part 0 16).cell 0).cell 0,y.cell 0,y.cell 1,y.cell 2,y.cell 3,y.cell 4,y.cell 5,y.cell 6,y.cell 7,y.cell 8,y.cell 9,y.cell 10,(((a0.cell 11).list.getD (↑i.2.2 : Int).toNat T.u).part 0 16).cell 12,y_1,y_2,T.l y_3.list]) = j.2.1 ∧ R46 a0 (kI (addI .i64 ↑i.2.2 1) = kI ↑j.2.2 ∧ True)))) ∧ (ltI ↑i.2.2 (lenOf (a0.cell 11).list) = false → True ∧ T.g [i.1.cell 0,i.1.cell 1,i.1.cell 2,i.1.cell 3,i.1.cell 4,i.1.cell 5,i.1.cell 6,i.1.cell 7,i.1.cell 8,i.1.cell 9,i.1.cell 10,T.l i.2.1,(a0.cell 12).cell 0] = y0 ∧ True)) : F 30 [.t 32 a0] (zo 1 32) [y0] :=
 F_nf C30 (by kernel_rfl) Tryz.func30 (by kernel_rfl) (.two .no (.two .no (.two (.two .no (.lp (fun (ia : X15) => [(a_ 0,AV.t 32 a0),(a_ 1,AV.box 32 0 13)] ++ bxS 1 a0 0 Y4 ++ [(a_ 2,AV.box 32 0 13),(cell 2 0,AV.t 2 (T.i IntKind.i64 (0 : Int))),(cell 2 1,AV.t 2 (T.i IntKind.i64 (0 : Int))),(cell 2 2,AV.t 4 (T.b false)),(cell 2 3,AV.t 22 (T.l [])),(cell 2 4,AV.t 22 (T.l [])),(cell 2 5,AV.t 25 (T.l [])),(cell 2 6,AV.t 26 (T.l [])),(cell 2 7,AV.t 25 (T.l [])),(cell 2 8,AV.t 26 (T.l [])),(cell 2 9,AV.t 27 (T.l [])),(cell 2 10,AV.t 28 (T.l [])),(cell 2 11,AV.t 31 (T.l [])),(cell 2 12,AV.t 2 (T.i IntKind.i64 (0 : Int))),(a_ 3,AV.box 32 0 13)] ++ bxS 3 ia.1 0 Y2 ++ [(cell 3 11,.own 31 0 ia.2.1),(cell 3 12,AV.t 2 ((a0.cell 12).cell 0)),(a_ 14,AV.t 31 (a0.cell 11)),(a_ 15,AV.t 2 (T.i IntKind.i64 (lenOf (a0.cell 11).list))),(a_ 16,.t 2 (.i .i64 (ia.2.2 : Int)))]) I0 M0 (fun _ => .no))) .no))) (by kernel_rfl) h
end Go.Pq
namespace Go.Pl
def b_I (h : Md) (o : On) : Nat → Rat × List Nat
 | 0 => (if o.time = 0 then h.empty else 0,[])
 | i + 1 => if better (o.sc.getD i 0 * h.stop.getD i 0) (b_I h o i).1 (o.tails.getD i []) (b_I h o i).2 then (o.sc.getD i 0 * h.stop.getD i 0,o.tails.getD i []) else b_I h o i
def finO (h : Md) (o : On) : Rat × List Nat:=b_I h o o.sc.length
theorem t_Y {h : Md} {c : Nat} {o : On} (hk : MdOk h c) (H : OnOk h c o) : ∀ i,i ≤ o.sc.length → Share (b_I h o i).1 ∧ rl (b_I h o i).1 ≤ 2 ^ 20 ∧ (b_I h o i).2.length ≤ 256:=by
 intro i;have hcc:=hk.cc
 induction i with
 | zero =>
  intro _;unfold b_I
  by_cases hz : o.time = 0
  ·rw [if_pos hz]
   have:=hk.q0
   exact ⟨this.2,by have:=this.1;show rl h.empty ≤ _;omega,Nat.zero_le _⟩
  ·rw [if_neg hz]
   exact ⟨f_q,by show rl 0 ≤ _;rw [f_p];omega,Nat.zero_le _⟩
 | succ i ih =>
  intro hi;have hz : 0 < o.time:=by
   rcases Nat.eq_zero_or_pos o.time with q | q
   ·rw [(H.zero q).1] at hi;simp at hi
   ·exact q
  obtain ⟨l1,l2⟩:=H.lens hz;have hm:=r_ (d:=(0 : Rat)) (show i < o.sc.length by omega);have hsh:=H.share _ hm;have hr1:=H.rl30 hk _ hm;have hst:=hk.q3 _ (r_ (d:=(0 : Rat)) (show i < h.stop.length by have:=hk.stop;omega));have hr:=h_n (o.sc.getD i 0) (h.stop.getD i 0);unfold b_I;split
  ·exact ⟨g_U hsh hst.2,by have:=hst.1;show rl (o.sc.getD i 0 * h.stop.getD i 0) ≤ _;omega,H.tlen _ (r_ (by omega))⟩
  ·exact ih (by omega)
theorem d_x (h : Md) (o : On) (i : Nat) : b_I h o (i + 1) = if better (o.sc.getD i 0 * h.stop.getD i 0) (b_I h o i).1 (o.tails.getD i []) (b_I h o i).2 then (o.sc.getD i 0 * h.stop.getD i 0,o.tails.getD i []) else b_I h o i:=rfl
end Go.Pl
namespace Go.Pq
open Go.Pl Go.Proofs
theorem k_Q {h : Md} {c : Nat} {o : On} (hk : MdOk h c) (H : OnOk h c o) :
  F 138 [.t 60 (onT h o)] Z15
   (if 0 < (finO h o).1 then [intT (o.done ++ (finO h o).2),ratT (finO h o).1,.i .i64 0] else [.l [],ratT 0,.i .i64 11]):=by
 obtain ⟨y0,y1,y2,r1,r2,r3⟩ : ∃ y0 y1 y2 : T,(0 < (finO h o).1 → y0 = intT (o.done ++ (finO h o).2) ∧ y1 = ratT (finO h o).1 ∧ y2 = T.i .i64 0) ∧ (¬ 0 < (finO h o).1 → y0 = T.l [] ∧ y1 = ratT 0 ∧ y2 = T.i .i64 11) ∧
   (if 0 < (finO h o).1 then [intT (o.done ++ (finO h o).2),ratT (finO h o).1,.i .i64 0] else [.l [],ratT 0,.i .i64 11]) = [y0,y1,y2]:=by
  by_cases g : 0 < (finO h o).1
  ·exact ⟨_,_,_,fun _ => ⟨rfl,rfl,rfl⟩,fun q => absurd g q,by rw [if_pos g]⟩
  ·exact ⟨_,_,_,fun q => absurd q g,fun _ => ⟨rfl,rfl,rfl⟩,by rw [if_neg g]⟩
 rw [r3];have hr:=H.rl30 hk;have hcc:=hk.cc;have hst:=hk.st;have ht:=H.time;have hem : (T.g [(onT h o).cell 2,(onT h o).cell 3,(onT h o).cell 4]) = ratT h.empty:=rfl;refine q_3 _ _ _ _ (fun i => i.1 = ratT (b_I h o i.2.2).1 ∧ i.2.1 = intT (b_I h o i.2.2).2 ∧ i.2.2 ≤ o.sc.length) (fun i => o.sc.length - i.2.2) (fun x => x = ratT (b_I h o 0).1) ?_;rw [c_q,c_r,k_g,d_F,e_a,r_9,hem,z_,z_,b_f,hk.stop];have cl:=e_6 h.empty (by have:=hk.q0.1;omega);refine ⟨_,f_U hk H,fun q => (by cases q),fun _ => ⟨⟨fun h0 => ⟨_,cl,ratT (b_I h o 0).1,rfl,?_⟩,fun h0 => ⟨ratT (b_I h o 0).1,rfl,?_⟩⟩,fun _ => rfl,?_⟩⟩
 ·rw [M_] at h0
  have e : (b_I h o 0).1 = h.empty:=by unfold b_I;rw [if_pos (by omega)]
  rw [e];exact (by and_intros <;> first | exact trivial | rfl | (rw [c_ (by omega)];rfl))
 ·rw [a_D] at h0
  have e : (b_I h o 0).1 = 0:=by unfold b_I;rw [if_neg (by omega)]
  rw [e,e_z];exact (by and_intros <;> first | exact trivial | rfl | (rw [c_ (by omega)];rfl))
 rintro _ rfl;refine ⟨⟨(ratT (b_I h o 0).1,intT [],0),⟨rfl,rfl,Nat.zero_le _⟩,(by and_intros <;> first | exact trivial | rfl | (rw [c_ (by omega)];rfl))⟩,fun _ => rfl,?_⟩
 all_goals
  rintro ⟨bt,tt,m⟩ ⟨hbt,htt,hm⟩;dsimp only at hbt htt hm ⊢;subst hbt htt;obtain ⟨b1,b2,b3⟩:=t_Y hk H m hm;refine ⟨fun h2 => ?_,fun h2 => ?_⟩
  ·rw [d_] at h2
   have hml : m < o.sc.length:=by omega
   have hz : 0 < o.time:=by
    rcases Nat.eq_zero_or_pos o.time with q | q
    ·rw [(H.zero q).1] at hml;simp at hml
    ·exact q
   obtain ⟨l1,l2⟩:=H.lens hz;have hmst : m < h.st:=by omega
   have hmt : m < o.tails.length:=by omega
   have hms : m < h.stop.length:=by have:=hk.stop;omega
   have q1:=hr _ (r_ (d:=(0 : Rat)) hml);have q2:=(hk.q3 _ (r_ (d:=(0 : Rat)) hms)).1;have q3:=h_n (o.sc.getD m 0) (h.stop.getD m 0);have q4:=H.tlen _ (r_ (d:=([] : List Nat)) hmt);rw [a_X _ hml,a_X _ hms,C_,C_,b_n _ hmt,b_t];refine ⟨⟨by omega,by omega⟩,⟨by omega,by omega⟩,_,r_5 _ _ (by omega) (by omega),_,b_1 _ _ (by omega) (by omega),_,fun _ => e_e _ (by omega),fun _ => ⟨by omega,by omega⟩,_,fun _ => p_R _ _ (by omega) (by omega),?_⟩;rw [k_,k_,k_,f_3];refine ⟨fun hb => ⟨⟨by omega,by omega⟩,?_⟩,fun hb => ?_⟩
   ·refine ⟨(ratT (o.sc.getD m 0 * h.stop.getD m 0),intT (o.tails.getD m []),m + 1),⟨?_,?_,hml⟩,by dsimp only;omega,(by and_intros <;> first | exact trivial | rfl | (rw [c_ (by omega)];rfl))⟩
    ·dsimp only;rw [d_x,if_pos hb]
    ·dsimp only;rw [d_x,if_pos hb]
   ·refine ⟨(ratT (b_I h o m).1,intT (b_I h o m).2,m + 1),⟨?_,?_,hml⟩,by dsimp only;omega,(by and_intros <;> first | exact trivial | rfl | (rw [c_ (by omega)];rfl))⟩
    ·dsimp only;rw [d_x,if_neg (by rw [hb];decide)]
    ·dsimp only;rw [d_x,if_neg (by rw [hb];decide)]
  ·rw [l_] at h2
   have hme : m = o.sc.length:=by omega
   subst hme;refine ⟨_,e_e _ (by omega),fun q => ?_,fun q => ?_⟩
   ·rw [k_,M_] at q
    have hn : ¬ 0 < (finO h o).1:=by
     intro g
     have:=c_l.2 (f_A.2 g)
     show False
     unfold finO at this;omega
    obtain ⟨e0,e1,e2⟩:=r2 hn;subst e0 e1 e2;exact ⟨trivial,rfl,rfl,rfl,trivial⟩
   ·rw [k_,a_D] at q
    have hn : 0 < (finO h o).1:=by
     rcases Rat.le_iff_lt_or_eq.1 b1.1 with g | g
     ·exact g
     ·exfalso;apply q;rw [← g];rfl
    obtain ⟨e0,e1,e2⟩:=r1 hn;have c1:=g_d o.done (b_I h o o.sc.length).2 (by have:=H.dlen;omega) (by omega);exact ⟨_,c1,trivial,e0.symm,e1.symm,e2.symm,trivial⟩
end Go.Pq
namespace Go.Pq
open Go.Pl Go.Proofs Go.Lib Go.RowKit Go
theorem j_d {w : World} {b : Nat} {cs : Array Value} {e : TypeId} (hh : w.heap[b]? = some (.cells cs e (0,0))) {o : Nat} {vs : List Value} (hfit : o + vs.length ≤ cs.size) (h1 : ∀ v ∈ vs,v.oneCell' = true) :
  w.setCells b o vs = w.setRow b (splice cs o vs):=by
 have a1:=run_storeCells_at Tryz.prog b o e vs 0 cs w hh (by rw [Nat.add_zero];exact hfit) h1;have a2:=run_storeCells_cells (P:=Tryz.prog) b o vs 0 w (fun j hj => by rw [Nat.add_zero,w_ hh];simp;omega) (fun j hj => by simp [World.frozen?,hh]) h1;rw [a1] at a2;simp only [Nat.add_zero] at a2
 injection a2 with _ a3
 exact a3.symm
theorem m_S (W : World) (ty : TypeId) {b : Nat} {cs : Array Value} (hh : W.heap[b]? = some (.cells cs 63 (0,0))) {o n c : Nat} (hn : 0 < n) (hfit : o + n * 16 ≤ cs.size) :
  ∃ zs : List Value,zs.length = n * 16 ∧ (Builtin.clear_ #[31] ty #[.slice (some ⟨b,o,none⟩) n c]).run Tryz.prog W = .ok (.tuple #[]) (W.setRow b (splice cs o zs)):=by
 obtain ⟨z,hz⟩ : ∃ z,z = Value.agg #[.int .i64 0,.int .i64 0,.int .i64 0,.bool false,.slice none 0 0,.slice none 0 0,.slice none 0 0,.slice none 0 0,.slice none 0 0,.slice none 0 0,.slice none 0 0,.slice none 0 0,.int .i64 0,.slice none 0 0,.slice none 0 0,.slice none 0 0]:=⟨_,rfl⟩;have hzv : ∀ w,(zeroValue 63).run Tryz.prog w = .ok z w:=by intro w;rw [hz];exact Tryz.zeroValue63 w
 have hzc : z.cells.size = 16:=by rw [hz];rfl
 have hza : (z.cells.toList.all fun u => u.oneCell') = true:=by rw [hz];rfl
 have hzo : ∀ j,j < 16 → (z.cells[j]!).oneCell' = true:=by
  intro j hj;refine List.all_eq_true.1 hza _ ?_;rw [getElem!_pos z.cells j (by rw [hzc];exact hj)];exact Array.mem_toList_iff.2 (Array.getElem_mem _)
 clear hz;refine ⟨(Builtin.zeroCells z.cells n).toList,by simp [Builtin.zeroCells,hzc],?_⟩;have hl : (Builtin.zeroCells z.cells n).toList.length = n * 16:=by simp [Builtin.zeroCells,hzc]
 have a1:=run_storeCells_at Tryz.prog b o 63 (Builtin.zeroCells z.cells n).toList 0 cs W hh (by rw [Nat.add_zero,hl];exact hfit) (by
  intro v hv;simp only [Builtin.zeroCells,Array.toList_map,List.mem_map,Array.toList_range,List.mem_range] at hv;obtain ⟨j,hj,rfl⟩:=hv;exact hzo _ (by rw [hzc];exact Nat.mod_lt _ (by decide)))
 obtain ⟨m,rfl⟩ : ∃ m,n = m + 1:=⟨n - 1,by omega⟩;simp only [Nat.add_zero] at a1;simp [Builtin.clear_,run_underlying Tryz.underlying31,hzv,a1,splice]
set_option maxHeartbeats 4000000 in
set_option maxRecDepth 1000000 in
theorem m_9 (w : World) (b n cap k j : Nat) (cs : Array Value) (hh : w.heap[b]? = some (.cells cs 63 (0,0))) (hk : k < j) (hj : j ≤ n) (hn : n ≤ cap) (hm : cap ≤ 9223372036854775807) (hsz : cs.size = cap * 16)
  (hone : ∀ t,t < n * 16 → ∃ u,cs[t]? = some u ∧ u.oneCell' = true) :
  Calls Tryz.prog 135 #[.slice (some ⟨b,0,none⟩) n cap,.int .i64 k,.int .i64 j] w fun e w' => e = .returned (.slice (some ⟨b,0,none⟩) (n - (j - k)) cap) ∧
   ∃ cs',w' = w.drew.setRow b cs' ∧ cs'.size = cs.size ∧ ∀ t,t < (n - (j - k)) * 16 → cs'[t]? = if t < k * 16 then cs[t]? else cs[t + (j - k) * 16]? := by
 obtain ⟨i0,z,hi0,hz1,-⟩:=Good.zero (C:=C118) (t:=63) (c:=62) good (ti:=⟨.st [(0,2),(1,60)],16,304,[2,2,2,4,22,22,25,26,25,26,27,28,2,25,59,28],.g [.i .i64 0,.i .i64 0,.i .i64 0,.b false,.l [],.l [],.l [],.l [],.l [],.l [],.l [],.l [],.i .i64 0,.l [],.l [],.l []]⟩) (by kernel_rfl);have hz1 : i0.size = 16:=hz1;obtain ⟨news,hnews⟩ : ∃ news,news = (cs.toList.drop (j * 16)).take ((n - j) * 16):=⟨_,rfl⟩;have hcl : cs.toList.length = cap * 16:=by rw [Array.length_toList,hsz]
 have hlen : news.length = (n - j) * 16:=by rw [hnews,List.length_take,List.length_drop];omega
 have hget : ∀ t,t < (n - j) * 16 → news[t]? = cs[j * 16 + t]? := by
  intro t ht;rw [hnews,List.getElem?_take,if_pos ht,List.getElem?_drop,Array.getElem?_toList]
 have hH : w.drew.heap[b]? = some (.cells cs 63 (0,0)):=hh;obtain ⟨A,hA,hsrc⟩ : ∃ A : Addr,(if cap = j then some (⟨b,0,none⟩ : Addr) else some ⟨b,j * 16,none⟩) = some A ∧ Hid (∀ t u,news[t]? = some u → w.drew.cell? (A.add t) = some u):=by
  by_cases h : cap = j
  ·refine ⟨⟨b,0,none⟩,by rw [if_pos h],fun t u hu => ?_⟩
   have h0 : news.length = 0:=by rw [hlen];omega
   rw [List.length_eq_zero_iff.1 h0] at hu;simp at hu
  ·refine ⟨⟨b,j * 16,none⟩,by rw [if_neg h],fun t u hu => ?_⟩
   have ht : t < (n - j) * 16:=by
    have:=(List.getElem?_eq_some_iff.1 hu).1
    rwa [hlen] at this
   rw [hget t ht] at hu;rw [a_I,w_ hH];exact hu
 have s1 : Hid (news.length = (n - j) * 16):=hlen;have s2' : ∀ u ∈ news,u.oneCell' = true:=by
  intro u hu;obtain ⟨t,ht,rfl⟩:=List.getElem_of_mem hu;have ht' : t < (n - j) * 16:=by rw [← hlen];exact ht
  have h1:=hget t ht';obtain ⟨u,hu1,hu2⟩:=hone (j * 16 + t) (by omega);rw [List.getElem?_eq_getElem ht,hu1] at h1;rw [Option.some.inj h1];exact hu2
 have s2 : Hid (∀ u ∈ news,u.oneCell' = true):=s2';have s3 : Hid (∀ t,t < news.length → (w.drew.cell? ⟨b,0 + k * 16 + t,none⟩).isSome = true ∧ w.drew.frozen? ⟨b,0 + k * 16 + t,none⟩ = false):=by
  intro t ht;rw [hlen] at ht;exact ⟨by rw [w_ hH];simp;omega,by simp [World.frozen?,hH]⟩
 obtain ⟨W1,hW1⟩ : ∃ W1,W1 = w.drew.setCells b (0 + k * 16) news:=⟨_,rfl⟩;have hfit : 0 + k * 16 + news.length ≤ cs.size:=by rw [hlen,hsz];omega
 have hW1' : W1 = w.drew.setRow b (splice cs (0 + k * 16) news):=by rw [hW1];exact j_d hH hfit s2'
 have hh1 : W1.heap[b]? = some (.cells (splice cs (0 + k * 16) news) 63 (0,0)):=by rw [hW1'];exact setRow_heap w.drew b cs _ 63 (0,0) hH
 have hs1:=a_r hfit;obtain ⟨zs,hzl,hcr⟩ : ∃ zs : List Value,zs.length = (n - (k + (n - j))) * 16 ∧ ∀ ty,(Builtin.clear_ #[31] ty #[.slice (some ⟨b,(k + (n - j)) * 16,none⟩) (n - (k + (n - j))) (cap - (k + (n - j)))]).run Tryz.prog W1 = .ok (.tuple #[]) (W1.setRow b (splice (splice cs (0 + k * 16) news) ((k + (n - j)) * 16) zs)):=by
  obtain ⟨zs,h1,h2⟩:=m_S W1 0 hh1 (o:=(k + (n - j)) * 16) (n:=n - (k + (n - j))) (c:=cap - (k + (n - j))) (by omega) (by rw [hs1,hsz];omega);exact ⟨zs,h1,fun _ => h2⟩
 have fin : Hid (∃ cs',W1.setRow b (splice (splice cs (0 + k * 16) news) ((k + (n - j)) * 16) zs) = w.drew.setRow b cs' ∧ cs'.size = cs.size ∧ ∀ t,t < (n - (j - k)) * 16 → cs'[t]? = if t < k * 16 then cs[t]? else cs[t + (j - k) * 16]?):=by
  have hfit2 : (k + (n - j)) * 16 + zs.length ≤ (splice cs (0 + k * 16) news).size:=by rw [hs1,hsz,hzl];omega
  refine ⟨splice (splice cs (0 + k * 16) news) ((k + (n - j)) * 16) zs,?_,by rw [a_r hfit2,hs1],fun t ht => ?_⟩
  ·rw [hW1',setRow_setRow]
  ·rw [Q_ hfit2,if_pos (by omega),Q_ hfit]
   by_cases g : t < k * 16
   ·rw [if_pos (by omega),if_pos g]
   ·rw [if_neg (by omega),if_pos (by rw [hlen];omega),if_neg g,hget _ (by omega)]
    congr 1;omega
 have hW : Hid (W1 = w.drew.setCells b (0 + k * 16) news):=hW1;have hic : k ≤ cap:=by omega
 have hjc : j ≤ cap:=by omega
 have u31:=Tryz.underlying31;have z63:=Tryz.sizeOf63;have mx:=mixed;have hne : ¬ k = j:=by omega
 have hlen2 : Hid (n - (j - k) = k + (n - j)):=by show n - (j - k) = k + (n - j);omega
 clear hget hone hnews hlen hW1 hW1' hh1 hs1 hfit hH hh hsz hcl s2' hzl
 go_enter Tryz.func135,Tryz.ntmps135
 go_wp2_with fail
 go_region_law_o (refine step_append_room rfl (.tmp 22) (.tmp 25) 31 rfl 63 i0 16 u31 hi0 hz1 b 0 k cap (by simp [Act.eval,Act.put]) A (n - j) (cap - j) news (by simp [Act.eval,Act.put]) s1.out hsrc.out s2.out (by omega) s3.out ?_;rw [← hW.out])
 go_wp2
 go_ret
 have f:=fin.out;rw [Nat.zero_add] at f;exact ⟨by rw [hlen2.out];rfl,f⟩
theorem p_f {tab : Tab} {w w' : World} {A : Nat → Prop} {vals : Array Value} {γ : Key → Option Nat} {args : List Arg} {c : TypeId} {v : Value} {g : Option Nat} {xs : List T} {σ : St}
  (hr : Rel tab ⟨w.heap.size,w,A,fun b => ∃ k,γ k = some b⟩ vals w σ γ) (hsz : vals.size = args.length) (hb : b_s 0 args = [])
  (hos : w'.os = w.os) (htape : w'.tape = w.tape) (hout : w'.output = w.output) (hsize : w.heap.size ≤ w'.heap.size) (hold : ∀ b,b < w.heap.size → (¬ ∃ k,γ k = some b) → w'.heap[b]? = w.heap[b]?)
  (hg : ∀ b,g = some b → (∃ k,γ k = some b) ∨ (w.heap.size ≤ b ∧ b < w'.heap.size))
  (hO : ∀ O,(∀ b,O b → A b ∨ g = some b) → Own tab w' O c v g xs) :
  ∃ γ',Rel tab ⟨w.heap.size,w,A,fun b => ∃ k,γ k = some b⟩ (vals.push v) w' (b_j args [(a_ args.length,c,true)] [.l xs]) γ' := by
 have hst : b_j args [(a_ args.length,c,true)] [.l xs] = [(a_ args.length,top (.own c 0 xs))]:=by
  unfold b_j;rw [hb];rfl
 rw [hst];have hget : ∀ k e,St.get [(a_ args.length,top (.own c 0 xs))] k = some e → k = a_ args.length ∧ e = top (.own c 0 xs):=by
  intro k e he;simp only [St.get] at he;split at he
  ·rename_i hk;exact ⟨(Key.a_b.1 hk).symm,(Option.some.inj he).symm⟩
  ·cases he
 have hγ : ∀ k b,setG (fun _ => none) (a_ args.length) g k = some b → k = a_ args.length ∧ g = some b:=by
  intro k b hk;unfold setG at hk;split at hk
  ·rename_i e;exact ⟨e,hk⟩
  ·cases hk
 refine ⟨setG (fun _ => none) (a_ args.length) g,⟨hos,htape,hout,hsize,hold,hr.low,?_,?_,?_,?_,?_⟩⟩
 ·intro k k' b h1 h2
  rw [(hγ k b h1).1,(hγ k' b h2).1]
 ·intro k b h1
  rcases hg b (hγ k b h1).2 with ⟨k0,h0⟩ | ⟨h0,h0'⟩
  ·obtain ⟨q1,q2,q3⟩:=hr.blk k0 b h0
   exact ⟨Nat.lt_of_lt_of_le q1 hsize,q2,fun _ => ⟨k0,h0⟩⟩
  ·exact ⟨h0',fun q => by have:=(hr.low b q).1;simp only at this;omega,fun q => by simp only at q;omega⟩
 ·intro s n e he
  exact absurd (hget _ _ he).1.symm f_
 ·intro s j e he
  exact absurd (hget _ _ he).1.symm x_
 ·intro k e he
  obtain ⟨rfl,rfl⟩:=hget _ _ he;refine ⟨v,by rw [i_,← hsz];simp,fun _ => ?_,fun q => absurd trivial q⟩
  show Own tab w' _ c v (setG (fun _ => none) (a_ args.length) g (a_ args.length)) xs
  rw [a_e];exact hO _ fun b hb' => hb'.imp id fun ⟨k,hk⟩ => (hγ k b hk).2
theorem o_N (xs : List T) (k : Nat) (hk : k < xs.length) (hl : xs.length ≤ 8) :
  F 135 [.own 31 xs,.t 2 (.i .i64 (k : Int)),.t 2 (.i .i64 ((k + 1 : Nat) : Int))] (zw 3 31) [.l (xs.eraseIdx k)]:=by
 have t31 : tab.at 31 = some (31,⟨.sl 63,1,24,[],.l []⟩):=by kernel_rfl
 have t2 : tab.at 2 = some (2,⟨.int .i64,1,8,[],.i .i64 0⟩):=by kernel_rfl
 have t63 : tab.at 63 = some (62,⟨.st [(0,2),(1,60)],16,304,[2,2,2,4,22,22,25,26,25,26,27,28,2,25,59,28],.g [.i .i64 0,.i .i64 0,.i .i64 0,.b false,.l [],.l [],.l [],.l [],.l [],.l [],.l [],.l [],.i .i64 0,.l [],.l [],.l []]⟩):=by kernel_rfl
 refine h_y (c:=c_5 Tryz.f135) Tryz.func135 (by kernel_rfl) (by kernel_rfl) fun w A vals γ hsz hr => ?_
 obtain ⟨v0,hv0,hr0,-⟩:=hr.ent (a_ 0) (top (.own 31 0 xs)) rfl;obtain ⟨v1,hv1,hr1,-⟩:=hr.ent (a_ 1) (top (.t 2 (.i .i64 (k : Int)))) rfl;obtain ⟨v2,hv2,hr2,-⟩:=hr.ent (a_ 2) (top (.t 2 (.i .i64 ((k + 1 : Nat) : Int)))) rfl;have hO : Own tab w _ 31 v0 (γ (a_ 0)) xs:=hr0 trivial;have hV1 : V tab w _ 2 v1 (.i .i64 (k : Int)):=hr1 trivial;have hV2 : V tab w _ 2 v2 (.i .i64 ((k + 1 : Nat) : Int)):=hr2 trivial;rw [i_] at hv0 hv1 hv2;have e1 : v1 = .int .i64 (k : Int):=by
  obtain ⟨hl,-,-⟩:=b_Q t2 (by simp [TI.isS]) hV1;cases hl;rfl
 have e2 : v2 = .int .i64 ((k + 1 : Nat) : Int):=by
  obtain ⟨hl,-,-⟩:=b_Q t2 (by simp [TI.isS]) hV2;cases hl;rfl
 have evals : vals = #[v0,v1,v2]:=by
  apply Array.ext
  ·simp [hsz]
  ·intro i h1 h2
   have hi2 : i < 3:=by simpa using h2
   match i,hi2 with
   | 0,_ => rw [Array.getElem?_eq_getElem h1] at hv0;simpa using hv0
   | 1,_ => rw [Array.getElem?_eq_getElem h1] at hv1;simpa using hv1
   | 2,_ => rw [Array.getElem?_eq_getElem h1] at hv2;simpa using hv2
 obtain ⟨ti',e',ce',te',q1,q2,q3,q4,q5⟩:=hO
 have:=e_ t31 q1
 simp only [Prod.mk.injEq,true_and] at this;subst this;simp only [K.sl.injEq] at q2;subst q2
 have:=e_ t63 q3
 simp only [Prod.mk.injEq] at this;obtain ⟨rfl,rfl⟩:=this
 rcases q5 with ⟨-,hx,-⟩ | ⟨b,cap,cs,hg,hv,hh,h1,h2,h3,h4⟩
 ·rw [hx] at hk;exact absurd hk (Nat.not_lt_zero _)
 have lvl : ∀ j x,xs[j]? = some x → ∀ t,t < 16 → ∃ u y,cs[j * 16 + t]? = some u ∧ x.leaves[t]? = some y ∧ u.oneCell' = true:=by
  intro j x hx t ht;obtain ⟨-,k2,k3⟩:=h4 j x hx;have k2' : x.leaves.length = 16:=k2;have a1 : x.leaves[t]? = some x.leaves[t]:=List.getElem?_eq_getElem (by omega);obtain ⟨ty,hty⟩ : ∃ ty,([2,2,2,4,22,22,25,26,25,26,27,28,2,25,59,28] : List TypeId)[t]? = some ty:=⟨_,List.getElem?_eq_getElem ht⟩;obtain ⟨u,hu,hL⟩:=k3 t x.leaves[t] ty a1 hty;exact ⟨u,_,hu,a1,m_x hL⟩
 rw [evals,hv,e1,e2];rw [evals,hv,e1,e2] at hr hsz;have hm : maxLen = 9223372036854775807:=rfl;refine (m_9 w b xs.length cap k (k + 1) cs hh (by omega) (by omega) h1 (by omega) h3 fun t ht => ?_).mono ?_
 ·obtain ⟨u,-,hu,-,ho⟩:=lvl (t / 16) xs[t / 16] (List.getElem?_eq_getElem (by omega)) (t % 16) (Nat.mod_lt _ (by decide))
  exact ⟨u,by rw [← hu];congr 1;omega,ho⟩
 ·rintro r w' ⟨rfl,cs',rfl,hcs,hcell⟩
  refine ⟨_,rfl,?_⟩;have hle : (xs.eraseIdx k).length = xs.length - (k + 1 - k):=by rw [List.length_eraseIdx_of_lt hk];omega
  have hother : ∀ b',b' ≠ b → (w.drew.setRow b cs').heap[b']? = w.heap[b']? := fun b' hb' => setRow_other w.drew b b' cs' hb'
  refine p_f (g:=some b) hr hsz rfl rfl rfl rfl (by simp) (fun b' _ hn => hother b' (fun e => hn ⟨a_ 0,by rw [e];exact hg⟩)) (fun b' hb' => .inl ⟨a_ 0,by rw [hg];exact hb'⟩) fun O' hO' => ?_
  have hst : Stays w (w.drew.setRow b cs') (Ob ⟨w.heap.size,w,A,fun b => ∃ k,γ k = some b⟩ γ) O' := by
   intro b' _ hn;refine ⟨hother b' (fun e => hn (.inr ⟨a_ 0,by rw [e];exact hg⟩)),fun ho => ?_⟩
   rcases hO' b' ho with q | q
   ·exact hn (.inl q)
   ·exact hn (.inr ⟨a_ 0,by rw [hg];exact q⟩)
  refine ⟨_,63,62,_,t31,rfl,t63,q4,.inr ⟨b,cap,cs',rfl,by rw [hle],setRow_heap w.drew b cs cs' 63 (0,0) hh,by omega,h2,by rw [hcs];exact h3,fun j x hx => ?_⟩⟩;rw [List.getElem?_eraseIdx] at hx;have hjl : j < (xs.eraseIdx k).length:=by
   rcases Nat.lt_or_ge j (xs.eraseIdx k).length with q | q
   ·exact q
   ·exfalso
    have : (xs.eraseIdx k)[j]? = none:=List.getElem?_eq_none q;rw [List.getElem?_eraseIdx,hx] at this;cases this
  by_cases g : j < k
  ·rw [if_pos g] at hx
   obtain ⟨k1,k2,k3⟩:=h4 j x hx;refine ⟨k1,k2,fun n y ty hy ht => ?_⟩;obtain ⟨u,hu,hL⟩:=k3 n y ty hy ht;have hn : n < 16:=by rw [← show x.leaves.length = 16 from k2];exact (List.getElem?_eq_some_iff.1 hy).1
   refine ⟨u,?_,hL.mono hst⟩;have hu' : cs[j * 16 + n]? = some u:=hu
   show cs'[j * 16 + n]? = some u
   rw [hcell _ (by omega),if_pos (by omega)];exact hu'
  ·rw [if_neg g] at hx
   obtain ⟨k1,k2,k3⟩:=h4 (j + 1) x hx;refine ⟨k1,k2,fun n y ty hy ht => ?_⟩;obtain ⟨u,hu,hL⟩:=k3 n y ty hy ht;have hn : n < 16:=by rw [← show x.leaves.length = 16 from k2];exact (List.getElem?_eq_some_iff.1 hy).1
   refine ⟨u,?_,hL.mono hst⟩;have hu' : cs[(j + 1) * 16 + n]? = some u:=hu
   show cs'[j * 16 + n]? = some u
   rw [hcell _ (by omega),if_neg (by omega),← hu']
   congr 1;omega
end Go.Pq
namespace Go.Pl
theorem l_v (p b : Rat) (t u : List Nat) (x : Int) (hx : p = b → 0 < p → x = cmpL t u) :
  (T.ite (ltI 0 (cmpQ p b)) (T.b true) (T.ite (T.ite (eqI (cmpQ p b) 0) (T.b (ltI 0 (sgnZ p.num))) (T.b false)).bool (T.b (ltI x 0)) (T.b false))).bool = better p b t u:=by
 by_cases h : p = b ∧ 0 < p
 ·rw [hx h.1 h.2,f_3]
 ·unfold better
  have e1 : ltI 0 (cmpQ p b) = decide (b < p):=by unfold ltI;exact decide_eq_decide.2 e_m
  have e2 : eqI (cmpQ p b) 0 = decide (p = b):=by unfold eqI;exact decide_eq_decide.2 b_H
  have e3 : ltI 0 (sgnZ p.num) = decide (0 < p):=by unfold ltI;exact decide_eq_decide.2 (c_l.trans f_A)
  have e4 : (decide (p = b) && decide (0 < p)) = false:=by
   rw [← Bool.decide_and];exact decide_eq_false h
  rw [e1,e2,e3,e4];have e5 : (T.ite (decide (p = b)) (T.b (decide (0 < p))) (T.b false)).bool = false:=by rw [a_3];exact e4
  rw [e5];cases decide (b < p) <;> rfl
def tlE (h : Md) (o : On) (s k : Nat) : List (List Nat):=(List.range k).map fun m => (t_ h o s m).drop (comN h o s)
theorem s_D (h : Md) (o : On) (s k : Nat) : (tlE h o s k).length = k:=by simp [tlE]
theorem l_q (h : Md) (o : On) (s k : Nat) : tlE h o s (k + 1) = tlE h o s k ++ [(t_ h o s k).drop (comN h o s)]:=by simp [tlE,List.range_succ]
theorem g_C (h : Md) (o : On) (s k : Nat) : (paN h o s k).length = k:=by simp [paN]
theorem k_8 (h : Md) (o : On) (s k : Nat) : paN h o s (k + 1) = paN h o s k ++ [a_4 h o s k]:=by simp [paN,List.range_succ]
theorem b_Z (a b : List (List Nat)) : G_ a ++ G_ b = G_ (a ++ b):=by simp [G_]
section
variable {h : Md} {c : Nat} {o : On} (hk : MdOk h c) (H : OnOk h c o)
include hk H
theorem OnOk.u_J {s : Nat} (hs : 1 ≤ s ∧ s ≤ h.sym) : b_9 (scN h o s h.st) (paN h o s h.st) h.st = (lvN h o s).map (o.done ++ ·):=by
 unfold lvN b_9;rw [List.map_map];apply List.map_congr_left;intro i hi;obtain ⟨q1,q2⟩:=List.mem_filter.1 hi;have hi' := List.mem_range.1 q1;have hp : 0 < W_ h o s i:=by
  have:=of_decide_eq_true q2
  unfold scN at this
  rwa [a_g _ _ hi'] at this
 show (paN h o s h.st).getD i [] = o.done ++ (tlN h o s h.st).getD i []
 unfold paN tlN;rw [a_g _ _ hi',a_g _ _ hi',(H.path hk hs hi' hp).1]
end
end Go.Pl
namespace Go.Pq
open Go.Pl Go.Proofs
theorem n_U {h : Md} {c : Nat} {o : On} (hk : MdOk h c) (H : OnOk h c o) (s : Nat) (hs : 1 ≤ s ∧ s ≤ h.sym) (ht : o.time < 256) (y0 y1 : T) (y2 : Int)
  (r1 : f_I h o s = true → y0 = onT h (f_j h o s) ∧ y1 = intT (S_ h o s) ∧ y2 = 0) (r2 : f_I h o s = false → y0 = h_x ∧ y1 = .l [] ∧ y2 = 11) :
  F 26 [.t 60 (onT h o),.t 2 (.i .i64 (s : Int))] Z16 [y0,y1,.i .i64 y2]:=by
 have hst:=hk.st;have hsy:=hk.sym;have hr:=H.rl30 hk;have hcc:=hk.cc;have htm:=H.time;have hdl:=H.dlen;have hroom : room = 140737488355328:=rfl;have n4 : ∀ x ∈ scN h o s h.st,rl x ≤ 2 ^ 20:=by
  intro x hx;obtain ⟨i,hi,rfl⟩:=List.mem_map.1 hx;have hi' := List.mem_range.1 hi
  have:=(H.k_t hk hs hi').2.1
  have h5 : 2 * (o.time + 1) * c ≤ 2 * 257 * 2 ^ 10:=Nat.mul_le_mul (by omega) hcc.2;omega
 have n5 : ∀ i,i < h.st → (t_ h o s i).length ≤ 256 ∧ (a_4 h o s i).length ≤ 1024:=by
  intro i hi
  by_cases hp : 0 < W_ h o s i
  ·have h1:=(H.path hk hs hi hp).2.1
   have h2:=(H.path hk hs hi hp).1;refine ⟨by omega,?_⟩;rw [h2,List.length_append];omega
  ·unfold t_ a_4;rw [if_neg hp,if_neg hp];exact ⟨Nat.zero_le _,Nat.zero_le _⟩
 refine p_T _ _ _ _ _
  (fun i => i.1 = ratL (scN h o s i.2.2.2) ∧ i.2.1 = G_ (paN h o s i.2.2.2) ∧ i.2.2.1 = anyN h o s i.2.2.2 ∧ i.2.2.2 ≤ h.st)
  (fun i => h.st - i.2.2.2)
  (fun i x => x = ratT (A_ h o i.2.2.2 0).1)
  (fun i _ j => i.2.2.2 < h.st ∧ j.1 = ratT (A_ h o i.2.2.2 j.2.2).1 ∧ j.2.1 = intT (e_x o.done (A_ h o i.2.2.2 j.2.2).2) ∧ j.2.2 ≤ o.sc.length)
  (fun _ _ j => h.st - j.2.2)
  (fun i => i.1 = ratL (scN h o s h.st) ∧ i.2.1 = G_ (paN h o s h.st) ∧ i.2.2.1 = G_ (tlE h o s i.2.2.2.2.2) ∧ i.2.2.2.1 = intT (if anyN h o s i.2.2.2.2.2 then o.done ++ S_ h o s else []) ∧ i.2.2.2.2.1 = o.done.length + comN h o s ∧ i.2.2.2.2.2 ≤ h.st)
  (fun i => h.st - i.2.2.2.2.2) ?_
 rw [c_q,p_a,r_8,p_b,r_7,c_r,k_g,d_F,e_a,k_5,z_,b_f,D_,z_,k_,a_D.2 (by omega : (o.time : Int) ≠ 256),l_.2 (by omega : (1 : Int) ≤ (s : Int)),l_.2 (by omega : (s : Int) ≤ (h.sym : Int))];refine ⟨_,j_r hk H,fun q => (by cases q),fun _ => ⟨fun q => (by cases q),fun _ => ⟨⟨([],[],false,0),⟨rfl,rfl,rfl,Nat.zero_le _⟩,(by and_intros <;> first | exact trivial | rfl | (rw [c_ (by omega)];rfl))⟩,fun _ => rfl,?_⟩⟩⟩;rintro ⟨scs,pas,sm,k⟩ ⟨hsc,hpa,hsm,hkk⟩;dsimp only at hsc hpa hsm hkk ⊢;subst hsc hpa hsm;refine ⟨fun h1 => ?_,fun h1 => ?_⟩
 ·rw [d_] at h1
  have hlt : k < h.st:=by omega
  refine ⟨⟨fun h0 => ⟨⟨by omega,by rw [hk.init];omega⟩,ratT (A_ h o k 0).1,rfl,?_⟩,fun h0 => ⟨ratT (A_ h o k 0).1,rfl,?_⟩⟩,fun _ => rfl,?_⟩
  ·rw [M_] at h0
   have e : (A_ h o k 0).1 = h.init.getD k 0:=by unfold A_;rw [if_pos (by omega)]
   rw [e,hk.it hlt,C_];exact (by and_intros <;> first | exact trivial | rfl | (rw [c_ (by omega)];rfl))
  ·rw [a_D] at h0
   have e : (A_ h o k 0).1 = 0:=by unfold A_;rw [if_neg (by omega)]
   rw [e,e_z];exact (by and_intros <;> first | exact trivial | rfl | (rw [c_ (by omega)];rfl))
  rintro _ rfl;refine ⟨⟨(ratT (A_ h o k 0).1,intT [],0),⟨hlt,rfl,rfl,Nat.zero_le _⟩,(by and_intros <;> first | exact trivial | rfl | (rw [c_ (by omega)];rfl))⟩,fun _ => rfl,?_⟩
  all_goals
   rintro ⟨bt,tt,m⟩ ⟨-,hbt,htt,hm⟩;dsimp only at hbt htt hm ⊢;subst hbt htt;obtain ⟨b1,b2,b3⟩:=H.h_F hk hlt m hm;have b4 : rl (A_ h o k m).1 ≤ 2 ^ 20:=by
    have h5 : 2 * o.time * c ≤ 2 * 256 * 2 ^ 10:=Nat.mul_le_mul (by omega) hcc.2;omega
   have b5 : (e_x o.done (A_ h o k m).2).length ≤ 512:=by
    rcases b3 with ⟨e,-⟩ | ⟨i,e0,e1,e2,e⟩
    ·rw [e];exact Nat.zero_le _
    ·have hz : 0 < o.time:=by
      rcases Nat.eq_zero_or_pos o.time with q | q
      ·rw [(H.zero q).1] at hm;simp at hm;omega
      ·exact q
     have:=H.tlen _ (r_ (d:=([] : List Nat)) (show i < o.tails.length by have:=(H.lens hz).2;omega))
     rw [e]
     show (o.done ++ _).length ≤ _
     rw [List.length_append];omega
   rw [a_3];refine ⟨fun h2 => ?_,fun h2 => ?_⟩
   ·rw [Bool.and_eq_true,d_,d_] at h2
    have hz : 0 < o.time:=by omega
    obtain ⟨l1,l2⟩:=H.lens hz;have hmst : m < h.st:=by omega
    have hml : m < o.sc.length:=by omega
    have q1:=hr _ (r_ (d:=(0 : Rat)) hml);have q2:=(hk.trq hmst _ (r_ (d:=(0 : Rat)) (show k < (h.trans.getD m []).length by rw [hk.trl hmst];exact hlt))).1;have q3:=h_n (o.sc.getD m 0) ((h.trans.getD m []).getD k 0);have q4:=H.tlen _ (r_ (d:=([] : List Nat)) (show m < o.tails.length by omega));rw [a_X _ hml,hk.tr hmst,a_h,a_x,hk.trans,z_,hk.trl hmst,a_X _ (show k < (h.trans.getD m []).length by rw [hk.trl hmst];exact hlt),C_,C_,b_n _ (show m < o.tails.length by omega),b_t];have e1 : T.l (List.replicate 0 (T.i .i64 0) ++ (intT o.done).list ++ (intT (o.tails.getD m [])).list) = intT (o.done ++ o.tails.getD m []):=by
     rw [List.replicate_zero,List.nil_append,a_c,a_c,a_9];rfl
    have e2 : (intT o.done).list.length = o.done.length:=by rw [a_c,T_]
    have e3 : (intT (o.tails.getD m [])).list.length = (o.tails.getD m []).length:=by rw [a_c,T_]
    rw [e1];refine ⟨⟨by omega,by omega⟩,⟨by omega,by omega⟩,⟨by omega,by omega⟩,_,p_Z _ _ (by omega) (by omega),⟨by omega,by omega⟩,⟨by omega,by omega⟩,⟨by rw [List.replicate_zero,List.nil_append];omega,by rw [List.replicate_zero,List.nil_append];omega⟩,
     _,b_6 _ _ (by omega) (by omega),_,fun _ => e_E _ (by omega),_,fun _ => s_U _ _ (by rw [List.length_append];omega) (by omega),?_⟩
    rw [k_,k_,k_,l_v _ _ (o.tails.getD m []) (tl (A_ h o k m).2) _ ?_]
    ·refine ⟨fun hb => ?_,fun hb => ?_⟩
     ·refine ⟨(ratT (o.sc.getD m 0 * (h.trans.getD m []).getD k 0),intT (o.done ++ o.tails.getD m []),m + 1),⟨hlt,?_,?_,hml⟩,by dsimp only;omega,(by and_intros <;> first | exact trivial | rfl | (rw [c_ (by omega)];rfl))⟩
      ·dsimp only;rw [a_U,if_pos hb]
      ·dsimp only;rw [a_U,if_pos hb];rfl
     ·refine ⟨(ratT (A_ h o k m).1,intT (e_x o.done (A_ h o k m).2),m + 1),⟨hlt,?_,?_,hml⟩,by dsimp only;omega,(by and_intros <;> first | exact trivial | rfl | (rw [c_ (by omega)];rfl))⟩
      ·dsimp only;rw [a_U,if_neg (by rw [hb];decide)]
      ·dsimp only;rw [a_U,if_neg (by rw [hb];decide)]
    ·intro hpb hp0
     rcases b3 with ⟨-,e⟩ | ⟨i,-,i1,i2,e⟩
     ·rw [hpb,e hz] at hp0;exact absurd hp0 Rat.lt_irrefl
     ·rw [e]
      show cmpS (o.done ++ _) (o.done ++ _) = cmpL _ _
      have hsm : 0 < o.sc.getD m 0:=(f_n (H.share _ (r_ hml)).1 (hk.trq hmst _ (r_ (d:=(0 : Rat)) (show k < (h.trans.getD m []).length by rw [hk.trl hmst];exact hlt))).2.1 hp0).1;have g1:=(H.live m hmst hsm).1;have g2:=(H.live i i1 i2).1;rw [k_J (by rw [List.length_append,List.length_append];omega),o_G];rfl
   ·have hme : m = o.sc.length:=by
     rcases Nat.eq_zero_or_pos o.time with q | q
     ·rw [(H.zero q).1] at hm ⊢;simp at hm;simpa using hm
     ·have:=(H.lens q).1
      by_cases g : m < h.st
      ·rw [d_.2 (by omega),d_.2 (by omega)] at h2;cases h2
      ·omega
    subst hme;have hse : s - 1 < (h.emit.getD k []).length:=by rw [hk.eml hlt];omega
    have q1:=(hk.emq hlt _ (r_ (d:=(0 : Rat)) hse)).1;obtain ⟨n1,n2,n3⟩:=H.k_t hk hs hlt;have n7 : rl (W_ h o s k) ≤ 2 ^ 20:=by
     have h5 : 2 * (o.time + 1) * c ≤ 2 * 257 * 2 ^ 10:=Nat.mul_le_mul (by omega) hcc.2;omega
    rw [hk.em hlt,a_h,a_x,hk.emit,z_,hk.eml hlt,Y_ (by omega),show ((s : Int) - 1) = ((s - 1 : Nat) : Int) from by omega,a_X _ hse,C_];have hpl:=n5 k hlt;have e1 : List.take (ratL (scN h o s k)).length (ratL (scN h o s k)) ++ (List.replicate 1 (T.g [T.b false,T.l [],T.l []])).set 0 (ratT (W_ h o s k)) = ratL (scN h o s (k + 1)):=by
     rw [q_,l_j,← e_b];rfl
    have l1 : (List.take (ratL (scN h o s k)).length (ratL (scN h o s k))).length = k:=by rw [q_,d_J,c_e]
    have l2 : (List.take (G_ (paN h o s k)).length (G_ (paN h o s k))).length = k:=by rw [q_,b_A,g_C]
    have l3 : (intT (e_x o.done (A_ h o k o.sc.length).2)).list.length ≤ 512:=by rw [a_c,T_];exact b5
    refine ⟨⟨by omega,by omega⟩,⟨by omega,by omega⟩,_,p_Z _ _ (by omega) (by omega),⟨by rw [l1];show (k + 1) * 56 ≤ room;omega,by rw [l1];show k + 1 ≤ _;omega⟩,.i .i64 (sgnZ (W_ h o s k).num),e_E (W_ h o s k) (by omega),fun q => ?_,fun q => ?_⟩
    ·have hp : 0 < W_ h o s k:=by
      rw [k_,d_] at q;exact f_A.1 (c_l.1 q)
     have e2 : List.replicate 0 (T.i .i64 0) ++ (intT (e_x o.done (A_ h o k o.sc.length).2)).list ++ (List.replicate 1 (T.i .i64 0)).set 0 (T.i .i64 (k : Int)) = intL (a_4 h o s k):=by
      unfold a_4;rw [if_pos hp,← a_9];rfl
     have e3 : List.take (G_ (paN h o s k)).length (G_ (paN h o s k)) ++ (List.replicate 1 (T.l [])).set 0 (T.l (intL (a_4 h o s k))) = G_ (paN h o s (k + 1)):=by
      rw [q_,k_8,← b_Z];rfl
     refine ⟨⟨by omega,by omega⟩,⟨?_,?_⟩,⟨by rw [l2];show (k + 1) * 24 ≤ room;omega,by rw [l2];show k + 1 ≤ _;omega⟩,(ratL (scN h o s (k + 1)),G_ (paN h o s (k + 1)),true,k + 1),⟨rfl,rfl,(f_J hp).symm,hlt⟩,by dsimp only;omega,?_⟩
     ·rw [List.replicate_zero,List.nil_append]
      show ((intT (e_x o.done (A_ h o k o.sc.length).2)).list.length + 1) * 8 ≤ room
      omega
     ·rw [List.replicate_zero,List.nil_append]
      show (intT (e_x o.done (A_ h o k o.sc.length).2)).list.length + 1 ≤ _
      omega
     ·rw [e2,e3,← e1]
      exact (by and_intros <;> first | exact trivial | rfl | (rw [c_ (by omega)];rfl))
    ·have hp : ¬ 0 < W_ h o s k:=by
      intro hp;rw [k_,l_] at q
      have:=c_l.2 (f_A.2 hp)
      omega
     have e3 : List.take (G_ (paN h o s k)).length (G_ (paN h o s k)) ++ (List.replicate 1 (T.l [])).set 0 (T.l []) = G_ (paN h o s (k + 1)):=by
      have : a_4 h o s k = []:=by unfold a_4;rw [if_neg hp]
      rw [q_,k_8,this,← b_Z];rfl
     refine ⟨⟨by rw [l2];show (k + 1) * 24 ≤ room;omega,by rw [l2];show k + 1 ≤ _;omega⟩,(ratL (scN h o s (k + 1)),G_ (paN h o s (k + 1)),anyN h o s k,k + 1),⟨rfl,rfl,?_,hlt⟩,by dsimp only;omega,?_⟩
     ·dsimp only;rw [h_C hp]
     ·rw [e3,← e1]
      exact (by and_intros <;> first | exact trivial | rfl | (rw [c_ (by omega)];rfl))
 ·rw [l_] at h1
  have hke : k = h.st:=by omega
  subst hke;refine ⟨fun q => ?_,fun q => ?_⟩
  ·have ha : f_I h o s = false:=by
    have e : (!anyN h o s h.st) = true:=q;have : anyN h o s h.st = false:=by simpa using e
    exact this
   obtain ⟨e0,e1,e2⟩:=r2 ha;subst e0 e1 e2;exact ⟨trivial,rfl,rfl,rfl,trivial⟩
  ·have ha : f_I h o s = true:=by
    have e : (!anyN h o s h.st) = false:=q;have : anyN h o s h.st = true:=by simpa using e
    exact this
   obtain ⟨e0,e1,e2⟩:=r1 ha;have n6 : ∀ p ∈ paN h o s h.st,p.length ≤ 2 ^ 20:=by
    intro x hx;obtain ⟨i,hi,rfl⟩:=List.mem_map.1 hx
    have:=n5 i (List.mem_range.1 hi)
    omega
   obtain ⟨j0,hj0,hp0⟩:=of_decide_eq_true ha;have hcl : (S_ h o s).length ≤ 256:=by
    rw [(H.commit hk hj0 hp0).1,List.length_take]
    have:=n5 j0 hj0
    omega
   have hcom : comN h o s ≤ 256:=by
    have:=(H.commit hk hj0 hp0).2
    have:=n5 j0 hj0
    omega
   have cm:=i_z h ⟨o.time + 1,scN h o s h.st,[],[]⟩ (paN h o s h.st) (by rw [g_C];show _ ≤ (scN h o s h.st).length;rw [c_e];exact Nat.le_refl _) (by show (scN h o s h.st).length ≤ _;rw [c_e];omega) n6
    (fun x hx => by have:=n4 x hx;omega)
   rw [g_C] at cm;have hne : lvN h o s ≠ []:=by
    intro e;have : t_ h o s j0 ∈ lvN h o s:=(H.p_W hk).2 ⟨j0,hj0,hp0,rfl⟩;rw [e] at this;cases this
   have e8 : b_9 (⟨o.time + 1,scN h o s h.st,[],[]⟩ : On).sc (paN h o s h.st) h.st = (lvN h o s).map (o.done ++ ·):=H.u_J hk hs;have e9 : comF ((lvN h o s).map (o.done ++ ·)) = o.done.length + comN h o s:=by
    unfold comN
    cases hl : lvN h o s with
    | nil => exact absurd hl hne
    | cons f r => exact o_J _ _ _
   rw [e8,if_neg (by simpa using hne),e9] at cm;rw [List.drop_zero,List.drop_zero,List.drop_zero,q_,q_,c_ (by omega),show ((o.time : Int) + 1) = ((o.time + 1 : Nat) : Int) from by omega];refine ⟨_,cm,⟨(ratL (scN h o s h.st),G_ (paN h o s h.st),[],intT [],o.done.length + comN h o s,0),⟨rfl,rfl,rfl,rfl,rfl,Nat.zero_le _⟩,(by and_intros <;> first | exact trivial | rfl | (rw [c_ (by omega)];rfl))⟩,fun _ => rfl,?_⟩;rintro ⟨scs,pas,tls,dn,kc,i⟩ ⟨hsc,hpa,htl,hdn,hkc,hi⟩;dsimp only at hsc hpa htl hdn hkc hi ⊢;subst hsc hpa htl hkc;rw [hdn,List.drop_zero,List.drop_zero,q_,q_,b_A,b_A,g_C,s_D];refine ⟨fun h2 => ?_,fun h2 => ?_⟩
   ·rw [d_] at h2
    have hlt : i < h.st:=by omega
    have hscl:=c_e h o s h.st;have al:=n_D h ⟨o.time + 1,scN h o s h.st,tlE h o s i,if anyN h o s i then o.done ++ S_ h o s else []⟩ i (by show i < (scN h o s h.st).length;omega) (by show (scN h o s h.st).length ≤ _;omega) (by have:=n4 _ (r_ (d:=(0 : Rat)) (show i < (scN h o s h.st).length by omega));show rl ((scN h o s h.st).getD i 0) ≤ _;omega);have al2 : ((scN h o s h.st).getD i 0) = W_ h o s i:=a_g _ _ hlt;rw [show (⟨o.time + 1,scN h o s h.st,tlE h o s i,if anyN h o s i then o.done ++ S_ h o s else []⟩ : On).sc.getD i 0 = W_ h o s i from al2] at al;have hat : (G_ (paN h o s h.st)).getD (0 + ((i : Nat) : Int).toNat) T.u = intT (a_4 h o s i):=by
     rw [Nat.zero_add,Int.toNat_natCast,e_f _ (by rw [g_C];exact hlt)];unfold paN;rw [a_g _ _ hlt]
    rw [hat,b_t,D_,a_c,List.drop_zero];have hlen:=n5 i hlt;refine ⟨_,al,fun q => ?_,fun q => ?_⟩
    ·have hp : ¬ 0 < W_ h o s i:=by
      have : (!decide (0 < W_ h o s i)) = true:=q;simpa using this
     have hd : t_ h o s i = []:=by unfold t_;rw [if_neg hp]
     have e3 : G_ (tlE h o s i) ++ (List.replicate 1 (T.l [])).set 0 (T.l []) = G_ (tlE h o s (i + 1)):=by
      rw [l_q,hd,List.drop_nil,← b_Z];rfl
     refine ⟨⟨by show (i + 1) * 24 ≤ room;omega,by show i + 1 ≤ _;omega⟩,(ratL (scN h o s h.st),G_ (paN h o s h.st),G_ (tlE h o s (i + 1)),intT (if anyN h o s i = true then o.done ++ S_ h o s else []),o.done.length + comN h o s,i + 1),⟨rfl,rfl,rfl,?_,rfl,hlt⟩,by dsimp only;omega,?_⟩
     ·dsimp only;rw [h_C hp]
     ·rw [e3]
      exact (by and_intros <;> first | exact trivial | rfl | (rw [c_ (by omega)];rfl))
    ·have hp : 0 < W_ h o s i:=by
      have : (!decide (0 < W_ h o s i)) = false:=q;simpa using this
     obtain ⟨c1,c2⟩:=H.commit hk hlt hp;obtain ⟨p1,p2,-,-⟩:=H.path hk hs hlt hp;have f1 : (a_4 h o s i).take (o.done.length + comN h o s) = o.done ++ S_ h o s:=by
      rw [p1,c1,List.take_length_add_append]
     have f2 : (a_4 h o s i).drop (o.done.length + comN h o s) = (t_ h o s i).drop (comN h o s):=by
      rw [p1,List.drop_length_add_append]
     have hpl : (a_4 h o s i).length = o.done.length + (t_ h o s i).length:=by rw [p1,List.length_append]
     have g1 : (((o.done.length + comN h o s : Nat) : Int) - 0).toNat = o.done.length + comN h o s:=by omega
     have g2 : (((a_4 h o s i).length : Int) - ((o.done.length + comN h o s : Nat) : Int)).toNat = ((t_ h o s i).drop (comN h o s)).length:=by rw [List.length_drop];omega
     rw [g1,g2,Int.toNat_natCast,b_7,e_p,b_7,f1,f2,q_,List.replicate_zero,List.nil_append,List.nil_append,T_,T_];have hw1 : (o.done ++ S_ h o s).length ≤ 512:=by rw [List.length_append];omega
     have hw2 : ((t_ h o s i).drop (comN h o s)).length ≤ 256:=by rw [List.length_drop];omega
     have e3 : G_ (tlE h o s i) ++ (List.replicate 1 (T.l [])).set 0 (T.l (intL ((t_ h o s i).drop (comN h o s)))) = G_ (tlE h o s (i + 1)):=by
      rw [l_q,← b_Z];rfl
     refine ⟨⟨by omega,by omega⟩,⟨by omega,by omega,by omega⟩,⟨by omega,by omega⟩,⟨by omega,by omega⟩,⟨by omega,by omega,by omega⟩,⟨by omega,by omega⟩,⟨by show (i + 1) * 24 ≤ room;omega,by show i + 1 ≤ _;omega⟩,
      (ratL (scN h o s h.st),G_ (paN h o s h.st),G_ (tlE h o s (i + 1)),intT (o.done ++ S_ h o s),o.done.length + comN h o s,i + 1),⟨rfl,rfl,rfl,?_,rfl,hlt⟩,by dsimp only;omega,?_⟩
     ·dsimp only;rw [f_J hp];rfl
     ·rw [e3]
      exact (by and_intros <;> first | exact trivial | rfl | (rw [c_ (by omega)];rfl))
   ·rw [l_] at h2
    have hie : i = h.st:=by omega
    subst hie;have ha' : anyN h o s h.st = true:=ha;rw [if_pos ha',D_,a_c,List.length_append];have g1 : ((((o.done.length + (S_ h o s).length : Nat) : Int)) - (o.done.length : Int)).toNat = (S_ h o s).length:=by omega
    have g2 : (o.done ++ S_ h o s).drop o.done.length = S_ h o s:=by simp
    rw [g1,Int.toNat_natCast,e_p,g2,b_7,q_,List.replicate_zero,List.nil_append,T_];refine ⟨⟨by omega,by omega,by omega⟩,⟨by omega,by omega⟩,trivial,?_,e1.symm,by rw [e2],trivial⟩;rw [e0];have e7 : tlE h o s h.st = (tlN h o s h.st).map (List.drop (comN h o s)):=by
     unfold tlE tlN;rw [List.map_map];rfl
    rw [e7];rfl
end Go.Pq
namespace Go.Pl
structure Srv where
 ss : List (Nat × On)
 made : Nat
def sesT (h : Md) (x : Nat × On) : T:=.g [.i .i64 (x.1 : Int),.i .i64 (h.sym : Int),.i .i64 (h.st : Int),.b (decide (h.empty.num < 0)),lim (Lb.nat h.empty.num.natAbs),den1 h.empty.den,
 v_ h.init,R_ h.trans,v_ h.stop,R_ h.emit,b_b (List.replicate h.st false),intT h.ties,.i .i64 (x.2.time : Int),v_ x.2.sc,d_u x.2.tails,intT x.2.done]
def sesL (h : Md) (l : List (Nat × On)) : List T:=l.map (sesT h)
def srvT (h : Md) (s : Srv) : T:=.g [.i .i64 (h.sym : Int),.i .i64 (h.st : Int),.b (decide (h.empty.num < 0)),lim (Lb.nat h.empty.num.natAbs),den1 h.empty.den,
 v_ h.init,R_ h.trans,v_ h.stop,R_ h.emit,b_b (List.replicate h.st false),intT h.ties,.l (sesL h s.ss),.i .i64 (s.made : Int)]
theorem e_F (h : Md) (s : Srv) : (G13 (srvT h s)) = srvT h s:=rfl
theorem o_e (h : Md) (s : Srv) : (G11 (srvT h s)) = hidT h:=rfl
theorem q_c (h : Md) (s : Srv) : (srvT h s).cell 11 = .l (sesL h s.ss):=rfl
theorem p_z (h : Md) (s : Srv) : ((srvT h s).cell 12).int = (s.made : Int):=rfl
theorem f_R (h : Md) (x : Nat × On) : (sesT h x).part 0 16 = sesT h x:=rfl
theorem s_t (h : Md) (x : Nat × On) : ((sesT h x).cell 0).int = (x.1 : Int):=rfl
theorem u_k (h : Md) (x : Nat × On) : T.g [(sesT h x).cell 1,(sesT h x).cell 2,(sesT h x).cell 3,(sesT h x).cell 4,(sesT h x).cell 5,(sesT h x).cell 6,(sesT h x).cell 7,(sesT h x).cell 8,(sesT h x).cell 9,(sesT h x).cell 10,(sesT h x).cell 11,
 (sesT h x).cell 12,(sesT h x).cell 13,(sesT h x).cell 14,(sesT h x).cell 15] = onT h x.2:=rfl
theorem n_3 (h : Md) (x : Nat × On) : T.g [(sesT h x).cell 1,(sesT h x).cell 2,(sesT h x).cell 3,(sesT h x).cell 4,(sesT h x).cell 5,(sesT h x).cell 6,(sesT h x).cell 7,(sesT h x).cell 8,(sesT h x).cell 9,(sesT h x).cell 10,(sesT h x).cell 11] = hidT h:=rfl
theorem a_L (h : Md) (l : List (Nat × On)) : (sesL h l).length = l.length:=by simp [sesL]
theorem j_6 (h : Md) (l : List (Nat × On)) : lenOf (T.l (sesL h l)).list = (l.length : Int):=by show ((sesL h l).length : Int) = _;rw [a_L]
theorem l_k (h : Md) (l : List (Nat × On)) {i : Nat} (hi : i < l.length) : (T.l (sesL h l)).list.getD (i : Int).toNat T.u = sesT h (l.getD i (0,on0)):=by
 rw [Int.toNat_natCast]
 show (sesL h l).getD i T.u = _
 simp [sesL,List.getD_eq_getElem?_getD,hi]
theorem d_r (h : Md) (l : List (Nat × On)) {i : Nat} (hi : i < l.length) : (sesL h l).getD i T.u = sesT h (l.getD i (0,on0)):=by
 simp [sesL,List.getD_eq_getElem?_getD,hi]
theorem g_Q (h : Md) (a b : List (Nat × On)) : sesL h a ++ sesL h b = sesL h (a ++ b):=by simp [sesL]
theorem p_v (h : Md) (l : List (Nat × On)) (k : Nat) (x : Nat × On) : (sesL h l).set k (sesT h x) = sesL h (l.set k x):=by simp [sesL,List.map_set]
structure b_O (h : Md) (c : Nat) (s : Srv) : Prop where
 few : s.ss.length ≤ 8
 made : s.made ≤ 1099511627776
 num : ∀ i,i < s.ss.length → (s.ss.getD i (0,on0)).1 < s.made
 up : ∀ i,i + 1 < s.ss.length → (s.ss.getD i (0,on0)).1 < (s.ss.getD (i + 1) (0,on0)).1
 ok : ∀ x ∈ s.ss,OnOk h c x.2
theorem b_O.mono {h : Md} {c : Nat} {s : Srv} (H : b_O h c s) : ∀ {i j : Nat},i < j → j < s.ss.length → (s.ss.getD i (0,on0)).1 < (s.ss.getD j (0,on0)).1:=by
 intro i j hij hj
 induction j with
 | zero => omega
 | succ j ih =>
  have:=H.up j hj
  by_cases e : i = j
  ·subst e;exact this
  ·have:=ih (by omega) (by omega);omega
end Go.Pl
namespace Go.Pq
open Go.Pl Go.Proofs
theorem n_0 (xs : List T) (hl : xs.length ≤ 2 ^ 40) : F 121 [.t 22 (.l xs),.t 22 (.l xs)] (zo 2 4) [.b true]:=by
 refine q_U _ _ _ (fun k => k ≤ xs.length) (fun k => xs.length - k) ?_;have hlen : lenOf (T.l xs).list = (xs.length : Int):=rfl;rw [hlen,a_f];refine ⟨fun q => (by cases q),fun _ => ⟨⟨0,Nat.zero_le _,(by and_intros <;> first | exact trivial | rfl | (rw [c_ (by omega)];rfl))⟩,fun _ => rfl,?_⟩⟩;intro k hk;refine ⟨fun h1 => ?_,fun h1 => ⟨trivial,rfl,trivial⟩⟩;rw [d_] at h1;rw [a_f];exact ⟨⟨by omega,by omega⟩,⟨by omega,by omega⟩,fun q => (by cases q),fun _ => ⟨k + 1,by omega,by omega,(by and_intros <;> first | exact trivial | rfl | (rw [c_ (by omega)];rfl))⟩⟩
theorem s_p (xs : List T) (hl : xs.length ≤ 2 ^ 40) : F 77 [.t 28 (.l xs),.t 28 (.l xs)] (zo 2 4) [.b true]:=by
 refine t_K _ _ _ (fun k => k ≤ xs.length) (fun k => xs.length - k) ?_;have hlen : lenOf (T.l xs).list = (xs.length : Int):=rfl;rw [hlen,a_f];refine ⟨fun q => (by cases q),fun _ => ⟨⟨0,Nat.zero_le _,(by and_intros <;> first | exact trivial | rfl | (rw [c_ (by omega)];rfl))⟩,fun _ => rfl,?_⟩⟩;intro k hk;refine ⟨fun h1 => ?_,fun h1 => ⟨trivial,rfl,trivial⟩⟩;rw [d_] at h1;rw [a_f];exact ⟨⟨by omega,by omega⟩,⟨by omega,by omega⟩,fun q => (by cases q),fun _ => ⟨k + 1,by omega,by omega,(by and_intros <;> first | exact trivial | rfl | (rw [c_ (by omega)];rfl))⟩⟩
theorem s_m (xs : List T) (hl : xs.length ≤ 2 ^ 40) : F 76 [.t 27 (.l xs),.t 27 (.l xs)] (zo 2 4) [.b true]:=by
 refine t_J _ _ _ (fun k => k ≤ xs.length) (fun k => xs.length - k) ?_;have hlen : lenOf (T.l xs).list = (xs.length : Int):=rfl;rw [hlen,a_f];refine ⟨fun q => (by cases q),fun _ => ⟨⟨0,Nat.zero_le _,(by and_intros <;> first | exact trivial | rfl | (rw [c_ (by omega)];rfl))⟩,fun _ => rfl,?_⟩⟩;intro k hk;refine ⟨fun h1 => ?_,fun h1 => ⟨trivial,rfl,trivial⟩⟩;rw [d_] at h1;exact ⟨⟨by omega,by omega⟩,⟨by omega,by omega⟩,fun q => (by simp at q),fun _ => ⟨k + 1,by omega,by omega,(by and_intros <;> first | exact trivial | rfl | (rw [c_ (by omega)];rfl))⟩⟩
theorem n_1 (q : Rat) (hq : rl q ≤ 2 ^ 30) : F 74 [.t 23 (ratT q),.t 23 (ratT q)] (zo 2 4) [.b true]:=by
 have l1:=c_9 q;have l2:=c_8 q;have c1 : F 121 [.t 22 (lim (Lb.nat q.num.natAbs)),.t 22 (lim (Lb.nat q.num.natAbs))] (zo 2 4) [.b true]:=n_0 _ (by rw [y_];omega);have c2 : F 121 [.t 22 (den1 q.den),.t 22 (den1 q.den)] (zo 2 4) [.b true]:=n_0 _ (by
  rw [y_];unfold dl;split
  ·simp
  ·omega)
 refine t_H _ _ _ ⟨_,fun _ => c1,_,fun _ => c2,trivial,?_,trivial⟩;have e : (((ratT q).cell 0).bool == ((ratT q).cell 0).bool) = true:=by simp
 rw [e];rfl
theorem i_a (l : List Rat) (hl : l.length ≤ 2 ^ 40) (h : ∀ q ∈ l,rl q ≤ 2 ^ 30) : F 72 [.t 25 (v_ l),.t 25 (v_ l)] (zo 2 4) [.b true]:=by
 have c1 : F 73 [.t 25 (v_ l),.t 25 (v_ l),.t 1 (.f 74 [])] (zo 3 4) [.b true]:=by
  refine r_S _ _ _ (fun k => k ≤ l.length) (fun k => l.length - k) ?_;rw [z_,a_f];refine ⟨fun q => (by cases q),fun _ => ⟨⟨0,Nat.zero_le _,(by and_intros <;> first | exact trivial | rfl | (rw [c_ (by omega)];rfl))⟩,fun _ => rfl,?_⟩⟩;intro k hk;refine ⟨fun h1 => ?_,fun h1 => ⟨trivial,rfl,trivial⟩⟩;rw [d_] at h1;have hlt : k < l.length:=by omega
  rw [a_X _ hlt,C_];exact ⟨⟨by omega,by omega⟩,⟨by omega,by omega⟩,_,⟨rfl,n_1 _ (h _ (r_ hlt))⟩,fun q => (by cases q),fun _ => ⟨k + 1,by omega,by omega,(by and_intros <;> first | exact trivial | rfl | (rw [c_ (by omega)];rfl))⟩⟩
 exact t_G _ _ _ ⟨_,c1,trivial,rfl,trivial⟩
theorem h_q (m : List (List Rat)) (hl : m.length ≤ 2 ^ 40) (h : ∀ r ∈ m,r.length ≤ 2 ^ 40 ∧ ∀ q ∈ r,rl q ≤ 2 ^ 30) : F 75 [.t 26 (R_ m),.t 26 (R_ m),.t 1 (.f 72 [])] (zo 3 4) [.b true]:=by
 refine t_I _ _ _ (fun k => k ≤ m.length) (fun k => m.length - k) ?_;rw [a_x,a_f];refine ⟨fun q => (by cases q),fun _ => ⟨⟨0,Nat.zero_le _,(by and_intros <;> first | exact trivial | rfl | (rw [c_ (by omega)];rfl))⟩,fun _ => rfl,?_⟩⟩;intro k hk;refine ⟨fun h1 => ?_,fun h1 => ⟨trivial,rfl,trivial⟩⟩;rw [d_] at h1;have hlt : k < m.length:=by omega
 have hr:=h _ (r_ (d:=[]) hlt);rw [b_y,Int.toNat_natCast,b_x m hlt,a_h];exact ⟨⟨by omega,by omega⟩,⟨by omega,by omega⟩,_,⟨rfl,i_a _ hr.1 hr.2⟩,fun q => (by cases q),fun _ => ⟨k + 1,by omega,by omega,(by and_intros <;> first | exact trivial | rfl | (rw [c_ (by omega)];rfl))⟩⟩
theorem s_o (h : Md) (c : Nat) (hk : MdOk h c) : F 35 [.t 29 (hidT h),.t 29 (hidT h)] (zo 2 4) [.b true]:=by
 have hst:=hk.st;have hsy:=hk.sym;have hc:=hk.cc;refine t_g _ _ _ ?_;rw [c_E,c_Q,b_K,d_y,c_h,c_p,d_z,c_N,c_N];refine ⟨_,fun _ => n_1 _ (by have:=hk.q0.1;omega),_,fun _ => ⟨rfl,i_a _ (by rw [hk.init];omega) fun q hq => by have:=(hk.q1 q hq).1;omega⟩,_,fun _ => h_q _ (by rw [hk.trans];omega) fun r hr => ⟨by rw [hk.rows r hr];omega,fun q hq => by have:=(hk.q2 r hr q hq).1;omega⟩,
  _,fun _ => ⟨rfl,i_a _ (by rw [hk.stop];omega) fun q hq => by have:=(hk.q3 q hq).1;omega⟩,_,fun _ => h_q _ (by rw [hk.emit];omega) fun r hr => ⟨by rw [hk.shows r hr];omega,fun q hq => by have:=(hk.q4 r hr q hq).1;omega⟩,
  _,fun _ => s_m _ (by simp [a_Y];omega),_,fun _ => s_p _ (by rw [T_,hk.ties];omega),trivial,rfl,trivial⟩
theorem p_H {h : Md} {c : Nat} {s : Srv} (hk : MdOk h c) (H : b_O h c s) : F 12 [.t 32 (srvT h s)] (zo 1 4) [.b true]:=by
 have hf:=H.few;have hm:=H.made;refine s_1 _ _ (fun i => i.2 ≤ s.ss.length ∧ (∀ j,i.2 = j + 1 → i.1 = (s.ss.getD j (0,on0)).1 + 1) ∧ (i.2 = 0 → i.1 = 0)) (fun i => s.ss.length - i.2) ?_;rw [o_e,q_c,p_z,j_6];refine ⟨_,h_3 h c hk,fun q => ?_,fun _ => ⟨⟨(0,0),⟨Nat.zero_le _,(fun j hj => by cases hj),fun _ => rfl⟩,(by and_intros <;> first | exact trivial | rfl | (rw [c_ (by omega)];rfl))⟩,fun _ => rfl,?_⟩⟩
 ·exfalso
  rw [l_.2 (by omega),l_.2 (by omega),l_.2 (by omega)] at q;cases q
 rintro ⟨l,k⟩ ⟨hkk,hlk,hl0⟩;dsimp only at hkk hlk hl0 ⊢;refine ⟨fun h1 => ?_,fun h1 => ⟨trivial,rfl,trivial⟩⟩;rw [d_] at h1;have hlt : k < s.ss.length:=by omega
 have hn:=H.num k hlt;have hle : l ≤ (s.ss.getD k (0,on0)).1:=by
  match k,hlk with
  | 0,hlk => have:=hl0 rfl;omega
  | j + 1,hlk => have:=hlk j rfl;have:=H.up j hlt;omega
 rw [l_k _ _ hlt,f_R,u_k,n_3,s_t,l_.2 (by omega),b_o.2 (by omega)];exact ⟨⟨by omega,by omega⟩,_,fun _ => f_U hk (H.ok _ (r_ hlt)),_,fun _ => s_o h c hk,fun q => (by cases q),fun _ => ⟨((s.ss.getD k (0,on0)).1 + 1,k + 1),⟨hlt,(fun j hj => by simp at hj;subst hj;rfl),fun q => by simp at q⟩,by dsimp only;omega,(by and_intros <;> first | exact trivial | rfl | (rw [c_ (by omega)];rfl))⟩⟩
end Go.Pq
namespace Go.Pl
def d_o (h : Md) (o : On) (x : Int) : Except Int On :=
 if x < 1 ∨ (h.sym : Int) < x ∨ o.time = 256 then .error 1 else if f_I h o x.toNat = true then .ok (f_j h o x.toNat) else .error 11
def c_o (h : Md) (o : On) : List Int → Except Int On
 | [] => .ok o
 | x :: r => match d_o h o x with
  | .ok o' => c_o h o' r
  | .error e => .error e
theorem h_4 {h : Md} {c : Nat} {o o' : On} {x : Int} (hk : MdOk h c) (H : OnOk h c o) (hp : d_o h o x = .ok o') : OnOk h c o' ∧ o' = f_j h o x.toNat ∧ o'.time = o.time + 1:=by
 unfold d_o at hp;split at hp
 ·cases hp
 ·rename_i q
  split at hp
  ·rename_i q2
   cases hp;exact ⟨H.s_h hk (by omega) (by have:=H.time;omega) q2,rfl,rfl⟩
  ·cases hp
theorem g_J {h : Md} {o : On} {x e : Int} (hp : d_o h o x = .error e) : e = 1 ∨ e = 11:=by
 unfold d_o at hp;split at hp
 ·cases hp;exact .inl rfl
 ·split at hp
  ·cases hp
  ·cases hp;exact .inr rfl
def Fnd (l : List (Nat × On)) (n : Int) (k : Nat) : Prop:=k ≤ l.length ∧ (∀ j,j < k → ((l.getD j (0,on0)).1 : Int) < n) ∧ ∀ j,k ≤ j → j < l.length → n ≤ ((l.getD j (0,on0)).1 : Int)
theorem u_b {a b : Nat} (h : a + b ≤ 2 ^ 60) : p_ .i64 (shrI .u64 (p_ .u64 (addI .i64 (a : Int) (b : Int))) (1 : Int)) = ((a + b) / 2 : Nat):=by
 rw [c_ (by omega),a_2 (by omega)];have : shrI .u64 ((a : Int) + (b : Int)) 1 = ((a : Int) + (b : Int)) / 2:=by
  unfold shrI;rw [show (min (Int.toNat 1) IntKind.u64.bits) = 1 from rfl,Int.fdiv_eq_ediv_of_nonneg _ (by decide)];rfl
 rw [this,e_1 (by omega)];omega
end Go.Pl
namespace Go.Pq
open Go.Pl Go.Proofs
theorem p_h {h : Md} {c : Nat} {o : On} (hk : MdOk h c) (H : OnOk h c o) (x : Int) : ∃ y0 y1 y2,F 133 [.t 60 (onT h o),.t 2 (.i .i64 x)] Z16 [y0,y1,.i .i64 y2] ∧
  (match d_o h o x with | .ok o' => y0 = onT h o' ∧ y1 = intT (S_ h o x.toNat) ∧ y2 = 0 | .error e => y0 = h_x ∧ y1 = .l [] ∧ y2 = e):=by
 unfold d_o
 by_cases q : x < 1 ∨ (h.sym : Int) < x ∨ o.time = 256
 ·rw [if_pos q]
  refine ⟨h_x,.l [],1,?_,rfl,rfl,rfl⟩;refine n_h _ _ _ _ _ (fun _ => True) (fun _ => 0) (fun _ _ => True) (fun _ _ _ => True) (fun _ _ _ => 0) (fun _ => True) (fun _ => 0) ?_;rw [c_q,k_4,c_r,k_5,k_];refine ⟨_,f_U hk H,fun q => (by cases q),fun _ => ⟨fun _ => ⟨trivial,rfl,rfl,rfl,trivial⟩,fun w => ?_⟩⟩
  exfalso
  rw [d_R,d_R,Bool.or_eq_false_iff,Bool.or_eq_false_iff,l_,l_,a_D] at w;omega
 ·rw [if_neg q]
  obtain ⟨n,rfl⟩ : ∃ n : Nat,x = (n : Int):=⟨x.toNat,by omega⟩;rw [Int.toNat_natCast];have ht:=H.time
  by_cases g : f_I h o n = true
  ·rw [if_pos g]
   exact ⟨_,_,_,p_7 hk H n (by omega) (by omega) _ _ _ (fun _ => ⟨rfl,rfl,rfl⟩) (fun w => by rw [g] at w;cases w),rfl,rfl,rfl⟩
  ·rw [if_neg g]
   exact ⟨_,_,_,p_7 hk H n (by omega) (by omega) _ _ _ (fun w => absurd w g) (fun _ => ⟨rfl,rfl,rfl⟩),rfl,rfl,rfl⟩
theorem p_i {h : Md} {c : Nat} {o : On} (hk : MdOk h c) (H : OnOk h c o) (x : Int) : ∃ y0 y1 y2,F 26 [.t 60 (onT h o),.t 2 (.i .i64 x)] Z16 [y0,y1,.i .i64 y2] ∧
  (match d_o h o x with | .ok o' => y0 = onT h o' ∧ y1 = intT (S_ h o x.toNat) ∧ y2 = 0 | .error e => y0 = h_x ∧ y1 = .l [] ∧ y2 = e):=by
 unfold d_o
 by_cases q : x < 1 ∨ (h.sym : Int) < x ∨ o.time = 256
 ·rw [if_pos q]
  refine ⟨h_x,.l [],1,?_,rfl,rfl,rfl⟩;refine p_T _ _ _ _ _ (fun _ => True) (fun _ => 0) (fun _ _ => True) (fun _ _ _ => True) (fun _ _ _ => 0) (fun _ => True) (fun _ => 0) ?_;rw [c_q,c_r,k_5,k_];refine ⟨_,j_r hk H,fun q => (by cases q),fun _ => ⟨fun _ => ⟨trivial,rfl,rfl,rfl,trivial⟩,fun w => ?_⟩⟩
  exfalso
  rw [d_R,d_R,Bool.or_eq_false_iff,Bool.or_eq_false_iff,l_,l_,a_D] at w;omega
 ·rw [if_neg q]
  obtain ⟨n,rfl⟩ : ∃ n : Nat,x = (n : Int):=⟨x.toNat,by omega⟩;rw [Int.toNat_natCast];have ht:=H.time
  by_cases g : f_I h o n = true
  ·rw [if_pos g]
   exact ⟨_,_,_,n_U hk H n (by omega) (by omega) _ _ _ (fun _ => ⟨rfl,rfl,rfl⟩) (fun w => by rw [g] at w;cases w),rfl,rfl,rfl⟩
  ·rw [if_neg g]
   exact ⟨_,_,_,n_U hk H n (by omega) (by omega) _ _ _ (fun w => absurd w g) (fun _ => ⟨rfl,rfl,rfl⟩),rfl,rfl,rfl⟩
theorem s_V (a b : Int) (y : Int) (hy : y = if a < b then -1 else if b < a then 1 else 0) : F 165 [.t 2 (.i .i64 a),.t 2 (.i .i64 b)] (zo 2 2) [.i .i64 y]:=by
 subst hy;have n1 : ∀ x : Int,F 195 [.t 2 (.i .i64 x)] (zo 1 4) [.b false]:=fun x => n_j _ _ ⟨trivial,by rw [a_f],trivial⟩
 refine n_i _ _ _ ⟨_,n1 a,_,n1 b,fun q => (by cases q),fun _ => ⟨fun q => (by cases q),fun _ => ⟨fun h => ?_,fun h => ⟨fun h2 => ?_,fun h2 => ?_⟩⟩⟩⟩
 ·rw [k_,k_,d_] at h
  rw [if_pos (by omega)];exact ⟨trivial,rfl,trivial⟩
 ·rw [k_,k_,l_] at h
  rw [k_,k_,d_] at h2;rw [if_neg (by omega),if_pos (by omega)];exact ⟨trivial,rfl,trivial⟩
 ·rw [k_,k_,l_] at h
  rw [k_,k_,l_] at h2;rw [if_neg (by omega),if_neg (by omega)];exact ⟨trivial,rfl,trivial⟩
theorem k_K (h : Md) (x : Nat × On) (n : Int) : F 164 [.t 62 (sesT h x),.t 2 (.i .i64 n)] (zo 2 2) [.i .i64 (if (x.1 : Int) < n then -1 else if n < (x.1 : Int) then 1 else 0)] :=
 r_q _ _ _ ⟨_,s_V (x.1 : Int) n _ rfl,trivial,rfl,trivial⟩
theorem p_t (h : Md) (l : List (Nat × On)) (n : Int) (k : Nat) (hl : l.length ≤ 2 ^ 40) (hf : Fnd l n k) :
  F 163 [.t 31 (.l (sesL h l)),.t 2 (.i .i64 n),.t 1 (.f 164 [])] Z8 [.i .i64 (k : Int),.b (decide (k < l.length ∧ ((l.getD k (0,on0)).1 : Int) = n))]:=by
 obtain ⟨hk,f1,f2⟩:=hf;refine r_p _ _ _ _ (fun i => i.1 ≤ k ∧ k ≤ i.2 ∧ i.2 ≤ l.length) (fun i => i.2 - i.1) ?_;rw [j_6];refine ⟨⟨(0,l.length),⟨Nat.zero_le _,hk,Nat.le_refl _⟩,(by and_intros <;> first | exact trivial | rfl | (rw [c_ (by omega)];rfl))⟩,fun _ => rfl,?_⟩;rintro ⟨a,b⟩ ⟨h1,h2,h3⟩;dsimp only at h1 h2 h3 ⊢;rw [u_b (by omega)];refine ⟨fun q => ?_,fun q => ?_⟩
 ·rw [d_] at q
  have hm : (a + b) / 2 < l.length:=by omega
  rw [l_k _ _ hm,f_R];refine ⟨by decide,⟨by omega,by omega⟩,_,⟨rfl,k_K h _ n⟩,fun w => ?_,fun w => ?_⟩
  ·have hlt : ((l.getD ((a + b) / 2) (0,on0)).1 : Int) < n:=by
    rw [k_,d_] at w;split at w
    ·assumption
    ·split at w <;> omega
   have : (a + b) / 2 < k:=by
    rcases Nat.lt_or_ge ((a + b) / 2) k with g | g
    ·exact g
    ·have:=f2 _ g hm;omega
   exact ⟨((a + b) / 2 + 1,b),⟨this,h2,h3⟩,by dsimp only;omega,(by and_intros <;> first | exact trivial | rfl | (rw [c_ (by omega)];rfl))⟩
  ·have hlt : n ≤ ((l.getD ((a + b) / 2) (0,on0)).1 : Int):=by
    rw [k_,l_] at w;split at w <;> omega
   have : k ≤ (a + b) / 2:=by
    rcases Nat.lt_or_ge ((a + b) / 2) k with g | g
    ·have:=f1 _ g;omega
    ·exact g
   exact ⟨(a,(a + b) / 2),⟨h1,this,by dsimp only;omega⟩,by dsimp only;omega,(by and_intros <;> first | exact trivial | rfl | (rw [c_ (by omega)];rfl))⟩
 ·rw [l_] at q
  have e : a = k:=by omega
  subst e;refine ⟨fun w => ⟨by omega,by have:=w.1;rw [d_] at this;omega⟩,?_⟩
  by_cases g : a < l.length
  ·rw [l_k _ _ g,f_R]
   refine ⟨_,fun _ => ⟨rfl,k_K h _ n⟩,trivial,rfl,?_,trivial⟩;rw [d_.2 (by omega),k_]
   have:=f2 a (Nat.le_refl _) g
   by_cases w : ((l.getD a (0,on0)).1 : Int) = n
   ·rw [decide_eq_true ⟨g,w⟩,if_neg (by omega),if_neg (by omega)];rfl
   ·rw [decide_eq_false (fun z => w z.2),if_neg (by omega),if_pos (by omega)];rfl
  ·refine ⟨.i .i64 0,fun w => by have:=w.1;rw [d_] at this;omega,trivial,rfl,?_,trivial⟩
   rw [l_.2 (by omega),decide_eq_false (fun z => g z.1)];rfl
end Go.Pq
