/- Part 1 of 11. What a session has committed at any time is the beginning of what it commits later, and of the path at its end (SessionsCommit), for every input; no condition. Names are shortened and spaces left out by program, for the size. -/
import Derived.Laws.AppendOwn
import Derived.Laws.MakeOwn
import Derived.Laws.OwnMore
import Derived.Orders
import Derived.KernelRfl
set_option linter.unusedVariables false
set_option linter.unusedSimpArgs false
set_option linter.unusedSectionVars false
set_option linter.constructorNameAsVariable false
set_option maxRecDepth 100000
namespace Go.Pl
inductive T where
 | u
 | z
 | b (x : Bool)
 | i (k : IntKind) (n : Int)
 | s (x : ByteArray)
 | l (xs : List T)
 | g (xs : List T)
 | e (ty : TypeId) (x : T)
 | f (fn : FuncId) (caps : List T)
 deriving Inhabited
namespace T
def isG : T → Bool
 | .g _ => true
 | _ => false
def leaves : T → List T
 | .g xs => xs
 | x => [x]
def cell (x : T) (c : Nat) : T:=x.leaves.getD c .u
def int : T → Int
 | .i _ n => n
 | _ => 0
def bool : T → Bool
 | .b x => x
 | _ => false
def list : T → List T
 | .l xs => xs
 | _ => []
def str : T → ByteArray
 | .s x => x
 | _ => ⟨#[]⟩
def isF : T → Bool
 | .f _ _ => true
 | _ => false
def fn : T → FuncId
 | .f n _ => n
 | _ => 0
def caps : T → List T
 | .f _ xs => xs
 | _ => []
def ite (c : Bool) (x y : T) : T:=match c with
 | true => x
 | false => y
def part (x : T) (c n : Nat) : T:=.g ((List.range n).map fun j => x.cell (c + j))
def setCell (x : T) (c : Nat) (y : T) : T:=match x with
 | .g xs => .g (xs.set c y)
 | _ => y
end T
inductive K where
 | int (k : IntKind)
 | bool
 | str
 | sl (e : TypeId)
 | st (fs : List (Nat × TypeId))
 | ptr (e : TypeId)
 | fn
 | ifc
 | no
 deriving Inhabited
structure TI where
 k : K
 cells : Nat
 bytes : Nat
 leaves : List TypeId
 zero : T
 deriving Inhabited
def TI.isS (ti : TI) : Bool:=match ti.k with
 | .st _ => true
 | _ => false
def TI.lv (ti : TI) (c : TypeId) : List TypeId:=match ti.k with
 | .st _ => ti.leaves
 | _ => [c]
abbrev Tab:=List (TypeId × TypeId × TI)
def Tab.at : Tab → TypeId → Option (TypeId × TI)
 | [],_ => none
 | (t,r) :: rest,n => match Nat.beq t n with
  | true => some r
  | false => Tab.at rest n
structure Key where
 tag : Nat
 a : Nat
 b : Nat
 deriving DecidableEq,Inhabited
def Key.eq (x y : Key) : Bool:=match Nat.beq x.a y.a with
 | true => match Nat.beq x.b y.b with
  | true => Nat.beq x.tag y.tag
  | false => false
 | false => false
theorem Key.a_b {x y : Key} : x.eq y = true ↔ x = y:=by
 obtain ⟨t,a,b⟩:=x;obtain ⟨t',a',b'⟩:=y;simp only [Key.eq,Key.mk.injEq]
 constructor
 ·intro h
  split at h
  ·rename_i h1
   split at h
   ·rename_i h2
    exact ⟨Nat.eq_of_beq_eq_true h,Nat.eq_of_beq_eq_true h1,Nat.eq_of_beq_eq_true h2⟩
   ·cases h
  ·cases h
 ·rintro ⟨rfl,rfl,rfl⟩
  simp
def a_ (s : Nat) : Key:=⟨0,s,0⟩
def cell (s c : Nat) : Key:=⟨1,s,c⟩
def comp (s j : Nat) : Key:=⟨2,s,j⟩
inductive AV where
 | u
 | t (c : TypeId) (x : T)
 | own (c : TypeId) (tag : Nat) (xs : List T)
 | box (c : TypeId) (tag n : Nat)
 | alias (h : Key) (tag : Nat) (c : TypeId) (off len : Nat)
 | ptr (s tag c : Nat)
 | eptr (h : Key) (tag : Nat) (i c : Nat)
 | pl (c : TypeId) (x : T) (off : Nat)
 | tup (n : Nat)
 | tcp (s tag : Nat)
 deriving Inhabited
abbrev Path:=List (Nat × Bool)
structure Ent where
 path : Path
 av : AV
 deriving Inhabited
abbrev St:=List (Key × Ent)
def St.get : St → Key → Option Ent
 | [],_ => none
 | (k,e) :: r,n => match k.eq n with
  | true => some e
  | false => St.get r n
def St.put : St → Key → Ent → St
 | [],n,v => [(n,v)]
 | (k,e) :: r,n,v => match k.eq n with
  | true => (k,v) :: r
  | false => (k,e) :: St.put r n v
def St.puts (σ : St) : List (Key × Ent) → St
 | [] => σ
 | (k,e) :: r => (σ.put k e).puts r
theorem Key.a_u (k : Key) : k.eq k = true:=Key.a_b.2 rfl
theorem Key.a_N {k k' : Key} (h : k ≠ k') : k.eq k' = false:=by
 cases e : k.eq k'
 ·rfl
 ·exact absurd (Key.a_b.1 e) h
theorem St.e_7 (σ : St) (k n : Key) (v : Ent) : (σ.put k v).get n = if k = n then some v else σ.get n:=by
 induction σ with
 | nil =>
  by_cases h : k = n
  ·subst h;simp [St.put,St.get,Key.a_u]
  ·simp [St.put,St.get,Key.a_N h,h]
 | cons x r ih =>
  obtain ⟨k',e'⟩:=x
  by_cases h : k' = k
  ·subst h
   simp only [St.put,Key.a_u,St.get]
   by_cases h2 : k' = n
   ·subst h2;simp [Key.a_u]
   ·simp [Key.a_N h2,h2]
  ·simp only [St.put,Key.a_N h,St.get]
   by_cases h2 : k' = n
   ·subst h2
    simp [Key.a_u,Ne.symm h]
   ·simp only [Key.a_N h2]
    exact ih
def h_e : List (Key × Ent) → Key → Option Ent
 | [],_ => none
 | (k,e) :: r,n => match h_e r n with
  | some v => some v
  | none => match k.eq n with
   | true => some e
   | false => none
theorem St.h_R (ws : List (Key × Ent)) : ∀ (σ : St) (n : Key),(σ.puts ws).get n = match h_e ws n with | some v => some v | none => σ.get n:=by
 induction ws with
 | nil => intro σ n;rfl
 | cons x r ih =>
  obtain ⟨k,e⟩:=x;intro σ n;simp only [St.puts,ih,h_e,St.e_7]
  cases h : h_e r n with
  | some v => rfl
  | none =>
   by_cases hk : k = n
   ·subst hk;simp [Key.a_u]
   ·simp [Key.a_N hk,hk]
inductive Rd (α : Type) where
 | ret (a : α)
 | get (k : Key) (f : Option Ent → Rd α)
def Rd.run {α : Type} (σ : St) : Rd α → α
 | .ret a => a
 | .get k f => (f (σ.get k)).run σ
def Rd.keys {α : Type} (σ : St) : Rd α → List Key
 | .ret _ => []
 | .get k f => k :: (f (σ.get k)).keys σ
theorem Rd.agree {α : Type} (r : Rd α) (σ τ : St) (h : ∀ k ∈ r.keys σ,τ.get k = σ.get k) : r.run τ = r.run σ ∧ r.keys τ = r.keys σ:=by
 induction r with
 | ret a => exact ⟨rfl,rfl⟩
 | get k f ih =>
  have hk : τ.get k = σ.get k:=h k (by simp [Rd.keys])
  have:=ih (σ.get k) (fun k' hk' => h k' (by simp [Rd.keys,hk']))
  simp only [Rd.run,Rd.keys,hk];exact ⟨this.1,by rw [this.2]⟩
structure Mode where
 own : List Bool
 boxes : List (Nat × List Bool)
 ins : List Bool
 deriving Inhabited
structure Ctx where
 tab : Tab
 sigs : List (FuncId × List TypeId × List TypeId)
 nt : Nat
 vars : List Nat
 homes : List Key
 modes : List (FuncId × Mode)
 frz : List (Nat × List Key)
 ro : List Nat
 pins : List Nat
 deriving Inhabited
def Ctx.kd (C : Ctx) (t : TypeId) : K:=match C.tab.at t with
 | some (_,ti) => ti.k
 | none => .no
def memN : List Nat → Nat → Bool
 | [],_ => false
 | x :: r,n => match Nat.beq x n with
  | true => true
  | false => memN r n
def memK : List Key → Key → Bool
 | [],_ => false
 | x :: r,n => match x.eq n with
  | true => true
  | false => memK r n
def look {α : Type} : List (Nat × α) → Nat → Option α
 | [],_ => none
 | (k,v) :: r,n => match Nat.beq k n with
  | true => some v
  | false => look r n
def j_c : Bool → Bool → Bool
 | true,true => true
 | false,false => true
 | _,_ => false
def memP : Path → Nat → Bool → Bool
 | [],_,_ => false
 | (j,w) :: r,n,v => match Nat.beq j n with
  | true => match j_c w v with
   | true => true
   | false => memP r n v
  | false => memP r n v
def Path.sub : Path → Path → Bool
 | [],_ => true
 | (j,w) :: r,p => match memP p j w with
  | true => Path.sub r p
  | false => false
inductive Arg where
 | t (c : TypeId) (x : T)
 | own (c : TypeId) (xs : List T)
 | box (c : TypeId) (n : Nat) (cells : List AV)
 | pl (c : TypeId) (x : T)
inductive Cal where
 | f (f : FuncId)
 | v (x : T)
def k_E : T → Arg
 | .e c x => .pl c x
 | _ => .t 0 .u
abbrev Shape:=List (Key × TypeId × Bool)
inductive a_o where
 | bad
 | upd (cond : Option Prop) (ws : List (Key × Ent))
 | all (c : T → Prop) (k : Key) (f : T → Ent)
 | bind (f : FuncId) (k : Int) (g : Option FuncId) (ws : List (Key × Ent))
 | call (tag : Nat) (f : Cal) (args : List Arg) (pre : List (Key × Ent)) (sh : Shape) (ks : List (Key × Path))
abbrev R:=Rd a_o
def badR : R:=.ret .bad
def okR (ws : List (Key × Ent)) : R:=.ret (.upd none ws)
def updR (c : Prop) (ws : List (Key × Ent)) : R:=.ret (.upd (some c) ws)
def top (a : AV) : Ent:=⟨[],a⟩
def i_A : Value → Option T
 | .int k n => match decide (k.wrap n = n) with
  | true => some (.i k n)
  | false => none
 | .bool x => some (.b x)
 | .string x => match decide (x.size ≤ maxLen) with
  | true => some (.s x)
  | false => none
 | .pointer none => some .z
 | .nilIface => some .z
 | .nilFunc => some .z
 | _ => none
def K.fits : K → Value → Bool
 | .int k,.int k' _ => decide (k = k')
 | .bool,.bool _ => true
 | .str,.string _ => true
 | .ptr _,.pointer none => true
 | .ifc,.nilIface => true
 | .fn,.nilFunc => true
 | _,_ => false
def K.elem : K → Option TypeId
 | .sl e => some e
 | _ => none
def K.kind : K → Option IntKind
 | .int k => some k
 | _ => none
def Ctx.el (C : Ctx) (t : TypeId) : Option TypeId:=(C.kd t).elem
def Ctx.ik (C : Ctx) (t : TypeId) : Option IntKind:=(C.kd t).kind
def b_3 : Value → Bool
 | .slice none 0 0 => true
 | _ => false
variable (C : Ctx)
def mthB : Nat:=1000000
def g_H (c : Nat) (r : R) : R:=match Nat.blt c mthB with
 | true => r
 | false => badR
def opnd (p : Path) (x : Operand) (ty : TypeId) (f : Option (Key × Path) → AV → R) : R :=
 match x with
 | .tmp s => .get (a_ s) fun
  | some e => match e.path.sub p with
   | true => f (some (a_ s,e.path)) e.av
   | false => badR
  | none => badR
 | .const v => match C.tab.at ty with
  | some (c,ti) => match b_3 v with
   | true => match ti.k.elem with
    | some _ => f none (.own c 0 [])
    | none => badR
   | false => match ti.k.fits v with
    | true => match i_A v with
     | some x => f none (.t c x)
     | none => badR
    | false => badR
  | none => badR
 | .func n => match C.tab.at ty with
  | some (c,ti) => match ti.k with
   | .fn => f none (.t c (.f n []))
   | _ => badR
  | none => badR
 | _ => badR
def b_M (h : Key) (tag : Nat) (f : TypeId → List T → R) : R :=
 .get h fun
  | some ⟨[],.own c tag' xs⟩ => match Nat.beq tag tag' with
   | true => f c xs
   | false => badR
  | _ => badR
def h_6 (s tag : Nat) (f : TypeId → Nat → R) : R :=
 .get (a_ s) fun
  | some ⟨[],.box c tag' n⟩ => match Nat.beq tag tag' with
   | true => f c n
   | false => badR
  | _ => badR
def asT (p : Path) (x : Operand) (ty : TypeId) (k : TypeId → T → List (Key × Ent) → R) : R :=
 opnd C p x ty fun ko a => match a with
  | .t c x => k c x []
  | .own c _ xs => match ko with
   | some (key,[]) => k c (.l xs) [(key,top (.t c (.l xs)))]
   | some _ => badR
   | none => k c (.l xs) []
  | .alias h tag c off len => b_M h tag fun c' xs => k c (.l ((xs.drop off).take len)) [(h,top (.t c' (.l xs)))]
  | _ => badR
def seeT (p : Path) (x : Operand) (ty : TypeId) (k : TypeId → T → R) : R :=
 opnd C p x ty fun _ a => match a with
  | .t c x => k c x
  | .own c _ xs => k c (.l xs)
  | .alias h tag c off len => b_M h tag fun _ xs => k c (.l ((xs.drop off).take len))
  | _ => badR
def p_u (p : Path) : List (Operand × TypeId) → (List (TypeId × T) → R) → R
 | [],k => k []
 | (x,ty) :: r,k => seeT C p x ty fun c v => p_u p r fun l => k ((c,v) :: l)
def a_w (s : Nat) : Bool:=memN C.vars s
def a_a (d : Option Nat) (p : Path) (f : Nat → R) : R :=
 match d with
 | none => badR
 | some d => match decide (d < C.nt) with
  | true => .get (a_ d) fun
    | none => f d
    | some _ => badR
  | false => badR
def m_R (ty c : TypeId) (r : R) : R:=match C.tab.at ty with
 | some (ct,_) => match Nat.beq c ct with
  | true => r
  | false => badR
 | none => badR
def d_7 (i : Nat) (kt : Key) (x : Operand) (ty : TypeId) (fin : List (Key × Ent) → R) : R :=
 opnd C [] x ty fun ko a => match a with
  | .t c x => m_R C ty c (fin [(kt,top (.t c x))])
  | .own c _ xs => m_R C ty c (match memK C.homes kt with
   | true => match ko with
    | none => fin [(kt,top (.own c (i + 1) xs))]
    | some (ks,[]) => fin [(ks,top .u),(kt,top (.own c (i + 1) xs))]
    | some _ => badR
   | false => match ko with
    | none => fin [(kt,top (.t c (.l xs)))]
    | some (ks,[]) => fin [(ks,top (.t c (.l xs))),(kt,top (.t c (.l xs)))]
    | some _ => badR)
  | .alias h tag c off len => m_R C ty c (b_M h tag fun c' xs => match memK C.homes kt with
   | true => match Nat.beq off 0 with
    | true => fin [(h,top .u),(kt,top (.own c' (i + 1) (xs.take len)))]
    | false => badR
   | false => fin [(h,top (.t c' (.l xs))),(kt,top (.t c (.l ((xs.drop off).take len))))])
  | _ => badR
def b_Y : List Nat → List Nat → Bool
 | [],[] => true
 | x :: r,y :: s => match Nat.beq x y with
  | true => b_Y r s
  | false => false
 | _,_ => false
def k_9 (c0 : TypeId) (x : T) (off : Nat) (ty : TypeId) (k : TypeId → T → R) : R :=
 match C.tab.at c0 with
 | some (_,t0) => match C.tab.at ty with
  | some (c,ti) => match b_Y (((t0.lv c0).drop off).take ti.cells) (ti.lv c) with
   | true => match ti.isS with
    | true => k c (x.part off ti.cells)
    | false => k c (x.cell off)
   | false => badR
  | none => badR
 | none => badR
def gather (s : Nat) : (c n : Nat) → (tys : List TypeId) → (List T → List (Key × Ent) → R) → R
 | _,0,[],k => k [] []
 | c,n + 1,ty :: tys,k => .get (cell s c) fun
  | some ⟨[],.t c' x⟩ => match Nat.beq c' ty with
   | true => gather s (c + 1) n tys fun l ws => k (x :: l) ws
   | false => badR
  | some ⟨[],.own c' _ xs⟩ => match Nat.beq c' ty with
   | true => gather s (c + 1) n tys fun l ws => k (.l xs :: l) ((cell s c,top (.t c' (.l xs))) :: ws)
   | false => badR
  | _ => badR
 | _,_,_,_ => badR
inductive Spot where
 | box (s c n : Nat)
 | row (h : Key) (c : TypeId) (xs : List T) (tag i off : Nat)
 | tree (c : TypeId) (x : T) (off : Nat)
def place (p : Path) (x : Operand) (f : Spot → R) : R :=
 opnd C p x 0 fun ko a => match a with
  | .ptr s tag c => g_H c (h_6 s tag fun _ n => f (.box s c n))
  | .box _ _ n => match ko with
   | some (k,[]) => f (.box k.a 0 n)
   | _ => badR
  | .eptr h tag i c => b_M h tag fun c' xs => f (.row h c' xs tag i c)
  | .pl c x off => f (.tree c x off)
  | _ => badR
def r_3 (p : Path) (o : Oper) (ty : TypeId) (a : Operand) : R :=
 a_a C o.dst p fun d => place C p a fun
  | .box s c _ => match C.tab.at ty with
   | some (ct,ti) => match ti.isS with
    | true => gather s c ti.cells ti.leaves fun l ws => okR (ws ++ [(a_ d,⟨p,.t ct (.g l)⟩)])
    | false => .get (cell s c) fun
     | some ⟨[],.t c' x⟩ => match Nat.beq c' ct with
      | true => okR [(a_ d,⟨p,.t c' x⟩)]
      | false => badR
     | some ⟨[],.own c' tag xs⟩ => match Nat.beq c' ct with
      | true => okR [(a_ d,⟨p,.alias (cell s c) tag c' 0 xs.length⟩)]
      | false => badR
     | _ => badR
   | none => badR
  | .row _ c xs _ i off => match C.el c with
   | some e => match C.tab.at e with
    | some (ce,_) => k_9 C ce (xs.getD i .u) off ty fun ct y => okR [(a_ d,⟨p,.t ct y⟩)]
    | none => badR
   | none => badR
  | .tree c x off => k_9 C c x off ty fun ct y => okR [(a_ d,⟨p,.t ct y⟩)]
def cellsOf (s c : Nat) : List TypeId → List T → List (Key × Ent)
 | ty :: tys,x :: xs => (cell s c,top (.t ty x)) :: cellsOf s (c + 1) tys xs
 | _,_ => []
def setCells (x : T) (c : Nat) : List T → T
 | [] => x
 | y :: r => setCells (x.setCell c y) (c + 1) r
def a_z (x : T) (n : Nat) : List T:=(List.range n).map fun j => x.cell j
def K_ : List (Key × Ent) → List Key
 | [] => []
 | (k,_) :: r => k :: K_ r
abbrev Bc:=Option Nat × AV
def fld (d n q : Nat) : Key:=comp d ((n + 1) * 1000 + q)
def s_e (a : Operand) (f : Nat → TypeId → List T → R) (r : R) : R:=match a with
 | .tmp s => .get (a_ s) fun
  | some ⟨[],.own c _ xs⟩ => f s c xs
  | _ => r
 | _ => r
def k_u : List Bc → Nat → List TypeId → List T → List Bc
 | as,off,ty :: tys,x :: xs => k_u (as.set off (none,.t ty x)) (off + 1) tys xs
 | as,_,_,_ => as
def bldF (fs : List (Nat × TypeId)) : List (Nat × Operand) → List Bc → (List Bc → R) → R
 | [],as,k => k as
 | (j,a) :: r,as,k => match fs[j]? with
  | some (off,ft) => match C.tab.at ft with
   | some (cf,tf) => s_e a (fun s c xs => match Nat.beq c cf with
     | true => bldF fs r (as.set off (some s,.own c 0 xs)) k
     | false => badR) (asT C [] a ft fun c v ws => match Nat.beq c cf,ws with
     | true,[] => bldF fs r (k_u as off (tf.lv cf) (a_z v tf.cells)) k
     | _,_ => badR)
   | none => badR
  | none => badR
def l_T (s : Nat) : List Bc → Bool
 | [] => false
 | (some t,_) :: r => match Nat.beq s t with
  | true => true
  | false => l_T s r
 | (none,_) :: r => l_T s r
def h_s : List Bc → Bool
 | [] => true
 | (some t,_) :: r => match l_T t r with
  | true => false
  | false => h_s r
 | (none,_) :: r => h_s r
def e_K (d n : Nat) : Nat → List TypeId → List T → List Bc
 | q,ty :: tys,x :: xs => (none,match x,memK C.homes (fld d n q) with
   | .l [],true => .own ty 0 []
   | x,_ => .t ty x) :: e_K d n (q + 1) tys xs
 | _,_,_ => []
def reBc (i : Nat) : AV → AV
 | .own c _ xs => .own c (i + 1) xs
 | a => a
def b_m (f : Nat → Key) : List Bc → List (Key × Ent)
 | [] => []
 | (some s,_) :: r => (f s,top .u) :: b_m f r
 | (none,_) :: r => b_m f r
def e_r (f : Nat → Key) (i : Nat) : Nat → List Bc → List (Key × Ent)
 | _,[] => []
 | q,(_,a) :: r => (f q,top (reBc i a)) :: e_r f i (q + 1) r
def n_u (o : Oper) : Bool:=match o.dst with
 | some d => memK C.homes (a_ d)
 | none => false
def e_o (t n : Nat) : Nat → Nat → (List Bc → R) → R
 | 0,_,k => k []
 | m + 1,q,k => .get (fld t n q) fun
  | some ⟨[],.t ty y⟩ => match C.tab.at ty with
   | some (_,tt) => match tt.isS with
    | false => e_o t n m (q + 1) fun as => k ((none,.t ty y) :: as)
    | true => badR
   | none => badR
  | some ⟨[],.own ty _ xs⟩ => e_o t n m (q + 1) fun as => k ((some q,.own ty 0 xs) :: as)
  | _ => badR
def s_J (v : Operand) (f : Nat → R) (r : R) : R:=match v with
 | .tmp t => .get (a_ t) fun
  | some ⟨[],.tup _⟩ => f t
  | _ => r
 | _ => r
def o_h (i : Nat) (p : Path) (ty : TypeId) (a v : Operand) : R :=
 match p with
 | _ :: _ => badR
 | [] => place C [] a fun
  | .box s c n => match C.tab.at ty with
   | some (ct,ti) => match decide (c + ti.cells ≤ n) with
    | true => match ti.isS with
     | true => s_J v (fun t => match decide (ti.cells ≤ 1000),decide (0 < ti.cells) with
       | true,true => e_o C t ti.cells ti.cells 0 fun as => okR (b_m (fld t ti.cells) as ++ e_r (fun q => cell s (c + q)) i 0 as)
       | _,_ => badR) (asT C [] v ty fun cv x ws => match Nat.beq cv ct with
      | true => okR (ws ++ cellsOf s c ti.leaves (a_z x ti.cells))
      | false => badR)
     | false => d_7 C i (cell s c) v ty fun ws => okR ws
    | false => badR
   | none => badR
  | .row h c xs tag j off => match C.el c with
   | some e => match C.tab.at e,C.tab.at ty with
    | some (ce,te),some (ct,ti) => match b_Y (((te.lv ce).drop off).take ti.cells) (ti.lv ct) with
     | true => asT C [] v ty fun cv x ws => match Nat.beq cv ct,memK (K_ ws) h with
      | true,false => match te.isS,ti.isS with
       | true,_ => okR (ws ++ [(h,top (.own c tag (xs.set j (setCells (xs.getD j .u) off (a_z x ti.cells)))))])
       | false,false => okR (ws ++ [(h,top (.own c tag (xs.set j x)))])
       | false,true => badR
      | _,_ => badR
     | false => badR
    | _,_ => badR
   | none => badR
  | .tree .. => badR
def a_J (op : BinOp) (k : IntKind) (x y : Int) : Int :=
 match op with
 | .and => k.wrap (BitVec.ofInt k.bits x &&& BitVec.ofInt k.bits y).toNat
 | .or => k.wrap (BitVec.ofInt k.bits x ||| BitVec.ofInt k.bits y).toNat
 | .xor => k.wrap (BitVec.ofInt k.bits x ^^^ BitVec.ofInt k.bits y).toNat
 | _ => k.wrap (BitVec.ofInt k.bits x &&& ~~~BitVec.ofInt k.bits y).toNat
def shlI (k : IntKind) (x y : Int) : Int:=k.wrap (x * 2 ^ (min y.toNat k.bits))
def shrI (k : IntKind) (x y : Int) : Int:=x.fdiv (2 ^ (min y.toNat k.bits))
def addI (k : IntKind) (x y : Int) : Int:=k.wrap (x + y)
def subI (k : IntKind) (x y : Int) : Int:=k.wrap (x - y)
def mulI (k : IntKind) (x y : Int) : Int:=k.wrap (x * y)
def quoI (k : IntKind) (x y : Int) : Int:=k.wrap (x.tdiv y)
def remI (x y : Int) : Int:=x.tmod y
def p_ (k : IntKind) (x : Int) : Int:=k.wrap x
def eqI (x y : Int) : Bool:=x == y
def neI (x y : Int) : Bool:=x != y
def ltI (x y : Int) : Bool:=decide (x < y)
def leI (x y : Int) : Bool:=decide (x ≤ y)
def maxI (x y : Int) : Int:=if y > x then y else x
def minI (x y : Int) : Int:=if y < x then y else x
def g_4 (op : BinOp) (y : Int) : Option Prop :=
 match op with
 | .quo | .rem => some (y ≠ 0)
 | .shl | .shr => some (0 ≤ y)
 | _ => none
def arith (op : BinOp) (k : IntKind) (x y : Int) : T :=
 match op with
 | .add => .i k (addI k x y)
 | .sub => .i k (subI k x y)
 | .mul => .i k (mulI k x y)
 | .quo => .i k (quoI k x y)
 | .rem => .i k (remI x y)
 | .and => .i k (a_J .and k x y)
 | .or => .i k (a_J .or k x y)
 | .xor => .i k (a_J .xor k x y)
 | .andNot => .i k (a_J .andNot k x y)
 | .shl => .i k (shlI k x y)
 | .shr => .i k (shrI k x y)
 | .eql => .b (eqI x y)
 | .neq => .b (neI x y)
 | .lss => .b (ltI x y)
 | .leq => .b (leI x y)
 | .gtr => .b (ltI y x)
 | .geq => .b (leI y x)
def f_a : BinOp → Bool
 | .shl | .shr => true
 | _ => false
def o_0 : BinOp → Bool
 | .eql | .neq | .lss | .leq | .gtr | .geq => true
 | _ => false
def d_p (ty : TypeId) (f : TypeId → TI → R) : R:=match C.tab.at ty with
 | some (c,ti) => f c ti
 | none => badR
def p_Q : Tab → TypeId
 | [] => 0
 | (_,c,ti) :: r => match ti.k with
  | .bool => c
  | _ => p_Q r
def n_Y (op : BinOp) (ty : TypeId) (f : TypeId → TI → R) : R:=match C.tab.at ty with
 | some (c,ti) => f c ti
 | none => match o_0 op,C.tab.at (p_Q C.tab) with
  | true,some (c,ti) => f c ti
  | _,_ => badR
def j_0 : Operand → Bool
 | .const v => b_3 v
 | _ => false
def nilC (x : T) (y : T) : Prop:=y.bool = true → x.list = []
def binR (p : Path) (o : Oper) (op : BinOp) (xt : TypeId) (x y : Operand) (yt : TypeId) : R :=
 a_a C o.dst p fun d => seeT C p x xt fun cx vx => seeT C p y yt fun cy vy => n_Y C op o.type fun cr tr =>
  match C.ik cx,C.ik cy with
  | some k,some k' => match f_a op || decide (k = k') with
   | true => match o_0 op with
    | true => match tr.k with
     | .bool => .ret (.upd (g_4 op vy.int) [(a_ d,⟨p,.t cr (arith op k vx.int vy.int)⟩)])
     | _ => badR
    | false => match tr.k with
     | .int k2 => match decide (k2 = k) with
      | true => .ret (.upd (g_4 op vy.int) [(a_ d,⟨p,.t cr (arith op k vx.int vy.int)⟩)])
      | false => badR
     | _ => badR
   | false => badR
  | _,_ => match C.kd cx,C.kd cy,C.kd xt,tr.k with
   | .bool,.bool,.bool,.bool => match op with
    | .eql => okR [(a_ d,⟨p,.t cr (.b (vx.bool == vy.bool))⟩)]
    | .neq => okR [(a_ d,⟨p,.t cr (.b (!(vx.bool == vy.bool)))⟩)]
    | _ => badR
   | .sl _,.sl _,.sl _,.bool => match j_0 y,op with
    | true,.eql => .ret (.all (nilC vx) (a_ d) (fun y => ⟨p,.t cr (.b y.bool)⟩))
    | true,.neq => .ret (.all (nilC vx) (a_ d) (fun y => ⟨p,.t cr (.b (!y.bool))⟩))
    | _,_ => badR
   | _,_,_,_ => badR
def unR (p : Path) (o : Oper) (op : UnOp) (xt : TypeId) (x : Operand) : R :=
 a_a C o.dst p fun d => seeT C p x xt fun cx vx => d_p C o.type fun cr tr =>
  match op,C.kd cx,tr.k with
  | .not,.bool,.bool => okR [(a_ d,⟨p,.t cr (.b (!vx.bool))⟩)]
  | .neg,.int k,.int k' => match decide (k = k') with
   | true => okR [(a_ d,⟨p,.t cr (.i k (subI k 0 vx.int))⟩)]
   | false => badR
  | .xor,.int k,.int k' => match decide (k = k') with
   | true => okR [(a_ d,⟨p,.t cr (.i k (a_J .xor k (if k.signed then -1 else k.max) vx.int))⟩)]
   | false => badR
  | _,_,_ => badR
def q_s (p : Path) (o : Oper) (src dst : TypeId) (x : Operand) : R :=
 a_a C o.dst p fun d => seeT C p x src fun cx vx => d_p C dst fun cr tr =>
  match C.kd cx,tr.k with
  | .int _,.int k => match C.tab.at src with
   | some _ => okR [(a_ d,⟨p,.t cr (.i k (p_ k vx.int))⟩)]
   | none => badR
  | _,_ => badR
def f_8 (s : ByteArray) (i : Int) : Int:=((s.data.toList.getD i.toNat 0).toNat : Int)
def strR (p : Path) (o : Oper) (xt : TypeId) (x ix : Operand) : R :=
 a_a C o.dst p fun d => seeT C p ix 3 fun ci vi => seeT C p x xt fun cx vx => d_p C o.type fun cr tr =>
  match C.ik ci,C.kd cx,C.kd xt,tr.k with
  | some _,.str,.str,.int .u8 => updR (0 ≤ vi.int ∧ vi.int < (vx.str.size : Int)) [(a_ d,⟨p,.t cr (.i .u8 (f_8 vx.str vi.int))⟩)]
  | _,_,_,_ => badR
def room : Nat:=140737488355328
def lenOf (xs : List T) : Int:=(xs.length : Int)
def n_v (p : Path) (o : Oper) (xt : TypeId) (x ix : Operand) : R :=
 a_a C o.dst p fun d => seeT C p ix 3 fun ci vi => match C.ik ci with
  | none => badR
  | some _ => match C.el xt with
   | none => badR
   | some e => opnd C p x xt fun ko a => match a with
    | .t c v => match C.el c,C.tab.at e with
     | some e',some (ce,_) => match Nat.beq e e' with
      | true => updR (0 ≤ vi.int ∧ vi.int < lenOf v.list) [(a_ d,⟨p,.pl ce (v.list.getD vi.int.toNat .u) 0⟩)]
      | false => badR
     | _,_ => badR
    | .alias h tag c off len => match C.el c with
     | some e' => match Nat.beq e e' with
      | true => b_M h tag fun _ _ => updR (0 ≤ vi.int ∧ vi.int < (len : Int)) [(a_ d,⟨p,.eptr h tag (off + vi.int.toNat) 0⟩)]
      | false => badR
     | none => badR
    | .own c tag xs => match C.el c,ko with
     | some e',some (k,[]) => match Nat.beq e e' with
      | true => updR (0 ≤ vi.int ∧ vi.int < lenOf xs) [(a_ d,⟨p,.eptr k tag vi.int.toNat 0⟩)]
      | false => badR
     | _,_ => badR
    | _ => badR
def f_y (p : Path) (x : Option Operand) (dflt : Int) (f : Int → R) : R :=
 match x with
 | none => f dflt
 | some x => seeT C p x 3 fun c v => match C.ik c with
  | some _ => f v.int
  | none => badR
def c_7 : Option Operand → Bool
 | none => true
 | some (.const (.int _ n)) => match n with
  | .ofNat m => Nat.beq m 0
  | _ => false
 | _ => false
def c_H (i : Nat) (p : Path) (o : Oper) (xt : TypeId) (x : Operand) (lo hi mx : Option Operand) : R :=
 match C.el xt with
 | none => badR
 | some e => a_a C o.dst p fun d => opnd C p x xt fun ko a => match mx with
  | some m => match c_7 lo,c_7 hi,c_7 (some m),hi,p with
   | true,true,true,some _,[] => match a with
    | .t c _ => match C.el c with
     | some e' => match Nat.beq e e' with
      | true => okR [(a_ d,top (.own c (i + 1) []))]
      | false => badR
     | none => badR
    | _ => badR
   | _,_,_,_,_ => badR
  | none => match a with
   | .t c v => match C.el c with
    | some e' => match Nat.beq e e' with
     | true => f_y C p lo 0 fun l => f_y C p hi (lenOf v.list) fun h =>
      updR (0 ≤ l ∧ l ≤ h ∧ h ≤ lenOf v.list) [(a_ d,⟨p,.t c (.l ((v.list.drop l.toNat).take (h - l).toNat))⟩)]
     | false => badR
    | none => badR
   | .alias k tag c off len => match C.el c with
    | some e' => match Nat.beq e e' with
     | true => b_M k tag fun _ _ => f_y C p lo 0 fun l => f_y C p hi (len : Int) fun h =>
      updR (0 ≤ l ∧ l ≤ h ∧ h ≤ (len : Int)) [(a_ d,⟨p,.alias k tag c (match c_7 lo with | true => off | false => off + l.toNat) (h - l).toNat⟩)]
     | false => badR
    | none => badR
   | _ => badR
def lenR (p : Path) (o : Oper) (xt : TypeId) (x : Operand) : R :=
 a_a C o.dst p fun d => d_p C o.type fun cr tr => match tr.k with
  | .int .i64 => opnd C p x xt fun _ a => match a with
   | .t c v => match C.kd c,C.kd xt with
    | .sl _,.sl _ => okR [(a_ d,⟨p,.t cr (.i .i64 (lenOf v.list))⟩)]
    | .str,.str => okR [(a_ d,⟨p,.t cr (.i .i64 (v.str.size : Int))⟩)]
    | _,_ => badR
   | .alias h tag _ _ len => match C.kd xt with
    | .sl _ => b_M h tag fun _ _ => okR [(a_ d,⟨p,.t cr (.i .i64 (len : Int))⟩)]
    | _ => badR
   | .own _ _ xs => match C.kd xt with
    | .sl _ => okR [(a_ d,⟨p,.t cr (.i .i64 (lenOf xs))⟩)]
    | _ => badR
   | _ => badR
  | _ => badR
def r_4 (i : Nat) (p : Path) (o : Oper) (ty : TypeId) (l c : Operand) : R :=
 match p with
 | _ :: _ => badR
 | [] => a_a C o.dst [] fun d => seeT C [] l 3 fun cl vl => seeT C [] c 3 fun cc vc => d_p C ty fun cr tr =>
  match C.ik cl,C.ik cc,tr.k.elem with
  | some _,some _,some e => match C.tab.at e with
   | some (_,te) => updR (0 ≤ vl.int ∧ vl.int ≤ vc.int ∧ (te.bytes : Int) * vc.int ≤ 281474976710656 ∧ vc.int ≤ 9223372036854775807)
     [(a_ d,top (.own cr (i + 1) (List.replicate vl.int.toNat te.zero)))]
   | none => badR
  | _,_,_ => badR
def h_k (e : TypeId) : List (Nat × Operand) → List T → List (Key × Ent) → (List T → List (Key × Ent) → R) → R
 | [],xs,ws,k => k xs ws
 | (j,x) :: r,xs,ws,k => asT C [] x e fun c v ws' => match (C.tab.at e).map (·.1) with
  | some ce => match Nat.beq c ce with
   | true => match decide (j < xs.length) with
    | true => h_k e r (xs.set j v) (ws ++ ws') k
    | false => badR
   | false => badR
  | none => badR
def d_Z (i : Nat) (p : Path) (o : Oper) (ty : TypeId) (n : Nat) (parts : Array (Nat × Operand)) : R :=
 match p with
 | _ :: _ => badR
 | [] => a_a C o.dst [] fun d => d_p C ty fun cr tr => match tr.k.elem with
  | some e => match C.tab.at e with
   | some (_,te) => match decide (n * te.cells ≤ 16777216) with
    | true => h_k C e parts.toList (List.replicate n te.zero) [] fun xs ws => okR (ws ++ [(a_ d,top (.own cr (i + 1) xs))])
    | false => badR
   | none => badR
  | none => badR
def d_Y (p : Path) (o : Oper) (ty : TypeId) (n : Nat) (parts : Array (Nat × Operand)) : R :=
 a_a C o.dst p fun d => d_p C ty fun cr tr => match tr.k.elem with
  | some e => match C.tab.at e with
   | some (_,te) => match decide (n * te.cells ≤ 16777216) with
    | true => h_k C e parts.toList (List.replicate n te.zero) [] fun xs ws => match ws with
     | [] => okR [(a_ d,⟨p,.t cr (.l xs)⟩)]
     | _ => badR
    | false => badR
   | none => badR
  | none => badR
def g_i (p : Path) (fs : List (Nat × TypeId)) : List (Nat × Operand) → T → List (Key × Ent) → (T → List (Key × Ent) → R) → R
 | [],x,ws,k => k x ws
 | (j,a) :: r,x,ws,k => match fs[j]? with
  | some (off,ft) => match C.tab.at ft with
   | some (cf,tf) => asT C p a ft fun c v ws' => match Nat.beq c cf with
    | true => g_i p fs r (setCells x off (a_z v tf.cells)) (ws ++ ws') k
    | false => badR
   | none => badR
  | none => badR
def m_N (p : Path) (o : Oper) (ty : TypeId) (parts : Array (Nat × Operand)) : R :=
 a_a C o.dst p fun d => d_p C ty fun cr tr => match tr.k with
  | .st fs => g_i C p fs parts.toList tr.zero [] fun x ws => okR (ws ++ [(a_ d,⟨p,.t cr x⟩)])
  | _ => badR
def i_S (s c : Nat) : Nat → Nat → (List Bc → R) → R
 | 0,_,k => k []
 | m + 1,q,k => .get (cell s (c + q)) fun
  | some ⟨[],.t ty y⟩ => match C.tab.at ty with
   | some (_,tt) => match tt.isS with
    | false => i_S s c m (q + 1) fun as => k ((none,.t ty y) :: as)
    | true => badR
   | none => badR
  | some ⟨[],.own ty tag xs⟩ => i_S s c m (q + 1) fun as => k ((none,.alias (cell s (c + q)) tag ty 0 xs.length) :: as)
  | _ => badR
def r_2 (i : Nat) (o : Oper) (ty : TypeId) (a : Operand) : R :=
 a_a C o.dst [] fun d => place C [] a fun
  | .box s c n => match C.tab.at ty with
   | some (_,ti) => match ti.isS,decide (c + ti.cells ≤ n),decide (ti.cells ≤ 1000) with
    | true,true,true => i_S C s c ti.cells 0 fun as => okR ((a_ d,top (.tup (i + 1))) :: e_r (fld d ti.cells) i 0 as)
    | _,_,_ => badR
   | none => badR
  | _ => badR
def bldR (i : Nat) (o : Oper) (ty : TypeId) (parts : Array (Nat × Operand)) : R :=
 a_a C o.dst [] fun d => d_p C ty fun cr tr => match tr.k,decide (tr.cells ≤ 1000) with
  | .st fs,true => bldF C fs parts.toList (e_K C d tr.cells 0 tr.leaves (a_z tr.zero tr.cells)) fun as => match h_s as with
   | true => okR (b_m a_ as ++ (a_ d,top (.tup (i + 1))) :: e_r (fld d tr.cells) i 0 as)
   | false => badR
  | _,_ => badR
def j_t (i : Nat) (p : Path) (o : Oper) (st xt : TypeId) (s x : Operand) : R :=
 match p with
 | _ :: _ => badR
 | [] => a_a C o.dst [] fun d => match Nat.beq st xt with
  | true => d_p C st fun cs ts => match ts.k.elem with
   | some e => match C.tab.at e with
    | some (_,te) => seeT C [] x xt fun cx vx => match Nat.beq cx cs with
     | true => opnd C [] s st fun ko a => match a with
      | .own c _ xs => match Nat.beq c cs with
       | true => match ko with
        | some (k,[]) => updR ((xs.length + vx.list.length) * te.bytes ≤ room ∧ xs.length + vx.list.length ≤ maxLen)
          [(k,top .u),(a_ d,top (.own cs (i + 1) (xs ++ vx.list)))]
        | some _ => badR
        | none => updR ((xs.length + vx.list.length) * te.bytes ≤ room ∧ xs.length + vx.list.length ≤ maxLen)
          [(a_ d,top (.own cs (i + 1) (xs ++ vx.list)))]
       | false => badR
      | .alias h tag c off len => match Nat.beq c cs,Nat.beq off 0 with
       | true,true => b_M h tag fun _ xs => updR (((xs.take len).length + vx.list.length) * te.bytes ≤ room ∧ (xs.take len).length + vx.list.length ≤ maxLen)
         [(h,top .u),(a_ d,top (.own cs (i + 1) (xs.take len ++ vx.list)))]
       | _,_ => badR
      | _ => badR
     | false => badR
    | none => badR
   | none => badR
  | false => badR
def f_K (d : Nat) (i : Nat) : Nat → List TypeId → List T → List (Key × Ent)
 | c,ty :: tys,x :: xs => (cell d c,top (match x,memK C.homes (cell d c) with
   | .l [],true => .own ty (i + 1) []
   | x,_ => .t ty x)) :: f_K d i (c + 1) tys xs
 | _,_,_ => []
def g_u (d n : Nat) (r : R) : R:=.get (a_ d) fun
 | none => r
 | some ⟨[],.box _ _ n'⟩ => match Nat.beq n n' with
  | true => r
  | false => badR
 | some _ => badR
def m_z (i : Nat) (p : Path) (o : Oper) (ty : TypeId) : R :=
 match p with
 | _ :: _ => badR
 | [] => match o.dst with
  | none => badR
  | some d => match decide (d < C.nt) with
   | true => d_p C ty fun cr tr => g_u d tr.cells (okR ((a_ d,top (.box cr (i + 1) tr.cells)) :: f_K C d i 0 (tr.lv cr) (a_z tr.zero tr.cells)))
   | false => badR
def boxR (i : Nat) (p : Path) (o : Oper) (ty : TypeId) (v : Operand) : R :=
 match p with
 | _ :: _ => badR
 | [] => match o.dst with
  | none => badR
  | some d => match decide (d < C.nt) with
   | true => d_p C ty fun cr tr => asT C [] v ty fun cv x ws => match Nat.beq cv cr with
    | true => match memN C.ro d with
     | true => .get (a_ d) fun
      | none => okR (ws ++ [(a_ d,top (.pl cr x 0))])
      | some _ => badR
     | false => g_u d tr.cells (okR (ws ++ (a_ d,top (.box cr (i + 1) tr.cells)) :: cellsOf d 0 (tr.lv cr) (a_z x tr.cells)))
    | false => badR
   | false => badR
def e_3 (p : Path) (o : Oper) (ty : TypeId) (x : Operand) (f : Nat) : R :=
 a_a C o.dst p fun d => d_p C ty fun _ tr => match tr.k with
  | .st fs => match fs[f]? with
   | some (off,_) => opnd C p x 0 fun ko a => match a with
    | .ptr s tag c => g_H c (g_H (c + off) (h_6 s tag fun _ _ => okR [(a_ d,⟨p,.ptr s tag (c + off)⟩)]))
    | .box _ tag _ => match ko with
     | some (k,[]) => g_H off (okR [(a_ d,⟨p,.ptr k.a tag off⟩)])
     | _ => badR
    | .eptr h tag i c => b_M h tag fun _ _ => okR [(a_ d,⟨p,.eptr h tag i (c + off)⟩)]
    | .pl c x o' => okR [(a_ d,⟨p,.pl c x (o' + off)⟩)]
    | _ => badR
   | none => badR
  | _ => badR
def n_H (i : Nat) (p : Path) (o : Oper) (x : Operand) : R :=
 a_a C o.dst p fun d => opnd C p x o.type fun ko a => match a with
  | .t c v => okR [(a_ d,⟨p,.t c v⟩)]
  | .own c tag xs => match ko with
   | some (k,[]) => match a_w C k.a with
    | true => okR [(a_ d,⟨p,.alias k tag c 0 xs.length⟩)]
    | false => match p with
     | [] => okR [(k,top .u),(a_ d,top (.own c (i + 1) xs))]
     | _ => badR
   | some _ => badR
   | none => match p with
    | [] => okR [(a_ d,top (.own c (i + 1) xs))]
    | _ => badR
  | .box _ tag _ => match ko with
   | some (k,[]) => okR [(a_ d,⟨p,.ptr k.a tag 0⟩)]
   | _ => badR
  | .alias h tag c off len => okR [(a_ d,⟨p,.alias h tag c off len⟩)]
  | .ptr s tag c => okR [(a_ d,⟨p,.ptr s tag c⟩)]
  | .eptr h tag i c => okR [(a_ d,⟨p,.eptr h tag i c⟩)]
  | .pl c x off => okR [(a_ d,⟨p,.pl c x off⟩)]
  | .tup tag => match ko with
   | some (k,_) => okR [(a_ d,⟨p,.tcp k.a tag⟩)]
   | none => badR
  | _ => badR
def g_w (p : Path) (o : Oper) (x : Operand) : R :=
 a_a C o.dst p fun d => opnd C p x 0 fun ko a => match a with
  | .box _ tag _ => match ko with
   | some (k,[]) => okR [(a_ d,⟨p,.ptr k.a tag 0⟩)]
   | _ => badR
  | .ptr s tag c => g_H c (h_6 s tag fun _ _ => okR [(a_ d,⟨p,.ptr s tag c⟩)])
  | .eptr h tag i c => b_M h tag fun _ _ => okR [(a_ d,⟨p,.eptr h tag i c⟩)]
  | .pl c x off => okR [(a_ d,⟨p,.pl c x off⟩)]
  | _ => badR
def als (d : Nat) : Key:=⟨7,d,0⟩
def h_E (i : Nat) (p : Path) (o : Oper) (x : Operand) : R :=
 match p with
 | _ :: _ => badR
 | [] => match o.dst with
  | none => badR
  | some d => match decide (d < C.nt) with
   | true => match a_w C d with
    | true => .get (a_ d) fun
     | none => opnd C [] x o.type fun _ a => match a with
      | .box .. | .ptr .. | .pl .. => n_H C i [] o x
      | .alias .. => match memK C.homes (als d) with
       | true => n_H C i [] o x
       | false => d_7 C i (a_ d) x o.type fun ws => okR ws
      | _ => d_7 C i (a_ d) x o.type fun ws => okR ws
     | some e => match e.av with
      | .box .. | .tup _ => badR
      | _ => d_7 C i (a_ d) x o.type fun ws => okR ws
    | false => badR
   | false => badR
def d_H (p : Path) (s : Nat) (want : Bool) (x : Operand) (ty : TypeId) (k : TypeId → T → R) : R :=
 opnd C (p ++ [(s,want)]) x ty fun _ a => match a with
  | .t c v => k c v
  | _ => badR
def s_g (p : Path) (o : Oper) (c a b : Operand) : R :=
 a_a C o.dst p fun d => match c with
  | .tmp s => match a_w C s with
   | true => badR
   | false => opnd C p c 0 fun _ ac => match ac with
    | .t cc vc => match C.kd cc with
     | .bool => d_H C p s true a o.type fun ca va => d_H C p s false b o.type fun cb vb => match Nat.beq ca cb with
      | true => okR [(a_ d,⟨p,.t ca (T.ite vc.bool va vb)⟩)]
      | false => badR
     | _ => badR
    | _ => badR
  | _ => badR
def exI : Bool → Int → Int → Int
 | true => maxI
 | false => minI
def exB : Bool → Builtin
 | true => .max
 | false => .min
def j_S (f : Int → Int → Int) (x : Int) : List (TypeId × T) → Int
 | [] => x
 | y :: r => j_S f (f x y.2.int) r
def k_B (k : IntKind) : List (TypeId × T) → Bool
 | [] => true
 | (c,_) :: r => match C.ik c with
  | some k' => match decide (k = k') with
   | true => k_B k r
   | false => false
  | none => false
def f_M (p : Path) (o : Oper) (isMax : Bool) (args : List (Operand × TypeId)) : R :=
 a_a C o.dst p fun d => d_p C o.type fun cr tr => match tr.k with
  | .int k => p_u C p args fun l => match l with
   | [] => badR
   | x :: r => match k_B C k (x :: r) with
    | true => okR [(a_ d,⟨p,.t cr (.i k (j_S (exI isMax) x.2.int r))⟩)]
    | false => badR
  | _ => badR
def c_O (i : Nat) (p : Path) (d s ix : Nat) : R:=match Nat.blt ix 1000 with
 | false => badR
 | true => .get (comp s ix) fun
  | some e' => match e'.path.sub p with
   | true => match e'.av with
    | .t c v => okR [(a_ d,⟨p,.t c v⟩)]
    | .own c _ xs => match p,e'.path with
     | [],[] => okR [(comp s ix,top .u),(a_ d,top (.own c (i + 1) xs))]
     | _,_ => badR
    | .ptr s' tag c => okR [(a_ d,⟨p,.ptr s' tag c⟩)]
    | _ => badR
   | false => badR
  | none => badR
def h_M (i : Nat) (p : Path) (o : Oper) (x : Operand) (ix : Nat) : R :=
 a_a C o.dst p fun d => match x with
  | .tmp s => .get (a_ s) fun
   | some e => match e.path.sub p with
    | true => match e.av with
     | .tup _ => c_O i p d s ix
     | .tcp s' tag => .get (a_ s') fun
      | some e2 => match e2.av with
       | .tup tag' => match Nat.beq tag tag' with
        | true => c_O i p d s' ix
        | false => badR
       | _ => badR
      | none => badR
     | _ => badR
    | false => badR
   | none => badR
  | _ => badR
def i_r (s : Nat) : (c n : Nat) → (List AV → R) → R
 | _,0,k => k []
 | c,n + 1,k => .get (cell s c) fun
  | some ⟨[],.t c' x⟩ => i_r s (c + 1) n fun l => k (.t c' x :: l)
  | some ⟨[],.own c' _ xs⟩ => i_r s (c + 1) n fun l => k (.own c' 0 xs :: l)
  | _ => badR
def d_d (j s : Nat) : (c : Nat) → List TypeId → List Bool → Shape × List (Key × Path)
 | c,ty :: tys,w :: ws => match d_d j s (c + 1) tys ws with
  | (sh,ks) => ((cell j c,ty,w) :: sh,(cell s c,[]) :: ks)
 | _,_,_ => ([],[])
def h_d : List TypeId → Bool
 | [] => true
 | c :: r => match C.tab.at c with
  | some (_,ti) => match ti.k with
   | .int _ | .bool | .str => h_d r
   | _ => false
  | none => false
structure Acc where
 args : List Arg
 fz : List (Key × Ent)
 tk : List Key
 ln : List Key
 bx : List (Nat × Nat × Nat)
 sh : Shape
 ks : List (Key × Path)
def Acc.nil : Acc:=⟨[],[],[],[],[],[],[]⟩
def Acc.arg (a : Arg) (x : Acc) : Acc:={ x with args:=a :: x.args }
def Acc.frz (k : Key) (e : Ent) (x : Acc) : Acc:={ x with fz:=(k,e) :: x.fz }
def Acc.lend (k : Key) (x : Acc) : Acc:={ x with ln:=k :: x.ln }
def Acc.lends (ks : List Key) (x : Acc) : Acc:={ x with ln:=ks ++ x.ln }
def Acc.take (k : Key) (x : Acc) : Acc:={ x with tk:=k :: x.tk }
def Acc.box (j s n : Nat) (sh : Shape) (ks : List (Key × Path)) (x : Acc) : Acc:={ x with bx:=(j,s,n) :: x.bx,sh:=sh ++ x.sh,ks:=ks ++ x.ks }
def d_l : List Key → Bool
 | [] => true
 | k :: r => match memK r k with
  | true => false
  | false => d_l r
def e_i : List Key → List Key → Bool
 | [],_ => true
 | k :: r,l => match memK l k with
  | true => false
  | false => e_i r l
def b_C (s : Nat) : Nat → Nat → List Key
 | _,0 => []
 | c,n + 1 => cell s c :: b_C s (c + 1) n
def a_k : List (Nat × Nat × Nat) → List Key
 | [] => []
 | (_,s,n) :: r => a_ s :: (b_C s 0 n ++ a_k r)
def b_p : Shape → List Key
 | [] => []
 | (k,_,_) :: r => k :: b_p r
def a_q : List (Key × Path) → List Key
 | [] => []
 | (k,_) :: r => k :: a_q r
def Acc.ok (a : Acc) (sh : Shape) (ks : List (Key × Path)) : Bool :=
 match d_l (a.tk ++ a_k a.bx),e_i (a.tk ++ a_k a.bx) (K_ a.fz),e_i (a.tk ++ a_k a.bx) a.ln,d_l (b_p sh),d_l (a_q ks),Nat.beq sh.length ks.length with
 | true,true,true,true,true,true => true
 | _,_,_,_,_,_ => false
def d_t : List Key → List (Key × Ent)
 | [] => []
 | k :: r => (k,top .u) :: d_t r
def m_K (j s : Nat) (c : TypeId) (n : Nat) (flags : List Bool) (k : Arg → Nat → Shape → List (Key × Path) → R) : R :=
 i_r s 0 n fun cs => match C.tab.at c with
  | some (_,tc) => match d_d j s 0 (tc.lv c) flags with
   | (sh,ks) => match Nat.beq sh.length n with
    | true => k (.box c n cs) n sh ks
    | false => badR
  | none => badR
def g_l (t n : Nat) : Nat → List TypeId → (List T → List Key → R) → R
 | _,[],k => k [] []
 | q,ty :: tys,k => .get (fld t n q) fun
  | some ⟨[],.t c y⟩ => match Nat.beq c ty with
   | true => g_l t n (q + 1) tys fun xs ks => k (y :: xs) ks
   | false => badR
  | some ⟨[],.alias h tag c off len⟩ => match Nat.beq c ty with
   | true => b_M h tag fun _ ys => g_l t n (q + 1) tys fun xs ks => k (.l ((ys.drop off).take len) :: xs) (h :: ks)
   | false => badR
  | _ => badR
def t_6 (ko : Option (Key × Path)) (p : Path) (keep : Bool) (ty : TypeId) (k : TypeId → List T → List Key → R) : R:=match p,keep,ko,C.tab.at ty with
 | [],true,some (key,[]),some (c,ti) => match ti.isS,decide (ti.cells ≤ 1000) with
  | true,true => g_l key.a ti.cells 0 ti.leaves fun xs ks => k c xs ks
  | _,_ => badR
 | _,_,_,_ => badR
def c_m (m : Mode) (p : Path) (keep : Bool) : (j : Nat) → List (Operand × TypeId) → (Acc → R) → R
 | _,[],k => k .nil
 | j,(x,ty) :: r,k => opnd C p x ty fun ko a => match look m.boxes j with
  | some flags => match p with
   | _ :: _ => badR
   | [] => match a,ko with
    | .box c _ n,some (key,[]) => m_K C j key.a c n flags fun a n sh ks => c_m m p keep (j + 1) r fun acc => k ((acc.arg a).box j key.a n sh ks)
    | .ptr s tag 0,_ => h_6 s tag fun c n => m_K C j s c n flags fun a n sh ks => c_m m p keep (j + 1) r fun acc => k ((acc.arg a).box j s n sh ks)
    | _,_ => badR
  | none => match m.ins.getD j false with
   | true => match p with
    | _ :: _ => badR
    | [] => match a with
     | .own c _ xs => match ko with
      | some (key,[]) => c_m m p keep (j + 1) r fun acc => k ((acc.arg (.own c xs)).take key)
      | some _ => badR
      | none => c_m m p keep (j + 1) r fun acc => k (acc.arg (.own c xs))
     | .alias h tag _ off len => match Nat.beq off 0 with
      | true => b_M h tag fun c' xs => c_m m p keep (j + 1) r fun acc => k ((acc.arg (.own c' (xs.take len))).take h)
      | false => badR
     | _ => badR
   | false => match a with
    | .t c v => c_m m p keep (j + 1) r fun acc => k (acc.arg (.t c v))
    | .pl c v 0 => c_m m p keep (j + 1) r fun acc => k (acc.arg (.pl c v))
    | .own c _ xs => match ko with
     | some (key,[]) => match keep with
      | true => c_m m p keep (j + 1) r fun acc => k ((acc.arg (.t c (.l xs))).lend key)
      | false => c_m m p keep (j + 1) r fun acc => k ((acc.arg (.t c (.l xs))).frz key (top (.t c (.l xs))))
     | some _ => badR
     | none => c_m m p keep (j + 1) r fun acc => k (acc.arg (.t c (.l xs)))
    | .alias h tag c off len => b_M h tag fun c' xs => match keep with
     | true => c_m m p keep (j + 1) r fun acc => k ((acc.arg (.t c (.l ((xs.drop off).take len)))).lend h)
     | false => c_m m p keep (j + 1) r fun acc => k ((acc.arg (.t c (.l ((xs.drop off).take len)))).frz h (top (.t c' (.l xs))))
    | .tup _ => t_6 C ko p keep ty fun c xs ks => c_m m p keep (j + 1) r fun acc => k ((acc.arg (.t c (.g xs))).lends ks)
    | _ => badR
def b_l (n : Nat) : Nat → List TypeId → List Bool → Shape
 | j,ty :: tys,w => (comp n j,ty,w.headD false) :: b_l n (j + 1) tys w.tail
 | _,[],_ => []
def c_Y (d : Nat) (p : Path) : Nat → List TypeId → List (Key × Path)
 | j,_ :: tys => (comp d j,p) :: c_Y d p (j + 1) tys
 | _,[] => []
def b_D : Mode:=⟨[],[],[]⟩
def noBx (m : Mode) : Bool:=match m.boxes with
 | [] => true
 | _ => false
def d_h (rs : List TypeId) (m : Mode) : Bool:=match h_d C rs with
 | true => noBx m
 | false => false
def e_k (i : Nat) (f : Cal) (acc : Acc) (tup : List (Key × Ent)) (sh : Shape) (ks : List (Key × Path)) : R:=match acc.ok sh ks with
 | true => .ret (.call (i + 1) f acc.args (acc.fz ++ (d_t acc.tk ++ tup)) sh ks)
 | false => badR
def t_1 (f : Nat) : Bool:=memK C.homes ⟨5,f,0⟩
def p_N : List Key → Nat → Option Nat
 | [],_ => none
 | ⟨t,k,g⟩ :: r,n => match Nat.beq t 4,Nat.beq k n with
  | true,true => some g
  | _,_ => p_N r n
def h_G (i f d s tag : Nat) (cf cb : TypeId) (v1 : T) : R:=match p_N C.homes f with
 | none => .ret (.bind f v1.int none [(a_ d,top (.tup (i + 1))),(comp d 0,top (.t cf .z)),(comp d 1,top (.t cb (.b false)))])
 | some g => .ret (.bind f v1.int (some g) [(a_ d,top (.tup (i + 1))),(comp d 0,top (.ptr s tag (mthB + g))),(comp d 1,top (.t cb (.b true)))])
def q_m (i : Nat) (p : Path) (o : Oper) (f : FuncId) (args : List (Operand × TypeId)) (rs : List TypeId) : R:=match p,args,rs with
 | [],[(x0,t0),(x1,t1)],[rf,rb] => a_a C o.dst [] fun d => opnd C [] x0 t0 fun ko a => seeT C [] x1 t1 fun c1 v1 => match C.tab.at rf,C.tab.at rb with
  | some (cf,tf),some (cb,tb) => match tf.k,tb.k,C.kd c1 with
   | .fn,.bool,.int .i64 => match a,ko with
    | .box _ tag _,some (k,[]) => h_G C i f d k.a tag cf cb v1
    | .ptr s tag 0,_ => h_6 s tag fun _ _ => h_G C i f d s tag cf cb v1
    | _,_ => badR
   | _,_,_ => badR
  | _,_ => badR
 | _,_,_ => badR
def m_O (i : Nat) (p : Path) (o : Oper) (g s : Nat) (cB : TypeId) (n : Nat) (args : List (Operand × TypeId)) : R:=match p,look C.sigs g,look C.modes g with
 | [],some (_,r1 :: r2 :: rs),some m => match look m.boxes 0 with
  | some flags => a_a C o.dst [] fun d => m_K C 0 s cB n flags fun a n sh ks => c_m C m [] false 1 args fun acc =>
    e_k i (.f g) ((acc.arg a).box 0 s n sh ks) [(a_ d,⟨[],.tup (i + 1)⟩)] (b_l (args.length + 1) 0 (r1 :: r2 :: rs) m.own ++ ((acc.arg a).box 0 s n sh ks).sh) (c_Y d [] 0 (r1 :: r2 :: rs) ++ ((acc.arg a).box 0 s n sh ks).ks)
  | none => badR
 | _,_,_ => badR
def q_q (i : Nat) (p : Path) (o : Oper) (f : FuncId) (args : List (Operand × TypeId)) : R :=
 match look C.sigs f with
 | none => badR
 | some (_,rs) => match t_1 C f with
 | true => q_m C i p o f args rs
 | false => match (look C.modes f).getD b_D with
  | m => match rs with
   | [] => match o.dst with
    | none => c_m C m p (d_h C [] m) 0 args fun acc => e_k i (.f f) acc [] acc.sh acc.ks
    | some _ => badR
   | [r] => a_a C o.dst p fun d => c_m C m p (d_h C [r] m) 0 args fun acc =>
     e_k i (.f f) acc [] ((a_ args.length,r,m.own.headD false) :: acc.sh) ((a_ d,p) :: acc.ks)
   | rs => a_a C o.dst p fun d => c_m C m p (d_h C rs m) 0 args fun acc =>
     e_k i (.f f) acc [(a_ d,⟨p,.tup (i + 1)⟩)] (b_l args.length 0 rs m.own ++ acc.sh) (c_Y d p 0 rs ++ acc.ks)
def Acc.i_k (xs : List T) (a : Acc) : Acc:={ a with args:=a.args ++ xs.map k_E }
def m_P (i : Nat) (p : Path) (o : Oper) (x : Operand) (args : List (Operand × TypeId)) : R :=
 opnd C p x 0 fun _ a => match a with
  | .t c v => match C.kd c with
   | .fn => match C.tab.at o.type with
    | some (r,_) => a_a C o.dst p fun d => c_m C b_D p (d_h C [r] b_D) 0 args fun acc =>
      e_k i (.v v) (acc.i_k v.caps) [] [(a_ (args.length + v.caps.length),r,false)] [(a_ d,p)]
    | none => badR
   | _ => badR
  | .ptr s tag c => match Nat.ble mthB c with
   | true => h_6 s tag fun cB n => m_O C i p o (c - mthB) s cB n args
   | false => badR
  | _ => badR
def o_E (p : Path) : List Operand → (List T → R) → R
 | [],k => k []
 | x :: r,k => opnd C p x 0 fun _ a => match a with
  | .pl c y 0 => o_E p r fun l => k (.e c y :: l)
  | _ => badR
def g_o (p : Path) (o : Oper) (f : FuncId) (first captured : Array Operand) : R :=
 a_a C o.dst p fun d => match first.toList,C.tab.at o.type with
  | [],some (c,ti) => match ti.k with
   | .fn => o_E C p captured.toList fun l => okR [(a_ d,⟨p,.t c (.f f l)⟩)]
   | _ => badR
  | _,_ => badR
def c_4 : List Operand → List TypeId → List (Operand × TypeId)
 | x :: xs,t :: ts => (x,t) :: c_4 xs ts
 | _,_ => []
def zipC (c : Call) (k : List (Operand × TypeId) → R) : R:=match Nat.beq (c_4 c.args.toList c.argTypes.toList).length c.args.size with
 | true => k (c_4 c.args.toList c.argTypes.toList)
 | false => badR
def t_3 : Option Nat → Bool
 | some d => a_w C d
 | none => false
def dead (d : Nat) : Key:=⟨9,d,0⟩
def q_v (p : Path) (o : Oper) : Bool:=match p,o.dst with
 | _ :: _,some d => memK C.homes (dead d)
 | _,_ => false
def s_Y (p : Path) (o : Oper) : R:=a_a C o.dst p fun d => d_p C o.type fun cr _ => updR False [(a_ d,⟨p,.t cr .u⟩)]
def opR (i : Nat) (p : Path) (o : Oper) : R:=match q_v C p o with
 | true => s_Y C p o
 | false => match o.op with
 | .move x => match t_3 C o.dst with
  | true => h_E C i p o x
  | false => n_H C i p o x
 | .assign x => h_E C i p o x
 | .pick c a b => s_g C p o c a b
 | .alloc ty => m_z C i p o ty
 | .box ty v => boxR C i p o ty v
 | .build ty parts => match p,n_u C o with
  | [],true => bldR C i o ty parts
  | _,_ => m_N C p o ty parts
 | .buildSlice ty n parts => match p with
  | [] => d_Z C i [] o ty n parts
  | q :: p => d_Y C (q :: p) o ty n parts
 | .load ty a => match p,n_u C o with
  | [],true => r_2 C i o ty a
  | _,_ => r_3 C p o ty a
 | .store ty a v => match o.dst with
  | none => o_h C i p ty a v
  | some _ => badR
 | .nilCheck x => g_w C p o x
 | .binOp op xt x y yt => binR C p o op xt x y yt
 | .unOp op xt x => unR C p o op xt x
 | .convert src dst x => q_s C p o src dst x
 | .makeSlice ty l c => r_4 C i p o ty l c
 | .slice xt x lo hi mx => c_H C i p o xt x lo hi mx
 | .fieldAddr ty x f => e_3 C p o ty x f
 | .indexAddr xt x ix => n_v C p o xt x ix
 | .index xt x ix => strR C p o xt x ix
 | .extract x ix => h_M C i p o x ix
 | .makeFunc (.func f) first captured => g_o C p o f first captured
 | .call c => match c.callee with
  | .value (.func f) => zipC c fun l => q_q C i p o f l
  | .value (.tmp s) => zipC c fun l => m_P C i p o (.tmp s) l
  | .builtin .len => match c.args.toList,c.argTypes.toList with
   | [x],[xt] => lenR C p o xt x
   | _,_ => badR
  | .builtin .append => match c.args.toList,c.argTypes.toList with
   | [s,x],[st,xt] => j_t C i p o st xt s x
   | _,_ => badR
  | .builtin .max => zipC c fun l => f_M C p o true l
  | .builtin .min => zipC c fun l => f_M C p o false l
  | _ => badR
 | _ => badR
inductive L (tab : Tab) (w : World) (O : Nat → Prop) : TypeId → Value → T → Prop where
 | bool {c : TypeId} {ti : TI} {x : Bool} (h : tab.at c = some (c,ti)) (hk : ti.k = .bool) : L tab w O c (.bool x) (.b x)
 | int {c : TypeId} {ti : TI} {k : IntKind} {n : Int} (h : tab.at c = some (c,ti)) (hk : ti.k = .int k) (hn : k.wrap n = n) : L tab w O c (.int k n) (.i k n)
 | str {c : TypeId} {ti : TI} {x : ByteArray} (h : tab.at c = some (c,ti)) (hk : ti.k = .str) (hs : x.size ≤ maxLen) : L tab w O c (.string x) (.s x)
 | nil {c : TypeId} {ti : TI} {e : TypeId} (h : tab.at c = some (c,ti)) (hk : ti.k = .sl e) : L tab w O c (.slice none 0 0) (.l [])
 | sl {c : TypeId} {ti : TI} {e ce : TypeId} {te : TI} {a : Go.Addr} {cap : Nat} {xs : List T} (h : tab.at c = some (c,ti)) (hk : ti.k = .sl e) (he : tab.at e = some (ce,te))
   (hp : 0 < te.cells) (hcap : xs.length ≤ cap) (hm : cap ≤ maxLen) (ho : 0 < xs.length → ¬ O a.block) (vs : Nat → Nat → Value)
   (hg : ∀ (j : Nat) (x : T),xs[j]? = some x → x.isG = te.isS ∧ x.leaves.length = te.cells)
   (hv : ∀ (j : Nat) (x : T) (n : Nat) (y : T),xs[j]? = some x → x.leaves[n]? = some y → w.cell? (a.add (j * te.cells + n)) = some (vs j n))
   (hl : ∀ (j : Nat) (x : T) (n : Nat) (y : T) (ty : TypeId),xs[j]? = some x → x.leaves[n]? = some y → (te.lv ce)[n]? = some ty → L tab w O ty (vs j n) y) :
   L tab w O c (.slice (some a) xs.length cap) (.l xs)
 | ptr {c : TypeId} {ti : TI} {e : TypeId} (h : tab.at c = some (c,ti)) (hk : ti.k = .ptr e) : L tab w O c (.pointer none) .z
 | ifc {c : TypeId} {ti : TI} (h : tab.at c = some (c,ti)) (hk : ti.k = .ifc) : L tab w O c .nilIface .z
 | fn {c : TypeId} {ti : TI} (h : tab.at c = some (c,ti)) (hk : ti.k = .fn) : L tab w O c .nilFunc .z
 | fnc {c : TypeId} {ti : TI} {f : FuncId} {xs : List T} {caps : Array Value} (h : tab.at c = some (c,ti)) (hk : ti.k = .fn) (hn : caps.size = xs.length) (ad : Nat → Go.Addr) (ts : Nat → T) (tys : Nat → TypeId) (tis : Nat → TI) (vs : Nat → Nat → Value)
   (hx : ∀ (j : Nat) (x : T),xs[j]? = some x → x = .e (tys j) (ts j) ∧ caps[j]? = some (.pointer (some (ad j))) ∧ tab.at (tys j) = some (tys j,tis j) ∧ (ts j).isG = (tis j).isS ∧ (ts j).leaves.length = (tis j).cells ∧ 0 < (tis j).cells ∧ ¬ O (ad j).block)
   (hv : ∀ (j n : Nat) (y : T),j < xs.length → (ts j).leaves[n]? = some y → w.cell? ((ad j).add n) = some (vs j n))
   (hl : ∀ (j n : Nat) (y : T) (ty : TypeId),j < xs.length → (ts j).leaves[n]? = some y → ((tis j).lv (tys j))[n]? = some ty → L tab w O ty (vs j n) y) :
   L tab w O c (.func (.func f) #[] caps) (.f f xs)
def isAgg : Value → Bool
 | .agg _ => true
 | _ => false
def V (tab : Tab) (w : World) (O : Nat → Prop) (c : TypeId) (v : Value) (x : T) : Prop :=
 ∃ ti,tab.at c = some (c,ti) ∧ x.isG = ti.isS ∧ isAgg v = ti.isS ∧ v.cells.size = ti.cells ∧ x.leaves.length = ti.cells ∧
  ∀ (j : Nat) y ty,x.leaves[j]? = some y → (ti.lv c)[j]? = some ty → ∃ u,v.cells[j]? = some u ∧ L tab w O ty u y
def At (tab : Tab) (w : World) (O : Nat → Prop) (c : TypeId) (a : Go.Addr) (x : T) : Prop :=
 ∃ ti,tab.at c = some (c,ti) ∧ x.isG = ti.isS ∧ x.leaves.length = ti.cells ∧ ¬ O a.block ∧
  ∀ (j : Nat) y ty,x.leaves[j]? = some y → (ti.lv c)[j]? = some ty → ∃ u,w.cell? (a.add j) = some u ∧ L tab w O ty u y
def Own (tab : Tab) (w : World) (O : Nat → Prop) (c : TypeId) (v : Value) (g : Option Nat) (xs : List T) : Prop :=
 ∃ ti e ce te,tab.at c = some (c,ti) ∧ ti.k = .sl e ∧ tab.at e = some (ce,te) ∧ 0 < te.cells ∧
  ((g = none ∧ xs = [] ∧ ∃ a,v = .slice a 0 0) ∨
   ∃ b cap cs,g = some b ∧ v = .slice (some ⟨b,0,none⟩) xs.length cap ∧ w.heap[b]? = some (.cells cs e (0,0)) ∧ xs.length ≤ cap ∧ cap ≤ maxLen ∧
    cs.size = cap * te.cells ∧ ∀ (j : Nat) x,xs[j]? = some x → x.isG = te.isS ∧ x.leaves.length = te.cells ∧
     ∀ (n : Nat) y ty,x.leaves[n]? = some y → (te.lv ce)[n]? = some ty → ∃ u,cs[j * te.cells + n]? = some u ∧ L tab w O ty u y)
def Sub (tab : Tab) (c : TypeId) (hv v : Value) (off len n : Nat) : Prop :=
 ∃ ti e ce te a cap a' cap',tab.at c = some (c,ti) ∧ ti.k = .sl e ∧ tab.at e = some (ce,te) ∧ hv = .slice a n cap ∧ v = .slice a' len cap' ∧ off + len ≤ n ∧ len ≤ cap' ∧ cap' ≤ cap ∧
  (off = 0 → a' = a ∧ cap' = cap) ∧ (a' = none → a = none) ∧ (0 < len → ∃ b,a = some b ∧ a' = some (b.add (off * te.cells)))
def St.truth (σ : St) (s : Nat) : Bool:=match σ.get (a_ s) with
 | some e => match e.av with
  | .t _ x => x.bool
  | _ => false
 | none => false
def St.Holds (σ : St) : Path → Prop
 | [] => True
 | (s,w) :: r => σ.truth s = w ∧ St.Holds σ r
def s_ (tm : Array Value) (w : World) (γ : Key → Option Nat) (k : Key) : Option Value :=
 match k.tag with
 | 0 => if k.b = 0 then tm[k.a]? else none
 | 1 => (γ (a_ k.a)).bind fun b => w.cell? ⟨b,k.b,none⟩
 | 2 => match tm[k.a]? with
  | some (.tuple vs) => match Nat.blt k.b 1000 with
   | true => vs[k.b]?
   | false => none
  | some (.agg vs) => match Nat.blt k.b 1000 with
   | true => none
   | false => match Nat.beq vs.size (k.b / 1000 - 1) with
    | true => vs[k.b % 1000]?
    | false => none
  | _ => none
 | _ => none
structure Fr where
 B : Nat
 w0 : World
 A : Nat → Prop
 E : Nat → Prop
def Ob (fr : Fr) (γ : Key → Option Nat) (b : Nat) : Prop:=fr.A b ∨ ∃ k,γ k = some b
def ptrV (b c : Nat) : Value:=match Nat.blt c mthB with
 | true => .pointer (some ⟨b,c,none⟩)
 | false => .func (.func (c - mthB)) #[.pointer (some ⟨b,0,none⟩)] #[]
theorem g_I {b c : Nat} (h : Nat.blt c mthB = true) : ptrV b c = .pointer (some ⟨b,c,none⟩):=by unfold ptrV;rw [h]
theorem l_c {b f : Nat} : ptrV b (mthB + f) = .func (.func f) #[.pointer (some ⟨b,0,none⟩)] #[]:=by
 have : Nat.blt (mthB + f) mthB = false:=by
  cases hb : Nat.blt (mthB + f) mthB with
  | false => rfl
  | true => simp [Nat.blt] at hb;omega
 unfold ptrV;rw [this];simp
def AVR (tab : Tab) (w : World) (O : Nat → Prop) (σ : St) (val : Key → Option Value) (γ : Key → Option Nat) (k : Key) (v : Value) : AV → Prop
 | .u => True
 | .t c x => V tab w O c v x
 | .own c _ xs => Own tab w O c v (γ k) xs
 | .box _ _ n => ∃ b cs ety,γ k = some b ∧ v = .pointer (some ⟨b,0,none⟩) ∧ w.heap[b]? = some (.cells cs ety (0,0)) ∧ cs.size = n
 | .alias h tag c off len => ∀ c' xs,σ.get h = some ⟨[],.own c' tag xs⟩ → c' = c ∧ ∃ hv,val h = some hv ∧ Sub tab c hv v off len xs.length
 | .ptr s tag c => ∀ cb n,σ.get (a_ s) = some ⟨[],.box cb tag n⟩ → ∃ b,γ (a_ s) = some b ∧ v = ptrV b c
 | .eptr h tag i c => ∀ c' xs,σ.get h = some ⟨[],.own c' tag xs⟩ → i < xs.length ∧ ∃ b cap ti e ce te,val h = some (.slice (some ⟨b,0,none⟩) xs.length cap) ∧
   tab.at c' = some (c',ti) ∧ ti.k = .sl e ∧ tab.at e = some (ce,te) ∧ v = .pointer (some ⟨b,i * te.cells + c,none⟩)
 | .pl c x off => ∃ a,v = .pointer (some (a.add off)) ∧ At tab w O c a x
 | .tup _ => (∃ vs,v = .tuple vs) ∨ ∃ vs,v = .agg vs
 | .tcp s tag => ∀ p,σ.get (a_ s) = some ⟨p,.tup tag⟩ → val (a_ s) = some v
structure Rel (tab : Tab) (fr : Fr) (tm : Array Value) (w : World) (σ : St) (γ : Key → Option Nat) : Prop where
 os : w.os = fr.w0.os
 tape : w.tape = fr.w0.tape
 output : w.output = fr.w0.output
 size : fr.B ≤ w.heap.size
 old : ∀ b,b < fr.B → ¬ fr.E b → w.heap[b]? = fr.w0.heap[b]?
 low : ∀ b,fr.A b → b < fr.B ∧ ¬ fr.E b
 inj : ∀ k k' b,γ k = some b → γ k' = some b → k = k'
 blk : ∀ k b,γ k = some b → b < w.heap.size ∧ ¬ fr.A b ∧ (b < fr.B → fr.E b)
 cel : ∀ s n e,σ.get (cell s n) = some e → ∃ c tag m,σ.get (a_ s) = some ⟨[],.box c tag m⟩
 cmp : ∀ s j e,σ.get (comp s j) = some e → ∃ p n,σ.get (a_ s) = some ⟨p,.tup n⟩
 ent : ∀ k e,σ.get k = some e → ∃ v,s_ tm w γ k = some v ∧ (σ.Holds e.path → AVR tab w (Ob fr γ) σ (s_ tm w γ) γ k v e.av) ∧ (¬ σ.Holds e.path → v = undef)
def a_j (j : Nat) : Nat → List AV → St
 | _,[] => []
 | c,a :: r => (cell j c,top a) :: a_j j (c + 1) r
def a_T : Nat → List Arg → St
 | _,[] => []
 | j,.t c x :: r => (a_ j,top (.t c x)) :: a_T (j + 1) r
 | j,.own c xs :: r => (a_ j,top (.own c 0 xs)) :: a_T (j + 1) r
 | j,.pl c x :: r => (a_ j,top (.pl c x 0)) :: a_T (j + 1) r
 | j,.box c n cells :: r => (a_ j,top (.box c 0 n)) :: (a_j j 0 cells ++ a_T (j + 1) r)
def b_s : Nat → List Arg → St
 | _,[] => []
 | j,.box c n _ :: r => (a_ j,top (.box c 0 n)) :: b_s (j + 1) r
 | j,_ :: r => b_s (j + 1) r
def f_g (tag : Nat) (ty : TypeId) (own : Bool) (y : T) : AV:=match own with
 | true => .own ty tag y.list
 | false => .t ty y
def shSt : Shape → List T → St
 | (k,ty,o) :: sh,y :: ys => (k,top (f_g 0 ty o y)) :: shSt sh ys
 | _,_ => []
def m_p (n : Nat) : Shape → St
 | (k,_,_) :: _ => match Nat.beq k.tag 2 with
  | true => [(a_ n,top (.tup 0))]
  | false => []
 | [] => []
def b_j (args : List Arg) (sh : Shape) (ys : List T) : St:=b_s 0 args ++ (m_p args.length sh ++ shSt sh ys)
def CallsF (P : Program) (f : FuncId) (vals : Array Value) (w : World) (R : Value → World → Prop) : Prop :=
 match (callFunc f vals).run P w with
 | .ok (.enter g args) w' => Calls P g args w' fun e w'' => ∃ v,e = .returned v ∧ R v w''
 | .ok (.value v) w' => R v w'
 | _ => False
structure Fn (P : Program) (tab : Tab) (f : FuncId) (args : List Arg) (sh : Shape) (ys : List T) : Prop where
 run : ∀ (w : World) (A : Nat → Prop) (vals : Array Value) (γ : Key → Option Nat),vals.size = args.length →
  Rel tab ⟨w.heap.size,w,A,fun b => ∃ k,γ k = some b⟩ vals w (a_T 0 args) γ →
  CallsF P f vals w fun v w' => ∃ γ',Rel tab ⟨w.heap.size,w,A,fun b => ∃ k,γ k = some b⟩ (vals.push v) w' (b_j args sh ys) γ'
def FnC (P : Program) (tab : Tab) (f : Cal) (args : List Arg) (sh : Shape) (ys : List T) : Prop:=match f with
 | .f f => Fn P tab f args sh ys
 | .v x => x.isF = true ∧ Fn P tab x.fn args sh ys
def q_n (a : Go.Addr) : Option FuncId → Value
 | some g => .func (.func g) #[.pointer (some a)] #[]
 | none => .nilFunc
def o_A : Option FuncId → Bool
 | some _ => true
 | none => false
def f_E (P : Program) (f : FuncId) (k : Int) (g : Option FuncId) : Prop:=∀ (a : Go.Addr) (w : World),CallsF P f #[.pointer (some a),.int .i64 k] w fun v w' => w' = w ∧
 v = .tuple #[q_n a g,.bool (o_A g)]
def imp (σ : St) (p : Path) (c : Prop) : Prop:=match p with
 | [] => c
 | (s,w) :: r => St.Holds σ ((s,w) :: r) → c
def a_K (tag : Nat) : Shape → List (Key × Path) → List T → List (Key × Ent)
 | (_,ty,o) :: sh,(k,p) :: ks,y :: ys => (k,⟨p,f_g tag ty o y⟩) :: a_K tag sh ks ys
 | _,_,_ => []
def exN : Nat → (List T → Prop) → Prop
 | 0,f => f []
 | n + 1,f => ∃ y,exN n fun ys => f (y :: ys)
theorem h_L : ∀ {n : Nat} {f : List T → Prop},exN n f ↔ ∃ ys : List T,ys.length = n ∧ f ys:=by
 intro n
 induction n with
 | zero =>
  intro f;exact ⟨fun h => ⟨[],rfl,h⟩,fun ⟨ys,h1,h2⟩ => by
   cases ys with
   | nil => exact h2
   | cons => simp at h1⟩
 | succ n ih =>
  intro f
  constructor
  ·rintro ⟨y,h⟩
   obtain ⟨ys,h1,h2⟩:=ih.1 h;exact ⟨y :: ys,by simp [h1],h2⟩
  ·rintro ⟨ys,h1,h2⟩
   cases ys with
   | nil => simp at h1
   | cons y ys => exact ⟨y,ih.2 ⟨ys,by simpa using h1,h2⟩⟩
def a_o.W (P : Program) (tab : Tab) (σ : St) (p : Path) (K : St → Prop) : a_o → Prop
 | .bad => False
 | .upd none ws => K (σ.puts ws)
 | .upd (some c) ws => imp σ p c ∧ K (σ.puts ws)
 | .all c k f => ∀ y,c y → K (σ.puts [(k,f y)])
 | .bind f k g ws => f_E P f k g ∧ K (σ.puts ws)
 | .call tag f args pre sh ks => exN sh.length fun ys => imp σ p (FnC P tab f args sh ys) ∧ K (σ.puts (pre ++ a_K tag sh ks ys))
def o_O (ops : List Oper) (j : Nat) : Option Nat:=match ops[j]? with
 | some o => o.dst
 | none => none
def k_r : Path → Path → Bool
 | [],[] => true
 | (j,w) :: r,(j',w') :: r' => match Nat.beq j j',j_c w w' with
  | true,true => k_r r r'
  | _,_ => false
 | _,_ => false
def t_5 (r : a_o) : AV → R
 | .t .. => .ret r
 | .pl .. => .ret r
 | .alias h tag .. => b_M h tag fun _ _ => .ret r
 | .eptr h tag .. => b_M h tag fun _ _ => .ret r
 | .ptr s tag _ => h_6 s tag fun _ _ => .ret r
 | _ => badR
def guarded (C : Ctx) (d : Option Nat) (p : Path) : a_o → R
 | .upd c [(k,e)] => a_a C d p fun d => match k.eq (a_ d),k_r e.path p with
  | true,true => t_5 (.upd c [(k,e)]) e.av
  | _,_ => badR
 | .call tag f args [] [sh] [(k,q)] => a_a C d p fun d => match k.eq (a_ d),k_r q p,sh with
  | true,true,(_,_,false) => .ret (.call tag f args [] [sh] [(k,q)])
  | _,_,_ => badR
 | _ => badR
def m_E {α β : Type} (f : α → Rd β) : Rd α → Rd β
 | .ret a => f a
 | .get k g => .get k fun e => m_E f (g e)
def l_S {α β : Type} (f : α → β) : Rd α → Rd β
 | .ret a => .ret (f a)
 | .get k g => .get k fun e => l_S f (g e)
def spl (d : Nat) : Key:=⟨8,d,0⟩
def r_Z (C : Ctx) (d : Nat) : Bool:=memK C.homes (spl d)
def j_g (C : Ctx) (ty : TypeId) : AV:=match C.tab.at ty with
 | some (cr,_) => .t cr .u
 | none => .u
def u_p (C : Ctx) (s : Nat) (want : Bool) (o : Oper) : R:=a_a C o.dst [] fun d => okR [(a_ d,⟨[(s,want)],j_g C o.type⟩)]
def gopR (C : Ctx) (ops : List Oper) (i : Nat) (o : Oper) : Rd (Path × a_o) :=
 match o.guard with
 | none => l_S (fun r => ([],r)) (opR C i [] o)
 | some (j,want) => match o_O ops j with
  | none => .ret ([],.bad)
  | some s => match a_w C s with
   | true => .ret ([],.bad)
   | false => match r_Z C s with
   | true => .get (a_ s) fun
    | some ⟨[],.t c (.b x)⟩ => match C.kd c with
     | .bool => match j_c x want with
      | true => l_S (fun r => ([],r)) (opR C i [] o)
      | false => l_S (fun r => ([(s,want)],r)) (u_p C s want o)
     | _ => .ret ([],.bad)
    | _ => .ret ([],.bad)
   | false => .get (a_ s) fun
    | some e => match e.av with
     | .t c _ => match C.kd c with
      | .bool => l_S (fun r => (e.path ++ [(s,want)],r)) (m_E (guarded C o.dst (e.path ++ [(s,want)])) (opR C i (e.path ++ [(s,want)]) o))
      | _ => .ret ([],.bad)
     | _ => .ret ([],.bad)
    | none => .ret ([],.bad)
def opW (P : Program) (C : Ctx) (ops : List Oper) (i : Nat) (o : Oper) (σ : St) (K : St → Prop) : Prop :=
 a_o.W P C.tab σ ((gopR C ops i o).run σ).1 K ((gopR C ops i o).run σ).2
def j_j (C : Ctx) (o : Oper) (σ : St) (K : St → Prop) : Prop:=match o.dst with
 | some d => match r_Z C d with
  | true => match σ.get (a_ d) with
   | some ⟨[],.t c x⟩ => match C.kd c with
    | .bool => (x.bool = true → K (σ.put (a_ d) (top (.t c (.b true))))) ∧ (x.bool = false → K (σ.put (a_ d) (top (.t c (.b false)))))
    | _ => False
   | _ => False
  | false => K σ
 | none => K σ
def opsW (P : Program) (C : Ctx) (ops : List Oper) : List (Nat × Oper) → St → (St → Prop) → Prop
 | [],σ,K => K σ
 | (i,o) :: r,σ,K => opW P C ops i o σ fun σ' => j_j C o σ' fun σ2 => opsW P C ops r σ2 K
def numbered : Nat → List Oper → List (Nat × Oper)
 | _,[] => []
 | i,o :: r => (i,o) :: numbered (i + 1) r
def d_I (C : Ctx) (σ0 : St) (s tag c : Nat) : AV:=match a_w C s with
 | true => match σ0.get (a_ s) with
  | some ⟨[],.box _ tag' _⟩ => match Nat.beq tag tag' with
   | true => .ptr s 0 c
   | false => .u
  | _ => .u
 | false => .u
def b_0 (C : Ctx) (σ0 : St) (h : Key) (tag : Nat) (c : TypeId) (off len : Nat) : AV:=match a_w C h.a,Nat.ble h.tag 1 with
 | true,true => match σ0.get h with
  | some ⟨[],.own c' tag' _⟩ => match Nat.beq tag tag',Nat.beq c c' with
   | true,true => .alias h 0 c off len
   | _,_ => .u
  | _ => .u
 | _,_ => .u
def AV.start (C : Ctx) (σ0 : St) : AV → AV
 | .own c _ xs => .own c 0 xs
 | .box c _ n => .box c 0 n
 | .t c x => .t c x
 | .pl c x off => .pl c x off
 | .ptr s tag c => d_I C σ0 s tag c
 | .alias h tag c off len => b_0 C σ0 h tag c off len
 | _ => .u
def AV.let : AV → AV
 | .own c _ xs => .t c (.l xs)
 | a => a
def h_t (C : Ctx) (fz : List Key) (σ0 : St) : St → St
 | [] => []
 | (k,e) :: r => match a_w C k.a,Nat.ble k.tag 1 with
  | true,true => (k,top (match e.path with
   | [] => match memK fz k with
    | true => (AV.start C σ0 e.av).let
    | false => AV.start C σ0 e.av
   | _ => .u)) :: h_t C fz σ0 r
  | _,_ => h_t C fz σ0 r
def E_ (C : Ctx) (fz : List Key) (σ : St) : St:=h_t C fz σ σ
def wsOf : a_o → List (Key × Ent)
 | .bad => []
 | .upd _ ws => ws
 | .all _ k f => [(k,f .u)]
 | .bind _ _ _ ws => ws
 | .call tag _ _ pre sh ks => pre ++ a_K tag sh ks (List.replicate sh.length .u)
def d_G : Path → List Key
 | [] => []
 | (s,_) :: r => a_ s :: d_G r
def g_K (C : Ctx) (ops : List Oper) (i : Nat) (o : Oper) (σ : St) : List Key:=(gopR C ops i o).keys σ ++ d_G ((gopR C ops i o).run σ).1
abbrev Log:=List (List Key × List Key)
def h_f (C : Ctx) (ops : List Oper) : List (Nat × Oper) → St → Log
 | [],_ => []
 | (i,o) :: r,σ => (g_K C ops i o σ,K_ (wsOf ((gopR C ops i o).run σ).2)) :: h_f C ops r (σ.puts (wsOf ((gopR C ops i o).run σ).2))
def subK : List Key → List Key → Bool
 | [],_ => true
 | k :: r,l => match memK l k with
  | true => subK r l
  | false => false
def mrgX (x : Nat) (f : List Nat → List Nat) : List Nat → List Nat
 | [] => x :: f []
 | y :: b => match Nat.beq x y with
  | true => x :: f b
  | false => match Nat.blt y x with
   | true => x :: f (y :: b)
   | false => y :: mrgX x f b
def mrgN : List Nat → List Nat → List Nat
 | [],b => b
 | x :: a,b => mrgX x (mrgN a) b
def h_B (acc : List (List Nat)) : List Edge → List Nat
 | [] => []
 | e :: r => match Region.binds .any e with
  | true => mrgN (e.on :: acc.getD e.on []) (h_B acc r)
  | false => h_B acc r
def ancs : List Oper → List (List Nat) → List (List Nat)
 | [],acc => acc
 | o :: r,acc => ancs r (acc ++ [h_B acc o.after.toList])
def g_5 (i : Nat) : List Edge → Bool
 | [] => true
 | e :: r => match Region.binds .any e with
  | true => match Nat.blt e.on i with
   | true => g_5 i r
   | false => false
  | false => g_5 i r
def e_T : Nat → List Oper → Bool
 | _,[] => true
 | i,o :: r => match g_5 i o.after.toList with
  | true => e_T (i + 1) r
  | false => false
def apart2 (x y : List Key × List Key) : Bool:=match e_i x.2 y.1,e_i x.2 y.2,e_i x.1 y.2 with
 | true,true,true => true
 | _,_,_ => false
def g_D (anc : List Nat) (y : List Key × List Key) : Nat → Log → Bool
 | _,[] => true
 | i,x :: r => match memN anc i with
  | true => g_D anc y (i + 1) r
  | false => match apart2 x y with
   | true => g_D anc y (i + 1) r
   | false => false
def f_h : (done : Log) → List (List Nat) → Log → Bool
 | _,_,[] => true
 | done,a :: as,y :: r => match g_D a y 0 done with
  | true => f_h (done ++ [y]) as r
  | false => false
 | _,[],_ :: _ => false
def opWc (P : Program) (C : Ctx) (ops : List Oper) (lg : Log) (i : Nat) (o : Oper) (σ : St) (K : St → Prop) : Prop :=
 match subK (g_K C ops i o σ) (lg.getD i ([],[])).1,subK (K_ (wsOf ((gopR C ops i o).run σ).2)) (lg.getD i ([],[])).2 with
 | true,true => match ((gopR C ops i o).run σ).2 with
  | .all _ _ _ => False
  | .bind _ _ _ _ => False
  | _ => opW P C ops i o σ K
 | _,_ => False
def n_N (P : Program) (C : Ctx) (ops : List Oper) (lg : Log) : List (Nat × Oper) → St → (St → Prop) → Prop
 | [],σ,K => K σ
 | (i,o) :: r,σ,K => opWc P C ops lg i o σ fun σ' => n_N P C ops lg r σ' K
def fzOf (C : Ctx) (id : Nat) : List Key:=(look C.frz id).getD []
def d_S (C : Ctx) : List Oper → Bool
 | [] => true
 | o :: r => match o.dst with
  | none => d_S C r
  | some d => match memN C.pins d with
   | true => false
   | false => d_S C r
def h_7 (P : Program) (C : Ctx) (id : Nat) (ops : List Oper) (draw : Bool) (K : St → Prop) (σ : St) : Prop :=
 match d_S C ops with
 | false => False
 | true => match draw with
 | false => opsW P C ops (numbered 0 ops) (E_ C (fzOf C id) σ) K
 | true => match f_h [] (ancs ops []) (h_f C ops (numbered 0 ops) (E_ C (fzOf C id) σ)),e_T 0 ops with
  | true,true => n_N P C ops (h_f C ops (numbered 0 ops) (E_ C (fzOf C id) σ)) (numbered 0 ops) (E_ C (fzOf C id) σ) K
  | _,_ => False
def SW (P : Program) (C : Ctx) (c : Code) (Q : Exit → St → Prop) (σ : St) : Prop :=
 ∀ (fr : Fr) (tm : Array Value) (w : World) (γ : Key → Option Nat),tm.size = C.nt → Rel C.tab fr tm w σ γ →
  c.wp P (fun e a' w' => a'.defers = [] ∧ a'.tmps.size = C.nt ∧ (∀ s,memN C.pins s = true → a'.tmps[s]? = tm[s]?) ∧ ∃ σ' γ',Q e σ' ∧ Rel C.tab fr a'.tmps w' σ' γ') ⟨tm,[]⟩ w
def m_m (n : St → Prop) (Q : Exit → St → Prop) : Exit → St → Prop
 | .normal,σ => n σ
 | e,σ => Q e σ
def k_D (id : Nat) (Q : Exit → St → Prop) : Exit → St → Prop
 | .exit i,σ => match Nat.beq i id with
  | true => Q .normal σ
  | false => Q (.exit i) σ
 | e,σ => Q e σ
def h_J (P : Program) (C : Ctx) : Code → (Exit → St → Prop) → St → Prop
 | .skip,Q,σ => Q .normal σ
 | .seq a b,Q,σ => h_J P C a (m_m (h_J P C b Q) Q) σ
 | .region id ops draw,Q,σ => h_7 P C id ops.toList draw (Q .normal) σ
 | .cond c a b,Q,σ => match c with
  | .tmp s => match σ.get (a_ s) with
   | some ⟨[],.t ty x⟩ => match C.kd ty with
    | .bool => (x.bool = true → h_J P C a Q σ) ∧ (x.bool = false → h_J P C b Q σ)
    | _ => False
   | _ => False
  | .const (.bool true) => h_J P C a Q σ
  | .const (.bool false) => h_J P C b Q σ
  | _ => False
 | .block id body,Q,σ => h_J P C body (k_D id Q) σ
 | .loop body,Q,σ => SW P C (.loop body) Q σ
 | .exit id,Q,σ => Q (.exit id) σ
 | .ret,Q,σ => Q .ret σ
 | _,_,_ => False
theorem f_0 (a : Go.Addr) (m n : Nat) : (a.add m).add n = a.add (m + n):=by
 unfold Addr.add
 by_cases hm : m = 0
 ·subst hm;simp
 ·by_cases hn : n = 0
  ·subst hn;simp [hm]
  ·have : m + n ≠ 0:=by omega
   simp [hm,hn,this,Nat.add_assoc]
theorem b_F (a : Go.Addr) (m : Nat) : (a.add m).block = a.block:=by unfold Addr.add;split <;> rfl
theorem a_I (b o n : Nat) : (⟨b,o,none⟩ : Go.Addr).add n = ⟨b,o + n,none⟩:=by
 unfold Addr.add;split
 ·rename_i h;subst h;rfl
 ·rfl
def Stays (w w' : World) (O O' : Nat → Prop) : Prop:=∀ b,b < w.heap.size → ¬ O b → w'.heap[b]? = w.heap[b]? ∧ ¬ O' b
theorem h_H {w : World} {a : Go.Addr} {v : Value} (h : w.cell? a = some v) : a.block < w.heap.size:=by
 unfold World.cell? at h
 cases hb : w.heap[a.block]? with
 | none => simp [hb] at h
 | some o => exact (Array.getElem?_eq_some_iff.1 hb).1
theorem b_d {w w' : World} {a : Go.Addr} (h : w'.heap[a.block]? = w.heap[a.block]?) : w'.cell? a = w.cell? a:=by
 unfold World.cell?;rw [h]
theorem Stays.cell {w w' : World} {O O' : Nat → Prop} (h : Stays w w' O O') {a : Go.Addr} {v : Value} (hc : w.cell? a = some v) (ho : ¬ O a.block) : w'.cell? a = some v:=by
 rw [b_d (h a.block (h_H hc) ho).1];exact hc
theorem L.mono {tab : Tab} {w w' : World} {O O' : Nat → Prop} (hs : Stays w w' O O') {c : TypeId} {v : Value} {x : T} (h : L tab w O c v x) : L tab w' O' c v x:=by
 induction h with
 | bool h hk => exact .bool h hk
 | int h hk hn => exact .int h hk hn
 | str h hk hx => exact .str h hk hx
 | nil h hk => exact .nil h hk
 | ptr h hk => exact .ptr h hk
 | ifc h hk => exact .ifc h hk
 | fn h hk => exact .fn h hk
 | @fnc c ti f xs caps h hk hn ad ts tys tis vs hx hv hl ih =>
  have hx' : ∀ j x,xs[j]? = some x → (ad j).block < w.heap.size:=by
   intro j x hj;obtain ⟨-,-,-,-,q1,q2,-⟩:=hx j x hj;have hlt:=(List.getElem?_eq_some_iff.1 hj).1
   have:=h_H (hv j 0 _ hlt (List.getElem?_eq_getElem (by omega)))
   rwa [b_F] at this
  refine .fnc h hk hn ad ts tys tis vs (fun j x hj => ?_) (fun j n y hj hy => ?_) ih
  ·obtain ⟨q1,q2,q3,q4,q5,q6,q7⟩:=hx j x hj
   exact ⟨q1,q2,q3,q4,q5,q6,(hs _ (hx' j x hj) q7).2⟩
  ·have hj' := List.getElem?_eq_getElem hj
   exact hs.cell (hv j n y hj hy) (by rw [b_F];exact (hx j _ hj').2.2.2.2.2.2)
 | @sl c ti e ce te a cap xs h hk he hp hcap hm ho vs hg hv hl ih =>
  refine .sl h hk he hp hcap hm ?_ vs hg ?_ (fun j x n y ty hx hy ht => ih j x n y ty hx hy ht)
  ·intro hpos
   have hx : xs[0]? = some (xs[0]'hpos):=by simp
   have hy : ((xs[0]'hpos).leaves)[0]? = some (((xs[0]'hpos).leaves)[0]'(by rw [(hg 0 _ hx).2];exact hp)):=by simp
   have hc:=hv 0 _ 0 _ hx hy;have hlt:=h_H hc;rw [b_F] at hlt;exact (hs _ hlt (ho hpos)).2
  ·intro j x n y hx hy
   have hpos : 0 < xs.length:=by
    have:=(List.getElem?_eq_some_iff.1 hx).1
    omega
   exact hs.cell (hv j x n y hx hy) (by rw [b_F];exact ho hpos)
theorem V.mono {tab : Tab} {w w' : World} {O O' : Nat → Prop} (hs : Stays w w' O O') {c : TypeId} {v : Value} {x : T} (h : V tab w O c v x) : V tab w' O' c v x:=by
 obtain ⟨ti,h1,h2,h3,h4,h5,h6⟩:=h;refine ⟨ti,h1,h2,h3,h4,h5,fun j y ty hy ht => ?_⟩;obtain ⟨u,hu,hl⟩:=h6 j y ty hy ht;exact ⟨u,hu,hl.mono hs⟩
theorem TI.t_9 {ti : TI} {c : TypeId} : (ti.isS = false → (ti.lv c).length = 1):=by
 intro h;unfold TI.isS at h;unfold TI.lv;split at h
 ·cases h
 ·rfl
theorem At.mono {tab : Tab} {w w' : World} {O O' : Nat → Prop} (hs : Stays w w' O O') {c : TypeId} {a : Go.Addr} {x : T} (h : At tab w O c a x) (hlv : ∀ ti,tab.at c = some (c,ti) → (ti.lv c).length = ti.cells ∧ 0 < ti.cells) :
  At tab w' O' c a x:=by
 obtain ⟨ti,h1,h2,h5,ho,h6⟩:=h;obtain ⟨hl,hp⟩:=hlv ti h1;have hb : a.block < w.heap.size:=by
  obtain ⟨u,hu,-⟩:=h6 0 (x.leaves[0]'(by omega)) ((ti.lv c)[0]'(by omega)) (by simp) (by simp)
  have:=h_H hu
  rwa [b_F] at this
 refine ⟨ti,h1,h2,h5,(hs _ hb ho).2,fun j y ty hy ht => ?_⟩;obtain ⟨u,hu,hl⟩:=h6 j y ty hy ht;exact ⟨u,hs.cell hu (by rw [b_F];exact ho),hl.mono hs⟩
theorem Own.mono {tab : Tab} {w w' : World} {O O' : Nat → Prop} (hs : Stays w w' O O') {c : TypeId} {v : Value} {g : Option Nat} {xs : List T} (h : Own tab w O c v g xs)
  (hg : ∀ b,g = some b → w'.heap[b]? = w.heap[b]?) : Own tab w' O' c v g xs:=by
 obtain ⟨ti,e,ce,te,h1,h2,h3,hp,h⟩:=h;refine ⟨ti,e,ce,te,h1,h2,h3,hp,?_⟩
 rcases h with h | ⟨b,cap,cs,hgb,hv,hh,hcap,hm,hsz,hel⟩
 ·exact .inl h
 ·refine .inr ⟨b,cap,cs,hgb,hv,by rw [hg b hgb];exact hh,hcap,hm,hsz,fun j x hx => ?_⟩
  obtain ⟨k1,k2,k3⟩:=hel j x hx;refine ⟨k1,k2,fun n y ty hy ht => ?_⟩;obtain ⟨u,hu,hl⟩:=k3 n y ty hy ht;exact ⟨u,hu,hl.mono hs⟩
def noSl : Value → Bool
 | .slice (some _) _ _ => false
 | _ => true
structure TOk (P : Program) (tab : Tab) (t c : TypeId) (ti : TI) : Prop where
 self : tab.at c = some (c,ti)
 info : ∃ i z,P.info? t = some i ∧ i.size = ti.cells ∧ i.bytes = ti.bytes ∧ i.zero = some z ∧ (∀ w O,V tab w O c z ti.zero) ∧ z.cells.all noSl = true
 und : ∃ d,P.underlying t = some d ∧ match ti.k,d with
  | .int k,.int k' => k = k'
  | .bool,.bool | .str,.string => True
  | .sl e,.slice e' => e = e' ∧ ∃ ce te,tab.at e = some (ce,te)
  | .st fs,.struct fa => fs.length = fa.size ∧ ∀ (j off cf : Nat),fs[j]? = some (off,cf) → ∃ f tf,fa[j]? = some f ∧ f.offset = off ∧ tab.at f.type = some (cf,tf) ∧
    0 < tf.cells ∧ (ti.leaves.drop off).take tf.cells = tf.lv cf ∧ off + tf.cells ≤ ti.cells
  | .ptr e,.pointer e' => e = e'
  | .fn,.func .. | .ifc,.interface _ => True
  | _,_ => False
 len : (ti.lv c).length = ti.cells
 pos : 0 < ti.cells
 leaf : ∀ ty ∈ ti.lv c,∃ t1,tab.at ty = some (ty,t1) ∧ t1.isS = false
def Good (P : Program) (tab : Tab) : Prop:=∀ t c ti,tab.at t = some (c,ti) → TOk P tab t c ti
theorem Good.lv {P : Program} {tab : Tab} (h : Good P tab) {c : TypeId} : ∀ ti,tab.at c = some (c,ti) → (ti.lv c).length = ti.cells ∧ 0 < ti.cells :=
 fun ti hc => ⟨(h c c ti hc).len,(h c c ti hc).pos⟩
section
variable {P : Program} {tab : Tab} (hG : Good P tab) {fr : Fr} {tm tm' : Array Value} {w w' : World} {σ σ' : St} {γ γ' : Key → Option Nat}
theorem b_q (p : Path) (h : ∀ s b,(s,b) ∈ p → σ'.get (a_ s) = σ.get (a_ s)) : σ'.Holds p ↔ σ.Holds p:=by
 induction p with
 | nil => exact Iff.rfl
 | cons x r ih =>
  obtain ⟨s,b⟩:=x;have h1 : σ'.truth s = σ.truth s:=by unfold St.truth;rw [h s b (by simp)]
  have h2:=ih (fun s' b' hm => h s' b' (by simp [hm]));simp only [St.Holds,h1,h2]
def AV.home : AV → Option (Key × Nat)
 | .alias h tag _ _ _ => some (h,tag)
 | .eptr h tag _ _ => some (h,tag)
 | .ptr s tag _ => some (a_ s,tag)
 | .tcp s tag => some (a_ s,tag)
 | _ => none
def c_I (σ σ' : St) (val val' : Key → Option Value) (γ γ' : Key → Option Nat) (h : Key) (tag : Nat) : Prop :=
 (∀ c xs,σ'.get h = some ⟨[],.own c tag xs⟩ → val' h = val h ∧ ∃ xs0,σ.get h = some ⟨[],.own c tag xs0⟩ ∧ xs0.length = xs.length) ∧
 (∀ c n,σ'.get h = some ⟨[],.box c tag n⟩ → γ' h = γ h ∧ ∃ n0,σ.get h = some ⟨[],.box c tag n0⟩) ∧
 (∀ p,σ'.get h = some ⟨p,.tup tag⟩ → val' h = val h ∧ ∃ p0,σ.get h = some ⟨p0,.tup tag⟩)
theorem AVR.keep (hG : Good P tab) {O O' : Nat → Prop} (hs : Stays w w' O O') {val val' : Key → Option Value} {k : Key} {v : Value} {a : AV} (h : AVR tab w O σ val γ k v a)
  (hgk : γ' k = γ k) (hblk : ∀ b,γ k = some b → (∀ c tag xs,a = .own c tag xs → w'.heap[b]? = w.heap[b]?) ∧
   (∀ c tag n,a = .box c tag n → ∀ cs ety,w.heap[b]? = some (.cells cs ety (0,0)) → ∃ cs',w'.heap[b]? = some (.cells cs' ety (0,0)) ∧ cs'.size = cs.size))
  (hh : ∀ h tag,a.home = some (h,tag) → c_I σ σ' val val' γ γ' h tag) : AVR tab w' O' σ' val' γ' k v a:=by
 cases a with
 | u => trivial
 | t c x => exact V.mono hs h
 | own c tag xs =>
  simp only [AVR] at h ⊢;rw [hgk];exact h.mono hs (fun b hb => (hblk b hb).1 c tag xs rfl)
 | box c tag n =>
  obtain ⟨b,cs,ety,hb,hv,hheap,hsz⟩:=h;obtain ⟨cs',hh',hsz'⟩:=(hblk b hb).2 c tag n rfl cs ety hheap;exact ⟨b,cs',ety,by rw [hgk];exact hb,hv,hh',by omega⟩
 | alias h0 tag c off len =>
  intro c' xs hget;obtain ⟨hval,xs0,hold,hlen⟩:=(hh h0 tag rfl).1 c' xs hget;obtain ⟨hc,hv,h1,h2⟩:=h c' xs0 hold;exact ⟨hc,hv,by rw [hval];exact h1,by rw [← hlen];exact h2⟩
 | ptr s tag c =>
  intro cb n hget;obtain ⟨hval,n0,hold⟩:=(hh (a_ s) tag rfl).2.1 cb n hget;obtain ⟨b,h1,h2⟩:=h cb n0 hold;exact ⟨b,by rw [hval];exact h1,h2⟩
 | eptr h0 tag i c =>
  intro c' xs hget;obtain ⟨hval,xs0,hold,hlen⟩:=(hh h0 tag rfl).1 c' xs hget;obtain ⟨hi,b,cap,ti,e,ce,te,h1,h2,h3,h4,h5⟩:=h c' xs0 hold;exact ⟨by omega,b,cap,ti,e,ce,te,by rw [hval,← hlen];exact h1,h2,h3,h4,h5⟩
 | pl c x off =>
  obtain ⟨a,h1,h2⟩:=h;exact ⟨a,h1,h2.mono hs hG.lv⟩
 | tup n => exact h
 | tcp s tag =>
  intro p hget;obtain ⟨hval,p0,hold⟩:=(hh (a_ s) tag rfl).2.2 p hget;rw [hval];exact h p0 hold
theorem Rel.step (hG : Good P tab) (h : Rel tab fr tm w σ γ) (W : Key → Prop)
  (hos : w'.os = w.os) (htape : w'.tape = w.tape) (hout : w'.output = w.output) (hsize : w.heap.size ≤ w'.heap.size)
  (hold : ∀ b,b < fr.B → ¬ fr.E b → w'.heap[b]? = w.heap[b]?)
  (hmem : Stays w w' (Ob fr γ) (Ob fr γ'))
  (hinj : ∀ k k' b,γ' k = some b → γ' k' = some b → k = k')
  (hblk : ∀ k b,γ' k = some b → b < w'.heap.size ∧ ¬ fr.A b ∧ (b < fr.B → fr.E b))
  (hcel : ∀ s n e,σ'.get (cell s n) = some e → ∃ c tag m,σ'.get (a_ s) = some ⟨[],.box c tag m⟩)
  (hcmp : ∀ s j e,σ'.get (comp s j) = some e → ∃ p n,σ'.get (a_ s) = some ⟨p,.tup n⟩)
  (hsame : ∀ k,¬ W k → σ'.get k = σ.get k)
  (hkeep : ∀ k e,¬ W k → σ.get k = some e → s_ tm' w' γ' k = s_ tm w γ k ∧ γ' k = γ k ∧
   (∀ s b,(s,b) ∈ e.path → ¬ W (a_ s)) ∧
   (∀ b,γ k = some b → (∀ c tag xs,e.av = .own c tag xs → w'.heap[b]? = w.heap[b]?) ∧
    (∀ c tag n,e.av = .box c tag n → ∀ cs ety,w.heap[b]? = some (.cells cs ety (0,0)) → ∃ cs',w'.heap[b]? = some (.cells cs' ety (0,0)) ∧ cs'.size = cs.size)) ∧
   (∀ h tag,e.av.home = some (h,tag) → W h → c_I σ σ' (s_ tm w γ) (s_ tm' w' γ') γ γ' h tag) ∧
   (∀ h tag,e.av.home = some (h,tag) → ¬ W h → σ.get h ≠ none))
  (hnew : ∀ k e,W k → σ'.get k = some e → ∃ v,s_ tm' w' γ' k = some v ∧ (σ'.Holds e.path → AVR tab w' (Ob fr γ') σ' (s_ tm' w' γ') γ' k v e.av) ∧ (¬ σ'.Holds e.path → v = undef)) :
  Rel tab fr tm' w' σ' γ' where
 os:=hos.trans h.os
 tape:=htape.trans h.tape
 output:=hout.trans h.output
 size:=Nat.le_trans h.size hsize
 old b hb he:=(hold b hb he).trans (h.old b hb he)
 low:=h.low
 inj:=hinj
 blk:=hblk
 cel:=hcel
 cmp:=hcmp
 ent k e hk:=by
  by_cases hw : W k
  ·exact hnew k e hw hk
  ·rw [hsame k hw] at hk
   obtain ⟨v,hv,h1,h2⟩:=h.ent k e hk;obtain ⟨k1,k2,k3,k4,k5,k6⟩:=hkeep k e hw hk;have hH : σ'.Holds e.path ↔ σ.Holds e.path:=b_q e.path fun s b hm => hsame _ (k3 s b hm)
   refine ⟨v,by rw [k1];exact hv,fun hh => ?_,fun hh => h2 (fun q => hh (hH.2 q))⟩;refine (h1 (hH.1 hh)).keep hG hmem k2 k4 ?_;intro h0 tag hhome
   by_cases hw0 : W h0
   ·exact k5 h0 tag hhome hw0
   ·have hg:=hsame h0 hw0
    have hne:=k6 h0 tag hhome hw0;obtain ⟨e0,he0⟩:=Option.ne_none_iff_exists'.1 hne;obtain ⟨j1,j2,-⟩:=hkeep h0 e0 hw0 he0;exact ⟨fun c xs hx => ⟨j1,xs,by rw [← hg];exact hx,rfl⟩,fun c n hx => ⟨j2,n,by rw [← hg];exact hx⟩,fun p hx => ⟨j1,p,by rw [← hg];exact hx⟩⟩
end
def AV.a_C : AV → Option Nat
 | .own _ tag _ => some tag
 | .box _ tag _ => some tag
 | .alias _ tag _ _ _ => some tag
 | .eptr _ tag _ _ => some tag
 | .ptr _ tag _ => some tag
 | .tup tag => some tag
 | .tcp _ tag => some tag
 | _ => none
def Old (D : Nat → Prop) (tag : Nat) : Prop:=tag = 0 ∨ ∃ j,D j ∧ tag = j + 1
structure Wf (C : Ctx) (D : Nat → Prop) (σ : St) : Prop where
 tags : ∀ k e tag,σ.get k = some e → e.av.a_C = some tag → Old D tag
 dom : ∀ k e h tag,σ.get k = some e → e.av.home = some (h,tag) → σ.get h ≠ none
 paths : ∀ k e s b,σ.get k = some e → (s,b) ∈ e.path → a_w C s = false ∧ ∃ q c x,σ.get (a_ s) = some ⟨q,.t c x⟩
def setG (γ : Key → Option Nat) (k : Key) (g : Option Nat) : Key → Option Nat:=fun k' => if k' = k then g else γ k'
theorem a_e (γ : Key → Option Nat) (k : Key) (g : Option Nat) : setG γ k g k = g:=by simp [setG]
theorem O_ (γ : Key → Option Nat) {k k' : Key} (g : Option Nat) (h : k' ≠ k) : setG γ k g k' = γ k' := by simp [setG,h]
theorem J_ {s t : Nat} : a_ s = a_ t ↔ s = t:=by simp [a_]
theorem f_ {s t c : Nat} : a_ s ≠ cell t c:=by simp [a_,cell]
theorem x_ {s t c : Nat} : a_ s ≠ comp t c:=by simp [a_,comp]
theorem L_ {s c t j : Nat} : cell s c ≠ comp t j:=by simp [cell,comp]
theorem c_f {s c t d : Nat} : cell s c = cell t d ↔ s = t ∧ c = d:=by simp [cell]
theorem b_T {s c t d : Nat} : comp s c = comp t d ↔ s = t ∧ c = d:=by simp [comp]
def ev (tm : Array Value) (x : Operand) : Value:=Act.eval ⟨tm,[]⟩ x
section
variable {P : Program} {C : Ctx} {fr : Fr} {tm : Array Value} {w : World} {σ : St} {γ : Key → Option Nat} {D : Nat → Prop}
theorem i_ (s : Nat) : s_ tm w γ (a_ s) = tm[s]? := by simp [s_,a_]
theorem b_8 {tab : Tab} {w : World} {O : Nat → Prop} {c : TypeId} {ti : TI} {v : Value} {x : T} (h : tab.at c = some (c,ti)) (hs : ti.isS = false) (hc : ti.cells = 1)
  (hx : x.isG = false) (hv : isAgg v = false) (hl : L tab w O c v x) : V tab w O c v x:=by
 have hcells : v.cells = #[v]:=by cases v <;> first | rfl | simp [isAgg] at hv
 have hleaves : x.leaves = [x]:=by cases x <;> first | rfl | simp [T.isG] at hx
 have hlv : ti.lv c = [c]:=by
  unfold TI.lv;unfold TI.isS at hs;split
  ·rename_i fs hk;simp [hk] at hs
  ·rfl
 refine ⟨ti,h,by rw [hx,hs],by rw [hv,hs],by rw [hcells,hc];rfl,by rw [hleaves,hc];rfl,fun j y ty hy ht => ?_⟩;rw [hleaves] at hy;rw [hlv] at ht;rw [hcells]
 cases j with
 | zero =>
  simp at hy ht;subst hy;subst ht;exact ⟨v,by simp,hl⟩
 | succ j => simp at hy
theorem b_Q {tab : Tab} {w : World} {O : Nat → Prop} {c : TypeId} {ti : TI} {v : Value} {x : T} (h : tab.at c = some (c,ti)) (hs : ti.isS = false)
  (hv : V tab w O c v x) : L tab w O c v x ∧ x.isG = false ∧ isAgg v = false:=by
 obtain ⟨ti',h1,h2,h3,h4,h5,h6⟩:=hv;rw [h] at h1;simp only [Option.some.injEq,Prod.mk.injEq] at h1;obtain ⟨-,rfl⟩:=h1;rw [hs] at h2 h3;have hcells : v.cells = #[v]:=by cases v <;> first | rfl | simp [isAgg] at h3
 have hleaves : x.leaves = [x]:=by cases x <;> first | rfl | simp [T.isG] at h2
 have hlv : ti.lv c = [c]:=by
  unfold TI.lv;unfold TI.isS at hs;split
  ·rename_i fs hk;simp [hk] at hs
  ·rfl
 obtain ⟨u,hu,hl⟩:=h6 0 x c (by rw [hleaves];rfl) (by rw [hlv];rfl);rw [hcells] at hu;simp at hu;subst hu;exact ⟨hl,h2,h3⟩
theorem U_ (hG : Good P C.tab) {c : TypeId} {ti : TI} (h : C.tab.at c = some (c,ti)) (hs : ti.isS = false) : ti.cells = 1:=by
 have:=(hG c c ti h).len
 rw [TI.t_9 hs] at this;exact this.symm
theorem o_M (hG : Good P C.tab) {w : World} {O : Nat → Prop} {ty c : TypeId} {ti : TI} (h : C.tab.at ty = some (c,ti)) {v : Value} {x : T} (hf : ti.k.fits v = true) (hx : i_A v = some x) :
  V C.tab w O c v x:=by
 have hc:=(hG ty c ti h).self;have mk : ∀ {x : T},ti.isS = false → x.isG = false → isAgg v = false → L C.tab w O c v x → V C.tab w O c v x :=
  fun hs hx hv hl => b_8 hc hs (U_ hG hc hs) hx hv hl
 unfold i_A at hx
 cases v with
 | int k n =>
  simp only at hx;split at hx
  ·rename_i hw
   simp only [Option.some.injEq] at hx;subst hx;cases hk : ti.k <;> simp [hk,K.fits] at hf
   subst hf;exact mk (by simp [TI.isS,hk]) rfl rfl (.int hc hk (of_decide_eq_true hw))
  ·cases hx
 | bool b =>
  simp only [Option.some.injEq] at hx;subst hx;cases hk : ti.k <;> simp [hk,K.fits] at hf
  exact mk (by simp [TI.isS,hk]) rfl rfl (.bool hc hk)
 | string s =>
  simp only at hx;split at hx
  ·rename_i hw
   simp only [Option.some.injEq] at hx;subst hx;cases hk : ti.k <;> simp [hk,K.fits] at hf
   exact mk (by simp [TI.isS,hk]) rfl rfl (.str hc hk (of_decide_eq_true hw))
  ·cases hx
 | pointer a =>
  cases a with
  | none =>
   simp only [Option.some.injEq] at hx;subst hx;cases hk : ti.k <;> simp [hk,K.fits] at hf
   exact mk (by simp [TI.isS,hk]) rfl rfl (.ptr hc hk)
  | some a => simp at hx
 | nilIface =>
  simp only [Option.some.injEq] at hx;subst hx;cases hk : ti.k <;> simp [hk,K.fits] at hf
  exact mk (by simp [TI.isS,hk]) rfl rfl (.ifc hc hk)
 | nilFunc =>
  simp only [Option.some.injEq] at hx;subst hx;cases hk : ti.k <;> simp [hk,K.fits] at hf
  exact mk (by simp [TI.isS,hk]) rfl rfl (.fn hc hk)
 | _ => simp at hx
theorem e_C {x y : Bool} (h : j_c x y = true) : x = y:=by cases x <;> cases y <;> simp [j_c] at h ⊢
theorem o_6 {p : Path} {s : Nat} {b : Bool} (h : memP p s b = true) : (s,b) ∈ p:=by
 induction p with
 | nil => simp [memP] at h
 | cons x r ih =>
  obtain ⟨j,w⟩:=x;simp only [memP] at h;split at h
  ·rename_i h1
   have hj:=Nat.eq_of_beq_eq_true h1;split at h
   ·rename_i h2
    have:=e_C h2
    subst hj;subst this;simp
   ·exact List.mem_cons_of_mem _ (ih h)
  ·exact List.mem_cons_of_mem _ (ih h)
theorem m_w {p : Path} (h : σ.Holds p) {s : Nat} {b : Bool} (hm : (s,b) ∈ p) : σ.truth s = b:=by
 induction p with
 | nil => simp at hm
 | cons x r ih =>
  obtain ⟨j,w⟩:=x;simp only [St.Holds] at h
  rcases List.mem_cons.1 hm with e | e
  ·simp only [Prod.mk.injEq] at e
   obtain ⟨rfl,rfl⟩:=e;exact h.1
  ·exact ih h.2 e
theorem o_s {p : Path} (h : ∀ s b,(s,b) ∈ p → σ.truth s = b) : σ.Holds p:=by
 induction p with
 | nil => trivial
 | cons x r ih =>
  obtain ⟨j,w⟩:=x;exact ⟨h j w (by simp),ih fun s b hm => h s b (by simp [hm])⟩
theorem s_x {q p : Path} (h : Path.sub q p = true) : ∀ x ∈ q,x ∈ p:=by
 induction q with
 | nil => simp
 | cons x r ih =>
  obtain ⟨j,w⟩:=x;simp only [Path.sub] at h;split at h
  ·rename_i h1
   intro y hy
   rcases List.mem_cons.1 hy with rfl | hy
   ·exact o_6 h1
   ·exact ih h y hy
  ·cases h
theorem g_W {q p : Path} (h : Path.sub q p = true) (hp : σ.Holds p) : σ.Holds q :=
 o_s fun _ _ hm => m_w hp (s_x h _ hm)
inductive OpdR (C : Ctx) (fr : Fr) (tm : Array Value) (w : World) (σ : St) (γ : Key → Option Nat) (p : Path) (ty : TypeId) (x : Operand) : Option (Key × Path) → AV → Prop where
 | tmp (s : Nat) (e : Ent) (hx : x = .tmp s) (he : σ.get (a_ s) = some e) (hsub : e.path.sub p = true) (hr : AVR C.tab w (Ob fr γ) σ (s_ tm w γ) γ (a_ s) (ev tm x) e.av) :
   OpdR C fr tm w σ γ p ty x (some (a_ s,e.path)) e.av
 | const (c : TypeId) (y : T) (hx : ∀ s,x ≠ .tmp s) (hv : V C.tab w (Ob fr γ) c (ev tm x) y) : OpdR C fr tm w σ γ p ty x none (.t c y)
 | nil (c e : TypeId) (ti : TI) (hn : ∀ s,x ≠ .tmp s) (hx : ev tm x = .slice none 0 0) (ht : C.tab.at ty = some (c,ti)) (hc : C.tab.at c = some (c,ti)) (hk : ti.k = .sl e) :
   OpdR C fr tm w σ γ p ty x none (.own c 0 [])
theorem p_e (hG : Good P C.tab) (h : Rel C.tab fr tm w σ γ) (p : Path) (hp : σ.Holds p) (x : Operand) (ty : TypeId) (f : Option (Key × Path) → AV → R) :
  (opnd C p x ty f).run σ = .bad ∨ ∃ ko a,(opnd C p x ty f).run σ = (f ko a).run σ ∧ OpdR C fr tm w σ γ p ty x ko a:=by
 cases x with
 | tmp s =>
  simp only [opnd,Rd.run]
  cases he : σ.get (a_ s) with
  | none => exact .inl rfl
  | some e =>
   simp only
   cases hs : e.path.sub p with
   | false => exact .inl rfl
   | true =>
    refine .inr ⟨_,_,rfl,?_⟩;obtain ⟨v,hv,h1,-⟩:=h.ent _ e he;rw [i_] at hv;have hev : ev tm (.tmp s) = v:=by
     simp only [ev,Act.eval];rw [Array.getD_eq_getD_getElem?,hv];rfl
    exact .tmp s e rfl he hs (by rw [hev];exact h1 (g_W hs hp))
 | const v =>
  simp only [opnd]
  cases ht : C.tab.at ty with
  | none => exact .inl rfl
  | some r =>
   obtain ⟨c,ti⟩:=r;simp only
   cases hn : b_3 v with
   | true =>
    simp only
    cases hk : ti.k.elem with
    | none => exact .inl rfl
    | some e =>
     refine .inr ⟨_,_,rfl,?_⟩;have hk' : ti.k = .sl e:=by cases hh : ti.k <;> simp [hh,K.elem] at hk;rw [hk]
     have hv : v = .slice none 0 0:=by
      unfold b_3 at hn;split at hn
      ·rfl
      ·cases hn
     subst hv;exact .nil c e ti (by simp) rfl ht (hG ty c ti ht).self hk'
   | false =>
    simp only
    cases hf : ti.k.fits v with
    | false => exact .inl rfl
    | true =>
     simp only
     cases hx : i_A v with
     | none => exact .inl rfl
     | some y =>
      exact .inr ⟨_,_,rfl,.const c y (by simp) (by exact o_M hG ht hf hx)⟩
 | global g => exact .inl rfl
 | func n =>
  simp only [opnd]
  cases ht : C.tab.at ty with
  | none => exact .inl rfl
  | some r =>
   obtain ⟨c,ti⟩:=r;simp only;split
   ·rename_i hk
    refine .inr ⟨_,_,rfl,.const c _ (by simp) ?_⟩;have hc:=(hG ty c ti ht).self;have hs : ti.isS = false:=by simp [TI.isS,hk]
    exact b_8 hc hs (U_ hG hc hs) rfl rfl (.fnc hc hk rfl (fun _ => default) (fun _ => .u) (fun _ => 0) (fun _ => default) (fun _ _ => undef) (fun j x hj => by simp at hj) (fun j n y hj => by simp at hj) (fun j n y ty hj => by simp at hj))
   ·exact .inl rfl
end
section
variable {P : Program} {C : Ctx} {fr : Fr} {tm : Array Value} {w : World} {σ : St} {γ : Key → Option Nat} {D : Nat → Prop}
theorem f_u {k : Key} {b : Nat} (h : Ob fr (setG γ k none) b) : Ob fr γ b:=by
 rcases h with h | ⟨k',h⟩
 ·exact .inl h
 ·unfold setG at h
  split at h
  ·cases h
  ·exact .inr ⟨k',h⟩
theorem i_f {d : Nat} {v : Value} {g : Option Nat} {k : Key} {e : Ent} (h : Rel C.tab fr tm w σ γ) (hk : σ.get k = some e) (hne : k ≠ a_ d)
  (hbox : ∀ n e',σ.get (cell d n) ≠ some e') (htup : ∀ j e',σ.get (comp d j) ≠ some e') : s_ (tm.setIfInBounds d v) w (setG γ (a_ d) g) k = s_ tm w γ k:=by
 obtain ⟨v0,hv0,-⟩:=h.ent k e hk;obtain ⟨t,a,b⟩:=k;unfold s_ at hv0 ⊢
 match t with
 | 0 =>
  simp only at hv0 ⊢
  by_cases hb : b = 0
  ·subst hb
   simp only [if_true];have : d ≠ a:=fun e => hne (by subst e;rfl)
   simp [Array.getElem?_setIfInBounds,this]
  ·simp [hb]
 | 1 =>
  simp only at hv0 ⊢;have : a_ a ≠ a_ d:=fun e' => by
   have:=J_.1 e'
   subst this;exact hbox b e (by simpa [cell] using hk)
  rw [O_ _ _ this]
 | 2 =>
  simp only at hv0 ⊢;have : d ≠ a:=fun e' => by
   subst e';exact htup b e (by simpa [comp] using hk)
  simp [Array.getElem?_setIfInBounds,this]
 | n + 3 => rfl
theorem m_ {k n : Key} {v : Ent} (h : n ≠ k) : (σ.put k v).get n = σ.get n:=by rw [St.e_7,if_neg (Ne.symm h)]
theorem j_ {k : Key} {v : Ent} : (σ.put k v).get k = some v:=by rw [St.e_7,if_pos rfl]
theorem o_c {k : Key} (h : ∃ q c x,σ.get k = some ⟨q,.t c x⟩) : σ.get k ≠ none:=by
 obtain ⟨q,c,x,h⟩:=h;rw [h];simp
theorem Rel.f_k (hG : Good P C.tab) (h : Rel C.tab fr tm w σ γ) (hwf : Wf C D σ) {d : Nat} {v : Value} {p : Path} {a : AV} (hd : d < tm.size)
  (habs : σ.get (a_ d) = none)
  (hp : ∀ s b,(s,b) ∈ p → a_w C s = false ∧ ∃ q c x,σ.get (a_ s) = some ⟨q,.t c x⟩)
  (hhome : ∀ h tag,a.home = some (h,tag) → σ.get h ≠ none) (htag : ∀ tag,a.a_C = some tag → Old D tag)
  (hval : σ.Holds p → AVR C.tab w (Ob fr γ) σ (s_ tm w γ) (setG γ (a_ d) none) (a_ d) v a) (hnot : ¬ σ.Holds p → v = undef) :
  Rel C.tab fr (tm.setIfInBounds d v) w (σ.put (a_ d) ⟨p,a⟩) (setG γ (a_ d) none) ∧ Wf C D (σ.put (a_ d) ⟨p,a⟩):=by
 have hbox : ∀ n e',σ.get (cell d n) ≠ some e' := fun n e' he => by
  obtain ⟨c,tag,m,hb⟩:=h.cel d n e' he;rw [habs] at hb;cases hb
 have htup : ∀ j e',σ.get (comp d j) ≠ some e' := fun j e' he => by
  obtain ⟨q,m,hb⟩:=h.cmp d j e' he;rw [habs] at hb;cases hb
 have hne : ∀ {k : Key},σ.get k ≠ none → k ≠ a_ d:=fun hk e => hk (by rw [e];exact habs)
 have hstay : Stays w w (Ob fr γ) (Ob fr (setG γ (a_ d) none)):=fun b _ ho => ⟨rfl,fun hb => ho (f_u hb)⟩
 have hH : (σ.put (a_ d) ⟨p,a⟩).Holds p ↔ σ.Holds p:=b_q p fun s b hm => m_ (hne (o_c (hp s b hm).2))
 have hkept : ∀ h0 tag,σ.get h0 ≠ none → ∀ γ0 γ1 : Key → Option Nat,(γ1 h0 = γ0 h0) → c_I σ (σ.put (a_ d) ⟨p,a⟩) (s_ tm w γ) (s_ (tm.setIfInBounds d v) w (setG γ (a_ d) none)) γ0 γ1 h0 tag:=by
  intro h0 tag hex γ0 γ1 hγ;have hg:=m_ (σ:=σ) (v:=⟨p,a⟩) (hne hex);refine ⟨fun c xs hx => ?_,fun c n hx => ⟨hγ,n,by rw [← hg];exact hx⟩,fun p hx => ?_⟩
  ·rw [hg] at hx
   exact ⟨i_f h hx (hne hex) hbox htup,xs,hx,rfl⟩
  ·rw [hg] at hx
   exact ⟨i_f h hx (hne hex) hbox htup,p,hx⟩
 constructor
 ·refine Rel.step hG h (fun k => k = a_ d) rfl rfl rfl (Nat.le_refl _) (fun _ _ _ => rfl) hstay ?_ ?_ ?_ ?_ (fun k hk => m_ hk) ?_ ?_
  ·intro k k' b hk hk'
   unfold setG at hk hk';split at hk <;> split at hk'
   ·cases hk
   ·cases hk
   ·cases hk'
   ·exact h.inj k k' b hk hk'
  ·intro k b hk
   unfold setG at hk;split at hk
   ·cases hk
   ·exact h.blk k b hk
  ·intro s n e he
   rw [m_ (by exact fun e => f_ e.symm)] at he;obtain ⟨c,tag,m,hb⟩:=h.cel s n e he;exact ⟨c,tag,m,by rw [m_ (hne (by rw [hb];simp))];exact hb⟩
  ·intro s n e he
   rw [m_ (by exact fun e => x_ e.symm)] at he;obtain ⟨q,m,hb⟩:=h.cmp s n e he;exact ⟨q,m,by rw [m_ (hne (by rw [hb];simp))];exact hb⟩
  ·intro k e hk he
   refine ⟨i_f h he hk hbox htup,O_ _ _ hk,fun s b hm e' => o_c (hwf.paths k e s b he hm).2 (by rw [e'];exact habs),fun b hb => ⟨fun _ _ _ _ => rfl,fun _ _ _ _ cs ety hh => ⟨cs,hh,rfl⟩⟩,?_,?_⟩
   ·intro h0 tag hh hw0
    exact absurd (hwf.dom k e h0 tag he hh) (by rw [hw0];exact fun q => q habs)
   ·intro h0 tag hh _
    exact hwf.dom k e h0 tag he hh
  ·intro k e hk he
   subst hk;rw [j_] at he;simp only [Option.some.injEq] at he;subst he;refine ⟨v,by rw [i_];simp [hd],fun hh => ?_,fun hh => hnot fun q => hh (hH.2 q)⟩;refine (hval (hH.1 hh)).keep hG hstay rfl (fun b hb => ?_) ?_
   ·rw [a_e] at hb;cases hb
   ·intro h0 tag hh0
    exact hkept h0 tag (hhome h0 tag hh0) _ _ rfl
 ·have key : ∀ k e,(σ.put (a_ d) ⟨p,a⟩).get k = some e → (k = a_ d ∧ e = ⟨p,a⟩) ∨ σ.get k = some e:=by
   intro k e he
   by_cases hk : k = a_ d
   ·subst hk
    rw [j_] at he;simp only [Option.some.injEq] at he;exact .inl ⟨rfl,he.symm⟩
   ·rw [m_ hk] at he
    exact .inr he
  have ex : ∀ k,σ.get k ≠ none → (σ.put (a_ d) ⟨p,a⟩).get k ≠ none:=fun k hk => by rw [m_ (hne hk)];exact hk
  refine ⟨fun k e tag he hh => ?_,fun k e h0 tag he hh => ?_,fun k e s b he hm => ?_⟩
  ·rcases key k e he with ⟨-,rfl⟩ | he
   ·exact htag tag hh
   ·exact hwf.tags k e tag he hh
  ·rcases key k e he with ⟨-,rfl⟩ | he
   ·exact ex _ (hhome h0 tag hh)
   ·exact ex _ (hwf.dom k e h0 tag he hh)
  ·rcases key k e he with ⟨-,rfl⟩ | he
   ·obtain ⟨q1,q,c,x,q2⟩:=hp s b hm
    exact ⟨q1,q,c,x,by rw [m_ (hne (by rw [q2];simp))];exact q2⟩
   ·obtain ⟨q1,q,c,x,q2⟩:=hwf.paths k e s b he hm
    exact ⟨q1,q,c,x,by rw [m_ (hne (by rw [q2];simp))];exact q2⟩
def After (C : Ctx) (fr : Fr) (D : Nat → Prop) (K : St → Prop) : Act → World → Prop :=
 fun a' w' => a'.defers = [] ∧ a'.tmps.size = C.nt ∧ ∃ σ' γ',K σ' ∧ Rel C.tab fr a'.tmps w' σ' γ' ∧ Wf C D σ'
theorem After.mono {K K' : St → Prop} (hK : ∀ σ,K σ → K' σ) {D' : Nat → Prop} (hD : ∀ j,D j → D' j) {a : Act} {w : World} (h : After C fr D K a w) : After C fr D' K' a w:=by
 obtain ⟨h1,h2,σ',γ',h3,h4,h5⟩:=h;exact ⟨h1,h2,σ',γ',hK _ h3,h4,⟨fun k e tag he hh => (h5.tags k e tag he hh).imp id fun ⟨j,hj,e⟩ => ⟨j,hD j hj,e⟩,h5.dom,h5.paths⟩⟩
theorem a_1 {o : Oper} {d : Nat} {v : Value} {w' : World} {K : Act → World → Prop} {Q : Exit → Act → World → Prop} (hrun : (execOp (Act.eval ⟨tm,[]⟩) o).run P w = .ok (.value v) w')
  (hdst : o.dst = some d) (hK : K ⟨tm.setIfInBounds d v,[]⟩ w') : o.wp P ⟨tm,[]⟩ w K Q:=by
 unfold Oper.wp;rw [hrun];simp only [Oper.upon,Act.put,hdst];exact hK
theorem m_n (d : Option Nat) (p : Path) (f : Nat → R) : (a_a C d p f).run σ = .bad ∨ ∃ n,d = some n ∧ n < C.nt ∧ True ∧ σ.get (a_ n) = none ∧ (a_a C d p f).run σ = (f n).run σ:=by
 cases d with
 | none => exact .inl rfl
 | some n =>
  simp only [a_a]
  cases hn : decide (n < C.nt) with
  | false => exact .inl rfl
  | true =>
   simp only [Rd.run]
   cases hg : σ.get (a_ n) with
   | none => exact .inr ⟨n,rfl,of_decide_eq_true hn,trivial,hg,rfl⟩
   | some e => exact .inl rfl
theorem a_P (hG : Good P C.tab) (h : Rel C.tab fr tm w σ γ) (hwf : Wf C D σ) (hsz : tm.size = C.nt) {i : Nat} {o : Oper} {d : Nat} {p : Path} {a : AV} {v : Value} {Q : Exit → Act → World → Prop}
  {K : St → Prop} (hn : d < C.nt) (hdst : o.dst = some d) (habs : σ.get (a_ d) = none) (hp : σ.Holds p) (hpp : ∀ s b,(s,b) ∈ p → a_w C s = false ∧ ∃ q c x,σ.get (a_ s) = some ⟨q,.t c x⟩)
  (hrun : (execOp (Act.eval ⟨tm,[]⟩) o).run P w = .ok (.value v) w)
  (hhome : ∀ h tag,a.home = some (h,tag) → σ.get h ≠ none) (htag : ∀ tag,a.a_C = some tag → Old D tag)
  (hval : AVR C.tab w (Ob fr γ) σ (s_ tm w γ) (setG γ (a_ d) none) (a_ d) v a) (hK : K (σ.puts [(a_ d,⟨p,a⟩)])) :
  o.wp P ⟨tm,[]⟩ w (After C fr (fun j => D j ∨ j = i) K) Q:=by
 obtain ⟨h1,h2⟩:=Rel.f_k hG h hwf (by rw [hsz];exact hn) habs hpp hhome htag (fun _ => hval) (fun q => absurd hp q);refine a_1 hrun hdst (After.mono (D:=D) (fun _ q => q) (fun j => .inl) ⟨rfl,by simp [hsz],_,_,hK,h1,h2⟩)
end
def b_E (tab : Tab) (w : World) (O : Nat → Prop) (c : TypeId) (v : Value) (xs : List T) : Prop :=
 ∃ ti e ce te a cap,tab.at c = some (c,ti) ∧ ti.k = .sl e ∧ tab.at e = some (ce,te) ∧ 0 < te.cells ∧ v = .slice a xs.length cap ∧ xs.length ≤ cap ∧ cap ≤ maxLen ∧ (a = none → cap = 0) ∧
  ∀ (j : Nat) x,xs[j]? = some x → ∃ b,a = some b ∧ x.isG = te.isS ∧ x.leaves.length = te.cells ∧
   ∀ (n : Nat) y ty,x.leaves[n]? = some y → (te.lv ce)[n]? = some ty → ∃ u,w.cell? (b.add (j * te.cells + n)) = some u ∧ L tab w O ty u y
section
variable {P : Program} {C : Ctx} {fr : Fr} {tm : Array Value} {w : World} {σ : St} {γ : Key → Option Nat} {D : Nat → Prop} {tab : Tab} {O : Nat → Prop}
theorem n_w {ti : TI} {e : TypeId} (h : ti.k = .sl e) : ti.isS = false:=by simp [TI.isS,h]
theorem j_1 {ti : TI} {k : IntKind} (h : ti.k = .int k) : ti.isS = false:=by simp [TI.isS,h]
theorem h_U {ti : TI} (h : ti.k = .bool) : ti.isS = false:=by simp [TI.isS,h]
theorem e_ {c : TypeId} {r r' : TypeId × TI} (h : tab.at c = some r) (h' : tab.at c = some r') : r = r' := by rw [h] at h';exact Option.some.inj h'
theorem u_C {c : TypeId} {ti : TI} {k : IntKind} {v : Value} {y : T} (h : tab.at c = some (c,ti)) (hk : ti.k = .int k) (hv : V tab w O c v y) :
  v = .int k y.int ∧ y = .i k y.int ∧ k.wrap y.int = y.int:=by
 obtain ⟨hl,-,-⟩:=b_Q h (j_1 hk) hv
 cases hl with
 | int h' hk' hn =>
  have:=e_ h h'
  simp only [Prod.mk.injEq,true_and] at this;subst this;rw [hk] at hk';cases hk';exact ⟨rfl,rfl,hn⟩
 | bool h' hk' => have:=e_ h h';simp only [Prod.mk.injEq,true_and] at this;subst this;rw [hk] at hk';cases hk'
 | str h' hk' => have:=e_ h h';simp only [Prod.mk.injEq,true_and] at this;subst this;rw [hk] at hk';cases hk'
 | nil h' hk' => have:=e_ h h';simp only [Prod.mk.injEq,true_and] at this;subst this;rw [hk] at hk';cases hk'
 | sl h' hk' => have:=e_ h h';simp only [Prod.mk.injEq,true_and] at this;subst this;rw [hk] at hk';cases hk'
 | ptr h' hk' => have:=e_ h h';simp only [Prod.mk.injEq,true_and] at this;subst this;rw [hk] at hk';cases hk'
 | ifc h' hk' => have:=e_ h h';simp only [Prod.mk.injEq,true_and] at this;subst this;rw [hk] at hk';cases hk'
 | fn h' hk' => have:=e_ h h';simp only [Prod.mk.injEq,true_and] at this;subst this;rw [hk] at hk';cases hk'
 | fnc h' hk' => have:=e_ h h';simp only [Prod.mk.injEq,true_and] at this;subst this;rw [hk] at hk';cases hk'
theorem f_v {c : TypeId} {ti : TI} {v : Value} {y : T} (h : tab.at c = some (c,ti)) (hk : ti.k = .bool) (hv : V tab w O c v y) : v = .bool y.bool ∧ y = .b y.bool:=by
 obtain ⟨hl,-,-⟩:=b_Q h (h_U hk) hv
 cases hl with
 | bool h' hk' => exact ⟨rfl,rfl⟩
 | int h' hk' => have:=e_ h h';simp only [Prod.mk.injEq,true_and] at this;subst this;rw [hk] at hk';cases hk'
 | str h' hk' => have:=e_ h h';simp only [Prod.mk.injEq,true_and] at this;subst this;rw [hk] at hk';cases hk'
 | nil h' hk' => have:=e_ h h';simp only [Prod.mk.injEq,true_and] at this;subst this;rw [hk] at hk';cases hk'
 | sl h' hk' => have:=e_ h h';simp only [Prod.mk.injEq,true_and] at this;subst this;rw [hk] at hk';cases hk'
 | ptr h' hk' => have:=e_ h h';simp only [Prod.mk.injEq,true_and] at this;subst this;rw [hk] at hk';cases hk'
 | ifc h' hk' => have:=e_ h h';simp only [Prod.mk.injEq,true_and] at this;subst this;rw [hk] at hk';cases hk'
 | fn h' hk' => have:=e_ h h';simp only [Prod.mk.injEq,true_and] at this;subst this;rw [hk] at hk';cases hk'
 | fnc h' hk' => have:=e_ h h';simp only [Prod.mk.injEq,true_and] at this;subst this;rw [hk] at hk';cases hk'
theorem q_l {c : TypeId} {ti : TI} {v : Value} {y : T} (h : tab.at c = some (c,ti)) (hk : ti.k = .str) (hv : V tab w O c v y) : v = .string y.str ∧ y = .s y.str ∧ y.str.size ≤ maxLen:=by
 obtain ⟨hl,-,-⟩:=b_Q h (by simp [TI.isS,hk]) hv
 cases hl with
 | str h' hk' hs => exact ⟨rfl,rfl,hs⟩
 | bool h' hk' => have:=e_ h h';simp only [Prod.mk.injEq,true_and] at this;subst this;rw [hk] at hk';cases hk'
 | int h' hk' => have:=e_ h h';simp only [Prod.mk.injEq,true_and] at this;subst this;rw [hk] at hk';cases hk'
 | nil h' hk' => have:=e_ h h';simp only [Prod.mk.injEq,true_and] at this;subst this;rw [hk] at hk';cases hk'
 | sl h' hk' => have:=e_ h h';simp only [Prod.mk.injEq,true_and] at this;subst this;rw [hk] at hk';cases hk'
 | ptr h' hk' => have:=e_ h h';simp only [Prod.mk.injEq,true_and] at this;subst this;rw [hk] at hk';cases hk'
 | ifc h' hk' => have:=e_ h h';simp only [Prod.mk.injEq,true_and] at this;subst this;rw [hk] at hk';cases hk'
 | fn h' hk' => have:=e_ h h';simp only [Prod.mk.injEq,true_and] at this;subst this;rw [hk] at hk';cases hk'
 | fnc h' hk' => have:=e_ h h';simp only [Prod.mk.injEq,true_and] at this;subst this;rw [hk] at hk';cases hk'
theorem Good.elem (hG : Good P tab) {c : TypeId} {ti : TI} {e : TypeId} (h : tab.at c = some (c,ti)) (hk : ti.k = .sl e) : ∃ ce te,tab.at e = some (ce,te) ∧ 0 < te.cells ∧ tab.at ce = some (ce,te) ∧ (te.lv ce).length = te.cells:=by
 obtain ⟨d,-,hd⟩:=(hG c c ti h).und;rw [hk] at hd;cases d <;> simp at hd
 obtain ⟨-,ce,te,he⟩:=hd;exact ⟨ce,te,he,(hG e ce te he).pos,(hG e ce te he).self,(hG e ce te he).len⟩
theorem e_N (hG : Good P tab) {c : TypeId} {ti : TI} {e : TypeId} {v : Value} {y : T} (h : tab.at c = some (c,ti)) (hk : ti.k = .sl e) (hv : V tab w O c v y) :
  y = .l y.list ∧ b_E tab w O c v y.list ∧ ∀ a n cap,v = .slice (some a) n cap → 0 < y.list.length → ¬ O a.block:=by
 obtain ⟨ce,te,he,hp,-,hlv⟩:=hG.elem h hk;obtain ⟨hl,-,-⟩:=b_Q h (n_w hk) hv
 cases hl with
 | nil h' hk' =>
  refine ⟨rfl,⟨ti,e,ce,te,none,0,h,hk,he,hp,rfl,Nat.le_refl _,by simp [maxLen],fun _ => rfl,fun j x hx => by simp [T.list] at hx⟩,fun a n cap hh => by cases hh⟩
 | @sl _ ti' e' ce' te' a cap xs h' hk' he' hp' hcap hm ho vs hg hv' hl' =>
  have:=e_ h h'
  simp only [Prod.mk.injEq,true_and] at this;subst this;rw [hk] at hk';simp only [K.sl.injEq] at hk';subst hk'
  have:=e_ he he'
  simp only [Prod.mk.injEq] at this;obtain ⟨rfl,rfl⟩:=this;refine ⟨rfl,⟨ti,e,ce,te,some a,cap,h,hk,he,hp,rfl,hcap,hm,(fun q => nomatch q),fun j x hx => ⟨a,rfl,(hg j x hx).1,(hg j x hx).2,fun n y ty hy ht => ⟨vs j n,hv' j x n y hx hy,hl' j x n y ty hx hy ht⟩⟩⟩,?_⟩;intro a' n cap' hh hpos;simp only [Value.slice.injEq,Option.some.injEq] at hh;obtain ⟨rfl,-,-⟩:=hh;exact ho hpos
 | bool h' hk' => have:=e_ h h';simp only [Prod.mk.injEq,true_and] at this;subst this;rw [hk] at hk';cases hk'
 | int h' hk' => have:=e_ h h';simp only [Prod.mk.injEq,true_and] at this;subst this;rw [hk] at hk';cases hk'
 | str h' hk' => have:=e_ h h';simp only [Prod.mk.injEq,true_and] at this;subst this;rw [hk] at hk';cases hk'
 | ptr h' hk' => have:=e_ h h';simp only [Prod.mk.injEq,true_and] at this;subst this;rw [hk] at hk';cases hk'
 | ifc h' hk' => have:=e_ h h';simp only [Prod.mk.injEq,true_and] at this;subst this;rw [hk] at hk';cases hk'
 | fn h' hk' => have:=e_ h h';simp only [Prod.mk.injEq,true_and] at this;subst this;rw [hk] at hk';cases hk'
 | fnc h' hk' => have:=e_ h h';simp only [Prod.mk.injEq,true_and] at this;subst this;rw [hk] at hk';cases hk'
theorem b_E.V (hG : Good P tab) {O O' : Nat → Prop} {c : TypeId} {v : Value} {xs : List T} (h : b_E tab w O c v xs) (hO : ∀ b,O' b → O b)
  (hb : ∀ a n cap,v = .slice (some a) n cap → 0 < xs.length → ¬ O' a.block) : V tab w O' c v (.l xs):=by
 obtain ⟨ti,e,ce,te,a,cap,h1,h2,h3,hp,hv,hcap,hm,hnone,hel⟩:=h;have hst : Stays w w O O' := fun b _ hb => ⟨rfl,fun q => hb (hO b q)⟩
 refine b_8 h1 (n_w h2) (U_ (C:=⟨tab,[],0,[],[],[],[],[],[]⟩) hG h1 (n_w h2)) rfl (by rw [hv];rfl) ?_
 cases a with
 | none =>
  have hx : xs = []:=by
   cases xs with
   | nil => rfl
   | cons x r =>
    obtain ⟨b,hb,-⟩:=hel 0 x rfl;cases hb
  subst hx;have hc : cap = 0:=hnone rfl;subst hc;subst hv;exact .nil h1 h2
 | some a =>
  subst hv;refine .sl h1 h2 h3 hp hcap hm (fun hpos => hb a _ _ rfl hpos) (fun j n => (w.cell? (a.add (j * te.cells + n))).getD undef) (fun j x hx => ?_) (fun j x n y hx hy => ?_) (fun j x n y ty hx hy ht => ?_)
  ·obtain ⟨b,hb',k1,k2,-⟩:=hel j x hx
   exact ⟨k1,k2⟩
  ·obtain ⟨b,hb',k1,k2,k3⟩:=hel j x hx
   simp only [Option.some.injEq] at hb';subst hb';have hn : n < te.cells:=by rw [← k2];exact (List.getElem?_eq_some_iff.1 hy).1
   obtain ⟨u,hu,-⟩:=k3 n y ((te.lv ce)[n]'(by rw [(hG e ce te h3).len];exact hn)) hy (by simp);rw [hu];rfl
  ·obtain ⟨b,hb',k1,k2,k3⟩:=hel j x hx
   simp only [Option.some.injEq] at hb';subst hb';obtain ⟨u,hu,hl⟩:=k3 n y ty hy ht;rw [hu];exact hl.mono hst
end
section
variable {P : Program} {C : Ctx} {fr : Fr} {tm : Array Value} {w : World} {σ : St} {γ : Key → Option Nat} {D : Nat → Prop} {tab : Tab} {O : Nat → Prop}
theorem w_ {b : Nat} {cs : Array Value} {e : TypeId} {fz : Nat × Nat} (h : w.heap[b]? = some (.cells cs e fz)) (j : Nat) : w.cell? ⟨b,j,none⟩ = cs[j]? := by
 simp [World.cell?,h]
theorem Own.c_H {c : TypeId} {v : Value} {g : Option Nat} {xs : List T} (h : Own tab w O c v g xs) : b_E tab w O c v xs:=by
 obtain ⟨ti,e,ce,te,h1,h2,h3,hp,h⟩:=h
 rcases h with ⟨-,rfl,a,rfl⟩ | ⟨b,cap,cs,hgb,hv,hh,hcap,hm,hsz,hel⟩
 ·exact ⟨ti,e,ce,te,a,0,h1,h2,h3,hp,rfl,Nat.le_refl _,by simp [maxLen],fun _ => rfl,fun j x hx => by simp at hx⟩
 ·refine ⟨ti,e,ce,te,_,cap,h1,h2,h3,hp,hv,hcap,hm,(fun q => nomatch q),fun j x hx => ⟨_,rfl,(hel j x hx).1,(hel j x hx).2.1,fun n y ty hy ht => ?_⟩⟩
  obtain ⟨u,hu,hl⟩:=(hel j x hx).2.2 n y ty hy ht;refine ⟨u,?_,hl⟩;rw [a_I,Nat.zero_add,w_ hh];exact hu
theorem Sub.c_H {c : TypeId} {hv v : Value} {off len : Nat} {ys : List T} (h : b_E tab w O c hv ys) (hs : Sub tab c hv v off len ys.length) : b_E tab w O c v ((ys.drop off).take len):=by
 obtain ⟨ti,e,ce,te,a,cap,h1,h2,h3,hp,hv',hcap,hm,hnone,hel⟩:=h;obtain ⟨ti',e',ce',te',a1,cap1,a',cap',k1,k2,k3,k4,k5,k6,k7,k8,k9,k10,k11⟩:=hs;have e1:=e_ h1 k1;simp only [Prod.mk.injEq,true_and] at e1;subst e1;rw [h2] at k2;simp only [K.sl.injEq] at k2;subst k2;have e2:=e_ h3 k3;simp only [Prod.mk.injEq] at e2;obtain ⟨rfl,rfl⟩:=e2;rw [hv'] at k4;simp only [Value.slice.injEq] at k4;obtain ⟨rfl,-,rfl⟩:=k4;have hlen : ((ys.drop off).take len).length = len:=by simp;omega
 refine ⟨ti,e,ce,te,a',cap',h1,h2,h3,hp,by rw [hlen];exact k5,by omega,by omega,fun q => ?_,fun j x hx => ?_⟩
 ·have:=hnone (k10 q)
  omega
 ·have hj : j < len:=by
   have:=(List.getElem?_eq_some_iff.1 hx).1
   omega
  obtain ⟨b,hb1,hb2⟩:=k11 (by omega);have hx' : ys[off + j]? = some x:=by
   rw [List.getElem?_take,if_pos hj,List.getElem?_drop] at hx;exact hx
  obtain ⟨b',hb',q1,q2,q3⟩:=hel (off + j) x hx';rw [hb1] at hb';simp only [Option.some.injEq] at hb';subst hb';refine ⟨_,hb2,q1,q2,fun n y ty hy ht => ?_⟩;obtain ⟨u,hu,hl⟩:=q3 n y ty hy ht;refine ⟨u,?_,hl⟩;rw [f_0,← Nat.add_assoc,← Nat.add_mul];exact hu
theorem Own.freeze (hG : Good P tab) {O' : Nat → Prop} {c : TypeId} {v : Value} {g : Option Nat} {xs : List T} (h : Own tab w O c v g xs) (hO : ∀ b,O' b → O b) (hb : ∀ b,g = some b → ¬ O' b) :
  V tab w O' c v (.l xs):=by
 refine h.c_H.V hG hO ?_;intro a n cap hv hpos;obtain ⟨ti,e,ce,te,h1,h2,h3,hp,h⟩:=h
 rcases h with ⟨-,rfl,-⟩ | ⟨b,cap',cs,hgb,hv',-⟩
 ·simp at hpos
 ·rw [hv'] at hv
  simp only [Value.slice.injEq,Option.some.injEq] at hv;obtain ⟨rfl,-,-⟩:=hv;exact hb b hgb
def SeeR (tab : Tab) (w : World) (O : Nat → Prop) (c : TypeId) (v : Value) (y : T) : Prop:=V tab w O c v y ∨ ∃ xs,y = .l xs ∧ b_E tab w O c v xs
theorem a_y (h : Rel C.tab fr tm w σ γ) {k h0 : Key} {tag off len : Nat} {c c' : TypeId} {xs : List T} {v : Value}
  (ha : AVR C.tab w (Ob fr γ) σ (s_ tm w γ) γ k v (.alias h0 tag c off len)) (hh : σ.get h0 = some ⟨[],.own c' tag xs⟩) :
  c' = c ∧ b_E C.tab w (Ob fr γ) c v ((xs.drop off).take len) ∧ ∃ hv,s_ tm w γ h0 = some hv ∧ Own C.tab w (Ob fr γ) c hv (γ h0) xs ∧ Sub C.tab c hv v off len xs.length:=by
 obtain ⟨hc,hv,h1,h2⟩:=ha c' xs hh;subst hc;obtain ⟨v0,hv0,hr,-⟩:=h.ent h0 _ hh;rw [h1] at hv0;simp only [Option.some.injEq] at hv0;subst hv0;have ho : Own C.tab w (Ob fr γ) c' hv (γ h0) xs:=hr trivial;exact ⟨rfl,h2.c_H ho.c_H,hv,h1,ho,h2⟩
theorem X_ (hG : Good P C.tab) (h : Rel C.tab fr tm w σ γ) (p : Path) (hp : σ.Holds p) (x : Operand) (ty : TypeId) {f : Option (Key × Path) → AV → R} {motive : a_o → Prop}
  (hbad : motive .bad) (hok : ∀ ko a,OpdR C fr tm w σ γ p ty x ko a → motive ((f ko a).run σ)) : motive ((opnd C p x ty f).run σ):=by
 rcases p_e hG h p hp x ty f with hb | ⟨ko,a,hr,ho⟩
 ·rw [hb];exact hbad
 ·rw [hr];exact hok ko a ho
theorem N_ (h0 : Key) (tag : Nat) {f : TypeId → List T → R} {motive : a_o → Prop} (hbad : motive .bad)
  (hok : ∀ c xs,σ.get h0 = some ⟨[],.own c tag xs⟩ → motive ((f c xs).run σ)) : motive ((b_M h0 tag f).run σ):=by
 simp only [b_M,Rd.run];split
 ·rename_i c tag' xs he
  split
  ·rename_i ht
   have:=Nat.eq_of_beq_eq_true ht
   subst this;exact hok c xs he
  ·exact hbad
 ·exact hbad
theorem a_F (hG : Good P C.tab) (h : Rel C.tab fr tm w σ γ) (p : Path) (hp : σ.Holds p) (x : Operand) (ty : TypeId) {k : TypeId → T → R} {motive : a_o → Prop}
  (hbad : motive .bad) (hok : ∀ c y,SeeR C.tab w (Ob fr γ) c (ev tm x) y → motive ((k c y).run σ)) : motive ((seeT C p x ty k).run σ):=by
 unfold seeT;refine X_ hG h p hp x ty hbad ?_;intro ko a ho
 cases ho with
 | tmp s e hx he hsub hav =>
  cases hav' : e.av with
  | t c y =>
   rw [hav'] at hav;exact hok c y (.inl hav)
  | own c tag xs =>
   rw [hav'] at hav;exact hok c _ (.inr ⟨xs,rfl,Own.c_H hav⟩)
  | alias h0 tag c off len =>
   rw [hav'] at hav;exact N_ h0 tag hbad fun c' xs hh => hok c _ (.inr ⟨_,rfl,(a_y h hav hh).2.1⟩)
  | _ => exact hbad
 | const c y _ hv => exact hok c y (.inl hv)
 | nil c e ti _ hx ht hc hk =>
  refine hok c _ (.inr ⟨[],rfl,?_⟩);obtain ⟨ce,te,he,hp',-,-⟩:=hG.elem hc hk;exact ⟨ti,e,ce,te,none,0,hc,hk,he,hp',by rw [hx];rfl,Nat.le_refl _,by simp [maxLen],fun _ => rfl,fun j x hx => by simp at hx⟩
theorem o_ (d : Option Nat) (p : Path) {f : Nat → R} {motive : a_o → Prop} (hbad : motive .bad)
  (hok : ∀ n,d = some n → n < C.nt → True → σ.get (a_ n) = none → motive ((f n).run σ)) : motive ((a_a C d p f).run σ):=by
 rcases m_n (C:=C) (σ:=σ) d p f with hb | ⟨n,h1,h2,h3,h4,h5⟩
 ·rw [hb];exact hbad
 ·rw [h5];exact hok n h1 h2 h3 h4
theorem u_I {c : TypeId} {k : IntKind} (h : C.ik c = some k) : ∃ c' ti,C.tab.at c = some (c',ti) ∧ ti.k = .int k:=by
 unfold Ctx.ik Ctx.kd at h
 cases hc : C.tab.at c with
 | none => simp [hc,K.kind] at h
 | some r =>
  obtain ⟨c',ti⟩:=r;simp only [hc] at h;refine ⟨c',ti,rfl,?_⟩;cases hk : ti.k <;> simp [hk,K.kind] at h
  rw [h]
theorem i_E {c : TypeId} {e : TypeId} (h : C.el c = some e) : ∃ c' ti,C.tab.at c = some (c',ti) ∧ ti.k = .sl e:=by
 unfold Ctx.el Ctx.kd at h
 cases hc : C.tab.at c with
 | none => simp [hc,K.elem] at h
 | some r =>
  obtain ⟨c',ti⟩:=r;simp only [hc] at h;refine ⟨c',ti,rfl,?_⟩;cases hk : ti.k <;> simp [hk,K.elem] at h
  rw [h]
theorem d_a {c : TypeId} {k : K} (h : C.kd c = k) (hne : k ≠ .no) : ∃ c' ti,C.tab.at c = some (c',ti) ∧ ti.k = k:=by
 unfold Ctx.kd at h
 cases hc : C.tab.at c with
 | none => simp [hc] at h;exact absurd h.symm hne
 | some r =>
  obtain ⟨c',ti⟩:=r;simp only [hc] at h;exact ⟨c',ti,rfl,h⟩
theorem SeeR.nilp {c e : TypeId} {v : Value} {y : T} (h : SeeR C.tab w O c v y) (hk : C.kd c = .sl e) : ∃ a n cap,v = .slice a n cap ∧ (a = none → y.list = []):=by
 obtain ⟨c',ti,h1,h2⟩:=d_a hk (by simp)
 rcases h with h | ⟨xs,rfl,ti',e',ce,te,a,cap,h3,h4,-,-,hv,hle,-,hn,-⟩
 ·obtain ⟨ti',h3,-⟩:=id h
  have:=e_ h1 h3
  simp only [Prod.mk.injEq] at this;obtain ⟨rfl,rfl⟩:=this;obtain ⟨hl,-,-⟩:=b_Q h1 (by simp [TI.isS,h2]) h
  cases hl with
  | nil => exact ⟨none,0,0,rfl,fun _ => rfl⟩
  | sl => exact ⟨some _,_,_,rfl,fun q => by cases q⟩
  | int h' hk' => have:=e_ h1 h';simp only [Prod.mk.injEq,true_and] at this;subst this;rw [h2] at hk';cases hk'
  | bool h' hk' => have:=e_ h1 h';simp only [Prod.mk.injEq,true_and] at this;subst this;rw [h2] at hk';cases hk'
  | str h' hk' => have:=e_ h1 h';simp only [Prod.mk.injEq,true_and] at this;subst this;rw [h2] at hk';cases hk'
  | ptr h' hk' => have:=e_ h1 h';simp only [Prod.mk.injEq,true_and] at this;subst this;rw [h2] at hk';cases hk'
  | ifc h' hk' => have:=e_ h1 h';simp only [Prod.mk.injEq,true_and] at this;subst this;rw [h2] at hk';cases hk'
  | fn h' hk' => have:=e_ h1 h';simp only [Prod.mk.injEq,true_and] at this;subst this;rw [h2] at hk';cases hk'
  | fnc h' hk' => have:=e_ h1 h';simp only [Prod.mk.injEq,true_and] at this;subst this;rw [h2] at hk';cases hk'
 ·refine ⟨a,_,cap,hv,fun q => ?_⟩
  have : xs.length = 0:=by have:=hn q;omega
  exact List.length_eq_zero_iff.1 this
theorem SeeR.int {c : TypeId} {k : IntKind} {v : Value} {y : T} (h : SeeR C.tab w O c v y) (hk : C.ik c = some k) : v = .int k y.int ∧ y = .i k y.int ∧ k.wrap y.int = y.int:=by
 obtain ⟨c',ti,h1,h2⟩:=u_I hk
 rcases h with h | ⟨xs,-,ti',e,ce,te,a,cap,h3,h4,-⟩
 ·obtain ⟨ti',h3,-⟩:=id h
  have:=e_ h1 h3
  simp only [Prod.mk.injEq] at this;obtain ⟨rfl,rfl⟩:=this;exact u_C h1 h2 h
 ·have:=e_ h1 h3
  simp only [Prod.mk.injEq] at this;obtain ⟨rfl,rfl⟩:=this;rw [h2] at h4;cases h4
theorem SeeR.bool {c : TypeId} {v : Value} {y : T} (h : SeeR C.tab w O c v y) (hk : C.kd c = .bool) : v = .bool y.bool ∧ y = .b y.bool:=by
 obtain ⟨c',ti,h1,h2⟩:=d_a hk (by simp)
 rcases h with h | ⟨xs,-,ti',e,ce,te,a,cap,h3,h4,-⟩
 ·obtain ⟨ti',h3,-⟩:=id h
  have:=e_ h1 h3
  simp only [Prod.mk.injEq] at this;obtain ⟨rfl,rfl⟩:=this;exact f_v h1 h2 h
 ·have:=e_ h1 h3
  simp only [Prod.mk.injEq] at this;obtain ⟨rfl,rfl⟩:=this;rw [h2] at h4;cases h4
theorem SeeR.str {c : TypeId} {v : Value} {y : T} (h : SeeR C.tab w O c v y) (hk : C.kd c = .str) : v = .string y.str:=by
 obtain ⟨c',ti,h1,h2⟩:=d_a hk (by simp)
 rcases h with h | ⟨xs,-,ti',e,ce,te,a,cap,h3,h4,-⟩
 ·obtain ⟨ti',h3,-⟩:=id h
  have:=e_ h1 h3
  simp only [Prod.mk.injEq] at this;obtain ⟨rfl,rfl⟩:=this;exact (q_l h1 h2 h).1
 ·have:=e_ h1 h3
  simp only [Prod.mk.injEq] at this;obtain ⟨rfl,rfl⟩:=this;rw [h2] at h4;cases h4
theorem SeeR.slice (hG : Good P C.tab) {c : TypeId} {e : TypeId} {v : Value} {y : T} (h : SeeR C.tab w O c v y) (hk : C.el c = some e) : y = .l y.list ∧ b_E C.tab w O c v y.list:=by
 obtain ⟨c',ti,h1,h2⟩:=i_E hk
 rcases h with h | ⟨xs,rfl,h⟩
 ·obtain ⟨ti',h3,-⟩:=id h
  have:=e_ h1 h3
  simp only [Prod.mk.injEq] at this;obtain ⟨rfl,rfl⟩:=this;obtain ⟨q1,q2,-⟩:=e_N hG h1 h2 h;exact ⟨q1,q2⟩
 ·exact ⟨rfl,h⟩
theorem j_Z (hG : Good P tab) {c : TypeId} {ti : TI} {k : IntKind} {n : Int} (h : tab.at c = some (c,ti)) (hk : ti.k = .int k) (hn : k.wrap n = n) : V tab w O c (.int k n) (.i k n) :=
 b_8 h (j_1 hk) (U_ (C:=⟨tab,[],0,[],[],[],[],[],[]⟩) hG h (j_1 hk)) rfl rfl (.int h hk hn)
theorem f_4 (hG : Good P tab) {c : TypeId} {ti : TI} {b : Bool} (h : tab.at c = some (c,ti)) (hk : ti.k = .bool) : V tab w O c (.bool b) (.b b) :=
 b_8 h (h_U hk) (U_ (C:=⟨tab,[],0,[],[],[],[],[],[]⟩) hG h (h_U hk)) rfl rfl (.bool h hk)
theorem w_u8 (n : Int) : IntKind.u8.wrap n = n % 256:=by simp [IntKind.wrap,IntKind.bits,IntKind.signed]
theorem u_v (n : Int) : IntKind.u16.wrap n = n % 65536:=by simp [IntKind.wrap,IntKind.bits,IntKind.signed]
theorem o_m (n : Int) : IntKind.u32.wrap n = n % 4294967296:=by simp [IntKind.wrap,IntKind.bits,IntKind.signed]
theorem u_w (n : Int) : IntKind.u64.wrap n = n % 18446744073709551616:=by simp [IntKind.wrap,IntKind.bits,IntKind.signed]
theorem w_i8 (n : Int) : IntKind.i8.wrap n = (n + 128) % 256 - 128:=by
 simp [IntKind.wrap,IntKind.bits,IntKind.signed];split <;> omega
theorem u_t (n : Int) : IntKind.i16.wrap n = (n + 32768) % 65536 - 32768:=by
 simp [IntKind.wrap,IntKind.bits,IntKind.signed];split <;> omega
theorem u_u (n : Int) : IntKind.i32.wrap n = (n + 2147483648) % 4294967296 - 2147483648:=by
 simp [IntKind.wrap,IntKind.bits,IntKind.signed];split <;> omega
theorem s_M (n : Int) : IntKind.i64.wrap n = (n + 9223372036854775808) % 18446744073709551616 - 9223372036854775808:=by
 simp [IntKind.wrap,IntKind.bits,IntKind.signed];split <;> omega
theorem e_J (k : IntKind) (n : Int) : k.wrap (k.wrap n) = k.wrap n:=by
 cases k
 ·simp only [w_i8];omega
 ·simp only [u_t];omega
 ·simp only [u_u];omega
 ·simp only [s_M];omega
 ·simp only [w_u8];omega
 ·simp only [u_v];omega
 ·simp only [o_m];omega
 ·simp only [u_w];omega
theorem Z_ (ty : TypeId) {f : TypeId → TI → R} {motive : a_o → Prop} (hbad : motive .bad) (hok : ∀ c ti,C.tab.at ty = some (c,ti) → motive ((f c ti).run σ)) :
  motive ((d_p C ty f).run σ):=by
 unfold d_p
 cases h : C.tab.at ty with
 | none => exact hbad
 | some r => obtain ⟨c,ti⟩:=r;exact hok c ti h
end
theorem d_Q {σ : St} {p : Path} {c : Prop} (h : imp σ p c) (hp : σ.Holds p) : c:=by
 cases p with
 | nil => exact h
 | cons x r => obtain ⟨s,b⟩:=x;exact h hp
def k_y : T → Value
 | .i k n => .int k n
 | .b x => .bool x
 | _ => undef
theorem l_u (k : IntKind) (n : Int) : k.wrap n = n ↔ k.min ≤ n ∧ n ≤ k.max:=by
 cases k
 ·simp only [w_i8,IntKind.min,IntKind.max,IntKind.signed,IntKind.bits,if_true];omega
 ·simp only [u_t,IntKind.min,IntKind.max,IntKind.signed,IntKind.bits,if_true];omega
 ·simp only [u_u,IntKind.min,IntKind.max,IntKind.signed,IntKind.bits,if_true];omega
 ·simp only [s_M,IntKind.min,IntKind.max,IntKind.signed,IntKind.bits,if_true];omega
 ·simp [w_u8,IntKind.min,IntKind.max,IntKind.signed,IntKind.bits];omega
 ·simp [u_v,IntKind.min,IntKind.max,IntKind.signed,IntKind.bits];omega
 ·simp [o_m,IntKind.min,IntKind.max,IntKind.signed,IntKind.bits];omega
 ·simp [u_w,IntKind.min,IntKind.max,IntKind.signed,IntKind.bits];omega
theorem g_r (k : IntKind) : k.min ≤ 0:=by cases k <;> decide
theorem g_1 (k : IntKind) : 0 ≤ k.max:=by cases k <;> decide
theorem s_H {k : IntKind} {a : Int} (b : Int) (ha : k.wrap a = a) : k.wrap (a.tmod b) = a.tmod b:=by
 rw [l_u] at ha ⊢;have h1:=g_r k;have h2:=g_1 k;have h3:=Int.natAbs_tmod a b;have h4:=Nat.mod_le a.natAbs b.natAbs
 rcases Int.le_total 0 a with h | h
 ·have:=Int.tmod_nonneg b h
  omega
 ·have h5 : a.tmod b = -((-a).tmod b):=by rw [Int.neg_tmod];omega
  have h6:=Int.tmod_nonneg b (show (0 : Int) ≤ -a by omega);omega
theorem r_U {k : IntKind} {a : Int} (n : Nat) (ha : k.wrap a = a) : k.wrap (a.fdiv (2 ^ n)) = a.fdiv (2 ^ n):=by
 rw [l_u] at ha ⊢;have h1:=g_r k;have h2:=g_1 k;have hp : (0 : Int) < 2 ^ n:=Int.pow_pos (by decide);have h3:=Int.natAbs_fdiv_le_natAbs a (2 ^ n);rw [Int.fdiv_eq_ediv_of_nonneg a (Int.le_of_lt hp)] at h3 ⊢
 rcases Int.le_total 0 a with h | h
 ·have:=Int.ediv_nonneg h (Int.le_of_lt hp)
  omega
 ·have:=Int.ediv_le_ediv hp h
  simp at this;omega
section
variable {P : Program} {C : Ctx} {fr : Fr} {tm : Array Value} {w : World} {σ : St} {γ : Key → Option Nat} {D : Nat → Prop} {O : Nat → Prop}
theorem o_z {op : BinOp} {k : IntKind} {x y : Int} (hx : k.wrap x = x) (h : o_0 op = false) : ∃ n,arith op k x y = .i k n ∧ k.wrap n = n:=by
 cases op <;> first
  | exact ⟨_,rfl,e_J _ _⟩
  | exact ⟨_,rfl,s_H y hx⟩
  | exact ⟨_,rfl,r_U _ hx⟩
  | cases h
theorem m_D {op : BinOp} {k : IntKind} {x y : Int} (h : o_0 op = true) : ∃ b,arith op k x y = .b b:=by
 cases op <;> first | exact ⟨_,rfl⟩ | cases h
theorem s_l {op : BinOp} {t : TypeId} {x y : Operand} {k k' : IntKind} {a b : Int} (hk : f_a op = true ∨ k = k') (hc : ∀ c,g_4 op b = some c → c) :
  (do eqGuard op t x y (.int k a) (.int k' b);binOp op t (.int k a) (.int k' b) : Sem Value).run P w = .ok (k_y (arith op k a b)) w:=by
 cases op
 case quo =>
  obtain rfl : k = k' := hk.resolve_left (by simp [f_a]);have h0 : b ≠ 0:=hc _ rfl;simp [eqGuard,binOp,Op.intDiv,h0,arith,k_y,quoI]
 case rem =>
  obtain rfl : k = k' := hk.resolve_left (by simp [f_a]);have h0 : b ≠ 0:=hc _ rfl;simp [eqGuard,binOp,Op.intDiv,h0,arith,k_y,remI]
 case shl =>
  have h0 : 0 ≤ b:=hc _ rfl;have h1 : ¬ b < 0:=by omega
  simp [eqGuard,binOp,Op.shift,h1,arith,k_y,shlI]
 case shr =>
  have h0 : 0 ≤ b:=hc _ rfl;have h1 : ¬ b < 0:=by omega
  simp [eqGuard,binOp,Op.shift,h1,arith,k_y,shrI]
 all_goals
  obtain rfl : k = k' := hk.resolve_left (by simp [f_a]);simp [eqGuard,binOp,Op.intArith,Op.intBits,Op.intCmp,arith,k_y,addI,subI,mulI,a_J,eqI,neI,ltI,leI]
end
abbrev Sound (P : Program) (C : Ctx) (fr : Fr) (tm : Array Value) (w : World) (σ : St) (D : Nat → Prop) (i : Nat) (o : Oper) (p : Path) (K : St → Prop) (Q : Exit → Act → World → Prop) (r : a_o) : Prop :=
 a_o.W P C.tab σ p K r → o.wp P ⟨tm,[]⟩ w (After C fr (fun j => D j ∨ j = i) K) Q
section
variable {P : Program} {C : Ctx} {fr : Fr} {tm : Array Value} {w : World} {σ : St} {γ : Key → Option Nat} {D : Nat → Prop}
 (hG : Good P C.tab) (h : Rel C.tab fr tm w σ γ) (hwf : Wf C D σ) (hsz : tm.size = C.nt) {i : Nat} {o : Oper} {p : Path} (hp : σ.Holds p)
 (hpp : ∀ s b,(s,b) ∈ p → a_w C s = false ∧ ∃ q c x,σ.get (a_ s) = some ⟨q,.t c x⟩) {K : St → Prop} {Q : Exit → Act → World → Prop}
theorem d_T (d : Nat) {t : TypeId} (hu : P.underlying t = some .bool) (a b : Bool) : (Op.equalIn (d + 1) t (.bool a) (.bool b)).run P w = .ok (a == b) w:=by
 simp [Op.equalIn,run_underlying hu]
theorem i_9 {src dst : TypeId} {ds : TypeDesc} {k0 k : IntKind} (hs : P.underlying src = some ds) (hu : P.underlying dst = some (.int k)) (n : Int) :
  (convert src dst (.int k0 n)).run P w = .ok (.int k (k.wrap n)) w:=by
 unfold convert;rw [Sem.run_bind,run_underlying hs];simp only [Result.andThen_ok];rw [Sem.run_bind,run_underlying hu];simp only [Result.andThen_ok];cases ds <;> simp [Conv.intToInt]
theorem b_ : Sound P C fr tm w σ D i o p K Q .bad:=fun hW => hW.elim
include hG h hwf hsz hp hpp
theorem b_X {d : Nat} {c : TypeId} {y : T} {v : Value} (hn : d < C.nt) (hdst : o.dst = some d) (habs : σ.get (a_ d) = none)
  (hrun : (execOp (Act.eval ⟨tm,[]⟩) o).run P w = .ok (.value v) w) (hv : V C.tab w (Ob fr γ) c v y) (hK : K (σ.puts [(a_ d,⟨p,.t c y⟩)])) :
  o.wp P ⟨tm,[]⟩ w (After C fr (fun j => D j ∨ j = i) K) Q :=
 a_P (a:=.t c y) hG h hwf hsz hn hdst habs hp hpp hrun (fun _ _ hh => by cases hh) (fun _ hh => by cases hh) hv hK
omit hG h hwf hsz hp hpp in
theorem k_n {op : BinOp} {ty : TypeId} {f : TypeId → TI → R} {motive : a_o → Prop} (hbad : motive .bad) (hok : ∀ c ti t0,C.tab.at t0 = some (c,ti) → motive ((f c ti).run σ)) : motive ((n_Y C op ty f).run σ):=by
 unfold n_Y;split
 ·rename_i c ti hc;exact hok c ti _ hc
 ·split
  ·rename_i c ti _ hc;exact hok c ti _ hc
  ·exact hbad
theorem l_w {op : BinOp} {xt yt : TypeId} {x y : Operand} (ho : o.op = .binOp op xt x y yt) : Sound P C fr tm w σ D i o p K Q ((binR C p o op xt x y yt).run σ):=by
 unfold binR;refine o_ _ _ b_ fun d hd hn hv habs => ?_
 refine a_F hG h p hp x xt b_ fun cx vx hx => ?_
 refine a_F hG h p hp y yt b_ fun cy vy hy => ?_
 refine k_n b_ fun cr tr ty0 hr => ?_
 have hcr:=(hG _ _ _ hr).self;split
 ·rename_i k k' hk hk'
  obtain ⟨ex,-,wx⟩:=hx.int hk;obtain ⟨ey,-,wy⟩:=hy.int hk';split
  ·rename_i hsh
   have hkk : f_a op = true ∨ k = k' := by
    simp only [Bool.or_eq_true,decide_eq_true_eq] at hsh;exact hsh
   have key : V C.tab w (Ob fr γ) cr (k_y (arith op k vx.int vy.int)) (arith op k vx.int vy.int) →
     Sound P C fr tm w σ D i o p K Q (.upd (g_4 op vy.int) [(a_ d,⟨p,.t cr (arith op k vx.int vy.int)⟩)]):=by
    intro hV hW;have hc : ∀ q,g_4 op vy.int = some q → q:=by
     intro q hq;rw [hq] at hW;exact d_Q hW.1 hp
    have hK : K (σ.puts [(a_ d,⟨p,.t cr (arith op k vx.int vy.int)⟩)]):=by
     cases hq : g_4 op vy.int with
     | none => rw [hq] at hW;exact hW
     | some q => rw [hq] at hW;exact hW.2
    refine b_X hG h hwf hsz hp hpp hn hd habs ?_ hV hK;have hrb:=s_l (P:=P) (w:=w) (t:=xt) (x:=x) (y:=y) (op:=op) (k:=k) (k' := k') (a:=vx.int) (b:=vy.int) hkk hc;simp only [execOp,ho]
    change ev tm x = _ at ex
    change ev tm y = _ at ey
    unfold ev at ex ey;rw [ex,ey];rw [Sem.run_bind,hrb];rfl
   split
   ·rename_i hcmp
    split
    ·rename_i htr
     obtain ⟨b,hb⟩:=m_D (k:=k) (x:=vx.int) (y:=vy.int) hcmp;exact key (by rw [hb];exact f_4 hG hcr htr)
    ·exact b_
   ·rename_i hcmp
    split
    ·rename_i k2 htr
     split
     ·rename_i hk2
      have hk2' := of_decide_eq_true hk2;subst hk2';obtain ⟨n,hn',hwn⟩:=o_z (op:=op) (x:=vx.int) (y:=vy.int) wx hcmp;exact key (by rw [hn'];exact j_Z hG hcr htr hwn)
     ·exact b_
    ·exact b_
  ·exact b_
 ·split
  ·rename_i h1 h2 h3 htr
   obtain ⟨ex,-⟩:=hx.bool h1;obtain ⟨ey,-⟩:=hy.bool h2;obtain ⟨c3,t3,hc3,hk3⟩:=d_a h3 (by simp);obtain ⟨dd,hu,hdd⟩:=(hG _ _ _ hc3).und;rw [hk3] at hdd;have hu' : P.underlying xt = some .bool:=by cases dd <;> simp at hdd;exact hu
   unfold ev at ex ey;split
   ·intro hW
    refine b_X hG h hwf hsz hp hpp hn hd habs (v:=.bool (vx.bool == vy.bool)) ?_ (f_4 hG hcr htr) hW;simp only [execOp,ho,ex,ey];simp [eqGuard,binOp,Op.equal,Op.maxDepth,d_T (w:=w) 9999 hu']
   ·intro hW
    refine b_X hG h hwf hsz hp hpp hn hd habs (v:=.bool (!(vx.bool == vy.bool))) ?_ (f_4 hG hcr htr) hW;simp only [execOp,ho,ex,ey];simp [eqGuard,binOp,Op.equal,Op.maxDepth,d_T (w:=w) 9999 hu']
   ·exact b_
  ·rename_i e1 e2 e3 h1 h2 h3 htr
   obtain ⟨a,n,cap,hva,hna⟩:=hx.nilp h1;obtain ⟨c3,t3,hc3,hk3⟩:=d_a h3 (by simp);obtain ⟨dd,hu,hdd⟩:=(hG _ _ _ hc3).und;rw [hk3] at hdd;obtain ⟨e',hu'⟩ : ∃ e',P.underlying xt = some (.slice e'):=by cases dd <;> simp at hdd;exact ⟨_,hu⟩
   have hev : j_0 y = true → (Act.eval ⟨tm,[]⟩ y) = .slice none 0 0:=by
    intro hy;cases y <;> simp [j_0] at hy
    rename_i v;unfold b_3 at hy;split at hy
    ·rfl
    ·cases hy
   change ev tm x = _ at hva
   unfold ev at hva;have heq : ∀ d,(Op.equalIn (d + 1) xt (.slice a n cap) (.slice none 0 0)).run P w = .ok a.isNone w:=by
    intro d;cases a <;> simp [Op.equalIn,run_underlying hu']
   split
   ·rename_i _ hy
    intro hW;refine b_X hG h hwf hsz hp hpp hn hd habs (v:=.bool a.isNone) ?_ (f_4 hG hcr htr) (hW (.b a.isNone) ?_)
    ·simp only [execOp,ho,hva,hev hy]
     simp [eqGuard,binOp,Op.equal,Op.maxDepth,heq 9999]
    ·intro hb
     simp only [T.bool,Option.isNone_iff_eq_none] at hb;exact hna hb
   ·rename_i _ hy
    intro hW;refine b_X hG h hwf hsz hp hpp hn hd habs (v:=.bool (!a.isNone)) ?_ (f_4 hG hcr htr) (hW (.b a.isNone) ?_)
    ·simp only [execOp,ho,hva,hev hy]
     simp [eqGuard,binOp,Op.equal,Op.maxDepth,heq 9999]
    ·intro hb
     simp only [T.bool,Option.isNone_iff_eq_none] at hb;exact hna hb
   ·exact b_
  ·exact b_
theorem o_k {op : UnOp} {xt : TypeId} {x : Operand} (ho : o.op = .unOp op xt x) : Sound P C fr tm w σ D i o p K Q ((unR C p o op xt x).run σ):=by
 unfold unR;refine o_ _ _ b_ fun d hd hn hv habs => ?_
 refine a_F hG h p hp x xt b_ fun cx vx hx => ?_
 refine Z_ _ b_ fun cr tr hr => ?_
 have hcr:=(hG _ _ _ hr).self;split
 ·rename_i h1 htr
  obtain ⟨ex,-⟩:=hx.bool h1;intro hW;refine b_X hG h hwf hsz hp hpp hn hd habs (v:=.bool (!vx.bool)) ?_ (f_4 hG hcr htr) hW;unfold ev at ex;simp [execOp,ho,ex,Op.unary]
 ·rename_i k k' h1 htr
  split
  ·rename_i hk
   have hk' := of_decide_eq_true hk;subst hk';obtain ⟨ex,-,-⟩:=hx.int (k:=k) (by unfold Ctx.ik;rw [h1];rfl);intro hW;refine b_X hG h hwf hsz hp hpp hn hd habs (v:=.int k (subI k 0 vx.int)) ?_ (j_Z hG hcr htr (e_J _ _)) hW;unfold ev at ex;simp [execOp,ho,ex,Op.unary,Op.intArith,subI]
  ·exact b_
 ·rename_i k k' h1 htr
  split
  ·rename_i hk
   have hk' := of_decide_eq_true hk;subst hk';obtain ⟨ex,-,-⟩:=hx.int (k:=k) (by unfold Ctx.ik;rw [h1];rfl);intro hW;refine b_X hG h hwf hsz hp hpp hn hd habs (v:=.int k (a_J .xor k (if k.signed then -1 else k.max) vx.int)) ?_ (j_Z hG hcr htr (e_J _ _)) hW;unfold ev at ex;simp [execOp,ho,ex,Op.unary,Op.intBits,a_J]
  ·exact b_
 ·exact b_
theorem j_I {src dst : TypeId} {x : Operand} (ho : o.op = .convert src dst x) : Sound P C fr tm w σ D i o p K Q ((q_s C p o src dst x).run σ):=by
 unfold q_s;refine o_ _ _ b_ fun d hd hn hv habs => ?_
 refine a_F hG h p hp x src b_ fun cx vx hx => ?_
 refine Z_ _ b_ fun cr tr hr => ?_
 have hcr:=(hG _ _ _ hr).self;split
 ·rename_i k0 k h1 htr
  obtain ⟨ex,-,-⟩:=hx.int (k:=k0) (by unfold Ctx.ik;rw [h1];rfl);obtain ⟨dd,hu,hdd⟩:=(hG _ _ _ hr).und;rw [htr] at hdd;have hu' : P.underlying dst = some (.int k):=by cases dd <;> simp at hdd;subst hdd;exact hu
  cases hst : C.tab.at src with
  | none => exact b_
  | some r =>
  obtain ⟨cs,ts⟩:=r;obtain ⟨ds,hus,-⟩:=(hG _ _ _ hst).und;intro hW;refine b_X hG h hwf hsz hp hpp hn hd habs (v:=.int k (p_ k vx.int)) ?_ (j_Z hG hcr htr (e_J _ _)) hW;unfold ev at ex;simp only [execOp,ho,ex];rw [Sem.run_bind,i_9 hus hu'];rfl
 ·exact b_
theorem m_j {xt : TypeId} {x ix : Operand} (ho : o.op = .index xt x ix) : Sound P C fr tm w σ D i o p K Q ((strR C p o xt x ix).run σ):=by
 unfold strR;refine o_ _ _ b_ fun d hd hn hv habs => ?_
 refine a_F hG h p hp ix 3 b_ fun ci vi hi => ?_
 refine a_F hG h p hp x xt b_ fun cx vx hx => ?_
 refine Z_ _ b_ fun cr tr hr => ?_
 have hcr:=(hG _ _ _ hr).self;split
 ·rename_i k hk h1 h2 htr
  obtain ⟨ei,-,-⟩:=hi.int hk;have ex:=hx.str h1;obtain ⟨c3,t3,hc3,hk3⟩:=d_a h2 (by simp);obtain ⟨dd,hu,hdd⟩:=(hG _ _ _ hc3).und;rw [hk3] at hdd;have hu' : P.underlying xt = some .string:=by cases dd <;> simp at hdd;exact hu
  intro hW;obtain ⟨⟨g1,g2⟩,hW⟩ : (0 ≤ vi.int ∧ vi.int < (vx.str.size : Int)) ∧ _:=⟨d_Q hW.1 hp,hW.2⟩;have hlt : vi.int.toNat < vx.str.size:=by omega
  have hb : vx.str[vi.int.toNat]? = some (vx.str[vi.int.toNat]'hlt):=getElem?_pos ..;have hbv : f_8 vx.str vi.int = ((vx.str[vi.int.toNat]'hlt).toNat : Int):=by
   unfold f_8;have : vi.int.toNat < vx.str.data.toList.length:=by simpa using hlt
   rw [List.getD_eq_getElem?_getD,List.getElem?_eq_getElem this];rfl
  refine b_X hG h hwf hsz hp hpp hn hd habs (v:=.int .u8 (f_8 vx.str vi.int)) ?_ (j_Z hG hcr htr ?_) hW
  ·unfold ev at ei ex
   simp only [execOp,ho,ei,ex];simp [Instr.index,asIntOf,run_underlying hu',g1,hb,hbv]
  ·rw [hbv]
   have:=(vx.str[vi.int.toNat]'hlt).toNat_lt
   simp only [IntKind.wrap,IntKind.bits,IntKind.signed];simp;omega
 ·exact b_
end
end Go.Pl
