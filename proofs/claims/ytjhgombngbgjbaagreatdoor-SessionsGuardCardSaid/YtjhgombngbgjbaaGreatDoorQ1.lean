/- Part 1 of 11. A session's sealed cut that was changed, shortened, lengthened or emptied is not resumed, and a cut is resumed under another model only where the two models are one. Names are shortened and spaces left out by program, for the size. -/
import Derived.Laws.AppendOwn
import Derived.Laws.MakeOwn
import Derived.Laws.OwnMore
import Derived.Orders
import Derived.KernelRfl
set_option linter.unusedVariables false
set_option linter.unusedSimpArgs false
set_option linter.unusedSectionVars false
set_option linter.constructorNameAsVariable false
set_option maxRecDepth 100000
theorem a_:True:=trivial
abbrev WJ:=@Option.some.injEq
abbrev WK:=@Prod.mk.injEq
abbrev WL:=@List.getElem?_eq_getElem
abbrev WM:=@List.getD_eq_getElem?_getD
abbrev WN:=@List.length_append
abbrev WO:=@Nat.eq_of_beq_eq_true
abbrev WP:=@Int.toNat_natCast
abbrev WQ:=@List.getElem?_eq_some_iff
abbrev WR:=@List.getElem?_cons_succ
abbrev WS:=@Nat.zero_le
abbrev WT:=@List.getElem?_cons_zero
abbrev WU:=@Nat.le_refl
abbrev WV:=@Nat.zero_add
abbrev WW:=@List.mem_cons
abbrev WX:=@List.take_of_length_le
abbrev WY:=@if_pos
abbrev WZ:=@if_neg
abbrev W2:=@List.mem_append
abbrev W3:=@Option.some.inj
abbrev W4:=@List.length_cons
abbrev W5:=@true_and
abbrev W6:=@Array.getElem?_eq_getElem
abbrev W7:=@List.append_assoc
abbrev W8:=@Nat.mul_comm
abbrev W9:=@List.take_succ_eq_append_getElem
abbrev Xa:=@Array.getElem?_toList
abbrev Xb:=@Nat.mul_le_mul_right
abbrev Xc:=@List.drop_zero
abbrev Xd:=@of_decide_eq_true
abbrev Xe:=@Nat.add_mul
abbrev Xf:=@List.getElem?_append_right
abbrev Xg:=@List.length_take
abbrev Xh:=@decide_eq_false
abbrev Xi:=@List.length_drop
abbrev Xj:=@Nat.mod_eq_of_lt
abbrev Xk:=@List.length_map
abbrev Xl:=@Option.bind_some
abbrev Xm:=@List.length_replicate
abbrev Xn:=@List.mem_singleton
abbrev Xo:=@decide_eq_true_eq
abbrev Xp:=@Array.getElem?_setIfInBounds
abbrev Xq:=@decide_eq_true
abbrev Xr:=@List.getElem?_append_left
abbrev Xs:=@List.getElem?_map
abbrev Xt:=@Nat.pow_succ
abbrev Xu:=@Nat.mul_assoc
abbrev Xv:=@List.length_singleton
abbrev Xw:=@List.mem_map
abbrev Xx:=@congrArg
abbrev Xy:=@List.getElem?_take
abbrev Xz:=@Nat.lt_of_lt_of_le
abbrev XA:=@Nat.mod_lt
abbrev XB:=@List.length_pos_iff
abbrev XC:=@Nat.pow_le_pow_right
abbrev XD:=@List.append_nil
abbrev XE:=@Nat.div_lt_iff_lt_mul
abbrev XF:=@Option.getD_some
abbrev XG:=@Bool.and_eq_true
abbrev XH:=@Option.map_some
abbrev XI:=@List.drop_eq_getElem_cons
abbrev XJ:=@List.mem_range
abbrev XK:=@Array.getD_eq_getD_getElem?
abbrev XL:=@Nat.pow_add
abbrev XM:=@List.take_length
abbrev XN:=@Nat.div_div_eq_div_mul
abbrev XO:=@List.flatMap_cons
abbrev XP:=@List.map_cons
abbrev XQ:=@Nat.pow_pos
abbrev XR:=@List.mem_of_getElem?
abbrev XS:=@Nat.lt_of_le_of_lt
abbrev XT:=@Nat.eq_zero_or_pos
abbrev XU:=@Nat.le_trans
abbrev XV:=@List.mem_cons_of_mem
abbrev XW:=@Nat.add_zero
abbrev XX:=@Bool.or_eq_false_iff
abbrev XY:=@List.map_append
abbrev XZ:=@Int.fdiv_eq_ediv_of_nonneg
abbrev X0:=@decide_eq_false_iff_not
abbrev Ya:=@Nat.mul_left_comm
abbrev Yb:=@Nat.one_mul
abbrev Yc:=@List.nil_append
abbrev Yd:=@List.nodup_cons
abbrev Ye:=@Array.length_toList
abbrev Yf:=@List.length_eq_zero_iff
abbrev Yg:=@Array.getElem?_eq_some_iff
abbrev Yh:=@Nat.mul_add
abbrev Yi:=@BitVec.toNat_ofNat
abbrev Yj:=@List.ext_getElem
abbrev Yk:=@Nat.div_eq_of_lt
abbrev Yl:=@List.getElem?_range
abbrev Ym:=@List.getElem?_eq_none
abbrev Yn:=@Nat.mul_le_mul
abbrev Yo:=@List.map_map
abbrev Yp:=@Nat.sub_self
abbrev Yq:=@Nat.mul_one
abbrev Yr:=@BitVec.ofInt_natCast
abbrev Ys:=@List.getElem_of_mem
abbrev Yt:=@Nat.mul_le_mul_left
abbrev Yu:=@List.map_congr_left
abbrev Yv:=@Bool.or_eq_true
abbrev Yw:=@List.length_set
abbrev Yx:=@Nat.mod_add_div
abbrev Yy:=@List.cons_append
abbrev Yz:=@Nat.pow_lt_pow_iff_right
abbrev YA:=@List.getElem?_set
abbrev YB:=@Nat.min_eq_left
abbrev YC:=@Nat.div_le_self
abbrev YD:=@Nat.add_assoc
abbrev YE:=@List.getElem_mem
abbrev YF:=@Option.ne_none_iff_exists'
abbrev YG:=@Array.getElem?_append_left
abbrev YH:=@List.length_nil
abbrev YI:=@Array.all_eq_true_iff_forall_mem
abbrev YJ:=@UInt32.toNat_ofNat'
abbrev YK:=@List.getElem?_replicate
abbrev YL:=@Ne.symm
abbrev YM:=@List.getElem?_drop
abbrev YN:=@Option.map_eq_some_iff
abbrev YO:=@Nat.add_sub_cancel
abbrev YP:=@Nat.lt_or_ge
abbrev YQ:=@Nat.pos_of_ne_zero
abbrev YR:=@Int.emod_nonneg
abbrev YS:=@Nat.le_of_ble_eq_true
abbrev YT:=@List.take_append_drop
abbrev YU:=@Nat.le_div_iff_mul_le
abbrev YV:=@List.length_range
abbrev YW:=@Nat.lt_trichotomy
abbrev YX:=@Bool.not_eq_true'
abbrev YY:=@List.replicate_zero
abbrev YZ:=@Rat.lt_irrefl
abbrev Y0:=@List.mem_filter
abbrev Za:=@List.range_succ
abbrev Zb:=@List.append_of_mem
abbrev Zc:=@Int.emod_lt_of_pos
abbrev Zd:=@UInt8.toNat_ofNat'
abbrev Ze:=@Array.ext
abbrev Zf:=@if_true
abbrev Zg:=@List.map_set
abbrev Zh:=@List.drop_eq_nil_of_le
abbrev Zi:=@List.take_zero
abbrev Zj:=@Array.toList_map
abbrev Zk:=@UInt32.toNat_inj
abbrev Zl:=@decide_eq_decide
abbrev Zm:=@List.drop_length
abbrev Zn:=@List.flatMap_nil
abbrev Zo:=@Nat.div_one
abbrev Zp:=@Nat.mul_add_mod
abbrev Zq:=@List.append_inj
abbrev Zr:=@List.replicate_succ
abbrev Zs:=@List.flatMap_append
abbrev Zt:=@Nat.le_of_lt
abbrev Zu:=@Nat.gcd_comm
abbrev Zv:=@of_decide_eq_false
abbrev Zw:=@Nat.mul_lt_mul_of_lt_of_le
abbrev Zx:=@Nat.mod_mul_right_div_self
abbrev Zy:=@List.drop_drop
abbrev Zz:=@Bool.not_eq_false'
abbrev ZA:=@Array.size_append
abbrev ZB:=@List.size_toArray
abbrev ZC:=@Nat.lt_irrefl
abbrev ZD:=@List.sum_cons
abbrev ZE:=@List.filter_cons_of_pos
abbrev ZF:=@List.filter_cons_of_neg
abbrev ZG:=@List.getElem_map
abbrev ZH:=@Array.getElem?_push_lt
abbrev ZI:=@Nat.add_comm
abbrev ZJ:=@Nat.pow_zero
abbrev ZK:=@List.getElem?_eraseIdx
abbrev ZL:=@List.foldl_cons
abbrev ZM:=@List.cons.injEq
abbrev ZN:=@Nat.div_add_mod
abbrev ZO:=@Nat.mul_add_div
abbrev ZP:=@and_true
abbrev ZQ:=@Nat.mod_mul
abbrev ZR:=@Nat.pow_one
abbrev ZS:=@Int.natAbs_neg
abbrev ZT:=@List.getElem?_append
abbrev ZU:=@List.mem_of_mem_take
abbrev ZV:=@Nat.add_sub_cancel'
abbrev ZW:=@Rat.le_iff_lt_or_eq
abbrev ZX:=@Bool.true_and
namespace Go.Pl
inductive T where
 | u
 | z
 | b (x:Bool)
 | i (k:IntKind) (n:Int)
 | s (x:ByteArray)
 | l (xs:List T)
 | g (xs:List T)
 | e (ty:TypeId) (x:T)
 | f (fn:FuncId) (caps:List T)
 deriving Inhabited
namespace T
def isG:T→Bool
 | .g _=>true
 | _=>false
def leaves:T→List T
 | .g xs=>xs
 | x=>[x]
def cell (x:T) (c:Nat):T:=x.leaves.getD c .u
def int:T→Int
 | .i _ n=>n
 | _=>0
def bool:T→Bool
 | .b x=>x
 | _=>false
def list:T→List T
 | .l xs=>xs
 | _=>[]
def str:T→ByteArray
 | .s x=>x
 | _=>⟨#[]⟩
def isF:T→Bool
 | .f _ _=>true
 | _=>false
def fn:T→FuncId
 | .f n _=>n
 | _=>0
def caps:T→List T
 | .f _ xs=>xs
 | _=>[]
def ite (c:Bool) (x y:T):T:=match c with
 | true=>x
 | false=>y
def part (x:T) (c n:Nat):T:=.g ((List.range n).map fun j=>x.cell (c+j))
def setCell (x:T) (c:Nat) (y:T):T:=match x with
 | .g xs=>.g (xs.set c y)
 | _=>y
end T
inductive K where
 | int (k:IntKind)
 | bool
 | str
 | sl (e:TypeId)
 | st (fs:List (Nat×TypeId))
 | ptr (e:TypeId)
 | fn
 | ifc
 | no
 deriving Inhabited
structure TI where
 k:K
 cells:Nat
 bytes:Nat
 leaves:List TypeId
 zero:T
 deriving Inhabited
def TI.isS (ti:TI):Bool:=match ti.k with
 | .st _=>true
 | _=>false
def TI.lv (ti:TI) (c:TypeId):List TypeId:=match ti.k with
 | .st _=>ti.leaves
 | _=>[c]
abbrev Tab:=List (TypeId×TypeId×TI)
def Tab.at:Tab→TypeId→Option (TypeId×TI)
 | [],_=>none
 | (t,r)::rest,n=>match Nat.beq t n with
  | true=>some r
  | false=>Tab.at rest n
structure Key where
 tag:Nat
 a:Nat
 b:Nat
 deriving DecidableEq,Inhabited
def Key.eq (x y:Key):Bool:=match Nat.beq x.a y.a with
 | true=>match Nat.beq x.b y.b with
  | true=>Nat.beq x.tag y.tag
  | false=>false
 | false=>false
theorem Key.qs {x y:Key}:x.eq y=true↔x=y:=by
 obtain ⟨t,a,b⟩:=x;obtain ⟨t',a',b'⟩:=y;simp only [Key.eq,Key.mk.injEq]
 constructor
 ·intro h
  split at h
  ·rename_i h1
   split at h
   ·rename_i h2
    exact ⟨WO h,WO h1,WO h2⟩
   ·cases h
  ·cases h
 ·rintro ⟨rfl,rfl,rfl⟩
  simp
def pp (s:Nat):Key:=⟨0,s,0⟩
def cell (s c:Nat):Key:=⟨1,s,c⟩
def comp (s j:Nat):Key:=⟨2,s,j⟩
inductive AV where
 | u
 | t (c:TypeId) (x:T)
 | own (c:TypeId) (tag:Nat) (xs:List T)
 | box (c:TypeId) (tag n:Nat)
 | alias (h:Key) (tag:Nat) (c:TypeId) (off len:Nat)
 | ptr (s tag c:Nat)
 | eptr (h:Key) (tag:Nat) (i c:Nat)
 | pl (c:TypeId) (x:T) (off:Nat)
 | tup (n:Nat)
 | tcp (s tag:Nat)
 deriving Inhabited
abbrev Path:=List (Nat×Bool)
structure Ent where
 path:Path
 av:AV
 deriving Inhabited
abbrev St:=List (Key×Ent)
def St.get:St→Key→Option Ent
 | [],_=>none
 | (k,e)::r,n=>match k.eq n with
  | true=>some e
  | false=>St.get r n
def St.put:St→Key→Ent→St
 | [],n,v=>[(n,v)]
 | (k,e)::r,n,v=>match k.eq n with
  | true=>(k,v)::r
  | false=>(k,e)::St.put r n v
def St.puts (σ:St):List (Key×Ent)→St
 | []=>σ
 | (k,e)::r=>(σ.put k e).puts r
theorem Key.qW (k:Key):k.eq k=true:=Key.qs.2 rfl
theorem Key.qt {k k':Key} (h:k≠k'):k.eq k'=false:=by
 cases e:k.eq k'
 ·rfl
 ·exact absurd (Key.qs.1 e) h
theorem St.yJ (σ:St) (k n:Key) (v:Ent):(σ.put k v).get n=if k=n then some v else σ.get n:=by
 induction σ with
 | nil =>
  by_cases h:k=n
  ·subst h;simp [St.put,St.get,Key.qW]
  ·simp [St.put,St.get,Key.qt h,h]
 | cons x r ih =>
  obtain ⟨k',e'⟩:=x
  by_cases h:k'=k
  ·subst h
   simp only [St.put,Key.qW,St.get]
   by_cases h2:k'=n
   ·subst h2;simp [Key.qW]
   ·simp [Key.qt h2,h2]
  ·simp only [St.put,Key.qt h,St.get]
   by_cases h2:k'=n
   ·subst h2
    simp [Key.qW,YL h]
   ·simp only [Key.qt h2]
    exact ih
def BS:List (Key×Ent)→Key→Option Ent
 | [],_=>none
 | (k,e)::r,n=>match BS r n with
  | some v=>some v
  | none=>match k.eq n with
   | true=>some e
   | false=>none
theorem St.CD (ws:List (Key×Ent)):∀(σ:St) (n:Key),(σ.puts ws).get n=match BS ws n with | some v=>some v | none=>σ.get n:=by
 induction ws with
 | nil=>intro σ n;rfl
 | cons x r ih =>
  obtain ⟨k,e⟩:=x;intro σ n;simp only [St.puts,ih,BS,St.yJ]
  cases h:BS r n with
  | some v=>rfl
  | none =>
   by_cases hk:k=n
   ·subst hk;simp [Key.qW]
   ·simp [Key.qt hk,hk]
inductive Rd (α:Type) where
 | ret (a:α)
 | get (k:Key) (f:Option Ent→Rd α)
def Rd.run {α:Type} (σ:St):Rd α→α
 | .ret a=>a
 | .get k f=>(f (σ.get k)).run σ
def Rd.keys {α:Type} (σ:St):Rd α→List Key
 | .ret _=>[]
 | .get k f=>k::(f (σ.get k)).keys σ
theorem Rd.agree {α:Type} (r:Rd α) (σ τ:St) (h:∀k∈r.keys σ,τ.get k=σ.get k):r.run τ=r.run σ∧r.keys τ=r.keys σ:=by
 induction r with
 | ret a=>exact ⟨rfl,rfl⟩
 | get k f ih =>
  have hk:τ.get k=σ.get k:=h k (by simp [Rd.keys])
  have:=ih (σ.get k) (fun k' e_=>h k' (by simp [Rd.keys,e_]))
  simp only [Rd.run,Rd.keys,hk];exact ⟨this.1,by rw [this.2]⟩
structure Mode where
 own:List Bool
 boxes:List (Nat×List Bool)
 ins:List Bool
 deriving Inhabited
structure Ctx where
 tab:Tab
 sigs:List (FuncId×List TypeId×List TypeId)
 nt:Nat
 vars:List Nat
 homes:List Key
 modes:List (FuncId×Mode)
 frz:List (Nat×List Key)
 ro:List Nat
 pins:List Nat
 deriving Inhabited
def Ctx.kd (C:Ctx) (t:TypeId):K:=match C.tab.at t with
 | some (_,ti)=>ti.k
 | none=>.no
def Fp:List Nat→Nat→Bool
 | [],_=>false
 | x::r,n=>match Nat.beq x n with
  | true=>true
  | false=>Fp r n
def wP:List Key→Key→Bool
 | [],_=>false
 | x::r,n=>match x.eq n with
  | true=>true
  | false=>wP r n
def look {α:Type}:List (Nat×α)→Nat→Option α
 | [],_=>none
 | (k,v)::r,n=>match Nat.beq k n with
  | true=>some v
  | false=>look r n
def Eg:Bool→Bool→Bool
 | true,true=>true
 | false,false=>true
 | _,_=>false
def RN:Path→Nat→Bool→Bool
 | [],_,_=>false
 | (j,w)::r,n,v=>match Nat.beq j n with
  | true=>match Eg w v with
   | true=>true
   | false=>RN r n v
  | false=>RN r n v
def Path.sub:Path→Path→Bool
 | [],_=>true
 | (j,w)::r,p=>match RN p j w with
  | true=>Path.sub r p
  | false=>false
inductive Arg where
 | t (c:TypeId) (x:T)
 | own (c:TypeId) (xs:List T)
 | box (c:TypeId) (n:Nat) (cells:List AV)
 | pl (c:TypeId) (x:T)
inductive Cal where
 | f (f:FuncId)
 | v (x:T)
def F5:T→Arg
 | .e c x=>.pl c x
 | _=>.t 0 .u
abbrev Shape:=List (Key×TypeId×Bool)
inductive qO where
 | bad
 | upd (cond:Option Prop) (ws:List (Key×Ent))
 | all (c:T→Prop) (k:Key) (f:T→Ent)
 | bind (f:FuncId) (k:Int) (g:Option FuncId) (ws:List (Key×Ent))
 | view (f:FuncId) (n:Int) (ws:List (Key×Ent))
 | call (tag:Nat) (f:Cal) (args:List Arg) (pre:List (Key×Ent)) (sh:Shape) (ks:List (Key×Path))
abbrev R:=Rd qO
def pP:R:=.ret .bad
def okR (ws:List (Key×Ent)):R:=.ret (.upd none ws)
def IF (c:Prop) (ws:List (Key×Ent)):R:=.ret (.upd (some c) ws)
def top (a:AV):Ent:=⟨[],a⟩
def Dw:Value→Option T
 | .int k n=>match decide (k.wrap n=n) with
  | true=>some (.i k n)
  | false=>none
 | .bool x=>some (.b x)
 | .string x=>match decide (x.size≤maxLen) with
  | true=>some (.s x)
  | false=>none
 | .pointer none=>some .z
 | .nilIface=>some .z
 | .nilFunc=>some .z
 | _=>none
def K.fits:K→Value→Bool
 | .int k,.int k' _=>decide (k=k')
 | .bool,.bool _=>true
 | .str,.string _=>true
 | .ptr _,.pointer none=>true
 | .ifc,.nilIface=>true
 | .fn,.nilFunc=>true
 | _,_=>false
def K.elem:K→Option TypeId
 | .sl e=>some e
 | _=>none
def K.kind:K→Option IntKind
 | .int k=>some k
 | _=>none
def Ctx.el (C:Ctx) (t:TypeId):Option TypeId:=(C.kd t).elem
def Ctx.ik (C:Ctx) (t:TypeId):Option IntKind:=(C.kd t).kind
def tZ:Value→Bool
 | .slice none 0 0=>true
 | _=>false
variable (C:Ctx)
def Df:Nat:=1000000
def A2 (c:Nat) (r:R):R:=match Nat.blt c Df with
 | true=>r
 | false=>pP
def opnd (p:Path) (x:Operand) (ty:TypeId) (f:Option (Key×Path)→AV→R):R :=
 match x with
 | .tmp s=>.get (pp s) fun
  | some e=>match e.path.sub p with
   | true=>f (some (pp s,e.path)) e.av
   | false=>pP
  | none=>pP
 | .const v=>match C.tab.at ty with
  | some (c,ti)=>match tZ v with
   | true=>match ti.k.elem with
    | some _=>f none (.own c 0 [])
    | none=>pP
   | false=>match ti.k.fits v with
    | true=>match Dw v with
     | some x=>f none (.t c x)
     | none=>pP
    | false=>pP
  | none=>pP
 | .func n=>match C.tab.at ty with
  | some (c,ti)=>match ti.k with
   | .fn=>f none (.t c (.f n []))
   | _=>pP
  | none=>pP
 | _=>pP
def tK (h:Key) (tag:Nat) (f:TypeId→List T→R):R :=
 .get h fun
  | some ⟨[],.own c tag' xs⟩=>match Nat.beq tag tag' with
   | true=>f c xs
   | false=>pP
  | _=>pP
def CU (s tag:Nat) (f:TypeId→Nat→R):R :=
 .get (pp s) fun
  | some ⟨[],.box c tag' n⟩=>match Nat.beq tag tag' with
   | true=>f c n
   | false=>pP
  | _=>pP
def asT (p:Path) (x:Operand) (ty:TypeId) (k:TypeId→T→List (Key×Ent)→R):R :=
 opnd C p x ty fun ko a=>match a with
  | .t c x=>k c x []
  | .own c _ xs=>match ko with
   | some (key,[])=>k c (.l xs) [(key,top (.t c (.l xs)))]
   | some _=>pP
   | none=>k c (.l xs) []
  | .alias h tag c off len=>tK h tag fun c' xs=>k c (.l ((xs.drop off).take len)) [(h,top (.t c' (.l xs)))]
  | _=>pP
def FK (p:Path) (x:Operand) (ty:TypeId) (k:TypeId→T→R):R :=
 opnd C p x ty fun _ a=>match a with
  | .t c x=>k c x
  | .own c _ xs=>k c (.l xs)
  | .alias h tag c off len=>tK h tag fun _ xs=>k c (.l ((xs.drop off).take len))
  | _=>pP
def Nf (p:Path):List (Operand×TypeId)→(List (TypeId×T)→R)→R
 | [],k=>k []
 | (x,ty)::r,k=>FK C p x ty fun c v=>Nf p r fun l=>k ((c,v)::l)
def qY (s:Nat):Bool:=Fp C.vars s
def qy (d:Option Nat) (p:Path) (f:Nat→R):R :=
 match d with
 | none=>pP
 | some d=>match decide (d<C.nt) with
  | true=>.get (pp d) fun
    | none=>f d
    | some _=>pP
  | false=>pP
def Jm (ty c:TypeId) (r:R):R:=match C.tab.at ty with
 | some (ct,_)=>match Nat.beq c ct with
  | true=>r
  | false=>pP
 | none=>pP
def xj (i:Nat) (kt:Key) (x:Operand) (ty:TypeId) (fin:List (Key×Ent)→R):R :=
 opnd C [] x ty fun ko a=>match a with
  | .t c x=>Jm C ty c (fin [(kt,top (.t c x))])
  | .own c _ xs=>Jm C ty c (match wP C.homes kt with
   | true=>match ko with
    | none=>fin [(kt,top (.own c (i+1) xs))]
    | some (ks,[])=>fin [(ks,top .u),(kt,top (.own c (i+1) xs))]
    | some _=>pP
   | false=>match ko with
    | none=>fin [(kt,top (.t c (.l xs)))]
    | some (ks,[])=>fin [(ks,top (.t c (.l xs))),(kt,top (.t c (.l xs)))]
    | some _=>pP)
  | .alias h tag c off len=>Jm C ty c (tK h tag fun c' xs=>match wP C.homes kt with
   | true=>match Nat.beq off 0 with
    | true=>fin [(h,top .u),(kt,top (.own c' (i+1) (xs.take len)))]
    | false=>pP
   | false=>fin [(h,top (.t c' (.l xs))),(kt,top (.t c (.l ((xs.drop off).take len))))])
  | _=>pP
def tV:List Nat→List Nat→Bool
 | [],[]=>true
 | x::r,y::s=>match Nat.beq x y with
  | true=>tV r s
  | false=>false
 | _,_=>false
def GL (c0:TypeId) (x:T) (off:Nat) (ty:TypeId) (k:TypeId→T→R):R :=
 match C.tab.at c0 with
 | some (_,t0)=>match C.tab.at ty with
  | some (c,ti)=>match tV (((t0.lv c0).drop off).take ti.cells) (ti.lv c) with
   | true=>match ti.isS with
    | true=>k c (x.part off ti.cells)
    | false=>k c (x.cell off)
   | false=>pP
  | none=>pP
 | none=>pP
def gather (s:Nat):(c n:Nat)→(tys:List TypeId)→(List T→List (Key×Ent)→R)→R
 | _,0,[],k=>k [] []
 | c,n+1,ty::tys,k=>.get (cell s c) fun
  | some ⟨[],.t c' x⟩=>match Nat.beq c' ty with
   | true=>gather s (c+1) n tys fun l ws=>k (x::l) ws
   | false=>pP
  | some ⟨[],.own c' _ xs⟩=>match Nat.beq c' ty with
   | true=>gather s (c+1) n tys fun l ws=>k (.l xs::l) ((cell s c,top (.t c' (.l xs)))::ws)
   | false=>pP
  | _=>pP
 | _,_,_,_=>pP
inductive Spot where
 | box (s c n:Nat)
 | row (h:Key) (c:TypeId) (xs:List T) (tag i off:Nat)
 | tree (c:TypeId) (x:T) (off:Nat)
def place (p:Path) (x:Operand) (f:Spot→R):R :=
 opnd C p x 0 fun ko a=>match a with
  | .ptr s tag c=>A2 c (CU s tag fun _ n=>f (.box s c n))
  | .box _ _ n=>match ko with
   | some (k,[])=>f (.box k.a 0 n)
   | _=>pP
  | .eptr h tag i c=>tK h tag fun c' xs=>f (.row h c' xs tag i c)
  | .pl c x off=>f (.tree c x off)
  | _=>pP
def QG (p:Path) (o:Oper) (ty:TypeId) (a:Operand):R :=
 qy C o.dst p fun d=>place C p a fun
  | .box s c _=>match C.tab.at ty with
   | some (ct,ti)=>match ti.isS with
    | true=>gather s c ti.cells ti.leaves fun l ws=>okR (ws++[(pp d,⟨p,.t ct (.g l)⟩)])
    | false=>.get (cell s c) fun
     | some ⟨[],.t c' x⟩=>match Nat.beq c' ct with
      | true=>okR [(pp d,⟨p,.t c' x⟩)]
      | false=>pP
     | some ⟨[],.own c' tag xs⟩=>match Nat.beq c' ct with
      | true=>okR [(pp d,⟨p,.alias (cell s c) tag c' 0 xs.length⟩)]
      | false=>pP
     | _=>pP
   | none=>pP
  | .row _ c xs _ i off=>match C.el c with
   | some e=>match C.tab.at e with
    | some (ce,_)=>GL C ce (xs.getD i .u) off ty fun ct y=>okR [(pp d,⟨p,.t ct y⟩)]
    | none=>pP
   | none=>pP
  | .tree c x off=>GL C c x off ty fun ct y=>okR [(pp d,⟨p,.t ct y⟩)]
def cellsOf (s c:Nat):List TypeId→List T→List (Key×Ent)
 | ty::tys,x::xs=>(cell s c,top (.t ty x))::cellsOf s (c+1) tys xs
 | _,_=>[]
def setCells (x:T) (c:Nat):List T→T
 | []=>x
 | y::r=>setCells (x.setCell c y) (c+1) r
def rh (x:T) (n:Nat):List T:=(List.range n).map fun j=>x.cell j
def qh:List (Key×Ent)→List Key
 | []=>[]
 | (k,_)::r=>k::qh r
abbrev Bc:=Option Nat×AV
def fld (d n q:Nat):Key:=comp d ((n+1)*1000+q)
def QW (a:Operand) (f:Nat→TypeId→List T→R) (r:R):R:=match a with
 | .tmp s=>.get (pp s) fun
  | some ⟨[],.own c _ xs⟩=>f s c xs
  | _=>r
 | _=>r
def FL:List Bc→Nat→List TypeId→List T→List Bc
 | as_,off,ty::tys,x::xs=>FL (as_.set off (none,.t ty x)) (off+1) tys xs
 | as_,_,_,_=>as_
def Sb (fs:List (Nat×TypeId)):List (Nat×Operand)→List Bc→(List Bc→R)→R
 | [],as_,k=>k as_
 | (j,a)::r,as_,k=>match fs[j]? with
  | some (off,ft)=>match C.tab.at ft with
   | some (cf,tf)=>QW a (fun s c xs=>match Nat.beq c cf with
     | true=>Sb fs r (as_.set off (some s,.own c 0 xs)) k
     | false=>pP) (asT C [] a ft fun c v ws=>match Nat.beq c cf,ws with
     | true,[]=>Sb fs r (FL as_ off (tf.lv cf) (rh v tf.cells)) k
     | _,_=>pP)
   | none=>pP
  | none=>pP
def HV (s:Nat):List Bc→Bool
 | []=>false
 | (some t,_)::r=>match Nat.beq s t with
  | true=>true
  | false=>HV s r
 | (none,_)::r=>HV s r
def Cd:List Bc→Bool
 | []=>true
 | (some t,_)::r=>match HV t r with
  | true=>false
  | false=>Cd r
 | (none,_)::r=>Cd r
def yl (d n:Nat):Nat→List TypeId→List T→List Bc
 | q,ty::tys,x::xs=>(none,match x,wP C.homes (fld d n q) with
   | .l [],true=>.own ty 0 []
   | x,_=>.t ty x)::yl d n (q+1) tys xs
 | _,_,_=>[]
def TQ (i:Nat):AV→AV
 | .own c _ xs=>.own c (i+1) xs
 | a=>a
def su (f:Nat→Key):List Bc→List (Key×Ent)
 | []=>[]
 | (some s,_)::r=>(f s,top .u)::su f r
 | (none,_)::r=>su f r
def vZ (f:Nat→Key) (i:Nat):Nat→List Bc→List (Key×Ent)
 | _,[]=>[]
 | q,(_,a)::r=>(f q,top (TQ i a))::vZ f i (q+1) r
def Ke (o:Oper):Bool:=match o.dst with
 | some d=>wP C.homes (pp d)
 | none=>false
def wv (t n:Nat):Nat→Nat→(List Bc→R)→R
 | 0,_,k=>k []
 | m+1,q,k=>.get (fld t n q) fun
  | some ⟨[],.t ty y⟩=>match C.tab.at ty with
   | some (_,tt)=>match tt.isS with
    | false=>wv t n m (q+1) fun as_=>k ((none,.t ty y)::as_)
    | true=>pP
   | none=>pP
  | some ⟨[],.own ty _ xs⟩=>wv t n m (q+1) fun as_=>k ((some q,.own ty 0 xs)::as_)
  | _=>pP
def Nz (v:Operand) (f:Nat→R) (r:R):R:=match v with
 | .tmp t=>.get (pp t) fun
  | some ⟨[],.tup _⟩=>f t
  | _=>r
 | _=>r
def Lo (i:Nat) (p:Path) (ty:TypeId) (a v:Operand):R :=
 match p with
 | _::_=>pP
 | []=>place C [] a fun
  | .box s c n=>match C.tab.at ty with
   | some (ct,ti)=>match decide (c+ti.cells≤n) with
    | true=>match ti.isS with
     | true=>Nz v (fun t=>match decide (ti.cells≤1000),decide (0<ti.cells) with
       | true,true=>wv C t ti.cells ti.cells 0 fun as_=>okR (su (fld t ti.cells) as_++vZ (fun q=>cell s (c+q)) i 0 as_)
       | _,_=>pP) (asT C [] v ty fun cv x ws=>match Nat.beq cv ct with
      | true=>okR (ws++cellsOf s c ti.leaves (rh x ti.cells))
      | false=>pP)
     | false=>xj C i (cell s c) v ty fun ws=>okR ws
    | false=>pP
   | none=>pP
  | .row h c xs tag j off=>match C.el c with
   | some e=>match C.tab.at e,C.tab.at ty with
    | some (ce,te),some (ct,ti)=>match tV (((te.lv ce).drop off).take ti.cells) (ti.lv ct) with
     | true=>asT C [] v ty fun cv x ws=>match Nat.beq cv ct,wP (qh ws) h with
      | true,false=>match te.isS,ti.isS with
       | true,_=>okR (ws++[(h,top (.own c tag (xs.set j (setCells (xs.getD j .u) off (rh x ti.cells)))))])
       | false,false=>okR (ws++[(h,top (.own c tag (xs.set j x)))])
       | false,true=>pP
      | _,_=>pP
     | false=>pP
    | _,_=>pP
   | none=>pP
  | .tree ..=>pP
def qv (op:BinOp) (k:IntKind) (x y:Int):Int :=
 match op with
 | .and=>k.wrap (BitVec.ofInt k.bits x &&& BitVec.ofInt k.bits y).toNat
 | .or=>k.wrap (BitVec.ofInt k.bits x ||| BitVec.ofInt k.bits y).toNat
 | .xor=>k.wrap (BitVec.ofInt k.bits x ^^^ BitVec.ofInt k.bits y).toNat
 | _=>k.wrap (BitVec.ofInt k.bits x &&& ~~~BitVec.ofInt k.bits y).toNat
def zp (k:IntKind) (x y:Int):Int:=k.wrap (x*2 ^ (min y.toNat k.bits))
def sE (k:IntKind) (x y:Int):Int:=x.fdiv (2 ^ (min y.toNat k.bits))
def pL (k:IntKind) (x y:Int):Int:=k.wrap (x+y)
def qc (k:IntKind) (x y:Int):Int:=k.wrap (x-y)
def zk (k:IntKind) (x y:Int):Int:=k.wrap (x*y)
def uQ (k:IntKind) (x y:Int):Int:=k.wrap (x.tdiv y)
def uA (x y:Int):Int:=x.tmod y
def pG (k:IntKind) (x:Int):Int:=k.wrap x
def eqI (x y:Int):Bool:=x == y
def neI (x y:Int):Bool:=x != y
def ltI (x y:Int):Bool:=decide (x<y)
def leI (x y:Int):Bool:=decide (x≤y)
def xk (x y:Int):Int:=if y > x then y else x
def xT (x y:Int):Int:=if y<x then y else x
def BG (op:BinOp) (y:Int):Option Prop :=
 match op with
 | .quo | .rem=>some (y≠0)
 | .shl | .shr=>some (0≤y)
 | _=>none
def arith (op:BinOp) (k:IntKind) (x y:Int):T :=
 match op with
 | .add=>.i k (pL k x y)
 | .sub=>.i k (qc k x y)
 | .mul=>.i k (zk k x y)
 | .quo=>.i k (uQ k x y)
 | .rem=>.i k (uA x y)
 | .and=>.i k (qv .and k x y)
 | .or=>.i k (qv .or k x y)
 | .xor=>.i k (qv .xor k x y)
 | .andNot=>.i k (qv .andNot k x y)
 | .shl=>.i k (zp k x y)
 | .shr=>.i k (sE k x y)
 | .eql=>.b (eqI x y)
 | .neq=>.b (neI x y)
 | .lss=>.b (ltI x y)
 | .leq=>.b (leI x y)
 | .gtr=>.b (ltI y x)
 | .geq=>.b (leI y x)
def yM:BinOp→Bool
 | .shl | .shr=>true
 | _=>false
def Ms:BinOp→Bool
 | .eql | .neq | .lss | .leq | .gtr | .geq=>true
 | _=>false
def we (ty:TypeId) (f:TypeId→TI→R):R:=match C.tab.at ty with
 | some (c,ti)=>f c ti
 | none=>pP
def NO:Tab→TypeId
 | []=>0
 | (_,c,ti)::r=>match ti.k with
  | .bool=>c
  | _=>NO r
def KY (op:BinOp) (ty:TypeId) (f:TypeId→TI→R):R:=match C.tab.at ty with
 | some (c,ti)=>f c ti
 | none=>match Ms op,C.tab.at (NO C.tab) with
  | true,some (c,ti)=>f c ti
  | _,_=>pP
def Fd:Operand→Bool
 | .const v=>tZ v
 | _=>false
def IK (x:T) (y:T):Prop:=y.bool=true→x.list=[]
def Uu (p:Path) (o:Oper) (op:BinOp) (xt:TypeId) (x y:Operand) (yt:TypeId):R :=
 qy C o.dst p fun d=>FK C p x xt fun cx vx=>FK C p y yt fun cy vy=>KY C op o.type fun cr tr =>
  match C.ik cx,C.ik cy with
  | some k,some k'=>match yM op || decide (k=k') with
   | true=>match Ms op with
    | true=>match tr.k with
     | .bool=>.ret (.upd (BG op vy.int) [(pp d,⟨p,.t cr (arith op k vx.int vy.int)⟩)])
     | _=>pP
    | false=>match tr.k with
     | .int k2=>match decide (k2=k) with
      | true=>.ret (.upd (BG op vy.int) [(pp d,⟨p,.t cr (arith op k vx.int vy.int)⟩)])
      | false=>pP
     | _=>pP
   | false=>pP
  | _,_=>match C.kd cx,C.kd cy,C.kd xt,tr.k with
   | .bool,.bool,.bool,.bool=>match op with
    | .eql=>okR [(pp d,⟨p,.t cr (.b (vx.bool == vy.bool))⟩)]
    | .neq=>okR [(pp d,⟨p,.t cr (.b (!(vx.bool == vy.bool)))⟩)]
    | _=>pP
   | .sl _,.sl _,.sl _,.bool=>match Fd y,op with
    | true,.eql=>.ret (.all (IK vx) (pp d) (fun y=>⟨p,.t cr (.b y.bool)⟩))
    | true,.neq=>.ret (.all (IK vx) (pp d) (fun y=>⟨p,.t cr (.b (!y.bool))⟩))
    | _,_=>pP
   | _,_,_,_=>pP
def unR (p:Path) (o:Oper) (op:UnOp) (xt:TypeId) (x:Operand):R :=
 qy C o.dst p fun d=>FK C p x xt fun cx vx=>we C o.type fun cr tr =>
  match op,C.kd cx,tr.k with
  | .not,.bool,.bool=>okR [(pp d,⟨p,.t cr (.b (!vx.bool))⟩)]
  | .neg,.int k,.int k'=>match decide (k=k') with
   | true=>okR [(pp d,⟨p,.t cr (.i k (qc k 0 vx.int))⟩)]
   | false=>pP
  | .xor,.int k,.int k'=>match decide (k=k') with
   | true=>okR [(pp d,⟨p,.t cr (.i k (qv .xor k (if k.signed then -1 else k.max) vx.int))⟩)]
   | false=>pP
  | _,_,_=>pP
def OQ (p:Path) (o:Oper) (src dst:TypeId) (x:Operand):R :=
 qy C o.dst p fun d=>FK C p x src fun cx vx=>we C dst fun cr tr =>
  match C.kd cx,tr.k with
  | .int _,.int k=>match C.tab.at src with
   | some _=>okR [(pp d,⟨p,.t cr (.i k (pG k vx.int))⟩)]
   | none=>pP
  | _,_=>pP
def Ak (s:ByteArray) (i:Int):Int:=((s.data.toList.getD i.toNat 0).toNat:Int)
def UM (p:Path) (o:Oper) (xt:TypeId) (x ix:Operand):R :=
 qy C o.dst p fun d=>FK C p ix 3 fun ci vi=>FK C p x xt fun cx vx=>we C o.type fun cr tr =>
  match C.ik ci,C.kd cx,C.kd xt,tr.k with
  | some _,.str,.str,.int .u8=>IF (0≤vi.int∧vi.int<(vx.str.size:Int)) [(pp d,⟨p,.t cr (.i .u8 (Ak vx.str vi.int))⟩)]
  | _,_,_,_=>pP
def room:Nat:=140737488355328
def lenOf (xs:List T):Int:=(xs.length:Int)
def Kf (p:Path) (o:Oper) (xt:TypeId) (x ix:Operand):R :=
 qy C o.dst p fun d=>FK C p ix 3 fun ci vi=>match C.ik ci with
  | none=>pP
  | some _=>match C.el xt with
   | none=>pP
   | some e=>opnd C p x xt fun ko a=>match a with
    | .t c v=>match C.el c,C.tab.at e with
     | some e',some (ce,_)=>match Nat.beq e e' with
      | true=>IF (0≤vi.int∧vi.int<lenOf v.list) [(pp d,⟨p,.pl ce (v.list.getD vi.int.toNat .u) 0⟩)]
      | false=>pP
     | _,_=>pP
    | .alias h tag c off len=>match C.el c with
     | some e'=>match Nat.beq e e' with
      | true=>tK h tag fun _ _=>IF (0≤vi.int∧vi.int<(len:Int)) [(pp d,⟨p,.eptr h tag (off+vi.int.toNat) 0⟩)]
      | false=>pP
     | none=>pP
    | .own c tag xs=>match C.el c,ko with
     | some e',some (k,[])=>match Nat.beq e e' with
      | true=>IF (0≤vi.int∧vi.int<lenOf xs) [(pp d,⟨p,.eptr k tag vi.int.toNat 0⟩)]
      | false=>pP
     | _,_=>pP
    | _=>pP
def zh (p:Path) (x:Option Operand) (dflt:Int) (f:Int→R):R :=
 match x with
 | none=>f dflt
 | some x=>FK C p x 3 fun c v=>match C.ik c with
  | some _=>f v.int
  | none=>pP
def vM:Option Operand→Bool
 | none=>true
 | some (.const (.int _ n))=>match n with
  | .ofNat m=>Nat.beq m 0
  | _=>false
 | _=>false
def uU (i:Nat) (p:Path) (o:Oper) (xt:TypeId) (x:Operand) (lo hi mx:Option Operand):R :=
 match C.el xt with
 | none=>pP
 | some e=>qy C o.dst p fun d=>opnd C p x xt fun ko a=>match mx with
  | some m=>match vM lo,vM hi,vM (some m),hi,p with
   | true,true,true,some _,[]=>match a with
    | .t c _=>match C.el c with
     | some e'=>match Nat.beq e e' with
      | true=>okR [(pp d,top (.own c (i+1) []))]
      | false=>pP
     | none=>pP
    | _=>pP
   | _,_,_,_,_=>pP
  | none=>match a with
   | .t c v=>match C.el c with
    | some e'=>match Nat.beq e e' with
     | true=>zh C p lo 0 fun l=>zh C p hi (lenOf v.list) fun h =>
      IF (0≤l∧l≤h∧h≤lenOf v.list) [(pp d,⟨p,.t c (.l ((v.list.drop l.toNat).take (h-l).toNat))⟩)]
     | false=>pP
    | none=>pP
   | .alias k tag c off len=>match C.el c with
    | some e'=>match Nat.beq e e' with
     | true=>tK k tag fun _ _=>zh C p lo 0 fun l=>zh C p hi (len:Int) fun h =>
      IF (0≤l∧l≤h∧h≤(len:Int)) [(pp d,⟨p,.alias k tag c (match vM lo with | true=>off | false=>off+l.toNat) (h-l).toNat⟩)]
     | false=>pP
    | none=>pP
   | _=>pP
def UI (p:Path) (o:Oper) (xt:TypeId) (x:Operand):R :=
 qy C o.dst p fun d=>we C o.type fun cr tr=>match tr.k with
  | .int .i64=>opnd C p x xt fun _ a=>match a with
   | .t c v=>match C.kd c,C.kd xt with
    | .sl _,.sl _=>okR [(pp d,⟨p,.t cr (.i .i64 (lenOf v.list))⟩)]
    | .str,.str=>okR [(pp d,⟨p,.t cr (.i .i64 (v.str.size:Int))⟩)]
    | _,_=>pP
   | .alias h tag _ _ len=>match C.kd xt with
    | .sl _=>tK h tag fun _ _=>okR [(pp d,⟨p,.t cr (.i .i64 (len:Int))⟩)]
    | _=>pP
   | .own _ _ xs=>match C.kd xt with
    | .sl _=>okR [(pp d,⟨p,.t cr (.i .i64 (lenOf xs))⟩)]
    | _=>pP
   | _=>pP
  | _=>pP
def QH (i:Nat) (p:Path) (o:Oper) (ty:TypeId) (l c:Operand):R :=
 match p with
 | _::_=>pP
 | []=>qy C o.dst [] fun d=>FK C [] l 3 fun cl vl=>FK C [] c 3 fun cc vc=>we C ty fun cr tr =>
  match C.ik cl,C.ik cc,tr.k.elem with
  | some _,some _,some e=>match C.tab.at e with
   | some (_,te)=>IF (0≤vl.int∧vl.int≤vc.int∧(te.bytes:Int)*vc.int≤281474976710656∧vc.int≤9223372036854775807)
     [(pp d,top (.own cr (i+1) (List.replicate vl.int.toNat te.zero)))]
   | none=>pP
  | _,_,_=>pP
def B1 (e:TypeId):List (Nat×Operand)→List T→List (Key×Ent)→(List T→List (Key×Ent)→R)→R
 | [],xs,ws,k=>k xs ws
 | (j,x)::r,xs,ws,k=>asT C [] x e fun c v ws'=>match (C.tab.at e).map (·.1) with
  | some ce=>match Nat.beq c ce with
   | true=>match decide (j<xs.length) with
    | true=>B1 e r (xs.set j v) (ws++ws') k
    | false=>pP
   | false=>pP
  | none=>pP
def w8 (i:Nat) (p:Path) (o:Oper) (ty:TypeId) (n:Nat) (parts:Array (Nat×Operand)):R :=
 match p with
 | _::_=>pP
 | []=>qy C o.dst [] fun d=>we C ty fun cr tr=>match tr.k.elem with
  | some e=>match C.tab.at e with
   | some (_,te)=>match decide (n*te.cells≤16777216) with
    | true=>B1 C e parts.toList (List.replicate n te.zero) [] fun xs ws=>okR (ws++[(pp d,top (.own cr (i+1) xs))])
    | false=>pP
   | none=>pP
  | none=>pP
def w7 (p:Path) (o:Oper) (ty:TypeId) (n:Nat) (parts:Array (Nat×Operand)):R :=
 qy C o.dst p fun d=>we C ty fun cr tr=>match tr.k.elem with
  | some e=>match C.tab.at e with
   | some (_,te)=>match decide (n*te.cells≤16777216) with
    | true=>B1 C e parts.toList (List.replicate n te.zero) [] fun xs ws=>match ws with
     | []=>okR [(pp d,⟨p,.t cr (.l xs)⟩)]
     | _=>pP
    | false=>pP
   | none=>pP
  | none=>pP
def Av (p:Path) (fs:List (Nat×TypeId)):List (Nat×Operand)→T→List (Key×Ent)→(T→List (Key×Ent)→R)→R
 | [],x,ws,k=>k x ws
 | (j,a)::r,x,ws,k=>match fs[j]? with
  | some (off,ft)=>match C.tab.at ft with
   | some (cf,tf)=>asT C p a ft fun c v ws'=>match Nat.beq c cf with
    | true=>Av p fs r (setCells x off (rh v tf.cells)) (ws++ws') k
    | false=>pP
   | none=>pP
  | none=>pP
def Jc (p:Path) (o:Oper) (ty:TypeId) (parts:Array (Nat×Operand)):R :=
 qy C o.dst p fun d=>we C ty fun cr tr=>match tr.k with
  | .st fs=>Av C p fs parts.toList tr.zero [] fun x ws=>okR (ws++[(pp d,⟨p,.t cr x⟩)])
  | _=>pP
def DT (s c:Nat):Nat→Nat→(List Bc→R)→R
 | 0,_,k=>k []
 | m+1,q,k=>.get (cell s (c+q)) fun
  | some ⟨[],.t ty y⟩=>match C.tab.at ty with
   | some (_,tt)=>match tt.isS with
    | false=>DT s c m (q+1) fun as_=>k ((none,.t ty y)::as_)
    | true=>pP
   | none=>pP
  | some ⟨[],.own ty tag xs⟩=>DT s c m (q+1) fun as_=>k ((none,.alias (cell s (c+q)) tag ty 0 xs.length)::as_)
  | _=>pP
def QF (i:Nat) (o:Oper) (ty:TypeId) (a:Operand):R :=
 qy C o.dst [] fun d=>place C [] a fun
  | .box s c n=>match C.tab.at ty with
   | some (_,ti)=>match ti.isS,decide (c+ti.cells≤n),decide (ti.cells≤1000) with
    | true,true,true=>DT C s c ti.cells 0 fun as_=>okR ((pp d,top (.tup (i+1)))::vZ (fld d ti.cells) i 0 as_)
    | _,_,_=>pP
   | none=>pP
  | _=>pP
def Uz (i:Nat) (o:Oper) (ty:TypeId) (parts:Array (Nat×Operand)):R :=
 qy C o.dst [] fun d=>we C ty fun cr tr=>match tr.k,decide (tr.cells≤1000) with
  | .st fs,true=>Sb C fs parts.toList (yl C d tr.cells 0 tr.leaves (rh tr.zero tr.cells)) fun as_=>match Cd as_ with
   | true=>okR (su pp as_++(pp d,top (.tup (i+1)))::vZ (fld d tr.cells) i 0 as_)
   | false=>pP
  | _,_=>pP
def EC (i:Nat) (p:Path) (o:Oper) (st xt:TypeId) (s x:Operand):R :=
 match p with
 | _::_=>pP
 | []=>qy C o.dst [] fun d=>match Nat.beq st xt with
  | true=>we C st fun cs ts=>match ts.k.elem with
   | some e=>match C.tab.at e with
    | some (_,te)=>FK C [] x xt fun cx vx=>match Nat.beq cx cs with
     | true=>opnd C [] s st fun ko a=>match a with
      | .own c _ xs=>match Nat.beq c cs with
       | true=>match ko with
        | some (k,[])=>IF ((xs.length+vx.list.length)*te.bytes≤room∧xs.length+vx.list.length≤maxLen)
          [(k,top .u),(pp d,top (.own cs (i+1) (xs++vx.list)))]
        | some _=>pP
        | none=>IF ((xs.length+vx.list.length)*te.bytes≤room∧xs.length+vx.list.length≤maxLen)
          [(pp d,top (.own cs (i+1) (xs++vx.list)))]
       | false=>pP
      | .alias h tag c off len=>match Nat.beq c cs,Nat.beq off 0 with
       | true,true=>tK h tag fun _ xs=>IF (((xs.take len).length+vx.list.length)*te.bytes≤room∧(xs.take len).length+vx.list.length≤maxLen)
         [(h,top .u),(pp d,top (.own cs (i+1) (xs.take len++vx.list)))]
       | _,_=>pP
      | _=>pP
     | false=>pP
    | none=>pP
   | none=>pP
  | false=>pP
def zB (d:Nat) (i:Nat):Nat→List TypeId→List T→List (Key×Ent)
 | c,ty::tys,x::xs=>(cell d c,top (match x,wP C.homes (cell d c) with
   | .l [],true=>.own ty (i+1) []
   | x,_=>.t ty x))::zB d i (c+1) tys xs
 | _,_,_=>[]
def AM (d n:Nat) (r:R):R:=.get (pp d) fun
 | none=>r
 | some ⟨[],.box _ _ n'⟩=>match Nat.beq n n' with
  | true=>r
  | false=>pP
 | some _=>pP
def IQ (i:Nat) (p:Path) (o:Oper) (ty:TypeId):R :=
 match p with
 | _::_=>pP
 | []=>match o.dst with
  | none=>pP
  | some d=>match decide (d<C.nt) with
   | true=>we C ty fun cr tr=>AM d tr.cells (okR ((pp d,top (.box cr (i+1) tr.cells))::zB C d i 0 (tr.lv cr) (rh tr.zero tr.cells)))
   | false=>pP
def UB (i:Nat) (p:Path) (o:Oper) (ty:TypeId) (v:Operand):R :=
 match p with
 | _::_=>pP
 | []=>match o.dst with
  | none=>pP
  | some d=>match decide (d<C.nt) with
   | true=>we C ty fun cr tr=>asT C [] v ty fun cv x ws=>match Nat.beq cv cr with
    | true=>match Fp C.ro d with
     | true=>.get (pp d) fun
      | none=>okR (ws++[(pp d,top (.pl cr x 0))])
      | some _=>pP
     | false=>AM d tr.cells (okR (ws++(pp d,top (.box cr (i+1) tr.cells))::cellsOf d 0 (tr.lv cr) (rh x tr.cells)))
    | false=>pP
   | false=>pP
def zi (s:Nat):Nat→Nat→List (Key×Ent)
 | _,0=>[]
 | c,n+1=>(cell s c,top .u)::zi s (c+1) n
def NP (i d t:Nat) (cr:TypeId) (n:Nat):R:=.get (pp d) fun
 | none=>wv C t n n 0 fun as_=>okR ((pp d,top (.box cr 0 n))::(zi d 0 n++(su (fld t n) as_++vZ (cell d) i 0 as_)))
 | some _=>pP
def UA (i:Nat) (p:Path) (o:Oper) (ty:TypeId) (v:Operand):R:=Nz v (fun t=>match p,o.dst,C.tab.at ty with
 | [],some d,some (cr,tr)=>match decide (d<C.nt),decide (tr.cells≤1000),decide (0<tr.cells),tr.isS with
  | true,true,true,true=>NP C i d t cr tr.cells
  | _,_,_,_=>pP
 | _,_,_=>pP) (UB C i p o ty v)
def yE (p:Path) (o:Oper) (ty:TypeId) (x:Operand) (f:Nat):R :=
 qy C o.dst p fun d=>we C ty fun _ tr=>match tr.k with
  | .st fs=>match fs[f]? with
   | some (off,_)=>opnd C p x 0 fun ko a=>match a with
    | .ptr s tag c=>A2 c (A2 (c+off) (CU s tag fun _ _=>okR [(pp d,⟨p,.ptr s tag (c+off)⟩)]))
    | .box _ tag _=>match ko with
     | some (k,[])=>A2 off (okR [(pp d,⟨p,.ptr k.a tag off⟩)])
     | _=>pP
    | .eptr h tag i c=>tK h tag fun _ _=>okR [(pp d,⟨p,.eptr h tag i (c+off)⟩)]
    | .pl c x o'=>okR [(pp d,⟨p,.pl c x (o'+off)⟩)]
    | _=>pP
   | none=>pP
  | _=>pP
def Ku (i:Nat) (p:Path) (o:Oper) (x:Operand):R :=
 qy C o.dst p fun d=>opnd C p x o.type fun ko a=>match a with
  | .t c v=>okR [(pp d,⟨p,.t c v⟩)]
  | .own c tag xs=>match ko with
   | some (k,[])=>match qY C k.a with
    | true=>okR [(pp d,⟨p,.alias k tag c 0 xs.length⟩)]
    | false=>match p with
     | []=>okR [(k,top .u),(pp d,top (.own c (i+1) xs))]
     | _=>pP
   | some _=>pP
   | none=>match p with
    | []=>okR [(pp d,top (.own c (i+1) xs))]
    | _=>pP
  | .box _ tag _=>match ko with
   | some (k,[])=>okR [(pp d,⟨p,.ptr k.a tag 0⟩)]
   | _=>pP
  | .alias h tag c off len=>okR [(pp d,⟨p,.alias h tag c off len⟩)]
  | .ptr s tag c=>okR [(pp d,⟨p,.ptr s tag c⟩)]
  | .eptr h tag i c=>okR [(pp d,⟨p,.eptr h tag i c⟩)]
  | .pl c x off=>okR [(pp d,⟨p,.pl c x off⟩)]
  | .tup tag=>match ko with
   | some (k,_)=>okR [(pp d,⟨p,.tcp k.a tag⟩)]
   | none=>pP
  | _=>pP
def AO (p:Path) (o:Oper) (x:Operand):R :=
 qy C o.dst p fun d=>opnd C p x 0 fun ko a=>match a with
  | .box _ tag _=>match ko with
   | some (k,[])=>okR [(pp d,⟨p,.ptr k.a tag 0⟩)]
   | _=>pP
  | .ptr s tag c=>A2 c (CU s tag fun _ _=>okR [(pp d,⟨p,.ptr s tag c⟩)])
  | .eptr h tag i c=>tK h tag fun _ _=>okR [(pp d,⟨p,.eptr h tag i c⟩)]
  | .pl c x off=>okR [(pp d,⟨p,.pl c x off⟩)]
  | _=>pP
def als (d:Nat):Key:=⟨7,d,0⟩
def Co (i:Nat) (p:Path) (o:Oper) (x:Operand):R :=
 match p with
 | _::_=>pP
 | []=>match o.dst with
  | none=>pP
  | some d=>match decide (d<C.nt) with
   | true=>match qY C d with
    | true=>.get (pp d) fun
     | none=>opnd C [] x o.type fun _ a=>match a with
      | .box .. | .ptr .. | .pl ..=>Ku C i [] o x
      | .alias ..=>match wP C.homes (als d) with
       | true=>Ku C i [] o x
       | false=>xj C i (pp d) x o.type fun ws=>okR ws
      | _=>xj C i (pp d) x o.type fun ws=>okR ws
     | some e=>match e.av with
      | .box .. | .tup _=>pP
      | _=>xj C i (pp d) x o.type fun ws=>okR ws
    | false=>pP
   | false=>pP
def wH (p:Path) (s:Nat) (want:Bool) (x:Operand) (ty:TypeId) (k:TypeId→T→R):R :=
 opnd C (p++[(s,want)]) x ty fun _ a=>match a with
  | .t c v=>k c v
  | _=>pP
def Q3 (p:Path) (o:Oper) (c a b:Operand):R :=
 qy C o.dst p fun d=>match c with
  | .tmp s=>match qY C s with
   | true=>pP
   | false=>opnd C p c 0 fun _ ac=>match ac with
    | .t cc vc=>match C.kd cc with
     | .bool=>wH C p s true a o.type fun ca va=>wH C p s false b o.type fun cb vb=>match Nat.beq ca cb with
      | true=>okR [(pp d,⟨p,.t ca (T.ite vc.bool va vb)⟩)]
      | false=>pP
     | _=>pP
    | _=>pP
  | _=>pP
def exI:Bool→Int→Int→Int
 | true=>xk
 | false=>xT
def exB:Bool→Builtin
 | true=>.max
 | false=>.min
def EZ (f:Int→Int→Int) (x:Int):List (TypeId×T)→Int
 | []=>x
 | y::r=>EZ f (f x y.2.int) r
def F1 (k:IntKind):List (TypeId×T)→Bool
 | []=>true
 | (c,_)::r=>match C.ik c with
  | some k'=>match decide (k=k') with
   | true=>F1 k r
   | false=>false
  | none=>false
def zE (p:Path) (o:Oper) (isMax:Bool) (args:List (Operand×TypeId)):R :=
 qy C o.dst p fun d=>we C o.type fun cr tr=>match tr.k with
  | .int k=>Nf C p args fun l=>match l with
   | []=>pP
   | x::r=>match F1 C k (x::r) with
    | true=>okR [(pp d,⟨p,.t cr (.i k (EZ (exI isMax) x.2.int r))⟩)]
    | false=>pP
  | _=>pP
def vf (i:Nat) (p:Path) (d s ix:Nat):R:=match Nat.blt ix 1000 with
 | false=>pP
 | true=>.get (comp s ix) fun
  | some e'=>match e'.path.sub p with
   | true=>match e'.av with
    | .t c v=>okR [(pp d,⟨p,.t c v⟩)]
    | .own c _ xs=>match p,e'.path with
     | [],[]=>okR [(comp s ix,top .u),(pp d,top (.own c (i+1) xs))]
     | _,_=>pP
    | .ptr s' tag c=>okR [(pp d,⟨p,.ptr s' tag c⟩)]
    | _=>pP
   | false=>pP
  | none=>pP
def Cz (i:Nat) (p:Path) (o:Oper) (x:Operand) (ix:Nat):R :=
 qy C o.dst p fun d=>match x with
  | .tmp s=>.get (pp s) fun
   | some e=>match e.path.sub p with
    | true=>match e.av with
     | .tup _=>vf i p d s ix
     | .tcp s' tag=>.get (pp s') fun
      | some e2=>match e2.av with
       | .tup tag'=>match Nat.beq tag tag' with
        | true=>vf i p d s' ix
        | false=>pP
       | _=>pP
      | none=>pP
     | _=>pP
    | false=>pP
   | none=>pP
  | _=>pP
def Do (s:Nat):(c n:Nat)→(List AV→R)→R
 | _,0,k=>k []
 | c,n+1,k=>.get (cell s c) fun
  | some ⟨[],.t c' x⟩=>Do s (c+1) n fun l=>k (.t c' x::l)
  | some ⟨[],.own c' _ xs⟩=>Do s (c+1) n fun l=>k (.own c' 0 xs::l)
  | _=>pP
def vR (j s:Nat):(c:Nat)→List TypeId→List Bool→Shape×List (Key×Path)
 | c,ty::tys,w::ws=>match vR j s (c+1) tys ws with
  | (sh,ks)=>((cell j c,ty,w)::sh,(cell s c,[])::ks)
 | _,_,_=>([],[])
def BQ:List TypeId→Bool
 | []=>true
 | c::r=>match C.tab.at c with
  | some (_,ti)=>match ti.k with
   | .int _ | .bool | .str=>BQ r
   | _=>false
  | none=>false
structure Acc where
 args:List Arg
 fz:List (Key×Ent)
 tk:List Key
 ln:List Key
 bx:List (Nat×Nat×Nat)
 sh:Shape
 ks:List (Key×Path)
def Acc.nil:Acc:=⟨[],[],[],[],[],[],[]⟩
def Acc.arg (a:Arg) (x:Acc):Acc:={ x with args:=a::x.args }
def Acc.frz (k:Key) (e:Ent) (x:Acc):Acc:={ x with fz:=(k,e)::x.fz }
def Acc.lend (k:Key) (x:Acc):Acc:={ x with ln:=k::x.ln }
def Acc.lends (ks:List Key) (x:Acc):Acc:={ x with ln:=ks++x.ln }
def Acc.take (k:Key) (x:Acc):Acc:={ x with tk:=k::x.tk }
def Acc.box (j s n:Nat) (sh:Shape) (ks:List (Key×Path)) (x:Acc):Acc:={ x with bx:=(j,s,n)::x.bx,sh:=sh++x.sh,ks:=ks++x.ks }
def v8:List Key→Bool
 | []=>true
 | k::r=>match wP r k with
  | true=>false
  | false=>v8 r
def xA:List Key→List Key→Bool
 | [],_=>true
 | k::r,l=>match wP l k with
  | true=>false
  | false=>xA r l
def tw (s:Nat):Nat→Nat→List Key
 | _,0=>[]
 | c,n+1=>cell s c::tw s (c+1) n
def qI:List (Nat×Nat×Nat)→List Key
 | []=>[]
 | (_,s,n)::r=>pp s::(tw s 0 n++qI r)
def sV:Shape→List Key
 | []=>[]
 | (k,_,_)::r=>k::sV r
def qP:List (Key×Path)→List Key
 | []=>[]
 | (k,_)::r=>k::qP r
def Acc.ok (a:Acc) (sh:Shape) (ks:List (Key×Path)):Bool :=
 match v8 (a.tk++qI a.bx),xA (a.tk++qI a.bx) (qh a.fz),xA (a.tk++qI a.bx) a.ln,v8 (sV sh),v8 (qP ks),Nat.beq sh.length ks.length with
 | true,true,true,true,true,true=>true
 | _,_,_,_,_,_=>false
def wj:List Key→List (Key×Ent)
 | []=>[]
 | k::r=>(k,top .u)::wj r
def I8 (j s:Nat) (c:TypeId) (n:Nat) (flags:List Bool) (k:Arg→Nat→Shape→List (Key×Path)→R):R :=
 Do s 0 n fun cs=>match C.tab.at c with
  | some (_,tc)=>match vR j s 0 (tc.lv c) flags with
   | (sh,ks)=>match Nat.beq sh.length n with
    | true=>k (.box c n cs) n sh ks
    | false=>pP
  | none=>pP
def AA (t n:Nat):Nat→List TypeId→(List T→List Key→R)→R
 | _,[],k=>k [] []
 | q,ty::tys,k=>.get (fld t n q) fun
  | some ⟨[],.t c y⟩=>match Nat.beq c ty with
   | true=>AA t n (q+1) tys fun xs ks=>k (y::xs) ks
   | false=>pP
  | some ⟨[],.alias h tag c off len⟩=>match Nat.beq c ty with
   | true=>tK h tag fun _ ys=>AA t n (q+1) tys fun xs ks=>k (.l ((ys.drop off).take len)::xs) (h::ks)
   | false=>pP
  | _=>pP
def Tt (ko:Option (Key×Path)) (p:Path) (keep:Bool) (ty:TypeId) (k:TypeId→List T→List Key→R):R:=match p,keep,ko,C.tab.at ty with
 | [],true,some (key,[]),some (c,ti)=>match ti.isS,decide (ti.cells≤1000) with
  | true,true=>AA key.a ti.cells 0 ti.leaves fun xs ks=>k c xs ks
  | _,_=>pP
 | _,_,_,_=>pP
def uk (m:Mode) (p:Path) (keep:Bool):(j:Nat)→List (Operand×TypeId)→(Acc→R)→R
 | _,[],k=>k .nil
 | j,(x,ty)::r,k=>opnd C p x ty fun ko a=>match look m.boxes j with
  | some flags=>match p with
   | _::_=>pP
   | []=>match a,ko with
    | .box c _ n,some (key,[])=>I8 C j key.a c n flags fun a n sh ks=>uk m p keep (j+1) r fun acc=>k ((acc.arg a).box j key.a n sh ks)
    | .ptr s tag 0,_=>CU s tag fun c n=>I8 C j s c n flags fun a n sh ks=>uk m p keep (j+1) r fun acc=>k ((acc.arg a).box j s n sh ks)
    | _,_=>pP
  | none=>match m.ins.getD j false with
   | true=>match p with
    | _::_=>pP
    | []=>match a with
     | .own c _ xs=>match ko with
      | some (key,[])=>uk m p keep (j+1) r fun acc=>k ((acc.arg (.own c xs)).take key)
      | some _=>pP
      | none=>uk m p keep (j+1) r fun acc=>k (acc.arg (.own c xs))
     | .alias h tag _ off len=>match Nat.beq off 0 with
      | true=>tK h tag fun c' xs=>uk m p keep (j+1) r fun acc=>k ((acc.arg (.own c' (xs.take len))).take h)
      | false=>pP
     | _=>pP
   | false=>match a with
    | .t c v=>uk m p keep (j+1) r fun acc=>k (acc.arg (.t c v))
    | .pl c v 0=>uk m p keep (j+1) r fun acc=>k (acc.arg (.pl c v))
    | .own c _ xs=>match ko with
     | some (key,[])=>match keep with
      | true=>uk m p keep (j+1) r fun acc=>k ((acc.arg (.t c (.l xs))).lend key)
      | false=>uk m p keep (j+1) r fun acc=>k ((acc.arg (.t c (.l xs))).frz key (top (.t c (.l xs))))
     | some _=>pP
     | none=>uk m p keep (j+1) r fun acc=>k (acc.arg (.t c (.l xs)))
    | .alias h tag c off len=>tK h tag fun c' xs=>match keep with
     | true=>uk m p keep (j+1) r fun acc=>k ((acc.arg (.t c (.l ((xs.drop off).take len)))).lend h)
     | false=>uk m p keep (j+1) r fun acc=>k ((acc.arg (.t c (.l ((xs.drop off).take len)))).frz h (top (.t c' (.l xs))))
    | .tup _=>Tt C ko p keep ty fun c xs ks=>uk m p keep (j+1) r fun acc=>k ((acc.arg (.t c (.g xs))).lends ks)
    | _=>pP
def sS (n:Nat):Nat→List TypeId→List Bool→Shape
 | j,ty::tys,w=>(comp n j,ty,w.headD false)::sS n (j+1) tys w.tail
 | _,[],_=>[]
def vC (d:Nat) (p:Path):Nat→List TypeId→List (Key×Path)
 | j,_::tys=>(comp d j,p)::vC d p (j+1) tys
 | _,[]=>[]
def sJ:Mode:=⟨[],[],[]⟩
def UU (m:Mode):Bool:=match m.boxes with
 | []=>true
 | _=>false
def uM (rs:List TypeId) (m:Mode):Bool:=match BQ C rs with
 | true=>UU m
 | false=>false
def wT (i:Nat) (f:Cal) (acc:Acc) (tup:List (Key×Ent)) (sh:Shape) (ks:List (Key×Path)):R:=match acc.ok sh ks with
 | true=>.ret (.call (i+1) f acc.args (acc.fz++(wj acc.tk++tup)) sh ks)
 | false=>pP
def Tl (f:Nat):Bool:=wP C.homes ⟨5,f,0⟩
def NL:List Key→Nat→Option Nat
 | [],_=>none
 | ⟨t,k,g⟩::r,n=>match Nat.beq t 4,Nat.beq k n with
  | true,true=>some g
  | _,_=>NL r n
def Cp (i f d s tag:Nat) (cf cb:TypeId) (v1:T):R:=match NL C.homes f with
 | none=>.ret (.bind f v1.int none [(pp d,top (.tup (i+1))),(comp d 0,top (.t cf .z)),(comp d 1,top (.t cb (.b false)))])
 | some g=>.ret (.bind f v1.int (some g) [(pp d,top (.tup (i+1))),(comp d 0,top (.ptr s tag (Df+g))),(comp d 1,top (.t cb (.b true)))])
def OG (i:Nat) (p:Path) (o:Oper) (f:FuncId) (args:List (Operand×TypeId)) (rs:List TypeId):R:=match p,args,rs with
 | [],[(x0,t0),(x1,t1)],[rf,rb]=>qy C o.dst [] fun d=>opnd C [] x0 t0 fun ko a=>FK C [] x1 t1 fun c1 v1=>match C.tab.at rf,C.tab.at rb with
  | some (cf,tf),some (cb,tb)=>match tf.k,tb.k,C.kd c1 with
   | .fn,.bool,.int .i64=>match a,ko with
    | .box _ tag _,some (k,[])=>Cp C i f d k.a tag cf cb v1
    | .ptr s tag 0,_=>CU s tag fun _ _=>Cp C i f d s tag cf cb v1
    | _,_=>pP
   | _,_,_=>pP
  | _,_=>pP
 | _,_,_=>pP
def Ji (i:Nat) (p:Path) (o:Oper) (g s:Nat) (cB:TypeId) (n:Nat) (args:List (Operand×TypeId)):R:=match p,look C.sigs g,look C.modes g with
 | [],some (_,r1::r2::rs),some m=>match look m.boxes 0 with
  | some flags=>qy C o.dst [] fun d=>I8 C 0 s cB n flags fun a n sh ks=>uk C m [] false 1 args fun acc =>
    wT i (.f g) ((acc.arg a).box 0 s n sh ks) [(pp d,⟨[],.tup (i+1)⟩)] (sS (args.length+1) 0 (r1::r2::rs) m.own++((acc.arg a).box 0 s n sh ks).sh) (vC d [] 0 (r1::r2::rs)++((acc.arg a).box 0 s n sh ks).ks)
  | none=>pP
 | _,_,_=>pP
def To (f:Nat):Bool:=wP C.homes ⟨6,f,0⟩
def RH (p:Path) (o:Oper) (f:FuncId) (args:List (Operand×TypeId)):R:=match p,args with
 | [],[(x0,_)]=>qy C o.dst [] fun d=>place C [] x0 fun
  | .box s 0 _=>.get (cell s 0) fun
   | some ⟨[],.own c' tag xs⟩=>.get (cell s 1) fun
    | some ⟨[],.t c1 x1⟩=>match C.kd c1 with
     | .int .i64=>.ret (.view f x1.int [(pp d,⟨[],.alias (cell s 0) tag c' 0 xs.length⟩)])
     | _=>pP
    | _=>pP
   | _=>pP
  | _=>pP
 | _,_=>pP
def OO (i:Nat) (p:Path) (o:Oper) (f:FuncId) (args:List (Operand×TypeId)):R :=
 match look C.sigs f with
 | none=>pP
 | some (_,rs)=>match Tl C f with
 | true=>OG C i p o f args rs
 | false=>match To C f with
 | true=>RH C p o f args
 | false=>match (look C.modes f).getD sJ with
  | m=>match rs with
   | []=>match o.dst with
    | none=>uk C m p (uM C [] m) 0 args fun acc=>wT i (.f f) acc [] acc.sh acc.ks
    | some _=>qy C o.dst p fun _=>uk C m p (uM C [] m) 0 args fun acc=>wT i (.f f) acc [] acc.sh acc.ks
   | [r]=>qy C o.dst p fun d=>uk C m p (uM C [r] m) 0 args fun acc =>
     wT i (.f f) acc [] ((pp args.length,r,m.own.headD false)::acc.sh) ((pp d,p)::acc.ks)
   | rs=>qy C o.dst p fun d=>uk C m p (uM C rs m) 0 args fun acc =>
     wT i (.f f) acc [(pp d,⟨p,.tup (i+1)⟩)] (sS args.length 0 rs m.own++acc.sh) (vC d p 0 rs++acc.ks)
def Acc.Dc (xs:List T) (a:Acc):Acc:={ a with args:=a.args++xs.map F5 }
def Jj (i:Nat) (p:Path) (o:Oper) (x:Operand) (args:List (Operand×TypeId)):R :=
 opnd C p x 0 fun _ a=>match a with
  | .t c v=>match C.kd c with
   | .fn=>match C.tab.at o.type with
    | some (r,_)=>qy C o.dst p fun d=>uk C sJ p (uM C [r] sJ) 0 args fun acc =>
      wT i (.v v) (acc.Dc v.caps) [] [(pp (args.length+v.caps.length),r,false)] [(pp d,p)]
    | none=>pP
   | _=>pP
  | .ptr s tag c=>match Nat.ble Df c with
   | true=>CU s tag fun cB n=>Ji C i p o (c-Df) s cB n args
   | false=>pP
  | _=>pP
def LZ (p:Path):List Operand→(List T→R)→R
 | [],k=>k []
 | x::r,k=>opnd C p x 0 fun _ a=>match a with
  | .pl c y 0=>LZ p r fun l=>k (.e c y::l)
  | _=>pP
def AG (p:Path) (o:Oper) (f:FuncId) (first captured:Array Operand):R :=
 qy C o.dst p fun d=>match first.toList,C.tab.at o.type with
  | [],some (c,ti)=>match ti.k with
   | .fn=>LZ C p captured.toList fun l=>okR [(pp d,⟨p,.t c (.f f l)⟩)]
   | _=>pP
  | _,_=>pP
def uW:List Operand→List TypeId→List (Operand×TypeId)
 | x::xs,t::ts=>(x,t)::uW xs ts
 | _,_=>[]
def RV (c:Call) (k:List (Operand×TypeId)→R):R:=match Nat.beq (uW c.args.toList c.argTypes.toList).length c.args.size with
 | true=>k (uW c.args.toList c.argTypes.toList)
 | false=>pP
def Tn:Option Nat→Bool
 | some d=>qY C d
 | none=>false
def dead (d:Nat):Key:=⟨9,d,0⟩
def OW (p:Path) (o:Oper):Bool:=match p,o.dst with
 | _::_,some d=>wP C.homes (dead d)
 | _,_=>false
def Sm (p:Path) (o:Oper):R:=qy C o.dst p fun d=>we C o.type fun cr _=>IF False [(pp d,⟨p,.t cr .u⟩)]
def opR (i:Nat) (p:Path) (o:Oper):R:=match OW C p o with
 | true=>Sm C p o
 | false=>match o.op with
 | .move x=>match Tn C o.dst with
  | true=>Co C i p o x
  | false=>Ku C i p o x
 | .assign x=>Co C i p o x
 | .pick c a b=>Q3 C p o c a b
 | .alloc ty=>IQ C i p o ty
 | .box ty v=>UA C i p o ty v
 | .build ty parts=>match p,Ke C o with
  | [],true=>Uz C i o ty parts
  | _,_=>Jc C p o ty parts
 | .buildSlice ty n parts=>match p with
  | []=>w8 C i [] o ty n parts
  | q::p=>w7 C (q::p) o ty n parts
 | .load ty a=>match p,Ke C o with
  | [],true=>QF C i o ty a
  | _,_=>QG C p o ty a
 | .store ty a v=>match o.dst with
  | none=>Lo C i p ty a v
  | some _=>pP
 | .nilCheck x=>AO C p o x
 | .binOp op xt x y yt=>Uu C p o op xt x y yt
 | .unOp op xt x=>unR C p o op xt x
 | .convert src dst x=>OQ C p o src dst x
 | .makeSlice ty l c=>QH C i p o ty l c
 | .slice xt x lo hi mx=>uU C i p o xt x lo hi mx
 | .fieldAddr ty x f=>yE C p o ty x f
 | .indexAddr xt x ix=>Kf C p o xt x ix
 | .index xt x ix=>UM C p o xt x ix
 | .extract x ix=>Cz C i p o x ix
 | .makeFunc (.func f) first captured=>AG C p o f first captured
 | .call c=>match c.callee with
  | .value (.func f)=>RV c fun l=>OO C i p o f l
  | .value (.tmp s)=>RV c fun l=>Jj C i p o (.tmp s) l
  | .builtin .len=>match c.args.toList,c.argTypes.toList with
   | [x],[xt]=>UI C p o xt x
   | _,_=>pP
  | .builtin .append=>match c.args.toList,c.argTypes.toList with
   | [s,x],[st,xt]=>EC C i p o st xt s x
   | _,_=>pP
  | .builtin .max=>RV c fun l=>zE C p o true l
  | .builtin .min=>RV c fun l=>zE C p o false l
  | _=>pP
 | _=>pP
inductive L (tab:Tab) (w:World) (O:Nat→Prop):TypeId→Value→T→Prop where
 | bool {c:TypeId} {ti:TI} {x:Bool} (h:tab.at c=some (c,ti)) (hk:ti.k=.bool):L tab w O c (.bool x) (.b x)
 | int {c:TypeId} {ti:TI} {k:IntKind} {n:Int} (h:tab.at c=some (c,ti)) (hk:ti.k=.int k) (hn:k.wrap n=n):L tab w O c (.int k n) (.i k n)
 | str {c:TypeId} {ti:TI} {x:ByteArray} (h:tab.at c=some (c,ti)) (hk:ti.k=.str) (hs:x.size≤maxLen):L tab w O c (.string x) (.s x)
 | nil {c:TypeId} {ti:TI} {e:TypeId} (h:tab.at c=some (c,ti)) (hk:ti.k=.sl e):L tab w O c (.slice none 0 0) (.l [])
 | sl {c:TypeId} {ti:TI} {e ce:TypeId} {te:TI} {a:Go.Addr} {cap:Nat} {xs:List T} (h:tab.at c=some (c,ti)) (hk:ti.k=.sl e) (he:tab.at e=some (ce,te))
   (hp:0<te.cells) (B_:xs.length≤cap) (hm:cap≤maxLen) (ho:0<xs.length→¬ O a.block) (vs:Nat→Nat→Value)
   (hg:∀(j:Nat) (x:T),xs[j]?=some x→x.isG=te.isS∧x.leaves.length=te.cells)
   (hv:∀(j:Nat) (x:T) (n:Nat) (y:T),xs[j]?=some x→x.leaves[n]?=some y→w.cell? (a.add (j*te.cells+n))=some (vs j n))
   (hl:∀(j:Nat) (x:T) (n:Nat) (y:T) (ty:TypeId),xs[j]?=some x→x.leaves[n]?=some y→(te.lv ce)[n]?=some ty→L tab w O ty (vs j n) y) :
   L tab w O c (.slice (some a) xs.length cap) (.l xs)
 | ptr {c:TypeId} {ti:TI} {e:TypeId} (h:tab.at c=some (c,ti)) (hk:ti.k=.ptr e):L tab w O c (.pointer none) .z
 | ifc {c:TypeId} {ti:TI} (h:tab.at c=some (c,ti)) (hk:ti.k=.ifc):L tab w O c .nilIface .z
 | fn {c:TypeId} {ti:TI} (h:tab.at c=some (c,ti)) (hk:ti.k=.fn):L tab w O c .nilFunc .z
 | fnc {c:TypeId} {ti:TI} {f:FuncId} {xs:List T} {caps:Array Value} (h:tab.at c=some (c,ti)) (hk:ti.k=.fn) (hn:caps.size=xs.length) (ad:Nat→Go.Addr) (ts:Nat→T) (tys:Nat→TypeId) (tis:Nat→TI) (vs:Nat→Nat→Value)
   (hx:∀(j:Nat) (x:T),xs[j]?=some x→x=.e (tys j) (ts j)∧caps[j]?=some (.pointer (some (ad j)))∧tab.at (tys j)=some (tys j,tis j)∧(ts j).isG=(tis j).isS∧(ts j).leaves.length=(tis j).cells∧0<(tis j).cells∧¬ O (ad j).block)
   (hv:∀(j n:Nat) (y:T),j<xs.length→(ts j).leaves[n]?=some y→w.cell? ((ad j).add n)=some (vs j n))
   (hl:∀(j n:Nat) (y:T) (ty:TypeId),j<xs.length→(ts j).leaves[n]?=some y→((tis j).lv (tys j))[n]?=some ty→L tab w O ty (vs j n) y) :
   L tab w O c (.func (.func f) #[] caps) (.f f xs)
def isAgg:Value→Bool
 | .agg _=>true
 | _=>false
def V (tab:Tab) (w:World) (O:Nat→Prop) (c:TypeId) (v:Value) (x:T):Prop :=
 ∃ti,tab.at c=some (c,ti)∧x.isG=ti.isS∧isAgg v=ti.isS∧v.cells.size=ti.cells∧x.leaves.length=ti.cells ∧
  ∀(j:Nat) y ty,x.leaves[j]?=some y→(ti.lv c)[j]?=some ty→∃u,v.cells[j]?=some u∧L tab w O ty u y
def At (tab:Tab) (w:World) (O:Nat→Prop) (c:TypeId) (a:Go.Addr) (x:T):Prop :=
 ∃ti,tab.at c=some (c,ti)∧x.isG=ti.isS∧x.leaves.length=ti.cells∧¬ O a.block ∧
  ∀(j:Nat) y ty,x.leaves[j]?=some y→(ti.lv c)[j]?=some ty→∃u,w.cell? (a.add j)=some u∧L tab w O ty u y
def Own (tab:Tab) (w:World) (O:Nat→Prop) (c:TypeId) (v:Value) (g:Option Nat) (xs:List T):Prop :=
 ∃ti e ce te,tab.at c=some (c,ti)∧ti.k=.sl e∧tab.at e=some (ce,te)∧0<te.cells ∧
  ((g=none∧xs=[]∧∃a,v=.slice a 0 0) ∨
   ∃b cap cs,g=some b∧v=.slice (some ⟨b,0,none⟩) xs.length cap∧w.heap[b]?=some (.cells cs e (0,0))∧xs.length≤cap∧cap≤maxLen ∧
    cs.size=cap*te.cells∧∀(j:Nat) x,xs[j]?=some x→x.isG=te.isS∧x.leaves.length=te.cells ∧
     ∀(n:Nat) y ty,x.leaves[n]?=some y→(te.lv ce)[n]?=some ty→∃u,cs[j*te.cells+n]?=some u∧L tab w O ty u y)
def Sub (tab:Tab) (c:TypeId) (hv v:Value) (off len n:Nat):Prop :=
 ∃ti e ce te a cap a' cap',tab.at c=some (c,ti)∧ti.k=.sl e∧tab.at e=some (ce,te)∧hv=.slice a n cap∧v=.slice a' len cap'∧off+len≤n∧len≤cap'∧cap'≤cap ∧
  (off=0→a'=a∧cap'=cap)∧(a'=none→a=none)∧(0<len→∃b,a=some b∧a'=some (b.add (off*te.cells)))
def St.truth (σ:St) (s:Nat):Bool:=match σ.get (pp s) with
 | some e=>match e.av with
  | .t _ x=>x.bool
  | _=>false
 | none=>false
def St.Holds (σ:St):Path→Prop
 | []=>True
 | (s,w)::r=>σ.truth s=w∧St.Holds σ r
def pJ (tm:Array Value) (w:World) (γ:Key→Option Nat) (k:Key):Option Value :=
 match k.tag with
 | 0=>if k.b=0 then tm[k.a]? else none
 | 1=>(γ (pp k.a)).bind fun b=>w.cell? ⟨b,k.b,none⟩
 | 2=>match tm[k.a]? with
  | some (.tuple vs)=>match Nat.blt k.b 1000 with
   | true=>vs[k.b]?
   | false=>none
  | some (.agg vs)=>match Nat.blt k.b 1000 with
   | true=>none
   | false=>match Nat.beq vs.size (k.b / 1000-1) with
    | true=>vs[k.b%1000]?
    | false=>none
  | _=>none
 | _=>none
structure Fr where
 B:Nat
 w0:World
 A:Nat→Prop
 E:Nat→Prop
def Ob (fr:Fr) (γ:Key→Option Nat) (b:Nat):Prop:=fr.A b∨∃k,γ k=some b
def RP (b c:Nat):Value:=match Nat.blt c Df with
 | true=>.pointer (some ⟨b,c,none⟩)
 | false=>.func (.func (c-Df)) #[.pointer (some ⟨b,0,none⟩)] #[]
theorem A3 {b c:Nat} (h:Nat.blt c Df=true):RP b c=.pointer (some ⟨b,c,none⟩):=by unfold RP;rw [h]
theorem GM {b f:Nat}:RP b (Df+f)=.func (.func f) #[.pointer (some ⟨b,0,none⟩)] #[]:=by
 have:Nat.blt (Df+f) Df=false:=by
  cases hb:Nat.blt (Df+f) Df with
  | false=>rfl
  | true=>simp [Nat.blt] at hb;omega
 unfold RP;rw [this];simp
def AVR (tab:Tab) (w:World) (O:Nat→Prop) (σ:St) (val:Key→Option Value) (γ:Key→Option Nat) (k:Key) (v:Value):AV→Prop
 | .u=>True
 | .t c x=>V tab w O c v x
 | .own c _ xs=>Own tab w O c v (γ k) xs
 | .box _ _ n=>∃b cs ety,γ k=some b∧v=.pointer (some ⟨b,0,none⟩)∧w.heap[b]?=some (.cells cs ety (0,0))∧cs.size=n
 | .alias h tag c off len=>∀c' xs,σ.get h=some ⟨[],.own c' tag xs⟩→c'=c∧∃hv,val h=some hv∧Sub tab c hv v off len xs.length
 | .ptr s tag c=>∀cb n,σ.get (pp s)=some ⟨[],.box cb tag n⟩→∃b,γ (pp s)=some b∧v=RP b c
 | .eptr h tag i c=>∀c' xs,σ.get h=some ⟨[],.own c' tag xs⟩→i<xs.length∧∃b cap ti e ce te,val h=some (.slice (some ⟨b,0,none⟩) xs.length cap) ∧
   tab.at c'=some (c',ti)∧ti.k=.sl e∧tab.at e=some (ce,te)∧v=.pointer (some ⟨b,i*te.cells+c,none⟩)
 | .pl c x off=>∃a,v=.pointer (some (a.add off))∧At tab w O c a x
 | .tup _=>(∃vs,v=.tuple vs)∨∃vs,v=.agg vs
 | .tcp s tag=>∀p,σ.get (pp s)=some ⟨p,.tup tag⟩→val (pp s)=some v
structure Rel (tab:Tab) (fr:Fr) (tm:Array Value) (w:World) (σ:St) (γ:Key→Option Nat):Prop where
 os:w.os=fr.w0.os
 tape:w.tape=fr.w0.tape
 output:w.output=fr.w0.output
 size:fr.B≤w.heap.size
 old:∀b,b<fr.B→¬ fr.E b→w.heap[b]?=fr.w0.heap[b]?
 low:∀b,fr.A b→b<fr.B∧¬ fr.E b
 inj:∀k k' b,γ k=some b→γ k'=some b→k=k'
 blk:∀k b,γ k=some b→b<w.heap.size∧¬ fr.A b∧(b<fr.B→fr.E b)
 cel:∀s n e,σ.get (cell s n)=some e→∃c tag m,σ.get (pp s)=some ⟨[],.box c tag m⟩
 cmp:∀s j e,σ.get (comp s j)=some e→∃p n,σ.get (pp s)=some ⟨p,.tup n⟩
 ent:∀k e,σ.get k=some e→∃v,pJ tm w γ k=some v∧(σ.Holds e.path→AVR tab w (Ob fr γ) σ (pJ tm w γ) γ k v e.av)∧(¬ σ.Holds e.path→v=undef)
def qd (j:Nat):Nat→List AV→St
 | _,[]=>[]
 | c,a::r=>(cell j c,top a)::qd j (c+1) r
def rO:Nat→List Arg→St
 | _,[]=>[]
 | j,.t c x::r=>(pp j,top (.t c x))::rO (j+1) r
 | j,.own c xs::r=>(pp j,top (.own c 0 xs))::rO (j+1) r
 | j,.pl c x::r=>(pp j,top (.pl c x 0))::rO (j+1) r
 | j,.box c n cells::r=>(pp j,top (.box c 0 n))::(qd j 0 cells++rO (j+1) r)
def sY:Nat→List Arg→St
 | _,[]=>[]
 | j,.box c n _::r=>(pp j,top (.box c 0 n))::sY (j+1) r
 | j,_::r=>sY (j+1) r
def yT (tag:Nat) (ty:TypeId) (own:Bool) (y:T):AV:=match own with
 | true=>.own ty tag y.list
 | false=>.t ty y
def Rn:Shape→List T→St
 | (k,ty,o)::sh,y::ys=>(k,top (yT 0 ty o y))::Rn sh ys
 | _,_=>[]
def IE (n:Nat):Shape→St
 | (k,_,_)::_=>match Nat.beq k.tag 2 with
  | true=>[(pp n,top (.tup 0))]
  | false=>[]
 | []=>[]
def sO (args:List Arg) (sh:Shape) (ys:List T):St:=sY 0 args++(IE args.length sh++Rn sh ys)
def CallsF (P:Program) (f:FuncId) (vals:Array Value) (w:World) (R:Value→World→Prop):Prop :=
 match (callFunc f vals).run P w with
 | .ok (.enter g args) w'=>Calls P g args w' fun e w''=>∃v,e=.returned v∧R v w''
 | .ok (.value v) w'=>R v w'
 | _=>False
structure Fn (P:Program) (tab:Tab) (f:FuncId) (args:List Arg) (sh:Shape) (ys:List T):Prop where
 run:∀(w:World) (A:Nat→Prop) (vals:Array Value) (γ:Key→Option Nat),vals.size=args.length →
  Rel tab ⟨w.heap.size,w,A,fun b=>∃k,γ k=some b⟩ vals w (rO 0 args) γ →
  CallsF P f vals w fun v w'=>∃γ',Rel tab ⟨w.heap.size,w,A,fun b=>∃k,γ k=some b⟩ (vals.push v) w' (sO args sh ys) γ'
def FnC (P:Program) (tab:Tab) (f:Cal) (args:List Arg) (sh:Shape) (ys:List T):Prop:=match f with
 | .f f=>Fn P tab f args sh ys
 | .v x=>x.isF=true∧Fn P tab x.fn args sh ys
def OH (a:Go.Addr):Option FuncId→Value
 | some g=>.func (.func g) #[.pointer (some a)] #[]
 | none=>.nilFunc
def LR:Option FuncId→Bool
 | some _=>true
 | none=>false
def uX (P:Program) (f:FuncId) (k:Int) (g:Option FuncId):Prop:=∀(a:Go.Addr) (w:World),CallsF P f #[.pointer (some a),.int .i64 k] w fun v w'=>w'=w ∧
 v=.tuple #[OH a g,.bool (LR g)]
def Hk (P:Program) (f:FuncId):Prop:=∀(b:Nat) (w:World) (a:Option Go.Addr) (n cap:Nat),w.cell? ⟨b,0,none⟩=some (.slice a n cap)→w.cell? ⟨b,1,none⟩=some (.int .i64 0)→n≤cap→cap≤maxLen→(a=none→cap=0) →
 CallsF P f #[.pointer (some ⟨b,0,none⟩)] w fun v w'=>w'.heap=w.heap∧w'.os=w.os∧w'.tape=w.tape∧w'.output=w.output∧v=.slice a n cap
def imp (σ:St) (p:Path) (c:Prop):Prop:=match p with
 | []=>c
 | (s,w)::r=>St.Holds σ ((s,w)::r)→c
def rE (tag:Nat):Shape→List (Key×Path)→List T→List (Key×Ent)
 | (_,ty,o)::sh,(k,p)::ks,y::ys=>(k,⟨p,yT tag ty o y⟩)::rE tag sh ks ys
 | _,_,_=>[]
def exN:Nat→(List T→Prop)→Prop
 | 0,f=>f []
 | n+1,f=>∃y,exN n fun ys=>f (y::ys)
theorem Cy:∀{n:Nat} {f:List T→Prop},exN n f↔∃ys:List T,ys.length=n∧f ys:=by
 intro n
 induction n with
 | zero =>
  intro f;exact ⟨fun h=>⟨[],rfl,h⟩,fun ⟨ys,h1,h2⟩=>by
   cases ys with
   | nil=>exact h2
   | cons=>simp at h1⟩
 | succ n ih =>
  intro f
  constructor
  ·rintro ⟨y,h⟩
   obtain ⟨ys,h1,h2⟩:=ih.1 h;exact ⟨y::ys,by simp [h1],h2⟩
  ·rintro ⟨ys,h1,h2⟩
   cases ys with
   | nil=>simp at h1
   | cons y ys=>exact ⟨y,ih.2 ⟨ys,by simpa using h1,h2⟩⟩
def qO.W (P:Program) (tab:Tab) (σ:St) (p:Path) (K:St→Prop):qO→Prop
 | .bad=>False
 | .upd none ws=>K (σ.puts ws)
 | .upd (some c) ws=>imp σ p c∧K (σ.puts ws)
 | .all c k f=>∀y,c y→K (σ.puts [(k,f y)])
 | .bind f k g ws=>uX P f k g∧K (σ.puts ws)
 | .view f n ws=>Hk P f∧n=0∧K (σ.puts ws)
 | .call tag f args pre sh ks=>exN sh.length fun ys=>imp σ p (FnC P tab f args sh ys)∧K (σ.puts (pre++rE tag sh ks ys))
def Mf (ops:List Oper) (j:Nat):Option Nat:=match ops[j]? with
 | some o=>o.dst
 | none=>none
def FJ:Path→Path→Bool
 | [],[]=>true
 | (j,w)::r,(j',w')::r'=>match Nat.beq j j',Eg w w' with
  | true,true=>FJ r r'
  | _,_=>false
 | _,_=>false
def Tq (r:qO):AV→R
 | .t ..=>.ret r
 | .pl ..=>.ret r
 | .alias h tag ..=>tK h tag fun _ _=>.ret r
 | .eptr h tag ..=>tK h tag fun _ _=>.ret r
 | .ptr s tag _=>CU s tag fun _ _=>.ret r
 | _=>pP
def guarded (C:Ctx) (d:Option Nat) (p:Path):qO→R
 | .upd c [(k,e)]=>qy C d p fun d=>match k.eq (pp d),FJ e.path p with
  | true,true=>Tq (.upd c [(k,e)]) e.av
  | _,_=>pP
 | .call tag f args [] [sh] [(k,q)]=>qy C d p fun d=>match k.eq (pp d),FJ q p,sh with
  | true,true,(_,_,false)=>.ret (.call tag f args [] [sh] [(k,q)])
  | _,_,_=>pP
 | _=>pP
def IW {α β:Type} (f:α→Rd β):Rd α→Rd β
 | .ret a=>f a
 | .get k g=>.get k fun e=>IW f (g e)
def HU {α β:Type} (f:α→β):Rd α→Rd β
 | .ret a=>.ret (f a)
 | .get k g=>.get k fun e=>HU f (g e)
def spl (d:Nat):Key:=⟨8,d,0⟩
def QC (C:Ctx) (d:Nat):Bool:=wP C.homes (spl d)
def Ek (C:Ctx) (ty:TypeId):AV:=match C.tab.at ty with
 | some (cr,_)=>.t cr .u
 | none=>.u
def TY (C:Ctx) (s:Nat) (want:Bool) (o:Oper):R:=qy C o.dst [] fun d=>okR [(pp d,⟨[(s,want)],Ek C o.type⟩)]
def zx (C:Ctx) (ops:List Oper) (i:Nat) (o:Oper):Rd (Path×qO) :=
 match o.guard with
 | none=>HU (fun r=>([],r)) (opR C i [] o)
 | some (j,want)=>match Mf ops j with
  | none=>.ret ([],.bad)
  | some s=>match qY C s with
   | true=>.ret ([],.bad)
   | false=>match QC C s with
   | true=>.get (pp s) fun
    | some ⟨[],.t c (.b x)⟩=>match C.kd c with
     | .bool=>match Eg x want with
      | true=>HU (fun r=>([],r)) (opR C i [] o)
      | false=>HU (fun r=>([(s,want)],r)) (TY C s want o)
     | _=>.ret ([],.bad)
    | _=>.ret ([],.bad)
   | false=>.get (pp s) fun
    | some e=>match e.av with
     | .t c _=>match C.kd c with
      | .bool=>HU (fun r=>(e.path++[(s,want)],r)) (IW (guarded C o.dst (e.path++[(s,want)])) (opR C i (e.path++[(s,want)]) o))
      | _=>.ret ([],.bad)
     | _=>.ret ([],.bad)
    | none=>.ret ([],.bad)
def opW (P:Program) (C:Ctx) (ops:List Oper) (i:Nat) (o:Oper) (σ:St) (K:St→Prop):Prop :=
 qO.W P C.tab σ ((zx C ops i o).run σ).1 K ((zx C ops i o).run σ).2
def En (C:Ctx) (o:Oper) (σ:St) (K:St→Prop):Prop:=match o.dst with
 | some d=>match QC C d with
  | true=>match σ.get (pp d) with
   | some ⟨[],.t c x⟩=>match C.kd c with
    | .bool=>(x.bool=true→K (σ.put (pp d) (top (.t c (.b true)))))∧(x.bool=false→K (σ.put (pp d) (top (.t c (.b false)))))
    | _=>False
   | _=>False
  | false=>K σ
 | none=>K σ
def TE (P:Program) (C:Ctx) (ops:List Oper):List (Nat×Oper)→St→(St→Prop)→Prop
 | [],σ,K=>K σ
 | (i,o)::r,σ,K=>opW P C ops i o σ fun σ'=>En C o σ' fun σ2=>TE P C ops r σ2 K
def numbered:Nat→List Oper→List (Nat×Oper)
 | _,[]=>[]
 | i,o::r=>(i,o)::numbered (i+1) r
def wJ (C:Ctx) (σ0:St) (s tag c:Nat):AV:=match qY C s with
 | true=>match σ0.get (pp s) with
  | some ⟨[],.box _ tag' _⟩=>match Nat.beq tag tag' with
   | true=>.ptr s 0 c
   | false=>.u
  | _=>.u
 | false=>.u
def tX (C:Ctx) (σ0:St) (h:Key) (tag:Nat) (c:TypeId) (off len:Nat):AV:=match qY C h.a,Nat.ble h.tag 1 with
 | true,true=>match σ0.get h with
  | some ⟨[],.own c' tag' _⟩=>match Nat.beq tag tag',Nat.beq c c' with
   | true,true=>.alias h 0 c off len
   | _,_=>.u
  | _=>.u
 | _,_=>.u
def AV.start (C:Ctx) (σ0:St):AV→AV
 | .own c _ xs=>.own c 0 xs
 | .box c _ n=>.box c 0 n
 | .t c x=>.t c x
 | .pl c x off=>.pl c x off
 | .ptr s tag c=>wJ C σ0 s tag c
 | .alias h tag c off len=>tX C σ0 h tag c off len
 | _=>.u
def AV.let:AV→AV
 | .own c _ xs=>.t c (.l xs)
 | a=>a
def Ce (C:Ctx) (fz:List Key) (σ0:St):St→St
 | []=>[]
 | (k,e)::r=>match qY C k.a,Nat.ble k.tag 1 with
  | true,true=>(k,top (match e.path with
   | []=>match wP fz k with
    | true=>(AV.start C σ0 e.av).let
    | false=>AV.start C σ0 e.av
   | _=>.u))::Ce C fz σ0 r
  | _,_=>Ce C fz σ0 r
def pW (C:Ctx) (fz:List Key) (σ:St):St:=Ce C fz σ σ
def Uc:qO→List (Key×Ent)
 | .bad=>[]
 | .upd _ ws=>ws
 | .all _ k f=>[(k,f .u)]
 | .bind _ _ _ ws=>ws
 | .view _ _ ws=>ws
 | .call tag _ _ pre sh ks=>pre++rE tag sh ks (List.replicate sh.length .u)
def wG:Path→List Key
 | []=>[]
 | (s,_)::r=>pp s::wG r
def A9 (C:Ctx) (ops:List Oper) (i:Nat) (o:Oper) (σ:St):List Key:=(zx C ops i o).keys σ++wG ((zx C ops i o).run σ).1
abbrev Log:=List (List Key×List Key)
def BV (C:Ctx) (ops:List Oper):List (Nat×Oper)→St→Log
 | [],_=>[]
 | (i,o)::r,σ=>(A9 C ops i o σ,qh (Uc ((zx C ops i o).run σ).2))::BV C ops r (σ.puts (Uc ((zx C ops i o).run σ).2))
def T0:List Key→List Key→Bool
 | [],_=>true
 | k::r,l=>match wP l k with
  | true=>T0 r l
  | false=>false
def TA (x:Nat) (f:List Nat→List Nat):List Nat→List Nat
 | []=>x::f []
 | y::b=>match Nat.beq x y with
  | true=>x::f b
  | false=>match Nat.blt y x with
   | true=>x::f (y::b)
   | false=>y::TA x f b
def UJ:List Nat→List Nat→List Nat
 | [],b=>b
 | x::a,b=>TA x (UJ a) b
def Cm (acc:List (List Nat)):List Edge→List Nat
 | []=>[]
 | e::r=>match Region.binds .any e with
  | true=>UJ (e.on::acc.getD e.on []) (Cm acc r)
  | false=>Cm acc r
def ancs:List Oper→List (List Nat)→List (List Nat)
 | [],acc=>acc
 | o::r,acc=>ancs r (acc++[Cm acc o.after.toList])
def BH (i:Nat):List Edge→Bool
 | []=>true
 | e::r=>match Region.binds .any e with
  | true=>match Nat.blt e.on i with
   | true=>BH i r
   | false=>false
  | false=>BH i r
def yv:Nat→List Oper→Bool
 | _,[]=>true
 | i,o::r=>match BH i o.after.toList with
  | true=>yv (i+1) r
  | false=>false
def BF (x y:List Key×List Key):Bool:=match xA x.2 y.1,xA x.2 y.2,xA x.1 y.2 with
 | true,true,true=>true
 | _,_,_=>false
def AY (anc:List Nat) (y:List Key×List Key):Nat→Log→Bool
 | _,[]=>true
 | i,x::r=>match Fp anc i with
  | true=>AY anc y (i+1) r
  | false=>match BF x y with
   | true=>AY anc y (i+1) r
   | false=>false
def yW:(done:Log)→List (List Nat)→Log→Bool
 | _,_,[]=>true
 | done,a::as_,y::r=>match AY a y 0 done with
  | true=>yW (done++[y]) as_ r
  | false=>false
 | _,[],_::_=>false
def UV (P:Program) (C:Ctx) (ops:List Oper) (lg:Log) (i:Nat) (o:Oper) (σ:St) (K:St→Prop):Prop :=
 match T0 (A9 C ops i o σ) (lg.getD i ([],[])).1,T0 (qh (Uc ((zx C ops i o).run σ).2)) (lg.getD i ([],[])).2 with
 | true,true=>match ((zx C ops i o).run σ).2 with
  | .all _ _ _=>False
  | .bind _ _ _ _=>False
  | _=>opW P C ops i o σ K
 | _,_=>False
def KD (P:Program) (C:Ctx) (ops:List Oper) (lg:Log):List (Nat×Oper)→St→(St→Prop)→Prop
 | [],σ,K=>K σ
 | (i,o)::r,σ,K=>UV P C ops lg i o σ fun σ'=>KD P C ops lg r σ' K
def Qw (C:Ctx) (id:Nat):List Key:=(look C.frz id).getD []
def wW (C:Ctx):List Oper→Bool
 | []=>true
 | o::r=>match o.dst with
  | none=>wW C r
  | some d=>match Fp C.pins d with
   | true=>false
   | false=>wW C r
def CV (P:Program) (C:Ctx) (id:Nat) (ops:List Oper) (draw:Bool) (K:St→Prop) (σ:St):Prop :=
 match wW C ops with
 | false=>False
 | true=>match draw with
 | false=>TE P C ops (numbered 0 ops) (pW C (Qw C id) σ) K
 | true=>match yW [] (ancs ops []) (BV C ops (numbered 0 ops) (pW C (Qw C id) σ)),yv 0 ops with
  | true,true=>KD P C ops (BV C ops (numbered 0 ops) (pW C (Qw C id) σ)) (numbered 0 ops) (pW C (Qw C id) σ) K
  | _,_=>False
def SW (P:Program) (C:Ctx) (c:Code) (Q:Exit→St→Prop) (σ:St):Prop :=
 ∀(fr:Fr) (tm:Array Value) (w:World) (γ:Key→Option Nat),tm.size=C.nt→Rel C.tab fr tm w σ γ →
  c.wp P (fun e a' w'=>a'.defers=[]∧a'.tmps.size=C.nt∧(∀s,Fp C.pins s=true→a'.tmps[s]?=tm[s]?)∧∃σ' γ',Q e σ'∧Rel C.tab fr a'.tmps w' σ' γ') ⟨tm,[]⟩ w
def Iz (n:St→Prop) (Q:Exit→St→Prop):Exit→St→Prop
 | .normal,σ=>n σ
 | e,σ=>Q e σ
def F4 (id:Nat) (Q:Exit→St→Prop):Exit→St→Prop
 | .exit i,σ=>match Nat.beq i id with
  | true=>Q .normal σ
  | false=>Q (.exit i) σ
 | e,σ=>Q e σ
def Cv (P:Program) (C:Ctx):Code→(Exit→St→Prop)→St→Prop
 | .skip,Q,σ=>Q .normal σ
 | .seq a b,Q,σ=>Cv P C a (Iz (Cv P C b Q) Q) σ
 | .region id ops draw,Q,σ=>CV P C id ops.toList draw (Q .normal) σ
 | .cond c a b,Q,σ=>match c with
  | .tmp s=>match σ.get (pp s) with
   | some ⟨[],.t ty x⟩=>match C.kd ty with
    | .bool=>(x.bool=true→Cv P C a Q σ)∧(x.bool=false→Cv P C b Q σ)
    | _=>False
   | _=>False
  | .const (.bool true)=>Cv P C a Q σ
  | .const (.bool false)=>Cv P C b Q σ
  | _=>False
 | .block id body,Q,σ=>Cv P C body (F4 id Q) σ
 | .loop body,Q,σ=>SW P C (.loop body) Q σ
 | .exit id,Q,σ=>Q (.exit id) σ
 | .ret,Q,σ=>Q .ret σ
 | _,_,_=>False
theorem Ab (a:Go.Addr) (m n:Nat):(a.add m).add n=a.add (m+n):=by
 unfold Addr.add
 by_cases hm:m=0
 ·subst hm;simp
 ·by_cases hn:n=0
  ·subst hn;simp [hm]
  ·have:m+n≠0:=by omega
   simp [hm,hn,this,YD]
theorem tD (a:Go.Addr) (m:Nat):(a.add m).block=a.block:=by unfold Addr.add;split<;>rfl
theorem rB (b o n:Nat):(⟨b,o,none⟩:Go.Addr).add n=⟨b,o+n,none⟩:=by
 unfold Addr.add;split
 ·rename_i h;subst h;rfl
 ·rfl
def Stays (w w':World) (O O':Nat→Prop):Prop:=∀b,b<w.heap.size→¬ O b→w'.heap[b]?=w.heap[b]?∧¬ O' b
theorem Cr {w:World} {a:Go.Addr} {v:Value} (h:w.cell? a=some v):a.block<w.heap.size:=by
 unfold World.cell? at h
 cases hb:w.heap[a.block]? with
 | none=>simp [hb] at h
 | some o=>exact (Yg.1 hb).1
theorem sk {w w':World} {a:Go.Addr} (h:w'.heap[a.block]?=w.heap[a.block]?):w'.cell? a=w.cell? a:=by
 unfold World.cell?;rw [h]
theorem Stays.cell {w w':World} {O O':Nat→Prop} (h:Stays w w' O O') {a:Go.Addr} {v:Value} (hc:w.cell? a=some v) (ho:¬ O a.block):w'.cell? a=some v:=by
 rw [sk (h a.block (Cr hc) ho).1];exact hc
theorem L.mono {tab:Tab} {w w':World} {O O':Nat→Prop} (hs:Stays w w' O O') {c:TypeId} {v:Value} {x:T} (h:L tab w O c v x):L tab w' O' c v x:=by
 induction h with
 | bool h hk=>exact .bool h hk
 | int h hk hn=>exact .int h hk hn
 | str h hk hx=>exact .str h hk hx
 | nil h hk=>exact .nil h hk
 | ptr h hk=>exact .ptr h hk
 | ifc h hk=>exact .ifc h hk
 | fn h hk=>exact .fn h hk
 | @fnc c ti f xs caps h hk hn ad ts tys tis vs hx hv hl ih =>
  have aV:∀j x,xs[j]?=some x→(ad j).block<w.heap.size:=by
   intro j x hj;obtain ⟨-,-,-,-,q1,q2,-⟩:=hx j x hj;have b_:=(WQ.1 hj).1
   have:=Cr (hv j 0 _ b_ (WL (by omega)))
   rwa [tD] at this
  refine .fnc h hk hn ad ts tys tis vs (fun j x hj=>?_) (fun j n y hj hy=>?_) ih
  ·obtain ⟨q1,q2,q3,q4,q5,q6,q7⟩:=hx j x hj
   exact ⟨q1,q2,q3,q4,q5,q6,(hs _ (aV j x hj) q7).2⟩
  ·have f7:=WL hj
   exact hs.cell (hv j n y hj hy) (by rw [tD];exact (hx j _ f7).2.2.2.2.2.2)
 | @sl c ti e ce te a cap xs h hk he hp B_ hm ho vs hg hv hl ih =>
  refine .sl h hk he hp B_ hm ?_ vs hg ?_ (fun j x n y ty hx hy ht=>ih j x n y ty hx hy ht)
  ·intro r_
   have hx:xs[0]?=some (xs[0]'r_):=by simp
   have hy:((xs[0]'r_).leaves)[0]?=some (((xs[0]'r_).leaves)[0]'(by rw [(hg 0 _ hx).2];exact hp)):=by simp
   have hc:=hv 0 _ 0 _ hx hy;have b_:=Cr hc;rw [tD] at b_;exact (hs _ b_ (ho r_)).2
  ·intro j x n y hx hy
   have r_:0<xs.length:=by
    have:=(WQ.1 hx).1
    omega
   exact hs.cell (hv j x n y hx hy) (by rw [tD];exact ho r_)
theorem V.mono {tab:Tab} {w w':World} {O O':Nat→Prop} (hs:Stays w w' O O') {c:TypeId} {v:Value} {x:T} (h:V tab w O c v x):V tab w' O' c v x:=by
 obtain ⟨ti,h1,h2,h3,h4,h5,h6⟩:=h;refine ⟨ti,h1,h2,h3,h4,h5,fun j y ty hy ht=>?_⟩;obtain ⟨u,hu,hl⟩:=h6 j y ty hy ht;exact ⟨u,hu,hl.mono hs⟩
theorem TI.Tx {ti:TI} {c:TypeId}:(ti.isS=false→(ti.lv c).length=1):=by
 intro h;unfold TI.isS at h;unfold TI.lv;split at h
 ·cases h
 ·rfl
theorem At.mono {tab:Tab} {w w':World} {O O':Nat→Prop} (hs:Stays w w' O O') {c:TypeId} {a:Go.Addr} {x:T} (h:At tab w O c a x) (ai:∀ti,tab.at c=some (c,ti)→(ti.lv c).length=ti.cells∧0<ti.cells) :
  At tab w' O' c a x:=by
 obtain ⟨ti,h1,h2,h5,ho,h6⟩:=h;obtain ⟨hl,hp⟩:=ai ti h1;have hb:a.block<w.heap.size:=by
  obtain ⟨u,hu,-⟩:=h6 0 (x.leaves[0]'(by omega)) ((ti.lv c)[0]'(by omega)) (by simp) (by simp)
  have:=Cr hu
  rwa [tD] at this
 refine ⟨ti,h1,h2,h5,(hs _ hb ho).2,fun j y ty hy ht=>?_⟩;obtain ⟨u,hu,hl⟩:=h6 j y ty hy ht;exact ⟨u,hs.cell hu (by rw [tD];exact ho),hl.mono hs⟩
theorem Own.mono {tab:Tab} {w w':World} {O O':Nat→Prop} (hs:Stays w w' O O') {c:TypeId} {v:Value} {g:Option Nat} {xs:List T} (h:Own tab w O c v g xs)
  (hg:∀b,g=some b→w'.heap[b]?=w.heap[b]?):Own tab w' O' c v g xs:=by
 obtain ⟨ti,e,ce,te,h1,h2,h3,hp,h⟩:=h;refine ⟨ti,e,ce,te,h1,h2,h3,hp,?_⟩
 rcases h with h | ⟨b,cap,cs,ak,hv,hh,B_,hm,f_,aj⟩
 ·exact .inl h
 ·refine .inr ⟨b,cap,cs,ak,hv,by rw [hg b ak];exact hh,B_,hm,f_,fun j x hx=>?_⟩
  obtain ⟨k1,k2,k3⟩:=aj j x hx;refine ⟨k1,k2,fun n y ty hy ht=>?_⟩;obtain ⟨u,hu,hl⟩:=k3 n y ty hy ht;exact ⟨u,hu,hl.mono hs⟩
def QN:Value→Bool
 | .slice (some _) _ _=>false
 | _=>true
structure TOk (P:Program) (tab:Tab) (t c:TypeId) (ti:TI):Prop where
 self:tab.at c=some (c,ti)
 info:∃i z,P.info? t=some i∧i.size=ti.cells∧i.bytes=ti.bytes∧i.zero=some z∧(∀w O,V tab w O c z ti.zero)∧z.cells.all QN=true
 und:∃d,P.underlying t=some d∧match ti.k,d with
  | .int k,.int k'=>k=k'
  | .bool,.bool | .str,.string=>True
  | .sl e,.slice e'=>e=e'∧∃ce te,tab.at e=some (ce,te)
  | .st fs,.struct fa=>fs.length=fa.size∧∀(j off cf:Nat),fs[j]?=some (off,cf)→∃f tf,fa[j]?=some f∧f.offset=off∧tab.at f.type=some (cf,tf) ∧
    0<tf.cells∧(ti.leaves.drop off).take tf.cells=tf.lv cf∧off+tf.cells≤ti.cells
  | .ptr e,.pointer e'=>e=e'
  | .fn,.func .. | .ifc,.interface _=>True
  | _,_=>False
 len:(ti.lv c).length=ti.cells
 pos:0<ti.cells
 leaf:∀ty∈ti.lv c,∃t1,tab.at ty=some (ty,t1)∧t1.isS=false
def Good (P:Program) (tab:Tab):Prop:=∀t c ti,tab.at t=some (c,ti)→TOk P tab t c ti
theorem Good.lv {P:Program} {tab:Tab} (h:Good P tab) {c:TypeId}:∀ti,tab.at c=some (c,ti)→(ti.lv c).length=ti.cells∧0<ti.cells :=
 fun ti hc=>⟨(h c c ti hc).len,(h c c ti hc).pos⟩
section
variable {P:Program} {tab:Tab} (hG:Good P tab) {fr:Fr} {tm tm':Array Value} {w w':World} {σ σ':St} {γ γ':Key→Option Nat}
theorem sW (p:Path) (h:∀s b,(s,b)∈p→σ'.get (pp s)=σ.get (pp s)):σ'.Holds p↔σ.Holds p:=by
 induction p with
 | nil=>exact Iff.rfl
 | cons x r ih =>
  obtain ⟨s,b⟩:=x;have h1:σ'.truth s=σ.truth s:=by unfold St.truth;rw [h s b (by simp)]
  have h2:=ih (fun s' b' hm=>h s' b' (by simp [hm]));simp only [St.Holds,h1,h2]
def AV.home:AV→Option (Key×Nat)
 | .alias h tag _ _ _=>some (h,tag)
 | .eptr h tag _ _=>some (h,tag)
 | .ptr s tag _=>some (pp s,tag)
 | .tcp s tag=>some (pp s,tag)
 | _=>none
def uY (σ σ':St) (val val':Key→Option Value) (γ γ':Key→Option Nat) (h:Key) (tag:Nat):Prop :=
 (∀c xs,σ'.get h=some ⟨[],.own c tag xs⟩→val' h=val h∧∃xs0,σ.get h=some ⟨[],.own c tag xs0⟩∧xs0.length=xs.length) ∧
 (∀c n,σ'.get h=some ⟨[],.box c tag n⟩→γ' h=γ h∧∃n0,σ.get h=some ⟨[],.box c tag n0⟩) ∧
 (∀p,σ'.get h=some ⟨p,.tup tag⟩→val' h=val h∧∃p0,σ.get h=some ⟨p0,.tup tag⟩)
theorem AVR.keep (hG:Good P tab) {O O':Nat→Prop} (hs:Stays w w' O O') {val val':Key→Option Value} {k:Key} {v:Value} {a:AV} (h:AVR tab w O σ val γ k v a)
  (mf:γ' k=γ k) (cZ:∀b,γ k=some b→(∀c tag xs,a=.own c tag xs→w'.heap[b]?=w.heap[b]?) ∧
   (∀c tag n,a=.box c tag n→∀cs ety,w.heap[b]?=some (.cells cs ety (0,0))→∃cs',w'.heap[b]?=some (.cells cs' ety (0,0))∧cs'.size=cs.size))
  (hh:∀h tag,a.home=some (h,tag)→uY σ σ' val val' γ γ' h tag):AVR tab w' O' σ' val' γ' k v a:=by
 cases a with
 | u=>trivial
 | t c x=>exact V.mono hs h
 | own c tag xs =>
  simp only [AVR] at h ⊢;rw [mf];exact h.mono hs (fun b hb=>(cZ b hb).1 c tag xs rfl)
 | box c tag n =>
  obtain ⟨b,cs,ety,hb,hv,iB,f_⟩:=h;obtain ⟨cs',dC,e9⟩:=(cZ b hb).2 c tag n rfl cs ety iB;exact ⟨b,cs',ety,by rw [mf];exact hb,hv,dC,by omega⟩
 | alias h0 tag c off len =>
  intro c' xs o_;obtain ⟨m_,xs0,x_,i_⟩:=(hh h0 tag rfl).1 c' xs o_;obtain ⟨hc,hv,h1,h2⟩:=h c' xs0 x_;exact ⟨hc,hv,by rw [m_];exact h1,by rw [←i_];exact h2⟩
 | ptr s tag c =>
  intro cb n o_;obtain ⟨m_,n0,x_⟩:=(hh (pp s) tag rfl).2.1 cb n o_;obtain ⟨b,h1,h2⟩:=h cb n0 x_;exact ⟨b,by rw [m_];exact h1,h2⟩
 | eptr h0 tag i c =>
  intro c' xs o_;obtain ⟨m_,xs0,x_,i_⟩:=(hh h0 tag rfl).1 c' xs o_;obtain ⟨hi,b,cap,ti,e,ce,te,h1,h2,h3,h4,h5⟩:=h c' xs0 x_;exact ⟨by omega,b,cap,ti,e,ce,te,by rw [m_,←i_];exact h1,h2,h3,h4,h5⟩
 | pl c x off =>
  obtain ⟨a,h1,h2⟩:=h;exact ⟨a,h1,h2.mono hs hG.lv⟩
 | tup n=>exact h
 | tcp s tag =>
  intro p o_;obtain ⟨m_,p0,x_⟩:=(hh (pp s) tag rfl).2.2 p o_;rw [m_];exact h p0 x_
theorem Rel.step (hG:Good P tab) (h:Rel tab fr tm w σ γ) (W:Key→Prop)
  (cK:w'.os=w.os) (Y_:w'.tape=w.tape) (Q_:w'.output=w.output) (Z_:w.heap.size≤w'.heap.size)
  (x_:∀b,b<fr.B→¬ fr.E b→w'.heap[b]?=w.heap[b]?)
  (T_:Stays w w' (Ob fr γ) (Ob fr γ'))
  (f8:∀k k' b,γ' k=some b→γ' k'=some b→k=k')
  (cZ:∀k b,γ' k=some b→b<w'.heap.size∧¬ fr.A b∧(b<fr.B→fr.E b))
  (dT:∀s n e,σ'.get (cell s n)=some e→∃c tag m,σ'.get (pp s)=some ⟨[],.box c tag m⟩)
  (bF:∀s j e,σ'.get (comp s j)=some e→∃p n,σ'.get (pp s)=some ⟨p,.tup n⟩)
  (q_:∀k,¬ W k→σ'.get k=σ.get k)
  (bG:∀k e,¬ W k→σ.get k=some e→pJ tm' w' γ' k=pJ tm w γ k∧γ' k=γ k ∧
   (∀s b,(s,b)∈e.path→¬ W (pp s)) ∧
   (∀b,γ k=some b→(∀c tag xs,e.av=.own c tag xs→w'.heap[b]?=w.heap[b]?) ∧
    (∀c tag n,e.av=.box c tag n→∀cs ety,w.heap[b]?=some (.cells cs ety (0,0))→∃cs',w'.heap[b]?=some (.cells cs' ety (0,0))∧cs'.size=cs.size)) ∧
   (∀h tag,e.av.home=some (h,tag)→W h→uY σ σ' (pJ tm w γ) (pJ tm' w' γ') γ γ' h tag) ∧
   (∀h tag,e.av.home=some (h,tag)→¬ W h→σ.get h≠none))
  (V_:∀k e,W k→σ'.get k=some e→∃v,pJ tm' w' γ' k=some v∧(σ'.Holds e.path→AVR tab w' (Ob fr γ') σ' (pJ tm' w' γ') γ' k v e.av)∧(¬ σ'.Holds e.path→v=undef)) :
  Rel tab fr tm' w' σ' γ' where
 os:=cK.trans h.os
 tape:=Y_.trans h.tape
 output:=Q_.trans h.output
 size:=XU h.size Z_
 old b hb he:=(x_ b hb he).trans (h.old b hb he)
 low:=h.low
 inj:=f8
 blk:=cZ
 cel:=dT
 cmp:=bF
 ent k e hk:=by
  by_cases hw:W k
  ·exact V_ k e hw hk
  ·rw [q_ k hw] at hk
   obtain ⟨v,hv,h1,h2⟩:=h.ent k e hk;obtain ⟨k1,k2,k3,k4,k5,k6⟩:=bG k e hw hk;have hH:σ'.Holds e.path↔σ.Holds e.path:=sW e.path fun s b hm=>q_ _ (k3 s b hm)
   refine ⟨v,by rw [k1];exact hv,fun hh=>?_,fun hh=>h2 (fun q=>hh (hH.2 q))⟩;refine (h1 (hH.1 hh)).keep hG T_ k2 k4 ?_;intro h0 tag R_
   by_cases fF:W h0
   ·exact k5 h0 tag R_ fF
   ·have hg:=q_ h0 fF
    have t_:=k6 h0 tag R_ fF;obtain ⟨e0,dL⟩:=YF.1 t_;obtain ⟨j1,j2,-⟩:=bG h0 e0 fF dL;exact ⟨fun c xs hx=>⟨j1,xs,by rw [←hg];exact hx,rfl⟩,fun c n hx=>⟨j2,n,by rw [←hg];exact hx⟩,fun p hx=>⟨j1,p,by rw [←hg];exact hx⟩⟩
end
def AV.re:AV→Option Nat
 | .own _ tag _=>some tag
 | .box _ tag _=>some tag
 | .alias _ tag _ _ _=>some tag
 | .eptr _ tag _ _=>some tag
 | .ptr _ tag _=>some tag
 | .tup tag=>some tag
 | .tcp _ tag=>some tag
 | _=>none
def Old (D:Nat→Prop) (tag:Nat):Prop:=tag=0∨∃j,D j∧tag=j+1
structure Wf (C:Ctx) (D:Nat→Prop) (σ:St):Prop where
 tags:∀k e tag,σ.get k=some e→e.av.re=some tag→Old D tag
 dom:∀k e h tag,σ.get k=some e→e.av.home=some (h,tag)→σ.get h≠none
 paths:∀k e s b,σ.get k=some e→(s,b)∈e.path→qY C s=false∧∃q c x,σ.get (pp s)=some ⟨q,.t c x⟩
def rN (γ:Key→Option Nat) (k:Key) (g:Option Nat):Key→Option Nat:=fun k'=>if k'=k then g else γ k'
theorem qg (γ:Key→Option Nat) (k:Key) (g:Option Nat):rN γ k g k=g:=by simp [rN]
theorem qa (γ:Key→Option Nat) {k k':Key} (g:Option Nat) (h:k'≠k):rN γ k g k'=γ k' := by simp [rN,h]
theorem pZ {s t:Nat}:pp s=pp t↔s=t:=by simp [pp]
theorem px {s t c:Nat}:pp s≠cell t c:=by simp [pp,cell]
theorem pK {s t c:Nat}:pp s≠comp t c:=by simp [pp,comp]
theorem pS {s c t j:Nat}:cell s c≠comp t j:=by simp [cell,comp]
theorem rS {s c t d:Nat}:cell s c=cell t d↔s=t∧c=d:=by simp [cell]
theorem sw {s c t d:Nat}:comp s c=comp t d↔s=t∧c=d:=by simp [comp]
def ev (tm:Array Value) (x:Operand):Value:=Act.eval ⟨tm,[]⟩ x
section
variable {P:Program} {C:Ctx} {fr:Fr} {tm:Array Value} {w:World} {σ:St} {γ:Key→Option Nat} {D:Nat→Prop}
theorem pz (s:Nat):pJ tm w γ (pp s)=tm[s]? := by simp [pJ,pp]
theorem sn {tab:Tab} {w:World} {O:Nat→Prop} {c:TypeId} {ti:TI} {v:Value} {x:T} (h:tab.at c=some (c,ti)) (hs:ti.isS=false) (hc:ti.cells=1)
  (hx:x.isG=false) (hv:isAgg v=false) (hl:L tab w O c v x):V tab w O c v x:=by
 have L_:v.cells=#[v]:=by cases v<;>first | rfl | simp [isAgg] at hv
 have bv:x.leaves=[x]:=by cases x<;>first | rfl | simp [T.isG] at hx
 have ai:ti.lv c=[c]:=by
  unfold TI.lv;unfold TI.isS at hs;split
  ·rename_i fs hk;simp [hk] at hs
  ·rfl
 refine ⟨ti,h,by rw [hx,hs],by rw [hv,hs],by rw [L_,hc];rfl,by rw [bv,hc];rfl,fun j y ty hy ht=>?_⟩;rw [bv] at hy;rw [ai] at ht;rw [L_]
 cases j with
 | zero =>
  simp at hy ht;subst hy;subst ht;exact ⟨v,by simp,hl⟩
 | succ j=>simp at hy
theorem sG {tab:Tab} {w:World} {O:Nat→Prop} {c:TypeId} {ti:TI} {v:Value} {x:T} (h:tab.at c=some (c,ti)) (hs:ti.isS=false)
  (hv:V tab w O c v x):L tab w O c v x∧x.isG=false∧isAgg v=false:=by
 obtain ⟨ti',h1,h2,h3,h4,h5,h6⟩:=hv;rw [h] at h1;simp only [WJ,WK] at h1;obtain ⟨-,rfl⟩:=h1;rw [hs] at h2 h3;have L_:v.cells=#[v]:=by cases v<;>first | rfl | simp [isAgg] at h3
 have bv:x.leaves=[x]:=by cases x<;>first | rfl | simp [T.isG] at h2
 have ai:ti.lv c=[c]:=by
  unfold TI.lv;unfold TI.isS at hs;split
  ·rename_i fs hk;simp [hk] at hs
  ·rfl
 obtain ⟨u,hu,hl⟩:=h6 0 x c (by rw [bv];rfl) (by rw [ai];rfl);rw [L_] at hu;simp at hu;subst hu;exact ⟨hl,h2,h3⟩
theorem qz (hG:Good P C.tab) {c:TypeId} {ti:TI} (h:C.tab.at c=some (c,ti)) (hs:ti.isS=false):ti.cells=1:=by
 have:=(hG c c ti h).len
 rw [TI.Tx hs] at this;exact this.symm
theorem L6 (hG:Good P C.tab) {w:World} {O:Nat→Prop} {ty c:TypeId} {ti:TI} (h:C.tab.at ty=some (c,ti)) {v:Value} {x:T} (hf:ti.k.fits v=true) (hx:Dw v=some x) :
  V C.tab w O c v x:=by
 have hc:=(hG ty c ti h).self;have mk:∀{x:T},ti.isS=false→x.isG=false→isAgg v=false→L C.tab w O c v x→V C.tab w O c v x :=
  fun hs hx hv hl=>sn hc hs (qz hG hc hs) hx hv hl
 unfold Dw at hx
 cases v with
 | int k n =>
  simp only at hx;split at hx
  ·rename_i hw
   simp only [WJ] at hx;subst hx;cases hk:ti.k<;>simp [hk,K.fits] at hf;subst hf;exact mk (by simp [TI.isS,hk]) rfl rfl (.int hc hk (Xd hw))
  ·cases hx
 | bool b =>
  simp only [WJ] at hx;subst hx;cases hk:ti.k<;>simp [hk,K.fits] at hf;exact mk (by simp [TI.isS,hk]) rfl rfl (.bool hc hk)
 | string s =>
  simp only at hx;split at hx
  ·rename_i hw
   simp only [WJ] at hx;subst hx;cases hk:ti.k<;>simp [hk,K.fits] at hf;exact mk (by simp [TI.isS,hk]) rfl rfl (.str hc hk (Xd hw))
  ·cases hx
 | pointer a =>
  cases a with
  | none =>
   simp only [WJ] at hx;subst hx;cases hk:ti.k<;>simp [hk,K.fits] at hf;exact mk (by simp [TI.isS,hk]) rfl rfl (.ptr hc hk)
  | some a=>simp at hx
 | nilIface =>
  simp only [WJ] at hx;subst hx;cases hk:ti.k<;>simp [hk,K.fits] at hf;exact mk (by simp [TI.isS,hk]) rfl rfl (.ifc hc hk)
 | nilFunc =>
  simp only [WJ] at hx;subst hx;cases hk:ti.k<;>simp [hk,K.fits] at hf;exact mk (by simp [TI.isS,hk]) rfl rfl (.fn hc hk)
 | _=>simp at hx
theorem yd {x y:Bool} (h:Eg x y=true):x=y:=by cases x<;>cases y<;>simp [Eg] at h ⊢
theorem Mz {p:Path} {s:Nat} {b:Bool} (h:RN p s b=true):(s,b)∈p:=by
 induction p with
 | nil=>simp [RN] at h
 | cons x r ih =>
  obtain ⟨j,w⟩:=x;simp only [RN] at h;split at h
  ·rename_i h1
   have hj:=WO h1;split at h
   ·rename_i h2
    have:=yd h2
    subst hj;subst this;simp
   ·exact XV _ (ih h)
  ·exact XV _ (ih h)
theorem IN {p:Path} (h:σ.Holds p) {s:Nat} {b:Bool} (hm:(s,b)∈p):σ.truth s=b:=by
 induction p with
 | nil=>simp at hm
 | cons x r ih =>
  obtain ⟨j,w⟩:=x;simp only [St.Holds] at h
  rcases WW.1 hm with e | e
  ·simp only [WK] at e
   obtain ⟨rfl,rfl⟩:=e;exact h.1
  ·exact ih h.2 e
theorem LI {p:Path} (h:∀s b,(s,b)∈p→σ.truth s=b):σ.Holds p:=by
 induction p with
 | nil=>trivial
 | cons x r ih =>
  obtain ⟨j,w⟩:=x;exact ⟨h j w (by simp),ih fun s b hm=>h s b (by simp [hm])⟩
theorem Rs {q p:Path} (h:Path.sub q p=true):∀x∈q,x∈p:=by
 induction q with
 | nil=>simp
 | cons x r ih =>
  obtain ⟨j,w⟩:=x;simp only [Path.sub] at h;split at h
  ·rename_i h1
   intro y hy
   rcases WW.1 hy with rfl | hy
   ·exact Mz h1
   ·exact ih h y hy
  ·cases h
theorem Bn {q p:Path} (h:Path.sub q p=true) (hp:σ.Holds p):σ.Holds q :=
 LI fun _ _ hm=>IN hp (Rs h _ hm)
inductive OpdR (C:Ctx) (fr:Fr) (tm:Array Value) (w:World) (σ:St) (γ:Key→Option Nat) (p:Path) (ty:TypeId) (x:Operand):Option (Key×Path)→AV→Prop where
 | tmp (s:Nat) (e:Ent) (hx:x=.tmp s) (he:σ.get (pp s)=some e) (y_:e.path.sub p=true) (hr:AVR C.tab w (Ob fr γ) σ (pJ tm w γ) γ (pp s) (ev tm x) e.av) :
   OpdR C fr tm w σ γ p ty x (some (pp s,e.path)) e.av
 | const (c:TypeId) (y:T) (hx:∀s,x≠.tmp s) (hv:V C.tab w (Ob fr γ) c (ev tm x) y):OpdR C fr tm w σ γ p ty x none (.t c y)
 | nil (c e:TypeId) (ti:TI) (hn:∀s,x≠.tmp s) (hx:ev tm x=.slice none 0 0) (ht:C.tab.at ty=some (c,ti)) (hc:C.tab.at c=some (c,ti)) (hk:ti.k=.sl e) :
   OpdR C fr tm w σ γ p ty x none (.own c 0 [])
theorem MH (hG:Good P C.tab) (h:Rel C.tab fr tm w σ γ) (p:Path) (hp:σ.Holds p) (x:Operand) (ty:TypeId) (f:Option (Key×Path)→AV→R) :
  (opnd C p x ty f).run σ=.bad∨∃ko a,(opnd C p x ty f).run σ=(f ko a).run σ∧OpdR C fr tm w σ γ p ty x ko a:=by
 cases x with
 | tmp s =>
  simp only [opnd,Rd.run]
  cases he:σ.get (pp s) with
  | none=>exact .inl rfl
  | some e =>
   simp only
   cases hs:e.path.sub p with
   | false=>exact .inl rfl
   | true =>
    refine .inr ⟨_,_,rfl,?_⟩;obtain ⟨v,hv,h1,-⟩:=h.ent _ e he;rw [pz] at hv;have aQ:ev tm (.tmp s)=v:=by
     simp only [ev,Act.eval];rw [XK,hv];rfl
    exact .tmp s e rfl he hs (by rw [aQ];exact h1 (Bn hs hp))
 | const v =>
  simp only [opnd]
  cases ht:C.tab.at ty with
  | none=>exact .inl rfl
  | some r =>
   obtain ⟨c,ti⟩:=r;simp only
   cases hn:tZ v with
   | true =>
    simp only
    cases hk:ti.k.elem with
    | none=>exact .inl rfl
    | some e =>
     refine .inr ⟨_,_,rfl,?_⟩;have e_:ti.k=.sl e:=by cases hh:ti.k<;>simp [hh,K.elem] at hk;rw [hk]
     have hv:v=.slice none 0 0:=by
      unfold tZ at hn;split at hn
      ·rfl
      ·cases hn
     subst hv;exact .nil c e ti (by simp) rfl ht (hG ty c ti ht).self e_
   | false =>
    simp only
    cases hf:ti.k.fits v with
    | false=>exact .inl rfl
    | true =>
     simp only
     cases hx:Dw v with
     | none=>exact .inl rfl
     | some y =>
      exact .inr ⟨_,_,rfl,.const c y (by simp) (by exact L6 hG ht hf hx)⟩
 | global g=>exact .inl rfl
 | func n =>
  simp only [opnd]
  cases ht:C.tab.at ty with
  | none=>exact .inl rfl
  | some r =>
   obtain ⟨c,ti⟩:=r;simp only;split
   ·rename_i hk
    refine .inr ⟨_,_,rfl,.const c _ (by simp) ?_⟩;have hc:=(hG ty c ti ht).self;have hs:ti.isS=false:=by simp [TI.isS,hk]
    exact sn hc hs (qz hG hc hs) rfl rfl (.fnc hc hk rfl (fun _=>default) (fun _=>.u) (fun _=>0) (fun _=>default) (fun _ _=>undef) (fun j x hj=>by simp at hj) (fun j n y hj=>by simp at hj) (fun j n y ty hj=>by simp at hj))
   ·exact .inl rfl
end
section
variable {P:Program} {C:Ctx} {fr:Fr} {tm:Array Value} {w:World} {σ:St} {γ:Key→Option Nat} {D:Nat→Prop}
theorem zd {k:Key} {b:Nat} (h:Ob fr (rN γ k none) b):Ob fr γ b:=by
 rcases h with h | ⟨k',h⟩
 ·exact .inl h
 ·unfold rN at h
  split at h
  ·cases h
  ·exact .inr ⟨k',h⟩
theorem C7 {d:Nat} {v:Value} {g:Option Nat} {k:Key} {e:Ent} (h:Rel C.tab fr tm w σ γ) (hk:σ.get k=some e) (t_:k≠pp d)
  (N_:∀n e',σ.get (cell d n)≠some e') (aI:∀j e',σ.get (comp d j)≠some e'):pJ (tm.setIfInBounds d v) w (rN γ (pp d) g) k=pJ tm w γ k:=by
 obtain ⟨v0,v_,-⟩:=h.ent k e hk;obtain ⟨t,a,b⟩:=k;unfold pJ at v_ ⊢
 match t with
 | 0 =>
  simp only at v_ ⊢
  by_cases hb:b=0
  ·subst hb
   simp only [Zf]
   have:d≠a:=fun e=>t_ (by subst e;rfl)
   simp [Xp,this]
  ·simp [hb]
 | 1 =>
  simp only at v_ ⊢
  have:pp a≠pp d:=fun e'=>by
   have:=pZ.1 e'
   subst this;exact N_ b e (by simpa [cell] using hk)
  rw [qa _ _ this]
 | 2 =>
  simp only at v_ ⊢
  have:d≠a:=fun e'=>by
   subst e';exact aI b e (by simpa [comp] using hk)
  simp [Xp,this]
 | n+3=>rfl
theorem pD {k n:Key} {v:Ent} (h:n≠k):(σ.put k v).get n=σ.get n:=by rw [St.yJ,WZ (YL h)]
theorem pB {k:Key} {v:Ent}:(σ.put k v).get k=some v:=by rw [St.yJ,WY rfl]
theorem Lj {k:Key} (h:∃q c x,σ.get k=some ⟨q,.t c x⟩):σ.get k≠none:=by
 obtain ⟨q,c,x,h⟩:=h;rw [h];simp
theorem Rel.xn (hG:Good P C.tab) (h:Rel C.tab fr tm w σ γ) (g_:Wf C D σ) {d:Nat} {v:Value} {p:Path} {a:AV} (hd:d<tm.size)
  (d_:σ.get (pp d)=none)
  (hp:∀s b,(s,b)∈p→qY C s=false∧∃q c x,σ.get (pp s)=some ⟨q,.t c x⟩)
  (R_:∀h tag,a.home=some (h,tag)→σ.get h≠none) (aM:∀tag,a.re=some tag→Old D tag)
  (m_:σ.Holds p→AVR C.tab w (Ob fr γ) σ (pJ tm w γ) (rN γ (pp d) none) (pp d) v a) (dU:¬ σ.Holds p→v=undef) :
  Rel C.tab fr (tm.setIfInBounds d v) w (σ.put (pp d) ⟨p,a⟩) (rN γ (pp d) none)∧Wf C D (σ.put (pp d) ⟨p,a⟩):=by
 have N_:∀n e',σ.get (cell d n)≠some e' := fun n e' he=>by
  obtain ⟨c,tag,m,hb⟩:=h.cel d n e' he;rw [d_] at hb;cases hb
 have aI:∀j e',σ.get (comp d j)≠some e' := fun j e' he=>by
  obtain ⟨q,m,hb⟩:=h.cmp d j e' he;rw [d_] at hb;cases hb
 have t_:∀{k:Key},σ.get k≠none→k≠pp d:=fun hk e=>hk (by rw [e];exact d_);have A_:Stays w w (Ob fr γ) (Ob fr (rN γ (pp d) none)):=fun b _ ho=>⟨rfl,fun hb=>ho (zd hb)⟩;have hH:(σ.put (pp d) ⟨p,a⟩).Holds p↔σ.Holds p:=sW p fun s b hm=>pD (t_ (Lj (hp s b hm).2))
 have iC:∀h0 tag,σ.get h0≠none→∀γ0 γ1:Key→Option Nat,(γ1 h0=γ0 h0)→uY σ (σ.put (pp d) ⟨p,a⟩) (pJ tm w γ) (pJ (tm.setIfInBounds d v) w (rN γ (pp d) none)) γ0 γ1 h0 tag:=by
  intro h0 tag ay γ0 γ1 hγ;have hg:=pD (σ:=σ) (v:=⟨p,a⟩) (t_ ay);refine ⟨fun c xs hx=>?_,fun c n hx=>⟨hγ,n,by rw [←hg];exact hx⟩,fun p hx=>?_⟩
  ·rw [hg] at hx
   exact ⟨C7 h hx (t_ ay) N_ aI,xs,hx,rfl⟩
  ·rw [hg] at hx
   exact ⟨C7 h hx (t_ ay) N_ aI,p,hx⟩
 constructor
 ·refine Rel.step hG h (fun k=>k=pp d) rfl rfl rfl (WU _) (fun _ _ _=>rfl) A_ ?_ ?_ ?_ ?_ (fun k hk=>pD hk) ?_ ?_
  ·intro k k' b hk e_
   unfold rN at hk e_;split at hk<;>split at e_
   ·cases hk
   ·cases hk
   ·cases e_
   ·exact h.inj k k' b hk e_
  ·intro k b hk
   unfold rN at hk;split at hk
   ·cases hk
   ·exact h.blk k b hk
  ·intro s n e he
   rw [pD (by exact fun e=>px e.symm)] at he;obtain ⟨c,tag,m,hb⟩:=h.cel s n e he;exact ⟨c,tag,m,by rw [pD (t_ (by rw [hb];simp))];exact hb⟩
  ·intro s n e he
   rw [pD (by exact fun e=>pK e.symm)] at he;obtain ⟨q,m,hb⟩:=h.cmp s n e he;exact ⟨q,m,by rw [pD (t_ (by rw [hb];simp))];exact hb⟩
  ·intro k e hk he
   refine ⟨C7 h he hk N_ aI,qa _ _ hk,fun s b hm e'=>Lj (g_.paths k e s b he hm).2 (by rw [e'];exact d_),fun b hb=>⟨fun _ _ _ _=>rfl,fun _ _ _ _ cs ety hh=>⟨cs,hh,rfl⟩⟩,?_,?_⟩
   ·intro h0 tag hh fF
    exact absurd (g_.dom k e h0 tag he hh) (by rw [fF];exact fun q=>q d_)
   ·intro h0 tag hh _
    exact g_.dom k e h0 tag he hh
  ·intro k e hk he
   subst hk;rw [pB] at he;simp only [WJ] at he;subst he;refine ⟨v,by rw [pz];simp [hd],fun hh=>?_,fun hh=>dU fun q=>hh (hH.2 q)⟩;refine (m_ (hH.1 hh)).keep hG A_ rfl (fun b hb=>?_) ?_
   ·rw [qg] at hb;cases hb
   ·intro h0 tag ki
    exact iC h0 tag (R_ h0 tag ki) _ _ rfl
 ·have key:∀k e,(σ.put (pp d) ⟨p,a⟩).get k=some e→(k=pp d∧e=⟨p,a⟩)∨σ.get k=some e:=by
   intro k e he
   by_cases hk:k=pp d
   ·subst hk
    rw [pB] at he;simp only [WJ] at he;exact .inl ⟨rfl,he.symm⟩
   ·rw [pD hk] at he
    exact .inr he
  have ex:∀k,σ.get k≠none→(σ.put (pp d) ⟨p,a⟩).get k≠none:=fun k hk=>by rw [pD (t_ hk)];exact hk
  refine ⟨fun k e tag he hh=>?_,fun k e h0 tag he hh=>?_,fun k e s b he hm=>?_⟩
  ·rcases key k e he with ⟨-,rfl⟩ | he
   ·exact aM tag hh
   ·exact g_.tags k e tag he hh
  ·rcases key k e he with ⟨-,rfl⟩ | he
   ·exact ex _ (R_ h0 tag hh)
   ·exact ex _ (g_.dom k e h0 tag he hh)
  ·rcases key k e he with ⟨-,rfl⟩ | he
   ·obtain ⟨q1,q,c,x,q2⟩:=hp s b hm
    exact ⟨q1,q,c,x,by rw [pD (t_ (by rw [q2];simp))];exact q2⟩
   ·obtain ⟨q1,q,c,x,q2⟩:=g_.paths k e s b he hm
    exact ⟨q1,q,c,x,by rw [pD (t_ (by rw [q2];simp))];exact q2⟩
def After (C:Ctx) (fr:Fr) (D:Nat→Prop) (K:St→Prop):Act→World→Prop :=
 fun a' w'=>a'.defers=[]∧a'.tmps.size=C.nt∧∃σ' γ',K σ'∧Rel C.tab fr a'.tmps w' σ' γ'∧Wf C D σ'
theorem After.mono {K K':St→Prop} (hK:∀σ,K σ→K' σ) {D':Nat→Prop} (hD:∀j,D j→D' j) {a:Act} {w:World} (h:After C fr D K a w):After C fr D' K' a w:=by
 obtain ⟨h1,h2,σ',γ',h3,h4,h5⟩:=h;exact ⟨h1,h2,σ',γ',hK _ h3,h4,⟨fun k e tag he hh=>(h5.tags k e tag he hh).imp id fun ⟨j,hj,e⟩=>⟨j,hD j hj,e⟩,h5.dom,h5.paths⟩⟩
theorem rU {o:Oper} {d:Nat} {v:Value} {w':World} {K:Act→World→Prop} {Q:Exit→Act→World→Prop} (n_:(execOp (Act.eval ⟨tm,[]⟩) o).run P w=.ok (.value v) w')
  (az:o.dst=some d) (hK:K ⟨tm.setIfInBounds d v,[]⟩ w'):o.wp P ⟨tm,[]⟩ w K Q:=by
 unfold Oper.wp;rw [n_];simp only [Oper.upon,Act.put,az];exact hK
theorem IB (d:Option Nat) (p:Path) (f:Nat→R):(qy C d p f).run σ=.bad∨∃n,d=some n∧n<C.nt∧True∧σ.get (pp n)=none∧(qy C d p f).run σ=(f n).run σ:=by
 cases d with
 | none=>exact .inl rfl
 | some n =>
  simp only [qy]
  cases hn:decide (n<C.nt) with
  | false=>exact .inl rfl
  | true =>
   simp only [Rd.run]
   cases hg:σ.get (pp n) with
   | none=>exact .inr ⟨n,rfl,Xd hn,a_,hg,rfl⟩
   | some e=>exact .inl rfl
theorem rJ (hG:Good P C.tab) (h:Rel C.tab fr tm w σ γ) (g_:Wf C D σ) (f_:tm.size=C.nt) {i:Nat} {o:Oper} {d:Nat} {p:Path} {a:AV} {v:Value} {Q:Exit→Act→World→Prop}
  {K:St→Prop} (hn:d<C.nt) (az:o.dst=some d) (d_:σ.get (pp d)=none) (hp:σ.Holds p) (p_:∀s b,(s,b)∈p→qY C s=false∧∃q c x,σ.get (pp s)=some ⟨q,.t c x⟩)
  (n_:(execOp (Act.eval ⟨tm,[]⟩) o).run P w=.ok (.value v) w)
  (R_:∀h tag,a.home=some (h,tag)→σ.get h≠none) (aM:∀tag,a.re=some tag→Old D tag)
  (m_:AVR C.tab w (Ob fr γ) σ (pJ tm w γ) (rN γ (pp d) none) (pp d) v a) (hK:K (σ.puts [(pp d,⟨p,a⟩)])) :
  o.wp P ⟨tm,[]⟩ w (After C fr (fun j=>D j∨j=i) K) Q:=by
 obtain ⟨h1,h2⟩:=Rel.xn hG h g_ (by rw [f_];exact hn) d_ p_ R_ aM (fun _=>m_) (fun q=>absurd hp q);refine rU n_ az (After.mono (D:=D) (fun _ q=>q) (fun j=>.inl) ⟨rfl,by simp [f_],_,_,hK,h1,h2⟩)
end
def tC (tab:Tab) (w:World) (O:Nat→Prop) (c:TypeId) (v:Value) (xs:List T):Prop :=
 ∃ti e ce te a cap,tab.at c=some (c,ti)∧ti.k=.sl e∧tab.at e=some (ce,te)∧0<te.cells∧v=.slice a xs.length cap∧xs.length≤cap∧cap≤maxLen∧(a=none→cap=0) ∧
  ∀(j:Nat) x,xs[j]?=some x→∃b,a=some b∧x.isG=te.isS∧x.leaves.length=te.cells ∧
   ∀(n:Nat) y ty,x.leaves[n]?=some y→(te.lv ce)[n]?=some ty→∃u,w.cell? (b.add (j*te.cells+n))=some u∧L tab w O ty u y
section
variable {P:Program} {C:Ctx} {fr:Fr} {tm:Array Value} {w:World} {σ:St} {γ:Key→Option Nat} {D:Nat→Prop} {tab:Tab} {O:Nat→Prop}
theorem Kh {ti:TI} {e:TypeId} (h:ti.k=.sl e):ti.isS=false:=by simp [TI.isS,h]
theorem Fe {ti:TI} {k:IntKind} (h:ti.k=.int k):ti.isS=false:=by simp [TI.isS,h]
theorem CE {ti:TI} (h:ti.k=.bool):ti.isS=false:=by simp [TI.isS,h]
theorem pu {c:TypeId} {r r':TypeId×TI} (h:tab.at c=some r) (h':tab.at c=some r'):r=r' := by rw [h] at h';exact W3 h'
theorem EA {c:TypeId} {ti:TI} {k:IntKind} {v:Value} {y:T} (h:tab.at c=some (c,ti)) (hk:ti.k=.int k) (hv:V tab w O c v y) :
  v=.int k y.int∧y=.i k y.int∧k.wrap y.int=y.int:=by
 obtain ⟨hl,-,-⟩:=sG h (Fe hk) hv
 cases hl with
 | int h' e_ hn =>
  have:=pu h h'
  simp only [WK,W5] at this;subst this;rw [hk] at e_;cases e_;exact ⟨rfl,rfl,hn⟩
 | bool h' e_=>have:=pu h h';simp only [WK,W5] at this;subst this;rw [hk] at e_;cases e_
 | str h' e_=>have:=pu h h';simp only [WK,W5] at this;subst this;rw [hk] at e_;cases e_
 | nil h' e_=>have:=pu h h';simp only [WK,W5] at this;subst this;rw [hk] at e_;cases e_
 | sl h' e_=>have:=pu h h';simp only [WK,W5] at this;subst this;rw [hk] at e_;cases e_
 | ptr h' e_=>have:=pu h h';simp only [WK,W5] at this;subst this;rw [hk] at e_;cases e_
 | ifc h' e_=>have:=pu h h';simp only [WK,W5] at this;subst this;rw [hk] at e_;cases e_
 | fn h' e_=>have:=pu h h';simp only [WK,W5] at this;subst this;rw [hk] at e_;cases e_
 | fnc h' e_=>have:=pu h h';simp only [WK,W5] at this;subst this;rw [hk] at e_;cases e_
theorem ze {c:TypeId} {ti:TI} {v:Value} {y:T} (h:tab.at c=some (c,ti)) (hk:ti.k=.bool) (hv:V tab w O c v y):v=.bool y.bool∧y=.b y.bool:=by
 obtain ⟨hl,-,-⟩:=sG h (CE hk) hv
 cases hl with
 | bool h' e_=>exact ⟨rfl,rfl⟩
 | int h' e_=>have:=pu h h';simp only [WK,W5] at this;subst this;rw [hk] at e_;cases e_
 | str h' e_=>have:=pu h h';simp only [WK,W5] at this;subst this;rw [hk] at e_;cases e_
 | nil h' e_=>have:=pu h h';simp only [WK,W5] at this;subst this;rw [hk] at e_;cases e_
 | sl h' e_=>have:=pu h h';simp only [WK,W5] at this;subst this;rw [hk] at e_;cases e_
 | ptr h' e_=>have:=pu h h';simp only [WK,W5] at this;subst this;rw [hk] at e_;cases e_
 | ifc h' e_=>have:=pu h h';simp only [WK,W5] at this;subst this;rw [hk] at e_;cases e_
 | fn h' e_=>have:=pu h h';simp only [WK,W5] at this;subst this;rw [hk] at e_;cases e_
 | fnc h' e_=>have:=pu h h';simp only [WK,W5] at this;subst this;rw [hk] at e_;cases e_
theorem OE {c:TypeId} {ti:TI} {v:Value} {y:T} (h:tab.at c=some (c,ti)) (hk:ti.k=.str) (hv:V tab w O c v y):v=.string y.str∧y=.s y.str∧y.str.size≤maxLen:=by
 obtain ⟨hl,-,-⟩:=sG h (by simp [TI.isS,hk]) hv
 cases hl with
 | str h' e_ hs=>exact ⟨rfl,rfl,hs⟩
 | bool h' e_=>have:=pu h h';simp only [WK,W5] at this;subst this;rw [hk] at e_;cases e_
 | int h' e_=>have:=pu h h';simp only [WK,W5] at this;subst this;rw [hk] at e_;cases e_
 | nil h' e_=>have:=pu h h';simp only [WK,W5] at this;subst this;rw [hk] at e_;cases e_
 | sl h' e_=>have:=pu h h';simp only [WK,W5] at this;subst this;rw [hk] at e_;cases e_
 | ptr h' e_=>have:=pu h h';simp only [WK,W5] at this;subst this;rw [hk] at e_;cases e_
 | ifc h' e_=>have:=pu h h';simp only [WK,W5] at this;subst this;rw [hk] at e_;cases e_
 | fn h' e_=>have:=pu h h';simp only [WK,W5] at this;subst this;rw [hk] at e_;cases e_
 | fnc h' e_=>have:=pu h h';simp only [WK,W5] at this;subst this;rw [hk] at e_;cases e_
theorem Good.elem (hG:Good P tab) {c:TypeId} {ti:TI} {e:TypeId} (h:tab.at c=some (c,ti)) (hk:ti.k=.sl e):∃ce te,tab.at e=some (ce,te)∧0<te.cells∧tab.at ce=some (ce,te)∧(te.lv ce).length=te.cells:=by
 obtain ⟨d,-,hd⟩:=(hG c c ti h).und;rw [hk] at hd;cases d<;>simp at hd;obtain ⟨-,ce,te,he⟩:=hd;exact ⟨ce,te,he,(hG e ce te he).pos,(hG e ce te he).self,(hG e ce te he).len⟩
theorem yo (hG:Good P tab) {c:TypeId} {ti:TI} {e:TypeId} {v:Value} {y:T} (h:tab.at c=some (c,ti)) (hk:ti.k=.sl e) (hv:V tab w O c v y) :
  y=.l y.list∧tC tab w O c v y.list∧∀a n cap,v=.slice (some a) n cap→0<y.list.length→¬ O a.block:=by
 obtain ⟨ce,te,he,hp,-,ai⟩:=hG.elem h hk;obtain ⟨hl,-,-⟩:=sG h (Kh hk) hv
 cases hl with
 | nil h' e_ =>
  refine ⟨rfl,⟨ti,e,ce,te,none,0,h,hk,he,hp,rfl,WU _,by simp [maxLen],fun _=>rfl,fun j x hx=>by simp [T.list] at hx⟩,fun a n cap hh=>by cases hh⟩
 | @sl _ ti' e' ce' te' a cap xs h' e_ aO eT B_ hm ho vs hg ag fG =>
  have:=pu h h'
  simp only [WK,W5] at this;subst this;rw [hk] at e_;simp only [K.sl.injEq] at e_;subst e_
  have:=pu he aO
  simp only [WK] at this;obtain ⟨rfl,rfl⟩:=this;refine ⟨rfl,⟨ti,e,ce,te,some a,cap,h,hk,he,hp,rfl,B_,hm,(fun q=>nomatch q),fun j x hx=>⟨a,rfl,(hg j x hx).1,(hg j x hx).2,fun n y ty hy ht=>⟨vs j n,ag j x n y hx hy,fG j x n y ty hx hy ht⟩⟩⟩,?_⟩;intro a' n cap' hh r_;simp only [Value.slice.injEq,WJ] at hh;obtain ⟨rfl,-,-⟩:=hh;exact ho r_
 | bool h' e_=>have:=pu h h';simp only [WK,W5] at this;subst this;rw [hk] at e_;cases e_
 | int h' e_=>have:=pu h h';simp only [WK,W5] at this;subst this;rw [hk] at e_;cases e_
 | str h' e_=>have:=pu h h';simp only [WK,W5] at this;subst this;rw [hk] at e_;cases e_
 | ptr h' e_=>have:=pu h h';simp only [WK,W5] at this;subst this;rw [hk] at e_;cases e_
 | ifc h' e_=>have:=pu h h';simp only [WK,W5] at this;subst this;rw [hk] at e_;cases e_
 | fn h' e_=>have:=pu h h';simp only [WK,W5] at this;subst this;rw [hk] at e_;cases e_
 | fnc h' e_=>have:=pu h h';simp only [WK,W5] at this;subst this;rw [hk] at e_;cases e_
theorem tC.V (hG:Good P tab) {O O':Nat→Prop} {c:TypeId} {v:Value} {xs:List T} (h:tC tab w O c v xs) (hO:∀b,O' b→O b)
  (hb:∀a n cap,v=.slice (some a) n cap→0<xs.length→¬ O' a.block):V tab w O' c v (.l xs):=by
 obtain ⟨ti,e,ce,te,a,cap,h1,h2,h3,hp,hv,B_,hm,aW,aj⟩:=h;have z_:Stays w w O O' := fun b _ hb=>⟨rfl,fun q=>hb (hO b q)⟩
 refine sn h1 (Kh h2) (qz (C:=⟨tab,[],0,[],[],[],[],[],[]⟩) hG h1 (Kh h2)) rfl (by rw [hv];rfl) ?_
 cases a with
 | none =>
  have hx:xs=[]:=by
   cases xs with
   | nil=>rfl
   | cons x r =>
    obtain ⟨b,hb,-⟩:=aj 0 x rfl;cases hb
  subst hx;have hc:cap=0:=aW rfl;subst hc;subst hv;exact .nil h1 h2
 | some a =>
  subst hv;refine .sl h1 h2 h3 hp B_ hm (fun r_=>hb a _ _ rfl r_) (fun j n=>(w.cell? (a.add (j*te.cells+n))).getD undef) (fun j x hx=>?_) (fun j x n y hx hy=>?_) (fun j x n y ty hx hy ht=>?_)
  ·obtain ⟨b,s_,k1,k2,-⟩:=aj j x hx
   exact ⟨k1,k2⟩
  ·obtain ⟨b,s_,k1,k2,k3⟩:=aj j x hx
   simp only [WJ] at s_;subst s_;have hn:n<te.cells:=by rw [←k2];exact (WQ.1 hy).1
   obtain ⟨u,hu,-⟩:=k3 n y ((te.lv ce)[n]'(by rw [(hG e ce te h3).len];exact hn)) hy (by simp);rw [hu];rfl
  ·obtain ⟨b,s_,k1,k2,k3⟩:=aj j x hx
   simp only [WJ] at s_;subst s_;obtain ⟨u,hu,hl⟩:=k3 n y ty hy ht;rw [hu];exact hl.mono z_
end
section
variable {P:Program} {C:Ctx} {fr:Fr} {tm:Array Value} {w:World} {σ:St} {γ:Key→Option Nat} {D:Nat→Prop} {tab:Tab} {O:Nat→Prop}
theorem pM {b:Nat} {cs:Array Value} {e:TypeId} {fz:Nat×Nat} (h:w.heap[b]?=some (.cells cs e fz)) (j:Nat):w.cell? ⟨b,j,none⟩=cs[j]? := by
 simp [World.cell?,h]
theorem Own.uU {c:TypeId} {v:Value} {g:Option Nat} {xs:List T} (h:Own tab w O c v g xs):tC tab w O c v xs:=by
 obtain ⟨ti,e,ce,te,h1,h2,h3,hp,h⟩:=h
 rcases h with ⟨-,rfl,a,rfl⟩ | ⟨b,cap,cs,ak,hv,hh,B_,hm,f_,aj⟩
 ·exact ⟨ti,e,ce,te,a,0,h1,h2,h3,hp,rfl,WU _,by simp [maxLen],fun _=>rfl,fun j x hx=>by simp at hx⟩
 ·refine ⟨ti,e,ce,te,_,cap,h1,h2,h3,hp,hv,B_,hm,(fun q=>nomatch q),fun j x hx=>⟨_,rfl,(aj j x hx).1,(aj j x hx).2.1,fun n y ty hy ht=>?_⟩⟩
  obtain ⟨u,hu,hl⟩:=(aj j x hx).2.2 n y ty hy ht;refine ⟨u,?_,hl⟩;rw [rB,WV,pM hh];exact hu
theorem Sub.uU {c:TypeId} {hv v:Value} {off len:Nat} {ys:List T} (h:tC tab w O c hv ys) (hs:Sub tab c hv v off len ys.length):tC tab w O c v ((ys.drop off).take len):=by
 obtain ⟨ti,e,ce,te,a,cap,h1,h2,h3,hp,ag,B_,hm,aW,aj⟩:=h;obtain ⟨ti',e',ce',te',a1,cap1,a',cap',k1,k2,k3,k4,k5,k6,k7,k8,k9,k10,k11⟩:=hs;have e1:=pu h1 k1;simp only [WK,W5] at e1;subst e1;rw [h2] at k2;simp only [K.sl.injEq] at k2;subst k2;have e2:=pu h3 k3;simp only [WK] at e2;obtain ⟨rfl,rfl⟩:=e2;rw [ag] at k4;simp only [Value.slice.injEq] at k4;obtain ⟨rfl,-,rfl⟩:=k4;have i_:((ys.drop off).take len).length=len:=by simp;omega
 refine ⟨ti,e,ce,te,a',cap',h1,h2,h3,hp,by rw [i_];exact k5,by omega,by omega,fun q=>?_,fun j x hx=>?_⟩
 ·have:=aW (k10 q)
  omega
 ·have hj:j<len:=by
   have:=(WQ.1 hx).1
   omega
  obtain ⟨b,bk,bV⟩:=k11 (by omega);have aV:ys[off+j]?=some x:=by
   rw [Xy,WY hj,YM] at hx;exact hx
  obtain ⟨b',s_,q1,q2,q3⟩:=aj (off+j) x aV;rw [bk] at s_;simp only [WJ] at s_;subst s_;refine ⟨_,bV,q1,q2,fun n y ty hy ht=>?_⟩;obtain ⟨u,hu,hl⟩:=q3 n y ty hy ht;refine ⟨u,?_,hl⟩;rw [Ab,←YD,←Xe];exact hu
theorem Own.freeze (hG:Good P tab) {O':Nat→Prop} {c:TypeId} {v:Value} {g:Option Nat} {xs:List T} (h:Own tab w O c v g xs) (hO:∀b,O' b→O b) (hb:∀b,g=some b→¬ O' b) :
  V tab w O' c v (.l xs):=by
 refine h.uU.V hG hO ?_;intro a n cap hv r_;obtain ⟨ti,e,ce,te,h1,h2,h3,hp,h⟩:=h
 rcases h with ⟨-,rfl,-⟩ | ⟨b,cap',cs,ak,ag,-⟩
 ·simp at r_
 ·rw [ag] at hv
  simp only [Value.slice.injEq,WJ] at hv;obtain ⟨rfl,-,-⟩:=hv;exact hb b ak
def Ez (tab:Tab) (w:World) (O:Nat→Prop) (c:TypeId) (v:Value) (y:T):Prop:=V tab w O c v y∨∃xs,y=.l xs∧tC tab w O c v xs
theorem rg (h:Rel C.tab fr tm w σ γ) {k h0:Key} {tag off len:Nat} {c c':TypeId} {xs:List T} {v:Value}
  (ha:AVR C.tab w (Ob fr γ) σ (pJ tm w γ) γ k v (.alias h0 tag c off len)) (hh:σ.get h0=some ⟨[],.own c' tag xs⟩) :
  c'=c∧tC C.tab w (Ob fr γ) c v ((xs.drop off).take len)∧∃hv,pJ tm w γ h0=some hv∧Own C.tab w (Ob fr γ) c hv (γ h0) xs∧Sub C.tab c hv v off len xs.length:=by
 obtain ⟨hc,hv,h1,h2⟩:=ha c' xs hh;subst hc;obtain ⟨v0,v_,hr,-⟩:=h.ent h0 _ hh;rw [h1] at v_;simp only [WJ] at v_;subst v_;have ho:Own C.tab w (Ob fr γ) c' hv (γ h0) xs:=hr trivial;exact ⟨rfl,h2.uU ho.uU,hv,h1,ho,h2⟩
theorem qB (hG:Good P C.tab) (h:Rel C.tab fr tm w σ γ) (p:Path) (hp:σ.Holds p) (x:Operand) (ty:TypeId) {f:Option (Key×Path)→AV→R} {motive:qO→Prop}
  (c_:motive .bad) (l_:∀ko a,OpdR C fr tm w σ γ p ty x ko a→motive ((f ko a).run σ)):motive ((opnd C p x ty f).run σ):=by
 rcases MH hG h p hp x ty f with hb | ⟨ko,a,hr,ho⟩
 ·rw [hb];exact c_
 ·rw [hr];exact l_ ko a ho
theorem qn (h0:Key) (tag:Nat) {f:TypeId→List T→R} {motive:qO→Prop} (c_:motive .bad)
  (l_:∀c xs,σ.get h0=some ⟨[],.own c tag xs⟩→motive ((f c xs).run σ)):motive ((tK h0 tag f).run σ):=by
 simp only [tK,Rd.run];split
 ·rename_i c tag' xs he
  split
  ·rename_i ht
   have:=WO ht
   subst this;exact l_ c xs he
  ·exact c_
 ·exact c_
theorem ru (hG:Good P C.tab) (h:Rel C.tab fr tm w σ γ) (p:Path) (hp:σ.Holds p) (x:Operand) (ty:TypeId) {k:TypeId→T→R} {motive:qO→Prop}
  (c_:motive .bad) (l_:∀c y,Ez C.tab w (Ob fr γ) c (ev tm x) y→motive ((k c y).run σ)):motive ((FK C p x ty k).run σ):=by
 unfold FK;refine qB hG h p hp x ty c_ ?_;intro ko a ho
 cases ho with
 | tmp s e hx he y_ j_ =>
  cases h_:e.av with
  | t c y =>
   rw [h_] at j_;exact l_ c y (.inl j_)
  | own c tag xs =>
   rw [h_] at j_;exact l_ c _ (.inr ⟨xs,rfl,Own.uU j_⟩)
  | alias h0 tag c off len =>
   rw [h_] at j_;exact qn h0 tag c_ fun c' xs hh=>l_ c _ (.inr ⟨_,rfl,(rg h j_ hh).2.1⟩)
  | _=>exact c_
 | const c y _ hv=>exact l_ c y (.inl hv)
 | nil c e ti _ hx ht hc hk =>
  refine l_ c _ (.inr ⟨[],rfl,?_⟩);obtain ⟨ce,te,he,eT,-,-⟩:=hG.elem hc hk;exact ⟨ti,e,ce,te,none,0,hc,hk,he,eT,by rw [hx];rfl,WU _,by simp [maxLen],fun _=>rfl,fun j x hx=>by simp at hx⟩
theorem pI (d:Option Nat) (p:Path) {f:Nat→R} {motive:qO→Prop} (c_:motive .bad)
  (l_:∀n,d=some n→n<C.nt→True→σ.get (pp n)=none→motive ((f n).run σ)):motive ((qy C d p f).run σ):=by
 rcases IB (C:=C) (σ:=σ) d p f with hb | ⟨n,h1,h2,h3,h4,h5⟩
 ·rw [hb];exact c_
 ·rw [h5];exact l_ n h1 h2 h3 h4
theorem UH {c:TypeId} {k:IntKind} (h:C.ik c=some k):∃c' ti,C.tab.at c=some (c',ti)∧ti.k=.int k:=by
 unfold Ctx.ik Ctx.kd at h
 cases hc:C.tab.at c with
 | none=>simp [hc,K.kind] at h
 | some r =>
  obtain ⟨c',ti⟩:=r;simp only [hc] at h;refine ⟨c',ti,rfl,?_⟩;cases hk:ti.k<;>simp [hk,K.kind] at h;rw [h]
theorem DA {c:TypeId} {e:TypeId} (h:C.el c=some e):∃c' ti,C.tab.at c=some (c',ti)∧ti.k=.sl e:=by
 unfold Ctx.el Ctx.kd at h
 cases hc:C.tab.at c with
 | none=>simp [hc,K.elem] at h
 | some r =>
  obtain ⟨c',ti⟩:=r;simp only [hc] at h;refine ⟨c',ti,rfl,?_⟩;cases hk:ti.k<;>simp [hk,K.elem] at h;rw [h]
theorem vm {c:TypeId} {k:K} (h:C.kd c=k) (t_:k≠.no):∃c' ti,C.tab.at c=some (c',ti)∧ti.k=k:=by
 unfold Ctx.kd at h
 cases hc:C.tab.at c with
 | none=>simp [hc] at h;exact absurd h.symm t_
 | some r =>
  obtain ⟨c',ti⟩:=r;simp only [hc] at h;exact ⟨c',ti,rfl,h⟩
theorem Ez.self {c:TypeId} {v:Value} {y:T} (h:Ez tab w O c v y):∃ti,tab.at c=some (c,ti):=by
 rcases h with ⟨ti,h,-⟩ | ⟨xs,-,ti,e,ce,te,a,cap,h,-⟩
 ·exact ⟨ti,h⟩
 ·exact ⟨ti,h⟩
theorem Ez.nilp {c e:TypeId} {v:Value} {y:T} (h:Ez C.tab w O c v y) (hk:C.kd c=.sl e):∃a n cap,v=.slice a n cap∧(a=none→y.list=[]):=by
 obtain ⟨c',ti,h1,h2⟩:=vm hk (by simp)
 rcases h with h | ⟨xs,rfl,ti',e',ce,te,a,cap,h3,h4,-,-,hv,P_,-,hn,-⟩
 ·obtain ⟨ti',h3,-⟩:=id h
  have:=pu h1 h3
  simp only [WK] at this;obtain ⟨rfl,rfl⟩:=this;obtain ⟨hl,-,-⟩:=sG h1 (by simp [TI.isS,h2]) h
  cases hl with
  | nil=>exact ⟨none,0,0,rfl,fun _=>rfl⟩
  | sl=>exact ⟨some _,_,_,rfl,fun q=>by cases q⟩
  | int h' e_=>have:=pu h1 h';simp only [WK,W5] at this;subst this;rw [h2] at e_;cases e_
  | bool h' e_=>have:=pu h1 h';simp only [WK,W5] at this;subst this;rw [h2] at e_;cases e_
  | str h' e_=>have:=pu h1 h';simp only [WK,W5] at this;subst this;rw [h2] at e_;cases e_
  | ptr h' e_=>have:=pu h1 h';simp only [WK,W5] at this;subst this;rw [h2] at e_;cases e_
  | ifc h' e_=>have:=pu h1 h';simp only [WK,W5] at this;subst this;rw [h2] at e_;cases e_
  | fn h' e_=>have:=pu h1 h';simp only [WK,W5] at this;subst this;rw [h2] at e_;cases e_
  | fnc h' e_=>have:=pu h1 h';simp only [WK,W5] at this;subst this;rw [h2] at e_;cases e_
 ·refine ⟨a,_,cap,hv,fun q=>?_⟩
  have:xs.length=0:=by have:=hn q;omega
  exact Yf.1 this
theorem Ez.int {c:TypeId} {k:IntKind} {v:Value} {y:T} (h:Ez C.tab w O c v y) (hk:C.ik c=some k):v=.int k y.int∧y=.i k y.int∧k.wrap y.int=y.int:=by
 obtain ⟨c',ti,h1,h2⟩:=UH hk
 rcases h with h | ⟨xs,-,ti',e,ce,te,a,cap,h3,h4,-⟩
 ·obtain ⟨ti',h3,-⟩:=id h
  have:=pu h1 h3
  simp only [WK] at this;obtain ⟨rfl,rfl⟩:=this;exact EA h1 h2 h
 ·have:=pu h1 h3
  simp only [WK] at this;obtain ⟨rfl,rfl⟩:=this;rw [h2] at h4;cases h4
theorem Ez.bool {c:TypeId} {v:Value} {y:T} (h:Ez C.tab w O c v y) (hk:C.kd c=.bool):v=.bool y.bool∧y=.b y.bool:=by
 obtain ⟨c',ti,h1,h2⟩:=vm hk (by simp)
 rcases h with h | ⟨xs,-,ti',e,ce,te,a,cap,h3,h4,-⟩
 ·obtain ⟨ti',h3,-⟩:=id h
  have:=pu h1 h3
  simp only [WK] at this;obtain ⟨rfl,rfl⟩:=this;exact ze h1 h2 h
 ·have:=pu h1 h3
  simp only [WK] at this;obtain ⟨rfl,rfl⟩:=this;rw [h2] at h4;cases h4
theorem Ez.str {c:TypeId} {v:Value} {y:T} (h:Ez C.tab w O c v y) (hk:C.kd c=.str):v=.string y.str:=by
 obtain ⟨c',ti,h1,h2⟩:=vm hk (by simp)
 rcases h with h | ⟨xs,-,ti',e,ce,te,a,cap,h3,h4,-⟩
 ·obtain ⟨ti',h3,-⟩:=id h
  have:=pu h1 h3
  simp only [WK] at this;obtain ⟨rfl,rfl⟩:=this;exact (OE h1 h2 h).1
 ·have:=pu h1 h3
  simp only [WK] at this;obtain ⟨rfl,rfl⟩:=this;rw [h2] at h4;cases h4
theorem Ez.slice (hG:Good P C.tab) {c:TypeId} {e:TypeId} {v:Value} {y:T} (h:Ez C.tab w O c v y) (hk:C.el c=some e):y=.l y.list∧tC C.tab w O c v y.list:=by
 obtain ⟨c',ti,h1,h2⟩:=DA hk
 rcases h with h | ⟨xs,rfl,h⟩
 ·obtain ⟨ti',h3,-⟩:=id h
  have:=pu h1 h3
  simp only [WK] at this;obtain ⟨rfl,rfl⟩:=this;obtain ⟨q1,q2,-⟩:=yo hG h1 h2 h;exact ⟨q1,q2⟩
 ·exact ⟨rfl,h⟩
theorem Fc (hG:Good P tab) {c:TypeId} {ti:TI} {k:IntKind} {n:Int} (h:tab.at c=some (c,ti)) (hk:ti.k=.int k) (hn:k.wrap n=n):V tab w O c (.int k n) (.i k n) :=
 sn h (Fe hk) (qz (C:=⟨tab,[],0,[],[],[],[],[],[]⟩) hG h (Fe hk)) rfl rfl (.int h hk hn)
theorem Ag (hG:Good P tab) {c:TypeId} {ti:TI} {b:Bool} (h:tab.at c=some (c,ti)) (hk:ti.k=.bool):V tab w O c (.bool b) (.b b) :=
 sn h (CE hk) (qz (C:=⟨tab,[],0,[],[],[],[],[],[]⟩) hG h (CE hk)) rfl rfl (.bool h hk)
theorem UP (n:Int):IntKind.u8.wrap n=n%256:=by simp [IntKind.wrap,IntKind.bits,IntKind.signed]
theorem T9 (n:Int):IntKind.u16.wrap n=n%65536:=by simp [IntKind.wrap,IntKind.bits,IntKind.signed]
theorem Lz (n:Int):IntKind.u32.wrap n=n%4294967296:=by simp [IntKind.wrap,IntKind.bits,IntKind.signed]
theorem Ua (n:Int):IntKind.u64.wrap n=n%18446744073709551616:=by simp [IntKind.wrap,IntKind.bits,IntKind.signed]
theorem UZ (n:Int):IntKind.i8.wrap n=(n+128)%256-128:=by
 simp [IntKind.wrap,IntKind.bits,IntKind.signed];split<;>omega
theorem T7 (n:Int):IntKind.i16.wrap n=(n+32768)%65536-32768:=by
 simp [IntKind.wrap,IntKind.bits,IntKind.signed];split<;>omega
theorem T8 (n:Int):IntKind.i32.wrap n=(n+2147483648)%4294967296-2147483648:=by
 simp [IntKind.wrap,IntKind.bits,IntKind.signed];split<;>omega
theorem RI (n:Int):IntKind.i64.wrap n=(n+9223372036854775808)%18446744073709551616-9223372036854775808:=by
 simp [IntKind.wrap,IntKind.bits,IntKind.signed];split<;>omega
theorem yk (k:IntKind) (n:Int):k.wrap (k.wrap n)=k.wrap n:=by
 cases k
 ·simp only [UZ];omega
 ·simp only [T7];omega
 ·simp only [T8];omega
 ·simp only [RI];omega
 ·simp only [UP];omega
 ·simp only [T9];omega
 ·simp only [Lz];omega
 ·simp only [Ua];omega
theorem qC (ty:TypeId) {f:TypeId→TI→R} {motive:qO→Prop} (c_:motive .bad) (l_:∀c ti,C.tab.at ty=some (c,ti)→motive ((f c ti).run σ)) :
  motive ((we C ty f).run σ):=by
 unfold we
 cases h:C.tab.at ty with
 | none=>exact c_
 | some r=>obtain ⟨c,ti⟩:=r;exact l_ c ti h
end
theorem wV {σ:St} {p:Path} {c:Prop} (h:imp σ p c) (hp:σ.Holds p):c:=by
 cases p with
 | nil=>exact h
 | cons x r=>obtain ⟨s,b⟩:=x;exact h hp
def FU:T→Value
 | .i k n=>.int k n
 | .b x=>.bool x
 | _=>undef
theorem Hi (k:IntKind) (n:Int):k.wrap n=n↔k.min≤n∧n≤k.max:=by
 cases k
 ·simp only [UZ,IntKind.min,IntKind.max,IntKind.signed,IntKind.bits,Zf];omega
 ·simp only [T7,IntKind.min,IntKind.max,IntKind.signed,IntKind.bits,Zf];omega
 ·simp only [T8,IntKind.min,IntKind.max,IntKind.signed,IntKind.bits,Zf];omega
 ·simp only [RI,IntKind.min,IntKind.max,IntKind.signed,IntKind.bits,Zf];omega
 ·simp [UP,IntKind.min,IntKind.max,IntKind.signed,IntKind.bits];omega
 ·simp [T9,IntKind.min,IntKind.max,IntKind.signed,IntKind.bits];omega
 ·simp [Lz,IntKind.min,IntKind.max,IntKind.signed,IntKind.bits];omega
 ·simp [Ua,IntKind.min,IntKind.max,IntKind.signed,IntKind.bits];omega
theorem AJ (k:IntKind):k.min≤0:=by cases k<;>decide
theorem Bv (k:IntKind):0≤k.max:=by cases k<;>decide
theorem RC {k:IntKind} {a:Int} (b:Int) (ha:k.wrap a=a):k.wrap (a.tmod b)=a.tmod b:=by
 rw [Hi] at ha ⊢;have h1:=AJ k;have h2:=Bv k;have h3:=Int.natAbs_tmod a b;have h4:=Nat.mod_le a.natAbs b.natAbs
 rcases Int.le_total 0 a with h | h
 ·have:=Int.tmod_nonneg b h
  omega
 ·have h5:a.tmod b = -((-a).tmod b):=by rw [Int.neg_tmod];omega
  have h6:=Int.tmod_nonneg b (show (0:Int) ≤ -a by omega);omega
theorem Qt {k:IntKind} {a:Int} (n:Nat) (ha:k.wrap a=a):k.wrap (a.fdiv (2 ^ n))=a.fdiv (2 ^ n):=by
 rw [Hi] at ha ⊢;have h1:=AJ k;have h2:=Bv k;have hp:(0:Int)<2 ^ n:=Int.pow_pos (by decide);have h3:=Int.natAbs_fdiv_le_natAbs a (2 ^ n);rw [XZ a (Int.le_of_lt hp)] at h3 ⊢
 rcases Int.le_total 0 a with h | h
 ·have:=Int.ediv_nonneg h (Int.le_of_lt hp)
  omega
 ·have:=Int.ediv_le_ediv hp h
  simp at this;omega
section
variable {P:Program} {C:Ctx} {fr:Fr} {tm:Array Value} {w:World} {σ:St} {γ:Key→Option Nat} {D:Nat→Prop} {O:Nat→Prop}
theorem LQ {op:BinOp} {k:IntKind} {x y:Int} (hx:k.wrap x=x) (h:Ms op=false):∃n,arith op k x y=.i k n∧k.wrap n=n:=by
 cases op<;>first
  | exact ⟨_,rfl,yk _ _⟩
  | exact ⟨_,rfl,RC y hx⟩
  | exact ⟨_,rfl,Qt _ hx⟩
  | cases h
theorem IV {op:BinOp} {k:IntKind} {x y:Int} (h:Ms op=true):∃b,arith op k x y=.b b:=by
 cases op<;>first | exact ⟨_,rfl⟩ | cases h
theorem Ra {op:BinOp} {t:TypeId} {x y:Operand} {k k':IntKind} {a b:Int} (hk:yM op=true∨k=k') (hc:∀c,BG op b=some c→c) :
  (do eqGuard op t x y (.int k a) (.int k' b);binOp op t (.int k a) (.int k' b):Sem Value).run P w=.ok (FU (arith op k a b)) w:=by
 cases op
 case quo =>
  obtain rfl:k=k' := hk.resolve_left (by simp [yM]);have h0:b≠0:=hc _ rfl;simp [eqGuard,binOp,Op.intDiv,h0,arith,FU,uQ]
 case rem =>
  obtain rfl:k=k' := hk.resolve_left (by simp [yM]);have h0:b≠0:=hc _ rfl;simp [eqGuard,binOp,Op.intDiv,h0,arith,FU,uA]
 case shl =>
  have h0:0≤b:=hc _ rfl;have h1:¬ b<0:=by omega
  simp [eqGuard,binOp,Op.shift,h1,arith,FU,zp]
 case shr =>
  have h0:0≤b:=hc _ rfl;have h1:¬ b<0:=by omega
  simp [eqGuard,binOp,Op.shift,h1,arith,FU,sE]
 all_goals
  obtain rfl:k=k' := hk.resolve_left (by simp [yM]);simp [eqGuard,binOp,Op.intArith,Op.intBits,Op.intCmp,arith,FU,pL,qc,zk,qv,eqI,neI,ltI,leI]
end
abbrev Sound (P:Program) (C:Ctx) (fr:Fr) (tm:Array Value) (w:World) (σ:St) (D:Nat→Prop) (i:Nat) (o:Oper) (p:Path) (K:St→Prop) (Q:Exit→Act→World→Prop) (r:qO):Prop :=
 qO.W P C.tab σ p K r→o.wp P ⟨tm,[]⟩ w (After C fr (fun j=>D j∨j=i) K) Q
section
variable {P:Program} {C:Ctx} {fr:Fr} {tm:Array Value} {w:World} {σ:St} {γ:Key→Option Nat} {D:Nat→Prop}
 (hG:Good P C.tab) (h:Rel C.tab fr tm w σ γ) (g_:Wf C D σ) (f_:tm.size=C.nt) {i:Nat} {o:Oper} {p:Path} (hp:σ.Holds p)
 (p_:∀s b,(s,b)∈p→qY C s=false∧∃q c x,σ.get (pp s)=some ⟨q,.t c x⟩) {K:St→Prop} {Q:Exit→Act→World→Prop}
theorem wX (d:Nat) {t:TypeId} (hu:P.underlying t=some .bool) (a b:Bool):(Op.equalIn (d+1) t (.bool a) (.bool b)).run P w=.ok (a == b) w:=by
 simp [Op.equalIn,run_underlying hu]
theorem Ed {src dst:TypeId} {ds:TypeDesc} {k0 k:IntKind} (hs:P.underlying src=some ds) (hu:P.underlying dst=some (.int k)) (n:Int) :
  (convert src dst (.int k0 n)).run P w=.ok (.int k (k.wrap n)) w:=by
 unfold convert;rw [Sem.run_bind,run_underlying hs];simp only [Result.andThen_ok];rw [Sem.run_bind,run_underlying hu];simp only [Result.andThen_ok];cases ds<;>simp [Conv.intToInt]
theorem pq:Sound P C fr tm w σ D i o p K Q .bad:=fun hW=>hW.elim
include hG h g_ f_ hp p_
theorem tU {d:Nat} {c:TypeId} {y:T} {v:Value} (hn:d<C.nt) (az:o.dst=some d) (d_:σ.get (pp d)=none)
  (n_:(execOp (Act.eval ⟨tm,[]⟩) o).run P w=.ok (.value v) w) (hv:V C.tab w (Ob fr γ) c v y) (hK:K (σ.puts [(pp d,⟨p,.t c y⟩)])) :
  o.wp P ⟨tm,[]⟩ w (After C fr (fun j=>D j∨j=i) K) Q :=
 rJ (a:=.t c y) hG h g_ f_ hn az d_ hp p_ n_ (fun _ _ hh=>by cases hh) (fun _ hh=>by cases hh) hv hK
omit hG h g_ f_ hp p_ in
theorem FF {op:BinOp} {ty:TypeId} {f:TypeId→TI→R} {motive:qO→Prop} (c_:motive .bad) (l_:∀c ti t0,C.tab.at t0=some (c,ti)→motive ((f c ti).run σ)):motive ((KY C op ty f).run σ):=by
 unfold KY;split
 ·rename_i c ti hc;exact l_ c ti _ hc
 ·split
  ·rename_i c ti _ hc;exact l_ c ti _ hc
  ·exact c_
theorem Hn {op:BinOp} {xt yt:TypeId} {x y:Operand} (ho:o.op=.binOp op xt x y yt):Sound P C fr tm w σ D i o p K Q ((Uu C p o op xt x y yt).run σ):=by
 unfold Uu;refine pI _ _ pq fun d hd hn hv d_=>?_
 refine ru hG h p hp x xt pq fun cx vx hx=>?_
 refine ru hG h p hp y yt pq fun cy vy hy=>?_
 refine FF pq fun cr tr ty0 hr=>?_
 have cA:=(hG _ _ _ hr).self;split
 ·rename_i k k' hk e_
  obtain ⟨ex,-,wx⟩:=hx.int hk;obtain ⟨ey,-,wy⟩:=hy.int e_;split
  ·rename_i dv
   have aR:yM op=true∨k=k' := by
    simp only [Yv,Xo] at dv;exact dv
   have key:V C.tab w (Ob fr γ) cr (FU (arith op k vx.int vy.int)) (arith op k vx.int vy.int) →
     Sound P C fr tm w σ D i o p K Q (.upd (BG op vy.int) [(pp d,⟨p,.t cr (arith op k vx.int vy.int)⟩)]):=by
    intro hV hW;have hc:∀q,BG op vy.int=some q→q:=by
     intro q hq;rw [hq] at hW;exact wV hW.1 hp
    have hK:K (σ.puts [(pp d,⟨p,.t cr (arith op k vx.int vy.int)⟩)]):=by
     cases hq:BG op vy.int with
     | none=>rw [hq] at hW;exact hW
     | some q=>rw [hq] at hW;exact hW.2
    refine tU hG h g_ f_ hp p_ hn hd d_ ?_ hV hK;have nc:=Ra (P:=P) (w:=w) (t:=xt) (x:=x) (y:=y) (op:=op) (k:=k) (k' := k') (a:=vx.int) (b:=vy.int) aR hc;simp only [execOp,ho]
    change ev tm x=_ at ex
    change ev tm y=_ at ey
    unfold ev at ex ey;rw [ex,ey];rw [Sem.run_bind,nc];rfl
   split
   ·rename_i bF
    split
    ·rename_i aS
     obtain ⟨b,hb⟩:=IV (k:=k) (x:=vx.int) (y:=vy.int) bF;exact key (by rw [hb];exact Ag hG cA aS)
    ·exact pq
   ·rename_i bF
    split
    ·rename_i k2 aS
     split
     ·rename_i fc
      have kj:=Xd fc;subst kj;obtain ⟨n,fH,iD⟩:=LQ (op:=op) (x:=vx.int) (y:=vy.int) wx bF;exact key (by rw [fH];exact Fc hG cA aS iD)
     ·exact pq
    ·exact pq
  ·exact pq
 ·split
  ·rename_i h1 h2 h3 aS
   obtain ⟨ex,-⟩:=hx.bool h1;obtain ⟨ey,-⟩:=hy.bool h2;obtain ⟨c3,t3,ff,bw⟩:=vm h3 (by simp);obtain ⟨dd,hu,J_⟩:=(hG _ _ _ ff).und;rw [bw] at J_;have aw:P.underlying xt=some .bool:=by cases dd<;>simp at J_;exact hu
   unfold ev at ex ey;split
   ·intro hW
    refine tU hG h g_ f_ hp p_ hn hd d_ (v:=.bool (vx.bool == vy.bool)) ?_ (Ag hG cA aS) hW;simp only [execOp,ho,ex,ey];simp [eqGuard,binOp,Op.equal,Op.maxDepth,wX (w:=w) 9999 aw]
   ·intro hW
    refine tU hG h g_ f_ hp p_ hn hd d_ (v:=.bool (!(vx.bool == vy.bool))) ?_ (Ag hG cA aS) hW;simp only [execOp,ho,ex,ey];simp [eqGuard,binOp,Op.equal,Op.maxDepth,wX (w:=w) 9999 aw]
   ·exact pq
  ·rename_i e1 e2 e3 h1 h2 h3 aS
   obtain ⟨a,n,cap,dM,f9⟩:=hx.nilp h1;obtain ⟨c3,t3,ff,bw⟩:=vm h3 (by simp);obtain ⟨dd,hu,J_⟩:=(hG _ _ _ ff).und;rw [bw] at J_;obtain ⟨e',aw⟩:∃e',P.underlying xt=some (.slice e'):=by cases dd<;>simp at J_;exact ⟨_,hu⟩
   have aQ:Fd y=true→(Act.eval ⟨tm,[]⟩ y)=.slice none 0 0:=by
    intro hy;cases y<;>simp [Fd] at hy;rename_i v;unfold tZ at hy;split at hy
    ·rfl
    ·cases hy
   change ev tm x=_ at dM
   unfold ev at dM;have dV:∀d,(Op.equalIn (d+1) xt (.slice a n cap) (.slice none 0 0)).run P w=.ok a.isNone w:=by
    intro d;cases a<;>simp [Op.equalIn,run_underlying aw]
   split
   ·rename_i _ hy
    intro hW;refine tU hG h g_ f_ hp p_ hn hd d_ (v:=.bool a.isNone) ?_ (Ag hG cA aS) (hW (.b a.isNone) ?_)
    ·simp only [execOp,ho,dM,aQ hy]
     simp [eqGuard,binOp,Op.equal,Op.maxDepth,dV 9999]
    ·intro hb
     simp only [T.bool,Option.isNone_iff_eq_none] at hb;exact f9 hb
   ·rename_i _ hy
    intro hW;refine tU hG h g_ f_ hp p_ hn hd d_ (v:=.bool (!a.isNone)) ?_ (Ag hG cA aS) (hW (.b a.isNone) ?_)
    ·simp only [execOp,ho,dM,aQ hy]
     simp [eqGuard,binOp,Op.equal,Op.maxDepth,dV 9999]
    ·intro hb
     simp only [T.bool,Option.isNone_iff_eq_none] at hb;exact f9 hb
   ·exact pq
  ·exact pq
theorem Lw {op:UnOp} {xt:TypeId} {x:Operand} (ho:o.op=.unOp op xt x):Sound P C fr tm w σ D i o p K Q ((unR C p o op xt x).run σ):=by
 unfold unR;refine pI _ _ pq fun d hd hn hv d_=>?_
 refine ru hG h p hp x xt pq fun cx vx hx=>?_
 refine qC _ pq fun cr tr hr=>?_
 have cA:=(hG _ _ _ hr).self;split
 ·rename_i h1 aS
  obtain ⟨ex,-⟩:=hx.bool h1;intro hW;refine tU hG h g_ f_ hp p_ hn hd d_ (v:=.bool (!vx.bool)) ?_ (Ag hG cA aS) hW;unfold ev at ex;simp [execOp,ho,ex,Op.unary]
 ·rename_i k k' h1 aS
  split
  ·rename_i hk
   have e_:=Xd hk;subst e_;obtain ⟨ex,-,-⟩:=hx.int (k:=k) (by unfold Ctx.ik;rw [h1];rfl);intro hW;refine tU hG h g_ f_ hp p_ hn hd d_ (v:=.int k (qc k 0 vx.int)) ?_ (Fc hG cA aS (yk _ _)) hW;unfold ev at ex;simp [execOp,ho,ex,Op.unary,Op.intArith,qc]
  ·exact pq
 ·rename_i k k' h1 aS
  split
  ·rename_i hk
   have e_:=Xd hk;subst e_;obtain ⟨ex,-,-⟩:=hx.int (k:=k) (by unfold Ctx.ik;rw [h1];rfl);intro hW;refine tU hG h g_ f_ hp p_ hn hd d_ (v:=.int k (qv .xor k (if k.signed then -1 else k.max) vx.int)) ?_ (Fc hG cA aS (yk _ _)) hW;unfold ev at ex;simp [execOp,ho,ex,Op.unary,Op.intBits,qv]
  ·exact pq
 ·exact pq
theorem ER {src dst:TypeId} {x:Operand} (ho:o.op=.convert src dst x):Sound P C fr tm w σ D i o p K Q ((OQ C p o src dst x).run σ):=by
 unfold OQ;refine pI _ _ pq fun d hd hn hv d_=>?_
 refine ru hG h p hp x src pq fun cx vx hx=>?_
 refine qC _ pq fun cr tr hr=>?_
 have cA:=(hG _ _ _ hr).self;split
 ·rename_i k0 k h1 aS
  obtain ⟨ex,-,-⟩:=hx.int (k:=k0) (by unfold Ctx.ik;rw [h1];rfl);obtain ⟨dd,hu,J_⟩:=(hG _ _ _ hr).und;rw [aS] at J_;have aw:P.underlying dst=some (.int k):=by cases dd<;>simp at J_;subst J_;exact hu
  cases z_:C.tab.at src with
  | none=>exact pq
  | some r =>
  obtain ⟨cs,ts⟩:=r;obtain ⟨ds,nd,-⟩:=(hG _ _ _ z_).und;intro hW;refine tU hG h g_ f_ hp p_ hn hd d_ (v:=.int k (pG k vx.int)) ?_ (Fc hG cA aS (yk _ _)) hW;unfold ev at ex;simp only [execOp,ho,ex];rw [Sem.run_bind,Ed nd aw];rfl
 ·exact pq
theorem Iw {xt:TypeId} {x ix:Operand} (ho:o.op=.index xt x ix):Sound P C fr tm w σ D i o p K Q ((UM C p o xt x ix).run σ):=by
 unfold UM;refine pI _ _ pq fun d hd hn hv d_=>?_
 refine ru hG h p hp ix 3 pq fun ci vi hi=>?_
 refine ru hG h p hp x xt pq fun cx vx hx=>?_
 refine qC _ pq fun cr tr hr=>?_
 have cA:=(hG _ _ _ hr).self;split
 ·rename_i k hk h1 h2 aS
  obtain ⟨ei,-,-⟩:=hi.int hk;have ex:=hx.str h1;obtain ⟨c3,t3,ff,bw⟩:=vm h2 (by simp);obtain ⟨dd,hu,J_⟩:=(hG _ _ _ ff).und;rw [bw] at J_;have aw:P.underlying xt=some .string:=by cases dd<;>simp at J_;exact hu
  intro hW;obtain ⟨⟨g1,g2⟩,hW⟩:(0≤vi.int∧vi.int<(vx.str.size:Int))∧_:=⟨wV hW.1 hp,hW.2⟩;have b_:vi.int.toNat<vx.str.size:=by omega
  have hb:vx.str[vi.int.toNat]?=some (vx.str[vi.int.toNat]'b_):=getElem?_pos ..;have ga:Ak vx.str vi.int=((vx.str[vi.int.toNat]'b_).toNat:Int):=by
   unfold Ak
   have:vi.int.toNat<vx.str.data.toList.length:=by simpa using b_
   rw [WM,WL this];rfl
  refine tU hG h g_ f_ hp p_ hn hd d_ (v:=.int .u8 (Ak vx.str vi.int)) ?_ (Fc hG cA aS ?_) hW
  ·unfold ev at ei ex
   simp only [execOp,ho,ei,ex];simp [Instr.index,asIntOf,run_underlying aw,g1,hb,ga]
  ·rw [ga]
   have:=(vx.str[vi.int.toNat]'b_).toNat_lt
   simp only [IntKind.wrap,IntKind.bits,IntKind.signed];simp;omega
 ·exact pq
end
section
variable {P:Program} {C:Ctx} {fr:Fr} {tm:Array Value} {w:World} {σ:St} {γ:Key→Option Nat} {D:Nat→Prop}
 (hG:Good P C.tab) (h:Rel C.tab fr tm w σ γ) (g_:Wf C D σ) (f_:tm.size=C.nt) {i:Nat} {o:Oper} {p:Path} (hp:σ.Holds p)
 (p_:∀s b,(s,b)∈p→qY C s=false∧∃q c x,σ.get (pp s)=some ⟨q,.t c x⟩) {K:St→Prop} {Q:Exit→Act→World→Prop}
theorem LK {tab:Tab} {O:Nat→Prop} {c:TypeId} {v:Value} {g:Option Nat} {xs:List T} (ho:Own tab w O c v g xs):Sub tab c v v 0 xs.length xs.length:=by
 obtain ⟨ti,e,ce,te,a,cap,h1,h2,h3,hp,hv,B_,hm,aW,aj⟩:=ho.uU;refine ⟨ti,e,ce,te,a,cap,a,cap,h1,h2,h3,hv,hv,by omega,B_,WU _,fun _=>⟨rfl,rfl⟩,id,fun r_=>?_⟩;obtain ⟨b,hb,-⟩:=aj 0 _ (WL r_);exact ⟨b,hb,by rw [hb];simp [Addr.add]⟩
theorem wm {k:Key} {c:TypeId} {tag:Nat} {xs:List T} {v:Value} {k':Key} {γ':Key→Option Nat} (h:Rel C.tab fr tm w σ γ) (hk:σ.get k=some ⟨[],.own c tag xs⟩) (hv:pJ tm w γ k=some v) :
  AVR C.tab w (Ob fr γ) σ (pJ tm w γ) γ' k' v (.alias k tag c 0 xs.length):=by
 intro c' xs' hx;rw [hk] at hx;simp only [WJ,Ent.mk.injEq,AV.own.injEq,W5] at hx;obtain ⟨rfl,rfl⟩:=hx;obtain ⟨v0,v_,hr,-⟩:=h.ent k _ hk;rw [hv] at v_;simp only [WJ] at v_;subst v_;exact ⟨rfl,v,hv,LK (hr trivial)⟩
theorem NU (h:Rel C.tab fr tm w σ γ) {s:Nat} {e:Ent} (he:σ.get (pp s)=some e):pJ tm w γ (pp s)=some (ev tm (.tmp s)):=by
 obtain ⟨v,hv,-⟩:=h.ent _ e he;rw [hv];rw [pz] at hv;simp only [ev,Act.eval,XK,hv,XF]
theorem s9 (s tag:Nat) {f:TypeId→Nat→R} {motive:qO→Prop} (c_:motive .bad)
  (l_:∀c n,σ.get (pp s)=some ⟨[],.box c tag n⟩→motive ((f c n).run σ)):motive ((CU s tag f).run σ):=by
 simp only [CU,Rd.run];split
 ·rename_i c tag' n he
  split
  ·rename_i ht
   have:=WO ht
   subst this;exact l_ c n he
  ·exact c_
 ·exact c_
theorem ue (c:Nat) {r:R} {motive:qO→Prop} (c_:motive .bad) (l_:Nat.blt c Df=true→motive (r.run σ)):motive ((A2 c r).run σ):=by
 unfold A2;split
 ·rename_i h;exact l_ h
 ·exact c_
theorem zQ {s:Nat} {c:TypeId} {tag n:Nat} {γ':Key→Option Nat} {k':Key} {v:Value} {b:Nat} (hs:σ.get (pp s)=some ⟨[],.box c tag n⟩) (hb:γ (pp s)=some b) (off:Nat)
  (hv:v=RP b off) (hγ:γ' (pp s)=γ (pp s)):AVR C.tab w (Ob fr γ) σ (pJ tm w γ) γ' k' v (.ptr s tag off):=by
 intro cb m hx;exact ⟨b,by rw [hγ];exact hb,hv⟩
theorem LH {O:Nat→Prop} {val:Key→Option Value} {k k':Key} {γ':Key→Option Nat} {v:Value} {a:AV} (h:AVR C.tab w O σ val γ k v a)
  (h1:∀c tag xs,a≠.own c tag xs) (h2:∀c tag n,a≠.box c tag n) (hγ:∀s tag c,a=.ptr s tag c→γ' (pp s)=γ (pp s)):AVR C.tab w O σ val γ' k' v a:=by
 cases a with
 | own c tag xs=>exact absurd rfl (h1 c tag xs)
 | box c tag n=>exact absurd rfl (h2 c tag n)
 | ptr s tag c =>
  intro cb n hx;obtain ⟨b,hb,hv⟩:=h cb n hx;exact ⟨b,by rw [hγ s tag c rfl];exact hb,hv⟩
 | _=>exact h
include hG h g_ f_ hp p_
theorem sP {s d:Nat} {e:Ent} {a:AV} {v:Value} (hn:d<C.nt) (az:o.dst=some d) (d_:σ.get (pp d)=none) (he:σ.get (pp s)=some e)
  (n_:(execOp (Act.eval ⟨tm,[]⟩) o).run P w=.ok (.value v) w) (j_:AVR C.tab w (Ob fr γ) σ (pJ tm w γ) γ (pp s) v a)
  (R_:∀h0 tag,a.home=some (h0,tag)→e.av.home=some (h0,tag)) (aM:∀tag,a.re=some tag→e.av.re=some tag)
  (h1:∀c tag xs,a≠.own c tag xs) (h2:∀c tag n,a≠.box c tag n) (hK:K (σ.puts [(pp d,⟨p,a⟩)])) :
  o.wp P ⟨tm,[]⟩ w (After C fr (fun j=>D j∨j=i) K) Q:=by
 refine rJ hG h g_ f_ hn az d_ hp p_ n_ (fun h0 tag hh=>g_.dom _ _ h0 tag he (R_ h0 tag hh)) (fun tag hh=>g_.tags _ _ tag he (aM tag hh)) ?_ hK;refine LH j_ h1 h2 fun s' tag c ha=>qa _ _ fun e'=>?_
 have:=g_.dom _ _ (pp s') tag he (R_ _ _ (by rw [ha];rfl))
 rw [e'] at this;exact this d_
theorem AP {x:Operand} (ho:o.op=.nilCheck x):Sound P C fr tm w σ D i o p K Q ((AO C p o x).run σ):=by
 unfold AO;refine pI _ _ pq fun d hd hn hv d_=>?_
 refine qB hG h p hp x 0 pq fun ko a hx=>?_
 cases hx with
 | const=>exact pq
 | nil=>exact pq
 | tmp s e hx he y_ j_ =>
  have n_:∀q,ev tm x=.pointer (some q)→(execOp (Act.eval ⟨tm,[]⟩) o).run P w=.ok (.value (ev tm x)) w:=by
   intro q hq;unfold ev at hq ⊢;simp only [execOp,ho,hq];rfl
  cases h_:e.av with
  | box c tag n =>
   simp only;split
   ·rename_i k hk
    simp only [WJ,WK] at hk;obtain ⟨rfl,w_⟩:=hk;rw [h_] at j_;obtain ⟨b,cs,ety,hb,ah,-⟩:=j_;intro hW;have H_:σ.get (pp s)=some ⟨[],.box c tag n⟩:=by rw [he,←w_,←h_]
    have t_:pp s≠pp d:=fun e'=>by rw [←e',he] at d_;cases d_
    refine rJ (a:=.ptr s tag 0) hG h g_ f_ hn hd d_ hp p_ (n_ _ ah) ?_ ?_ ?_ hW
    ·intro h0 t6 hh
     simp only [AV.home,WJ,WK] at hh;obtain ⟨rfl,rfl⟩:=hh;rw [he];simp
    ·intro t6 hh
     exact g_.tags _ _ t6 he (by rw [h_];exact hh)
    ·exact zQ H_ hb 0 ah (qa _ _ t_)
   ·exact pq
  | ptr s' tag c =>
   rw [h_] at j_;refine ue c pq fun b_=>?_
   refine s9 s' tag pq fun cb n hb=>?_
   obtain ⟨b,-,ah⟩:=j_ cb n hb;rw [A3 b_] at ah;intro hW;exact sP hG h g_ f_ hp p_ hn hd d_ he (n_ _ ah) j_ (by simp [h_]) (by simp [h_]) (by simp) (by simp) hW
  | eptr h0 tag j c =>
   rw [h_] at j_;refine qn h0 tag pq fun c' xs hb=>?_
   obtain ⟨-,b,cap,ti,e1,ce,te,-,-,-,-,ah⟩:=j_ c' xs hb;intro hW;exact sP hG h g_ f_ hp p_ hn hd d_ he (n_ _ ah) j_ (by simp [h_]) (by simp [h_]) (by simp) (by simp) hW
  | pl c y off =>
   rw [h_] at j_;obtain ⟨a,ah,-⟩:=id j_;intro hW;exact sP hG h g_ f_ hp p_ hn hd d_ he (n_ _ ah) j_ (by simp [h_]) (by simp [h_]) (by simp) (by simp) hW
  | _=>exact pq
end
section
variable {P:Program} {C:Ctx} {fr:Fr} {tm tm':Array Value} {w w':World} {σ σ':St} {γ γ':Key→Option Nat} {D D':Nat→Prop}
theorem Rel.upd (hG:Good P C.tab) (h:Rel C.tab fr tm w σ γ) (g_:Wf C D σ) (W Bx:Key→Prop)
  (cK:w'.os=w.os) (Y_:w'.tape=w.tape) (Q_:w'.output=w.output) (Z_:w.heap.size≤w'.heap.size)
  (F_:∀b,b<w.heap.size→(∀k,W k∨Bx k→γ k≠some b)→w'.heap[b]?=w.heap[b]?)
  (aa:∀k,¬ W k→Bx k→∃c tag n,σ.get k=some ⟨[],.box c tag n⟩∧∀b cs ety,γ k=some b→w.heap[b]?=some (.cells cs ety (0,0))→∃cs',w'.heap[b]?=some (.cells cs' ety (0,0))∧cs'.size=cs.size)
  (hγ:∀k,¬ W k→γ' k=γ k)
  (jJ:∀k b,W k→γ' k=some b→(∃k0,W k0∧γ k0=some b)∨(w.heap.size≤b∧b<w'.heap.size))
  (f8:∀k k' b,W k→W k'→γ' k=some b→γ' k'=some b→k=k')
  (q_:∀k,¬ W k→σ'.get k=σ.get k)
  (m_:∀k e,¬ W k→σ.get k=some e→pJ tm' w' γ' k=pJ tm w γ k)
  (dT:∀s n e,σ'.get (cell s n)=some e→∃c tag m,σ'.get (pp s)=some ⟨[],.box c tag m⟩)
  (bF:∀s j e,σ'.get (comp s j)=some e→∃p n,σ'.get (pp s)=some ⟨p,.tup n⟩)
  (dW:∀s q c x,qY C s=false→σ.get (pp s)=some ⟨q,.t c x⟩→¬ W (pp s))
  (ay:∀k,W k→σ.get k≠none→σ'.get k≠none)
  (aM:∀k e tag,W k→σ'.get k=some e→e.av.re=some tag→Old D' tag)
  (ng:∀tag,Old D tag→Old D' tag)
  (gb:∀k tag,W k→σ.get k≠none→Old D tag→uY σ σ' (pJ tm w γ) (pJ tm' w' γ') γ γ' k tag)
  (R_:∀k e h0 tag,W k→σ'.get k=some e→e.av.home=some (h0,tag)→σ'.get h0≠none)
  (w_:∀k e s b,W k→σ'.get k=some e→(s,b)∈e.path→qY C s=false∧∃q c x,σ'.get (pp s)=some ⟨q,.t c x⟩)
  (V_:Stays w w' (Ob fr γ) (Ob fr γ')→∀k e,W k→σ'.get k=some e→∃v,pJ tm' w' γ' k=some v ∧
   (σ'.Holds e.path→AVR C.tab w' (Ob fr γ') σ' (pJ tm' w' γ') γ' k v e.av)∧(¬ σ'.Holds e.path→v=undef)) :
  Rel C.tab fr tm' w' σ' γ'∧Wf C D' σ' := by
 have gZ:∀b,b<w.heap.size→Ob fr γ' b→Ob fr γ b:=by
  intro b hb hO
  rcases hO with hO | ⟨k,hk⟩
  ·exact .inl hO
  ·by_cases hw:W k
   ·rcases jJ k b hw hk with ⟨k0,-,h0⟩ | ⟨h0,-⟩
    ·exact .inr ⟨k0,h0⟩
    ·omega
   ·rw [hγ k hw] at hk
    exact .inr ⟨k,hk⟩
 have A_:Stays w w' (Ob fr γ) (Ob fr γ'):=fun b hb hO =>
  ⟨F_ b hb fun k _ hk=>hO (.inr ⟨k,hk⟩),fun q=>hO (gZ b hb q)⟩
 have o_:∀k,σ.get k≠none→σ'.get k≠none:=fun k hk=>by
  by_cases hw:W k
  ·exact ay k hw hk
  ·rw [q_ k hw];exact hk
 constructor
 ·refine Rel.step hG h W cK Y_ Q_ Z_ ?_ A_ ?_ ?_ dT bF q_ ?_ (V_ A_)
  ·intro b hb he
   refine F_ b (Xz hb h.size) fun k _ hk=>he ((h.blk k b hk).2.2 hb)
  ·intro k k' b hk e_
   by_cases hw:W k<;>by_cases iE:W k'
   ·exact f8 k k' b hw iE hk e_
   ·rw [hγ k' iE] at e_
    rcases jJ k b hw hk with ⟨k0,h0,h1⟩ | ⟨h0,-⟩
    ·exact absurd (h.inj k0 k' b h1 e_) (fun e=>iE (e ▸ h0))
    ·have:=(h.blk k' b e_).1
     omega
   ·rw [hγ k hw] at hk
    rcases jJ k' b iE e_ with ⟨k0,h0,h1⟩ | ⟨h0,-⟩
    ·exact absurd (h.inj k0 k b h1 hk) (fun e=>hw (e ▸ h0))
    ·have:=(h.blk k b hk).1
     omega
   ·rw [hγ k hw] at hk
    rw [hγ k' iE] at e_;exact h.inj k k' b hk e_
  ·intro k b hk
   by_cases hw:W k
   ·rcases jJ k b hw hk with ⟨k0,-,h1⟩ | ⟨h0,h1⟩
    ·obtain ⟨q1,q2,q3⟩:=h.blk k0 b h1
     exact ⟨by omega,q2,q3⟩
    ·refine ⟨h1,fun q=>?_,fun q=>?_⟩
     ·have:=(h.low b q).1
      have:=h.size
      omega
     ·have:=h.size
      omega
   ·rw [hγ k hw] at hk
    obtain ⟨q1,q2,q3⟩:=h.blk k b hk;exact ⟨by omega,q2,q3⟩
  ·intro k e hw he
   refine ⟨m_ k e hw he,hγ k hw,fun s b hm=>?_,fun b hb=>?_,fun h0 tag hh fF=>?_,fun h0 tag hh _=>g_.dom k e h0 tag he hh⟩
   ·obtain ⟨q1,q,c,x,q2⟩:=g_.paths k e s b he hm
    exact dW s q c x q1 q2
   ·have b_:=(h.blk k b hb).1
    refine ⟨fun c tag xs ha=>?_,fun c tag n ha cs ety hh=>?_⟩
    ·refine F_ b b_ fun k0 aT h1=>?_
     have:=h.inj k0 k b h1 hb
     subst this
     rcases aT with aT | aT
     ·exact hw aT
     ·obtain ⟨c',tag',n',hs,-⟩:=aa k0 hw aT
      rw [he] at hs;simp only [WJ] at hs;rw [hs] at ha;cases ha
    ·by_cases s_:Bx k
     ·obtain ⟨c',tag',n',hs,hq⟩:=aa k hw s_
      exact hq b cs ety hb hh
     ·refine ⟨cs,?_,rfl⟩
      rw [F_ b b_ fun k0 aT h1=>?_]
      ·exact hh
      ·have:=h.inj k0 k b h1 hb
       subst this;exact aT.elim hw s_
   ·exact gb h0 tag fF (g_.dom k e h0 tag he hh) (g_.tags k e tag he (by
     revert hh;cases e.av<;>simp [AV.home,AV.re]))
 ·refine ⟨fun k e tag he hh=>?_,fun k e h0 tag he hh=>?_,fun k e s b he hm=>?_⟩
  ·by_cases hw:W k
   ·exact aM k e tag hw he hh
   ·rw [q_ k hw] at he
    exact ng tag (g_.tags k e tag he hh)
  ·by_cases hw:W k
   ·exact R_ k e h0 tag hw he hh
   ·rw [q_ k hw] at he
    exact o_ _ (g_.dom k e h0 tag he hh)
  ·by_cases hw:W k
   ·exact w_ k e s b hw he hm
   ·rw [q_ k hw] at he
    obtain ⟨q1,q,c,x,q2⟩:=g_.paths k e s b he hm;exact ⟨q1,q,c,x,by rw [q_ _ (dW s q c x q1 q2)];exact q2⟩
theorem uK {val val':Key→Option Value} {k:Key} {tag:Nat} (h:∀e t,σ'.get k=some e→e.av.re=some t→¬ Old D t) (ho:Old D tag):uY σ σ' val val' γ γ' k tag :=
 ⟨fun c xs hx=>absurd ho (h _ tag hx rfl),fun c n hx=>absurd ho (h _ tag hx rfl),fun p hx=>absurd ho (h _ tag hx rfl)⟩
end
end Go.Pl
