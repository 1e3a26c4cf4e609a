import PyProof.Rows.All
import KE.KSortAsk
import Wide.All
import OpenK.AllK
import Wide.FinOn
import PyProof.EqKinds
import PyProof.NeKinds
import KE.KSuper
import KE.KPar
import KE.KRevSl
import KE.KSortTup
import KE.KDictSum
import KE.KRevIter
import PyProof.IsiH_list
import PyProof.AttrMiss
import KE.KDictOf
import PyProof.ExcInit
import PyProof.ExcClass3
import PyProof.ExcBaseAll.Exception
import PyProof.InstStore
import PyProof.InstStoreFacts
import PyProof.CallStr
import PyProof.StrBlock
import PySem.Challenge.RW_nn0422_01
set_option Elab.async false
set_option maxRecDepth 100000
set_option bootstrap.genMatcherCode false
set_option genInjectivity false
set_option genSizeOf false
set_option genCtorIdx false
set_option backward.match.sparseCases false
set_option linter.all false
set_option compiler.extract_closed false
noncomputable section
open PySem
namespace Mine.Internal
abbrev Wb:=@Nat.le_of_ble_eq_true
abbrev Wc:=@Option.some.inj
abbrev Wd:=@congrArg
abbrev We:=@Nat.eq_of_beq_eq_true
abbrev Wf:=@Nat.lt_of_le_of_lt
abbrev Wg:=@Nat.lt_of_lt_of_le
abbrev Wh:=@Nat.le_trans
abbrev Wi:=@wpAny_bind
abbrev Wj:=@Nat.zero_add
abbrev Wk:=@List.length_append
abbrev Wl:=@Nat.add_assoc
abbrev Wm:=@Nat.add_comm
abbrev Wn:=@List.all_eq_true
abbrev Wo:=@wpAny_pure
abbrev Wq:=@Nat.le_add_right
abbrev Wr:=@Nat.le_refl
abbrev Ws:=@List.mem_singleton
abbrev Wt:=@Nat.add_le_add_left
abbrev Wu:=@Nat.lt_succ_self
abbrev Wv:=@Nat.ne_of_lt
abbrev Ww:=@Nat.zero_le
abbrev Wx:=@Nat.succ_pos
abbrev Wy:=@Nat.add_le_add_right
abbrev Wz:=@List.mem_cons
abbrev WA:=@Nat.beq_refl
abbrev WB:=@List.size_toArray
abbrev WC:=@Nat.succ_le_succ
abbrev WD:=@Nat.lt_add_of_pos_right
abbrev WE:=@Nat.lt_of_succ_lt
abbrev WG:=@List.length_map
abbrev WH:=@Nat.le_succ
abbrev WI:=@Nat.le_of_eq
abbrev WJ:=@Nat.lt_trans
abbrev WK:=@Nat.le_of_lt
abbrev WL:=@List.length_cons
abbrev WM:=@Bool.and_eq_true_iff
abbrev WN:=@List.mem_map
abbrev WO:=@Heap.lt_size
abbrev WQ:=@List.append_nil
abbrev WR:=@List.mem_append_right
abbrev WS:=@List.map_cons
abbrev WT:=@Nat.mul_le_mul_left
abbrev WU:=@List.mem_append
abbrev WV:=@Nat.le_of_lt_succ
abbrev WW:=@Nat.lt_succ_of_lt
abbrev WX:=@Nat.le_of_succ_le
abbrev WY:=@Nat.add_right_comm
abbrev WZ:=@Nat.ne_of_gt
abbrev W0:=@wpAny_execs_cons
abbrev W2:=@Bool.and_false
abbrev W3:=@Bool.eq_false_iff
abbrev W4:=@Int.natCast_nonneg
abbrev W5:=@List.cons.inj
abbrev W6:=@wpAny_mono
abbrev W7:=@Bool.eq_iff_iff
abbrev W8:=@Nat.le_succ_of_le
abbrev W9:=@Nat.div_add_mod
abbrev W':=@Nat.sub_le
abbrev Xa:=@List.mem_append_left
abbrev Xb:=@Nat.add_le_add
abbrev Xc:=@List.nodup_cons
abbrev Xd:=@Bool.or_eq_true_iff
abbrev Xe:=@Nat.ble_eq_true_of_le
abbrev Xf:=@List.append_assoc
abbrev Xg:=@List.mem_flatMap
abbrev Xh:=@Int.negSucc_lt_zero
abbrev Xi:=@Nat.le_add_left
abbrev Xj:=@List.filter_cons
abbrev Xk:=@Nat.not_lt_of_le
abbrev Xl:=@Nat.lt_of_succ_lt_succ
abbrev Xm:=@List.flatMap_cons
abbrev Xn:=@Nat.add_sub_cancel'
abbrev Xo:=@wpAny_holding
abbrev Xp:=@wpAny_loadPart_at
abbrev Xq:=@Nat.lt_succ_of_le
abbrev Xr:=@Nat.add_lt_add_left
abbrev Xs:=@Prod.mk.inj
abbrev Xt:=@Nat.zero_mul
abbrev Xu:=@Nat.lt_irrefl
abbrev Xv:=@Nat.not_lt_zero
abbrev Xw:=@wpAny_execs_nil
abbrev Xx:=@congrFun
abbrev Xy:=@List.reverse_cons
abbrev Xz:=@List.all_cons
abbrev XA:=@Nat.add_sub_cancel_left
abbrev XB:=@List.lookup_cons
abbrev XC:=@Nat.succ.inj
abbrev XD:=@List.pairwise_cons
abbrev XE:=@List.map_map
abbrev XF:=@Nat.lt_or_eq_of_le
abbrev XG:=@List.length_nil
abbrev XH:=@List.map_append
abbrev XI:=@wpAny_standAt
abbrev XJ:=@Nat.add_lt_add_right
abbrev XK:=@Nat.mul_succ
abbrev XM:=@Int.ofNat_lt
abbrev XN:=@Option.isSome_iff_exists
abbrev XO:=@wpAny_Call_NameR
abbrev XP:=@Bool.not_eq_true
abbrev XQ:=@wpAny_call_entry
abbrev XR:=@Int.ofNat.inj
abbrev XS:=@List.mem_filterMap
abbrev XT:=@Nat.sub_lt
abbrev XU:=@List.of_mem_zip
abbrev XW:=@Nat.sub_add_cancel
abbrev XX:=@Nat.le_of_add_right_le
abbrev XY:=@wpAny_truthy_bool
abbrev XZ:=@Bool.not_eq_true'
abbrev X0:=@Nat.succ_add
abbrev X1:=@Nat.succ_ne_zero
abbrev X4:=@Nat.le_of_not_lt
abbrev X5:=@Nat.le_max_right
abbrev X6:=@Nat.add_lt_add_of_lt_of_le
abbrev X7:=@wpAny_isSubtype_exc
abbrev X8:=@Nat.le_max_left
abbrev X9:=@Nat.succ_add_eq_add_succ
abbrev Ya:=@Nat.add_sub_cancel
abbrev Yb:=@Int.negSucc_eq
abbrev Yc:=@wpAny_call
abbrev Yd:=@Heap.size_push
abbrev Ye:=@Option.map_eq_some_iff
abbrev Yf:=@Nat.le_of_succ_le_succ
abbrev Yg:=@List.any_cons
abbrev Yh:=@wpAny_newList
abbrev Yi:=@List.length_drop
abbrev Yj:=@Heap.size_update
abbrev Yk:=@List.any_eq_true
abbrev Yl:=@Nat.succ_lt_succ
abbrev Ym:=@List.length_singleton
abbrev Yn:=@List.contains_iff_mem
abbrev Yo:=@List.take_append_drop
abbrev Yp:=@List.eraseIdxIfInBounds_toArray
abbrev Yq:=@wpAny_loadName_local
abbrev Yr:=@Nat.not_succ_le_zero
abbrev Ys:=@codeAny_builtin
abbrev Yt:=@codeAny_of_tree
abbrev Yu:=@Nat.not_succ_le_self
abbrev Yv:=@codeAny_call_builtin
abbrev Yw:=@List.mem_filter
abbrev Yx:=@wpAny_loadName_cell
abbrev Yy:=@wpAny_loadName_free
abbrev Yz:=@List.length_reverse
abbrev YA:=@List.drop_drop
abbrev YB:=@Int.ofNat_zero
abbrev YC:=@List.forIn_nil
abbrev YD:=@Nat.sub_sub
abbrev YE:=@Nat.pos_of_ne_zero
abbrev YF:=@wpAny_Constant_str
abbrev YG:=@Nat.lt_of_lt_of_eq
abbrev YH:=@Nat.lt_of_le_of_ne
abbrev YI:=@wpAny_newObj_type
abbrev YJ:=@wpAny_pyIter_list
abbrev YK:=@wpAny_Return_some
abbrev YL:=@List.nodup_append
abbrev YM:=@Int.not_lt
abbrev YN:=@Int.lt_trans
abbrev YO:=@Int.le_trans
abbrev YP:=@Int.add_comm
abbrev YQ:=@Int.add_zero
abbrev YR:=@Nat.mul_zero
noncomputable abbrev Zx{α:Type}(a:α):=a
noncomputable abbrev Zw(s:PySem.Shared):=s.heap.objs.size
noncomputable abbrev Zv:PySem.Obj:={cls:=.type "dict",data:=.dict #[]}
abbrev Zu(X:PySem.Program)(w:PySem.World)(A:PySem.Around)(V:PySem.Env)(R:PySem.Result->PySem.Shared->Prop):=PySem.notedBy (PySem.model X w) A V λe a=>R (.error e) a
abbrev YV:=PySem.Value->PySem.Shared->Prop
abbrev YW:=List (Nat×Nat)
abbrev YX:=List (Option Nat)
abbrev YY:=List PySem.Value
abbrev YZ:=List Nat
abbrev Y0:=Option Nat
abbrev Y1:=List Int
abbrev Y2:=PySem.Shared->Prop
abbrev Y3:=PySem.Value
abbrev Y4:=PySem.Addr
abbrev Y5:=PySem.Heap
abbrev Y6:=PySem.NameKind
abbrev Y7:=PySem.World
abbrev Y8:=PySem.Params
abbrev Y9:=PySem.Expr
abbrev Y':=PySem.Str
abbrev Za:=PySem.Shared
abbrev Zb:=PySem.Around
abbrev Zc:=PySem.Scope
abbrev Zd:=PySem.Stmt
abbrev Ze(α:Type):=Option α
set_option genCtorIdx true in
inductive eS where|I|S|T
 deriving DecidableEq
inductive aE where
 |i(n:Int)
 |s(x:Y')
 |t(l:Y1)
set_option genCtorIdx true in
inductive V where
 |none
 |bool(b:Bool)
 |int(i:Int)
 |str(s:Y')
 |ay(a:List V)
 |ae(a:List V)
 |ah(d:eS)(T:List (aE×V))
 |ins(c:Nat)(r:Bool)(P:List (Nat×V))
 |ref(p:Nat)
 |hu(a:List V)
 deriving Inhabited
abbrev YS:=List (Nat×V)
abbrev YT:=List (aE×V)
abbrev YU:=List V
inductive O where
 |ae(b:YU)(gT:Nat)
 |ah(a:eS)(T:YT)(gT:Nat)
 |ins(c:Nat)(P:YS)
 deriving Inhabited
inductive bo(α:Type) where
 |nil
 |node(a:Option α)(l r:bo α)
 deriving Inhabited
namespace bo
noncomputable def get{α:Type}:bo α->Nat->Option α
 |.nil,_=>none
 |.node C o u,j=>match Nat.beq j 0 with
  |true=>C
  |false=>match Nat.beq (j % 2) 1 with
   |true=>o.get (j/2)
   |false=>u.get (j/2-1)
def a5{α:Type}(U:Nat):bo α->Nat->Option α->bo α:=
 U.rec (λt _ _=>t) λ_ u t j o=>match t with
  |.nil=>match Nat.beq j 0 with
   |true=>.node o .nil .nil
   |false=>match Nat.beq (j % 2) 1 with
    |true=>.node none (u .nil (j/2) o) .nil
    |false=>.node none .nil (u .nil (j/2-1) o)
  |.node M C J=>match Nat.beq j 0 with
   |true=>.node o C J
   |false=>match Nat.beq (j % 2) 1 with
    |true=>.node M (u C (j/2) o) J
    |false=>.node M C (u J (j/2-1) o)
end bo
structure Z where
 t:bo O
 n:Nat
 deriving Inhabited
noncomputable def Z.get(j:Z)(o:Nat):Option O:=j.t.get o
def Z.set(j:Z)(u:Nat)(o:O):Z:=⟨j.t.a5 (u+1) u (some o),j.n⟩
def Z.new(j:Z)(o:O):Z:=⟨j.t.a5 (j.n+1) j.n (some o),j.n+1⟩
def Z.hk(j:Z)(o:Nat):Z:=⟨j.t.a5 (o+1) o none,j.n⟩
noncomputable def Z.bj:Z:=⟨.nil,0⟩
structure bD where
 aj:YS
 h:Z
 deriving Inhabited
set_option genCtorIdx true in
inductive qz where|add|sub|mul|fdiv|tJ|jx|ui|kp|nU
set_option genCtorIdx true in
inductive r3 where|eq|cC|lt|gt|mP|is|mW|kJ|j0
set_option genCtorIdx true in
inductive ym where|neg|not|ag
set_option genCtorIdx true in
inductive jC where|inl|pure|nV|ef
inductive qA where|len|rX|sorted|abs|int|str|tuple|list|dict(a:eS)
mutual
inductive E where
 |lit(h:V)
 |d8(h:V)
 |F(n:Nat)
 |aS(e:E)(a:Nat)
 |a7(d:qz)(m:Bool)(a b:E)
 |c6(d:ym)(a:E)
 |aw(d:r3)(a b:E)
 |kv(q:r3)(r:r3)(a b c:E)
 |bool(and:Bool)(G:List E)
 |ite(t a b:E)
 |ay(G:List E)
 |ae(m:Bool)(G:List E)
 |ah(g:eS)(l w:List E)
 |sub(e i:E)
 |gk(m:Bool)(e:E)(p A:Option E)
 |oH(m:Bool)(e:E)
 |call(g:jC)(f:Nat)(G:List E)
 |bI(e:E)
 |new(c:Nat)(G:List E)
 |aC(e:E)(m:Nat)(G:List E)
 |bq(m:Bool)(b:qA)(G:List E)
 |comp(m:Bool)(elt:E)(s:YZ)(T:dv)(cond:Option E)
 |k9(c self f:Nat)(G:List E)
inductive dv where
 |e(e:E)
 |range(a:Option E)(A:E)
 |jl(e:E)
 |rP(e:E)
end
inductive o' where
 |F(n:Nat)
 |aS(e:E)(a:Nat)
 |sub(e i:E)
 |ay(f:YZ)
inductive S where
 |bY(t:o')(e:E)
 |pe(n:Nat)(c:qz)(e:E)
 |expr(e:E)
 |ret(e:Option E)
 |ite(t:E)(a b:List S)
 |il(t:E)(b:List S)
 |b5(d:YZ)(T:dv)(b:List S)
 |eD
 |hc
structure cy where
 ak:YZ
 d6:YU
 body:List S
structure i9 where
 init:Y0
 qf:Bool
 kR:YW
set_option genCtorIdx true in
inductive fE where
 |next
 |ret(a:V)
 deriving Inhabited
noncomputable def Y{α β:Type}(x:Ze α)(f:α->Ze β):Ze β:=match x with
 |some a=>f a
 |none=>none
noncomputable def bS{α:Type}(b:Bool)(x:Ze α):Ze α:=match b with
 |true=>x
 |false=>none
def au{α:Type}(O:List (Nat×α)):Nat->Ze α:=
 O.rec (λ_=>none) λm _ S n=>match Nat.beq m.1 n with
  |true=>some m.2
  |false=>S n
def VO{α:Type}(O:List (Nat×α)):Nat->α->List (Nat×α):=
 O.rec (λn x=>[(n,x)]) λm r S n x=>match Nat.beq m.1 n with
  |true=>(m.1,x)::r
  |false=>m::S n x
noncomputable def oj:YZ->YZ->Bool
 |[],[]=>true
 |a::r,b::s=>match Nat.beq a b with
  |true=>oj r s
  |false=>false
 |_,_=>false
def VP(a b:Y'):Bool:=oj a.cps.toList b.cps.toList
def dr(a b:Int):Bool:=Zx (match a,b with
 |.ofNat m,.ofNat n=>Nat.beq m n
 |.negSucc m,.negSucc n=>Nat.beq m n
 |_,_=>false)
def gf(a b:Int):Bool:=Zx (match a,b with
 |.ofNat m,.ofNat n=>Nat.blt m n
 |.ofNat _,.negSucc _=>false
 |.negSucc _,.ofNat _=>true
 |.negSucc m,.negSucc n=>Nat.blt n m)
noncomputable def vX:Y1->Y1->Bool
 |[],[]=>true
 |a::r,b::s=>match dr a b with
  |true=>vX r s
  |false=>false
 |_,_=>false
def cJ(a b:aE):Bool:=match a,b with
 |.i m,.i n=>dr m n
 |.s x,.s y=>VP x y
 |.t l,.t r=>vX l r
 |_,_=>false
noncomputable def fP:YU->Ze Y1
 |[]=>some []
 |.int i::r=>match fP r with
  |some l=>some (i::l)
  |none=>none
 |_=>none
def fO(k:eS)(v:V):Ze aE:=match k,v with
 |.I,.int i=>some (.i i)
 |.S,.str s=>some (.s s)
 |.T,.ay O=>match fP O with
  |some l=>some (.t l)
  |none=>none
 |_,_=>none
def bL{α:Type}(O:List (aE×α)):aE->Ze α:=
 O.rec (λ_=>none) λm _ S n=>match cJ m.1 n with
  |true=>some m.2
  |false=>S n
def cU{α:Type}(O:List (aE×α)):aE->α->List (aE×α):=
 O.rec (λn x=>[(n,x)]) λm r S n x=>match cJ m.1 n with
  |true=>(m.1,x)::r
  |false=>m::S n x
def gP{α:Type}(O:List (aE×α)):aE->List (aE×α):=
 O.rec (λ_=>[]) λm r S n=>match cJ m.1 n with
  |true=>r
  |false=>m::S n
noncomputable def nE(g:V->V->Ze Bool):YU->YU->Ze Bool
 |[],[]=>some true
 |a::r,b::s=>Y (g a b) λx=>Y (nE g r s) λy=>some (match x with|true=>y|false=>false)
 |_,_=>some false
noncomputable def fm:V->Ze Int
 |.int i=>some i
 |_=>none
noncomputable def lz:V->Y0
 |.int (.ofNat n)=>some n
 |_=>none
noncomputable def uQ:V->Ze Y'
 |.str x=>some x
 |_=>none
noncomputable def B4:V->Ze Bool
 |.bool b=>some b
 |_=>none
noncomputable def yv:V->Ze YU
 |.ay l=>some l
 |_=>none
noncomputable def yt:V->Ze YU
 |.ae l=>some l
 |_=>none
noncomputable def iC:V->Bool
 |.none=>true
 |_=>false
noncomputable def yu:V->Y0
 |.ref p=>some p
 |_=>none
noncomputable def d9{α:Type}:List α->Ze α
 |[x]=>some x
 |_=>none
noncomputable def ek{α:Type}:List α->Ze (α×α)
 |[x,y]=>some (x,y)
 |_=>none
def iM(a b:V):Ze Bool:=match a with
 |.int a=>Y (fm b) λb=>some (dr a b)
 |.str a=>Y (uQ b) λb=>some (VP a b)
 |_=>none
noncomputable def VN{α:Type}(O:List α):Nat:=
 O.rec 0 λ_ _ S=>S+1
noncomputable def hG(a b:Bool):Bool:=match a with
 |true=>b
 |false=>match b with|true=>false|false=>true
def gq(O:Nat):V->V->Ze Bool:=
 O.rec (λ_ _=>none) λ_ S a b=>match a with
  |.none=>bS (iC b) (some true)
  |.bool a=>Y (B4 b) λb=>some (hG a b)
  |.int a=>Y (fm b) λb=>some (dr a b)
  |.str a=>match b with
   |.str b=>some (VP a b)
   |.ay _=>some false
   |_=>none
  |.ay a=>match b with
   |.ay b=>nE S a b
   |.str _=>some false
   |_=>none
  |.ae a=>Y (yt b) λb=>match Nat.beq (VN a) (VN b)with
   |true=>nE S a b
   |false=>some false
  |_=>none
noncomputable def qw(g:V->V->Ze Bool):YU->YU->Ze Bool
 |[],[]=>some false
 |[],_::_=>some true
 |_::_,[]=>some false
 |a::r,b::s=>match iM a b with
  |some true=>qw g r s
  |some false=>g a b
  |none=>none
def qv(a b:V):Ze Bool:=Y (fm a) λa=>Y (fm b) λb=>some (gf a b)
def oS(a b:V):Ze Bool:=match a with
 |.int a=>Y (fm b) λb=>some (gf a b)
 |.ay a=>Y (yv b) λb=>qw qv a b
 |_=>none
def mV(x:Int)(O:Y1):Y1:=
 O.rec ([x]) λy r S=>match gf y x with
  |true=>y::S
  |false=>x::y::r
def oP(O:Y1):Y1:=
 O.rec [] λx _ S=>mV x S
noncomputable def rY:YU->Int->Ze Int
 |[],a=>some a
 |.int i::r,a=>rY r (a+i)
 |_,_=>none
noncomputable def kV(k:eS):YU->YT->Ze YT
 |[],d=>some d
 |.ay [a,b]::r,d=>match fO k a with
  |some x=>kV k r (cU d x b)
  |none=>none
 |_,_=>none
def wu(x:V)(O:YU):Ze Bool:=
 O.rec (some false) λy _ S=>Y (iM y x) λa=>Y S λb=>some (match a with|true=>true|false=>b)
def vV(x:V)(O:YU):Nat->Y0:=
 O.rec (λ_=>none) λy r S i=>Y (iM y x) λa=>match a with
  |true=>Y (wu x r) λ_=>some i
  |false=>S (i+1)
noncomputable def i0(L:Int):Nat->YU
 |0=>[]
 |n+1=>.int L::i0 (L+1) n
def mK(O:YU):Int->YU:=Zx (O.rec (λ_=>[]) λx _ S i=>.ay [.int i,x]::S (i+1))
def AD(k:aE):V:=Zx (match k with
 |.i n=>.int n
 |.s x=>.str x
 |.t l=>.ay (l.map .int))
def ib(O:YT):YU:=
 O.rec [] λm _ S=>AD m.1::S
noncomputable def a3{α:Type}(O:List α):Nat->Ze α:=
 O.rec (λ_=>none) λx _ S i=>match i with
  |0=>some x
  |i+1=>S i
noncomputable def dT{α:Type}(O:List α):Nat->α->List α:=
 O.rec (λ_ _=>[]) λx r S i y=>match i with
  |0=>y::r
  |i+1=>x::S i y
noncomputable def U{α:Type}(O:List α):List α->List α:=
 O.rec (λb=>b) λx _ S b=>x::S b
noncomputable def mg{α:Type}(O:List α):Nat->List α:=
 O.rec (λ_=>[]) λx _ S i=>match i with
  |0=>[]
  |i+1=>x::S i
noncomputable def q7{α:Type}(O:List α):Nat->List α:=
 O.rec (λ_=>[]) λx r S i=>match i with
  |0=>x::r
  |i+1=>S i
noncomputable def gj{α:Type}(O:List α):List α->List α:=
 O.rec (λb=>b) λx _ S b=>S (x::b)
def j6{α:Type}(l:List α)(O:Nat):List α:=
 O.rec [] λ_ S=>U l S
def wW(i:Int)(n:Nat):Y0:=Zx (match i with
 |.ofNat m=>match Nat.blt m n with|true=>some m|false=>none
 |.negSucc m=>match Nat.blt m n with|true=>some (n-(m+1))|false=>none)
noncomputable def b0:Nat:=100000
def eA{α:Type}(l:List α):Bool:=Nat.blt (VN l) b0
def n5{α:Type}(l:List α):Bool:=Nat.blt (VN l) 800
def d4(v:V)(h:Z):Ze YU:=match v with
 |.ae O=>some O
 |.ref p=>match h.get p with
  |some (.ae O _)=>some O
  |_=>none
 |_=>none
def ru(v:V)(h:Z):Ze YU:=match v with
 |.hu O=>some O
 |v=>d4 v h
set_option genCtorIdx true in
inductive iO where
 |D(b:eS)(c:YT)
 |L(a:YU)
 |T(a:YU)
def gz(v:V)(h:Z):Ze iO:=match v with
 |.ah k T=>some (.D k T)
 |.ae O=>some (.L O)
 |.ay O=>some (.T O)
 |.ref p=>match h.get p with
  |some (.ae O _)=>some (.L O)
  |some (.ah k T _)=>some (.D k T)
  |_=>none
 |_=>none
noncomputable def j1{α:Type}:List α->Bool
 |[]=>false
 |_::_=>true
def wF(i:Int):Bool:=Zx (match i with
 |.ofNat n=>match n with|0=>false|_+1=>true
 |.negSucc _=>true)
def VQ(v:V)(h:Z):Ze Bool:=match v with
 |.bool b=>some b
 |.int i=>some (wF i)
 |v=>Y (d4 v h) λO=>some (j1 O)
noncomputable def fY(g:V->Ze V):YU->Ze YU
 |[]=>some []
 |x::r=>Y (g x) λa=>Y (fY g r) λl=>some (a::l)
noncomputable def gU(g:V->Ze V):YT->Ze YT
 |[]=>some []
 |(k,x)::r=>Y (g x) λa=>Y (gU g r) λl=>some ((k,a)::l)
def gg(g:V->Ze V)(O:YS):Ze YS:=
 O.rec (some []) λm _ S=>Y (g m.2) λa=>Y S λl=>some ((m.1,a)::l)
def ct(a:Nat):Z->V->Ze V:=
 a.rec (λ_ _=>none) λ_ S h v=>match v with
  |.ref p=>match h.get p with
   |some (.ae O _)=>Y (fY (S h) O) λl=>some (.ae l)
   |some (.ah k T _)=>Y (gU (S h) T) λl=>some (.ah k l)
   |some (.ins c P)=>Y (gg (S h) P) λl=>some (.ins c false l)
   |none=>none
  |.ins c true P=>Y (gg (S h) P) λl=>some (.ins c false l)
  |v=>some v
def dQ(g:V->Bool)(O:YU):Bool:=Zx (O.rec true λx _ S=>match g x with|true=>S|false=>false)
def lx(g:V->Bool)(O:YT):Bool:=Zx (O.rec true λm _ S=>match g m.2 with|true=>S|false=>false)
def hD(g:V->Bool)(O:YS):Bool:=Zx (O.rec true λm _ S=>match g m.2 with|true=>S|false=>false)
noncomputable def cg:Nat->V->Bool
 |0,_=>false
 |f+1,v=>match v with
  |.ref _=>false
  |.hu _=>false
  |.ay O=>dQ (cg f) O
  |.ae O=>dQ (cg f) O
  |.ah _ T=>lx (cg f) T
  |.ins _ _ P=>hD (cg f) P
  |_=>true
structure qG where
 fK:Nat->Ze cy
 cls:Nat->Ze i9
 kY:Nat->Nat
 j2:Nat->YU->Ze V
structure lk where
 e:E->bD->Ze (V×Z)
 x:List S->bD->Ze (fE×bD)
 w:E->List S->bD->Ze (fE×bD)
 c:jC->Nat->YU->Z->Ze (V×Z)
def h6(e:E->bD->Ze (V×Z))(O:List E):bD->Ze (YU×Z):=
 O.rec (λs=>some ([],s.h)) λa _ S s=>Y (e a s) λp=>Y (S ⟨s.aj,p.2⟩) λq=>some (p.1::q.1,q.2)
def bM(h:Z)(v:V)(a:Nat):Ze V:=match v with
 |.ins _ _ P=>au P a
 |.ref p=>match h.get p with
  |some (.ins _ P)=>au P a
  |_=>none
 |_=>none
def dj(m:Bool)(O:YU)(h:Z):V×Z:=Zx (match m with
 |true=>(.ref h.n,h.new (.ae O 0))
 |false=>(.ae O,h))
def jj:Nat:=Zx 18446744073709551616
def EO(F:qz)(x y:Int):Ze Int:=match F with
 |.add=>some (x+y)
 |.sub=>some (x-y)
 |.mul=>match x with
  |.ofNat a=>bS (Nat.blt a jj) (some (x*y))
  |_=>none
 |.fdiv=>match y with
  |.ofNat (n+1)=>bS (Nat.blt n 1000000) (some (Int.fdiv x (.ofNat (n+1))))
  |_=>none
 |.tJ=>match y with
  |.ofNat (n+1)=>some (Int.fmod x (.ofNat (n+1)))
  |_=>none
 |.jx=>match x,y with
  |.ofNat a,.ofNat b=>bS (Nat.ble b 64) (bS (Nat.blt a jj) (some (.ofNat (Nat.shiftLeft a b))))
  |_,_=>none
 |.ui=>match x,y with
  |.ofNat a,.ofNat b=>bS (Nat.ble b 64) (some (.ofNat (Nat.shiftRight a b)))
  |_,_=>none
 |.kp=>match x,y with
  |.ofNat a,.ofNat b=>some (.ofNat (Nat.land a b))
  |.ofNat a,.negSucc b=>some (.ofNat (a-Nat.land a b))
  |_,_=>none
 |.nU=>match x,y with
  |.ofNat a,.ofNat b=>some (.ofNat (Nat.lor a b))
  |_,_=>none
def Ji(x:YU)(b:V):Ze YU:=Y (yv b) λy=>bS (j1 x) (bS (j1 y) (bS (eA (U x y)) (some (U x y))))
def Gk(x:YU):Ze V:=Y (d9 x) λy=>match y with
 |.int i=>some (.int i)
 |.bool b=>some (.bool b)
 |_=>none
def mulL(x:YU)(b:V):Ze YU:=Y (lz b) λn=>bS (Nat.blt n b0) (Y (Gk x) λy=>some (j6 [y] n))
def FF(F:qz)(m:Bool)(x:YU)(b:V)(h:Z):Ze (V×Z):=match F with
 |.add=>Y (d4 b h) λy=>bS (eA (U x y)) (some (dj m (U x y) h))
 |.mul=>Y (mulL x b) λz=>some (dj m z h)
 |_=>none
def mB(F:qz)(m:Bool)(a b:V)(h:Z):Ze (V×Z):=match a with
 |.int x=>Y (fm b) λy=>Y (EO F x y) λz=>some (.int z,h)
 |.ay x=>match F with
  |.add=>Y (Ji x b) λz=>some (.ay z,h)
  |_=>none
 |a=>Y (d4 a h) λx=>FF F m x b h
def xJ(F:ym)(a:V)(h:Z):Ze V:=match F with
 |.neg=>Y (fm a) λi=>some (.int (-i))
 |.ag=>Y (fm a) λi=>some (.int (-i-1))
 |.not=>Y (VQ a h) λb=>some (.bool (!b))
def k'(v:V)(h:Z):Ze V:=match v with
 |.ref _=>ct 12 h v
 |v=>some v
noncomputable def VU{α:Type}:Ze α->Bool
 |some _=>true
 |none=>false
def zJ(a b:V)(h:Z):Ze Bool:=Y (gz b h) λc=>match c with
 |.D k T=>Y (fO k a) λx=>some (VU (bL T x))
 |.L O=>wu a O
 |.T O=>wu a O
def dx(F:r3)(a b:V)(h:Z):Ze Bool:=match F with
 |.is=>bS (iC b) (some (iC a))
 |.mW=>bS (iC b) (some (!iC a))
 |.eq=>Y (k' a h) λa=>Y (k' b h) λb=>gq 20 a b
 |.cC=>Y (k' a h) λa=>Y (k' b h) λb=>Y (gq 20 a b) λr=>some (!r)
 |.kJ=>zJ a b h
 |.j0=>Y (zJ a b h) λr=>some (!r)
 |.lt=>Y (fm a) λx=>Y (fm b) λy=>some (gf x y)
 |.gt=>Y (fm a) λx=>Y (fm b) λy=>some (gf y x)
 |.mP=>Y (fm a) λx=>Y (fm b) λy=>some (!(gf x y))
def vU(O:YU)(i:V):Ze V:=Y (fm i) λn=>Y (wW n (VN O)) λk=>a3 O k
def cZ(v i:V)(h:Z):Ze V:=Y (gz v h) λc=>match c with
 |.D k T=>Y (fO k i) λx=>bL T x
 |.L O=>vU O i
 |.T O=>vU O i
def VW(v:V)(h:Z):Ze (Nat×O):=Y (yu v) λp=>Y (h.get p) λo=>match o with
 |.ae a 0=>some (p,.ae a 0)
 |.ah k T 0=>some (p,.ah k T 0)
 |.ins c P=>some (p,.ins c P)
 |_=>none
def nt(v i x:V)(h:Z):Ze Z:=Y (VW v h) λq=>match q.2 with
 |.ah k T _=>Y (fO k i) λy=>bS (eA T) (some (h.set q.1 (.ah k (cU T y x) 0)))
 |.ae O _=>Y (lz i) λk=>bS (Nat.blt k (VN O)) (some (h.set q.1 (.ae (dT O k x) 0)))
 |.ins _ _=>none
def rS(v:V)(a:Nat)(x:V)(h:Z):Ze Z:=Y (VW v h) λq=>match q.2 with
 |.ins c P=>bS (n5 P) (some (h.set q.1 (.ins c (VO P a x))))
 |_=>none
noncomputable def jP:YZ->YU->YS
 |n::r,v::s=>(n,v)::jP r s
 |_,_=>[]
def lH(K:cy)(O:YZ)(D:YU):Ze YS:=bS (Nat.beq (VN D+VN K.d6) (VN O)) (some (jP O (U D K.d6)))
noncomputable def gJ:YZ->YU->YS->Ze YS
 |[],[],l=>some l
 |n::r,v::s,l=>gJ r s (VO l n v)
 |_,_,_=>none
def uX(d:YZ)(v:V)(s:bD):Ze bD:=match d with
 |[n]=>some ⟨VO s.aj n v,s.h⟩
 |f=>match v with
  |.ay O=>Y (gJ f O s.aj) λl=>some ⟨l,s.h⟩
  |_=>none
noncomputable def xh:V->Ze YU
 |.ay O=>some O
 |.ae O=>some O
 |_=>none
def hH(d:YZ)(v:V)(s:bD):Ze bD:=match d with
 |[n]=>some ⟨VO s.aj n v,s.h⟩
 |f=>Y (xh v) λO=>Y (gJ f O s.aj) λl=>some ⟨l,s.h⟩
def dX(v:V)(h:Z)(D:Bool):Ze Z:=match v with
 |.ref p=>match h.get p with
  |some (.ae O l)=>match D,l with
   |true,l=>some (h.set p (.ae O (l+1)))
   |false,l+1=>some (h.set p (.ae O l))
   |_,_=>none
  |some (.ah k O l)=>match D,l with
   |true,l=>some (h.set p (.ah k O (l+1)))
   |false,l+1=>some (h.set p (.ah k O l))
   |_,_=>none
  |_=>none
 |_=>some h
def xm(e:E->bD->Ze (V×Z))(T:dv)(s:bD):Ze (YU×V×Z):=match T with
 |.e a=>Y (e a s) λp=>Y (gz p.1 p.2) λc=>match c with
  |.D k d=>match k with
   |.T=>none
   |_=>some (ib d,p.1,p.2)
  |.L O=>some (O,p.1,p.2)
  |.T O=>some (O,p.1,p.2)
 |.range L A=>match L with
  |none=>Y (e A s) λp=>Y (lz p.1) λn=>bS (Nat.blt n b0) (some (i0 0 n,.none,p.2))
  |some L=>Y (e L s) λp=>Y (e A ⟨s.aj,p.2⟩) λq=>Y (lz p.1) λa=>bS (Nat.blt a b0) (Y (fm q.1) λb=>match b with
   |.ofNat b=>bS (Nat.blt b b0) (some (i0 (.ofNat a) (b-a),.none,q.2))
   |.negSucc b=>bS (Nat.blt b b0) (some ([],.none,q.2)))
 |.jl a=>Y (e a s) λp=>Y (d4 p.1 p.2) λO=>some (mK O 0,p.1,p.2)
 |.rP a=>Y (e a s) λp=>Y (d4 p.1 p.2) λO=>some (gj O [],p.1,p.2)
noncomputable def i8{α:Type}(O:List α):List α->List α:=
 O.rec (λ_=>[]) λ_ _ S r=>match r with
  |[]=>[]
  |x::r=>x::S r
def rh(x:List S->bD->Ze (fE×bD))(d:YZ)(b:List S)(O:YU):bD->Ze (fE×bD):=
 O.rec (λs=>some (.next,s)) λv _ a s=>Y (hH d v s) λc=>Y (x b c) λp=>match p.1 with
  |.next=>a ⟨i8 s.aj p.2.aj,p.2.h⟩
  |.ret w=>some (.ret w,p.2)
def sx(e:E->bD->Ze (V×Z))(d:YZ)(l:E)(B:Ze E)(r:YS)(O:YU):Z->Ze (YU×Z):=
 O.rec (λh=>some ([],h)) λv _ S h=>Y (hH d v ⟨r,h⟩) λs=>match B with
  |none=>Y (e l s) λp=>Y (S p.2) λq=>some (p.1::q.1,q.2)
  |some c=>Y (e c s) λt=>Y (VQ t.1 t.2) λb=>match b with
   |true=>Y (e l ⟨s.aj,t.2⟩) λp=>Y (S p.2) λq=>some (p.1::q.1,q.2)
   |false=>S t.2
noncomputable def l9(e:E->bD->Ze (V×Z))(self:Nat):List S->bD->YS->Ze (YS×Z)
 |[],s,P=>some (P,s.h)
 |.bY (.aS (.F n) a) x::r,s,P=>match Nat.beq n self with
  |true=>Y (e x s) λp=>bS (n5 P) (l9 e self r ⟨s.aj,p.2⟩ (VO P a p.1))
  |false=>none
 |_,_,_=>none
noncomputable def jr:V->Bool
 |.ref _=>true
 |_=>false
def sa(O:YS):Bool:=
 O.rec false λm _ S=>match jr m.2 with|true=>true|false=>S
noncomputable def pj(e:E->bD->Ze (V×Z))(and:Bool):List E->bD->Ze (V×Z)
 |[],_=>none
 |[a],s=>e a s
 |a::r,s=>Y (e a s) λp=>Y (VQ p.1 p.2) λb=>match hG and b with
  |true=>pj e and r ⟨s.aj,p.2⟩
  |false=>some p
noncomputable def t4(e:E->bD->Ze (V×Z))(k:eS):List E->List E->bD->YT->Ze (YT×Z)
 |[],[],s,d=>some (d,s.h)
 |a::r,b::t,s,d=>Y (e a s) λp=>Y (e b ⟨s.aj,p.2⟩) λq=>Y (fO k p.1) λx=>t4 e k r t ⟨s.aj,q.2⟩ (cU d x q.1)
 |_,_,_,_=>none
noncomputable def kM{α:Type}(c:Nat->Nat->Ze Bool):PySem.W.KasT α->Ze α
 |.ret a=>some a
 |.ask i j k=>match c i j with
  |some b=>kM c (k b)
  |none=>none
def t6(O:YU)(a:YZ):Ze YU:=
 a.rec (some []) λi _ S=>Y (a3 O i) λx=>Y S λl=>some (x::l)
noncomputable def tf:V->Bool
 |.ay (.int _::_)=>true
 |_=>false
def Be(O:YU):Ze YU:=match O with
 |[_]=>some O
 |_=>Y (kM (λi j=>Y (a3 O i) λx=>Y (a3 O j) λy=>oS x y) (PySem.W.kas_sort (VN O))) λp=>t6 O p.toList
def nB(O:YU)(m:Bool)(h:Z):Ze (V×Z):=bS (Nat.blt (VN O) 64)<|match fP O with
 |some l=>some (dj m ((oP l).map .int) h)
 |none=>bS (O.all tf) (Y (Be O) λl=>bS (eA l) (some (dj m l h)))
noncomputable def tR:eS->Bool
 |.T=>false
 |_=>true
noncomputable def zN:eS->Bool
 |.I=>true
 |_=>false
noncomputable def tm:V->Bool
 |.ref _=>true
 |_=>false
def VY(m:Bool)(b:qA)(D:YU)(h:Z):Ze (V×Z):=Y (d9 D) λv=>match b with
 |.len=>Y (gz v h) λc=>match c with
  |.D k l=>bS (tm v) (bS (tR k) (some (.int (.ofNat (VN l)),h)))
  |.L l=>some (.int (.ofNat (VN l)),h)
  |.T l=>some (.int (.ofNat (VN l)),h)
 |.rX=>Y (d4 v h) λl=>Y (rY l 0) λn=>some (.int n,h)
 |.sorted=>Y (gz v h) λc=>match c with
  |.D k l=>bS (tm v) (bS (zN k) (nB (ib l) m h))
  |.L l=>nB l m h
  |.T l=>Y (fP l) λ_=>nB l m h
 |.abs=>Y (fm v) λi=>some (.int (.ofNat i.natAbs),h)
 |.int=>match v with
  |.int i=>some (.int i,h)
  |.bool b=>some (.int (match b with|true=>1|false=>0),h)
  |_=>none
 |.str=>none
 |.tuple=>Y (d4 v h) λl=>some (.ay l,h)
 |.list=>Y (d4 v h) λl=>some (dj m l h)
 |.dict k=>bS (tR k)<|Y (d4 v h) λl=>Y (kV k l []) λd=>some (.ref h.n,h.new (.ah k d 0))
structure kl where
 append:Nat
 lI:Nat
 fZ:Nat
 get:Nat
 iB:Nat
 rW:Nat
noncomputable def rN:YZ->YZ->Bool
 |[],_=>true
 |a::r,b::s=>match Nat.beq a b with|true=>rN r s|false=>false
 |_,_=>false
noncomputable def rK{α:Type}(d:α):Ze α->α
 |some v=>v
 |none=>d
def gA(k:eS)(T:YT)(D:YU):Ze V:=match D with
 |[]=>none
 |x::r=>Y (fO k x) λy=>match r with
  |[]=>some (rK .none (bL T y))
  |d::t=>match t with
   |[]=>some (rK d (bL T y))
   |_::_=>none
def Af(N:kl)(v:V)(m:Nat)(D:YU)(h:Z):Ze V:=match v with
 |.str x=>bS (Nat.beq m N.rW) (Y (d9 D) λy=>Y (uQ y) λy=>some (.bool (rN y.cps.toList x.cps.toList)))
 |v=>Y (gz v h) λc=>match c with
  |.D k T=>bS (Nat.beq m N.get) (gA k T D)
  |.L O=>bS (!tm v) (bS (Nat.beq m N.iB) (Y (d9 D) λx=>Y (vV x O 0) λi=>some (.int (.ofNat i))))
  |.T _=>none
def w0(O:YU)(D:YU):Ze (V×YU):=match D with
 |[]=>match gj O []with
  |x::r=>some (x,gj r [])
  |[]=>none
 |x::t=>match t with
  |[]=>Y (lz x) λn=>match n with
   |0=>match O with
    |x::r=>some (x,r)
    |[]=>none
   |_+1=>none
  |_::_=>none
def wx(N:kl)(p:Nat)(O:YU)(m:Nat)(D:YU)(h:Z):Ze (V×Z):=match Nat.beq m N.append with
 |true=>Y (d9 D) λx=>bS (eA O) (some (.none,h.set p (.ae (U O [x]) 0)))
 |false=>match Nat.beq m N.lI with
  |true=>Y (d9 D) λx=>Y (d4 x h) λl=>bS (eA (U O l)) (some (.none,h.set p (.ae (U O l) 0)))
  |false=>bS (Nat.beq m N.fZ) (Y (w0 O D) λr=>some (r.1,h.set p (.ae r.2 0)))
def tn(N:kl)(v:V)(m:Nat)(h:Z):Ze (Nat×O):=match Nat.beq m N.get with
 |true=>none
 |false=>VW v h
def iF(N:kl)(v:V)(m:Nat)(D:YU)(h:Z):Ze (V×Z):=match tn N v m h with
 |some q=>match q.2 with
  |.ae O _=>wx N q.1 O m D h
  |.ah k T _=>bS (Nat.beq m N.fZ) (bS (zN k) (Y (d9 D) λx=>Y (fm x) λn=>Y (bL T (.i n)) λw=>some (w,h.set q.1 (.ah .I (gP T (.i n)) 0))))
  |.ins _ _=>none
 |none=>Y (Af N v m D h) λw=>some (w,h)
def iL(v:V)(h:Z):Nat:=match v with
 |.str _=>3
 |.ae _=>1
 |.ah _ _=>2
 |.ref p=>match h.get p with
  |some (.ae _ _)=>1
  |some (.ah _ _ _)=>2
  |_=>0
 |_=>0
def ks(v:V)(h:Z):Y0:=match v with
 |.ins c _ _=>some c
 |.ref p=>match h.get p with
  |some (.ins c _)=>some c
  |_=>none
 |_=>none
def sW(v:V)(h:Z):Ze (V×Z):=match v with
 |.ref p=>match h.get p with
  |some (.ae O 0)=>Y (fY (ct 11 Z.bj) O) λl=>some (.ae l,h.hk p)
  |some (.ah k T 0)=>Y (gU (ct 11 Z.bj) T) λl=>some (.ah k l,h.hk p)
  |_=>none
 |v=>some (v,h)
noncomputable def ql:V->Bool
 |.none=>true|.bool _=>true|.int _=>true|.str _=>true
 |_=>false
def k8(d:lk)(I:S)(s:bD):Ze (fE×bD):=match I with
 |.eD=>some (.next,s)
 |.hc=>none
 |.bY t e=>match t with
  |.F n=>Y (d.e e s) λp=>some (.next,⟨VO s.aj n p.1,p.2⟩)
  |.aS o a=>Y (d.e e s) λp=>Y (d.e o ⟨s.aj,p.2⟩) λq=>Y (rS q.1 a p.1 q.2) λh=>some (.next,⟨s.aj,h⟩)
  |.sub o i=>Y (d.e e s) λp=>Y (d.e o ⟨s.aj,p.2⟩) λq=>Y (d.e i ⟨s.aj,q.2⟩) λr=>Y (nt q.1 r.1 p.1 r.2) λh=>some (.next,⟨s.aj,h⟩)
  |.ay f=>Y (d.e e s) λp=>Y (uX f p.1 ⟨s.aj,p.2⟩) λs=>some (.next,s)
 |.pe n F e=>match F with
  |.add=>Y (au s.aj n) λv=>Y (fm v) λx=>Y (d.e e s) λp=>Y (fm p.1) λy=>some (.next,⟨VO s.aj n (.int (x+y)),p.2⟩)
  |_=>none
 |.expr e=>Y (d.e e s) λp=>bS (ql p.1) (some (.next,⟨s.aj,p.2⟩))
 |.ret e=>match e with
  |none=>some (.ret .none,s)
  |some e=>Y (d.e e s) λp=>some (.ret p.1,⟨s.aj,p.2⟩)
 |.ite t a b=>Y (d.e t s) λp=>Y (VQ p.1 p.2) λc=>match c with
  |true=>d.x a ⟨s.aj,p.2⟩
  |false=>d.x b ⟨s.aj,p.2⟩
 |.il t b=>d.w t b s
 |.b5 g T b=>Y (xm d.e T s) λp=>Y (dX p.2.1 p.2.2 true) λh=>Y (rh d.x g b p.1 ⟨s.aj,h⟩) λq=>Y (dX p.2.1 q.2.h false) λh=>some (q.1,⟨q.2.aj,h⟩)
def hp(m:Nat):Nat:=Zx (m % 4096)
def rx(m:Nat):Nat:=Zx (m/4096)
def Mt(P:qG)(N:kl)(S:lk)(e:E)(s:bD):Ze (V×Z):=match e with
 |.lit v=>some (v,s.h)
 |.d8 v=>some (v,s.h)
 |.F n=>Y (au s.aj n) λv=>some (v,s.h)
 |.aS e a=>Y (S.e e s) λp=>Y (bM p.2 p.1 a) λv=>some (v,p.2)
 |.a7 F m a b=>Y (S.e a s) λp=>Y (S.e b ⟨s.aj,p.2⟩) λq=>mB F m p.1 q.1 q.2
 |.c6 F a=>Y (S.e a s) λp=>Y (xJ F p.1 p.2) λv=>some (v,p.2)
 |.aw F a b=>Y (S.e a s) λp=>Y (S.e b ⟨s.aj,p.2⟩) λq=>Y (dx F p.1 q.1 q.2) λr=>some (.bool r,q.2)
 |.kv K g a b c=>Y (S.e a s) λp=>Y (S.e b ⟨s.aj,p.2⟩) λq=>Y (dx K p.1 q.1 q.2) λr=>match r with
  |true=>Y (S.e c ⟨s.aj,q.2⟩) λt=>Y (dx g q.1 t.1 t.2) λr=>some (.bool r,t.2)
  |false=>some (.bool false,q.2)
 |.bool and G=>pj S.e and G s
 |.ite t a b=>Y (S.e t s) λp=>Y (VQ p.1 p.2) λc=>match c with
  |true=>S.e a ⟨s.aj,p.2⟩
  |false=>S.e b ⟨s.aj,p.2⟩
 |.ay G=>Y (h6 S.e G s) λp=>some (.ay p.1,p.2)
 |.ae m G=>Y (h6 S.e G s) λp=>some (dj m p.1 p.2)
 |.ah k R D=>Y (t4 S.e k R D s []) λp=>some (.ref p.2.n,p.2.new (.ah k p.1 0))
 |.sub e i=>Y (S.e e s) λp=>Y (S.e i ⟨s.aj,p.2⟩) λq=>Y (cZ p.1 q.1 q.2) λv=>some (v,q.2)
 |.gk m e L A=>Y (S.e e s) λp=>match L with
  |some a=>match A with
   |none=>Y (S.e a ⟨s.aj,p.2⟩) λq=>Y (ru p.1 q.2) λO=>Y (lz q.1) λn=>some (dj m (q7 O n) q.2)
   |some _=>none
  |none=>Y A λb=>Y (S.e b ⟨s.aj,p.2⟩) λq=>Y (ru p.1 q.2) λO=>Y (lz q.1) λn=>some (dj m (mg O n) q.2)
 |.oH m e=>Y (S.e e s) λp=>Y (ru p.1 p.2) λO=>some (dj m (gj O []) p.2)
 |.call k f G=>Y (h6 S.e G s) λp=>S.c k f p.1 p.2
 |.bI e=>Y (S.e e s) λp=>sW p.1 p.2
 |.new c G=>Y (h6 S.e G s) λp=>S.c .ef c p.1 p.2
 |.aC e m G=>Y (S.e e s) λp=>match ks p.1 p.2 with
  |some c=>match bM p.2 p.1 (hp m)with
   |none=>Y (P.cls c) λk=>Y (au k.kR (hp m)) λf=>bS (Nat.ble (P.kY f) (rx m)) (Y (h6 S.e G ⟨s.aj,p.2⟩) λq=>S.c .inl f (p.1::q.1) q.2)
   |some _=>none
  |none=>Y (h6 S.e G ⟨s.aj,p.2⟩) λq=>bS (Nat.beq (iL p.1 p.2) (iL p.1 q.2)) (iF N p.1 (hp m) q.1 q.2)
 |.bq m b G=>Y (h6 S.e G s) λp=>VY m b p.1 p.2
 |.comp m l j T B=>Y (xm S.e T s) λp=>bS (eA p.1) (Y (dX p.2.1 p.2.2 true) λh=>Y (sx S.e j l B s.aj p.1 h) λq=>Y (dX p.2.1 q.2 false) λh=>some (dj m q.1 h))
 |.k9 c q f G=>Y (au s.aj q) λv=>Y (yu v) λp=>Y (s.h.get p) λo=>match o with
  |.ins d _=>bS (Nat.beq c d) (Y (h6 S.e G s) λr=>S.c .inl f (v::r.1) r.2)
  |_=>none
def t'(x:Ze (fE×bD)):Ze (V×Z):=Y x λq=>match q.1 with
 |.next=>some (.none,q.2.h)
 |.ret v=>some (v,q.2.h)
def VV(P:qG)(N:kl)(S:lk):lk where
 e:=Mt P N S
 x:=λb s=>match b with
  |[]=>some (.next,s)
  |j::r=>Y (k8 S j s) λp=>match p.1 with
    |.next=>S.x r p.2
    |.ret v=>some (.ret v,p.2)
 w:=λt b s=>Y (S.e t s) λp=>Y (VQ p.1 p.2) λc=>match c with
  |true=>Y (S.x b ⟨s.aj,p.2⟩) λq=>match q.1 with
   |.next=>S.w t b ⟨i8 s.aj q.2.aj,q.2.h⟩
   |.ret v=>some (.ret v,q.2)
  |false=>some (.next,⟨s.aj,p.2⟩)
 c:=λk f D h=>match k with
  |.inl=>Y (P.fK f) λK=>Y (lH K K.ak D) λl=>t' (S.x K.body ⟨l,h⟩)
  |.pure=>bS (dQ (cg 60) D) (match P.j2 f D with
   |some r=>some (r,h)
   |none=>Y (P.fK f) λK=>Y (lH K K.ak D) λl=>Y (t' (S.x K.body ⟨l,Z.bj⟩)) λq=>Y (ct 12 q.2 q.1) λw=>bS (cg 60 w) (some (w,h)))
  |.nV=>Y (fY (ct 12 h) D) λD=>Y (S.c .pure f D Z.bj) λq=>bS (ql q.1) (some (q.1,h))
  |.ef=>Y (P.cls f) λk=>match k.init with
   |none=>bS k.qf (match D with
    |[]=>some (.ins f false [],h)
    |_::_=>none)
   |some i=>match k.qf with
    |true=>Y (P.fK i) λK=>match K.ak with
     |self::O=>Y (lH K O D) λl=>Y (l9 S.e self K.body ⟨l,h⟩ []) λq=>some (.ins f (sa q.1) q.1,q.2)
     |[]=>none
    |false=>Y (S.c .inl i (.ref h.n::D) (h.new (.ins f []))) λq=>bS (iC q.1) (some (.ref h.n,q.2))
def vl:lk:=Zx ⟨λ_ _=>none,λ_ _=>none,λ_ _ _=>none,λ_ _ _ _=>none⟩
noncomputable def aD(P:qG)(N:kl):Nat->lk
 |0=>vl
 |n+1=>VV P N (aD P N n)
noncomputable def j(l:YZ):Y':=⟨⟨l⟩⟩
abbrev Zf:=j [69]
abbrev Zg:=j [97]
abbrev Zh:=j [115,104,105,102,116,47,114,101,100,117,99,101]
abbrev Zi:=j [114,101,100,117,99,101]
abbrev Zj:=j [110,111,110,101]
abbrev Zk:=j [115,104,105,102,116]
abbrev Zl:=j [108,101,102,116]
abbrev Zm:=j [114,105,103,104,116]
abbrev Zn:=j [110,111,110,97,115,115,111,99]
abbrev Zo:=j [98,97,114]
abbrev Zp:=j [39,33,39]
abbrev Zq:=j [112,114,101,99,101,100,101,110,99,101]
abbrev Zr:=j [36,97,99,99,101,112,116]
def ai(i:Int):E:=Zx (.lit (.int i))
def aU(n:Nat):E:=Zx (.aS (.F 6) n)
def aQ(n:Nat)(e:E):S:=Zx (.bY (.F n) e)
def bu(n:Nat)(e:E):S:=Zx (.bY (.aS (.F 6) n) e)
noncomputable def bA{α:Type}(v:α)(l r:bo α):bo α:=.node (some v) l r
noncomputable def b9{α:Type}(v:α):bo α:=.node (some v) .nil .nil
def QI:List String:=Zx ["append","extend","pop","get","index","startswith","self","at","told","kind","text","worth","found","mask","left","names","terminal_count","lefts","lengths","befores","defaults","numbers","number","name","rule","state","terminal","nonterminal","explicit","default","way","rules","chosen","grammar","right","before","rows","gotos","conflicts","settled","mode","levels","level_of","own","other","shifts","symbol","moves","looks","reductions","masks","barred","look","settle_one","row","pair","counts","best","automaton","states","maker","settle_levels","with_defaults","children","done","node","is_leaf","token","start","tree","line","child","values","control","tables","expected","accepted","value","faults","tokens","handler","most","lone","begin","looked","count","answer","pull","needs","source","next_token","step","outcome","lone_rule","is_consistent","move","reduce","terminal_of","action","note","finish","shift","is_established","fail","goal","length","first","act","kept","go_on","goto","tell_fault","parse","expect","by_left","offsets","owners","item_count","dot","item","known","lacking","users","queue","missing","symbol_count","middle","one","kernel","items","firsts","after","wanted","rules_of","added","rule_of","dot_of","ordered","here","symbols","closer","close","behind","number_of","expand","built","nullables","solid","others","is_terminal","order","placed","many","reach","later","spot","end","word","cell","script","pen","digit","some","signs","ahead","every","sign","prec","sides","lines","world","made","is_ahead","parts","part","due","machine","walk","held","under","turn","is_short","more","trees","taken","conflict","what"]
def lJ:cy:=⟨[6],[],[.ite (.aw .is (aU 7) (.lit .none)) [.ret (some (.ay [(ai 0),(ai 0)]))] [],.ret (some (.aC (aU 7) 4104 []))]⟩
def sQ:cy:=Zx ⟨[6,9,10,7,11],[.none],[bu 9 (.F 9),bu 10 (.F 10),bu 7 (.F 7),bu 11 (.ite (.aw .is (.F 11) (.lit .none)) (.F 10) (.F 11))]⟩
def Dt:cy:=Zx ⟨[6],[],[.ret (some (.ay [(aU 9),(aU 10)]))]⟩
def vu:cy:=⟨[13],[],[aQ 12 (.ae true []),aQ 7 (ai 0),aQ 14 (.F 13),.il (.aw .gt (.F 14) (ai 0)) [.ite (.aw .eq (.a7 .kp false (.F 14) (ai 1)) (ai 1)) [.expr (.aC (.F 12) 0 [(.F 7)])] [],aQ 14 (.a7 .ui false (.F 14) (ai 1)),aQ 7 (.a7 .add false (.F 7) (ai 1))],.ret (some (.F 12))]⟩
def Dv:cy:=Zx ⟨[6,15,16,17,18,19],[],[bu 15 (.F 15),bu 16 (.F 16),bu 17 (.F 17),bu 18 (.F 18),bu 19 (.F 19),bu 20 (.ae true []),bu 21 (.ah .S [] []),.b5 [22] (.range none (.F 16)) [.bY (.sub (aU 21) (.sub (.F 15) (.F 22))) (.F 22)]]⟩
def sP:cy:=Zx ⟨[6,25,26],[],[.hc]⟩
def y6:cy:=Zx ⟨[6,25],[],[.ret (some (.sub (aU 20) (.F 25)))]⟩
def y7:cy:=Zx ⟨[6,25,27],[],[.hc]⟩
def Dn:cy:=⟨[6,25,26],[],[aQ 8 (.aC (.F 6) 4124 [(.F 25),(.F 26)]),.ite (.aw .eq (.F 8) (.d8 (.int (-1048576)))) [.ret (some (ai 0))] [],.ite (.aw .eq (.F 8) (ai 0)) [.ret (some (.c6 .neg (.aC (.F 6) 4125 [(.F 25)])))] [],.ret (some (.F 8))]⟩
def vp:cy:=⟨[6,25],[],[aQ 12 (.ae true []),.b5 [26] (.range none (aU 16)) [.ite (.bool true [(.aw .cC (.F 26) (.d8 (.int 1))),(.aw .cC (.F 26) (.d8 (.int 2)))]) [aQ 8 (.aC (.F 6) 4124 [(.F 25),(.F 26)]),.ite (.bool true [(.aw .cC (.F 8) (ai 0)),(.aw .cC (.F 8) (.d8 (.int (-1048576))))]) [.expr (.aC (.F 12) 4096 [(.F 26)])] []] []],.ret (some (.F 12))]⟩
def Dp:cy:=⟨[6,25],[],[.ite (.aw .eq (.aC (.F 6) 4125 [(.F 25)]) (ai 0)) [.ret (some (.lit (.bool false)))] [],.b5 [26] (.range none (aU 16)) [.ite (.aw .cC (.aC (.F 6) 4124 [(.F 25),(.F 26)]) (ai 0)) [.ret (some (.lit (.bool false)))] []],.ret (some (.lit (.bool true)))]⟩
def pE:cy:=Zx ⟨[6,33,36,37,20,38,39,40],[],[aQ 17 (.comp false (.aS (.F 24) 14) [24] (.e (.aS (.F 33) 31)) none),aQ 18 (.comp false (.bq false .len [(.aS (.F 24) 34)]) [24] (.e (.aS (.F 33) 31)) none),aQ 19 (.comp false (.aS (.F 24) 35) [24] (.e (.aS (.F 33) 31)) none),.expr (.k9 7 6 7 [(.aS (.F 33) 15),(.aS (.F 33) 16),(.F 17),(.F 18),(.F 19)]),bu 33 (.F 33),bu 36 (.F 36),bu 37 (.F 37),bu 20 (.F 20),bu 38 (.F 38),bu 39 (.F 39),bu 40 (.F 40)]⟩
def vr:cy:=⟨[33,24,26],[],[aQ 43 (.aC (.aS (.F 33) 41) 3 [(.aS (.sub (.aS (.F 33) 31) (.F 24)) 42)]),aQ 44 (.aC (.aS (.F 33) 41) 3 [(.F 26)]),.ite (.bool false [(.aw .is (.F 43) (.lit .none)),(.aw .is (.F 44) (.lit .none))]) [.ret (some (.lit .none))] [],.ite (.aw .gt (.sub (.F 43) (ai 0)) (.sub (.F 44) (ai 0))) [.ret (some (.lit (.str Zi)))] [],.ite (.aw .lt (.sub (.F 43) (ai 0)) (.sub (.F 44) (ai 0))) [.ret (some (.lit (.str Zk)))] [],.ite (.aw .eq (.sub (.F 44) (ai 1)) (.lit (.str Zl))) [.ret (some (.lit (.str Zi)))] [],.ite (.aw .eq (.sub (.F 44) (ai 1)) (.lit (.str Zm))) [.ret (some (.lit (.str Zk)))] [],.ite (.aw .eq (.sub (.F 44) (ai 1)) (.lit (.str Zn))) [.ret (some (.lit (.str Zo)))] [],.ret (some (.lit .none))]⟩
def vs:cy:=⟨[6,33,25,50],[],[bu 33 (.F 33),bu 22 (.aS (.F 25) 22),bu 45 (.ah .I [] []),bu 37 (.ah .I [] []),.b5 [46] (.e (.aS (.F 25) 47)) [.ite (.aw .eq (.F 46) (.d8 (.int 0))) [.bY (.sub (aU 45) (.F 46)) (.d8 (.int 1048576))] [.ite (.aw .lt (.F 46) (.aS (.F 33) 16)) [.bY (.sub (aU 45) (.F 46)) (.sub (.aS (.F 25) 47) (.F 46))] [.bY (.sub (aU 37) (.F 46)) (.sub (.aS (.F 25) 47) (.F 46))]]],bu 48 (.ae true []),.b5 [24] (.e (.aS (.F 25) 49)) [.expr (.aC (aU 48) 0 [(.ae true [(.F 24),(.aC (.F 50) 3 [(.ay [(.aS (.F 25) 22),(.F 24)]),(ai 0)])])])],bu 51 (ai 0),bu 39 (.ae true [])]⟩
def y8:cy:=⟨[6],[],[.b5 [52] (.e (aU 48)) [.b5 [26] (.e (.call .pure 6 [(.sub (.F 52) (ai 1))])) [aQ 30 (.lit .none),.ite (.aw .kJ (.F 26) (aU 45)) [aQ 30 (.call .inl 25 [(aU 33),(.sub (.F 52) (ai 0)),(.F 26)])] [],.ite (.aw .mW (.F 30) (.lit .none)) [.expr (.aC (.F 6) 12341 [(.F 52),(.F 26),(.F 30)])] []]]]⟩
def y9:cy:=⟨[6,52,26,30],[],[aQ 32 (.sub (aU 45) (.F 26)),.ite (.aw .eq (.F 30) (.lit (.str Zi))) [aQ 32 (.c6 .neg (.sub (.F 52) (ai 0)))] [],.ite (.aw .eq (.F 30) (.lit (.str Zo))) [aQ 32 (.d8 (.int (-1048576))),bu 51 (.a7 .nU false (aU 51) (.a7 .jx false (ai 1) (.F 26)))] [],.ite (.aw .cC (.F 30) (.lit (.str Zi))) [.bY (.sub (.F 52) (ai 1)) (.a7 .kp false (.sub (.F 52) (ai 1)) (.c6 .ag (.a7 .jx false (ai 1) (.F 26))))] [],.ite (.aw .cC (.F 30) (.lit (.str Zk))) [.expr (.aC (aU 45) 8194 [(.F 26)])] [],.expr (.aC (aU 39) 8192 [(.new 6 [(aU 22),(.F 26),(.lit (.str Zh)),(.ay [(.sub (.F 52) (ai 0))]),(.F 32)])])]⟩
def y':cy:=⟨[6],[],[aQ 54 (.a7 .mul true (.ae false [(ai 0)]) (.aS (aU 33) 16)),.b5 [52] (.rP (aU 48)) [.b5 [26] (.e (.call .pure 6 [(.sub (.F 52) (ai 1))])) [.bY (.sub (.F 54) (.F 26)) (.c6 .neg (.sub (.F 52) (ai 0)))]],.b5 [26] (.e (aU 45)) [.bY (.sub (.F 54) (.F 26)) (.sub (aU 45) (.F 26))],.b5 [26] (.e (.call .pure 6 [(aU 51)])) [.bY (.sub (.F 54) (.F 26)) (.d8 (.int (-1048576)))],.ret (some (.bI (.F 54)))]⟩
def Dq:cy:=⟨[6,54],[],[aQ 12 (.ae true []),.b5 [26] (.range none (.aS (aU 33) 16)) [aQ 31 (.comp false (.sub (.F 52) (ai 0)) [52] (.e (aU 48)) (some (.a7 .kp false (.sub (.F 52) (ai 1)) (.a7 .jx false (ai 1) (.F 26))))),.ite (.bool true [(.F 31),(.aw .kJ (.F 26) (aU 45))]) [.expr (.aC (.F 12) 8192 [(.new 6 [(aU 22),(.F 26),(.lit (.str Zh)),(.bq false .tuple [(.F 31)]),(.sub (.F 54) (.F 26))])])] [],.b5 [44] (.e (.gk false (.F 31) (some (ai 1)) none)) [aQ 55 (.ay [(.sub (.F 31) (ai 0)),(.F 44)]),.expr (.aC (.F 12) 8192 [(.new 6 [(aU 22),(.F 26),(.lit (.str (j [114,101,100,117,99,101,47,114,101,100,117,99,101]))),(.F 55),(.sub (.F 54) (.F 26))])])]],.ret (some (.bI (.F 12)))]⟩
def za:cy:=⟨[54],[],[.ite (.aw .gt (.sub (.F 54) (.d8 (.int 1))) (ai 0)) [.ret (some (ai 0))] [],aQ 56 (.ah .I [] []),.b5 [22] (.e (.F 54)) [.ite (.kv .lt .lt (.d8 (.int (-1048576))) (.F 22) (ai 0)) [.bY (.sub (.F 56) (.c6 .neg (.F 22))) (.a7 .add false (.aC (.F 56) 3 [(.c6 .neg (.F 22)),(ai 0)]) (ai 1))] []],aQ 57 (ai 0),.b5 [24] (.e (.bq false .sorted [(.F 56)])) [.ite (.bool false [(.aw .eq (.F 57) (ai 0)),(.aw .gt (.sub (.F 56) (.F 24)) (.sub (.F 56) (.F 57)))]) [aQ 57 (.F 24)] []],.ret (some (.F 57))]⟩
def sR:cy:=⟨[58,50,62,40],[(.str (j [108,97,108,114]))],[aQ 36 (.ae true []),aQ 37 (.ae true []),aQ 20 (.ae true []),aQ 38 (.ae true []),aQ 39 (.ae true []),.b5 [25] (.e (.aS (.F 58) 59)) [aQ 60 (.new 8 [(.aS (.F 58) 33),(.F 25),(.F 50)]),.expr (.aC (.F 60) 16445 []),aQ 54 (.aC (.F 60) 16438 []),.expr (.aC (.F 38) 16385 [(.aC (.F 60) 16422 [(.F 54)])]),.expr (.aC (.F 39) 16385 [(.aS (.F 60) 39)]),aQ 24 (ai 0),.ite (.F 62) [aQ 24 (.call .nV 31 [(.F 54)])] [],.ite (.aw .cC (.F 24) (ai 0)) [aQ 54 (.call .inl 32 [(.F 54),(.F 24)])] [],.expr (.aC (.F 36) 16384 [(.F 54)]),.expr (.aC (.F 37) 16384 [(.bI (.aS (.F 60) 37))]),.expr (.aC (.F 20) 16384 [(.F 24)])],.ret (some (.new 7 [(.aS (.F 58) 33),(.F 36),(.F 37),(.F 20),(.F 38),(.F 39),(.F 40)]))]⟩
def Ds:cy:=⟨[6],[],[aQ 64 (.ae true []),.b5 [65] (.e (.call .pure 47 [(.F 6)])) [.ite (.aC (.F 65) 4162 []) [.expr (.aC (.F 64) 4096 [(.aC (.aS (.F 65) 67) 4104 [])])] [aQ 68 (.a7 .sub false (.bq false .len [(.F 64)]) (.bq false .len [(.aS (.F 65) 63)])),aQ 64 (.a7 .add true (.gk false (.F 64) none (some (.F 68))) (.ae false [(.a7 .add false (.ay [(.aS (.F 65) 23)]) (.bq false .tuple [(.gk false (.F 64) (some (.F 68)) none)]))]))]],.ret (some (.sub (.F 64) (ai 0)))]⟩
def vt:cy:=Zx ⟨[6],[],[.ret (some (.lit (.bool true)))]⟩
def zb:cy:=Zx ⟨[69],[],[aQ 12 (.ae true []),aQ 70 (.ae true [(.F 69)]),.il (.aw .cC (.F 70) (.ae false [])) [aQ 65 (.aC (.F 70) 2 []),.expr (.aC (.F 12) 0 [(.F 65)]),.b5 [71] (.e (.aS (.F 65) 63)) [.expr (.aC (.F 70) 0 [(.F 71)])]],.ret (some (.oH false (.F 12)))]⟩
def Du:cy:=Zx ⟨[6,67,25,75,4],[],[bu 67 (.F 67),bu 25 (.F 25),bu 75 (.F 75),bu 4 (.F 4)]⟩
def zc:cy:=⟨[6,89],[],[.expr (.aC (.F 6) 24659 []),.il (.aw .eq (aU 86) (.lit (.str (j [109,111,114,101])))) [.ite (.aC (.F 6) 24664 []) [.expr (.aC (.F 6) 24628 [(.aC (.F 89) 24666 [])])] [],.expr (.aC (.F 6) 24667 [])],.ret (some (.aC (.F 6) 24668 []))]⟩
def pF:cy:=⟨[6],[],[aQ 25 (.sub (aU 59) (.c6 .neg (ai 1))),aQ 82 (.aC (.F 6) 20573 [(.F 25)]),.ite (.aw .gt (.F 82) (ai 0)) [.expr (.aC (.F 6) 20576 [(.F 82)]),.ret none] [],aQ 26 (.aC (.F 6) 20577 [(aU 84)]),aQ 98 (.aC (aU 74) 20578 [(.F 25),(.F 26)]),.ite (.aw .eq (.F 98) (.d8 (.int 1048576))) [.expr (.aC (.F 6) 20579 [(.ay [(.lit (.str (j [97,99,99,101,112,116])))])]),.expr (.aC (.F 6) 20580 [(.lit (.str (j [97,99,99,101,112,116,101,100]))),(.sub (aU 72) (.c6 .neg (ai 1)))])] [.ite (.aw .gt (.F 98) (ai 0)) [.expr (.aC (.F 6) 20581 [(.F 98)])] [.ite (.bool true [(.aw .lt (.F 98) (ai 0)),(.aC (.F 6) 20582 [(.F 26)])]) [.expr (.aC (.F 6) 20576 [(.a7 .sub false (ai 0) (.F 98))])] [.expr (.aC (.F 6) 20583 [(.F 26)])]]]]⟩
def Dw:cy:=⟨[6],[],[aQ 15 (.comp false (.sub (.aS (aU 74) 15) (.F 22)) [22] (.e (.aC (.F 6) 12363 [])) none),.expr (.aC (aU 78) 12288 [(.new 13 [(aU 84),(.sub (aU 59) (.c6 .neg (ai 1))),(.F 15),(.a7 .sub false (aU 85) (ai 1))])])]⟩
def Di:cy:=Zx ⟨[33],[],[.ret (some (.aC (.new 22 [(.F 33)]) 24721 []))]⟩
def Dj:cy:=⟨[33],[],[aQ 146 (.call .inl 98 [(.F 33)]),aQ 88 (.ah .I [] []),.b5 [46] (.range (some (.aS (.F 33) 16)) (.aC (.F 33) 8317 [])) [.bY (.sub (.F 88) (.F 46)) (.ah .I [] [])],.b5 [24] (.e (.aS (.F 33) 31)) [aQ 147 (.comp false (.F 46) [46] (.e (.aS (.F 24) 34)) (some (.c6 .not (.sub (.F 146) (.F 46))))),.b5 [46] (.e (.aS (.F 24) 34)) [aQ 148 (.ite (.sub (.F 146) (.F 46)) (.bq false .len [(.F 147)]) (.a7 .sub false (.bq false .len [(.F 147)]) (ai 1))),.ite (.bool true [(.aw .eq (.F 148) (ai 0)),(.c6 .not (.aC (.F 33) 8341 [(.F 46)]))]) [.bY (.sub (.sub (.F 88) (.aS (.F 24) 14)) (.F 46)) (.lit (.bool true))] []]],aQ 150 (.ae true []),aQ 151 (.ah .I [] []),.il (.aw .lt (.bq false .len [(.F 150)]) (.bq false .len [(.F 88)])) [aQ 152 (.bq false .len [(.F 150)]),.b5 [46] (.e (.F 88)) [.ite (.bool true [(.aw .j0 (.F 46) (.F 151)),(.aw .eq (.comp false (.F 127) [127] (.e (.sub (.F 88) (.F 46))) (some (.aw .j0 (.F 127) (.F 151)))) (.ae false []))]) [.bY (.sub (.F 151) (.F 46)) (.lit (.bool true)),.expr (.aC (.F 150) 8192 [(.F 46)])] []],.ite (.aw .eq (.bq false .len [(.F 150)]) (.F 152)) [.hc] []],.ret (some (.F 150))]⟩
def Dk:cy:=⟨[34,157,83,156,56],[],[aQ 153 (.ah .I [(.F 83)] [(ai 1)]),.b5 [46] (.e (.F 34)) [aQ 154 (.ah .I [] []),.b5 [155] (.e (.F 153)) [.ite (.bool true [(.aw .lt (.F 155) (.F 156)),(.aw .eq (.sub (.F 157) (.F 155)) (.F 46))]) [.bY (.sub (.F 154) (.a7 .add false (.F 155) (ai 1))) (.a7 .add false (.aC (.F 154) 3 [(.a7 .add false (.F 155) (ai 1)),(ai 0)]) (.sub (.F 153) (.F 155)))] [],.b5 [104] (.range (some (.F 155)) (.a7 .add false (.F 156) (ai 1))) [aQ 152 (.aC (.F 56) 3 [(.ay [(.F 46),(.F 155),(.F 104)]),(ai 0)]),.ite (.aw .gt (.F 152) (ai 0)) [.bY (.sub (.F 154) (.F 104)) (.a7 .add false (.aC (.F 154) 3 [(.F 104),(ai 0)]) (.a7 .mul false (.sub (.F 153) (.F 155)) (.F 152)))] []]],aQ 153 (.F 154)],.ret (some (.aC (.F 153) 3 [(.F 156),(ai 0)]))]⟩
def Dl:cy:=⟨[33,157],[],[aQ 150 (.call .pure 121 [(.F 33)]),aQ 56 (.ah .T [] []),.b5 [105] (.range none (.a7 .add false (.bq false .len [(.F 157)]) (ai 1))) [.b5 [83] (.range none (.a7 .sub false (.a7 .add false (.bq false .len [(.F 157)]) (ai 1)) (.F 105))) [.b5 [46] (.e (.F 150)) [aQ 152 (ai 0),.b5 [24] (.e (.aC (.F 33) 12421 [(.F 46)])) [aQ 152 (.a7 .add false (.F 152) (.call .nV 122 [(.aS (.sub (.aS (.F 33) 31) (.F 24)) 34),(.F 157),(.F 83),(.a7 .add false (.F 83) (.F 105)),(.F 56)]))],.ite (.aw .gt (.F 152) (ai 0)) [.bY (.sub (.F 56) (.ay [(.F 46),(.F 83),(.a7 .add false (.F 83) (.F 105))])) (.F 152)] []]]],.ret (some (.aC (.F 56) 12291 [(.ay [(.sub (.aS (.sub (.aS (.F 33) 31) (ai 0)) 34) (ai 0)),(ai 0),(.bq false .len [(.F 157)])]),(ai 0)]))]⟩
def y5:cy:=⟨[160,152],[],[.bY (.sub (.F 160) (ai 1)) (.a7 .add false (.sub (.F 160) (ai 1)) (ai 1)),.ite (.bool true [(.aw .eq (.sub (.F 160) (ai 2)) (ai 0)),(.aw .cC (.sub (.F 160) (ai 0)) (.ae false []))]) [.bY (.sub (.F 160) (ai 2)) (.aC (.sub (.F 160) (ai 0)) 2 [(ai 0)])] [],aQ 161 (.a7 .tJ false (.bq false .int [(.sub (.F 160) (ai 2))]) (.F 152)),.bY (.sub (.F 160) (ai 2)) (.a7 .fdiv false (.bq false .int [(.sub (.F 160) (ai 2))]) (.F 152)),.ret (some (.a7 .tJ false (.a7 .add false (.F 161) (.sub (.F 160) (ai 1))) (.F 152)))]⟩
def jm:cy:=⟨[160],[],[aQ 163 (.gk false (.ae false [(.lit (.str (j [39,43,39]))),(.lit (.str (j [39,42,39]))),(.lit (.str (j [39,60,39])))]) none (some (.a7 .add false (ai 2) (.call .inl 125 [(.F 160),(ai 2)])))),aQ 164 (.call .inl 126 [(.F 160),(.ae false [(.lit (.str Zp)),(.sub (.F 163) (ai 0)),(.lit (.str Zp)),(.lit (.str (j [])))])]),aQ 165 (.a7 .add false (.F 163) (.ite (.aw .eq (.F 164) (.lit (.str Zp))) (.ae false [(.F 164)]) (.ae false []))),aQ 31 (.ae true []),.b5 [166] (.e (.a7 .add false (.F 163) (.ite (.aw .cC (.F 164) (.lit (.str (j [])))) (.ae false [(.F 164)]) (.ae false [])))) [aQ 167 (.call .inl 126 [(.F 160),(.ae false [(.lit .none),(.lit .none),(.lit .none),(.sub (.F 165) (ai 0)),(.sub (.F 165) (.c6 .neg (ai 1)))])]),.expr (.aC (.F 31) 8192 [(.ae false [(.F 166),(.aw .eq (.bq false .len [(.F 31)]) (.bq false .len [(.F 163)])),(.F 167)])])],aQ 168 (.comp false (.call .inl 126 [(.F 160),(.ae false [(.lit (.str Zl)),(.lit (.str Zm)),(.lit (.str Zn)),(.lit (.str Zl)),(.lit (.str Zq))])]) [70] (.range none (ai 3)) none),aQ 169 (.ah .S [] []),.b5 [166] (.e (.F 165)) [aQ 70 (.call .inl 126 [(.F 160),(.ae false [(ai 0),(ai 1),(ai 2),(ai 0),(ai 1),(ai 3)])]),.ite (.aw .lt (.F 70) (ai 3)) [.bY (.sub (.F 169) (.F 166)) (.ay [(.F 70),(.sub (.F 168) (.F 70))])] []],.ret (some (.ay [(.F 163),(.F 164),(.bI (.F 31)),(.bI (.F 169)),(.F 168)]))]⟩
def sO:cy:=⟨[170,113],[],[.bY (.ay [163,164,31,169,168]) (.F 170),aQ 15 (.a7 .add false (.a7 .add false (.a7 .add false (.ae false [(.lit (.str (j [36,101,110,100]))),(.lit (.str (j [101,114,114,111,114]))),(.lit (.str (j [36,117,110,100,101,102,105,110,101,100]))),(.lit (.str Zg))]) (.F 163)) (.ite (.aw .eq (.F 164) (.lit (.str Zp))) (.ae false [(.lit (.str Zp))]) (.ae false []))) (.ae false [(.lit (.str Zr)),(.lit (.str Zf))])),aQ 22 (.bq false (.dict .S) [(.comp false (.ay [(.F 23),(.F 7)]) [7,23] (.jl (.F 15)) none)]),aQ 171 (.ae true [(.new 17 [(ai 0),(.sub (.F 22) (.lit (.str Zr))),(.ay [(.sub (.F 22) (.lit (.str Zf))),(ai 0)]),(ai 0)])]),.b5 [166,172,167] (.e (.F 31)) [aQ 173 (.ite (.F 172) (.ae false [(.F 166),(.lit (.str Zf))]) (.ae false [(.lit (.str Zf)),(.F 166),(.lit (.str Zf))])),aQ 34 (.bq false .tuple [(.comp false (.sub (.F 22) (.F 174)) [174] (.e (.F 173)) none)]),.expr (.aC (.F 171) 8192 [(.new 17 [(.bq false .len [(.F 171)]),(.sub (.F 22) (.lit (.str Zf))),(.F 34),(.sub (.F 22) (.ite (.aw .is (.F 167) (.lit .none)) (.F 166) (.F 167)))])])],.expr (.aC (.F 171) 8192 [(.new 17 [(.bq false .len [(.F 171)]),(.sub (.F 22) (.lit (.str Zf))),(.ay [(ai 3)]),(ai 3)])]),aQ 41 (.bq false (.dict .I) [(.comp false (.ay [(.sub (.F 22) (.F 166)),(.ay [(.a7 .add false (.sub (.sub (.F 169) (.F 166)) (ai 0)) (ai 1)),(.sub (.sub (.F 169) (.F 166)) (ai 1))])]) [166] (.e (.F 169)) none)]),.ret (some (.new 18 [(.F 15),(.sub (.F 22) (.lit (.str Zr))),(.F 171),(.F 41),(.F 113),(.sub (.F 22) (.lit (.str Zf)))]))]⟩
def vo:cy:=⟨[170,24,166],[],[aQ 169 (.sub (.F 170) (ai 3)),aQ 43 (.aC (.F 169) 3 [(.ite (.aw .is (.sub (.F 24) (ai 2)) (.lit .none)) (.sub (.F 24) (ai 0)) (.sub (.F 24) (ai 2)))]),aQ 44 (.aC (.F 169) 3 [(.F 166)]),.ite (.bool false [(.aw .is (.F 43) (.lit .none)),(.aw .is (.F 44) (.lit .none))]) [.ret (some (.lit (.str Zj)))] [],.ite (.aw .cC (.sub (.F 43) (ai 0)) (.sub (.F 44) (ai 0))) [.ret (some (.ite (.aw .gt (.sub (.F 43) (ai 0)) (.sub (.F 44) (ai 0))) (.lit (.str Zi)) (.lit (.str Zk))))] [],.ret (some (.sub (.ah .S [(.lit (.str Zl)),(.lit (.str Zm)),(.lit (.str Zn)),(.lit (.str Zq))] [(.lit (.str Zi)),(.lit (.str Zk)),(.lit (.str Zo)),(.lit (.str Zj))]) (.sub (.F 44) (ai 1))))]⟩
def rb:cy:=⟨[170,33,176],[],[aQ 175 (.ae false [(.ae true []),(.ae true [])]),.b5 [7,24] (.jl (.sub (.F 170) (ai 2))) [aQ 173 (.ite (.sub (.F 24) (ai 1)) (.ae false [(.sub (.F 24) (ai 0)),(.lit (.str Zf))]) (.ae false [(.lit (.str Zf)),(.sub (.F 24) (ai 0)),(.lit (.str Zf))])),aQ 138 (.aC (.F 176) 12465 [(ai 0),(.comp false (.aC (.F 33) 12310 [(.F 174)]) [174] (.e (.F 173)) none)]),.b5 [166] (.e (.sub (.F 170) (ai 0))) [.bY (.ay [30,22]) (.ay [(.call .pure 129 [(.F 170),(.F 24),(.F 166)]),(.aC (.F 33) 12310 [(.F 166)])]),aQ 32 (.aC (.ah .S [(.lit (.str Zi)),(.lit (.str Zo))] [(.a7 .sub false (ai 0) (.a7 .add false (.F 7) (ai 1))),(.d8 (.int (-1048576)))]) 12291 [(.F 30),(.aC (.F 176) 12398 [(.F 138),(.F 22)])]),.expr (.aC (.sub (.F 175) (.bq false .int [(.aw .eq (.F 30) (.lit (.str Zj)))])) 12288 [(.ay [(.F 138),(.F 22),(.lit (.str Zh)),(.ay [(.a7 .add false (.F 7) (ai 1))]),(.F 32)])])]],.ret (some (.comp false (.bq false .sorted [(.F 162)]) [162] (.e (.F 175)) none))]⟩
def Dm:cy:=⟨[170,157],[],[aQ 178 (.ah .T [] []),.b5 [152] (.range (some (ai 1)) (.a7 .add false (.bq false .len [(.F 157)]) (ai 1))) [.b5 [7] (.range none (.a7 .add false (.a7 .sub false (.bq false .len [(.F 157)]) (.F 152)) (ai 1))) [aQ 12 (.ite (.bool true [(.aw .eq (.F 152) (ai 1)),(.aw .eq (.sub (.F 157) (.F 7)) (.lit (.str Zg)))]) (.ae false [(.lit (.str Zg))]) (.ae false [])),.b5 [22,24] (.jl (.sub (.F 170) (ai 2))) [.ite (.bool true [(.sub (.F 24) (ai 1)),(.aw .eq (.sub (.F 157) (.F 7)) (.sub (.F 24) (ai 0))),(.aw .gt (.F 152) (ai 1))]) [aQ 12 (.a7 .add false (.F 12) (.comp false (.ay [(.F 22),(.F 69)]) [69] (.e (.sub (.F 178) (.ay [(.a7 .add false (.F 7) (ai 1)),(.a7 .sub false (.F 152) (ai 1))]))) none))] [],.b5 [155] (.range (some (ai 1)) (.a7 .sub false (.F 152) (ai 1))) [.ite (.bool true [(.c6 .not (.sub (.F 24) (ai 1))),(.aw .eq (.sub (.F 157) (.a7 .add false (.F 7) (.F 155))) (.sub (.F 24) (ai 0)))]) [.b5 [69] (.e (.sub (.F 178) (.ay [(.F 7),(.F 155)]))) [aQ 12 (.a7 .add false (.F 12) (.comp false (.ay [(.F 22),(.F 69),(.F 142)]) [142] (.e (.sub (.F 178) (.ay [(.a7 .add false (.a7 .add false (.F 7) (.F 155)) (ai 1)),(.a7 .sub false (.a7 .sub false (.F 152) (.F 155)) (ai 1))]))) none))]] []]],.bY (.sub (.F 178) (.ay [(.F 7),(.F 152)])) (.F 12)]],.ret (some (.ite (.aw .cC (.F 157) (.ae false [])) (.sub (.F 178) (.ay [(ai 0),(.bq false .len [(.F 157)])])) (.ae false [])))]⟩
def fI(c:Nat):cy:=⟨[170,69],[],[.ite (.aw .eq (.F 69) (.lit (.str Zg))) [.ret (some (.lit (.bool true)))] [],aQ 163 (.comp false (.sub (.F 24) (ai 0)) [24] (.e (.sub (.F 170) (ai 2))) none),.ite (.aw .eq (.bq false .len [(.F 69)]) (ai 3)) [aQ 179 (.sub (.F 69) (ai 1)),.il (.aw .cC (.F 179) (.lit (.str Zg))) [.ite (.aw .cC (.call .pure 129 [(.F 170),(.sub (.sub (.F 170) (ai 2)) (.sub (.F 179) (ai 0))),(.sub (.F 163) (.sub (.F 69) (ai 0)))]) (.lit (.str Zi))) [.ret (some (.lit (.bool false)))] [],aQ 179 (.sub (.F 179) (.c6 .neg (ai 1)))],.ite (.c6 .not (.call .inl c [(.F 170),(.sub (.F 69) (ai 1))])) [.ret (some (.lit (.bool false)))] []] [],aQ 179 (.sub (.F 69) (.c6 .neg (ai 1))),.il (.bool true [(.aw .cC (.F 179) (.lit (.str Zg))),(.aw .eq (.bq false .len [(.F 179)]) (ai 3))]) [.ite (.aw .j0 (.call .pure 129 [(.F 170),(.sub (.sub (.F 170) (ai 2)) (.sub (.F 69) (ai 0))),(.sub (.F 163) (.sub (.F 179) (ai 0)))]) (.ay [(.lit (.str Zk)),(.lit (.str Zj))])) [.ret (some (.lit (.bool false)))] [],aQ 179 (.sub (.F 179) (ai 1))],.ret (some (.call .inl c [(.F 170),(.sub (.F 69) (.c6 .neg (ai 1)))]))]⟩
def iV(c:Nat):cy:=⟨[170,69],[],[.ite (.aw .eq (.F 69) (.lit (.str Zg))) [.ret (some (.ay [(.lit (.str Zf)),(.ay [(.lit (.str Zg)),(.lit (.str Zg))])]))] [],aQ 166 (.sub (.sub (.sub (.F 170) (ai 2)) (.sub (.F 69) (ai 0))) (ai 0)),.ite (.aw .eq (.bq false .len [(.F 69)]) (ai 2)) [.ret (some (.ay [(.lit (.str Zf)),(.ay [(.F 166),(.F 166)]),(.call .inl c [(.F 170),(.sub (.F 69) (ai 1))])]))] [],.ret (some (.ay [(.lit (.str Zf)),(.call .inl c [(.F 170),(.sub (.F 69) (ai 1))]),(.ay [(.F 166),(.F 166)]),(.call .inl c [(.F 170),(.sub (.F 69) (ai 2))])]))]⟩
def pD:cy:=⟨[160,170],[],[aQ 157 (.ae true []),.b5 [180] (.range none (.a7 .add false (ai 1) (.call .inl 126 [(.F 160),(.ae false [(ai 2),(ai 1),(ai 2),(ai 0)])]))) [.ite (.aw .gt (.F 180) (ai 0)) [.expr (.aC (.F 157) 8192 [(.call .inl 126 [(.F 160),(.sub (.F 170) (ai 0))])])] [],.ite (.bool true [(.aw .cC (.sub (.F 170) (ai 1)) (.lit (.str (j [])))),(.aw .eq (.call .inl 125 [(.F 160),(ai 3)]) (ai 0))]) [.expr (.aC (.F 157) 8192 [(.sub (.F 170) (ai 1))])] [],.expr (.aC (.F 157) 8192 [(.lit (.str Zg))])],.ite (.aw .eq (.call .inl 125 [(.F 160),(ai 6)]) (ai 0)) [aQ 7 (.call .inl 125 [(.F 160),(.bq false .len [(.F 157)])]),aQ 157 (.a7 .add false (.gk false (.F 157) none (some (.F 7))) (.gk false (.F 157) (some (.a7 .add false (.F 7) (ai 1))) none))] [],.ret (some (.bI (.F 157)))]⟩
def rd:cy:=⟨[159],[],[aQ 160 (.call .inl 124 [(.F 159)]),aQ 170 (.call .inl 127 [(.F 160)]),.bY (.ay [181,182]) (.ay [(.aw .eq (.call .inl 125 [(.F 160),(ai 2)]) (ai 0)),(.call .inl 125 [(.F 160),(ai 3)])]),aQ 152 (.bq false .rX [(.comp false (.bq false .len [(.comp false (.F 166) [166] (.e (.sub (.F 170) (ai 0))) (some (.aw .eq (.call .pure 129 [(.F 170),(.F 24),(.F 166)]) (.lit (.str Zj)))))]) [24] (.e (.sub (.F 170) (ai 2))) none)]),aQ 33 (.call .pure 128 [(.F 170),(.a7 .add false (.F 152) (.F 182))]),aQ 176 (.call .pure 120 [(.F 33)]),aQ 13 (.a7 .add false (ai 1) (.bq false .rX [(.comp false (.a7 .jx false (ai 1) (.aC (.F 33) 57366 [(.F 166)])) [166] (.e (.sub (.F 170) (ai 0))) none)])),aQ 50 (.ah .T [] []),.b5 [127] (.e (.aS (.F 176) 59)) [.b5 [22] (.e (.aS (.F 127) 49)) [.bY (.sub (.F 50) (.ay [(.aS (.F 127) 22),(.F 22)])) (.F 13)]],aQ 74 (.call .pure 33 [(.F 176),(.bI (.F 50)),(.F 181)]),aQ 175 (.call .pure 130 [(.F 170),(.F 33),(.F 176)]),.ite (.bool false [(.aw .cC (.bq false .sorted [(.comp false (.aC (.F 127) 57352 []) [127] (.e (.aS (.F 74) 39)) none)]) (.sub (.F 175) (ai 0))),(.aw .cC (.call .pure 135 [(.F 74)]) (.aw .eq (.F 182) (ai 0)))]) [.ret (some (.lit (.bool false)))] [],.ite (.aw .cC (.bq false .sorted [(.comp false (.aC (.F 127) 57352 []) [127] (.e (.aS (.F 74) 38)) none)]) (.sub (.F 175) (ai 1))) [.ret (some (.lit (.bool false)))] [],.b5 [180] (.range none (ai 3)) [aQ 157 (.call .inl 134 [(.F 160),(.F 170)]),aQ 183 (.call .pure 131 [(.F 170),(.F 157)]),aQ 34 (.comp false (.call .inl 133 [(.F 170),(.F 69)]) [69] (.e (.F 183)) (some (.call .inl 132 [(.F 170),(.F 69)]))),.ite (.bool false [(.aw .gt (.bq false .len [(.F 34)]) (ai 1)),(.aw .cC (.call .pure 123 [(.F 33),(.comp false (.aC (.F 33) 57366 [(.F 9)]) [9] (.e (.F 157)) none)]) (.bq false .len [(.F 183)]))]) [.ret (some (.lit (.bool false)))] [],aQ 184 (.call .pure 85 [(.F 74),(.comp false (.new 4 [(.F 9),(.F 9),(.lit .none)]) [9] (.e (.F 157)) none)]),.ite (.aw .cC (.ae false [(.ite (.aw .mW (.F 184) (.lit .none)) (.aC (.F 184) 57352 []) (.lit .none))]) (.ite (.aw .cC (.F 34) (.ae false [])) (.F 34) (.ae false [(.lit .none)]))) [.ret (some (.lit (.bool false)))] []],.ret (some (.lit (.bool true)))]⟩
def Dr:cy:=⟨[74],[],[aQ 45 (ai 0),.b5 [185] (.e (.aS (.F 74) 38)) [.ite (.aw .eq (.aS (.F 185) 30) (.lit (.str Zh))) [.pe 45 .add (ai 1)] []],.ret (some (.ay [(.F 45),(.a7 .sub false (.bq false .len [(.aS (.F 74) 38)]) (.F 45))]))]⟩
def yH:i9:=Zx ⟨(some 3),true,[(8,4)]⟩
def u0:i9:=Zx ⟨(some 7),false,[(26,8),(14,9),(105,10),(35,11),(28,13),(29,14),(110,15),(98,16),(75,17),(94,18)]⟩
def qS:i9:=Zx ⟨(some 19),true,[(8,20)]⟩
def Cn:i9:=Zx ⟨(some 21),false,[(26,8),(14,9),(105,10),(35,11),(28,23),(29,14),(110,24),(98,16),(75,17),(94,18)]⟩
def Cm:i9:=Zx ⟨(some 63),false,[(83,64),(92,65),(112,66),(87,67),(88,69),(52,70),(93,71),(97,72),(99,73),(100,75),(91,76),(102,77),(101,78),(96,79),(107,80),(109,81),(75,82),(111,83),(103,84)]⟩
def rg:bo cy:=(.node none (.node none (bA sQ (bA Dv (bA y7 (bA za (bA ⟨[6,74,80,81],[(.int 5000)],[bu 74 (.F 74),bu 80 (.ite (.aw .is (.F 80) (.lit .none)) (.new 12 []) (.F 80)),bu 81 (.F 81),bu 82 (.ah .I [] []),.expr (.aC (.F 6) 4179 [])]⟩ (b9 jm) .nil) (bA ⟨[6,119],[],[.ret (some (.a7 .sub false (.F 119) (.sub (aU 115) (.sub (aU 116) (.F 119)))))]⟩ (b9 (iV 160)) .nil)) (bA zb (bA ⟨[6,24],[],[.expr (.aC (.F 6) 16483 [(.ay [(.lit (.str Zi)),(.F 24)])]),aQ 105 (.aC (aU 74) 16489 [(.F 24)]),aQ 106 (.a7 .sub false (.a7 .sub false (.bq false .len [(aU 72)]) (.F 105)) (.aC (aU 74) 16419 [(.F 24)])),aQ 77 (.aC (.F 6) 16491 [(.F 24),(.gk false (aU 72) (some (.F 106)) none)]),aQ 108 (.a7 .sub false (.bq false .len [(aU 72)]) (.F 105)),bu 72 (.gk true (aU 72) none (some (.F 108))),bu 59 (.gk true (aU 59) none (some (.a7 .add false (.F 108) (ai 1)))),.expr (.aC (.F 6) 16493 [(.F 24),(.F 77)])]⟩ (b9 (fI 144)) .nil) (b9 ⟨[6,25,46],[],[.ret (some (.aC (.sub (aU 59) (.F 25)) 4206 [(.F 46)]))]⟩))) (bA ⟨[6,25,26],[],[.ret (some (.sub (.sub (aU 36) (.F 25)) (.F 26)))]⟩ (bA Ds (bA ⟨[6,25],[],[.ite (.aw .j0 (.F 25) (aU 82)) [.bY (.sub (aU 82) (.F 25)) (.ite (.aC (aU 74) 8286 [(.F 25)]) (.aC (aU 74) 8221 [(.F 25)]) (ai 0))] [],.ret (some (.sub (aU 82) (.F 25)))]⟩ (b9 ⟨[74],[],[.hc]⟩) .nil) (b9 ⟨[6,33],[],[bu 33 (.F 33),aQ 36 (.a7 .mul true (.ae false [(ai 0)]) (.aC (.F 33) 4221 [])),.b5 [24] (.e (.aS (.F 33) 31)) [.ite (.aw .gt (.bq false .len [(.aS (.F 24) 34)]) (ai 0)) [.bY (.sub (.F 36) (.aS (.F 24) 14)) (.a7 .nU false (.sub (.F 36) (.aS (.F 24) 14)) (.a7 .jx false (ai 1) (.sub (.aS (.F 24) 34) (ai 0))))] []],bu 130 (.call .pure 99 [(.bI (.F 36))])]⟩)) (.node none (bA ⟨[6,15,16,31,41,113,68],[],[bu 15 (.F 15),bu 16 (.F 16),bu 31 (.F 31),bu 41 (.F 41),bu 113 (.F 113),bu 68 (.F 68),bu 114 (.comp true (.ae true []) [23] (.e (aU 15)) none),bu 115 (.ae true []),bu 116 (.ae true []),.b5 [24] (.e (aU 31)) [.expr (.aC (.sub (aU 114) (.aS (.F 24) 14)) 0 [(.aS (.F 24) 22)]),.expr (.aC (aU 115) 0 [(.bq false .len [(aU 116)])]),.expr (.aC (aU 116) 1 [(.a7 .mul false (.ae false [(.aS (.F 24) 22)]) (.a7 .add false (.bq false .len [(.aS (.F 24) 34)]) (ai 1)))])],bu 117 (.bq false .len [(aU 116)])]⟩ (b9 (iV 152)) .nil) (b9 ⟨[6],[],[.expr (.aC (.F 6) 20623 [(.ay [(.aC (aU 33) 20599 [(ai 0),(ai 0)])]),(.d8 (.int (-1)))]),aQ 7 (ai 0),.il (.aw .lt (.F 7) (.bq false .len [(aU 59)])) [.expr (.aC (.F 6) 20624 [(.sub (aU 59) (.F 7))]),aQ 7 (.a7 .add false (.F 7) (ai 1))],.ret (some (.new 21 [(aU 33),(aU 59)]))]⟩)))) (bA ⟨[6,24],[],[.ret (some (.sub (aU 19) (.F 24)))]⟩ (bA ⟨[6,25,26,30,31,32],[],[bu 25 (.F 25),bu 26 (.F 26),bu 30 (.F 30),bu 31 (.F 31),bu 32 (.F 32)]⟩ (.node none (bA zc (b9 Dm) .nil) (b9 ⟨[36],[],[aQ 12 (.bq true .list [(.F 36)]),.b5 [126] (.range none (.bq false .len [(.F 12)])) [.b5 [127] (.range none (.bq false .len [(.F 12)])) [.ite (.aw .eq (.a7 .kp false (.a7 .ui false (.sub (.F 12) (.F 127)) (.F 126)) (ai 1)) (ai 1)) [.bY (.sub (.F 12) (.F 127)) (.a7 .nU false (.sub (.F 12) (.F 127)) (.sub (.F 12) (.F 126)))] []]],.ret (some (.F 12))]⟩)) (.node none (bA Dw (b9 (fI 148)) .nil) (.node none .nil .nil))) (bA y8 (.node none (bA ⟨[6,86,77],[],[bu 86 (.F 86),bu 77 (.F 77)]⟩ (b9 (fI 140)) .nil) (b9 ⟨[33,119],[],[.ret (some (.aC (.F 33) 4215 [(.aC (.F 33) 4231 [(.F 119)]),(.a7 .add false (.aC (.F 33) 4232 [(.F 119)]) (ai 1))]))]⟩)) (bA ⟨[6,76,77,78,47],[],[bu 76 (.F 76),bu 77 (.F 77),bu 78 (.F 78),bu 47 (.F 47)]⟩ (bA ⟨[6,23],[],[.ret (some (.ite (.aw .kJ (.F 23) (aU 15)) (.aC (aU 15) 4 [(.F 23)]) (.c6 .neg (ai 1))))]⟩ (b9 (iV 156)) .nil) (b9 Dl))))) (.node none (bA ⟨[6,24],[],[.ret (some (.sub (aU 17) (.F 24)))]⟩ (bA vp (bA sR (bA ⟨[6],[],[.ret (some (.new 14 [(.aw .eq (aU 86) (.lit (.str (j [97,99,99,101,112,116,101,100])))),(aU 77),(.bq false .list [(aU 78)]),(.bq false .list [(aU 47)])]))]⟩ (b9 vo) .nil) (bA ⟨[33,120],[],[aQ 12 (.bq true .list [(.F 120)]),aQ 121 (.ae true []),aQ 122 (.comp true (.ae true []) [46] (.e (.F 12)) none),aQ 123 (.ae true []),.b5 [24] (.e (.aS (.F 33) 31)) [aQ 124 (ai 0),.b5 [46] (.e (.aS (.F 24) 34)) [.ite (.c6 .not (.sub (.F 12) (.F 46))) [aQ 124 (.a7 .add false (.F 124) (ai 1)),.expr (.aC (.sub (.F 122) (.F 46)) 0 [(.aS (.F 24) 22)])] []],.expr (.aC (.F 121) 0 [(.F 124)])],.b5 [24] (.e (.aS (.F 33) 31)) [.ite (.bool true [(.aw .eq (.sub (.F 121) (.aS (.F 24) 22)) (ai 0)),(.c6 .not (.sub (.F 12) (.aS (.F 24) 14)))]) [.bY (.sub (.F 12) (.aS (.F 24) 14)) (.lit (.bool true)),.expr (.aC (.F 123) 0 [(.aS (.F 24) 14)])] []],aQ 7 (ai 0),.il (.aw .lt (.F 7) (.bq false .len [(.F 123)])) [.b5 [22] (.e (.sub (.F 122) (.sub (.F 123) (.F 7)))) [.bY (.sub (.F 121) (.F 22)) (.a7 .sub false (.sub (.F 121) (.F 22)) (ai 1)),aQ 14 (.aS (.sub (.aS (.F 33) 31) (.F 22)) 14),.ite (.bool true [(.aw .eq (.sub (.F 121) (.F 22)) (ai 0)),(.c6 .not (.sub (.F 12) (.F 14)))]) [.bY (.sub (.F 12) (.F 14)) (.lit (.bool true)),.expr (.aC (.F 123) 0 [(.F 14)])] []],aQ 7 (.a7 .add false (.F 7) (ai 1))],.ret (some (.F 12))]⟩ (b9 (iV 162)) .nil)) (bA ⟨[6,67],[],[.ret (some (.new 10 [(.F 67)]))]⟩ (bA ⟨[6,24,77],[],[aQ 104 (.aC (aU 74) 4206 [(.sub (aU 59) (.c6 .neg (ai 1))),(.aC (aU 74) 4110 [(.F 24)])]),.ite (.aw .lt (.F 104) (ai 0)) [.hc] [],.expr (.aC (aU 59) 4096 [(.F 104)]),.expr (.aC (aU 72) 4096 [(.F 77)])]⟩ (b9 (fI 146)) .nil) (.node none .nil .nil))) (bA vr (.node none (bA ⟨[6,95],[],[.ite (.aw .mP (.bq false .len [(aU 47)]) (aU 81)) [.hc] [],.expr (.aC (aU 47) 0 [(.F 95)])]⟩ (b9 (fI 138)) .nil) (b9 ⟨[6,128],[],[aQ 12 (.ae true []),.b5 [46] (.e (.call .pure 6 [(.aC (.F 6) 8324 [(.F 128)])])) [.b5 [22] (.e (.aC (aU 33) 8325 [(.F 46)])) [aQ 119 (.aC (aU 33) 8311 [(.F 22),(ai 0)]),.ite (.aw .j0 (.F 119) (.F 128)) [.expr (.aC (.F 12) 8192 [(.F 119)])] []]],.ret (some (.bq false .sorted [(.F 12)]))]⟩)) (bA ⟨[6],[],[.ret (some (.ay [(.aS (aU 67) 9),(aU 25),(.bq false .list [(aU 75)])]))]⟩ (bA ⟨[6,46],[],[.ret (some (.aw .lt (.F 46) (aU 16)))]⟩ (b9 (iV 154)) .nil) (b9 Dj)))) (bA sP (bA pE (bA ⟨[6],[],[.ret (some (.lit (.bool false)))]⟩ (bA ⟨[6],[],[.ret (some (.bool true [(.aw .is (aU 84) (.lit .none)),(.aw .eq (.aC (.F 6) 12381 [(.sub (aU 59) (.c6 .neg (ai 1)))]) (ai 0))]))]⟩ (b9 (iV 150)) .nil) (b9 ⟨[6,46],[],[.ret (some (.aC (aU 47) 3 [(.F 46),(.d8 (.int (-1)))]))]⟩)) (bA ⟨[6,67],[],[.ret (some (.aS (.F 67) 11))]⟩ (bA ⟨[74,79],[],[.ret (some (.aS (.aC (.new 16 [(.F 74),(.new 11 [(.call .inl 52 [(.F 74)])])]) 32880 [(.F 79)]) 77))]⟩ (.node none .nil .nil) .nil) (b9 ⟨[6,128,46],[],[.ite (.aw .j0 (.F 128) (aU 21)) [.bY (.sub (aU 21) (.F 128)) (.bq false .len [(aU 59)]),.expr (.aC (aU 59) 8192 [(.new 19 [(.bq false .len [(aU 59)]),(.F 128),(.F 46)])])] [],.ret (some (.sub (aU 21) (.F 128)))]⟩))) (bA y' (bA vt (bA ⟨[6,26],[],[.ret (some (.lit (.bool true)))]⟩ (b9 (fI 142)) .nil) (b9 ⟨[33,129],[],[aQ 12 (.ae true []),.b5 [119] (.e (.F 129)) [.ite (.bool true [(.aw .lt (.aC (.F 33) 4227 [(.F 119)]) (ai 0)),(.aw .cC (.aC (.F 33) 4231 [(.F 119)]) (ai 0))]) [.expr (.aC (.F 12) 4096 [(.aC (.F 33) 4231 [(.F 119)])])] []],.ret (some (.bq false .sorted [(.F 12)]))]⟩)) (bA ⟨[6,79],[],[bu 79 (.F 79),bu 7 (ai 0)]⟩ (bA ⟨[6,24,118],[],[.ret (some (.a7 .add false (.sub (aU 115) (.F 24)) (.F 118)))]⟩ (b9 (iV 158)) .nil) (b9 y5)))))) (bA lJ (bA Dt (bA ⟨[6,23],[],[.ret (some (.aC (aU 21) 3 [(.F 23),(.d8 (.int 2))]))]⟩ (bA Dn (bA ⟨[54,24],[],[.ret (some (.comp false (.ite (.aw .eq (.F 22) (.c6 .neg (.F 24))) (ai 0) (.F 22)) [22] (.e (.F 54)) none))]⟩ (bA ⟨[6],[],[bu 59 (.ae true [(ai 0)]),bu 72 (.ae true []),bu 84 (.lit .none),bu 85 (ai 0),bu 86 (.lit (.str (j [109,111,114,101]))),bu 77 (.lit .none),bu 78 (.ae true []),bu 47 (.ae true [])]⟩ (b9 sO) .nil) (bA ⟨[6,119],[],[aQ 34 (.aS (.sub (aU 31) (.sub (aU 116) (.F 119))) 34),aQ 118 (.a7 .sub false (.F 119) (.sub (aU 115) (.sub (aU 116) (.F 119)))),.ret (some (.ite (.aw .lt (.F 118) (.bq false .len [(.F 34)])) (.sub (.F 34) (.F 118)) (.c6 .neg (ai 1))))]⟩ (b9 (iV 161)) .nil)) (bA ⟨[6,15],[],[bu 15 (.F 15)]⟩ (bA ⟨[6,24,72],[],[.ret (some (.aC (aU 80) 12384 [(.F 24),(.F 72),(.lit .none)]))]⟩ (b9 (fI 145)) .nil) (b9 ⟨[6,25,139],[],[aQ 138 (.F 25),.b5 [46] (.e (.F 139)) [.ite (.aw .eq (.F 138) (.d8 (.int (-1)))) [.ret (some (.d8 (.int (-1))))] [],aQ 138 (.aC (.F 6) 8302 [(.F 138),(.F 46)])],.ret (some (.F 138))]⟩))) (bA ⟨[6,25,27],[],[.ret (some (.aC (.sub (aU 37) (.F 25)) 3 [(.F 27),(.c6 .neg (ai 1))]))]⟩ (.node none (bA ⟨[6,67],[],[aQ 22 (.aC (aU 74) 4122 [(.aS (.F 67) 9)]),.ret (some (.ite (.aw .eq (.F 22) (.d8 (.int 1))) (.d8 (.int 2)) (.F 22)))]⟩ (b9 rd) .nil) (b9 ⟨[6,128],[],[aQ 13 (ai 0),.b5 [119] (.e (.F 128)) [aQ 46 (.aC (aU 33) 4227 [(.F 119)]),.ite (.aw .mP (.F 46) (ai 0)) [aQ 13 (.a7 .nU false (.a7 .nU false (.F 13) (.a7 .jx false (ai 1) (.F 46))) (.sub (aU 130) (.F 46)))] []],.ret (some (.F 13))]⟩)) (bA Du (bA ⟨[6],[],[.ret (some (.bq false .len [(aU 15)]))]⟩ (b9 (iV 153)) .nil) (b9 Di)))) (.node none (bA ⟨[6],[],[.ret (some (.ay [(aU 25),(aU 26),(aU 30),(aU 31),(aU 32)]))]⟩ (bA ⟨[6,23,24,63],[],[bu 23 (.F 23),bu 24 (.F 24),bu 63 (.bq false .list [(.F 63)])]⟩ (.node none (b9 (fI 137)) .nil) (b9 ⟨[6,22,128,46],[],[bu 22 (.F 22),bu 128 (.F 128),bu 46 (.F 46),bu 129 (.ae false []),bu 47 (.ah .I [] []),bu 49 (.ae false [])]⟩)) (bA ⟨[74],[],[.ret (some (.comp false (.sub (.aS (.F 74) 15) (.F 14)) [14] (.e (.aS (.F 74) 17)) none))]⟩ (bA ⟨[6,26],[],[.expr (.aC (.F 6) 16495 []),.expr (.aC (.F 6) 16484 [(.lit (.str (j [97,98,111,114,116,101,100]))),(.lit .none)])]⟩ (b9 (fI 149)) .nil) (b9 ⟨[6,33],[],[bu 33 (.F 33),bu 140 (.new 20 [(.F 33)]),bu 59 (.ae true []),bu 21 (.ah .T [] [])]⟩))) (bA y9 (bA ⟨[6,67],[],[bu 23 (.aS (.F 67) 9),bu 24 (ai 0),bu 63 (.ae false []),bu 67 (.F 67)]⟩ (bA pF (b9 (fI 141)) .nil) (b9 ⟨[33,129],[],[aQ 12 (.ah .I [] []),.b5 [119] (.e (.F 129)) [aQ 46 (.aC (.F 33) 8323 [(.F 119)]),.ite (.aw .mP (.F 46) (ai 0)) [.ite (.aw .j0 (.F 46) (.F 12)) [.bY (.sub (.F 12) (.F 46)) (.ae true [])] [],.expr (.aC (.sub (.F 12) (.F 46)) 8192 [(.call .inl 107 [(.F 33),(.F 119)])])] []],aQ 137 (.ah .I [] []),.b5 [46] (.e (.bq false .sorted [(.F 12)])) [.bY (.sub (.F 137) (.F 46)) (.bq false .tuple [(.bq false .sorted [(.sub (.F 12) (.F 46))])])],.ret (some (.F 137))]⟩)) (.node none (bA ⟨[6,46],[],[.ret (some (.bq false .list [(.sub (aU 114) (.F 46))]))]⟩ (b9 (iV 157)) .nil) (b9 ⟨[159],[],[.ret (some (.ae true [(.comp true (.a7 .add false (.a7 .mul false (ai 2) (.bq false .abs [(.bq false .int [(.F 158)])])) (.bq false .int [(.aw .lt (.F 158) (ai 0))])) [158] (.e (.gk false (.F 159) none (some (ai 63)))) none),(ai 0),(ai 0)]))]⟩))))) (bA vu (bA ⟨[6,24],[],[.ret (some (.sub (aU 18) (.F 24)))]⟩ (bA Dp (bA Dr (bA ⟨[6,79],[],[.ret (some (.aC (.F 6) 28759 [(.new 15 [(.F 79)])]))]⟩ (b9 rb) .nil) (bA ⟨[33],[],[.ret (some (.call .inl 97 [(.F 33),(.a7 .mul false (.ae false [(.lit (.bool false))]) (.aC (.F 33) 4221 []))]))]⟩ (.node none .nil .nil) .nil)) (bA ⟨[6,24,72,73],[],[aQ 23 (.sub (aU 15) (.F 24)),.ite (.aC (.F 23) 8197 [(.lit (.str (j [36,64])))]) [.ret (some (.new 9 [(.F 23),(.F 24),(.ae false [])]))] [],.ret (some (.new 9 [(.F 23),(.F 24),(.F 72)]))]⟩ (bA ⟨[6],[],[.ret (some (.aC (aU 74) 8267 [(.sub (aU 59) (.c6 .neg (ai 1)))]))]⟩ (b9 (fI 147)) .nil) (.node none .nil .nil))) (bA vs (.node none (.node none (b9 (fI 139)) .nil) (b9 ⟨[6,128],[],[.ret (some (.a7 .add false (.bq false .sorted [(.F 128)]) (.aC (.F 6) 12422 [(.F 128)])))]⟩)) (.node none (.node none (b9 (iV 155)) .nil) (b9 Dk)))) (bA y6 (.node none (.node none (bA ⟨[6,67],[],[bu 84 (.F 67),bu 85 (.a7 .add false (aU 85) (ai 1))]⟩ (b9 pD) .nil) (b9 ⟨[6],[],[.ite (.aw .eq (aU 49) (.ae false [])) [.ret (some (.lit (.bool true)))] [],.ret (some (.bool true [(.aw .eq (.bq false .len [(aU 49)]) (ai 1)),(.aw .eq (aU 47) (.ah .S [] []))]))]⟩)) (bA ⟨[6,24,72,73],[],[.ret (some (.ite (.aw .gt (.bq false .len [(.F 72)]) (ai 0)) (.sub (.F 72) (ai 0)) (.lit .none)))]⟩ (bA ⟨[6,22,14,34,42,98,70,35],[.none,(.int 0),(.int 0)],[bu 22 (.F 22),bu 14 (.F 14),bu 34 (.F 34),bu 42 (.F 42),bu 98 (.F 98),bu 70 (.F 70),bu 35 (.F 35)]⟩ (b9 (iV 151)) .nil) (b9 ⟨[6,25],[],[.bY (.aS (.F 25) 129) (.aC (aU 140) 16525 [(.aS (.F 25) 128)]),.bY (.aS (.F 25) 49) (.call .inl 109 [(aU 33),(.aS (.F 25) 129)]),aQ 142 (.call .inl 108 [(aU 33),(.aS (.F 25) 129)]),.b5 [46] (.e (.F 142)) [.bY (.sub (.aS (.F 25) 47) (.F 46)) (.aC (.F 6) 16527 [(.sub (.F 142) (.F 46)),(.F 46)])]]⟩))) (bA Dq (.node none (bA ⟨[6,104],[],[.expr (.aC (.F 6) 12387 [(.ay [(.lit (.str Zk)),(.F 104)])]),.expr (.aC (aU 59) 12288 [(.F 104)]),.expr (.aC (aU 72) 12288 [(.aC (aU 80) 12389 [(aU 84)])]),bu 84 (.lit .none)]⟩ (b9 (fI 143)) .nil) (b9 ⟨[6,33,59],[],[bu 33 (.F 33),bu 59 (.F 59)]⟩)) (bA ⟨[6],[],[.ite (.aw .mP (aU 7) (.bq false .len [(aU 79)])) [.ret (some (.new 4 [(.lit (.str (j [36,101,110,100]))),(.lit (.str (j []))),(.lit .none)]))] [],aQ 67 (.sub (aU 79) (aU 7)),.ite (.aw .cC (.aS (.F 67) 9) (.lit (.str (j [36,101,110,100])))) [bu 7 (.a7 .add false (aU 7) (ai 1))] [],.ret (some (.F 67))]⟩ (bA ⟨[6,119],[],[.ret (some (.sub (aU 116) (.F 119)))]⟩ (b9 (iV 159)) .nil) (b9 ⟨[160,162],[],[.ret (some (.sub (.F 162) (.call .inl 125 [(.F 160),(.bq false .len [(.F 162)])])))]⟩)))))))
def Sh:YZ:=Zx [0,0,2,1,1,0,1,1,1,1,1,1,0,1,1,1,2,2,2,1,1,2,0,1,1,1,1,4,3,2,3,1,1,5,1,2,1,1,0,2,0,0,0,0,1,1,0,1,1,3,3,0,1,1,1,0,1,1,0,1,0,1,3,2,1,3,8,7,0,4,1,3,2,1,0,1,6,1,4,5,4,2,3,4,5,9,1,1,1,1,0,1,1,1,1,1,1,1,2,1,1,1,1,2,2,3,4,2,3,2,1,2,3,0,0,0,4,3,5,6,7,3,1,4,1,1,2,3,3,1,4,1,14,13,3,14,15,13,12,11,10,9,8,7,6,5,4,3,2,0,12,11,10,9,8,7,6,5,4,3,2,1,0]
def vv(i:Nat):Nat:=match a3 Sh i with|some r=>r|none=>0
def Mv:YW:=Zx [(137,132),(138,132),(139,132),(140,132),(141,132),(142,132),(143,132),(144,132),(145,132),(146,132),(147,132),(148,132),(149,132),(150,133),(151,133),(152,133),(153,133),(154,133),(155,133),(156,133),(157,133),(158,133),(159,133),(160,133),(161,133),(162,133)]
def n0:bo i9:=(.node none (.node none (.node none (bA Cn (b9 ⟨(some 61),false,[(90,62)]⟩) .nil) (bA ⟨(some 48),true,[(101,49),(96,50)]⟩ (b9 ⟨(some 100),false,[(110,101),(94,102)]⟩) .nil)) (bA u0 (bA ⟨(some 36),true,[(66,37),(8,39)]⟩ (b9 ⟨(some 86),true,[]⟩) .nil) (bA ⟨(some 56),true,[(8,57)]⟩ (b9 ⟨(some 110),true,[(110,111),(177,112)]⟩) .nil))) (.node none (bA yH (bA ⟨(some 26),false,[(61,27),(53,28),(54,29),(38,30)]⟩ (b9 Cm) .nil) (bA ⟨none,true,[(101,53),(96,54)]⟩ (b9 ⟨(some 103),false,[(132,104),(134,105),(141,106)]⟩) .nil)) (bA qS (bA ⟨(some 44),true,[(66,45),(8,39)]⟩ (b9 ⟨(some 87),false,[(125,88),(149,89),(22,91),(133,92),(119,93),(135,94),(136,95),(131,96)]⟩) .nil) (bA ⟨(some 59),true,[]⟩ (b9 ⟨(some 116),false,[(143,117),(144,118),(145,119)]⟩) .nil))))
def gv:kl:=Zx ⟨0,1,2,3,4,5⟩
def tx(O:YU):Y0:=
 O.rec (some 0) λc _ S=>Y (Y (bM Z.bj c 30) uQ) λs=>Y S λk=>some (match VP s Zh with|true=>k+1|false=>k)
noncomputable def Of:Ze Bool->Bool
 |some b=>b
 |none=>false
def wg(t:V):Ze V:=Y (bM Z.bj t 33) λg=>Y (Y (bM Z.bj t 38) yt) λX=>Y (Y (bM Z.bj g 113) lz) λn=>Y (tx X) λk=>bS (Nat.beq k (VN X)) (bS (Nat.blt k 64) (bS (Nat.blt n 64) (match Nat.beq k n with
 |true=>Y (bM Z.bj t 36) λr=>bS (Of (dx .eq r r Z.bj)) (some (.bool true))
 |false=>some (.bool false))))
def t2(f:Nat)(D:YU):Ze V:=match Nat.beq f 135 with
 |true=>Y (d9 D) wg
 |false=>none
def dD:qG:=⟨rg.get,n0.get,vv,t2⟩
end Mine.Internal
end
namespace Mine.Internal
noncomputable def bo.dz{α:Type}:bo α->Ze α×bo α×bo α
 |.nil=>(none,.nil,.nil)
 |.node u j o=>(u,j,o)
def bo.vJ(o:bo α)(j:Nat):o.get j=match Nat.beq j 0 with
  |true=>o.dz.1
  |false=>match Nat.beq (j % 2) 1 with
   |true=>o.dz.2.1.get (j/2)
   |false=>o.dz.2.2.get (j/2-1):=by
 induction o with
 |node=>rfl
 |nil=>
  generalize Nat.beq j 0=u;induction u with
  |true=>rfl
  |false=>cases Nat.beq (j % 2) 1<;>rfl
def bo.t8(u:Ze α)(C:Nat)(j:bo α)(o:Nat):bo.a5 (C+1) j o u=match Nat.beq o 0 with
  |true=>.node u j.dz.2.1 j.dz.2.2
  |false=>match Nat.beq (o % 2) 1 with
   |true=>.node j.dz.1 (bo.a5 C j.dz.2.1 (o/2) u) j.dz.2.2
   |false=>.node j.dz.1 j.dz.2.1 (bo.a5 C j.dz.2.2 (o/2-1) u):=by
 induction j<;>rfl
def iR(h:Nat.beq a b=false):a≠b:=λe=>by rw[e,WA] at h;nomatch h
def sI(h:i % 2≠1):i % 2=0:=(Nat.mod_two_eq_zero_or_one i).resolve_right h
def vM(h:i<f+1)(n:i≠0):i/2<f:=Wg (Nat.div_lt_self (YE n) (Wr 2)) (WV h)
def bo.mQ(cK:Ze α)(V:Nat):∀(f':bo α)(c' a':Nat),c'<V->(bo.a5 V f' c' cK).get a'=if c'=a' then cK else f'.get a':=by
 induction V with
 |zero=>exactλ_ _ _ W=>absurd W (Xv _)
 |succ V Z=>
  intro f' c' a' W;rw[bo.t8,bo.vJ f' a'];generalize u:Nat.beq c' 0=o;induction o with
  |true=>
   have u:=We u;rw[bo.vJ];generalize M:Nat.beq a' 0=o;induction o with
   |true=>exact(if_pos (u.trans (We M).symm)).symm
   |false=>exact(if_neg λj=>iR M (j.symm.trans u)).symm
  |false=>
   have u:=iR u;generalize C:Nat.beq (c' % 2) 1=o;induction o with
   |true=>
    have C:=We C;rw[bo.vJ];generalize M:Nat.beq a' 0=o;induction o with
    |true=>exact(if_neg λj=>u (j.trans (We M))).symm
    |false=>generalize J:Nat.beq (a' % 2) 1=o;induction o with
     |false=>exact(if_neg (λj:c'=a'=>iR J (by rw[<-j];exact C))).symm
     |true=>
      refine(Z f'.dz.2.1 (c'/2) (a'/2) (vM W u)).trans ?_
      by_cases j:c'=a'
      .rw[j,if_pos rfl,if_pos rfl]
      .rw[if_neg j,if_neg λY=>j (by rw[<-W9 c' 2,<-W9 a' 2,Y,C,We J])]
   |false=>
    have C:=sI (iR C);rw[bo.vJ];generalize M:Nat.beq a' 0=o;induction o with
    |true=>exact(if_neg λj=>u (j.trans (We M))).symm
    |false=>generalize J:Nat.beq (a' % 2) 1=o;induction o with
     |true=>exact(if_neg (λj:c'=a'=>by rw[j,We J] at C;nomatch C)).symm
     |false=>
      have J:=sI (iR J);have pos:∀{U:Nat},U≠0->U % 2=0->0<U/2:=λ{U} e2 e1=>YE λfi=>e2 (by rw[<-W9 U 2,fi,e1])
      refine(Z f'.dz.2.2 (c'/2-1) (a'/2-1) (Wf (W' _ _) (vM W u))).trans ?_
      by_cases j:c'=a'
      .rw[j,if_pos rfl,if_pos rfl]
      .rw[if_neg j,if_neg λY=>j (by rw[<-W9 c' 2,<-W9 a' 2,Nat.sub_one_cancel (pos u C) (pos (iR M) J) Y,C,J])]
def Z.mR(u:Z)(C j:Nat)(o:O):(u.set C o).get j=if C=j then some o else u.get j:=bo.mQ _ _ _ _ _ (Wu _)
def Z.DZ(o:Z)(u j:Nat):(o.hk u).get j=if u=j then none else o.get j:=bo.mQ _ _ _ _ _ (Wu _)
def Z.ta(j:Z)(u:Nat)(o:O):(j.new o).get u=if j.n=u then some o else j.get u:=bo.mQ _ _ _ _ _ (Wu _)
def bb{C:Prop}(h:false=true):C:=nomatch h
def tL{C:Prop}(h:true=false):C:=nomatch h
def cB{C:Prop}(h:none=some x):C:=nomatch h
def Qo{C:Prop}(h:some x=none):C:=nomatch h
def es{C:Prop}(h:x∈[]):C:=nomatch h
end Mine.Internal
noncomputable section
open PySem PySem.W PySem.Calls PyProof.Rows
namespace Mine.Internal
structure hC where
 p:Program
 FE:List Y'
 ry:ExcName->Ze Y3
 FR:Y'->Ze Y3
 FN:Y'->Ze Y3
structure cn where
 prog:Program
 w:Y7
 K:Frag
 az:Nat->Y'
 cP:Nat->Y4
 di:Nat->Y4
 jU:Y'->Ze Y3
 iZ:Nat
 l3:Nat
 P:qG
 N:kl
 T:hC
structure jF where
 a0:Y4->Prop
 aO:Nat->Ze Y4
 aX:Nat->Y4
structure aL where
 G:jF
 s:Za
abbrev aL.h(j:aL):Y5:=j.s.heap
def jF.bI(j:jF)(u:Y4->Prop):jF:=Zx ({j with a0:=λo=>j.a0 o\/u o})
def jF.a5(o:jF)(u:Nat)(J C:Y4):jF:=Zx ({o with aO:=λj=>if j=u then some J else o.aO j,aX:=λj=>if j=u then C else o.aX j})
noncomputable def bc:O->Nat
 |.ae _ l=>l
 |.ah _ _ l=>l
 |.ins _ _=>0
def cT(V:Z)(p:Nat):Prop:=∃o,V.get p=some o
def qF(V:Z)(p:Nat):Prop:=∃o,V.get p=some o/\bc o=0
def qF.e8(u:qF a' c'):cT a' c':=u.elim λo j=>⟨o,j.1⟩
def ns{α:Type}{x:α}{C:Prop}(e:none=some x):C:=cB e
def cj{h:Y5}{a:Y4}{o:Obj}{C:Prop}(e:h.get? a=some o)(f:h.get? a=none):C:=ns (f.symm.trans e)
def ew(X:cn)(w:aL):eS->Y4->List (aE×Y3)->Prop
 |.I,a,G=>∃O:List (Int×Y3),w.h.DictOf (intKind X.prog X.w) a O/\G=O.map λp=>(aE.i p.1,p.2)
 |.S,a,G=>∃O:List (Y'×Y3),w.h.DictOf (strKind X.prog X.w) a O/\G=O.map λp=>(aE.s p.1,p.2)
 |.T,a,G=>∃O:List (Y1×Y4×Y3),w.h.DictOfH (tupleKind (intKind X.prog X.w)) a O/\G=O.map (λx=>(aE.t x.1,x.2.2))/\∀x∈O,w.G.a0 x.2.1
def ip(h:Y5)(d:Y4)(G:List DictEntry):Prop:=∃n,h.get? d=some (dictOf G n)
mutual
inductive o(X:cn)(w:aL):V->Y3->Prop
 |none:o X w .none .none
 |bool {b:Bool}:o X w (.bool b) (.bool b)
 |int {i:Int} {t:Tok}:o X w (.int i) (.int i t)
 |str {s:Y'} {t:Tok}:o X w (.str s) (.str s t)
 |ay {f:YU} {e:YY} {a:Y4}:w.G.a0 a->w.h.IsTuple a e.toArray->e.length<=b0->aK X w f e->o X w (.ay f) (.ref a)
 |ae {f:YU} {e:YY} {a:Y4}:w.G.a0 a->w.h.PlainList a e.toArray->e.length<=b0->aK X w f e->o X w (.ae f) (.ref a)
 |ah {g:eS} {T:YT} {G:List (aE×Y3)} {a:Y4}:w.G.a0 a->(a==sysModules)=false->ew X w g a G->G.length<=b0->b2 X w T G->o X w (.ah g T) (.ref a)
 |ins {c:Nat} {r:Bool} {P:YS} {G:List DictEntry} {a d:Y4}:c<X.iZ->w.G.a0 a->w.G.a0 d->w.h.get? a=some (instObj (X.cP c) d)->ip w.h d G->dA X w P G->o X w (.ins c r P) (.ref a)
 |ref {p:Nat} {a:Y4}:w.G.aO p=some a->o X w (.ref p) (.ref a)
 |hu {f:YU} {e:YY} {a:Y4}:w.G.a0 a->w.h.IsList a e.toArray->e.length<=b0->aK X w f e->o X w (.hu f) (.ref a)
inductive aK(X:cn)(w:aL):YU->YY->Prop
 |nil:aK X w [] []
 |cons {x:V} {a:Y3} {c:YU} {b:YY}:o X w x a->aK X w c b->aK X w (x::c) (a::b)
inductive b2(X:cn)(w:aL):YT->List (aE×Y3)->Prop
 |nil:b2 X w [] []
 |cons {a:aE} {x:V} {b:Y3} {d:YT} {c:List (aE×Y3)}:o X w x b->b2 X w d c->b2 X w ((a,x)::d) ((a,b)::c)
inductive dA(X:cn)(w:aL):YS->List DictEntry->Prop
 |nil:dA X w [] []
 |cons {a:Nat} {i:Int} {t:Tok} {x:V} {b:Y3} {d:YS} {c:List DictEntry}:o X w x b->dA X w d c->dA X w ((a,x)::d) (⟨i,.str (X.az a) t,b⟩::c)
end
section
variable{X:cn}{w:aL}{v:Y3}{p:Y3->Prop}
def IS(X:cn)(w:aL)(p:Y3->Prop)(u:Y3):V->Prop
 |.none=>p .none->p u
 |.bool b=>p (.bool b)->p u
 |.int i=>(∀t,p (.int i t))->p u
 |.str s=>(∀t,p (.str s t))->p u
 |.ay O=>(∀a D,w.G.a0 a->w.h.IsTuple a D.toArray->D.length<=b0->aK X w O D->p (.ref a))->p u
 |.ae O=>(∀a D,w.G.a0 a->w.h.PlainList a D.toArray->D.length<=b0->aK X w O D->p (.ref a))->p u
 |.ah d T=>(∀a G,w.G.a0 a->(a==sysModules)=false->ew X w d a G->G.length<=b0->b2 X w T G->p (.ref a))->p u
 |.ins c _ P=>(∀a d G,c<X.iZ->w.G.a0 a->w.G.a0 d->w.h.get? a=some (instObj (X.cP c) d)->ip w.h d G->dA X w P G->p (.ref a))->p u
 |.ref q=>(∀a,w.G.aO q=some a->p (.ref a))->p u
 |.hu _=>True
def o.ag(W:o X w a' v):IS X w p v a':=
 o.casesOn W (λj=>j) (λj=>j) (λj=>j _) (λj=>j _) (λu C J M j=>j _ _ u C J M) (λu C J M j=>j _ _ u C J M) (λu C J M U j=>j _ _ u C J M U) (λu C J M U V j=>j _ _ _ u C J M U V) (λu j=>j _ u) (λ_ _ _ _=>trivial)
def o.l4(u:o X w .none v)(j:p .none):p v:=o.ag u j
def o.kq(u:o X w (.bool a') v)(j:p (.bool a')):p v:=o.ag u j
def o.dt(u:o X w (.int a') v)(j:∀c',p (.int a' c')):p v:=o.ag u j
def o.f7(u:o X w (.str a') v)(j:∀c',p (.str a' c')):p v:=o.ag u j
def o.gp(u:o X w (.ay c') v)(j:∀a' D,w.G.a0 a'->w.h.IsTuple a' D.toArray->D.length<=b0->aK X w c' D->p (.ref a')):p v:=o.ag u j
def o.ic(u:o X w (.ae c') v)(j:∀a' D,w.G.a0 a'->w.h.PlainList a' D.toArray->D.length<=b0->aK X w c' D->p (.ref a')):p v:=o.ag u j
def o.yV(u:o X w (.ah f' kvs) v)(j:∀a' c',w.G.a0 a'->(a'==sysModules)=false->ew X w f' a' c'->c'.length<=b0->b2 X w kvs c'->p (.ref a')):p v:=o.ag u j
def o.mV(u:o X w (.ins f' s' fs) v)(j:∀a' c' h',f'<X.iZ->w.G.a0 a'->w.G.a0 c'->w.h.get? a'=some (instObj (X.cP f') c')->ip w.h c' h'->dA X w fs h'->p (.ref a')):p v:=o.ag u j
def o.w3(u:o X w (.ref q) v)(j:∀a',w.G.aO q=some a'->p (.ref a')):p v:=o.ag u j
variable{D:YY}{q:YY->Prop}
def IT(X:cn)(w:aL)(q:YY->Prop)(D:YY):YU->Prop
 |[]=>q []->q D
 |x::O=>(∀v D,o X w x v->aK X w O D->q (v::D))->q D
def aK.ag(C:aK X w a' D):IT X w q D a':=aK.casesOn C (λj=>j) (λo u j=>j _ _ o u)
def aK.eg(o:aK X w [] D)(j:q []):q D:=aK.ag o j
def aK.dK(u:aK X w (a'::c') D)(j:∀v D,o X w a' v->aK X w c' D->q (v::D)):q D:=aK.ag u j
def IQ(X:cn)(w:aL)(q:List (aE×Y3)->Prop)(D:List (aE×Y3)):YT->Prop
 |[]=>q []->q D
 |x::O=>(∀v D,o X w x.2 v->b2 X w O D->q ((x.1,v)::D))->q D
def b2.ag{q:List (aE×Y3)->Prop}{D:List (aE×Y3)}(C:b2 X w a' D):IQ X w q D a':=b2.casesOn C (λj=>j) (λo u j=>j _ _ o u)
def b2.eg{q:List (aE×Y3)->Prop}{D:List (aE×Y3)}(o:b2 X w [] D)(j:q []):q D:=b2.ag o j
def b2.dK{q:List (aE×Y3)->Prop}{D:List (aE×Y3)}(u:b2 X w (a'::c') D)(j:∀v D,o X w a'.2 v->b2 X w c' D->q ((a'.1,v)::D)):q D:=b2.ag u j
def aK.hP(M:aK X w [a'] D)(C:∀v,o X w a' v->q [v]):q D:=M.dK λv _ j u=>aK.eg (q:=λJ=>q (v::J)) u (C v j)
end
def fR(X:cn)(w:aL)(p:Nat):O->Prop
 |.ae b _=>w.G.aO p=some (w.G.aX p)/\∃D:YY,w.h.PlainList (w.G.aX p) D.toArray/\D.length<=b0/\aK X w b D
 |.ah k T _=>w.G.aO p=some (w.G.aX p)/\(w.G.aX p==sysModules)=false/\∃G,ew X w k (w.G.aX p) G/\G.length<=b0/\b2 X w T G
 |.ins c P=>c<X.iZ/\∃a G,w.G.aO p=some a/\w.G.a0 a/\w.h.get? a=some (instObj (X.cP c) (w.G.aX p))/\ip w.h (w.G.aX p) G/\G.length<=900/\dA X w P G
structure bB(X:cn)(b:Z)(w:aL):Prop where
 slot:∀p H,b.get p=some H->fR X w p H
 inj:∀p q,cT b p->cT b q->w.G.aX p=w.G.aX q->p=q
 bI:∀a,w.G.a0 a->(∃H,w.h.get? a=some H)/\∀p,cT b p->w.G.aX p≠a
 gK:∀p a,w.G.aO p=some a->p<b.n
structure cG(c:Z)(w:aL)(d:Z)(B:aL)(g:Y4->Prop):Prop where
 a0:∀a,w.G.a0 a->B.G.a0 a
 aO:∀p a,w.G.aO p=some a->B.G.aO p=some a
 aX:∀p a,w.G.aO p=some a->B.G.aX p=w.G.aX p
 keep:∀b H,w.h.get? b=some H->¬g b->(∀p,qF c p->w.G.aX p≠b)->B.h.get? b=some H
 eo:∀b H,w.h.get? b=some H->∃r,B.h.get? b=some r
 new:∀p,cT d p->(cT c p/\B.G.aX p=w.G.aX p)\/w.h.get? (B.G.aX p)=none
 gT:∀p H r,c.get p=some H->d.get p=some r->bc r=bc H
 n:c.n<=d.n
 jT:∀a,B.G.a0 a->w.G.a0 a\/w.h.get? a=none\/∃p,cT c p/\w.G.aX p=a
section
variable{X:cn}{P O r N:Z}{w w' v h:aL}{g d:Y4->Prop}
def CW{K:Type} [DecidableEq K]{w:Y7}{r:KeyKind prog w K}{h:Y5}{a:Y4}{T:List (K×Y3)}(d:h.DictOf r a T):∃H,h.get? a=some H:=d.imp λ_ d=>d.elim λ_ d=>d.elim λ_ d=>d.1
def ew.has{o:eS}{u:List (aE×Y3)}(j:ew X w o a' u):∃c',w.h.get? a'=some c':=by
 induction o with|I=>exact j.elim λ_ j=>CW j.1|S=>exact j.elim λ_ j=>CW j.1|T=>exact j.elim λ_ j=>(have j:=j.1;j.imp λ_ j=>j.elim λ_ j=>j.elim λ_ j=>j.1)
def fR.has(j:fR X w c' f'):(∃a',w.G.aO c'=some a')/\∃h',w.h.get? (w.G.aX c')=some h':=by
 induction f' with|ae U o=>exact⟨⟨_,j.1⟩,j.2.elim λ_ j=>j.1.elim λ_ j=>⟨_,j⟩⟩|ah J M o=>exact⟨⟨_,j.1⟩,j.2.2.elim λ_ j=>j.1.has⟩|ins u C=>exact j.2.elim λa' j=>j.elim λ_ j=>⟨⟨a',j.1⟩,j.2.2.2.1.elim λ_ j=>⟨_,j⟩⟩
def bB.has(j:bB X P w)(C:cT P a'):(∃c',w.G.aO a'=some c')/\∃f',w.h.get? (w.G.aX a')=some f':=C.elim λo u=>(j.slot a' o u).has
def bB.lt(j:bB X P w)(C:cT P a'):a'<P.n:=(j.has C).1.elim λo u=>j.gK a' o u
def bB.eo(j:bB X P w)(o:cT P c'):∃a',w.h.get? (w.G.aX c')=some a':=(j.has o).2
def bB.kS(o:bB X P w){j:Y4}(u:w.h.get? j=none)(C:cT P a')(M:w.G.aX a'=j):False:=(o.eo C).elim λ_ J=>cj (M▸J) u
def cG.refl(P:Z)(w:aL)(g:Y4->Prop):cG P w P w g:=
 ⟨λ_ j=>j,λ_ _ j=>j,λ_ _ _=>rfl,λ_ _ u _ _=>u,λ_ o u=>⟨o,u⟩,λ_ M=>.inl ⟨M,rfl⟩,λ_ o U C J=>Wd bc (Wc (J.symm.trans C)),Wr _,λ_ j=>.inl j⟩
def cG.iX(u:cG P w O w' g){j:Y4}(C:w'.h.get? j=none):w.h.get? j=none:=by
 generalize M:w.h.get? j=U;induction U with|none=>rfl|some o=>exact(u.eo j o M).elim λ_ J=>cj J C
def cG.alive(C:bB X P w)(j:cG P w r v g)(J:cG r v N h d)(U:cT P a')(Z:cT N a'):cT r a':=
 (J.new a' Z).elim (·.1) λV=>(C.has U).1.elim λu M=>(C.has U).2.elim λo W=>(j.eo _ _ W).elim λo₁ Y=>cj (o:=o₁) (by exact(J.aX a' u (j.aO a' u M))▸(j.aX a' u M)▸Y) V
def cG.trans(c':bB X P w)(u:cG P w r v g)(b:cG r v N h g):cG P w N h g where
 a0 J e1:=b.a0 J (u.a0 J e1)
 aO j W C:=b.aO j W (u.aO j W C)
 aX j W C:=(b.aX j W (u.aO j W C)).trans (u.aX j W C)
 keep J o C cK hm:=b.keep J o (u.keep J o C cK hm) cK λj Y a'=>Y.elim λo₁ Y=>(u.new j ⟨o₁,Y.1⟩).elim
  (λV=>V.1.elim λo₀ e₀=>hm j ⟨o₀,e₀,(u.gT j _ _ e₀ Y.1).symm.trans Y.2⟩ (V.2.symm.trans a')) λM=>cj C (a'▸M)
 eo J o C:=(u.eo J o C).elim λo₁ Z=>b.eo J o₁ Z
 new j V:=(b.new j V).elim (λl₁=>(u.new j l₁.1).elim (λl₀=>.inl ⟨l₀.1,l₁.2.trans l₀.2⟩) λM=>.inr (by exact l₁.2▸M)) λM=>.inr (u.iX M)
 gT j o o₂ C e₂:=(cG.alive c' u b ⟨o,C⟩ ⟨o₂,e₂⟩).elim λ_ Z=>(b.gT j _ _ Z e₂).trans (u.gT j _ _ C Z)
 n:=Wh u.n b.n
 jT J M:=(b.jT J M).elim (u.jT J) λU=>.inr (U.elim (λU=>.inl (u.iX U)) λU=>U.elim λj U=>(u.new j U.1).elim (λV=>.inr ⟨j,V.1,V.2.symm.trans U.2⟩) λM=>.inl (by exact U.2▸M))
def cG.xN(j:cG P w O w' g)(M:∀a',g a'->d a'):cG P w O w' d:=
 {j with keep:=λa' o u J C=>j.keep a' o u (λU=>J (M a' U)) C}
def cG.mi(J:bB X P w)(M:cG P w r v g)(U:cG r v N h d)(j:∀a',d a'->g a'\/w.h.get? a'=none):cG P w N h g:=
 let u:=(M.xN (d:=λa'=>g a'\/w.h.get? a'=none) λ_ j=>.inl j).trans J (U.xN j)
 {u with keep:=λa' o C W V=>u.keep a' o C (λj=>j.elim W λj=>cj C j) V}
structure cM(w w':aL):Prop where
 a0:∀a,w.G.a0 a->w'.G.a0 a
 aO:∀p a,w.G.aO p=some a->w'.G.aO p=some a
 keep:∀a H,w.G.a0 a->w.h.get? a=some H->w'.h.get? a=some H
def cM.refl(w:aL):cM w w:=⟨λ_ j=>j,λ_ _ j=>j,λ_ _ _ j=>j⟩
def cM.trans(u:cM w v)(b:cM v h):cM w h:=⟨λj C=>b.a0 j (u.a0 j C),λM j J=>b.aO M j (u.aO M j J),λj o C J=>b.keep j o (u.a0 j C) (u.keep j o C J)⟩
def zR{h S:Y5}(x:h.IsTuple a items)(e:∀H,h.get? a=some H->S.get? a=some H):S.IsTuple a items:=let⟨H,s,r⟩:=x;⟨H,e _ s,r⟩
def q6{K:Type} [DecidableEq K]{m:Program}{w:Y7}{r:KeyKind m w K}{h S:Y5}{a:Y4}{T:List (K×Y3)}(x:h.DictOf r a T)(e:∀H,h.get? a=some H->S.get? a=some H):S.DictOf r a T:=
 x.imp λ_ x=>x.imp λ_ x=>x.imp λ_ x=>⟨e _ x.1,x.2⟩
def Lz{K:Type} [DecidableEq K]{w:Y7}{r:KeyKind prog w K}{h S:Y5}{a:Y4}{T:List (List K×Y4×Y3)}(x:h.DictOfH (tupleKind r) a T)(e:∀H,h.get? a=some H->S.get? a=some H)(k:∀y∈T,∀H,h.get? y.2.1=some H->S.get? y.2.1=some H):S.DictOfH (tupleKind r) a T:=
 x.imp λ_ x=>x.imp λ_ x=>x.imp λ_ x=>⟨e _ x.1,x.2.1,x.2.2.1,x.2.2.2.1,λy L=>(have x:=(x.2.2.2.2.1 y L);x.imp λ_ x=>x.imp λ_ x=>x.imp λ_ x=>⟨(k y L) _ x.1,x.2⟩),x.2.2.2.2.2⟩
def ew.ext{J:eS}{V:List (aE×Y3)}(M:ew X w J a' V)(E:cM w w')(u:∀c',w.h.get? a'=some c'->w'.h.get? a'=some c'):ew X w' J a' V:=by
 induction J with|I=>exact M.elim λo j=>⟨o,q6 j.1 u,j.2⟩|S=>exact M.elim λo j=>⟨o,q6 j.1 u,j.2⟩|T=>exact M.elim λo j=>⟨o,Lz j.1 u λU C c' W=>E.keep _ _ (j.2.2 U C) W,j.2.1,λU C=>E.a0 _ (j.2.2 U C)⟩
def ip.at(u:ip s' a' f')(j:∀c',s'.get? a'=some c'->h'.get? a'=some c'):ip h' a' f':=u.elim λo C=>⟨o,j _ C⟩
def o.ext(E:cM w w'){Z:V}(J:o X w Z a'):o X w' Z a':=
 J.rec
  .none .bool .int .str (λj U u _ J=>.ay (E.a0 _ j) (zR U λM C=>E.keep _ M j C) u J) (λj U u _ J=>.ae (E.a0 _ j) (U.at λM C=>E.keep _ M j C) u J)
  (λj c' U u _ J=>.ah (E.a0 _ j) c' (U.ext E λM C=>E.keep _ M j C) u J) (λlc j Y U cK _ J=>.ins lc (E.a0 _ j) (E.a0 _ Y) (E.keep _ _ j U) (cK.at λM C=>E.keep _ M Y C) J)
  (λC=>.ref (E.aO _ _ C)) (λj U u _ J=>.hu (E.a0 _ j) (U.at λM C=>E.keep _ M j C) u J) .nil (λ_ _ W u=>.cons W u) .nil (λ_ _ W u=>.cons W u) .nil (λ_ _ W u=>.cons W u)
def aK.map(j:∀c' a',o X w c' a'->o X w' c' a')(J:aK X w c' a'):aK X w' c' a':=
 J.rec (motive_1:=λ_ _ _=>True) (motive_3:=λ_ _ _=>True) (motive_4:=λ_ _ _=>True)
  ⟨⟩ ⟨⟩ ⟨⟩ ⟨⟩ (λ_ _ _ _ _=>⟨⟩) (λ_ _ _ _ _=>⟨⟩) (λ_ _ _ _ _ _=>⟨⟩) (λ_ _ _ _ _ _ _=>⟨⟩) (λ_=>⟨⟩) (λ_ _ _ _ _=>⟨⟩) .nil (λu _ _ C=>.cons (j _ _ u) C) ⟨⟩ (λ_ _ _ _=>⟨⟩) ⟨⟩ (λ_ _ _ _=>⟨⟩)
def b2.map(j:∀c' a',o X w c' a'->o X w' c' a')(J:b2 X w c' a'):b2 X w' c' a':=
 J.rec (motive_1:=λ_ _ _=>True) (motive_2:=λ_ _ _=>True) (motive_4:=λ_ _ _=>True)
  ⟨⟩ ⟨⟩ ⟨⟩ ⟨⟩ (λ_ _ _ _ _=>⟨⟩) (λ_ _ _ _ _=>⟨⟩) (λ_ _ _ _ _ _=>⟨⟩) (λ_ _ _ _ _ _ _=>⟨⟩) (λ_=>⟨⟩) (λ_ _ _ _ _=>⟨⟩) ⟨⟩ (λ_ _ _ _=>⟨⟩) .nil (λu _ _ C=>.cons (j _ _ u) C) ⟨⟩ (λ_ _ _ _=>⟨⟩)
def dA.map(j:∀c' a',o X w c' a'->o X w' c' a')(J:dA X w c' a'):dA X w' c' a':=
 J.rec (motive_1:=λ_ _ _=>True) (motive_2:=λ_ _ _=>True) (motive_3:=λ_ _ _=>True) (motive_4:=λc' a' _=>dA X w' c' a')
  ⟨⟩ ⟨⟩ ⟨⟩ ⟨⟩ (λ_ _ _ _ _=>⟨⟩) (λ_ _ _ _ _=>⟨⟩) (λ_ _ _ _ _ _=>⟨⟩) (λ_ _ _ _ _ _ _=>⟨⟩) (λ_=>⟨⟩) (λ_ _ _ _ _=>⟨⟩) ⟨⟩ (λ_ _ _ _=>⟨⟩) ⟨⟩ (λ_ _ _ _=>⟨⟩) .nil (λu _ _ C=>.cons (j _ _ u) C)
def aK.ext(E:cM w w')(j:aK X w c' a'):aK X w' c' a':=j.map λ_ _=>o.ext E
def b2.ext(E:cM w w')(j:b2 X w c' a'):b2 X w' c' a':=j.map λ_ _=>o.ext E
def dA.ext(E:cM w w')(j:dA X w c' a'):dA X w' c' a':=j.map λ_ _=>o.ext E
def cG.ext(C:bB X P w)(j:cG P w O w' g)(U:∀a',g a'->¬w.G.a0 a'):cM w w':=
 ⟨j.a0,j.aO,λa' o u J=>j.keep a' o J (λW=>U a' W u) λV M=>(C.bI a' u).2 V M.e8⟩
def fR.ext(j:fR X w c' a')(E:cM w w')(o:w'.G.aX c'=w.G.aX c')(C:∀a',w.h.get? (w.G.aX c')=some a'->w'.h.get? (w.G.aX c')=some a'):fR X w' c' a':=by
 induction a' with|ae xs M=>exact⟨o▸E.aO _ _ j.1,j.2.elim λU j=>⟨U,o▸j.1.at C,j.2.1,j.2.2.ext E⟩⟩|ah Y Z M=>exact⟨o▸E.aO _ _ j.1,o▸j.2.1,j.2.2.elim λu j=>⟨u,o▸j.1.ext E C,j.2.1,j.2.2.ext E⟩⟩|ins V W=>exact⟨j.1,j.2.elim λJ j=>j.elim λu j=>⟨J,u,E.aO _ _ j.1,E.a0 _ j.2.1,o▸E.keep _ _ j.2.1 j.2.2.1,o▸j.2.2.2.1.at C,j.2.2.2.2.1,j.2.2.2.2.2.ext E⟩⟩
end
def m6:¬cT (Z.mk .nil a) q:=λh=>h.elim λ_ e=>ns e
def c3(h S:Y5):Prop:=∀b o,h.get? b=some o->S.get? b=some o
def c3.refl(j:Y5):c3 j j:=λ_ _ o=>o
def c3.trans(C:c3 a' b)(J:c3 b c'):c3 a' c':=λj o u=>J j o (C j o u)
def c3.push(j:Y5)(o:Obj):c3 j (j.push o):=λ_ _ u=>Heap.get?_push_of_some _ u
structure gu(l:Y4)(h a:Y5):Prop where
 keep:∀b H,b≠l->h.get? b=some H->a.get? b=some H
 has:∃H,a.get? l=some H
def gu.Gj(o:c3 c' h')(C:∃a',c'.get? f'=some a'):gu f' c' h':=⟨λu a' _ j=>o u a' j,C.elim λa' j=>⟨a',o f' a' j⟩⟩
def gu.eo(j:gu s' f' h'):∀a' c',f'.get? a'=some c'->∃w',h'.get? a'=some w':=λa' c' o=>if q:a'=s' then q▸j.has else⟨c',j.keep a' c' q o⟩
def hl(h:Y5):h.get? h.objs.size=none:=by
 generalize e:h.get? h.objs.size=N;induction N with|none=>rfl|some o=>exact absurd (WO e) (Xu _)
structure cY(l:Y4)(a:Z)(w:aL):Prop where
 a0:¬w.G.a0 l
 aX:∀p,cT a p->w.G.aX p≠l
def aA{C:Prop}(e:Y x f=some b)(k:∀a,x=some a->f a=some b->C):C:=by
 induction x with|none=>exact ns e|some a=>exact k a rfl e
def bK{C:Prop}(e:Y x f=some r)(k:∀a b,x=some (a,b)->f (a,b)=some r->C):C:=aA e λp=>k p.1 p.2
def bR{C:Prop}(e:bS b x=some r)(k:b=true->x=some r->C):C:=by
 induction b with|true=>exact k rfl e|false=>exact ns e
def b6{p:α->Prop}(e:some a=some c)(k:p a):p c:=Wc e▸k
def bz{α β:Type}{a c:α}{b d:β}{p:α->β->Prop}(e:some (a,b)=some (c,d))(k:p a b):p c d:=b6 (p:=λq=>p q.1 q.2) e k
section
variable{X:cn}{T R:Z}{w B:aL}
def bB.D4(u:bB X T w)(own:cY h' T w)(C:gu h' w.h B.h)(W:B.G.aO=w.G.aO)(J:B.G.aX=w.G.aX)(Z:∀a',w.G.a0 a'->B.G.a0 a')(Y:∀f',B.G.a0 f'->w.G.a0 f'\/(w.h.get? f'=none/\∃c',B.h.get? f'=some c')):
  bB X T B/\cG T w T B (·=h'):=by
 have E:cM w B:=⟨Z,λ_ _ U=>by exact W▸U,λa' c' o j=>C.keep a' c' (λV=>own.a0 (V▸o)) j⟩
 refine⟨⟨λM c' j=>(u.slot M c' j).ext E (by rw[J]) λU ex=>C.keep _ U (own.aX M ⟨c',j⟩) ex,by exact J▸u.inj,λa' o=>?_,by exact W▸u.gK⟩,Z,E.aO,λ_ _ _=>by rw[J],λf' c' j V _=>C.keep f' c' V j,C.eo,λM h'=>.inl ⟨h',by rw[J]⟩,
  λM c' e1 j cK=>Wd bc (Wc (cK.symm.trans j)),Wr _,λa' o=>(Y a' o).imp id λo=>.inl o.1⟩
 exact J▸(Y a' o).elim (λo=>(u.bI a' o).imp (λj=>j.elim (C.eo a')) id) λo=>⟨o.2,λM h' j=>u.kS o.1 h' j⟩
def bB.bV(j:bB X T w)(own:cY c' T w)(C:gu c' w.h s'.heap)(u:∀a',F a'->w.h.get? a'=none/\∃f',s'.heap.get? a'=some f'):bB X T ⟨w.G.bI F,s'⟩/\cG T w T ⟨w.G.bI F,s'⟩ (·=c'):=
 j.D4 own C rfl rfl (λ_=>.inl) λa' o=>o.imp id (u a')
def bB.keep(j:bB X T w)(u:cY a' T w)(o:gu a' w.h s'.heap):bB X T ⟨w.G,s'⟩/\cG T w T ⟨w.G,s'⟩ (·=a'):=j.D4 u o rfl rfl (λ_=>id) λ_=>.inl
def lX(l:cT (T.new H) p):p=T.n\/cT T p:=l.elim λr e=>by
 rw[Z.ta] at e
 by_cases q:T.n=p
 .exact .inl q.symm
 .rw[if_neg q] at e;exact .inr ⟨r,e⟩
def qd{G:jF}(h:p≠b):(G.a5 b c a).aO p=G.aO p/\(G.a5 b c a).aX p=G.aX p:=⟨if_neg h,if_neg h⟩
def d'{G:jF}:(G.a5 b c a).aO b=some c/\(G.a5 b c a).aX b=a:=⟨if_pos rfl,if_pos rfl⟩
def bB.wA(j:bB X T w)(o:w.G.aO a'=some c'):a'≠T.n:=Wv (j.gK a' c' o)
def bB.Ap{o:O}(M:bB X T w)(own:cY c' T w)(Y:gu c' w.h s'.heap)(hF:∀a',h' a'->w.h.get? a'=none/\∃o,s'.heap.get? a'=some o)(cK:w.h.get? f'=none)(na:¬h' f')
  (S:cM w ⟨(w.G.bI h').a5 T.n w' f',s'⟩->fR X ⟨(w.G.bI h').a5 T.n w' f',s'⟩ T.n o):bB X (T.new o) ⟨(w.G.bI h').a5 T.n w' f',s'⟩/\cG T w (T.new o) ⟨(w.G.bI h').a5 T.n w' f',s'⟩ (·=c'):=by
 have ltl:∀j,cT T j->j≠T.n:=λj c'=>Wv (M.lt c');have E:cM w ⟨(w.G.bI h').a5 T.n w' f',s'⟩:=⟨λ_ V=>.inl V,λj a' V=>(qd (M.wA V)).1.trans V,λf' o C u=>Y.keep f' o (λJ=>own.a0 (J▸C)) u⟩;have W:∀j,cT T j->((w.G.bI h').a5 T.n w' f').aX j=w.G.aX j:=λj c'=>(qd (ltl j c')).2;have ne:∀j,cT T j->w.G.aX j≠f':=λj c' u=>M.kS cK c' u;refine⟨⟨λj fi u=>?_,λj U fl fp u=>?_,λa' C=>?_,λj a' u=>?_⟩,λ_ V=>.inl V,E.aO,λj a' u=>(qd (M.wA u)).2,λa' o u J _=>Y.keep a' o J u,Y.eo,λj c'=>?_,λj o₁ o₂ u e2=>?_,WH _,λa' C=>C.imp id λC=>.inl (hF a' C).1⟩
 .rw[Z.ta] at u
  by_cases U:T.n=j
  .rw[if_pos U] at u;exact U▸Wc u▸S E
  .rw[if_neg U] at u
   exact(M.slot j fi u).ext E (W j ⟨_,u⟩) λV ex=>Y.keep _ V (own.aX j ⟨fi,u⟩) ex
 .rcases lX fl with rfl|lp'<;>rcases lX fp with rfl|lq'
  .rfl
  .exact absurd (d'.2.symm.trans (u.trans (W U lq'))).symm (ne U lq')
  .exact absurd ((W j lp').symm.trans (u.trans d'.2)) (ne j lp')
  .exact M.inj j U lp' lq' ((W j lp').symm.trans (u.trans (W U lq')))
 .refine⟨C.elim (λC=>(M.bI a' C).1.elim (Y.eo a')) λC=>(hF a' C).2,λj c' J=>?_⟩
  rcases lX c' with rfl|e1
  .have J:=d'.2.symm.trans J
   subst J;exact C.elim (λC=>(M.bI f' C).1.elim λ_ u=>cj u cK) na
  .have J:=(W j e1).symm.trans J
   exact C.elim (λC=>(M.bI a' C).2 j e1 J) λC=>M.kS (hF a' C).1 e1 J
 .have u:(if j=T.n then some w' else w.G.aO j)=some a':=u
  by_cases U:j=T.n
  .exact U▸Wu _
  .rw[if_neg U] at u;exact WW (M.gK j a' u)
 .exact(lX c').elim (λJ=>.inr (by subst J;exact(Wd w.h.get? d'.2).trans cK)) λc'=>.inl ⟨c',W j c'⟩
 .rw[Z.ta,if_neg (Ne.symm (ltl j ⟨o₁,u⟩)),u] at e2
  exact Wd bc (Wc e2).symm
def kN(G:T.get p=some a):cT (T.set p H) q↔cT T q:=by
 unfold cT;rw[Z.mR]
 by_cases z:p=q
 .exact(if_pos z)▸⟨λ_=>⟨a,z▸G⟩,λ_=>⟨H,rfl⟩⟩
 .rw[if_neg z]
def bB.update(M:bB X T w)(own:cY h' T w)(J:T.get f'=some o₀)(l₀:bc o₀=0)(lo:bc w'=0)(W:∀c' a',c'≠w.G.aX f'->c'≠h'->w.h.get? c'=some a'->s'.heap.get? c'=some a')(e2:∃a',s'.heap.get? h'=some a')
  (S:cM w ⟨w.G,s'⟩->fR X ⟨w.G,s'⟩ f' w'):bB X (T.set f' w') ⟨w.G,s'⟩/\cG T w (T.set f' w') ⟨w.G,s'⟩ (·=h'):=by
 have e1:cT T f':=⟨o₀,J⟩;have E:cM w ⟨w.G,s'⟩:=⟨λ_ a'=>a',λ_ _ a'=>a',λC a' U j=>W C a' (Ne.symm ((M.bI C U).2 f' e1)) (λo=>own.a0 (o▸U)) j⟩;have S:=S E;have dom:∀c' a',w.h.get? c'=some a'->∃x',s'.heap.get? c'=some x':=λc' a' j=>if o:c'=w.G.aX f' then o▸S.has.2 else if Y:c'=h' then Y▸e2 else⟨a',W c' a' o Y j⟩
 refine⟨⟨λu cK j=>?_,λC c' fi fl j=>M.inj C c' ((kN J).mp fi) ((kN J).mp fl) j,λC U=>(M.bI C U).imp (λa'=>a'.elim (dom C)) λu c' h'=>u c' ((kN J).mp h'),M.gK⟩,λ_ a'=>a',λ_ _ a'=>a',λ_ _ _=>rfl,λc' a' j o fp=>W c' a' (Ne.symm (fp f' ⟨o₀,J,l₀⟩)) o j,dom,
  λu h'=>.inl ⟨(kN J).mp h',rfl⟩,λu o₁ o₂ j V=>(by
   rw[Z.mR] at V
   by_cases o:f'=u
   .subst o;rw[if_pos rfl] at V;exact(Wc V)▸(Wc (J.symm.trans j))▸(lo.trans l₀.symm)
   .rw[if_neg o] at V;exact Wd bc (Wc (V.symm.trans j))),Wr _,λC U=>.inl U⟩
 rw[Z.mR] at j
 by_cases o:f'=u
 .rw[if_pos o] at j;exact o▸Wc j▸S
 .rw[if_neg o] at j
  exact(M.slot u cK j).ext E rfl λa' ex=>W _ a' (λY=>o (M.inj f' u e1 ⟨cK,j⟩ Y.symm)) (own.aX u ⟨cK,j⟩) ex
def bB.R7(o:bB X T w)(C:T.get a'=some o₀)(S:fR X w a' o₀->fR X w a' c'):bB X (T.set a' c') w:=by
 refine⟨λV e1 j=>?_,λu J Y cK j=>o.inj u J ((kN C).mp Y) ((kN C).mp cK) j,λu U=>⟨(o.bI u U).1,λJ W=>(o.bI u U).2 J ((kN C).mp W)⟩,o.gK⟩;rw[Z.mR] at j
 by_cases M:a'=V
 .rw[if_pos M] at j;exact M▸Wc j▸S (o.slot _ _ C)
 .rw[if_neg M] at j;exact o.slot V e1 j
def rv{p q:Nat}(l:cT (T.hk p) q):cT T q/\q≠p:=l.elim λo e=>by
 rw[Z.DZ] at e
 by_cases z:p=q
 .rw[if_pos z] at e;exact ns e
 .rw[if_neg z] at e;exact⟨⟨o,e⟩,Ne.symm z⟩
def D0(e:(T.hk p).get q=some H):T.get q=some H:=by
 rw[Z.DZ] at e
 by_cases z:p=q
 .rw[if_pos z] at e;exact ns e
 .rw[if_neg z] at e;exact e
def bB.MV(C:bB X T w)(Y:T.get c'=some o₀):bB X (T.hk c') ⟨w.G.bI λa'=>a'=w.G.aX c',w.s⟩/\cG T w (T.hk c') ⟨w.G.bI λa'=>a'=w.G.aX c',w.s⟩ Ex:=by
 have U:cT T c':=⟨o₀,Y⟩;have E:cM w ⟨w.G.bI λa'=>a'=w.G.aX c',w.s⟩:=⟨λ_ o=>.inl o,λ_ _ o=>o,λJ o j u=>u⟩;refine⟨⟨λV e1 u=>(C.slot V e1 (D0 u)).ext E rfl λ_ o=>o,λJ a' Z cK u=>C.inj J a' (rv Z).1 (rv cK).1 u,λJ j=>?_,C.gK⟩,λ_ o=>.inl o,λ_ _ o=>o,λ_ _ _=>rfl,λa' o u _ _=>u,λa' o u=>⟨o,u⟩,
  λV M=>.inl ⟨(rv M).1,rfl⟩,λV o₁ o₂ u W=>Wd bc (Wc ((D0 W).symm.trans u)),Wr _,λJ j=>j.imp id λj=>.inr ⟨c',U,j.symm⟩⟩
 exact j.elim (λj=>⟨(C.bI J j).1,λa' M=>(C.bI J j).2 a' (rv M).1⟩) λj=>by have j:=j;subst j;exact⟨C.eo U,λa' M e2=>(rv M).2 (C.inj a' c' (rv M).1 U e2)⟩
def bB.none(u:bB X T w):bB X ⟨.nil,T.n⟩ w:=
 ⟨λC o M=>ns M,λC _ j=>absurd j m6,λJ U=>⟨(u.bI J U).1,λC j=>absurd j m6⟩,u.gK⟩
def jF.done(j:jF)(T:Z):jF:=Zx (j.bI λu=>∃o,cT T o/\j.aX o=u)
noncomputable def aL.done(w:aL)(T:Z):aL:=⟨w.G.done T,w.s⟩
def cM.done(w:aL)(T:Z):cM w (w.done T):=⟨λ_ j=>.inl j,λ_ _ j=>j,λ_ _ _ o=>o⟩
def bB.Fi(u:bB X T w):bB X ⟨.nil,T.n⟩ (w.done T):=
 ⟨λJ o V=>ns V,λJ _ C=>absurd C m6,λU j=>⟨j.elim (λj=>(u.bI U j).1) λj=>j.elim λW M=>M.2▸u.eo M.1,λJ C=>absurd C m6⟩,u.gK⟩
def AR(H:∀x y c,g x=some y->o X w x c->o X B y c):∀{b f:YU}{d:YY},fY g b=some f->aK X w b d->aK X B f d:=λ{b}=>by
 induction b with|nil=>exactλe r=>b6 (p:=λy=>aK X B y _) e (r.eg .nil)|cons x b S=>exactλe r=>aA e λa I e=>aA e λl A e=>b6 (p:=λy=>aK X B y _) e (r.dK λc d m E=>.cons (H _ _ _ I m) (S A E))
def GG(H:∀x y d,g x=some y->o X w x d->o X B y d):∀{c:YT}{b:List (aE×Y3)},gU g f=some c->b2 X w f b->b2 X B c b:=by
 induction f with|nil=>exactλ{c b} e r=>r.eg (b6 (p:=λy=>b2 X B y []) e .nil)|cons x f S=>exactλ{c b} e r=>r.dK (q:=λb=>b2 X B c b) λd b m E=>aA e λa I e=>aA e λl A e=>b6 (p:=λy=>b2 X B y _) e (.cons (H _ _ _ I m) (S A E))
def GH(H:∀x y c,g x=some y->o X w x c->o X B y c)(e:gg g f=some b)(r:dA X w f d):dA X B b d:=
 dA.rec (motive_1:=λ_ _ _=>True) (motive_2:=λ_ _ _=>True) (motive_3:=λ_ _ _=>True) trivial trivial trivial trivial (λ_ _ _ _ _=>trivial) (λ_ _ _ _ _=>trivial) (λ_ _ _ _ _ _=>trivial) (λ_ _ _ _ _ _ _=>trivial) (λ_=>trivial) (λ_ _ _ _ _=>trivial) trivial (λ_ _ _ _=>trivial) trivial (λ_ _ _ _=>trivial)
  (λb e=>b6 (p:=λy=>dA X B y _) e .nil) (λm _ _ S b e=>aA e λa I e=>aA e λl A e=>b6 (p:=λy=>dA X B y _) e (.cons (H _ _ _ I m) (S l A))) r b e
def ew.up(u:ew X w f' a' c')(E:cM w B)(o:B.h=w.h):ew X B f' a' c':=u.ext E λ_ j=>o▸j
def w4(R:bB X T w):∀(f:Nat)(x y:V)(g:Y3),ct f T x=some y->o X w x g->o X (w.done T) y g:=λf=>by
 have E:=cM.done w T;induction f with
 |zero=>exactλ_ _ _ e=>ns e
 |succ f H=>
  intro x y g e r;have self:∀p i,T.get p=some i->(w.done T).G.a0 (w.G.aX p):=λp i e=>.inr ⟨p,⟨i,e⟩,rfl⟩;have h:some x=some y->o X (w.done T) y g:=λe=>b6 (p:=λy=>o X (w.done T) y g) e (r.ext E);induction x using V.casesOn with
  |ref p=>
   have e:(match T.get p with
    |some (.ae O _)=>Y (fY (ct f T) O) λl=>some (V.ae l)
    |some (.ah k m _)=>Y (gU (ct f T) m) λl=>some (.ah k l)
    |some (.ins c P)=>Y (gg (ct f T) P) λl=>some (.ins c false l)
    |.none=>.none)=some y:=e
   generalize s:T.get p=B;induction B with
   |none=>rw[s] at e;exact ns e
   |some i=>
    rw[s] at e;have S:=R.slot p i s;have j:=self p i s;have aD:∀a,w.G.aO p=some a->g=.ref a:=λa t=>r.w3 (p:=λg=>g=.ref a) λb u=>Wd Value.ref (Wc (u.symm.trans t));induction i with
    |ae O l=>exact aA e λl A e=>b6 (p:=λy=>o X (w.done T) y g) e (S.2.elim λD z=>aD _ S.1▸.ae j z.1 z.2.1 (AR H A z.2.2))
    |ah k m l=>exact aA e λl A e=>b6 (p:=λy=>o X (w.done T) y g) e (S.2.2.elim λG z=>aD _ S.1▸.ah j S.2.1 (z.1.up E rfl) z.2.1 (GG H A z.2.2))
    |ins c P=>exact aA e λl A e=>b6 (p:=λy=>o X (w.done T) y g) e (S.2.elim λa z=>z.elim λG z=>aD _ z.1▸.ins S.1 (E.a0 _ z.2.1) j z.2.2.1 z.2.2.2.1 (GH H A z.2.2.2.2.2))
  |ins c b P=>
   induction b with
   |true=>exact aA e λl A e=>b6 (p:=λy=>o X (w.done T) y g) e (r.mV λa d G I n lJ q N v=>.ins I (E.a0 _ n) (E.a0 _ lJ) q N (GH H A v))
   |false=>exact h e
  |hu=>exact h e
  |none=>exact h e
  |bool=>exact h e
  |int=>exact h e
  |str=>exact h e
  |ay=>exact h e
  |ae=>exact h e
  |ah=>exact h e
end
structure ec where
 g:Y5
 L:Y4
 hQ:List Env
 base:Y5
 Ib:Zb
 bx:Env
 dy:Y4->Prop
structure cu where
 X:cn
 f:ec
 af:Env
 A:Zb
noncomputable abbrev Zt(c:cu):=model c.X.prog c.X.w
abbrev Zs(c:cu){α:Type}:=wpAny (α:=α) (Zt c) c.A
structure hX(X:cn)(f:ec):Prop where
 B:Below f.Ib f.base f.hQ f.g
 K:X.K.In f.g
 T:Top X.T.p X.T.FE X.T.ry X.T.FR X.T.FN f.g
 lV:f.bx.frame=some f.L
 kind:f.bx.scope.kind=.function
noncomputable def Bt:Nat:=624
structure d5(f:ec)(A:Zb)(a:Nat):Prop where
 frames:A.frames=some (f.bx::f.hQ)
 bC:A.handled=none
 depth:A.depth*20+a<=18000
 units:A.units+8*a<=9000
 rr:f.hQ.length*20+a<=Bt
def d5.ju{C:ec}{u:Zb}{M J:Nat}(j:d5 C u M)(o:J<=M):d5 C u J:=⟨j.frames,j.bC,Wh (Wt o _) j.depth,Wh (Wt (WT _ o) _) j.units,Wh (Wt o _) j.rr⟩
def NW(a n:Nat):a+1+8*n<=a+8*(n+1):=by rw[XK,Wl,Wm 1];exact Wt (Wt (by decide) _) _
def d5.in1{u:ec}{o:Zb}{C:Nat}(j:d5 u o (C+1)):d5 u o.in1 C:=⟨j.frames,j.bC,Wh (WH _) j.depth,Wh (NW _ _) j.units,Wh (WH _) j.rr⟩
structure aP(c:cu)(b:Z)(w:aL):Prop where
 aM:∃m,Fr c.f.g c.f.L w.h m
 aH:bB c.X b w
 own:cY c.f.L b w
 new:∀p,cT b p->c.f.g.get? (w.G.aX p)=none
 dy:∀a,c.f.dy a->(∃H,w.h.get? a=some H)/\a≠c.f.L/\cY a b w/\c.f.g.get? a=none
def iu(f:ec)(b:Y4):Prop:=b=f.L
def hb(f:ec)(b:Y4):Prop:=b=f.L\/f.dy b
def fj(w B:aL):Prop:=∃h s,B.s={w.s with heap:=h,toks:=s}
def fj.refl(j:aL):fj j j:=⟨_,_,rfl⟩
def fj.trans{u b C:aL}(j:fj u b)(o:fj b C):fj u C:=j.elim λ_ j=>j.elim λ_ j=>o.elim λJ o=>o.elim λM o=>⟨J,M,by rw[o,j]⟩
structure aT(c:cu)(b:Z)(w:aL)(a:Z)(B:aL):Prop where
 aH:bB c.X a B
 step:cG b w a B (iu c.f)
 aM:∀m,Fr c.f.g c.f.L w.h m->Fr c.f.g c.f.L B.h m
 dd:fj w B
structure cO(c:cu)(b:Z)(w:aL)(a:Z)(B:aL):Prop where
 aH:bB c.X a B
 step:cG b w a B (hb c.f)
 aM:∃m,Fr c.f.g c.f.L B.h m
 dd:fj w B
def aP.jW(u:aP c' h' f'):∃a',f'.h.get? c'.f.L=some a':=u.aM.elim λ_ o=>o.ns.elim λa' j=>j.elim λ_ j=>j.elim λ_ j=>⟨a',j.1⟩
def cY.step{o:Y4}(O:cY o c' a')(M:∃f',a'.h.get? o=some f')(S:cG c' a' hp' w' Ex):cY o hp' w':=
 M.elim λ_ J=>⟨λC=>(S.jT o C).elim O.a0 λj=>j.elim (cj J) λj=>j.elim λu j=>O.aX u j.1 j.2,λu U C=>(S.new u U).elim (λj=>O.aX u j.1 (j.2.symm.trans C)) λj=>cj J (C▸j)⟩
def aP.step(j:aP a' c' h')(J:∃f',Fr a'.f.g a'.f.L w'.h f')(W:bB a'.X hp' w')(S:cG c' h' hp' w' Ex):aP a' hp' w':=
 ⟨J,W,j.own.step j.jW S,λU Y=>(S.new U Y).elim (λC=>C.2▸j.new U C.1) λC=>by
  generalize M:a'.f.g.get? (w'.G.aX U)=cK;induction cK with
  |none=>rfl
  |some o=>exact j.aM.elim λ_ J=>cj (J.keep _ _ M) C,
  λV o=>have u:=j.dy V o;⟨u.1.elim λZ M=>S.eo V Z M,u.2.1,u.2.2.1.step u.1 S,u.2.2.2⟩⟩
def aP.aF(o:aP a' c' f')(j:aT a' c' f' hp' w'):aP a' hp' w':=o.step (o.aM.elim λu C=>⟨u,j.aM u C⟩) j.aH j.step
def aP.b7(o:aP a' c' f')(j:cO a' c' f' hp' w'):aP a' hp' w':=o.step j.aM j.aH j.step
def aP.ext(j:aP c' f' a')(o:aT c' f' a' hp' w'):cM a' w':=o.step.ext j.aH λ_ u=>u▸j.own.a0
def aP.ra(o:aP c' f' a')(u:cO c' f' a' hp' w'):cM a' w':=u.step.ext o.aH λC j=>j.elim (λj=>j▸o.own.a0) λj=>(o.dy C j).2.2.1.a0
def aT.refl(o:bB f'.X a' c'):aT f' a' c' a' c':=⟨o,.refl ..,λ_ j=>j,.refl _⟩
def aT.trans(C:aP a' c' f')(j:aT a' c' f' hp₁ w₁)(b:aT a' hp₁ w₁ hp₂ w₂):aT a' c' f' hp₂ w₂:=⟨b.aH,j.step.trans C.aH b.step,λo u=>b.aM o (j.aM o u),j.dd.trans b.dd⟩
def cO.trans(o:aP a' c' f')(j:cO a' c' f' hp₁ w₁)(b:cO a' hp₁ w₁ hp₂ w₂):cO a' c' f' hp₂ w₂:=⟨b.aH,j.step.trans o.aH b.step,b.aM,j.dd.trans b.dd⟩
def aT.b7(C:aP a' c' f')(j:aT a' c' f' hp' w'):cO a' c' f' hp' w':=⟨j.aH,j.step.xN λ_=>.inl,C.aM.elim λo u=>⟨o,j.aM o u⟩,j.dd⟩
def bP{α:Type}(c:cu)(t:Sem α)(V:Z)(w:aL)(b:Z)(P:aL->α->Prop):Prop:=
 ∀(Q:α->Y2)(E:YV),(∀B a,aT c V w b B->P B a->Q a B.s)->Zs c t Q E w.s
def aR(c:cu)(t:Sem Y3)(a:Z)(w:aL)(E:Z)(v:V):Prop:=bP c t a w E λB g=>o c.X B v g
def c4{α:Type}(c:cu)(t:Sem α)(V:Z)(w:aL)(E:Z)(b:α):Prop:=bP c t V w E λ_ R=>R=b
def aL.a8(j:aL)(o:Tok):aL:=Zx ⟨j.G,{j.s with toks:=o}⟩
def aL.ab(j:aL)(o:Y5)(u:Tok):aL:=Zx ⟨j.G,{j.s with heap:=o,toks:=u}⟩
def cM.a8(o:aL)(u:Tok):cM o (o.a8 u):=⟨λ_ j=>j,λ_ _ j=>j,λ_ _ _ j=>j⟩
def bP.bind{u:α->Sem β}{j:aL->β->Prop}(C:aP a' f' h')(U:bP a' w' f' h' hp₁ s')(V:∀w₁ c',aT a' f' h' hp₁ w₁->s' w₁ c'->bP a' (u c') hp₁ w₁ hp₂ j):bP a' (w'>>=u) f' h' hp₂ j:=λJ E Z=>Wi (U _ E λw₁ c' o W=>V w₁ c' o W J E λw₂ cK M Y=>Z w₂ cK (o.trans C M) Y)
def bP.pure{j:α}(o:aP h' c' a')(u:f' a' j):bP h' (pure j) c' a' c' f':=λ_ _ C=>Wo (C a' j (.refl o.aH) u)
def bP.ju{j:aL->α->Prop}(C:bP c' x' f' h' hp₁ s')(J:∀w' a',aT c' f' h' hp₁ w'->s' w' a'->j w' a'):bP c' x' f' h' hp₁ j:=λu E U=>C u E λw' a' o M=>U w' a' o (J w' a' o M)
def aT.gS{j:Za}(o:aP a' f' c')(J:gu a'.f.L c'.h j.heap)(C:∀h',Fr a'.f.g a'.f.L c'.h h'->Fr a'.f.g a'.f.L j.heap h')(M:fj c' ⟨c'.G,j⟩):aT a' f' c' f' ⟨c'.G,j⟩:=have u:=o.aH.keep (s':=j) o.own J;⟨u.1,u.2,C,M⟩
def aT.a8(j:aP f' a' c')(u:Tok):aT f' a' c' a' (c'.a8 u):=.gS j (.Gj (.refl _) j.jW) (λ_ o=>o) ⟨_,_,rfl⟩
def bP.toks(j:aP h' w' c')(o:∀(f':α->Y2)(E:YV),(∀s' a',x' (c'.a8 a') s'->f' s' (c'.a8 a').s)->wpAny (model h'.X.prog h'.X.w) h'.A F' f' E c'.s):bP h' F' w' c' w' x':=λf' E C=>o f' E λs' a' u=>C (c'.a8 a') s' (.a8 j a') u
def aR.toks{j:Sem Y3}{u:V}(C:aP c' w' a')(J:∀(h':YV)(E:YV),(∀s' f',o c'.X a' u s'->h' s' (a'.a8 f').s)->wpAny (model c'.X.prog c'.X.w) c'.A j h' E a'.s):aR c' j w' a' w' u:=λh' E U=>J h' E λs' f' M=>U (a'.a8 f') s' (.a8 C f') (M.ext (.a8 a' f'))
def c4.toks{j:α}(o:aP c' s' h')(u:∀(a':α->Y2)(E:YV),(∀f',a' j (h'.a8 f').s)->wpAny (model c'.X.prog c'.X.w) c'.A w' a' E h'.s):c4 c' w' s' h' s' j:=λa' E C=>u a' E λf'=>C (h'.a8 f') j (.a8 o f') rfl
def c4.bind{o:α}{u:α->Sem β}{j:aL->β->Prop}(C:aP a' c' f')(M:c4 a' h' c' f' hp₁ o)(V:∀w₁,aT a' c' f' hp₁ w₁->bP a' (u o) hp₁ w₁ hp₂ j):bP a' (h'>>=u) c' f' hp₂ j:=bP.bind C M λw₁ W J U=>U▸V w₁ J
def bP.d9{u:Sem β}{J:α->Sem β}{o:aL->β->Prop}(M:aP a' s' f')(j:bP a' x' s' f' hp₁ w')(V:∀w₁ h',aT a' s' f' hp₁ w₁->w' w₁ h'->bP a' (J h') hp₁ w₁ hp₂ o)
  (rule:∀(c':β->Y2)(E:YV),wpAny (model a'.X.prog a'.X.w) a'.A x' (λj s₁=>wpAny (model a'.X.prog a'.X.w) a'.A (J j) c' E s₁) E f'.s->wpAny (model a'.X.prog a'.X.w) a'.A u c' E f'.s):bP a' u s' f' hp₂ o:=λc' E Z=>
 rule c' E (j _ E λw₁ h' C W=>V w₁ h' C W c' E λw₂ cK U Y=>Z w₂ cK (C.trans M U) Y)
def bP.ek{Z:Sem γ}{u:Sem β}{W:α->γ->Sem β}{U:aL->γ->Prop}{M:aL->β->Prop}(o:aP a' w' h')(C:bP a' F' w' h' hp₁ x')(J:∀w₁ c',aT a' w' h' hp₁ w₁->x' w₁ c'->bP a' Z hp₁ w₁ hp₂ U)
  (e1:∀w₁ w₂ c' s',aP a' hp₁ w₁->x' w₁ c'->aT a' hp₁ w₁ hp₂ w₂->U w₂ s'->bP a' (W c' s') hp₂ w₂ hp₃ M)
  (rule:∀(f':β->Y2)(E:YV),wpAny (model a'.X.prog a'.X.w) a'.A F' (λC s₁=>wpAny (model a'.X.prog a'.X.w) a'.A Z (λJ s₂=>wpAny (model a'.X.prog a'.X.w) a'.A (W C J) f' E s₂) E s₁) E h'.s->wpAny (model a'.X.prog a'.X.w) a'.A u f' E h'.s):bP a' u w' h' hp₃ M:=λf' E fl=>
 rule f' E (C _ E λw₁ c' j Y=>J w₁ c' j Y _ E λw₂ s' V e2=>e1 w₁ w₂ c' s' (o.aF j) Y V e2 f' E λw₃ fp cK fi=>fl w₃ fp (j.trans o (V.trans (o.aF j) cK)) fi)
def eU:Y':=Zx ("__class__")
def ff(d:Env)(h:Y5)(x:Y')(v:Y3):Prop:=
 (d.kindOf x=some .local/\∃m,h.Ns d.locals m/\m x=some v)\/(x≠eU/\(d.kindOf x=some .cell\/d.kindOf x=some .free)/\∃c,d.cells.lookup x=some c/\h.IsCell c (some v))
noncomputable def iY(V:Y'->Ze Y6)(s:Y'):Bool:=match V s with|some .local=>true|some .cell=>true|some .free=>true|_=>false
structure fG(X:cn)(w:aL)(af:Env)(A:YS):Prop where
 get:∀n a,iY af.kindOf (X.az n)->au A n=some a->∃g,ff af w.h (X.az n) g/\o X w a g
 ns:∃m,w.h.Ns af.locals m
 cell:∀x c,x≠eU->af.cells.lookup x=some c->∃a,w.h.IsCell c a
structure i'(f:ec)(af:Env):Prop where
 kind:af.scope.kind=.function
 h8:af.globals=mainGlobals
 blt:af.builtins=builtinsNs
 F:af.locals=f.L\/f.dy af.locals
 cell:∀x c,x≠eU->af.cells.lookup x=some c->f.dy c
 inj:∀x y c,af.cells.lookup x=some c->af.cells.lookup y=some c->x=y
 apart:∀x c,af.cells.lookup x=some c->c≠af.locals
 has:∀x,af.kindOf x=some .cell->∃c,af.cells.lookup x=some c
def kT{h:Y5}{a:Y4}{m d:Y'->Ze Y3}(x:h.Ns a m)(y:h.Ns a d):m=d:=by exact x.elim λo x=>x.elim λG x=>x.elim λS x=>y.elim λr y=>y.elim λs y=>y.elim λb y=>by have e:=Wc (x.1.symm.trans y.1);subst e;have e:=Data.dict.inj (x.2.1.symm.trans y.2.1);have e:=e.1;subst e;exact funext λk=>(x.2.2.2 k).symm.trans (y.2.2.2 k)
def aP.xr(u:aP a' f' c')(J:aT a' f' c' hp' w')(j:Y4)(o:Obj)(C:a'.f.dy j)(M:c'.h.get? j=some o):w'.h.get? j=some o:=J.step.keep j o M (u.dy j C).2.1 λV U=>(u.dy j C).2.2.1.aX V U.e8
def i'.ns(O:i' a'.f af)(J:aP a' f' c')(M:aT a' f' c' hp' w'){U:Y'->Ze Y3}(j:c'.h.Ns af.locals U):w'.h.Ns af.locals U:=
 O.F.elim (λu=>J.aM.elim λ_ C=>by rw[u] at j⊢;exact kT C.ns j▸(M.aM _ C).ns) λu=>j.at' λo V=>J.xr M _ o u V
def i'.EP(O:i' a'.f af)(J:aP a' h' c')(M:aT a' h' c' hp' w'){j:Y4}{C:Ze Y3}(V:f'≠eU)(U:af.cells.lookup f'=some j)(u:c'.h.IsCell j C):w'.h.IsCell j C:=u.elim λo u=>⟨o,J.xr M j o (O.cell f' j V U) u.1,u.2⟩
def ff.aF(j:ff af c'.h s' h')(O:i' a'.f af)(u:aP a' f' c')(C:aT a' f' c' hp' w'):ff af w'.h s' h':=
 j.imp (λj=>j.imp id λj=>j.elim λM j=>⟨M,O.ns u C j.1,j.2⟩) λj=>⟨j.1,j.2.1,j.2.2.elim λJ o=>⟨J,o.1,O.EP u C j.1 o.1 o.2⟩⟩
def fG.aF(V:fG a'.X c' af h')(O:i' a'.f af)(j:aP a' f' c')(o:aT a' f' c' hp' w'):fG a'.X w' af h':=
 ⟨λJ M Y u=>(V.get J M Y u).elim λcK C=>⟨cK,C.1.aF O j o,C.2.ext (j.ext o)⟩,V.ns.elim λZ J=>⟨Z,O.ns j o J⟩,λe1 W U u=>(V.cell e1 W U u).elim λM C=>⟨M,O.EP j o U u C⟩⟩
def z2{n:Nat}{v:V}{X:Pos}(I:aP c d w)(O:i' c.f c.af)(V:fG c.X w c.af A)(h:iY c.af.kindOf (c.X.az n))(e:au A n=some v)(T:(c.X.az n==("__debug__":Y'))=false)(L:(c.X.az n==("__classdict__":Y'))=false):
  aR c (eval (.Name (c.X.az n) X) c.af) d w d v:=
 (V.get n v h e).elim λf z=>aR.toks I λQ E q=>wpAny_Name (z.1.elim (λb=>b.2.elim λm g=>Yq O.kind b.1 g.1 g.2 (q f w.s.toks z.2))
  λb=>b.2.2.elim λa g=>b.2.1.elim (λk=>Yx O.kind k g.1 g.2 (q f w.s.toks z.2)) λk=>Yy O.kind k g.1 g.2 (q f w.s.toks z.2) L) T
end Mine.Internal
end
noncomputable section
open PySem PySem.W PySem.Calls PyProof.Rows PySem.SeqAt
namespace Mine.Internal
noncomputable def oA:qz->Operator
 |.add=>.Add|.sub=>.Sub|.mul=>.Mult|.fdiv=>.FloorDiv|.tJ=>.Mod|.jx=>.LShift|.ui=>.RShift|.kp=>.BitAnd|.nU=>.BitOr
def fT(h:Nat.blt a b):a<b:=Wb h
def nT(h:Nat.ble a b):a<=b:=Wb h
def yC(a:Nat):Builtin.bitNot (Int.ofNat a)=.negSucc a:=by show -(a:Int)-1=_;rw[Yb,Int.neg_add,Int.sub_eq_add_neg]
def uZ(a:Nat):Builtin.bitNot (.negSucc a)=Int.ofNat a:=by show -(Int.negSucc a)-1=_;rw[Yb,Int.neg_neg,Int.add_sub_cancel];rfl
def J1(a b:Nat):Builtin.bitAnd (.ofNat a) (.negSucc b)=.ofNat (a-Nat.land a b):=by unfold Builtin.bitAnd;rw[decide_eq_true (show(0:Int)<=Int.ofNat a from W4 a),decide_eq_false (show¬(0:Int)<=Int.negSucc b from Int.not_le.mpr (Xh b)),uZ];exact(Int.ofNat_sub Nat.and_le_left).symm
def J2(a b:Nat):Builtin.bitOr (.ofNat a) (.ofNat b)=.ofNat (Nat.lor a b):=by unfold Builtin.bitOr;rw[yC,yC];unfold Builtin.bitAnd;rw[decide_eq_false (Int.not_le.mpr (Xh a):¬(0:Int)<=Int.negSucc a),decide_eq_false (Int.not_le.mpr (Xh b):¬(0:Int)<=Int.negSucc b),uZ,uZ];refine(?_:Builtin.bitNot (Builtin.bitNot (Int.ofNat (Nat.lor a b)))=_);rw[yC,uZ]
def lQ(I:aP c a w)(e:some r=some z)(k:∀(Q:YV)(E:YV),(∀t s,Q (.int r t) (w.a8 s).s)->Zs c t Q E w.s):aR c t a w a (.int z):=b6 (p:=λz=>aR c t a w a (.int z)) e ((aR.toks I λQ E q=>k Q E λ_ _=>q _ _ .int))
def Gv(n:Nat):(Int.ofNat (n+1))≠0:=λh=>nomatch h
def Te(a b:Nat):Int.ofNat a*2 ^ (Int.ofNat b).toNat=Int.ofNat (a.shiftLeft b):=by refine(?_:(a:Int)*2 ^ b=((a<<<b:Nat):Int));rw[Nat.shiftLeft_eq,Int.natCast_mul,Int.natCast_pow];rfl
def Tf(a b:Nat):(Int.ofNat a).fdiv (2 ^ (Int.ofNat b).toNat)=Int.ofNat (a.shiftRight b):=by refine(?_:Int.fdiv (a:Int) (2 ^ b)=((a>>>b:Nat):Int));rw[Nat.shiftRight_eq_div_pow,Int.fdiv_eq_ediv_of_nonneg _ (Int.pow_nonneg (by decide)),Int.natCast_ediv,Int.natCast_pow];rfl
def N9(I:aP c d w)(e:EO f x y=some z):aR c (binaryOp (oA f) (.int x t) (.int y L)) d w d (.int z):=by
 have g:=λ{P:Prop}(e:none=some z)=>(ns e:P);induction f with
 |add=>exact lQ I e λQ E q=>add_int (q _ _)
 |sub=>exact lQ I e λQ E q=>sub_int (q _ _)
 |mul=>
  induction x with
  |negSucc a=>exact g e
  |ofNat a=>exact bR e λh e=>lQ I e λQ E q=>mul_int (q _ _) (.of_left (intBits_le_64 (Int.lt_of_lt_of_le (by decide) (W4 a)) ((XM.mpr (fT h)))))
 |fdiv=>induction y with
  |negSucc=>exact g e
  |ofNat n=>induction n with
   |zero=>exact g e
   |succ n=>exact bR e λh e=>lQ I e λQ E q=>floordiv_int (Gv n) (q _ _) (.inl (PyProof.noPylong_small (Wf (Nat.succ_le_of_lt (fT h)) (by decide))))
 |tJ=>induction y with
  |negSucc=>exact g e
  |ofNat n=>induction n with
   |zero=>exact g e
   |succ n=>exact lQ I e λQ E q=>mod_int' (Gv n) (q _ _)
 |jx=>induction x with
  |negSucc=>exact g e
  |ofNat a=>induction y with
   |negSucc=>exact g e
   |ofNat b=>exact bR e λh e=>bR e λS e=>lQ I e λQ E q=>lshift_int_small (W4 b) (Int.ofNat_le.mpr (Wh (nT h) (by decide))) (Wg (fT S) (by decide)) (by rw[Te];exact q _ _)
 |ui=>induction x with
  |negSucc=>exact g e
  |ofNat a=>induction y with
   |negSucc=>exact g e
   |ofNat b=>exact bR e λh e=>lQ I e λQ E q=>rshift_int (W4 b) (by rw[Tf];exact q _ _)
 |kp=>induction x with
  |negSucc=>exact g e
  |ofNat a=>induction y with
   |negSucc=>exact lQ I e λQ E q=>and_int (by rw[J1];exact q _ _)
   |ofNat b=>exact lQ I e λQ E q=>and_int (q _ _)
 |nU=>induction x with
  |negSucc=>exact g e
  |ofNat a=>induction y with|negSucc=>exact g e|ofNat b=>exact lQ I e λQ E q=>or_int (by rw[J2];exact q _ _)
def p3(a b:Nat):Nat.beq a b=(a==b):=by rw[W7,beq_iff_eq,Nat.beq_eq]
def OP:∀a b:YZ,oj a b=(a==b):=λa=>by
 induction a with
 |nil=>intro b;induction b<;>rfl
 |cons a r S=>
  intro b;induction b with
  |nil=>rfl
  |cons b s=>
   rw[List.cons_beq_cons];refine(?_:(match Nat.beq a b with|true=>oj r s|false=>false)=_)
   rw[p3,S s];cases a==b<;>rfl
def oL(a b:Y'):VP a b=(a==b):=(OP _ _).trans (str_beq a b)
def k3:VP a b=true↔a=b:=by rw[oL,beq_iff_eq]
def mU:dr a b=true↔a=b:=by
 induction a with
 |ofNat a=>induction b with
  |ofNat b=>exact⟨λh=>Wd Int.ofNat (We h),λh=>XR h▸WA a⟩
  |negSucc b=>exact⟨λh=>(nomatch h),λh=>(nomatch h)⟩
 |negSucc a=>induction b with
  |ofNat b=>exact⟨λh=>(nomatch h),λh=>(nomatch h)⟩
  |negSucc b=>exact⟨λh=>Wd Int.negSucc (We h),λh=>Int.negSucc.inj h▸WA a⟩
def zH(a b:Int):dr a b=(a==b):=by rw[W7,mU,beq_iff_eq]
def dO(l:List α):VN l=l.length:=by
 induction l with|nil=>rfl|cons _ r S=>exact Wd Nat.succ S
def pH(h:eA l):l.length<b0:=dO l▸fT h
def ha(a b:List α):U a b=a++b:=by
 induction a with|nil=>rfl|cons x r S=>exact Wd (x::·) S
def aK.length(j:aK f' h' c' a'):c'.length=a'.length:=by
 induction c' generalizing a' with|nil=>exact j.eg (q:=λa'=>_=a'.length) rfl|cons J c' u=>exact j.dK (q:=λa'=>_=a'.length) λC a' _ o=>Wd Nat.succ (u o)
def aK.get(J:aK s' w' h' a'){j:Nat}(C:a'[j]?=some f'):∃c',h'[j]?=some c'/\o s' w' c' f':=by
 induction h' generalizing a' j with
 |nil=>exact J.eg (q:=λa'=>a'[j]?=some f'->_) ns C
 |cons c' h' V=>exact J.dK (q:=λa'=>a'[j]?=some f'->_) (λu a' M U C=>by
  induction j with|zero=>exact⟨c',rfl,Wc C▸M⟩|succ j=>exact V U C) C
def aK.lM(V:aK h' s' f' c'){j:Nat}(C:f'[j]?=some w'):∃a',c'[j]?=some a'/\o h' s' w' a':=by
 induction f' generalizing c' j with
 |nil=>exact ns C
 |cons W f' U=>
  refine V.dK (q:=λc'=>∃a',c'[j]?=some a'/\o h' s' w' a') λu c' J M=>?_;induction j with|zero=>exact⟨u,rfl,Wc C▸J⟩|succ j=>exact U M C
def aK.append(j:aK c' f' h' a')(u:aK c' f' ys us):aK c' f' (h'++ys) (a'++us):=by
 induction h' generalizing a' with|nil=>exact j.eg (q:=λa'=>aK c' f' _ (a'++us)) u|cons U h' J=>exact j.dK (q:=λa'=>aK c' f' _ (a'++us)) λM a' o C=>.cons o (J C)
def UL{h:Y5}{x y:YY}(p:h.IsTuple a x.toArray)(q:h.IsTuple a y.toArray):x=y:=p.elim λo p=>q.elim λr q=>by have e:=Wc (p.1.symm.trans q.1);subst e;exact p.2.2.elim λn p=>q.2.2.elim λm q=>Wd Array.toList (Data.seq.inj (p.symm.trans q)).1
def Fl{h:Y5}{x y:YY}(p:h.PlainList a x.toArray)(q:h.PlainList a y.toArray):x=y:=p.elim λn p=>q.elim λm q=>Wd Array.toList (Data.seq.inj (Wd Obj.data (Wc (p.symm.trans q)))).1
inductive lr(f:Nat):V->V->Bool->Prop
 |none:lr f .none .none true
 |bool {a b:Bool}:lr f (.bool a) (.bool b) (hG a b)
 |int {a b:Int}:lr f (.int a) (.int b) (dr a b)
 |str {a b:Y'}:lr f (.str a) (.str b) (VP a b)
 |j {a:Y'} {b:YU}:lr f (.str a) (.ay b) false
 |b7 {a:YU} {b:Y'}:lr f (.ay a) (.str b) false
 |ay {a b:YU} {r:Bool}:nE (gq f) a b=some r->lr f (.ay a) (.ay b) r
 |len {a b:YU}:Nat.beq (VN a) (VN b)=false->lr f (.ae a) (.ae b) false
 |ae {a b:YU} {r:Bool}:Nat.beq (VN a) (VN b)->nE (gq f) a b=some r->lr f (.ae a) (.ae b) r
def vY(h:iC a):a=.none:=by induction a using V.casesOn<;>first|rfl|exact bb h
def hE(h:fm a=some i):a=.int i:=by induction a using V.casesOn<;>first|exact Wd V.int (Wc h)|exact ns h
def Jy(h:B4 a=some i):a=.bool i:=by induction a using V.casesOn<;>first|exact Wd V.bool (Wc h)|exact ns h
def uR(h:uQ a=some i):a=.str i:=by induction a using V.casesOn<;>first|exact Wd V.str (Wc h)|exact ns h
def Jz(h:yv a=some i):a=.ay i:=by induction a using V.casesOn<;>first|exact Wd V.ay (Wc h)|exact ns h
def B5(h:yt a=some i):a=.ae i:=by induction a using V.casesOn<;>first|exact Wd V.ae (Wc h)|exact ns h
def uP(h:yu a=some i):a=.ref i:=by induction a using V.casesOn<;>first|exact Wd V.ref (Wc h)|exact ns h
def pd(h:lz a=some i):a=.int (.ofNat i):=by
 induction a using V.casesOn with
 |int j=>induction j with
  |ofNat n=>exact Wd (λn=>V.int (.ofNat n)) (Wc h)
  |negSucc=>exact ns h
 |_=>exact ns h
def BD(e:gq (f+1) a b=some r):lr f a b r:=by
 induction a using V.casesOn with
 |none=>exact bR e λh e=>by rw[vY h];exact Wc e▸.none
 |bool a=>exact aA e λy h e=>Jy h▸Wc e▸.bool
 |int a=>exact aA e λy h e=>hE h▸Wc e▸.int
 |str a=>induction b using V.casesOn with
  |str b=>exact Wc e▸.str
  |ay b=>exact Wc e▸.j
  |_=>exact ns e
 |ay a=>induction b using V.casesOn with
  |ay b=>exact .ay e
  |str b=>exact Wc e▸.b7
  |_=>exact ns e
 |ae a=>
  refine aA e λy h e=>B5 h▸?_;have e:=e;generalize q:Nat.beq (VN a) (VN y)=N;induction N with
  |true=>rw[q] at e;exact .ae q e
  |false=>rw[q] at e;exact Wc e▸.len q
 |_=>exact ns e
def sH(f:Nat)(O E:YU)(j:Nat):Bool:=match O[j]?,E[j]? with|some x,some y=>(gq f x y).getD false|_,_=>false
def RX(n:Nat)(p:Nat->Bool):(List.range (n+1)).all p=(p 0&&(List.range n).all λB=>p (B+1)):=by rw[List.range_succ_eq_map,Xz,List.all_map];rfl
def JS(x y:α)(O E:List α):((x::O).length==(y::E).length)=(O.length==E.length):=by rw[W7,beq_iff_eq,beq_iff_eq];exact⟨XC,Wd Nat.succ⟩
def HT(e:nE (gq f) g c=some r):(∀(B:Nat) x y,g[B]?=some x->c[B]?=some y->∃b,gq f x y=some b)/\r=((List.range (min g.length c.length)).all (sH f g c)&&g.length==c.length):=by
 induction g generalizing c r with
 |nil=>induction c with
  |nil=>exact⟨λB x y a=>ns a,Wc e▸rfl⟩
  |cons y c=>exact⟨λB x y a=>ns a,Wc e▸rfl⟩
 |cons x g S=>induction c with
  |nil=>exact⟨λB x y _ a=>ns a,Wc e▸rfl⟩
  |cons y c=>
   refine aA e λb s e=>aA e λd T e=>(S T).elim λk h=>⟨λB u v a q=>?_,?_⟩
   .induction B with|zero=>exact⟨b,Wc a▸Wc q▸s⟩|succ B=>exact k B u v a q
   .have e:r=(b&&d):=(Wc e).symm.trans (by induction b<;>rfl)
    rw[e,h,JS,WL,WL,Nat.succ_min_succ,RX,show sH f (x::g) (y::c) 0=b from Wd (Option.getD · false) s,Bool.and_assoc]
    rfl
def o.UM{C:Prop}(V:o h' f' (.ay s') (.ref c'))(U:∀a',f'.h.IsTuple c' a'.toArray->aK h' f' s' a'->C):C:=
 V.gp (p:=λu=>u=.ref c'->C) (λ_ a' _ M _ j J=>U a' (Value.ref.inj J▸M) j) rfl
def o.FH{C:Prop}(V:o h' f' (.ae s') (.ref c'))(U:∀a',f'.h.PlainList c' a'.toArray->aK h' f' s' a'->C):C:=
 V.ic (p:=λu=>u=.ref c'->C) (λ_ a' _ M _ j J=>U a' (Value.ref.inj J▸M) j) rfl
def o.N7(C:o h' s' (.int c') (.int a' f')):a'=c':=C.dt (p:=λu=>u=.int a' f'->a'=c') (λ_ j=>(Value.int.inj j).1.symm) rfl
def o.TV(C:o h' s' (.str c') (.str a' f')):a'=c':=C.f7 (p:=λu=>u=.str a' f'->a'=c') (λ_ j=>(Value.str.inj j).1.symm) rfl
def o.J'(C:o f' h' (.bool c') (.bool a')):a'=c':=C.kq (p:=λu=>u=.bool a'->a'=c') (λj=>(Value.bool.inj j).symm) rfl
def o.HE{C:Prop}(J:o f' s' (.ay h') (.str a' c')):C:=J.gp (p:=λu=>u=.str a' c'->C) (λ_ _ _ _ _ _ j=>Value.noConfusion j) rfl
def JQ(a:Bool):hG a a:=by induction a<;>rfl
def U2(f:Nat):∀{x y:V}{g:Y3}{r:Bool},gq f x y=some r->o X w x g->o X w y g->r=true:=by
 induction f with
 |zero=>exactλe=>ns e
 |succ f t=>
  have m:∀(O E:YU)(D:YY)(r:Bool),nE (gq f) O E=some r->aK X w O D->aK X w E D->r=true:=λO=>by
   induction O with
   |nil=>exactλE D r e a=>a.eg (q:=λD=>aK X w E D->r=true) λb=>by cases b;exact(Wc e).symm
   |cons x O u=>
    intro E D r e a;refine a.dK (q:=λD=>aK X w E D->r=true) λg D k R b=>?_;cases b with
    |cons n s=>refine aA e λc F e=>aA e λd T e=>?_;have e:=(Wc e).symm;rw[t F k n] at e;exact e.trans (u _ _ _ T R s)
  intro x y g r e p q;cases BD e with
  |none=>rfl
  |bool=>exact p.kq (p:=λg=>o X w _ g->_) (λq=>q.J'▸JQ _) q
  |int=>exact p.dt (p:=λg=>o X w _ g->_) (λ_ q=>mU.mpr q.N7) q
  |str=>exact p.f7 (p:=λg=>o X w _ g->_) (λ_ q=>k3.mpr q.TV) q
  |j=>exact p.f7 (p:=λg=>o X w _ g->_) (λ_ q=>q.HE) q
  |b7=>exact q.f7 (p:=λg=>o X w _ g->_) (λ_ q=>q.HE) p
  |ay e=>exact p.gp (p:=λg=>o X w (.ay _) g->r=true) (λa D _ h _ H q=>q.UM λj S l=>m _ _ _ _ e H (UL h S▸l)) q
  |len i=>exact p.ic (p:=λg=>o X w (.ae _) g->false=true) (λa D _ h _ H q=>q.FH λj S l=>by rw[dO,dO,H.length,l.length,Fl h S,WA] at i;exact i.symm) q
  |ae _ e=>exact p.ic (p:=λg=>o X w (.ae _) g->r=true) (λa D _ h _ H q=>q.FH λj S l=>m _ _ _ _ e H (Fl h S▸l)) q
def vk(S:∀{x y:V}{g L:Y3}{r:Bool},gq f x y=some r->o X w x g->o X w y L->EqAt A w.s g L r)
  (k:∀(B:Nat) x y,a[B]?=some x->c[B]?=some y->∃b,gq f x y=some b)(p:aK X w a h)(q:aK X w c d):
  ∀B(P:B<h.toArray.size)(N:B<d.toArray.size),EqAt A w.s h.toArray[B] d.toArray[B] (sH f a c B):=λB P N=>
 (p.get (List.getElem?_eq_getElem P)).elim λx i=>(q.get (List.getElem?_eq_getElem N)).elim λy n=>(k B x y i.1 n.1).elim λb s=>by
  have e:sH f a c B=b:=by unfold sH;exact i.1▸n.1▸Wd (Option.getD · false) s
  exact e▸S s i.2 n.2
def Cd(a b:Bool):hG a b=(a==b):=by induction a<;>induction b<;>rfl
def AO(g:∀{x y:V}{a L:Y3}{r:Bool},gq f x y=some r->o X w x a->o X w y L->EqAt A.in1 w.s a L r)(H:A.units<cLine)(e:gq (f+1) x y=some r)(p:o X w x a)(q:o X w y L):RcAt A w.s a L r/\RcNeAt A w.s a L (!r):=by
 cases BD e with
 |none=>exact p.l4 (p:=λa=>RcAt A w.s a L true/\RcNeAt A w.s a L false) (q.l4 (p:=λL=>RcAt A w.s _ L true/\RcNeAt A w.s _ L false) ⟨.none_none,.none_none⟩)
 |bool=>exact p.kq (p:=λa=>RcAt A w.s a L _/\RcNeAt A w.s a L _) (q.kq (p:=λL=>RcAt A w.s _ L _/\RcNeAt A w.s _ L _) (by rw[Cd];exact⟨.bool_bool _ _,.bool_bool _ _⟩))
 |int=>exact p.dt (p:=λa=>RcAt A w.s a L _/\RcNeAt A w.s a L _) λ_=>q.dt (p:=λL=>RcAt A w.s _ L _/\RcNeAt A w.s _ L _) λ_=>by rw[zH];exact⟨.int_int _ _ _ _,.int_int _ _ _ _⟩
 |str=>exact p.f7 (p:=λa=>RcAt A w.s a L _/\RcNeAt A w.s a L _) λ_=>q.f7 (p:=λL=>RcAt A w.s _ L _/\RcNeAt A w.s _ L _) λ_=>by rw[oL];exact⟨.str_str _ _ _ _,.str_str _ _ _ _⟩
 |j=>exact p.f7 (p:=λa=>RcAt A w.s a L _/\RcNeAt A w.s a L _) λ_=>q.gp (p:=λL=>RcAt A w.s _ L _/\RcNeAt A w.s _ L _) λ_ _ _ h _ _=>⟨.str_tuple _ _ h H,.str_tuple _ _ h H⟩
 |b7=>exact p.gp (p:=λa=>RcAt A w.s a L _/\RcNeAt A w.s a L _) λ_ _ _ h _ _=>q.f7 (p:=λL=>RcAt A w.s _ L _/\RcNeAt A w.s _ L _) λ_=>⟨.tuple_str _ _ h H,.tuple_str _ _ h H⟩
 |ay e=>exact p.gp (p:=λa=>RcAt A w.s a L _/\RcNeAt A w.s a L _) λ_ _ _ h _ c=>q.gp (p:=λL=>RcAt A w.s _ L _/\RcNeAt A w.s _ L _) λ_ _ _ S _ d=>(by refine(HT e).elim λk e=>?_;rw[c.length,d.length] at e;subst e;exact⟨.tuples h S H (vk g k c d),.tuples h S H (vk g k c d)⟩)
 |len b=>exact p.ic (p:=λa=>RcAt A w.s a L _/\RcNeAt A w.s a L _) λ_ _ _ h _ c=>q.ic (p:=λL=>RcAt A w.s _ L _/\RcNeAt A w.s _ L _) λ_ _ _ S _ d=>(by rw[dO,dO,c.length,d.length,p3] at b;exact⟨.lists_lengths h.isList S.isList (Wd not b) H,.lists_lengths h.isList S.isList (Wd not b) H⟩)
 |ae b e=>exact p.ic (p:=λa=>RcAt A w.s a L _/\RcNeAt A w.s a L _) λ_ _ _ h _ c=>q.ic (p:=λL=>RcAt A w.s _ L _/\RcNeAt A w.s _ L _) λ_ _ _ S _ d=>(by refine(HT e).elim λk e=>?_;have b:=We b;rw[dO,dO,c.length,d.length] at b;rw[c.length,d.length,b,Nat.min_self,beq_self_eq_true,Bool.and_true,<-b] at e;subst e;exact⟨.lists h.isList S.isList b H (vk g k c d),.lists h.isList S.isList b H (vk g k c d)⟩)
def y0(e:gq f x y=some r)(p:o X w x (.ref a))(q:o X w y (.ref b))(c:RcAt A w.s (.ref a) (.ref b) r):EqAt A w.s (.ref a) (.ref b) r:=by
 by_cases m:a=b
 .subst m;exact U2 f e p q▸.same _
 .exact .of_refs m c
def Ma(f:Nat):∀{A:Zb}{x y:V}{a L:Y3}{r:Bool},A.units+f<cLine->gq f x y=some r->o X w x a->o X w y L->EqAt A w.s a L r:=by
 induction f with
 |zero=>exactλ_ e=>ns e
 |succ f S=>
  intro A x y a L r H e p q;have d:=Wf (Wq _ _) H;have c:=(AO (λe p q=>S (by show A.units+1+f<_;rw[Wl,Wm 1];exact H) e p q) d e p q).1
  generalize BD e=N;induction N with|none=>exact p.l4 (p:=λa=>EqAt A w.s a L true) (q.l4 (p:=λL=>EqAt A w.s _ L true) (.same _))|bool=>exact p.kq (p:=λa=>EqAt A w.s a L _) (q.kq (p:=λL=>EqAt A w.s _ L _) (by rw[Cd];exact .bool_bool _ _))|int=>exact p.dt (p:=λa=>EqAt A w.s a L _) λ_=>q.dt (p:=λL=>EqAt A w.s _ L _) λ_=>by rw[zH];exact .int_int _ _ _ _|str=>exact p.f7 (p:=λa=>EqAt A w.s a L _) λ_=>q.f7 (p:=λL=>EqAt A w.s _ L _) λ_=>by rw[oL];exact .str_str _ _ _ _|j=>exact p.f7 (p:=λa=>EqAt A w.s a L _) λ_=>q.gp (p:=λL=>EqAt A w.s _ L _) λ_ _ _ h _ _=>.str_tuple _ _ h d|b7=>exact p.gp (p:=λa=>EqAt A w.s a L _) λ_ _ _ h _ _=>q.f7 (p:=λL=>EqAt A w.s _ L _) λ_=>.tuple_str _ _ h d|ay=>exact p.gp (p:=λa=>o X w _ a->RcAt A w.s a L _->EqAt A w.s a L _) (λ_ _ _ _ _ _ p=>q.gp (p:=λL=>o X w _ L->RcAt A w.s _ L _->EqAt A w.s _ L _) (λ_ _ _ _ _ _ q c=>y0 e p q c) q) p c|len=>exact p.ic (p:=λa=>o X w _ a->RcAt A w.s a L _->EqAt A w.s a L _) (λ_ _ _ _ _ _ p=>q.ic (p:=λL=>o X w _ L->RcAt A w.s _ L _->EqAt A w.s _ L _) (λ_ _ _ _ _ _ q c=>y0 e p q c) q) p c|ae=>exact p.ic (p:=λa=>o X w _ a->RcAt A w.s a L _->EqAt A w.s a L _) (λ_ _ _ _ _ _ p=>q.ic (p:=λL=>o X w _ L->RcAt A w.s _ L _->EqAt A w.s _ L _) (λ_ _ _ _ _ _ q c=>y0 e p q c) q) p c
def jy(l:Nat)(h:l<=b0):l<=sizeLine:=Wh h (by decide)
def pP(a b:Int):cJ (.i a) (.i b)=decide (a=b):=by rw[W7,decide_eq_true_iff];exact mU
def ts(a b:Y'):cJ (.s a) (.s b)=decide (a=b):=by rw[W7,decide_eq_true_iff];exact k3
def zI:∀{b:Y1},vX a b=true↔a=b:=by
 induction a with
 |nil=>intro b;induction b with
  |nil=>exact⟨λ_=>rfl,λ_=>rfl⟩
  |cons=>exact⟨λh=>(nomatch h),λh=>(nomatch h)⟩
 |cons x r S=>intro b;induction b with
  |nil=>exact⟨λh=>(nomatch h),λh=>(nomatch h)⟩
  |cons y s=>
   show(match dr x y with|true=>vX r s|false=>false)=true↔_
   generalize h:dr x y=N;induction N with
   |true=>exact⟨λz=>congr (Wd List.cons (mU.mp h)) (S.mp z),λz=>S.mpr (W5 z).2⟩
   |false=>exact⟨λz=>(nomatch z),λz=>(nomatch h.symm.trans (mU.mpr (W5 z).1))⟩
def v8(a b:Y1):cJ (.t a) (.t b)=decide (a=b):=by rw[W7,decide_eq_true_iff];exact zI
def b2.length(j:b2 f' h' c' a'):c'.length=a'.length:=by
 induction c' generalizing a' with|nil=>exact j.eg (q:=λa'=>_=a'.length) rfl|cons M c' u=>exact j.dK (q:=λa'=>_=a'.length) λJ a' C o=>Wd Nat.succ (u o)
def b2.au(J:b2 s' w' h' f')(j:aE):(∃a' c',bL h' j=some a'/\bL f' j=some c'/\o s' w' a' c')\/(bL h' j=none/\bL f' j=none):=by
 induction h' generalizing f' with
 |nil=>exact J.eg (q:=λf'=>(∃a' c',bL [] j=some a'/\bL f' j=some c'/\o s' w' a' c')\/(bL ([]:YT) j=none/\bL f' j=none)) (.inr ⟨rfl,rfl⟩)
 |cons a' h' W=>
  refine J.dK (q:=λf'=>(∃C c',bL (a'::h') j=some C/\bL f' j=some c'/\o s' w' C c')\/(bL (a'::h') j=none/\bL f' j=none)) λc' f' M U=>?_;show(∃C u,(match cJ a'.1 j with|true=>some a'.2|false=>bL h' j)=some C/\(match cJ a'.1 j with|true=>some c'|false=>bL f' j)=some u/\o s' w' C u)\/((match cJ a'.1 j with|true=>some a'.2|false=>bL h' j)=none/\(match cJ a'.1 j with|true=>some c'|false=>bL f' j)=none)
  generalize cJ a'.1 j=Y;induction Y with|true=>exact .inl ⟨a'.2,c',rfl,rfl,M⟩|false=>exact W U
def b2.aO(u:b2 f' w s' h')(j:bL s' c'=some x):∃a',bL h' c'=some a'/\o f' w x a':=
 (u.au c').elim (λh=>h.elim λC h=>h.elim λa' h=>⟨a',h.2.1,Wc (h.1.symm.trans j)▸h.2.2⟩) λh=>ns (h.1.symm.trans j)
def b2.a5(J:b2 c' h' s' a')(j:aE)(M:o c' h' w' f'):b2 c' h' (cU s' j w') (cU a' j f'):=by
 induction s' generalizing a' with
 |nil=>exact J.eg (q:=λa'=>b2 c' h' _ (cU a' j f')) (.cons M .nil)
 |cons C s' V=>
  refine J.dK (q:=λa'=>b2 c' h' _ (cU a' j f')) λu a' U J=>?_;show b2 c' h' (match cJ C.1 j with|true=>(C.1,w')::s'|false=>C::cU s' j w') (match cJ C.1 j with|true=>(C.1,f')::a'|false=>(C.1,u)::cU a' j f')
  generalize cJ C.1 j=W;induction W with|true=>exact .cons M J|false=>exact .cons U (V J)
def b2.hk(o:b2 f' h' c' a')(j:aE):b2 f' h' (gP c' j) (gP a' j):=by
 induction c' generalizing a' with
 |nil=>exact o.eg (q:=λa'=>b2 f' h' _ (gP a' j)) .nil
 |cons C c' M=>
  refine o.dK (q:=λa'=>b2 f' h' _ (gP a' j)) λu a' J o=>?_;show b2 f' h' (match cJ C.1 j with|true=>c'|false=>C::gP c' j) (match cJ C.1 j with|true=>a'|false=>(C.1,u)::gP a' j)
  generalize cJ C.1 j=U;induction U with|true=>exact o|false=>exact .cons J (M o)
section
variable{α β K:Type} [DecidableEq K](c:K->aE)(k:K)
def CZ{k n:aE}:bL ((k,a)::r) n=match cJ k n with|true=>some a|false=>bL r n:=rfl
def C3{k n:aE}:cU ((k,a)::r) n x=match cJ k n with|true=>(k,x)::r|false=>(k,a)::cU r n x:=rfl
def Lr{k n:aE}:gP ((k,a)::r) n=match cJ k n with|true=>r|false=>(k,a)::gP r n:=rfl
def pA(L:∀a b,cJ (c a) (c b)=decide (a=b))(O:List (K×Y3)):bL (O.map λp=>(c p.1,p.2)) (c k)=valueAt O k:=by
 induction O with
 |nil=>rfl
 |cons x r S=>unfold valueAt at S⊢;rw[WS,List.find?_cons,CZ,L,S];cases decide (x.1=k)<;>rfl
def yX(L:∀a b,cJ (c a) (c b)=decide (a=b))(O:List (K×Y4×Y3)):bL (O.map λx=>(c x.1,x.2.2)) (c k)=(atKey O k).map (·.2):=by
 induction O with
 |nil=>rfl
 |cons x r S=>unfold atKey at S⊢;rw[WS,List.find?_cons,CZ,L,S];cases decide (x.1=k)<;>rfl
def sE(L:∀a b,cJ (c a) (c b)=decide (a=b))(v:Y3)(O:List (K×Y3))(X:(O.map (·.1)).Nodup):cU (O.map λp=>(c p.1,p.2)) (c k) v=(stored O k v).map λp=>(c p.1,p.2):=by
 induction O with
 |nil=>rfl
 |cons x r S=>
  rw[WS,Xc] at X;have S:=S X.2;unfold stored at S⊢;rw[WS,C3,L,Yg]
  by_cases e:x.1=k
  .rw[decide_eq_true e,Bool.true_or,if_pos rfl,WS,<-e,map_store_of_not_mem r x.1 v X.1,if_pos rfl];rfl
  .rw[decide_eq_false e,Bool.false_or]
   show(c x.1,x.2)::cU _ _ _=_;rw[S,WS,if_neg e];cases List.any r λp=>decide (p.1=k)<;>rfl
def Lu(L:∀a b,cJ (c a) (c b)=decide (a=b))(O:List (K×Y3))(X:(O.map (·.1)).Nodup):gP (O.map λp=>(c p.1,p.2)) (c k)=(without O k).map λp=>(c p.1,p.2):=by
 induction O with
 |nil=>rfl
 |cons x r S=>
  rw[WS,Xc] at X;rw[WS,Lr,L]
  by_cases e:x.1=k
  .rw[decide_eq_true e,show without (x::r) k=without r k from by unfold without;rw[Xj,decide_eq_false (not_not_intro e)];rfl,without_of_not_mem r k (e▸X.1)]
  .exact(decide_eq_false e)▸(show without (x::r) k=x::without r k from by unfold without;rw[Xj,decide_eq_true e];rfl)▸WS▸(S X.2)▸rfl
def LI(L:∀a b,cJ (c a) (c b)=decide (a=b))(b:Y4)(v:Y3)(O:List (K×Y4×Y3))(X:(O.map (·.1)).Nodup):cU (O.map λx=>(c x.1,x.2.2)) (c k) v=(storedH O k b v).map λx=>(c x.1,x.2.2):=by
 induction O with
 |nil=>rfl
 |cons x r S=>
  rw[WS,Xc] at X;have S:=S X.2;unfold storedH atKey at S⊢;rw[WS,C3,L,List.find?_cons]
  by_cases e:x.1=k
  .rw[decide_eq_true e]
   show _=((if true=true then(x::r).map (putAt k v)else _).map _:List _)
   rw[if_pos rfl,WS,<-e,map_putAt_of_not_mem r x.1 v X.1];show _=(c (putAt x.1 v x).1,(putAt x.1 v x).2.2)::_;unfold putAt;exact(if_pos rfl)▸rfl
  .rw[decide_eq_false e]
   show(c x.1,x.2.2)::cU _ _ _=_;rw[S];have z:putAt k v x=x:=if_neg e;generalize List.find? (λx=>decide (x.1=k)) r=N;induction N with|none=>rfl|some y=>show _=((if true=true then(x::r).map (putAt k v)else _).map _:List _);rw[if_pos rfl,WS,z];rfl
end
def o3(X:cn)(w:aL):eS->aE->Y3->Prop
 |.I,.i n,v=>∃t,v=.int n t
 |.S,.s x,v=>∃t,v=.str x t
 |.T,.t l,v=>∃a,v=.ref a/\w.G.a0 a/\IsTupleKey (intKind X.prog X.w) w.h l a
 |_,_,_=>False
def Oh{O:YU}(e:fP O=some l)(r:aK X w O c):PySem.ItemsAre (intKind X.prog X.w) l c:=by
 induction O generalizing l c with
 |nil=>exact Wc e▸r.eg .nil
 |cons x O S=>
  refine r.dK λv c a b=>?_;induction x using V.casesOn with
  |int i=>
   have e:(match fP O with|some l=>some (i::l)|none=>none)=some l:=e
   generalize A:fP O=N;induction N with
   |none=>rw[A] at e;exact ns e
   |some G=>rw[A] at e;exact Wc e▸a.dt (p:=λv=>PySem.ItemsAre (intKind X.prog X.w) (i::G) (v::c)) λ_=>.cons (intKind_is ..) (S A b)
  |_=>exact ns e
def pQ{k:eS}(e:fO k b=some key)(r:o X w b g):o3 X w k key g:=by
 induction k with
 |I=>induction b using V.casesOn with
  |int i=>exact Wc e▸r.dt λt=>⟨t,rfl⟩
  |_=>exact ns e
 |S=>induction b using V.casesOn with
  |str i=>exact Wc e▸r.f7 (p:=λb=>o3 X w .S _ b) λt=>⟨t,rfl⟩
  |_=>exact ns e
 |T=>induction b using V.casesOn with
  |ay O=>
   have e:(match fP O with|some l=>some (aE.t l)|none=>none)=some key:=e
   generalize A:fP O=N;induction N with
   |none=>rw[A] at e;exact ns e
   |some l=>rw[A] at e;exact Wc e▸r.gp (p:=λb=>o3 X w .T _ b) λa D f t _ r=>t.elim λH t=>t.2.2.elim λn T=>⟨a,rfl,f,H,_,n,t.1,t.2.1,T,Oh A r⟩
  |_=>exact ns e
section
variable{c:cu}{V:Z}
def ew.typeIs(j:ew h' f' c' a' s'):f'.s.TypeIs (.ref a') "dict":=by
 induction c' with|I=>exact j.elim λ_ j=>j.1.typeIs|S=>exact j.elim λ_ j=>j.1.typeIs|T=>exact j.elim λ_ j=>j.1.typeIs
def UY{α β:Type}{t:Sem α}{g:α->β}{Q:β->Y2}{E:YV}{s:Za}(h:wpAny r A (t>>=λx=>Pure.pure (g x)) Q E s):wpAny r A t (λx a=>Q (g x) a) E s:=λΓ p b=>by have:=h Γ p b;rw[Sem.wp_bind'] at this;exact this
def c4.qr(u:aP c V c')(M:∀(f':YV)(E:YV),(∀a',f' (.bool h') (c'.a8 a').s)->Zs c (w'>>=λx'=>Pure.pure (Value.bool x')) f' E c'.s):c4 c w' V c' V h':=λf' E U=>W6 (UY (g:=Value.bool) (M (λW o=>W=.bool h'/\∃a',o=(c'.a8 a').s) E λa'=>⟨rfl,a',rfl⟩)) (λC o j=>j.2.elim λa' J=>J▸U (c'.a8 a') C (.a8 u a') (Value.bool.inj j.1)) λ_ _ Y=>Y
def Ll(I:aP c V w)(H:c.A.units+1<cLine)(d:ew c.X w e a G)(i:(a==sysModules)=false)(m:o3 c.X w e key f):
  c4 c (contains (.ref a) f) V w V (VU (bL G key)):=by
 refine c4.qr I λQ E q=>?_;have p:∀{α:Type}{x:Ze α},VU x=x.isSome:=λ{_ x}=>by induction x<;>rfl
 rw[p] at q;induction e with
 |I=>induction key with
  |i n=>refine d.elim λO d=>m.elim λt aD=>?_;rw[d.2,pA aE.i n pP] at q;exact aD▸wpAny_in_of (intKind_is c.X.prog c.X.w _ t) i d.1.mapOf (q _)
  |_=>exact m.elim
 |S=>induction key with
  |s n=>refine d.elim λO d=>m.elim λt aD=>?_;rw[d.2,pA aE.s n ts] at q;exact aD▸wpAny_in_of (strKind_is c.X.prog c.X.w _ t) i d.1.mapOf (q _)
  |_=>exact m.elim
 |T=>induction key with|t l=>refine d.elim λO d=>m.elim λb aD=>?_;rw[d.2.1,yX aE.t l v8,Option.isSome_map] at q;exact aD.1▸wpAny_in_heap (tupleKind_room_in1 H) aD.2.2 i d.1 (q _)|_=>exact m.elim
def M8(I:aP c V w)(H:c.A.units+1<cLine)(d:ew c.X w f a G)(m:o3 c.X w f key g)(e:bL G key=some L):c4 c (getItem (.ref a) g) V w V L:=by
 refine c4.toks I λQ E q=>?_;induction f with
 |I=>induction key with
  |i n=>refine d.elim λO d=>m.elim λt aD=>?_;rw[d.2,pA aE.i n pP] at e;exact aD▸wpAny_getItem_of (intKind_is c.X.prog c.X.w _ t) d.1.mapOf e (q _)
  |_=>exact m.elim
 |S=>induction key with
  |s n=>refine d.elim λO d=>m.elim λt aD=>?_;rw[d.2,pA aE.s n ts] at e;exact aD▸wpAny_getItem_of (strKind_is c.X.prog c.X.w _ t) d.1.mapOf e (q _)
  |_=>exact m.elim
 |T=>induction key with|t l=>refine d.elim λO d=>m.elim λb aD=>?_;rw[d.2.1,yX aE.t l v8] at e;exact(Ye.mp e).elim λp V=>aD.1▸wpAny_getItem_heap (tupleKind_room_in1 H) aD.2.2 d.1 V.1 (V.2▸q _)|_=>exact m.elim
end
def r4(X:cn)(w:aL)(a:Y4):iO->Prop
 |.D k T=>(a==sysModules)=false/\∃G,ew X w k a G/\G.length<=b0/\b2 X w T G
 |.L O=>∃D:YY,w.h.PlainList a D.toArray/\D.length<=b0/\aK X w O D
 |.T O=>∃D:YY,w.h.IsTuple a D.toArray/\D.length<=b0/\aK X w O D
def oO(R:bB X b w){p:Nat}{q:Y3->Prop}(e:b.get p=some H)(r:o X w (.ref p) c)(k:∀a,w.G.aO p=some a->fR X w p H->q (.ref a)):q c:=r.w3 λa E=>k a E (R.slot p H e)
def kx{v:V}(R:bB X b w)(e:gz v b=some y)(r:o X w v g):∃a,g=.ref a/\r4 X w a y:=by
 induction v using V.casesOn with
 |ah k T=>exact Wc e▸r.yV (p:=λv=>∃a,v=.ref a/\r4 X w a (.D k T)) λa G _ P N t c=>⟨a,rfl,P,G,N,t,c⟩
 |ae O=>exact Wc e▸r.ic (p:=λv=>∃a,v=.ref a/\r4 X w a (.L O)) λa D _ P N t=>⟨a,rfl,D,P,N,t⟩
 |ay O=>exact Wc e▸r.gp (p:=λv=>∃a,v=.ref a/\r4 X w a (.T O)) λa D _ P N t=>⟨a,rfl,D,P,N,t⟩
 |ref p=>
  have e:(match b.get p with
   |some (.ae O _)=>some (iO.L O)
   |some (.ah k T _)=>some (.D k T)
   |_=>none)=some y:=e
  generalize s:b.get p=d;induction d with
  |none=>rw[s] at e;exact ns e
  |some H=>
   rw[s] at e;refine oO R (q:=λv=>∃a,v=.ref a/\r4 X w a y) s r λa E S=>⟨a,rfl,?_⟩;induction H with
   |ae O l=>exact Wc e▸(Wc (S.1.symm.trans E)▸S.2)
   |ah k T l=>exact Wc e▸(Wc (S.1.symm.trans E)▸S.2)
   |ins=>exact ns e
 |_=>exact ns e
def sv{v:V}(e:d4 v b=some a):gz v b=some (.L a):=by
 induction v using V.casesOn with
 |ae=>exact Wd (λl=>some (iO.L l)) (Wc e)
 |ref p=>
  have e:(match b.get p with|some (.ae a _)=>some a|_=>none)=some a:=e
  show(match b.get p with
   |some (.ae a _)=>some (iO.L a)
   |some (.ah k T _)=>some (.D k T)
   |_=>none)=_
  generalize s:b.get p=N;induction N with
  |none=>rw[s] at e;exact ns e
  |some o=>rw[s] at e;induction o with
   |ae=>exact Wd (λl=>some (iO.L l)) (Wc e)
   |_=>exact ns e
 |_=>exact ns e
def mZ{v:V}{p:Y3->Prop}(R:bB X c w)(e:d4 v c=some d)(r:o X w v g)(k:∀a b,w.h.PlainList a b.toArray->b.length<=b0->aK X w d b->p (.ref a)):p g:=
 (kx R (sv e) r).elim λa h=>h.1▸h.2.elim λb h=>k a b h.1 h.2.1 h.2.2
def HO(R:bB X a w)(e:k' b a=some L)(r:o X w b g):o X (w.done a) L g:=by
 induction b using V.casesOn with|ref p=>exact w4 R 12 (.ref p) L g e r|_=>exact Wc e▸r.ext (.done ..)
def QN(r:aK X w b a):(!a.toArray.isEmpty)=j1 b:=by
 induction b with|nil=>exact r.eg (q:=λa=>(!a.toArray.isEmpty)=_) rfl|cons=>exact r.dK (q:=λa=>(!a.toArray.isEmpty)=_) λ_ _ _ _=>rfl
def QY(i:Int):(i != 0)=wF i:=by
 induction i with
 |ofNat n=>induction n<;>rfl
 |negSucc n=>rfl
def xF(I:aP c f w)(e:VQ h f=some b)(r:o c.X w h g):c4 c (PySem.truthy g) f w f b:=by
 have l:(Y (d4 h f) λO=>some (j1 O))=some b->c4 c (PySem.truthy g) f w f b:=λe=>aA e λO j e=>mZ (p:=λg=>c4 c (PySem.truthy g) f w f b) I.aH j r λa D k X F=>c4.toks I λQ E q=>wpAny_truthy_list k.isList (by exact WB▸(Int.lt_of_le_of_lt (Int.ofNat_le.mpr X) (by decide))) (by exact(QN F)▸(Wc e)▸q _)
 induction h using V.casesOn with|bool d=>exact Wc e▸r.kq (p:=λg=>c4 c (PySem.truthy g) f w f d) (c4.toks I λQ E q=>XY (q w.s.toks))|int i=>exact Wc e▸r.dt (p:=λg=>c4 c (PySem.truthy g) f w f (wF i)) λt=>c4.toks I λQ E q=>truthy_int (QY i▸q w.s.toks)|_=>exact l e
noncomputable def ps:r3->CmpOp
 |.eq=>.Eq|.cC=>.NotEq|.lt=>.Lt|.gt=>.Gt|.mP=>.GtE|.is=>.Is|.mW=>.IsNot|.kJ=>.In|.j0=>.NotIn
def BC(e:iM x y=some b)(p:o X w x a)(q:o X w y L):EqAt A w.s a L b:=by
 induction x using V.casesOn with|int i=>exact aA e λj h e=>Wc e▸p.dt (p:=λa=>EqAt A w.s a L _) λ_=>(hE h▸q).dt (p:=λL=>EqAt A w.s _ L _) λ_=>by rw[zH];exact .int_int _ _ _ _|str i=>exact aA e λj h e=>Wc e▸p.f7 (p:=λa=>EqAt A w.s a L _) λ_=>(uR h▸q).f7 (p:=λL=>EqAt A w.s _ L _) λ_=>by rw[oL];exact .str_str _ _ _ _|_=>exact ns e
def p0(e:wu x a=some b):(∀y∈a,∃c,iM y x=some c)/\b=a.any (λy=>(iM y x).getD false):=by
 induction a generalizing b with
 |nil=>exact⟨λy L=>(es L),(Wc e).symm⟩
 |cons y r S=>refine aA e λc F e=>aA e λd T e=>⟨λz f=>(Wz.mp f).elim (λq=>⟨c,q▸F⟩) ((S T).1 z),?_⟩;refine Yg▸F▸((S T).2)▸(Wc e)▸?_;induction c<;>rfl
def mb(x:V)(v:Y3):Bool:=match x,v with
 |.int a,.int b _=>dr b a
 |.str a,.str b _=>VP b a
 |_,_=>false
def xg(e:iM y x=some b)(r:o X w y a):mb x a=b:=by
 induction y using V.casesOn with|int i=>exact aA e λj h e=>hE h▸r.dt (p:=λa=>mb (.int j) a=b) λ_=>Wc e|str i=>exact aA e λj h e=>uR h▸r.f7 (p:=λa=>mb (.str j) a=b) λ_=>Wc e|_=>exact ns e
def B3(k:∀y∈d,∃c,iM y x=some c)(r:aK X w d b):d.any (λy=>(iM y x).getD false)=b.toArray.any (mb x):=by
 rw[List.any_toArray];induction d generalizing b with|nil=>exact r.eg (q:=λb=>_=b.any (mb x)) rfl|cons y d S=>refine r.dK (q:=λb=>_=b.any (mb x)) λv b a r=>(k y (.head _)).elim λc F=>?_;rw[Yg,Yg,F,S (λy L=>k y (.tail _ L)) r,xg F a];rfl
def Ae(k:∀y∈b,∃c,iM y x=some c)(p:o X w x d)(q:aK X w b a):∀y,y∈a.toArray->EqAt A w.s y d (mb x y):=λy L=>(List.mem_iff_getElem?.mp (List.mem_toArray.mp L)).elim λj P=>(q.get P).elim λz h=>(k z (List.mem_of_getElem? h.1)).elim λc F=>by exact(xg F h.2)▸BC F h.2 p
def Oe(r:b2 X w b a)(n:aE):VU (bL a n)=VU (bL b n):=(r.au n).elim (λh=>h.elim λx h=>h.elim λv h=>by refine h.1▸h.2.1▸?_;rfl) λh=>by refine h.1▸h.2▸?_;rfl
def EJ(I:aP c f w)(H:c.A.units+30<cLine)(e:zJ a b f=some r)(p:o c.X w a B)(q:o c.X w b i):c4 c (contains i B) f w f r:=
 aA e λy F e=>(kx I.aH F q).elim λd h=>h.1▸by
  have h:=h.2;induction y with|D k T=>exact aA e λA s e=>h.2.elim λG N=>Wc e▸Oe N.2.2 A▸Ll I (Wf (Wt (by decide) _) H) N.1 h.1 (pQ s p)|L O=>exact h.elim λD h=>(p0 e).2▸B3 (p0 e).1 h.2.2▸c4.qr I λQ E z=>in_listAt (mb a) h.1.isList (Ae (p0 e).1 p h.2.2) (z w.s.toks)|T O=>exact h.elim λD h=>(p0 e).2▸B3 (p0 e).1 h.2.2▸c4.qr I λQ E z=>in_tupleAt (mb a) h.1 (Ae (p0 e).1 p h.2.2) (z w.s.toks)
def F3{a b:Nat}:Int.negSucc a<Int.negSucc b↔b<a:=by rw[Yb,Yb];exact Int.neg_lt_neg_iff.trans (XM.trans Nat.add_lt_add_iff_right)
def tj(a b:Int):gf a b=decide (a<b):=by
 rw[W7,decide_eq_true_iff];induction a with
 |ofNat a=>induction b with
  |ofNat b=>exact⟨λh=>XM.mpr (fT h),λh=>Xe (XM.mp h)⟩
  |negSucc b=>exact⟨λh=>(bb h),λh=>absurd (YN h (Xh b)) (YM.mpr (W4 a))⟩
 |negSucc a=>induction b with|ofNat b=>exact⟨λ_=>Int.lt_of_lt_of_le (Xh a) (W4 b),λ_=>rfl⟩|negSucc b=>exact⟨λh=>F3.mpr (fT h),λh=>Xe (F3.mp h)⟩
def zL{f:Int->Int->Bool}{t:Y3->Y3->Sem Y3}(I:aP c d w)(e:(Y (fm a) λx=>Y (fm b) λy=>some (f x y))=some r)(p:o c.X w a B)(q:o c.X w b i)
  (k:∀(x y:Int)(L g:Tok)(Q:YV)(E:YV),Q (.bool (f x y)) w.s->Zs c (t (.int x L) (.int y g)) Q E w.s):c4 c (t B i) d w d (.bool r):=
 aA e λx h e=>aA e λy j e=>Wc e▸(hE h▸p).dt (p:=λB=>c4 c (t B i) d w d _) λL=>(hE j▸q).dt (p:=λi=>c4 c (t _ i) d w d _) λg=>c4.toks I λQ E z=>k x y L g Q E (z w.s.toks)
def ES(p:o X w a L):(L==.none)=iC a:=o.casesOn p rfl rfl rfl rfl (λ_ _ _ _=>rfl) (λ_ _ _ _=>rfl) (λ_ _ _ _ _=>rfl) (λ_ _ _ _ _ _=>rfl) (λ_=>rfl) (λ_ _ _ _=>rfl)
def Gx{t:V->V->Ze Bool}(I:aP c f w)(e:(Y (k' a f) λa=>Y (k' b f) λb=>t a b)=some r)(p:o c.X w a B)(q:o c.X w b i){C:Prop}
 (k:∀A d,t A d=some r->o c.X (w.done f) A B->o c.X (w.done f) d i->C):C:=aA e λA g e=>aA e λd s e=>k A d e (HO I.aH g p) (HO I.aH s q)
def pv(I:aP c d w)(H:c.A.units+30<cLine)(e:dx f a b d=some r)(p:o c.X w a B)(q:o c.X w b i):c4 c (compareOp (ps f) B i) d w d (.bool r):=by
 have g:=Wf (Wq _ _) H;have S:∀{x y:V}{v u:Y3}{r:Bool},gq 19 x y=some r->o c.X (w.done d) x v->o c.X (w.done d) y u->EqAt c.A.in1 w.s v u r:=λe p q=>Ma (w:=w.done d) 19 (by show c.A.units+1+19<_;exact Wf (by rw[Wl];exact Wt (by decide) _) H) e p q
 induction f with|is=>exact bR e λh e=>(vY h▸q).l4 (p:=λi=>c4 c (compareOp .Is B i) d w d (.bool r)) (c4.toks I λQ E z=>is_none_gen (by exact(ES p)▸(Wc e)▸z w.s.toks))|mW=>exact bR e λh e=>(vY h▸q).l4 (p:=λi=>c4 c (compareOp .IsNot B i) d w d (.bool r)) (c4.toks I λQ E z=>isnot_none_gen (by exact(ES p)▸(Wc e)▸z w.s.toks))|eq=>exact Gx I e p q λA R e p q=>c4.toks I λQ E k=>(AO S g e p q).1 _ _ E Q (k w.s.toks)|cC=>exact Gx I e p q λA R e p q=>aA e λt e j=>Wc j▸c4.toks I λQ E k=>(AO S g e p q).2 _ _ E Q (k w.s.toks)|kJ=>exact c4.bind I (EJ I H e p q) λl T=>bP.pure (I.aF T) rfl|j0=>exact aA e λt m e=>Wc e▸c4.bind I (EJ I H m p q) λl T=>bP.pure (I.aF T) rfl|lt=>exact zL I e p q λx y u v Q E z=>lt_int (tj x y▸z)|gt=>exact zL I e p q λx y u v Q E z=>gt_int (by have z:=z;rw[tj] at z;exact z)|mP=>exact zL I e p q λx y u v Q E z=>ge_int (by have z:=z;rw[tj,show(!(decide (x<y)))=decide (y<=x) from by rw[W7,XZ,decide_eq_false_iff_not,decide_eq_true_iff];exact YM] at z;exact z)
end Mine.Internal
end
noncomputable section
open PySem PySem.W PySem.Calls PyProof.Rows
namespace Mine.Internal
noncomputable def h8(V:Y'->Ze Y6)(s:Y'):Bool:=match V s with|some .globalImplicit=>true|_=>false
def l0(V:Y'->Ze Y6)(s:Y'):Bool:=Zx (match V s with|some .local=>true|some .cell=>true|_=>false)
def l6(s:Y'):Bool:= !(VP s "__debug__")&& !(VP s "__classdict__")
noncomputable def Uk:Y9->Nat
 |.BoolOp ..=>0
 |.NamedExpr ..=>1
 |.BinOp ..=>2
 |.UnaryOp ..=>3
 |.Lambda ..=>4
 |.IfExp ..=>5
 |.Dict ..=>6
 |.Set ..=>7
 |.ListComp ..=>8
 |.SetComp ..=>9
 |.DictComp ..=>10
 |.GeneratorExp ..=>11
 |.Await ..=>12
 |.Yield ..=>13
 |.YieldFrom ..=>14
 |.Compare ..=>15
 |.Call ..=>16
 |.FormattedValue ..=>17
 |.JoinedStr ..=>18
 |.Constant ..=>19
 |.Attribute ..=>20
 |.Subscript ..=>21
 |.Starred ..=>22
 |.Name ..=>23
 |.List ..=>24
 |.Tuple ..=>25
 |.Slice ..=>26
def js(n:Nat)(x:Y9):Bool:=Nat.beq (Uk x) n
def tQ(x:Y9):Bool:= !(js 26 x)
def e3(x:Y9):Bool:= !(js 22 x)
def p6(x:Y9):Bool:= !(js 7 x)
def v3(x:Y9):Bool:=js 25 x
def rE(x:Y9):Bool:= !(js 8 x)&&(!(js 9 x)&& !(js 10 x))
noncomputable def Bz:ym->UnaryOp
 |.neg=>.USub|.not=>.Not|.ag=>.Invert
noncomputable def sg:Bool->BoolOp
 |true=>.And|false=>.Or
noncomputable def qK:qA->Y'
 |.len=>"len"|.rX=>"sum"|.sorted=>"sorted"|.abs=>"abs"|.int=>"int"|.str=>"str"|.tuple=>"tuple"|.list=>"list"|.dict _=>"dict"
noncomputable def qL:qA->Y3
 |.len=>.builtin "len"|.rX=>.builtin "sum"|.sorted=>.builtin "sorted"|.abs=>.builtin "abs"|.int=>.type "int"|.str=>.type "str"|.tuple=>.type "tuple"|.list=>.type "list"|.dict _=>.type "dict"
noncomputable def vZ(v:Ze Y3)(a:Y4):Bool:=match v with|some (.ref b)=>Nat.beq b a|_=>false
def EU(h:vZ b a):b=some (.ref a):=by
 unfold vZ at h
 split at h
 .rw[We h]
 .cases h
noncomputable def j5(V:Y'->Ze Y6)(f:List (Y'×Y6)):List (Y'×Y6):=f.map λ(n,k)=>match k with
 |.free=>(match V n with|some .cell=>(n,.cell)|_=>(n,.free))
 |k=>(n,k)
def kP{α:Type}(O:List (Y'×α)):Y'->Ze α:=
 O.rec (λ_=>none) λm _ S s=>match VP m.1 s with|true=>some m.2|false=>S s
def PA(s:Y')(l:List (Y'×α)):kP l s=l.lookup s:=by
 induction l with
 |nil=>rfl
 |cons x r S=>
  refine(?_:(match VP x.1 s with|true=>some x.2|false=>kP r s)=_)
  rw[XB,S,oL,show(s==x.1)=(x.1==s) from Bool.beq_comm];cases x.1==s<;>rfl
def p5(O:List Y'):Bool:=
 O.rec true λx r S=>(r.all λy=> !(VP x y))&&S
def oK(V:Y'->Ze Y6)(E:Zc):Bool:=
 (match E.kind with|.function=>true|_=>false)&&(!E.isGenerator&&(!E.isCoroutine&&(p5 (E.names.map (·.1))&&
 E.names.all λx=> !(VP x.1 "__class__")&&match x.2 with
  |.free=>(match V x.1 with|some .cell=>true|_=>false)
  |.local=>true
  |.cell=>true
  |.globalImplicit=>true
  |_=>false)))
noncomputable def ij:E->Bool
 |.bI _=>false
 |_=>true
noncomputable def QP:jC->Bool
 |.ef=>false
 |_=>true
def tY(X:cn)(d:YZ)(ns:List (Y'×Y6)):Bool:=ns.all λx=>match x.2 with
 |.local|.cell=>VP x.1 ".0"||d.any λq=>VP (X.az q) x.1
 |.free=> !(d.any λq=>VP (X.az q) x.1)
 |_=>true
noncomputable def xl{α:Type}:Ze α->List α
 |some x=>[x]
 |none=>[]
structure Jd where
 zT:List Y9
 k:Nat
 az:Y'
 nr:Ze Zc
def xP:Y9->Jd
 |.BoolOp _ O _=>⟨O,0,"",none⟩
 |.BinOp a _ b _=>⟨[a,b],0,"",none⟩
 |.UnaryOp _ a _=>⟨[a],0,"",none⟩
 |.IfExp t a b _=>⟨[t,a,b],0,"",none⟩
 |.Dict R D _=>⟨(R.filterMap id)++D,0,"",none⟩
 |.ListComp e [g] E _=>⟨e::g.target::g.iter::g.ifs,0,"",some E⟩
 |.Compare a _ d _=>⟨a::d,0,"",none⟩
 |.Call f O _ _=>⟨f::O,0,"",none⟩
 |.Constant _ k _=>⟨[],k,"",none⟩
 |.Attribute a _ _=>⟨[a],0,"",none⟩
 |.Subscript a b _=>⟨[a,b],0,"",none⟩
 |.Name s _=>⟨[],0,s,none⟩
 |.List O _=>⟨O,0,"",none⟩
 |.Tuple O k _=>⟨O,k,"",none⟩
 |.Slice a b c _=>⟨xl a++(xl b++xl c),0,"",none⟩
 |_=>⟨[],0,"",none⟩
def cR(x:Y9):List Y9:=(xP x).zT
def lR(x:Y9):Nat:=(xP x).k
def hN(x:Y9):Y':=(xP x).az
def ma(x:Y9):Ze Zc:=(xP x).nr
def p7(o:Y9):Bool:= !(js 16 o)|| !(VP (hN (match cR o with|f::_=>f|[]=>o)) "super")
noncomputable def ck:Y9:=.Name "" default
def ax(x:Y9)(i:Nat):Y9:=match a3 (cR x) i with|some y=>y|none=>ck
noncomputable def cD{α β γ:Type}(d:β)(f:α->β->γ):List α->List β->List γ
 |[],_=>[]
 |a::r,[]=>f a d::cD d f r []
 |a::r,b::s=>f a b::cD d f r s
noncomputable def Fm:V->Const
 |.bool b=>.bool b
 |.int i=>.int i
 |.str s=>.str s
 |_=>.none
noncomputable def Oc:V->Bool
 |.none=>true
 |.bool _=>true
 |.int _=>true
 |.str _=>true
 |_=>false
def ER:V->Ze Y3->Bool
 |.int i,some (.int j _)=>dr i j
 |.str a,some (.str b _)=>VP a b
 |_,_=>false
def g0(X:cn)(d:YZ)(x:Y9):Y9:=match d with
 |[n]=>.Name (X.az n) x.pos
 |ns=>.Tuple (cD ck (λn y=>.Name (X.az n) y.pos) ns (cR x)) (lR x) x.pos
def oz(X:cn)(V:Y'->Ze Y6)(d:YZ):Bool:=j1 d&&d.all λn=>l0 V (X.az n)
noncomputable def eO{α β:Type}(d:β)(f:α->β->Bool):List α->List β->Bool
 |[],_=>true
 |a::r,[]=>f a d&&eO d f r []
 |a::r,b::s=>f a b&&eO d f r s
def Kh(X:cn)(k f:Nat):Bool:=Zx (Nat.ble (39*X.P.kY f+59) k)
def Ao(X:cn)(k c:Nat):Bool:=match Y (X.P.cls c) λq=>q.init with
 |some i=>Nat.ble (39*X.P.kY i+79) k
 |none=>true
def tN(V:Y'->Ze Y6)(x:Y9):Y'->Ze Y6:=match ma x with
 |some E=>kP (j5 V E.names)
 |none=>λ_=>none
mutual
noncomputable def aJ(X:cn):Nat->E->Y9->Y9
 |0,_,x=>x
 |k+1,e,x=>match e with
  |.bI a=>aJ X k a x
  |.lit v=>.Constant (Fm v) (lR x) x.pos
  |.d8 _=>.Name (hN x) x.pos
  |.F n=>.Name (X.az n) x.pos
  |.aS a n=>.Attribute (aJ X k a (ax x 0)) (X.az n) x.pos
  |.a7 F _ a b=>.BinOp (aJ X k a (ax x 0)) (oA F) (aJ X k b (ax x 1)) x.pos
  |.c6 F a=>.UnaryOp (Bz F) (aJ X k a (ax x 0)) x.pos
  |.aw F a b=>.Compare (aJ X k a (ax x 0)) [ps F] [aJ X k b (ax x 1)] x.pos
  |.kv K d a b c=>.Compare (aJ X k a (ax x 0)) [ps K,ps d] [aJ X k b (ax x 1),aJ X k c (ax x 2)] x.pos
  |.bool and G=>.BoolOp (sg and) (cD ck (aJ X k) G (cR x)) x.pos
  |.ite t a b=>.IfExp (aJ X k t (ax x 0)) (aJ X k a (ax x 1)) (aJ X k b (ax x 2)) x.pos
  |.ay G=>.Tuple (cD ck (aJ X k) G (cR x)) (lR x) x.pos
  |.ae _ G=>.List (cD ck (aJ X k) G (cR x)) x.pos
  |.ah _ R D=>.Dict ((cD ck (aJ X k) R (cR x)).map some) (cD ck (aJ X k) D ((cR x).drop R.length)) x.pos
  |.sub a i=>.Subscript (aJ X k a (ax x 0)) (aJ X k i (ax x 1)) x.pos
  |.gk _ a L A=>.Subscript (aJ X k a (ax x 0)) (.Slice (L.map λe=>aJ X k e (ax (ax x 1) 0)) (A.map λe=>aJ X k e (ax (ax x 1) 0)) none (ax x 1).pos) x.pos
  |.oH _ a=>.Subscript (aJ X k a (ax x 0)) (.Slice none none (some (.UnaryOp .USub (.Constant (.int 1) (lR (ax (ax (ax x 1) 0) 0)) (ax (ax (ax x 1) 0) 0).pos) (ax (ax x 1) 0).pos)) (ax x 1).pos) x.pos
  |.call _ _ G=>.Call (.Name (hN (ax x 0)) (ax x 0).pos) (cD ck (aJ X k) G (cR x).tail) [] x.pos
  |.new _ G=>.Call (.Name (hN (ax x 0)) (ax x 0).pos) (cD ck (aJ X k) G (cR x).tail) [] x.pos
  |.aC a n G=>.Call (.Attribute (aJ X k a (ax (ax x 0) 0)) (X.az (hp n)) (ax x 0).pos) (cD ck (aJ X k) G (cR x).tail) [] x.pos
  |.bq _ b G=>.Call (.Name (qK b) (ax x 0).pos) (cD ck (aJ X k) G (cR x).tail) [] x.pos
  |.comp _ l g T B=>match ma x with
   |some f=>.ListComp (aJ X k l (ax x 0)) [⟨g0 X g (ax x 1),mh X k T (ax x 2),(B.map λe=>aJ X k e (ax x 3)).toList,0⟩] f x.pos
   |none=>x
  |.k9 ..=>x
noncomputable def mh(X:cn):Nat->dv->Y9->Y9
 |0,_,x=>x
 |k+1,T,x=>match T with
  |.e a=>aJ X k a x
  |.range L A=>match L with
   |none=>.Call (.Name "range" (ax x 0).pos) [aJ X k A (ax x 1)] [] x.pos
   |some L=>.Call (.Name "range" (ax x 0).pos) [aJ X k L (ax x 1),aJ X k A (ax x 2)] [] x.pos
  |.jl a=>.Call (.Name "enumerate" (ax x 0).pos) [aJ X k a (ax x 1)] [] x.pos
  |.rP a=>.Call (.Name "reversed" (ax x 0).pos) [aJ X k a (ax x 1)] [] x.pos
end
def sV(T:dv)(d:YZ):Bool:=Zx (match T with
 |.jl _=>(match d with|_::_::_=>true|_=>false)
 |_=>true)
def DJ(h:sV (.jl a) d):∃x y r,d=x::y::r:=by
 induction d with
 |nil=>nomatch h
 |cons x l=>induction l with
  |nil=>nomatch h
  |cons y r=>exact⟨_,_,_,rfl⟩
mutual
noncomputable def bQ(X:cn):Nat->(Y'->Ze Y6)->E->Y9->Bool
 |0,_,_,_=>false
 |k+1,V,e,x=>match e with
  |.bI a=>bQ X k V a x
  |.lit v=>Oc v
  |.d8 v=>l6 (hN x)&&(h8 V (hN x)&&ER v (X.jU (hN x)))
  |.F n=>l6 (X.az n)&&iY V (X.az n)
  |.aS a n=>Nat.blt n X.l3&&(p7 (aJ X k a (ax x 0))&&bQ X k V a (ax x 0))
  |.a7 _ _ a b=>bQ X k V a (ax x 0)&&bQ X k V b (ax x 1)
  |.c6 _ a=>ij a&&bQ X k V a (ax x 0)
  |.aw _ a b=>bQ X k V a (ax x 0)&&(bQ X k V b (ax x 1)&&p6 (aJ X k b (ax x 1)))
  |.kv _ _ a b c=>bQ X k V a (ax x 0)&&(bQ X k V b (ax x 1)&&(bQ X k V c (ax x 2)&&p6 (aJ X k c (ax x 2))))
  |.bool _ G=>G.all ij&&eO ck (bQ X k V) G (cR x)
  |.ite t a b=>ij t&&(ij a&&(ij b&&(bQ X k V t (ax x 0)&&(bQ X k V a (ax x 1)&&bQ X k V b (ax x 2)))))
  |.ay G=>Nat.ble (VN G) 64&&((cD ck (aJ X k) G (cR x)).all e3&&eO ck (bQ X k V) G (cR x))
  |.ae _ G=>Nat.ble (VN G) 64&&((cD ck (aJ X k) G (cR x)).all e3&&eO ck (bQ X k V) G (cR x))
  |.ah m R D=>(tR m|| !(j1 R))&&(Nat.ble (VN R) 15&&(Nat.beq (VN R) (VN D)&&(eO ck (bQ X k V) R (cR x)&&eO ck (bQ X k V) D ((cR x).drop R.length))))
  |.sub a i=>tQ (aJ X k i (ax x 1))&&(bQ X k V a (ax x 0)&&bQ X k V i (ax x 1))
  |.gk _ a L A=>bQ X k V a (ax x 0)&&(match L with|some p=>bQ X k V p (ax (ax x 1) 0)&& !(VU A)|none=>match A with|some p=>bQ X k V p (ax (ax x 1) 0)|none=>false)
  |.oH _ a=>bQ X k V a (ax x 0)
  |.call h f G=>QP h&&(Kh X k f&&(l6 (hN (ax x 0))&&(h8 V (hN (ax x 0))&&(vZ (X.jU (hN (ax x 0))) (X.di f)&&(Nat.ble (VN G) 20&&((cD ck (aJ X k) G (cR x).tail).all e3&&eO ck (bQ X k V) G (cR x).tail))))))
  |.new c G=>Nat.blt c X.iZ&&(Ao X k c&&(l6 (hN (ax x 0))&&(h8 V (hN (ax x 0))&&(vZ (X.jU (hN (ax x 0))) (X.cP c)&&(Nat.ble (VN G) 20&&((cD ck (aJ X k) G (cR x).tail).all e3&&eO ck (bQ X k V) G (cR x).tail))))))
  |.aC a n G=>Nat.blt (hp n) X.l3&&(Nat.ble (39*rx n+59) k&&(p7 (aJ X k a (ax (ax x 0) 0))&&(Nat.beq (ax x 0).pos.endLine x.pos.line&&(Nat.ble (VN G) 20&&((cD ck (aJ X k) G (cR x).tail).all e3&&(bQ X k V a (ax (ax x 0) 0)&&eO ck (bQ X k V) G (cR x).tail))))))
  |.bq _ b G=>h8 V (qK b)&&(Nat.ble (VN G) 20&&((cD ck (aJ X k) G (cR x).tail).all e3&&eO ck (bQ X k V) G (cR x).tail))
  |.comp _ l d T B=>(match ma x with
   |some g=>oK V g&&tY X d g.names
   |none=>false)&&(sV T d&&(rH X k V T (ax x 2)&&(oz X (tN V x) d&&(bQ X k (tN V x) l (ax x 0)&&(match B with
   |some c=>ij c&&bQ X k (tN V x) c (ax x 3)
   |none=>true)))))
  |.k9 ..=>false
noncomputable def rH(X:cn):Nat->(Y'->Ze Y6)->dv->Y9->Bool
 |0,_,_,_=>false
 |k+1,V,T,x=>match T with
  |.e a=>bQ X k V a x
  |.range L A=>h8 V "range"&&(match L with
   |none=>e3 (aJ X k A (ax x 1))&&bQ X k V A (ax x 1)
   |some L=>e3 (aJ X k L (ax x 1))&&(e3 (aJ X k A (ax x 2))&&(bQ X k V L (ax x 1)&&bQ X k V A (ax x 2))))
  |.jl a=>h8 V "enumerate"&&(e3 (aJ X k a (ax x 1))&&bQ X k V a (ax x 1))
  |.rP a=>h8 V "reversed"&&(e3 (aJ X k a (ax x 1))&&bQ X k V a (ax x 1))
end
noncomputable def i5(V:Y'->Ze Y6)(c:List Y9):List Y':=c.filterMap λ
 |.Name id X=>if V id==some .local&&X.line==(c.head?.map (·.pos.line)).getD 0 then some id else none
 |_=>none
noncomputable def N':E->Bool
 |.comp ..=>true
 |_=>false
def Bk(V:Y'->Ze Y6)(G:List Y9)(v:Y9):Bool:=match v3 v with
 |true=>Nat.beq (VN (cR v)) (VN G)&&((Nat.beq (VN G) 2||Nat.beq (VN G) 3)&&((cR v).all e3&&(Nat.beq (VN (i5 V G)) (VN G)&&(p5 (i5 V G)&&(!((cR v).all (foldedForSure 8))&& !((cR v).all (constantsAlone 8)))))))
 |false=> !(js 24 v)
structure IU where
 zT:List Y9
 a:List Zd
 b:List Zd
def ny:Zd->IU
 |.Return v _=>⟨xl v,[],[]⟩
 |.Assign c v _=>⟨v::c,[],[]⟩
 |.AugAssign t _ v _=>⟨[v,t],[],[]⟩
 |.For t i b _ _=>⟨[t,i],b,[]⟩
 |.While t b _ _=>⟨[t],b,[]⟩
 |.If t a b _=>⟨[t],a,b⟩
 |.Expr v _=>⟨[v],[],[]⟩
 |_=>⟨[],[],[]⟩
def mz(y:Zd):List Zd:=(ny y).a
def Cc(y:Zd):List Zd:=(ny y).b
def bZ(y:Zd)(i:Nat):Y9:=match a3 (ny y).zT i with|some y=>y|none=>ck
def iG:Zd:=Zx (.Pass default)
def Uu(X:cn)(k:Nat)(t:o')(x:Y9):Y9:=match t with
 |.F n=>.Name (X.az n) x.pos
 |.aS o a=>.Attribute (aJ X k o (ax x 0)) (X.az a) x.pos
 |.sub o i=>.Subscript (aJ X k o (ax x 0)) (aJ X k i (ax x 1)) x.pos
 |.ay ns=>.Tuple (cD ck (λn y=>.Name (X.az n) y.pos) ns (cR x)) (lR x) x.pos
def kc(X:cn)(O:Nat):S->Zd->Zd:=
 O.rec (λ_ y=>y) λk c j y=>match j with
  |.hc=>y
  |.eD=>.Pass y.pos
  |.bY t e=>.Assign [Uu X k t (bZ y 1)] (aJ X k e (bZ y 0)) y.pos
  |.pe n F e=>.AugAssign (.Name (X.az n) (bZ y 1).pos) (oA F) (aJ X k e (bZ y 0)) y.pos
  |.expr e=>.Expr (aJ X k e (bZ y 0)) y.pos
  |.ret e=>.Return (e.map λe=>aJ X k e (bZ y 0)) y.pos
  |.ite t a b=>.If (aJ X k t (bZ y 0)) (cD iG c a (mz y)) (cD iG c b (Cc y)) y.pos
  |.il t b=>.While (aJ X k t (bZ y 0)) (cD iG c b (mz y)) [] y.pos
  |.b5 d T b=>.For (g0 X d (bZ y 0)) (mh X k T (bZ y 1)) (cD iG c b (mz y)) [] y.pos
def AG(X:cn)(k:Nat)(V:Y'->Ze Y6)(e:E)(v:Y9)(t:o')(x:Y9):Bool:=match t with
 |.F n=>l0 V (X.az n)&&(rE v||N' e)
 |.aS o a=>Nat.blt a X.l3&&bQ X k V o (ax x 0)
 |.sub o i=>tQ (aJ X k i (ax x 1))&&(bQ X k V o (ax x 0)&&bQ X k V i (ax x 1))
 |.ay ns=>(match ns with|_::_::_=>true|_=>false)&&(rE v&&((ns.all λn=>l0 V (X.az n))&&Bk V (cD ck (λn y=>Expr.Name (X.az n) y.pos) ns (cR x)) v))
def m9(X:cn)(O:Nat):(Y'->Ze Y6)->S->Zd->Bool:=
 O.rec (λ_ _ _=>false) λk c V j y=>match j with
  |.hc=>true
  |.eD=>true
  |.bY t e=>bQ X k V e (bZ y 0)&&AG X k V e (aJ X k e (bZ y 0)) t (bZ y 1)
  |.pe n _ e=>l6 (X.az n)&&(l0 V (X.az n)&&bQ X k V e (bZ y 0))
  |.expr e=>rE (aJ X k e (bZ y 0))&&bQ X k V e (bZ y 0)
  |.ret e=>match e with
   |none=>true
   |some e=>bQ X k V e (bZ y 0)
  |.ite t a b=>ij t&&(bQ X k V t (bZ y 0)&&(eO iG (c V) a (mz y)&&eO iG (c V) b (Cc y)))
  |.il t b=>ij t&&(bQ X k V t (bZ y 0)&&eO iG (c V) b (mz y))
  |.b5 d T b=>sV T d&&(oz X V d&&(rH X k V T (bZ y 1)&&eO iG (c V) b (mz y)))
end Mine.Internal
end
noncomputable section
open PySem PySem.W PySem.Calls PyProof.Rows PySem.SeqAt
namespace Mine.Internal
noncomputable def uU(K:Frag)(C:Y4)(l:Y'):Bool:=match findIn K (.ref C) l with
 |none=>false
 |some none=>true
 |some (some a)=>match specialIn K a "__get__" with
  |none=>false
  |some none=>true
  |some (some _)=>match takesIn K a with
   |some b=> !b
   |none=>false
def MM{K:Frag}(e:hasDictIn K X)(E:uU K X name)(f:lookIn name c=some (some d)):findObj K X (some c) name=some (.value d):=by
 obtain⟨l,L,T⟩:=any_some e;unfold findObj;have s:PySem.W.ownOf l (some c) name=some (some d):=by unfold PySem.W.ownOf;rw[if_pos T];exact f
 unfold uU at E;rw[L,Option.bind_some];generalize q:findIn K (.ref X) name=N;induction N with
 |none=>have E:=q▸E;exact bb E
 |some o=>
  have E:=q▸E;induction o with
  |none=>simp [s]
  |some a=>
   have E:(match specialIn K a "__get__" with|none=>false|some none=>true|some (some _)=>match takesIn K a with|some b=> !b|none=>false)=true:=E
   generalize g:specialIn K a "__get__"=N;induction N with
   |none=>have E:=g▸E;exact bb E
   |some o=>
    induction o with
    |none=>simp [g,s]
    |some h=>
     have E:=g▸E;have E:(match takesIn K a with|some b=> !b|none=>false)=true:=E
     generalize t:takesIn K a=N;induction N with
     |none=>have E:=t▸E;exact bb E
     |some b=>have E:=t▸E;induction b with|true=>exact bb E|false=>simp [g,t,s]
structure BL(X:cn)(c:Nat):Prop where
 DW:findIn X.K (.ref (X.cP c)) "__getattribute__"=some (some (.builtin "object.__getattribute__"))
 gt:findIn X.K (.ref (X.cP c)) "__getattr__"=some none
 SQ:findIn X.K (.ref (X.cP c)) "__setattr__"=some (some (.builtin "object.__setattr__"))
 dict:hasDictIn X.K (X.cP c)=true
 Rn:plainOver X.K (X.cP c)=true
 JH:∀a,a<X.l3->uU X.K (X.cP c) (X.az a)=true
 Um:∀a,a<X.l3->takerIn X.K (X.cP c) (X.az a)=some none
 Ad:makesIn X.K (X.cP c)=true
structure lp(X:cn):Prop where
 inj:∀a b,X.az a=X.az b->a=b
 cls:∀c,c<X.iZ->BL X c
 LG:∀a,X.az a≠".0"
 eU:∀a,X.az a≠Internal.eU
def qN:List Y':=Zx ["len","sum","sorted","abs","int","str","tuple","list","dict","range","enumerate","reversed","Exception"]
structure BR(X:cn):Prop where
 jU:∀x a,X.jU x=some a->nsIn X.K mainGlobals x=some (some a)
 blt:∀x:Y',x∈qN->nsIn X.K mainGlobals x=some none
structure km(X:cn):Prop where
 append:X.az X.N.append="append"
 lI:X.az X.N.lI="extend"
 fZ:X.az X.N.fZ="pop"
 get:X.az X.N.get="get"
 iB:X.az X.N.iB="index"
 rW:X.az X.N.rW="startswith"
structure xS(X:cn)(c:Nat)(a:i9):Prop where
 lt:c<X.iZ
 keep:keepIn X.K (.ref (X.cP c))=true
 init:match a.init with
  |none=>findIn X.K (.ref (X.cP c)) "__init__"=some (some (.builtin "object.__init__"))
  |some i=>findIn X.K (.ref (X.cP c)) "__init__"=some (some (.ref (X.di i)))/\isFn X.K (.ref (X.di i))=true
 aC:∀m i,au a.kR m=some i->findIn X.K (.ref (X.cP c)) (X.az m)=some (some (.ref (X.di i)))/\isFn X.K (.ref (X.di i))/\m<X.l3
noncomputable def cN(X:cn)(B:Nat):Nat:=39*X.P.kY B+39
abbrev ia(E:Zc)(x:Y'):Ze Y6:=Zx (E.names.lookup x)
abbrev kb(X:cn)(k:Nat)(b:List S)(E:List Zd):List Zd:=cD iG (kc X k) b E
abbrev l5(X:cn)(k:Nat)(V:Y'->Ze Y6)(b:List S)(E:List Zd):Bool:=eO iG (m9 X k V) b E
structure qC where
 (name qual:Y')(params:Arguments)(body:List Zd)(scope:Zc)(q5 rp doc rM mE q1 wI:Y3)(qH tW:Ze Y4)(wL:Array (Ze Y3))(iU:YY)
structure xV(X:cn)(B:Nat)(a:YZ)(b:YU)(N:qC):Prop where
 fw:X.K.lookup (X.di B)=some ⟨N.wI,N.tW,.func (fnOf N.name N.qual N.params N.body N.scope N.q5 N.rp N.doc N.rM N.qH N.mE N.q1),N.wL⟩
 tc:codeIn X.K N.mE N.qual=true
 dN:∀(S:Setting)(eQ:YY),eQ.length+N.iU.length=a.length->peek X.K S (bindArgs (fnOf N.name N.qual N.params N.body N.scope N.q5 N.rp N.doc N.rM N.qH N.mE N.q1) ⟨eQ,[]⟩)=some ((a.map X.az).zip (eQ++N.iU))
 rm:∀w,aK X w b N.iU
 Ei:(a.all λp=>ia N.scope (X.az p)==some .local||ia N.scope (X.az p)==some .cell)=true
 Eo:((cellsFrom 0 N.scope.names []).map (·.1)).Nodup
 ti:a.Nodup
 td:N.scope.isCoroutine=false
 tg:N.scope.isGenerator=false
 hn:N.scope.kind=.function
 keep:keepIn X.K (.ref (X.di B))=true
 VM:isFn X.K (.ref (X.di B))=true
structure o1(X:cn)(B:Nat)(a:cy)(N:qC):Prop where
 H:xV X B a.ak a.d6 N
 th:l5 X (cN X B) (ia N.scope) a.body N.body=true
 EC:kb X (cN X B) a.body N.body=N.body
def IP(X:cn):Prop:=∀B,((∃K,X.P.fK B=some K)\/∃D r,X.P.j2 B D=some r)->keepIn X.K (.ref (X.di B))=true
structure r8 where
 (name qual:Y')(params:Arguments)(body:List Zd)(scope:Zc)(q5 rp doc rM q1 wI Cr Cy:Y3)(qH tW Cu Cz:Ze Y4)(wL Cs CN:Array (Ze Y3))(lD jQ:Y4)(bg:Array Y3)(file:Y')(Hy:Tok)(sb:Arg)(c self kB:Nat)(Ct:ClassData)
 (pre post:List S)(qc m':List Zd)(av:List E)(jA:Y9)(bt:List Y9)(bp bk bf oC wO:Pos)
structure nL(X:cn)(B:Nat)(a:cy)(N:r8):Prop where
 fw:X.K.lookup (X.di B)=some ⟨N.wI,N.tW,.func (ksFn N.name N.qual N.params N.body N.scope N.q5 N.rp N.doc N.rM N.qH (.ref N.lD) N.q1 N.jQ),N.wL⟩
 tc:codeIn X.K (.ref N.lD) N.qual=true
 dN:∀(S:Setting)(eQ:YY),eQ.length=a.ak.length->peek X.K S (bindArgs (ksFn N.name N.qual N.params N.body N.scope N.q5 N.rp N.doc N.rM N.qH (.ref N.lD) N.q1 N.jQ) ⟨eQ,[]⟩)=some ((a.ak.map X.az).zip eQ)
 rm:a.d6=[]
 En:(a.ak.all λp=>N.scope.names.lookup (X.az p)==some .local)=true
 zA:∀x∈N.scope.names,x.2≠.cell
 ti:a.ak.Nodup
 td:N.scope.isCoroutine=false
 tg:N.scope.isGenerator=false
 hn:N.scope.kind=.function
 D9:a.body=N.pre++.expr (.k9 N.c N.self N.kB N.av)::N.post
 D':N.body=N.qc++.Expr (.Call (.Attribute (.Call (.Name "super" N.bp) [] [] N.bk) "__init__" N.bf) (N.jA::N.bt) [] N.oC) N.wO::N.m'
 Es:l5 X (cN X B) (ia N.scope) N.pre N.qc=true
 Et:kb X (cN X B) N.pre N.qc=N.qc
 El:N.qc.length=N.pre.length
 Ep:l5 X (cN X B) (ia N.scope) N.post N.m'=true
 Er:kb X (cN X B) N.post N.m'=N.m'
 Eb:eO ck (bQ X (cN X B) (ia N.scope)) N.av (N.jA::N.bt)=true
 zD:cD ck (aJ X (cN X B)) N.av (N.jA::N.bt)=N.jA::N.bt
 Eu:cN X N.kB+20<=cN X B
 vT:(N.jA::N.bt).all e3=true
 Em:(N.bf.endLine==N.oC.line)=true
 Ek:(N.jA::N.bt).length<=20
 Ee:(N.params.posonlyargs++N.params.args).head?=some N.sb
 zE:X.az N.self=N.sb.arg
 zF:N.scope.names.lookup N.sb.arg=some .local
 Ea:X.K.lookup N.lD=some ⟨N.Cr,N.Cu,.fields N.bg,N.Cs⟩
 EE:N.bg[2]?=some (.str N.file N.Hy)
 Ec:((X.prog.main.file:Y')==N.file)=true
 zz:X.K.lookup N.jQ=some ⟨N.Cy,N.Cz,.cell (some (.ref (X.cP N.c))),N.CN⟩
 D6:clsIn X.K (X.cP N.c)=some N.Ct
 Ew:mroIn X.K (X.cP N.c) (.ref (X.cP N.c))=some true
 Ez:nsIn X.K mainGlobals "super"=some none
 Ej:N.scope.names.lookup ("super":Y')=some .globalImplicit
 vR:N.scope.names.lookup ("__class__":Y')=some .free
 ED:(X.prog.main.scope.names.lookup ("super":Y')).isSome=false
 EB:nsIn X.K cStatics "thirdparty.any"=some none
 th:ks_superIn X.K (X.cP N.c) (X.cP N.c) "__init__"=some (some (.ref (X.di N.kB)))
 EA:typeIn X.K (.ref (X.di N.kB))=some (.type "function")
 Ed:fnIn X.K (X.di N.kB)=true
def fk(c:cu)(t:Code)(a:Z)(w:aL)(E:Z)(v:V):Prop:=
 ∀(R:Result->Y2),(∀B g,aT c a w E B->o c.X B v g->R (.ok (.ret g)) B.s)->codeAny (Zt c) c.A t R w.s
def yc(X:cn):Prop:=∀(f:ec)(d:Env)(A:Zb)(B:Nat)(D:YU)(r:V)(a:Z)(w:aL)(t:YY),X.P.j2 B D=some r->hX X f->d5 f A (cN X B+20)->aP ⟨X,f,d,A⟩ a w->aK X w D t->fk ⟨X,f,d,A⟩ (.call (.ref (X.di B)) ⟨t,[]⟩) a w a r
structure g7(X:cn):Prop where
 az:lp X
 r0:BR X
 aC:km X
 cls:∀c a,X.P.cls c=some a->xS X c a
 keep:IP X
 E3:∀c a g i,X.P.cls c=some a->au a.kR g=some i->keepIn X.K (.ref (X.di i))=true
 GA:∀c a i,X.P.cls c=some a->a.init=some i->a.qf->∀b,X.P.fK i=some b->(∃N,o1 X i b N)
 fK:∀B b,X.P.fK B=some b->(∃N,o1 X B b N)\/(∃N,nL X B b N)
 j2:yc X
structure bJ(c:cu)(b:Nat)(A:YS)(a:Z)(w:aL):Prop where
 ok:g7 c.X
 aM:hX c.X c.f
 dJ:d5 c.f c.A b
 bU:i' c.f c.af
 ag:aP c a w
 dc:fG c.X w c.af A
def bT(n:Nat)(e:E):Prop:=∀(c:cu)(A:YS)(a:Z)(v:V)(b:Z)(k:Nat)(x:Y9)(w:aL),(aD c.X.P c.X.N n).e e ⟨A,a⟩=some (v,b)->bQ c.X (k+1) c.af.kindOf e x->bJ c (k+1) A a w->
 aR c (eval (aJ c.X (k+1) e x) c.af) a w b v
def Gt(n:Nat)(e:E):Prop:=∀(c:cu)(A:YS)(a:Z)(v:V)(d:Z)(b:Bool)(k:Nat)(x:Y9)(w:aL),ij e->(aD c.X.P c.X.N n).e e ⟨A,a⟩=some (v,d)->VQ v d=some b->bQ c.X (k+1) c.af.kindOf e x->bJ c (k+1) A a w->
 c4 c (isTrue (aJ c.X (k+1) e x) c.af (eval (aJ c.X (k+1) e x) c.af)) a w d b
def bJ.aF(C:bJ a' f' h' c' s')(j:aT a' c' s' hp' w'):bJ a' f' h' hp' w':=⟨C.ok,C.aM,C.dJ,C.bU,C.ag.aF j,C.dc.aF C.bU C.ag j⟩
def bJ.le(C:bJ a' h' s' c' w')(j:f'<=h'):bJ a' f' s' c' w':=⟨C.ok,C.aM,C.dJ.ju j,C.bU,C.ag,C.dc⟩
def bJ.aW(C:bJ c' (a'+1) h' f' s'):bJ c' a' h' f' s':=C.le (WH a')
def bJ.lS(C:bJ a' h' s' f' c'):a'.X.K.In c'.h:=C.ag.aM.elim λ_ j=>C.aM.K.keeps j.keep
def bJ.units(C:bJ a' f' h' c' s'):a'.A.units+30<cLine:=Wf (Wy (Wh (Wq _ _) C.dJ.units) 30) (by decide)
def bT.aO(j:bT s' a')(h:(aD c.X.P c.X.N s').e a' ⟨f',c'⟩=some (h',hp'))(o:bQ c.X k c.af.kindOf a' x)(C:bJ c k f' c' w):aR c (eval (aJ c.X k a' x) c.af) c' w hp' h':=by
 induction k with|zero=>exact bb o|succ k=>exact j c f' c' h' hp' k x w h o C
def Gt.aO(j:Gt s' a')(J:ij a')(h:(aD c.X.P c.X.N s').e a' ⟨f',c'⟩=some (h',hp'))(u:VQ h' hp'=some b)(o:bQ c.X k c.af.kindOf a' x)(C:bJ c k f' c' w):c4 c (isTrue (aJ c.X k a' x) c.af (eval (aJ c.X k a' x) c.af)) c' w hp' b:=by
 induction k with|zero=>exact bb o|succ k=>exact j c f' c' h' hp' b k x w J h u o C
def aN(h:(a&&b)):a=true:=(WM.mp h).1
def ar(h:(a&&b)):b=true:=(WM.mp h).2
def VX(h:(!a)):a=false:=by induction a with|true=>exact bb h|false=>rfl
def n9(h:h8 a s):a s=some .globalImplicit:=by
 have h:(match a s with|some .globalImplicit=>true|_=>false)=true:=h
 generalize q:a s=N;induction N with
 |none=>have h:=q▸h;exact bb h
 |some z=>have h:=q▸h;induction z<;>first|rfl|exact bb h
def rI(h:l6 s):(s==("__debug__":Y'))=false:=oL s _▸VX (aN h)
def wJ(h:l6 s):(s==("__classdict__":Y'))=false:=oL s _▸VX (ar h)
def It:bT (b+1) (.lit a):=λc A f u d k x w e o C=>by
 refine bz (p:=λu d=>aR c (eval (.Constant (Fm a) (lR x) x.pos) c.af) f w d u) e ?_;induction a using V.casesOn with|none=>exact aR.toks C.ag λQ E q=>wpAny_Constant_none (q _ w.s.toks .none)|bool=>exact aR.toks C.ag λQ E q=>wpAny_Constant_bool (q _ w.s.toks .bool)|int=>exact aR.toks C.ag λQ E q=>wpAny_Constant_int (q _ _ .int)|str=>exact aR.toks C.ag λQ E q=>YF (q _ _ .str)|_=>exact bb o
def Iu:bT (b+1) (.F a):=λc A V u E k x w e o C=>aA e λv aD e=>bz (p:=λu E=>aR c (eval (.Name (c.X.az a) x.pos) c.af) V w E u) e (z2 C.ag C.bU C.dc (ar o) aD (rI (aN o)) (wJ (aN o)))
def Nb(C:bJ c d A a w)(R:c.af.kindOf s=some .globalImplicit)(g:c.X.jU s=some L)(T:(s==("__debug__":Y'))=false)(p:o c.X w b L):aR c (eval (.Name s pos) c.af) a w a b:=
 aR.toks C.ag λQ E q=>C.ag.aM.elim λm F=>Name_function_global C.bU.kind R (loadGlobal_global (by rw[C.bU.h8];exact C.aM.T.g.keeps F.keep) (mg_of C.aM.K C.aM.T.g (C.ok.r0.jU s L g)) (q _ w.s.toks p)) T
def vK(C:bJ c b A a w)(R:c.af.kindOf s=some .globalImplicit)(g:c.X.jU s=some L)(T:(s==("__debug__":Y'))=false):c4 c (eval (.Name s pos) c.af) a w a L:=
 c4.toks C.ag λQ E q=>C.ag.aM.elim λm F=>Name_function_global C.bU.kind R (loadGlobal_global (by rw[C.bU.h8];exact C.aM.T.g.keeps F.keep) (mg_of C.aM.K C.aM.T.g (C.ok.r0.jU s L g)) (q w.s.toks)) T
def yF(C:bJ c b A a w)(R:c.af.kindOf s=some .globalImplicit)(B:s∈qN)(d:bootBuiltins s=some L)(T:(s==("__debug__":Y'))=false)(X:s≠"__name__"):c4 c (eval (.Name s pos) c.af) a w a L:=
 c4.toks C.ag λQ E q=>C.ag.aM.elim λm F=>Name_function_global C.bU.kind R (loadGlobal_builtin (by rw[C.bU.h8];exact C.aM.T.g.keeps F.keep) (mg_none_of C.aM.K C.aM.T.g (C.ok.r0.blt s B)) (by rw[C.bU.blt];exact C.aM.T.b.keeps F.keep) ((C.aM.T.builtins s X).trans d) (q w.s.toks)) T
def Ob(h:ER a g):∃L,g=some L/\o X w a L:=by
 induction g with
 |none=>induction a using V.casesOn<;>exact bb h
 |some L=>induction a using V.casesOn with
  |int i=>induction L with
   |int j t=>exact⟨_,rfl,mU.mp h▸.int⟩
   |_=>exact bb h
  |str i=>induction L with
   |str j t=>exact⟨_,rfl,k3.mp h▸.str⟩
   |_=>exact bb h
  |_=>exact bb h
def Iq:bT (a+1) (.d8 b):=λc A V u E k x w e o C=>bz (p:=λu E=>aR c (eval (.Name (hN x) x.pos) c.af) V w E u) e
 ((Ob (ar (ar o))).elim λu h=>Nb C (n9 (aN (ar o))) h.1 (rI (aN o)) h.2)
noncomputable def jf(g:Y5)(L:Y4)(h:Y5):List (Y4×Obj):=(List.range h.objs.size).filterMap λa=>if a=L then none else match g.get? a with|some _=>none|none=>(h.get? a).map λo=>(a,o)
def jg:(a,H)∈jf g L h↔h.get? a=some H/\a≠L/\g.get? a=none:=by
 unfold jf;rw[XS]
 constructor
 .rintro ⟨b,_,e⟩
  by_cases G:b=L
  .rw[if_pos G] at e;exact ns e
  .rw[if_neg G] at e
   generalize i:g.get? b=N;induction N with|some x=>rw[i] at e;exact ns e|none=>rw[i] at e;exact(Ye.mp e).elim λr h=>(Xs h.2).1▸(Xs h.2).2▸⟨h.1,G,i⟩
 .intro h
  refine⟨a,List.mem_range.mpr (WO h.1),?_⟩;rw[if_neg h.2.1,h.2.2,h.1];rfl
def jh:News g L h (jf g L h):=λp V=>jg.mp V
def gu.AE(U:Fr c' a' f' w')(J:Fr c' a' h' x')(V:News c' a' h' news)(W:∀s'∈jf c' a' f',s'∈news):gu a' f' h':=by
 refine⟨λu o Y M=>?_,J.ns.elim λo j=>j.elim λ_ j=>j.elim λ_ j=>⟨o,j.1⟩⟩;generalize C:c'.get? u=cK;induction cK with|some Z=>exact Wc ((U.keep u Z C).symm.trans M)▸J.keep u _ C|none=>exact(V _ (W _ (jg.mpr ⟨M,Y,C⟩))).1
def Fr.Gi(j:Fr c' a' f' s')(C:c3 f' h'):Fr c' a' h' s':=⟨j.ns.keeps C,λu o J=>C u o (j.keep u o J),j.above⟩
def Hu:∀p∈l,p∈a::l:=λ_=>.tail _
section
variable{c:cu}{X:Z}{w:aL}{S:Y5}{t:Tok}
def aP.all(j:aP c X w)(o:c3 w.h S):gu c.f.L w.h S:=.Gj o j.jW
def aT.all(j:aP c X w)(o:c3 w.h S):aT c X w X (w.ab S t):=.gS j (j.all o) (λ_ u=>Fr.Gi u o) ⟨_,_,rfl⟩
structure ir(c:cu)(w:aL)(S:Y5):Prop where
 aM:∀m,Fr c.f.g c.f.L w.h m->Fr c.f.g c.f.L S m
 gS:gu c.f.L w.h S
def ir.all(u:aP c X w)(j:c3 w.h S):ir c w S:=⟨λ_ o=>Fr.Gi o j,u.all j⟩
def ir.jv(j:Fr c.f.g c.f.L w.h a')(o:Fr c.f.g c.f.L S a')(C:News c.f.g c.f.L S news)(J:∀c'∈jf c.f.g c.f.L w.h,c'∈news):ir c w S:=⟨λM u=>kT u.ns j.ns▸o,.AE j o C J⟩
def tH(I:aP c X w)(N:ir c w S)(i:w.h.get? a=none)(g:S.PlainList a d.toArray)(j:d.length<=b0)(r:aK c.X w f d)(h:Bool):
  ∃B,B.s=(w.ab S t).s/\aT c X w (dj h f X).2 B/\o c.X B (dj h f X).1 (.ref a):=by
 induction h with
 |false=>
  have e:=I.aH.bV (s':=(w.ab S t).s) I.own N.gS λb x=>by exact(show b=a from x)▸⟨i,g.elim λH y=>⟨_,y⟩⟩
  exact⟨⟨w.G.bI λb=>b=a,(w.ab S t).s⟩,rfl,⟨e.1,e.2,N.aM,⟨_,_,rfl⟩⟩,.ae (.inr rfl) g j (r.ext (e.2.ext I.aH λ_ x=>x▸I.own.a0))⟩
 |true=>have e:=I.aH.Ap (h':=λ_=>False) (o:=.ae f 0) (s':=(w.ab S t).s) I.own N.gS (λ_ x=>x.elim) i (λx=>x) λE=>⟨d'.1.trans (Wd some d'.2.symm),d,d'.2.symm▸g,j,r.ext E⟩;exact⟨⟨(w.G.bI λ_=>False).a5 X.n a a,(w.ab S t).s⟩,rfl,⟨e.1,e.2,N.aM,⟨_,_,rfl⟩⟩,.ref d'.1⟩
def ON(I:aP c X w)(N:ir c w S)(E:w.h.get? a=none)(g:S.IsTuple a d.toArray)(h:d.length<=b0)(r:aK c.X w f d):∃B,B.s=(w.ab S t).s/\aT c X w X B/\o c.X B (.ay f) (.ref a):=by
 have e:=I.aH.bV (s':=(w.ab S t).s) I.own N.gS λb x=>by exact(show b=a from x)▸⟨E,g.elim λH y=>⟨H,y.1⟩⟩
 exact⟨⟨w.G.bI λb=>b=a,(w.ab S t).s⟩,rfl,⟨e.1,e.2,N.aM,⟨_,_,rfl⟩⟩,.ay (.inr rfl) g h (r.ext (e.2.ext I.aH λ_ x=>x▸I.own.a0))⟩
def E'(I:aP c X w)(N:ir c w S)(d:w.h.get? a=none)(h:(a==sysModules)=false)(f:∀B,cM w B->B.h=S->ew c.X B P a G)(g:G.length<=b0)(r:b2 c.X w b G):
  ∃B,B.s=(w.ab S t).s/\aT c X w (X.new (.ah P b 0)) B/\o c.X B (.ref X.n) (.ref a):=by
 have e:=I.aH.Ap (h':=λ_=>False) (o:=.ah P b 0) (s':=(w.ab S t).s) I.own N.gS (λ_ x=>x.elim) d (λx=>x) λE=>⟨d'.1.trans (Wd some d'.2.symm),d'.2.symm▸h,G,d'.2.symm▸f _ E rfl,g,r.ext E⟩;exact⟨⟨(w.G.bI λ_=>False).a5 X.n a a,(w.ab S t).s⟩,rfl,⟨e.1,e.2,N.aM,⟨_,_,rfl⟩⟩,.ref d'.1⟩
def bP.tv(u:aP c X w)(U:h'.length<=b0)(Y:aK c.X w s' h')(j:Bool)
  (V:∀(a':YV)(E:YV),(∀S f' c',ir c w S->w.h.get? c'=none->S.PlainList c' h'.toArray->a' (.ref c') (w.ab S f').s)->Zs c x' a' E w.s):aR c x' X w (dj j s' X).2 (dj j s' X).1:=λa' E W=>
 V a' E λS f' c' C J M=>(tH u C J M U Y j).elim λZ o=>o.1▸W Z _ o.2.1 o.2.2
def bP.zU(o:aP c X w)(M:h'.length<=b0)(W:aK c.X w x' h')
  (U:∀(a':YV)(E:YV),(∀S f' c',ir c w S->w.h.get? c'=none->S.IsTuple c' h'.toArray->a' (.ref c') (w.ab S f').s)->Zs c s' a' E w.s):aR c s' X w X (.ay x'):=λa' E V=>
 U a' E λS f' c' u C J=>(ON o u C J M W).elim λY j=>j.1▸V Y _ j.2.1 j.2.2
def wZ(h:Y5)(D:Array Y3):(h.push {cls:=.type "list",data:=.seq D}).PlainList h.objs.size D:=⟨_,Heap.get?_push_size _ rfl⟩
def EW(h:Y5)(D:Array Y3):(h.push {cls:=.type "tuple",data:=.seq D}).IsTuple h.objs.size D:=⟨_,Heap.get?_push_size _ rfl,rfl,_,rfl⟩
def mc{D:YY}(X:D.length<=b0):D.toArray.size<=sizeLine:=by exact WB▸jy _ X
def Qu(I:aP c X w)(d:a.length<=b0)(r:aK c.X w b a)(g:Bool):aR c (newList a) X w (dj g b X).2 (dj g b X).1:=
 bP.tv I d r g λQ E q=>YI (q _ w.s.toks _ (.all I (c3.push _ _)) (hl _) (wZ _ _)) (mc d)
def Qx(I:aP c X w)(d:a.length<=b0)(r:aK c.X w b a):aR c (newTuple a) X w X (.ay b):=
 bP.zU I d r λQ E q=>YI (q _ w.s.toks _ (.all I (c3.push _ _)) (hl _) (EW _ _)) (mc d)
def R9(x:α)(n:Nat):j6 [x] n=List.replicate n x:=by
 induction n with|zero=>rfl|succ n S=>exact Wd (x::·) S
def Sa(r:o a w x b)(n:Nat):aK a w (List.replicate n x) (List.replicate n b):=by
 induction n with|zero=>exact .nil|succ n S=>exact .cons r S
def qa(h:d9 l=some x):l=[x]:=by
 induction l with
 |nil=>exact ns h
 |cons a r=>induction r with|nil=>exact Wd (λx=>[x]) (Wc h)|cons=>exact ns h
def Ra(h:Gk l=some x):l=[x]:=aA h λy L h=>qa L▸by
 induction y using V.casesOn with|int=>exact Wd (λx=>[x]) (Wc h)|bool=>exact Wd (λx=>[x]) (Wc h)|_=>exact ns h
def Qi{E:YV}(f:w.h.PlainList l a.toArray)(e:-(2 ^ 63:Int)<=x)(d:x<2 ^ 63)(b:a.length*x.toNat<=2 ^ 24)
  (h:Q (.ref (Zw w.s)) {w.s with heap:=w.s.heap.push {cls:=.type "list",data:=.seq (List.replicate x.toNat a).flatten.toArray}}):Zs c (binaryOp .Mult (.ref l) (.int x L)) Q E w.s:=by
 refine(f).elim λk s=>?_;have g:a.toArray.size*x.toNat<=2 ^ 24:=by simpa using b
 refine wpAny_binaryOp_repeat_ref (by decide) ⟨_,s,rfl⟩ (λO=>typeIs_int O x L) noFill_list_mul F.fills_int_mul F.slot_int_rmul repeat_list F.slot_int_index.lookup
  (call_meets F.slot_int_rmul (typeIs_int w.s x L) F.entry_int_rmul (F.args_int_rmul_2 _ _) (lm_int_rmul_list_any x L l a.toArray k none #[])
   ⟨s,rfl,⟨_,s,rfl⟩,call_meets F.slot_list_mul ⟨_,s,rfl⟩ F.entry_list_mul (F.args_list_mul_2 _ _)
    (lm_list_mul_any l a.toArray k none #[] x L (by simp [Builtin.List.listFitsIndex];lia) (by lia) (by simp [Builtin.List.listTooLong,sizeLine];lia))
    ⟨s,?_⟩⟩)
 rw[listMul_foldl_if];exact h
def MO(n:Nat)(a:Y3):(List.replicate (Int.ofNat n).toNat [a]).flatten=List.replicate n a:=by simp
def Ql{E:YV}(I:aP c X w)(f:w.h.PlainList l [b].toArray)(d:a<b0)
  (h:∀S,ir c w S->S.PlainList (Zw w.s) (List.replicate a b).toArray->Q (.ref (Zw w.s)) {w.s with heap:=S}):Zs c (binaryOp .Mult (.ref l) (.int (.ofNat a) L)) Q E w.s:=
 Qi f (YO (by decide) (W4 a)) (YN (XM.mpr d) (by decide)) (by show 1*a<=2 ^ 24;rw[Nat.one_mul];exact Wh (WK d) (by decide)) (by rw[MO];exact h _ (.all I (c3.push _ _)) (wZ _ _))
def Qk(I:aP c X w)(f:w.h.PlainList l b.toArray)(F:aK c.X w [y] b)(q:o c.X w (.int (.ofNat a)) i)(d:a<b0):aR c (binaryOp .Mult (.ref l) i) X w (dj g (j6 [y] a) X).2 (dj g (j6 [y] a) X).1:=by rw[R9];exact q.dt (p:=λi=>aR c (binaryOp .Mult _ i) X w _ _) λt=>F.hP (q:=λb=>w.h.PlainList l b.toArray->aR c (binaryOp .Mult _ _) X w _ _) (λe h f=>bP.tv I (by rw[List.length_replicate];exact WK d) (Sa h a) g λQ E k=>Ql I f d λS N O=>k S w.s.toks _ N (hl _) O) f
def Fj(I:aP c X w)(e:(Y (d4 a X) λx=>FF g h x b X)=some (f,d))(p:o c.X w a B)(q:o c.X w b i):aR c (binaryOp (oA g) B i) X w d f:=by
 refine aA e λx u e=>mZ (p:=λB=>aR c (binaryOp (oA g) B i) X w d f) I.aH u p λl D s t r=>?_;induction g with
 |add=>
  refine aA e λy v e=>bR e λR e=>mZ (p:=λi=>aR c (binaryOp .Add _ i) X w d f) I.aH v q λJ C O H P=>?_;have A:(D++C).length<=b0:=by rw[Wk,<-r.length,<-P.length,<-Wk,<-ha];exact WK (pH R)
  exact bz (p:=λf d=>aR c (binaryOp .Add _ _) X w d f) e (bP.tv I A (ha x y▸r.append P) h λQ E k=>I.aM.elim λm F=>add_lists F jh s.isList O.isList (λS T N=>k S w.s.toks _ (.jv F T N Hu) (hl _) ⟨_,(N _ (.head _)).1⟩) (by have:=jy _ A;rw[Wk] at this;exact this))
 |mul=>exact aA e λz j e=>aA j λn t j=>bR j λG j=>aA j λy L j=>bz (p:=λf d=>aR c (binaryOp .Mult _ _) X w d f) e (Wc j▸Qk I s (Ra L▸r) (pd t▸q) (fT G))
 |_=>exact ns e
def UJ(I:aP c X w)(P:j1 x)(f:j1 y)(R:eA (U x y))(K:w.h.IsTuple l a.toArray)(s:w.h.IsTuple G d.toArray)(b:aK c.X w x a)(e:aK c.X w y d):aR c (binaryOp .Add (.ref l) (.ref G)) X w X (.ay (U x y)):=by
 have A:(a++d).length<=b0:=by rw[Wk,<-b.length,<-e.length,<-Wk,<-ha];exact WK (pH R)
 rw[ha];refine bP.zU I A (b.append e) λQ E k=>I.aM.elim λm F=>?_;induction x with
 |nil=>exact bb P
 |cons j x=>induction y with
  |nil=>exact bb f
  |cons n y=>cases b with
   |cons g h=>cases e with
    |cons O i=>exact add_tuples F jh K s (λz=>nomatch z) (λ_ z=>nomatch z) (λ_ _ S T N=>k S w.s.toks _ (.jv F T N Hu) (hl _) ⟨_,(N _ (.head _)).1,rfl,_,rfl⟩) (by have:=jy _ A;rw[Wk] at this;exact this)
def J0(I:aP c X w)(e:mB g h a b X=some (f,d))(p:o c.X w a B)(q:o c.X w b i):aR c (binaryOp (oA g) B i) X w d f:=by
 induction a using V.casesOn with
 |int x=>exact aA e λy L e=>aA e λz j e=>bz (p:=λf d=>aR c _ X w d f) e (p.dt (p:=λB=>aR c (binaryOp (oA g) B i) X w X (.int z)) λt=>(hE L▸q).dt (p:=λi=>aR c (binaryOp (oA g) _ i) X w X (.int z)) λu=>N9 I j)
 |ay x=>
  induction g with
  |add=>exact aA e λz j e=>aA j λy L j=>bR j λP j=>bR j λN j=>bR j λR j=>bz (p:=λf d=>aR c _ X w d f) e (p.gp (p:=λB=>aR c (binaryOp .Add B i) X w X (.ay z)) λl D _ K S m=>(Jz L▸q).gp (p:=λi=>aR c (binaryOp .Add _ i) X w X (.ay z)) λG k _ s A E=>Wc j▸UJ I P N R K s m E)
  |_=>exact ns e
 |none=>exact ns e
 |bool=>exact ns e
 |str=>exact ns e
 |ah=>exact ns e
 |ins=>exact ns e
 |hu=>exact ns e
 |ae x=>exact Fj (a:=.ae x) (b:=b) (h:=h) I e p q
 |ref x=>exact Fj (a:=.ref x) (b:=b) (h:=h) I e p q
end
section
variable{c:cu}{k n:Nat}{A:YS}
def Ih(m:bT n a)(j:bT n b):bT (n+1) (.a7 d g a b):=λc A V v q k x w e o C=>bK e λu P O e=>bK e λR N i e=>bP.ek C.ag (m.aO O (aN o) C.aW) (λS T l f=>j.aO i (ar o) (C.aW.aF l)) (λS s T I p f h K=>J0 (p.aF h) e (f.ext (p.ext h)) K) λQ E=>wpAny_BinOp
def U1(I:aP c d w)(e:xJ f a d=some g)(p:o c.X w a B):aR c (unaryOp (Bz f) B) d w d g:=by
 induction f with|neg=>exact aA e λi A e=>b6 e ((hE A▸p).dt (p:=λB=>aR c (unaryOp .USub B) d w d _) λt=>aR.toks I λQ E q=>neg_int (q _ _ .int))|ag=>exact aA e λi A e=>b6 e ((hE A▸p).dt (p:=λB=>aR c (unaryOp .Invert B) d w d _) λt=>aR.toks I λQ E q=>invert_int (q _ _ .int))|not=>exact aA e λb s e=>b6 e λQ E q=>not_value (xF I s p _ E λS x T h=>q S _ T (h▸.bool))
def ID(m:bT n a):bT (n+1) (.c6 b a):=λc A V v d k x w e o C=>
 bK e λu P O e=>aA e λr f e=>bz (p:=λv d=>aR c (eval (.UnaryOp (Bz b) (aJ c.X k a (ax x 0)) x.pos) c.af) V w d v) e
  (bP.d9 C.ag (m.aO O (ar o) C.aW) (λS T l g=>U1 (C.ag.aF l) f g) λQ E=>wpAny_UnaryOp)
def wC(h:p6 r):behindInMarks a r=false:=by induction r using Expr.casesOn<;>first|exact(rfl:false=false)|exact bb h
def Ik(m:bT n a)(q:bT n b):bT (n+1) (.aw d a b):=λc A V v g k x w e o C=>
 bK e λu P O e=>bK e λR N j e=>aA e λr D e=>bz (p:=λv g=>aR c (eval (.Compare (aJ c.X k a (ax x 0)) [ps d] [aJ c.X k b (ax x 1)] x.pos) c.af) V w g v) e
  (bP.ek C.ag (m.aO O (aN o) C.aW) (λS T l i=>q.aO j (aN (ar o)) (C.aW.aF l)) (λS s T t p i f K=>bP.ju (pv (p.aF f) C.units D (i.ext (p.ext f)) K) λI y _ z=>z▸.bool) λQ E h=>wpAny_Compare1 h (wC (ar (ar o))))
def I'(m:bT n a)(j:bT n b):Gt (n+1) (.aw d a b):=λc A V v f y k x w _ e B o C=>
 bK e λu P O e=>bK e λR N g e=>aA e λr D e=>bz (p:=λv f=>VQ v f=some y->c4 c (isTrue (.Compare (aJ c.X k a (ax x 0)) [ps d] [aJ c.X k b (ax x 1)] x.pos) c.af (eval (.Compare (aJ c.X k a (ax x 0)) [ps d] [aJ c.X k b (ax x 1)] x.pos) c.af)) V w f y) e
  (λB=>b6 B λQ E q=>wpAny_isTrue_Compare1 (m.aO O (aN o) C.aW _ E λS T l s=>j.aO g (aN (ar o)) (C.aW.aF l) _ E λt F h K=>
   have p:=C.ag.aF l
   pv (p.aF h) C.units D (s.ext (p.ext h)) K _ E λI G i z=>z▸XY (q I r (l.trans C.ag (h.trans p i)) rfl)) (wC (ar (ar o)))) B
def EV(W:lp X)(a b:Nat)(t:Tok):(Value.str (X.az a) t).isStr (X.az b)=Nat.beq a b:=by refine(?_:(X.az a==X.az b)=_);rw[p3,W7,beq_iff_eq,beq_iff_eq];exact⟨W.inj a b,λe=>e▸rfl⟩
def M9(W:lp X):getL (X.az a) (⟨i,.str (X.az b) t,d⟩::G)=match Nat.beq b a with|true=>some (some d)|false=>getL (X.az a) G:=by unfold getL;rw[Yg,List.find?_cons,EV W];cases Nat.beq b a<;>rfl
def dA.zd(W:lp c')(C:dA c' s' fs f')(j:Nat):(∃a' h',au fs j=some a'/\getL (c'.az j) f'=some (some h')/\o c' s' a' h')\/(au fs j=none/\getL (c'.az j) f'=some none):=by
 induction fs generalizing f' with
 |nil=>cases C;exact .inr ⟨rfl,rfl⟩
 |cons e1 fs M=>cases C with
  |cons C U=>
   rename_i J Z cK a' h' f'
   rw[M9 W];show(∃V u,(match Nat.beq J j with|true=>some a'|false=>au fs j)=some V/\_)\/((match Nat.beq J j with|true=>some a'|false=>au fs j)=none/\_)
   generalize Nat.beq J j=Y;induction Y with|true=>exact .inl ⟨a',h',rfl,rfl,C⟩|false=>exact M U
def o.NF(j:o c' f' h' a'):handedIn a':=o.casesOn j rfl rfl rfl rfl (λ_ _ _ _=>rfl) (λ_ _ _ _=>rfl) (λ_ _ _ _ _=>rfl) (λ_ _ _ _ _ _=>rfl) (λ_=>rfl) (λ_ _ _ _=>rfl)
def Qp(h:p7 H)(e:H=.Call f [] [] pos):(hN f != ("super":Y')):=by subst e;have h:(!(true)|| !(VP (hN f) "super")):=h;rw[oL] at h;exact h
def uT(h:p7 H):attributeBase H aS af whole=whole:=by
 have r:whole=whole:=rfl;induction H using Expr.casesOn with
 |Call f I a X=>induction f using Expr.casesOn with
  |Name id p=>induction I with
   |nil=>induction a with
    |nil=>have z:(id != ("super":Y')):=Qp h rfl;unfold attributeBase;dsimp only;rw[z];rfl
    |cons=>exact r
   |cons=>exact r
  |_=>exact r
 |_=>exact r
def r7(X:cn)(w:aL)(c:Nat)(P:YS)(a:Y4):Prop:=c<X.iZ/\∃d G,w.h.get? a=some (instObj (X.cP c) d)/\ip w.h d G/\dA X w P G
def zK(v:V)(h:Z):Ze (Nat×YS):=match v with
 |.ins c _ P=>some (c,P)
 |.ref p=>match h.get p with
  |some (.ins c P)=>some (c,P)
  |_=>none
 |_=>none
def M6(e:bM d f a=some L):∃c P,zK f d=some (c,P)/\au P a=some L:=by
 induction f using V.casesOn with
 |ins c b P=>exact⟨c,P,rfl,e⟩
 |ref p=>
  have e:(match d.get p with|some (.ins _ P)=>au P a|_=>none)=some L:=e
  refine(?_:∃c P,(match d.get p with|some (.ins c P)=>some (c,P)|_=>none)=some (c,P)/\_)
  generalize s:d.get p=N;induction N with
  |none=>rw[s] at e;exact ns e
  |some o=>rw[s] at e;induction o with
   |ins c P=>exact⟨c,P,rfl,e⟩
   |_=>exact ns e
 |_=>exact ns e
def EL(R:bB X f w)(e:zK h f=some (d,P))(r:o X w h g):∃a,g=.ref a/\r7 X w d P a:=by
 induction h using V.casesOn with
 |ins l b O=>exact bz (p:=λd P=>∃a,g=.ref a/\r7 X w d P a) e (r.mV (p:=λg=>∃a,g=.ref a/\r7 X w l O a) λa d G I _ _ i N j=>⟨a,rfl,I,d,G,i,N,j⟩)
 |ref p=>
  have e:(match f.get p with|some (.ins c P)=>some (c,P)|_=>none)=some (d,P):=e
  generalize s:f.get p=k;induction k with
  |none=>rw[s] at e;exact ns e
  |some H=>
   rw[s] at e;induction H with
   |ins l O=>exact bz (p:=λd P=>∃a,g=.ref a/\r7 X w d P a) e (oO R (q:=λg=>∃a,g=.ref a/\r7 X w l O a) s r λa E S=>S.2.elim λA z=>z.elim λG z=>⟨a,rfl,S.1,_,G,Wc (z.1.symm.trans E)▸z.2.2.1,z.2.2.2.1,z.2.2.2.2.2⟩)
   |_=>exact ns e
 |_=>exact ns e
def DX(C:bJ c k A b w)(j:a<c.X.l3)(e:bM b L a=some g)(p:o c.X w L B):aR c (getAttr B (c.X.az a) i) b w b g:=
 (M6 e).elim λd z=>z.elim λP z=>(EL C.ag.aH z.1 p).elim λx h=>h.1▸h.2.2.elim λy N=>N.elim λG N=>(N.2.2.zd C.ok.az a).elim (λf=>f.elim λs f=>f.elim λm f=>by have K:=C.ok.az.cls d h.2.1;have r:=Wc (f.1.symm.trans z.2)▸f.2.2;exact N.2.1.elim λl T=>aR.toks C.ag λQ E q=>get_value C.lS ⟨N.1,rfl,rfl,T⟩ K.DW (MM K.dict (K.JH a j) (by rw[lookIn_dict];exact f.2.1)) r.NF (q _ _ r)) λf=>ns (f.1.symm.trans z.2)
def Ie(m:bT n a):bT (n+1) (.aS a b):=λc A V v d k x w e o C=>
 bK e λu P O e=>aA e λr f e=>bz (p:=λv d=>aR c (eval (.Attribute (aJ c.X k a (ax x 0)) (c.X.az b) x.pos) c.af) V w d v) e
  (bP.d9 C.ag (m.aO O (ar (ar o)) C.aW) (λS T l g=>DX (C.aF l) (fT (aN o)) f g) λQ E h=>Attribute_any_ h (by
   show(do let o<-attributeBase _ _ c.af (eval _ c.af);_)=_
   rw[uT (aN (ar o))]))
def U8(m:Nat)(f:Nat)(x:V):ct f Z.bj x=ct f ⟨.nil,m⟩ x:=by
 induction f generalizing x with
 |zero=>rfl
 |succ f S=>
  have e:ct f Z.bj=ct f ⟨.nil,m⟩:=funext S;induction x using V.casesOn with
  |ref=>rfl
  |ins c b P=>induction b with
   |true=>show(Y (gg (ct f Z.bj) P) λl=>some (V.ins c false l))=_;rw[e];rfl
   |false=>rfl
  |_=>rfl
def DO(R:bB c.X d w)(e:ct 11 Z.bj x=some y)(r:o c.X w x f):o c.X ⟨w.G.bI λb=>b=w.G.aX p,w.s⟩ y f:=
 have E:cM (w.done ⟨.nil,d.n⟩) ⟨w.G.bI λb=>b=w.G.aX p,w.s⟩:=⟨λa g=>g.elim Or.inl λh=>h.elim λq z=>absurd z.1 m6,λ_ _ q=>q,λ_ _ _ q=>q⟩
 (w4 R.none 11 x y f (U8 d.n 11 x▸e) r).ext E
def MX(t:aP c i m)(T:aT c i m h w)(e:sW L h=some (g,f))(p:o c.X w L d):∃B,B.s=w.s/\aT c i m f B/\o c.X B g d:=by
 have u:some (L,h)=some (g,f)->∃B,B.s=w.s/\aT c i m f B/\o c.X B g d:=λe=>bz (p:=λg f=>∃B,B.s=w.s/\aT c i m f B/\o c.X B g d) e ⟨w,rfl,T,p⟩;induction L using V.casesOn with
 |ref q=>
  have e:(match h.get q with
   |some (.ae O 0)=>Y (fY (ct 11 Z.bj) O) λl=>some (V.ae l,h.hk q)
   |some (.ah k n 0)=>Y (gU (ct 11 Z.bj) n) λl=>some (.ah k l,h.hk q)
   |_=>none)=some (g,f):=e
  generalize s:h.get q=N;induction N with
  |none=>rw[s] at e;exact ns e
  |some H=>
   rw[s] at e;have z:=T.aH.MV (Ex:=iu c.f) s;have j:∀{X:V},o c.X ⟨w.G.bI λb=>b=w.G.aX q,w.s⟩ X d->∃B,B.s=w.s/\aT c i m (h.hk q) B/\o c.X B X d:=λr=>⟨⟨w.G.bI λb=>b=w.G.aX q,w.s⟩,rfl,⟨z.1,T.step.trans t.aH z.2,T.aM,T.dd⟩,r⟩;induction H with
   |ae O l=>induction l with
    |zero=>exact aA e λl A e=>bz (p:=λg f=>∃B,B.s=w.s/\aT c i m f B/\o c.X B g d) e (j (oO T.aH (q:=λd=>o c.X _ (.ae l) d) s p λa E S=>Wc (S.1.symm.trans E)▸S.2.elim λD S=>.ae (.inr rfl) S.1 S.2.1 (AR (λ_ _ _=>DO T.aH) A S.2.2)))
    |succ=>exact ns e
   |ah P n l=>induction l with
    |zero=>exact aA e λl A e=>bz (p:=λg f=>∃B,B.s=w.s/\aT c i m f B/\o c.X B g d) e (j (oO T.aH (q:=λd=>o c.X _ (.ah P l) d) s p λa E S=>Wc (S.1.symm.trans E)▸S.2.2.elim λG z=>.ah (.inr rfl) S.2.1 (z.1.up ⟨λ_ x=>Or.inl x,λ_ _ x=>x,λ_ _ _ x=>x⟩ rfl) z.2.1 (GG (λ_ _ _=>DO T.aH) A z.2.2)))
    |succ=>exact ns e
   |ins=>exact ns e
 |_=>exact u e
def Ip(m:bT n a):bT (n+1) (.bI a):=λc A V v b k x w e o C=>bK e λu P O e=>λQ E q=>m.aO O o C.aW Q E λS T l g=>(MX C.ag l e g).elim λB z=>z.1▸q B T z.2.1 z.2.2
end
def tT(l:List α)(i:Nat):a3 l i=l[i]?:=by
 induction l generalizing i with
 |nil=>rfl
 |cons a r S=>induction i with|zero=>rfl|succ i=>exact S i
def LK(l:List α)(i:Nat):q7 l i=l.drop i:=by
 induction l generalizing i with
 |nil=>induction i<;>rfl
 |cons a r S=>induction i with|zero=>rfl|succ i=>exact S i
def Un(l:List α)(i:Nat):mg l i=l.take i:=by
 induction l generalizing i with
 |nil=>induction i<;>rfl
 |cons a r S=>induction i with|zero=>rfl|succ i=>exact Wd (a::·) (S i)
def AS(l b:List α):gj l b=l.reverse++b:=by
 induction l generalizing b with|nil=>rfl|cons a r S=>show gj r (a::b)=_;rw[S,Xy,Xf];rfl
def aK.drop(j:Nat)(o:aK c' f' h' a'):aK c' f' (h'.drop j) (a'.drop j):=by
 induction j generalizing h' a' with
 |zero=>exact o
 |succ j C=>induction h' with|nil=>exact o.eg (q:=λa'=>aK c' f' _ (a'.drop (j+1))) .nil|cons=>exact o.dK (q:=λa'=>aK c' f' _ (a'.drop (j+1))) λ_ _ _ u=>C u
def aK.take(j:Nat)(o:aK c' f' h' a'):aK c' f' (h'.take j) (a'.take j):=by
 induction j generalizing h' a' with
 |zero=>exact .nil
 |succ j J=>induction h' with|nil=>exact o.eg (q:=λa'=>aK c' f' _ (a'.take (j+1))) .nil|cons=>exact o.dK (q:=λa'=>aK c' f' _ (a'.take (j+1))) λ_ _ u C=>.cons u (J C)
def aK.reverse(j:aK c' f' h' a'):aK c' f' h'.reverse a'.reverse:=by
 induction h' generalizing a' with|nil=>exact j.eg (q:=λa'=>aK c' f' _ a'.reverse) .nil|cons J h' C=>exact j.dK (q:=λa'=>aK c' f' _ a'.reverse) λ_ _ o u=>by rw[Xy,Xy];exact(C u).append (.cons o .nil)
def xq(h:e3 e):starEach (e::r) af=(false,eval e af)::starEach r af:=by induction e using Expr.casesOn<;>first|rfl|exact bb h
def Me:∀{s:bD}{b:YU}{h:Z},h6 e G s=some (b,h)->b.length=G.length:=by
 induction G with|nil=>exactλq=>bz (p:=λb _=>b.length=0) q rfl|cons a r S=>exactλq=>bK q λu P O q=>bK q λd N f q=>bz (p:=λb _=>b.length=_) q (Wd Nat.succ (S f))
section
variable{c:cu}{k n:Nat}{A:YS}{X S:Z}{w:aL}
def hO(h:eO d f (a::r) b):f a (b.headD d)/\eO d f r b.tail:=by
 induction b with|nil=>exact⟨aN h,ar h⟩|cons=>exact⟨aN h,ar h⟩
def hV:cD d f (a::r) b=f a (b.headD d)::cD d f r b.tail:=by induction b<;>rfl
def y1(m:∀e,bT n e)(G:List E):∀(d:List Y9)(X:Z)(b:YU)(S:Z)(w:aL),h6 (aD c.X.P c.X.N n).e G ⟨A,X⟩=some (b,S)->eO ck (bQ c.X k c.af.kindOf) G d->(cD ck (aJ c.X k) G d).all e3->bJ c k A X w->
  bP c (spliced (backTo pos (starEach (cD ck (aJ c.X k) G d) c.af))) X w S λB t=>aK c.X B b t:=by
 induction G with|nil=>exactλd X b S w e _ _ C=>bz (p:=λb S=>bP c _ X w S λB t=>aK c.X B b t) e (bP.toks C.ag λQ E q=>spliced_nil (q _ w.s.toks .nil))|cons a r g=>intro d X b S w e o s C;have s:=Xz▸hV▸s;rw[hV,xq (aN s)];exact bK e λu P O e=>bK e λj N f e=>bz (p:=λb S=>bP c _ X w S λB t=>aK c.X B b t) e λQ E q=>spliced_cons ((m a).aO O (hO o).1 C _ E λp T l i=>g d.tail P j N p f (hO o).2 (ar s) (C.aF l) _ E λv t h K=>q v _ (l.trans C.ag h) (.cons (i.ext ((C.ag.aF l).ext h)) K))
def Fc(f:Nat.ble (VN G) 64)(O:h6 e G s=some (a,h))(p:aK c.X w a eQ):eQ.length<=b0:=by rw[<-p.length,Me O,<-dO];exact Wh (nT f) (by decide)
def IC(m:∀e,bT n e):bT (n+1) (.ay G):=λc A X v S k x w e o C=>
 bK e λd P O e=>bz (p:=λv S=>aR c (eval (.Tuple (cD ck (aJ c.X k) G (cR x)) (lR x) x.pos) c.af) X w S v) e
  (bP.d9 C.ag (y1 m G _ _ _ _ _ O (ar (ar o)) (aN (ar o)) C.aW) (λa D l g=>Qx (C.ag.aF l) (Fc (aN o) O g) g) λQ E h=>Tuple_ h)
def Iv(m:∀e,bT n e):bT (n+1) (.ae g G):=λc A X v S k x w e o C=>
 bK e λd P O e=>bz (p:=λv S=>aR c (eval (.List (cD ck (aJ c.X k) G (cR x)) x.pos) c.af) X w S v) e
  (bP.d9 C.ag (y1 m G _ _ _ _ _ O (ar (ar o)) (aN (ar o)) C.aW) (λb D l a=>Qu (C.ag.aF l) (Fc (aN o) O a) a g) λQ E h=>List_ h)
def xv{o i:Y3}{m id:String}{t:YY}{Q:YV}{E:YV}(R:s.TypeIs o m)
  (f:typeLookup (.type m) "__getitem__"=pure (some (.builtin id)))(c:subscripted slice false o i=operate t (getItem o i))(h:wpAny (model prog b) a (getItem o i) Q E s):wpAny (model prog b) a (subscriptTail value slice o i) Q E s:=by
 unfold subscriptTail;refine Wi ?_;rw[getitemInPython_of_ne R.not_modules];refine Wi (wpAny_specialOf R f ?_);have S:wpAny (model prog b) a (subscripted slice false o i) (λr p=>wpAny (model prog b) a (letTemporaryGo value o r>>=λ_=>pure r) Q E p) E s:=by rw[c];exact wpAny_operating (W6 h (λr p G=>Wi (wpAny_letTemporaryGo (Wo G))) λ_ _ x=>x)
 first
  |exact Wo (Wi S)
  |exact Wi (Wo (Wi S))
  |exact Wi S
def Bi(h:tQ slice):subscripted slice false H i=operate [H,i] (getItem H i):=by induction slice using Expr.casesOn<;>first|exact(rfl:operate [H,i] (getItem H i)=operate [H,i] (getItem H i))|exact bb h
def Qt{m n k:Nat}(q:m<n)(e:n-(m+1)=k):Int.negSucc m=(k:Int)-n:=by subst e;rw[Int.ofNat_sub q,Int.sub_sub,YP,<-Int.sub_sub,Int.sub_self,Int.zero_sub];rfl
def Gq(h:wW i n=some k):(i=(k:Int)/\k<n)\/(i<0/\i=(k:Int)-n/\k<n):=by
 induction i with
 |ofNat m=>
  have h:(match Nat.blt m n with|true=>some m|false=>none)=some k:=h
  generalize q:Nat.blt m n=N;induction N with
  |true=>have h:=q▸h;exact .inl (Wc h▸⟨rfl,fT q⟩)
  |false=>have h:=q▸h;exact ns h
 |negSucc m=>
  have h:(match Nat.blt m n with|true=>some (n-(m+1))|false=>none)=some k:=h
  generalize q:Nat.blt m n=N;induction N with|true=>have h:=q▸h;exact .inr ⟨Xh m,Qt (fT q) (Wc h),Wc h▸XT (Wf (Ww m) (fT q)) (Wx m)⟩|false=>have h:=q▸h;exact ns h
def G1(h:k<n):seqIndex? (k:Int) n=some k:=by unfold seqIndex?;simp [(YM.mpr (W4 k)),(XM.mpr h)]
def NU(h:wW i n=some k)(X:n<=b0):-(2 ^ 63:Int)<=i/\i<2 ^ 63/\seqIndex? i n=some k:=by
 have f:b0<2 ^ 62:=by decide
 rcases Gq h with⟨rfl,z⟩|⟨a,rfl,z⟩
 .exact⟨by lia,by lia,G1 z⟩
 .refine⟨by lia,by lia,?_⟩
  rw[MeetsSeq.seqIndex_neg a (by lia)]
  congr 1;lia
def o.FX{u:Y3->Prop}(C:lz h'=some a')(j:o s' w h' f')(k:∀c',u (.int (.ofNat a') c')):u f':=by have j:=(pd C)▸j;exact j.dt k
def Pd{D:YY}{t:Tok}{u:Y3}{Q:YV}{E:YV}(f:w.h.PlainList a D.toArray)(A:D.length<=b0)(b:wW B D.length=some m)(H:D[m]?=some u)(X:tQ slice)(y:Q u w.s):Zs c (subscriptTail value slice (.ref a) (.int B t)) Q E w.s:=by
 have S:b0<2 ^ 62:=by decide
 refine xv f.isList.typeIs list_getitem_lookup (Bi X) ?_;rcases Gq b with⟨rfl,z⟩|⟨d,rfl,z⟩
 .exact wpAny_getItem_list f.isList (W4 m) (by lia) (by rw[Int.toNat_natCast];exact(List.getElem?_toArray ..).trans H) y
 .refine wpAny_getItem_list_neg f.isList d (by rw[WB];lia) (by lia) ?_ y
  rw[WB,show((m:Int)-(D.length:Int)+(D.length:Int)).toNat=m by lia]
  exact(List.getElem?_toArray ..).trans H
def M7(I:aP c X w)(k:tQ slice)(H:c.A.units+30<cLine)(e:cZ L i X=some g)(p:o c.X w L l)(q:o c.X w i f):aR c (subscriptTail value slice l f) X w X g:=by
 refine aA e λr F e=>(kx I.aH F p).elim λa h=>h.1▸?_;have h:=h.2;induction r with|D V T=>exact aA e λA s e=>h.2.elim λG d=>(d.2.2.aO e).elim λL z=>λQ E y=>xv d.1.typeIs (slot_dict_getitem.lookup) (Bi k) (M8 I (Wf (Wt (by decide) _) H) d.1 (pQ s q) z.1 Q E λS x n u=>y S x n (u▸z.2.ext (I.ext n)))|L O=>exact aA e λj P e=>aA e λm D e=>h.elim λv h=>(h.2.2.lM (tT O m▸e)).elim λL z=>(hE P▸q).dt (p:=λf=>aR c (subscriptTail value slice (.ref a) f) X w X g) λt=>aR.toks I λQ E y=>Pd h.1 h.2.1 (h.2.2.length▸dO O▸D) z.1 k (y L w.s.toks z.2)|T O=>exact aA e λj P e=>aA e λm D e=>h.elim λv h=>(h.2.2.lM (tT O m▸e)).elim λL z=>(hE P▸q).dt (p:=λf=>aR c (subscriptTail value slice (.ref a) f) X w X g) λt=>aR.toks I λQ E y=>(by have b:=NU (h.2.2.length▸dO O▸D) h.2.1;exact xv h.1.typeIs PyProof.Rows.slot_tuple_getitem.lookup (Bi k) (getItem_tuple h.1 b.1 b.2.1 (by rw[WB];exact b.2.2) ((List.getElem?_toArray ..).trans z.1) (y L w.s.toks z.2)))
def IB(m:bT n a)(b:bT n i):bT (n+1) (.sub a i):=λc A X v S k x w e o C=>
 bK e λu P O e=>bK e λR N f e=>aA e λr D e=>bz (p:=λv S=>aR c (eval (.Subscript (aJ c.X k a (ax x 0)) (aJ c.X k i (ax x 1)) x.pos) c.af) X w S v) e
  (bP.ek C.ag (m.aO O (aN (ar o)) C.aW) (λd T l g=>b.aO f (ar (ar o)) (C.aW.aF l)) (λd s T I p g h K=>M7 (p.aF h) (aN o) C.units D (g.ext (p.ext h)) K) λQ E=>Subscript_)
def Pc{p:Y3->Prop}(R:bB f X w)(e:ru L X=some d)(r:o f w L g)(k:∀a b,w.h.IsList a b.toArray->b.length<=b0->aK f w d b->p (.ref a)):p g:=by
 have F:d4 L X=some d->p g:=λe=>mZ R e r λa b h n q=>k a b h.isList n q;induction L using V.casesOn with|hu E=>exact b6 (p:=λd=>(∀a b,w.h.IsList a b.toArray->b.length<=b0->aK f w d b->p (.ref a))->p g) e (λk=>by cases r with|hu _ h n q=>exact k _ _ h n q) k|_=>exact F e
def Ba{G z D:Y3}{j A y:Ze Int}{f:YU}{r:YY->YY}{g:Bool}(I:aP c X w)(e:ru L X=some d)(p:o c.X w L b)(K:IsPart G j)(M:IsPart z A)(O:IsPart D y)(x:y≠some 0)
  (B:∀l:YY,slicePick l.toArray j A y=(r l).toArray)(s:∀l:YY,(r l).length<=l.length)(J:∀{w:aL}{D:YY},aK c.X w d D->aK c.X w f (r D))(C:∀(H i:Y3),∃t,subscripted slice false H i=operate t (getItem H i)):
  aR c (newFields "slice" [G,z,D]>>=λi=>subscriptTail value slice b i) X w (dj g f X).2 (dj g f X).1:=
 Pc (p:=λb=>aR c (newFields "slice" [G,z,D]>>=λi=>subscriptTail value slice b i) X w _ _) I.aH e p λa P n h F=>λQ E q=>Wi (YI (by have T:=aT.all (t:=w.s.toks) I (c3.push w.s.heap {cls:=.type "slice",data:=.fields #[G,z,D]});have S:=n.push {cls:=.type "slice",data:=.fields #[G,z,D]};refine(C (.ref a) (.ref (Zw w.s))).elim λt u=>bP.tv (I.aF T) (Wh (s P) h) (J (F.ext (I.ext T))) g (λQ E k=>?_) Q E λR v m N=>q R v (T.trans I m) N;refine xv S.typeIs list_getitem_lookup u ?_;refine wpAny_getItem_list_slice S (Heap.IsSliceOf.new ..) K M O x ?_ (mc h);rw[B];exact k _ w.s.toks _ (.all (I.aF T) (c3.push _ _)) (hl _) (wZ _ _)))
def An{E:YV}{l u c:Y3}{k:Y3->Sem Y3}(q:wpAny (model prog b) a (newFields "slice" [l,u,c]>>=k) Q E s):
  wpAny (model prog b) a (k (.ref (Zw s))) Q E {s with heap:=s.heap.push {cls:=.type "slice",data:=.fields #[l,u,c]}}:=λΓ p d=>by
 have:=q Γ p d;rw[Sem.wp_bind'] at this;exact this
def G8{L A:Ze Y9}(o i:Y3):∃t,subscripted (.Slice L A none l) false o i=operate t (getItem o i):=⟨_,rfl⟩
def bP.aO{o:α->Y2}{E:YV}(j:bP c c' hp1 w1 S a')(u:aP c X w)(C:aT c X w hp1 w1)(U:∀w' j,aT c X w S w'->a' w' j->o j w'.s):Zs c c' o E w1.s:=j o E λV x J M=>U V x (C.trans u J) M
def IA{B:Bool}{L g:Ze E}(m:∀e,bT n e):bT (n+1) (.gk B a L g):=λc A X v S k x w e H C=>by
 refine bK e λu J z e=>?_;induction L with
 |some i=>induction g with
  |some=>exact ns e
  |none=>refine bK e λR N f e=>aA e λO D e=>aA e λj P e=>bz (p:=λv S=>aR c (eval (.Subscript (aJ c.X k a (ax x 0)) (.Slice (some (aJ c.X k i (ax (ax x 1) 0))) none none (ax x 1).pos) x.pos) c.af) X w S v) e λQ E q=>Subscript_ ((m a).aO z (aN H) C.aW _ E λF T b s=>?_);refine wpAny_Slice ((m i).aO f (aN (ar H)) (C.aW.aF b) _ E λG I h K=>?_);have p:=C.ag.aF b;refine(o.FX (u:=λy=>∃t,y=.int (.ofNat j) t) P K λt=>⟨t,rfl⟩).elim λt d=>?_;subst d;refine Wo (Wo (An ?_));exact bP.aO (Ba (p.aF h) D (s.ext (p.ext h)) (.int _ _) .none .none cB (λl=>slicePick_from' _ _) (λl=>by rw[Yi];exact W' ..) (λr=>LK O j▸r.drop j) G8) C.ag (b.trans C.ag h) q
 |none=>induction g with|none=>exact ns e|some i=>refine bK e λR N f e=>aA e λO D e=>aA e λj P e=>bz (p:=λv S=>aR c (eval (.Subscript (aJ c.X k a (ax x 0)) (.Slice none (some (aJ c.X k i (ax (ax x 1) 0))) none (ax x 1).pos) x.pos) c.af) X w S v) e λQ E q=>Subscript_ ((m a).aO z (aN H) C.aW _ E λF T b s=>?_);refine wpAny_Slice (Wo ((m i).aO f (ar H) (C.aW.aF b) _ E λG I h K=>?_));have p:=C.ag.aF b;refine(o.FX (u:=λy=>∃t,y=.int (.ofNat j) t) P K λt=>⟨t,rfl⟩).elim λt d=>?_;subst d;refine Wo (An ?_);exact bP.aO (Ba (p.aF h) D (s.ext (p.ext h)) .none (.int _ _) .none cB (λl=>slicePick_upto' _ _) (λl=>by rw[List.length_take];exact Nat.min_le_right ..) (λr=>Un O j▸r.take j) G8) C.ag (b.trans C.ag h) q
def Iz(m:bT n a):bT (n+1) (.oH g a):=λc A X v S k x w e o C=>by refine bK e λu P O e=>aA e λh D e=>bz (p:=λv S=>aR c (eval (aJ c.X (k+1) (.oH g a) x) c.af) X w S v) e λQ E q=>Subscript_ (m.aO O o C.aW _ E λd T b f=>?_);have p:=C.ag.aF b;refine wpAny_Slice (Wo (Wo (wpAny_UnaryOp (wpAny_Constant_int (neg_int (An ?_))))));exact bP.aO (w1:=d.a8 _) (Ba (f:=gj h []) (r:=λl=>l.reverse) (p.aF (.a8 p _)) D (f.ext (.a8 d _)) .none .none (.int _ _) nofun (λl=>krv_pick _) (λl=>by rw[Yz];exact Wr _) (λr=>by rw[AS,WQ];exact r.reverse) λo i=>⟨_,rfl⟩) C.ag (b.trans C.ag (.a8 p _)) q
end
def AJ(x:Y9):Bool:=match js 3 x with
 |true=>(match x with|.UnaryOp .Not _ _=>false|_=>true)
 |false=> !(js 0 x)&&(!(js 5 x)&& !(js 15 x))
def Og(h:AJ x):isTrue x af whole=(do let a<-whole;standAt x.pos;holding [a] (PySem.truthy a)):=by
 induction x using Expr.casesOn with
 |UnaryOp F y p=>induction F<;>first|exact bb h|rfl
 |_=>first|exact bb h|rfl
def yl(i:bT f e)(B:∀(X:cn)(a:Nat)(d:Y'->Ze Y6)(x:Y9),bQ X (a+1) d e x->AJ (aJ X (a+1) e x)):Gt f e:=λc A V v g b a x w _ e p o C=>bP.d9 C.ag (i c A V v g a x w e o C) (λS T l j=>xF (C.ag.aF l) p j) λQ E h=>wpAny_isTrue_value h (Og (B _ _ _ _ o))
def Jc(m:Gt f a):Gt (f+1) (.c6 .not a):=λc A V v h b k x w _ e p o C=>bK e λu P O e=>aA e λr g e=>aA g λd s g=>bz (p:=λv h=>VQ v h=some b->c4 c (isTrue (aJ c.X (k+1) (.c6 .not a) x) c.af (eval (aJ c.X (k+1) (.c6 .not a) x) c.af)) V w h b) e (λp=>by have g:=Wc g;subst g;exact b6 p λQ E q=>wpAny_isTrue_Not (m.aO (aN o) O s (ar o) C.aW _ E λS T l i=>i▸q S _ l rfl)) p
def Ir(m:∀e,bT f e)(N:∀e,Gt f e):bT (f+1) (.ite t a b):=λc A V v i k x w e o C=>
 bK e λu P O e=>aA e λd g e=>λQ E q=>wpAny_IfExp ((N t).aO (aN o) O g (aN (ar (ar (ar o)))) C.aW _ E λS T l h=>by
  subst h;induction T with|true=>exact bP.aO ((m a).aO e (aN (ar (ar (ar (ar o))))) (C.aW.aF l)) C.ag l q|false=>exact bP.aO ((m b).aO e (ar (ar (ar (ar (ar o))))) (C.aW.aF l)) C.ag l q)
def Jb(N:∀e,Gt f e):Gt (f+1) (.ite t a b):=λc A V v i r k x w _ e p o C=>
 bK e λu P O e=>aA e λd g e=>λQ E q=>isTrue_IfExp ((N t).aO (aN o) O g (aN (ar (ar (ar o)))) C.aW _ E λS T l h=>by
  subst h;induction T with|true=>exact bP.aO ((N a).aO (aN (ar o)) e p (aN (ar (ar (ar (ar o))))) (C.aW.aF l)) C.ag l q|false=>exact bP.aO ((N b).aO (aN (ar (ar o))) e p (ar (ar (ar (ar (ar o))))) (C.aW.aF l)) C.ag l q)
def J8(t:∀e,bT m e){and:Bool}(G:List E):∀(i:List Y9)(h:Z)(g:V)(f:Z)(w:aL),pj (aD c.X.P c.X.N m).e and G ⟨A,h⟩=some (g,f)->eO ck (bQ c.X l c.af.kindOf) G i->bJ c l A h w->
  aR c (eval (.BoolOp (sg and) (cD ck (aJ c.X l) G i) pos) c.af) h w f g:=by
 induction G with
 |nil=>exactλi h g f w e=>ns e
 |cons a r S=>
  intro i h g f w e H C;rw[hV];induction r with
  |nil=>exactλQ E q=>BoolOp_one ((t a).aO e (hO H).1 C Q E q)
  |cons b r=>
   have e:=e;rw[hV];refine bK e λu P O e=>aA e λd v e=>λQ E q=>?_;have z:=trivial;have y:∀(s:aL),aT c h w P s->pj (aD c.X.P c.X.N m).e and (b::r) ⟨A,P⟩=some (g,f)->Zs c (eval (.BoolOp (sg and) (cD ck (aJ c.X l) (b::r) i.tail) pos) c.af) Q E s.s:=λs T e=>bP.aO (S i.tail P g f s e (hO H).2 (C.aF T)) C.ag T q;rw[hV] at y;induction and with
   |true=>
    refine BoolOp_and ((t a).aO O (hO H).1 C _ E λx p j n=>xF (C.ag.aF j) v n _ E λs I k K=>?_);subst K;induction I with
    |true=>exact y s (j.trans C.ag k) e
    |false=>exact bz (p:=λg f=>(∀B a,aT c h w f B->o c.X B g a->Q a B.s)->Q p s.s) e (λq=>q s p (j.trans C.ag k) (n.ext ((C.ag.aF j).ext k))) q
   |false=>
    refine BoolOp_or ((t a).aO O (hO H).1 C _ E λx p j n=>xF (C.ag.aF j) v n _ E λs I k K=>?_);subst K;induction I with|false=>exact y s (j.trans C.ag k) e|true=>exact bz (p:=λg f=>(∀B a,aT c h w f B->o c.X B g a->Q a B.s)->Q p s.s) e (λq=>q s p (j.trans C.ag k) (n.ext ((C.ag.aF j).ext k))) q
def Ii(m:∀e,bT a e){and:Bool}:bT (a+1) (.bool and G):=λc A V v E k x w e o C=>J8 m G _ _ _ _ _ e (ar o) C.aW
def J9(N:∀e,Gt m e){and:Bool}(G:List E):∀(i:List Y9)(h:Z)(g:V)(f:Z)(b:Bool)(w:aL),pj (aD c.X.P c.X.N m).e and G ⟨A,h⟩=some (g,f)->VQ g f=some b->G.all ij->eO ck (bQ c.X l c.af.kindOf) G i->bJ c l A h w->
  c4 c (isTrue (.BoolOp (sg and) (cD ck (aJ c.X l) G i) pos) c.af whole) h w f b:=by
 induction G with
 |nil=>exactλi h g f b w e=>ns e
 |cons a r x=>
  intro i h g f b w e p s o C;refine hV▸?_;rw[Xz] at s;induction r with
  |nil=>
   intro Q E q;induction and with
   |true=>
    refine isTrue_and ((N a).aO (aN s) e p (hO o).1 C _ E λS n j k=>?_);subst k;induction n with
    |true=>exact isTrue_and_nil (q S _ j rfl)
    |false=>exact q S _ j rfl
   |false=>
    refine isTrue_or ((N a).aO (aN s) e p (hO o).1 C _ E λS n j k=>?_);subst k;induction n with
    |false=>exact isTrue_or_nil (q S _ j rfl)
    |true=>exact q S _ j rfl
  |cons d r=>
   have e:=e;refine bK e λu P O e=>aA e λz t e=>λQ E q=>?_;have y:∀(v:aL),aT c h w P v->pj (aD c.X.P c.X.N m).e and (d::r) ⟨A,P⟩=some (g,f)->Zs c (isTrue (.BoolOp (sg and) (cD ck (aJ c.X l) (d::r) i.tail) pos) c.af whole) Q E v.s:=λv T e=>bP.aO (x i.tail P g f b v e p (ar s) (hO o).2 (C.aF T)) C.ag T q;induction and with
   |true=>
    refine isTrue_and ((N a).aO (aN s) O t (hO o).1 C _ E λS n j k=>?_);subst k;induction n with
    |true=>exact y S j e
    |false=>exact bz (p:=λg f=>VQ g f=some b->(∀B a,aT c h w f B->a=b->Q a B.s)->Q false S.s) e (λp q=>q S false j (Wc (t.symm.trans p))) p q
   |false=>
    refine isTrue_or ((N a).aO (aN s) O t (hO o).1 C _ E λS n j k=>?_);subst k;induction n with|false=>exact y S j e|true=>exact bz (p:=λg f=>VQ g f=some b->(∀B a,aT c h w f B->a=b->Q a B.s)->Q true S.s) e (λp q=>q S true j (Wc (t.symm.trans p))) p q
def I9(N:∀e,Gt a e){and:Bool}:Gt (a+1) (.bool and G):=λc A V v E b k x w _ e p o C=>J9 N G _ _ _ _ _ _ e p (aN o) (ar o) C.aW
def Il(n:∀e,bT f e):bT (f+1) (.kv g h a b d):=λc T V v m k x w e H C=>by
 refine bK e λu P O e=>bK e λW R A e=>aA e λr D e=>λQ E q=>Compare_chain ((n a).aO O (aN H) C.aW _ E λY x1 l L=>?_) (wC (ar (ar (ar H))));refine chain_link ((n b).aO A (aN (ar H)) (C.aW.aF l) _ E λZ x2 s K=>?_);have i:=(C.ag.aF l).aF s;refine pv i C.units D (L.ext ((C.ag.aF l).ext s)) K _ E λI z j y=>?_;subst y;have p:=l.trans C.ag (s.trans (C.ag.aF l) j);refine XY ?_;induction r with|false=>exact bz (p:=λv m=>(∀B a,aT c V w m B->o c.X B v a->Q a B.s)->Q _ I.s) e (λq=>q I _ p .bool) q|true=>exact bK e λX S F e=>aA e λU J e=>chain_last ((n d).aO F (aN (ar (ar H))) (C.aW.aF p) _ E λa' x4 t M=>pv ((i.aF j).aF t) C.units J ((K.ext (i.ext j)).ext ((i.aF j).ext t)) M Q E λG z N y=>bz (p:=λv m=>(∀B a,aT c V w m B->o c.X B v a->Q a B.s)->Q z G.s) e (λq=>q G _ (p.trans C.ag (t.trans (i.aF j) N)) (y▸.bool)) q)
def Ja(n:∀e,bT f e):Gt (f+1) (.kv g h a b d):=λc W V v i y k x w _ e p o C=>by
 refine bK e λu S O e=>bK e λX T D e=>aA e λr F e=>λQ E q=>isTrue_chain ((n a).aO O (aN o) C.aW _ E λZ x1 l M=>?_) (wC (ar (ar (ar o))));refine test_link ((n b).aO D (aN (ar o)) (C.aW.aF l) _ E λa' x2 s K=>?_);have B:=(C.ag.aF l).aF s;refine pv B C.units F (M.ext ((C.ag.aF l).ext s)) K _ E λI z j A=>?_;subst A;have H:=l.trans C.ag (s.trans (C.ag.aF l) j);refine XY ?_;induction r with|false=>exact bz (p:=λv i=>VQ v i=some y->(∀m a,aT c V w i m->a=y->Q a m.s)->Q false I.s) e (λp q=>q I _ H (Wc p)) p q|true=>exact bK e λY U J e=>aA e λR L e=>test_last ((n d).aO J (aN (ar (ar o))) (C.aW.aF H) _ E λcK x4 t P=>pv ((B.aF j).aF t) C.units L ((K.ext (B.ext j)).ext ((B.aF j).ext t)) P _ E λG z N A=>A▸XY (bz (p:=λv i=>VQ v i=some y->(∀m a,aT c V w i m->a=y->Q a m.s)->Q R G.s) e (λp q=>q G _ (H.trans C.ag (t.trans (B.aF j) N)) (Wc p)) p q))
def Cw(f:List (Y'×Y6)):∀(b:Nat)(c:List (Y'×Y4))(x:Y')(a:Y4),(x,a)∈cellsFrom b f c->(x,a)∈c\/b<=a:=by
 induction f with
 |nil=>exactλ_ _ _ _ h=>.inl h
 |cons y r S=>
  intro b c x a h;have h:(x,a)∈if(y.2==NameKind.cell)=true then cellsFrom (b+1) r ((y.1,b)::c)else cellsFrom b r c:=h
  by_cases q:(y.2==NameKind.cell)=true
  .rw[if_pos q] at h
   refine(S (b+1) _ x a h).elim (λh=>?_) λh=>.inr (WX h);cases h with
   |head=>exact .inr (Wr _)
   |tail _ h=>exact .inl h
  .rw[if_neg q] at h
   exact S b c x a h
def Cv(f:List (Y'×Y6)):∀(a:Nat)(b:List (Y'×Y4)),b.Pairwise (λp q=>p.2≠q.2)->(∀p∈b,p.2<a)->(cellsFrom a f b).Pairwise λp q=>p.2≠q.2:=by
 induction f with
 |nil=>exactλ_ _ h _=>h
 |cons y r S=>
  intro a b h l;show List.Pairwise _ (if(y.2==NameKind.cell)=true then cellsFrom (a+1) r ((y.1,a)::b)else cellsFrom a r b)
  by_cases q:(y.2==NameKind.cell)=true
  .rw[if_pos q]
   refine S (a+1) _ (.cons (λp V=>WZ (l p V)) h) λp V=>?_;cases V with
   |head=>exact Wu _
   |tail _ V=>exact WW (l p V)
  .rw[if_neg q]
   exact S a b h l
def yM{l:List (Y'×Y4)}(h:l.Pairwise λp q=>p.2≠q.2)(P:(x,c)∈l)(N:(y,c)∈l):x=y:=by
 induction l with
 |nil=>cases P
 |cons p r S=>
  rw[XD] at h;cases P with
  |head=>cases N with
   |head=>rfl
   |tail _ N=>exact(h.1 (y,c) N rfl).elim
  |tail _ P=>cases N with
   |head=>exact(h.1 (x,c) P rfl).elim
   |tail _ N=>exact S h.2 P N
def pn:∀{P:List (Y4×Obj)},CellsAre b l P->(x,a)∈l->∃H,(a,H)∈P/\H.data=.cell (b x):=by
 induction l with
 |nil=>exactλ_ h=>es h
 |cons p r S=>
  intro P c h;cases c with
  |cons d r=>
   cases h with
   |head=>exact⟨_,.head _,d⟩
   |tail _ h=>exact(S r h).elim λH z=>⟨H,.tail _ z.1,z.2⟩
def hK{α β:Type} [BEq α] [LawfulBEq α]{x:α}{v:β}{l:List (α×β)}(h:l.lookup x=some v):(x,v)∈l:=by
 induction l with
 |nil=>exact ns h
 |cons p r S=>
  rw[XB] at h;cases q:x==p.1 with
  |true=>rw[q] at h;exact eq_of_beq q▸Wc h▸.head _
  |false=>rw[q] at h;exact .tail _ (S h)
def JX:∀{m:Y'->Ze Y3},(∀p∈l,p.1≠y)->bindL a l m y=m y:=by
 induction l with
 |nil=>exactλ_=>rfl
 |cons p r S=>
  intro m h;unfold bindL;rw[S λp V=>h p (.tail _ V)]
  split
  .exact if_neg (Ne.symm (h _ (.head _)))
  .rfl
def JW:∀{m:Y'->Ze Y3},(∀p∈l,p.1≠y)->bindC a l m y=m y:=by
 induction l with
 |nil=>exactλ_=>rfl
 |cons p r S=>
  intro m h;unfold bindC;rw[S λp V=>h p (.tail _ V)]
  split
  .rfl
  .exact if_neg (Ne.symm (h _ (.head _)))
def Cf(k:c x=some .local):∀{m:Y'->Ze Y3},(x,d)∈l->l.Pairwise (λa b=>a.1≠b.1)->bindL c l m x=some d:=by
 induction l with
 |nil=>exactλh=>es h
 |cons p r S=>
  intro m h D;rw[XD] at D;unfold bindL;cases h with
  |head=>rw[JX λp V=>Ne.symm (D.1 p V),if_pos k];exact if_pos rfl
  |tail _ h=>exact S h D.2
def Ce(k:c x=some .cell):∀{m:Y'->Ze Y3},(x,d)∈l->l.Pairwise (λa b=>a.1≠b.1)->bindC c l m x=some d:=by
 induction l with
 |nil=>exactλh=>es h
 |cons p r S=>
  intro m h D;rw[XD] at D;unfold bindC;cases h with
  |head=>rw[JW λp V=>Ne.symm (D.1 p V),k];exact if_pos rfl
  |tail _ h=>exact S h D.2
def jD(c:cu)(w:aL)(A:YS):fE->Flow->Prop
 |.next,r=>r=.next/\fG c.X w c.af A
 |.ret v,r=>∃g,r=.ret g/\o c.X w v g
def g9(c:cu)(t:Sem Flow)(V:Z)(w:aL)(G:bD)(i:fE):Prop:=
 ∀(Q:Flow->Y2)(E:YV),(∀B r,cO c V w G.h B->jD c B G.aj i r->Q r B.s)->Zs c t Q E w.s
def o2(n:Nat)(b:List S):Prop:=∀(c:cu)(j:bD)(i:fE)(G:bD)(k:Nat)(E:List Zd)(w:aL),(aD c.X.P c.X.N n).x b j=some (i,G)->l5 c.X k c.af.kindOf b E->bJ c k j.aj j.h w->g9 c (execs (kb c.X k b E) c.af) j.h w G i
def uY:∀{c:YU}{t:YY}{q:Nat}{f:V},aK X w c t->au (jP d c) q=some f->∃g,(X.az q,g)∈(d.map X.az).zip t/\o X w f g:=by
 induction d with
 |nil=>exactλ_ e=>by cases ‹YU›<;>exact ns e
 |cons p d S=>
  intro c t q f r e;induction c with
  |nil=>exact ns e
  |cons x c=>
   refine r.dK (q:=λt=>∃g,(X.az q,g)∈(X.az p::d.map X.az).zip t/\o X w f g) λu i a b=>?_;have e:(match Nat.beq p q with|true=>some x|false=>au (jP d c) q)=some f:=e
   generalize h:Nat.beq p q=N;induction N with|true=>rw[h] at e;exact⟨u,We h▸.head _,Wc e▸a⟩|false=>rw[h] at e;exact(S b e).elim λg z=>⟨g,.tail _ z.1,z.2⟩
def BK(W:lp X){O:YZ}:∀(t:YY),O.Nodup->((O.map X.az).zip t).Pairwise λa b=>a.1≠b.1:=by
 induction O with
 |nil=>exactλ_ _=>.nil
 |cons p O S=>
  intro t D;rw[Xc] at D;induction t with|nil=>exact .nil|cons v t=>exact .cons (λq I z=>(WN.mp (XU I).1).elim λa E=>D.1 (W.inj _ _ (E.2.trans z.symm)▸E.1)) (S t D.2)
def d5.EM(j:d5 h' a' (c'+20))(o:f'.bx::f'.hQ=af::h'.bx::h'.hQ):d5 f' (a'.deeper af) c':=by
 refine⟨?_,j.bC,?_,?_,?_⟩
 .show a'.frames.map _=_
  rw[j.frames,o];rfl
 .show(a'.depth+1)*20+c'<=18000
  rw[Nat.succ_mul,Wl,Wm 20];exact j.depth
 .show a'.units+3+8*c'<=9000
  refine Wh ?_ j.units;rw[Nat.mul_add,Wl,Wm 3];exact Wt (Wt (by decide) _) _
 .rw[(W5 o).2,WL,Nat.succ_mul,Wl,Wm 20];exact j.rr
def d5.lt(j:d5 c' a' f'):a'.depth<1000:=Nat.lt_of_mul_lt_mul_right (Wf (Wh (Wq _ _) j.depth) (by decide))
def DN(F:Fr f L h m)(r:Fr f L g m)(T:Fr g w P d)(t:∀p∈jf f L h,p.1<w):∀b,w<=b->h.get? b=none:=λb l=>by
 generalize e:h.get? b=N;induction N with
 |none=>rfl
 |some o=>
  refine absurd l (Nat.not_le_of_lt ?_)
  by_cases n:b=L
  .exact n▸r.ns.elim λa x=>x.elim λ_ x=>x.elim λ_ x=>Wg (WO x.1) T.above
  .generalize i:f.get? b=N;induction N with|some a=>exact Wg (WO (r.keep b _ i)) T.above|none=>exact t _ (jg.mpr ⟨e,n,i⟩)
set_option backward.match.sparseCases true in
def Ki{w:Y7}{I:List Env}{L:Y4}{m c' cK:Y'->Ze Y3}{v:Env}{C:List (Y4×Obj)}{K:Frag}{p:Program}{loose:List Y'}{mean:ExcName->Ze Y3}
  {R:Result->Y2}{name u:Y'}{params:Arguments}{E:List Zd}{S:Zc}{W a' Z pm k U fv:Y3}{O od:Ze Y4}{osl:Array (Ze Y3)}{f:Y4}{M:Args}{jP:List (Y'×Y3)}
  (B:Below Q base I G)(F:Fr G L s.heap m)(J:K.In G)(N:News G L s.heap C)(T:Top p loose mean c' cK G)(fi:A.frames=some (v::I))(hf:v.frame=some L)(hke:v.scope.kind=.function)
  (fs:K.lookup f=some ⟨fv,od,.func (fnOf name u params E S W a' Z pm O k U),osl⟩)(hcd:codeIn K k u)(hroom:A.depth<recursionLimit)
  (hbind:BindsTo s (fnOf name u params E S W a' Z pm O k U) M jP)(hkind:(jP.all λy=>S.names.lookup y.1==some .local||S.names.lookup y.1==some .cell))
  (hnd:((cellsFrom 0 S.names []).map (·.1)).Nodup)
  (h:∀g a i t P,Fr G L g m->Fr g a i (bindL (envOfC u S a f k).kindOf jP λ_=>none)->News g a i (P++C)->
   CellsAre (bindC (envOfC u S a f k).kindOf jP λ_=>none) (cellsFrom (a+1) S.names []) P->Below A base (v::I) g->K.In g->Top p loose mean c' cK g->(∀p∈C,p.1<a)->(∀l d,LeaveK G L m g R l d->R (.ok (.ret l)) d)->
   wpAny (model prog w) (A.deeper (envOfC u S a f k)) (execs E (envOfC u S a f k)) (λH d=>R (.ok (.ret (match H with|.ret l=>l|_=>.none))) d)
    (λe d=>wpAny (model prog w) (A.deeper (envOfC u S a f k)) (leaving (envOfC u S a f k) e) (λ_ r=>R (.error e) r) (λz r=>R (.error z) r) d) {s with heap:=i,toks:=t})
  (hco:S.isCoroutine=false)(hgen:S.isGenerator=false)(fp:S.kind=.function):codeAny (model prog w) A (.call (.ref f) M) R s:=by
 obtain⟨e2,e1,j,lv⟩:=groundX B F N fi hf hke;have X:=J.keeps F.keep;refine codeAny_call_function hroom (X _ _ fs) rfl hco hgen rfl (codeRec_of X hcd) (hbind _ _ _ _ ?_);refine wpAny_newFunctionEnv_cells fp (kindsX hkind _) λenv' he d x=>?_;subst he;refine⟨(T.nolimit.keeps F.keep).keeps x.toInCall.keep,codeAny_func ?_⟩;obtain⟨i,t,rfl,_⟩:=x.done;have hk₁:=x.toInCall.keep;obtain⟨P,D,Y⟩:=Cl.news (Wr _) λn c hm=>⟨x.cell n c (lookup_of_mem_nodup (cellsFrom_names S.names 0 ((Zw s)+1) [] [] rfl▸hnd) hm),x.above n c hm⟩;refine h _ (Zw s) i t P e2 ⟨x.toInCall.ns,λb o e=>hk₁ b o (of_hideAll _ e),WI (hideAll_size _ _)⟩ (λp V=>?_) Y e1 (J.keeps j) (T.keeps j) (λp V=>WO (N p V).1) lv;rcases WU.mp V with V|V
 .refine⟨(D p V).1,(D p V).2.1,?_⟩
  generalize q:(hideAll s.heap (C.map (·.1))).get? p.1=f';induction f' with|none=>rfl|some o=>exact cj (of_hideAll _ q) (D p V).2.2
 .exact⟨hk₁ _ _ (N p V).1,Wv (WO (N p V).1),hideAll_none _ (List.mem_map_of_mem V)⟩
set_option backward.match.sparseCases true in
def vj{fs:YU}{u:YY}{dD:aL->Y3->Prop}(R:Result->Y2)(O:g7 c.X){j:qC}(F:xV c.X B r fs j)(K:hX c.X c.f)(fp:d5 c.f c.A (cN c.X B+20))(I:aP c f w)(hlen:u.length+fs.length=r.length)
  (h':∀T,aK c.X w fs T->∀q d,au l q=some d->∃L,(c.X.az q,L)∈(r.map c.X.az).zip (u++T)/\o c.X w d L)
  (body:∀(P:ec)(t:aL),P.bx=envOfC j.qual j.scope P.L (c.X.di B) j.mE->P.hQ=c.f.bx::c.f.hQ->bJ ⟨c.X,P,P.bx,c.A.deeper P.bx⟩ (cN c.X B) l f t->aT c f w f t->gu c.f.L w.h t.h->(∀b,hb P b->w.h.get? b=none)->(∀b H,w.h.get? b=some H->b≠c.f.L->c.f.g.get? b=none->P.g.get? b=none)->
   (∀p x d,a3 r p=some x->(u++j.iU)[p]?=some d->ff P.bx t.h (c.X.az x) d)->
   ∀(Q:Flow->Y2)(E:YV),(∀s i d,(∃m,Fr P.g P.L s.h m)->fj t s->(match i with|.ret d=>d|_=>.none)=d->dD s d->Q i s.s)->(∀i A,R (.ok (.ret (match i with|.ret d=>d|_=>.none))) A->Q i A)->(∀e A,wpAny (Zt c) (c.A.deeper P.bx) (leaving P.bx e) (λ_ N=>R (.error e) N) (λX N=>R (.error X) N) A->E e A)->wpAny (Zt c) (c.A.deeper P.bx) (execs j.body P.bx) Q E t.s)
  (q:∀s d,(∀m,Fr c.f.g c.f.L w.h m->Fr c.f.g c.f.L s.h m)->fj w s->dD s d->R (.ok (.ret d)) s.s):codeAny (Zt c) c.A (.call (.ref (c.X.di B)) ⟨u,[]⟩) R w.s:=by
 refine(I.aM).elim λm D=>?_;have rdf:=F.rm w;have hlen:u.length+j.iU.length=r.length:=by rw[<-rdf.length];exact hlen
 have hkind':(((r.map c.X.az).zip (u++j.iU)).all λy=>j.scope.names.lookup y.1==some .local||j.scope.names.lookup y.1==some .cell):=
  Wn.mpr λy kd=>(WN.mp (XU kd).1).elim λa z=>z.2▸Wn.mp F.Ei a z.1
 refine Ki (K:=c.X.K) K.B D K.K jh K.T fp.frames K.lV K.kind F.fw F.tc fp.lt (kp_binds (K.K.keeps D.keep) λS=>F.dN S u hlen) hkind' F.Eo (λg k U c' cells C v W Y hr h2 o' lt lv=>?_) F.td F.tg F.hn;have hi:gu c.f.L w.h U:=by
  refine⟨λb H n e=>?_,C.ns.elim λH x=>x.elim λ_ x=>x.elim λ_ x=>⟨H,v.keep _ _ x.1⟩⟩;generalize fv:c.f.g.get? b=k0;induction k0 with|some kz=>exact Wc ((D.keep b kz fv).symm.trans e)▸v.keep b _ (C.keep b _ fv)|none=>exact(W _ (WR _ (jg.mpr ⟨e,n,fv⟩))).1
 have fresh:=DN D C v λp f=>lt p f;have owge:∀x a,(x,a)∈cellsFrom (k+1) j.scope.names []->k<a:=λx a cK=>(Cw _ _ _ _ _ cK).elim (λz=>(nomatch z)) id;have T0:aT c f w f (w.ab U c'):=.gS I hi (λkk G=>kT G.ns D.ns▸⟨C.ns.keeps v.keep,λb H e=>v.keep _ _ (C.keep b H e),C.above⟩) ⟨_,_,rfl⟩;have own:∀a,k<=a->cY a f (w.ab U c'):=λa l=>⟨λz=>(I.aH.bI a z).1.elim λ_ e=>cj e (fresh a l),λp Z z=>I.aH.kS (fresh a l) Z z⟩
 let P:ec:=⟨g,k,c.f.bx::c.f.hQ,c.f.base,c.A,envOfC j.qual j.scope k (c.X.di B) j.mE,λa=>∃x,(x,a)∈cellsFrom (k+1) j.scope.names []⟩
 have nw:∀b H,w.h.get? b=some H->b≠c.f.L->c.f.g.get? b=none->g.get? b=none:=λb H e n z=>(W _ (WR _ (jg.mpr ⟨e,n,z⟩))).2.2;have h1:aP ⟨c.X,P,envOfC j.qual j.scope k (c.X.di B) j.mE,c.A.deeper (envOfC j.qual j.scope k (c.X.di B) j.mE)⟩ f (w.ab U c'):=by refine⟨⟨_,v⟩,T0.aH,own _ (Wr _),λp Z=>(I.aH.eo Z).elim λH e=>nw _ H e (I.own.aX p Z) (I.new p Z),λa z=>z.elim λx cK=>(pn Y cK).elim λH M=>?_⟩;have z:=W _ (Xa _ M.1);exact⟨⟨H,z.1⟩,z.2.1,own a (WK (owge x a cK)),z.2.2⟩
 have hj:=BK O.az (u++j.iU) F.ti;have bnd:∀x d,(x,d)∈(r.map c.X.az).zip (u++j.iU)->ff (envOfC j.qual j.scope k (c.X.di B) j.mE) U x d:=λx d M=>by refine(Xd.mp (Wn.mp hkind' _ M)).elim (λq=>.inl ⟨eq_of_beq q,_,v.ns,Cf (eq_of_beq q) M hj⟩) λq=>?_;have q:j.scope.names.lookup x=some .cell:=eq_of_beq q;exact(XN.mp (cellsFrom_some _ _ _ (.inl q):(List.lookup x (cellsFrom (k+1) j.scope.names [])).isSome=true)).elim λJ a'=>(pn Y (hK a')).elim λH z=>.inr ⟨(WN.mp (XU M).1).elim λa z=>z.2▸O.az.eU a,.inl q,J,a',H,(W _ (Xa _ z.1)).1,by rw[z.2,Ce q M hj]⟩
 refine body P (w.ab U c') rfl rfl
  ⟨O,⟨hr,h2,o',rfl,F.hn⟩,fp.EM rfl,⟨F.hn,rfl,rfl,.inl rfl,λx J _ e=>⟨x,hK e⟩,λx y J e1 e2=>yM (Cv j.scope.names (k+1) [] .nil λ_ h=>(nomatch h)) (hK e1) (hK e2),λx J e=>WZ (owge x J (hK e)),λx e=>XN.mp (cellsFrom_some _ _ _ (.inl e))⟩,h1,
   ⟨λq d _ e=>(h' j.iU rdf q d e).elim λL z=>⟨L,bnd _ _ z.1,z.2.ext (I.ext T0)⟩,⟨_,v.ns⟩,λx J _ a'=>(pn Y (hK a')).elim λH z=>⟨_,H,(W _ (Xa _ z.1)).1,z.2⟩⟩⟩
  T0 hi (λb z=>z.elim (λz=>fresh b (WI z.symm)) λz=>z.elim λx z=>fresh b (WK (owge x b z))) nw (λp x d e1 e2=>bnd _ _ ?_) _ _ (λs i d Fr' bc aD p=>?_) (λ_ _ z=>z) λ_ _ z=>z
 .rw[tT] at e1
  refine List.mem_iff_getElem?.mpr ⟨p,?_⟩;rw[List.getElem?_zip_eq_some];exact⟨by rw[List.getElem?_map,e1];rfl,e2⟩
 .exact lv _ _ (Fr'.elim λm'' Fr'=>⟨k,m'',jf g k s.h,Fr',jh,λhF _=>by subst aD;exact q s _ (λkk G=>kT G.ns D.ns▸hF) (.trans ⟨_,_,rfl⟩ bc) p⟩)
set_option backward.match.sparseCases true in
def C'{dD:aL->Y3->Prop}(O:g7 c.X){N:qC}(F:o1 c.X B d N)(v:hX c.X c.f)(k:d5 c.f c.A (cN c.X B+20))(I:aP c h w)(D:eQ.length+d.d6.length=d.ak.length)
  (G:∀A,aK c.X w d.d6 A->∀q a,au l q=some a->∃r,(c.X.az q,r)∈(d.ak.map c.X.az).zip (eQ++A)/\o c.X w a r)
  (t:∀(P:ec)(f:Env)(g:List Zd)(y:Zb)(e:aL),kb c.X (cN c.X B) d.body g=g->l5 c.X (cN c.X B) f.kindOf d.body g->bJ ⟨c.X,P,f,y⟩ (cN c.X B) l h e->aT c h w h e->(∀b,hb P b->w.h.get? b=none)->(∀b H,w.h.get? b=some H->b≠c.f.L->c.f.g.get? b=none->P.g.get? b=none)->
   (∀p x a,a3 d.ak p=some x->eQ[p]?=some a->ff f e.h (c.X.az x) a)->
   ∀(Q:Flow->Y2)(E:YV),(∀s i a,(∃m,Fr P.g P.L s.h m)->fj e s->(match i with|.ret a=>a|_=>.none)=a->dD s a->Q i s.s)->wpAny (Zt c) y (execs g f) Q E e.s)
  (R:Result->Y2)(q:∀s a,(∀m,Fr c.f.g c.f.L w.h m->Fr c.f.g c.f.L s.h m)->fj w s->dD s a->R (.ok (.ret a)) s.s):codeAny (Zt c) c.A (.call (.ref (c.X.di B)) ⟨eQ,[]⟩) R w.s:=
 vj R O F.H v k I D G (λP e u _ C T _ z J b Q E x _ _=>t P P.bx N.body _ e F.EC (by rw[u];exact F.th) C T z J (λp x a n j=>b p x a n (by rw[List.getElem?_append_left (List.getElem?_eq_some_iff.mp j).1];exact j)) Q E x) q
def nM(n:Nat)(B:Nat):Prop:=∀(c:cu)(k:jC)(D:YU)(a:Z)(v:V)(E:Z)(w:aL)(t:YY),k≠.ef->(aD c.X.P c.X.N n).c k B D a=some (v,E)->g7 c.X->hX c.X c.f->d5 c.f c.A (cN c.X B+20)->aP c a w->aK c.X w D t->
 fk c (.call (.ref (c.X.di B)) ⟨t,[]⟩) a w E v
section
variable{c:cu}{k n:Nat}{A:YS}
def fk.call(o:fk c (.call fv ⟨eQ,[]⟩) a' f' hp' c'):aR c (call fv eQ []) a' f' hp' c':=λU E C=>Yc (o _ λM J j u=>C M J j u)
def aL.bare(j:aL):aL:=⟨{j.G with aO:=λ_=>none},j.s⟩
def aL.mT(J j:aL)(C:Z):aL:=Zx ⟨{J.G with a0:=λo=>j.G.a0 o\/∃u,cT C u/\j.G.aX u=o},j.s⟩
def ow:¬cT Z.bj p:=m6
def cY.bj(j:¬c'.G.a0 a'):cY a' Z.bj c':=⟨j,λ_ o=>absurd o ow⟩
def aP.bj(C:aP c h' f')(cK:w'.s=f'.s)(na:∀c',w'.G.aO c'=none)(W:∀a',w'.G.a0 a'->f'.G.a0 a'\/∃c',cT h' c'/\f'.G.aX c'=a'):aP c Z.bj w':=by
 have V:w'.h=f'.h:=Wd Shared.heap cK;have Y:∀a',cY a' h' f'->cY a' Z.bj w':=λa' o=>.bj λu=>(W a' u).elim o.a0 λj=>j.elim λc' j=>o.aX c' j.1 j.2;exact⟨V▸C.aM,⟨λc' o M=>ns M,λc' _ J=>absurd J ow,λa' U=>⟨V▸(W a' U).elim (λU=>(C.aH.bI a' U).1) λj=>j.elim λc' j=>j.2▸C.aH.eo j.1,λc' J=>absurd J ow⟩,λc' a' M=>ns ((na c').symm.trans M)⟩,Y _ C.own,λc' J=>absurd J ow,
  λa' o=>have u:=C.dy a' o;⟨V▸u.1,u.2.1,Y a' u.2.2.1,u.2.2.2⟩⟩
def aP.bare(j:aP c c' a'):aP c Z.bj a'.bare:=j.bj rfl (λ_=>rfl) λ_=>.inl
def aP.Fi(j:aP c a' c'):aP c Z.bj (c'.done a').bare:=j.bj rfl (λ_=>rfl) λ_=>id
def aT.mT(V:aP c c' a')(M:aT c Z.bj a'.bare hp' w'):aT c c' a' c' (a'.mT w' hp'):=by
 have e1:∀W o,a'.h.get? W=some o->¬iu c.f W->w'.h.get? W=some o:=λW o C cK=>M.step.keep W o C cK λJ fl=>absurd fl.e8 ow;have fresh:∀J,cT hp' J->a'.h.get? (w'.G.aX J)=.none:=λJ Y=>(M.step.new J Y).elim (λU=>absurd U.1 ow) id;have fzn:∀u,(a'.mT w' hp').G.a0 u->a'.G.a0 u\/a'.h.get? u=.none:=λu j=>j.elim (λj=>(M.step.jT u j).imp id λj=>j.elim id λj=>j.elim λe2 j=>absurd j.1 ow) λj=>j.elim λe2 j=>.inr (j.2▸fresh e2 j.1);have E:cM a' (a'.mT w' hp'):=⟨λu j=>.inl (M.step.a0 u j),λ_ _ C=>C,λu o j C=>e1 u o C λU=>V.own.a0 (U▸j)⟩;exact⟨⟨λJ o C=>(V.aH.slot J o C).ext E rfl λcK ex=>e1 _ cK ex (V.own.aX J ⟨o,C⟩),V.aH.inj,λu j=>⟨j.elim (λj=>(M.aH.bI u j).1) λj=>j.elim λe2 U=>U.2▸M.aH.eo U.1,λJ Y U=>(fzn u j).elim (λj=>(V.aH.bI u j).2 J Y U) λj=>V.aH.kS j Y U⟩,V.aH.gK⟩,
  ⟨E.a0,E.aO,λ_ _ _=>rfl,λW o C cK _=>e1 W o C cK,M.step.eo,λJ Y=>.inl ⟨Y,rfl⟩,λJ o fp C fi=>Wd bc (Wc (Eq.trans (Eq.symm fi) C)),Wr _,λu j=>(fzn u j).imp id .inl⟩,M.aM,M.dd⟩
def aT.M5(C:aP c c' a')(W:aT c Z.bj (a'.done c').bare hp' w'):aT c c' a' c' ⟨a'.G,w'.s⟩:=by
 have Y:∀J o,a'.h.get? J=some o->¬iu c.f J->w'.h.get? J=some o:=λJ o j V=>W.step.keep J o j V λU fi=>absurd fi.e8 ow;have E:cM a' ⟨a'.G,w'.s⟩:=⟨λM u=>u,λ_ _ j=>j,λM o u j=>Y M o j λcK=>C.own.a0 (cK▸u)⟩;exact⟨⟨λU o j=>(C.aH.slot U o j).ext E rfl λV ex=>Y _ V ex (C.own.aX U ⟨o,j⟩),C.aH.inj,λM u=>(C.aH.bI M u).imp (λj=>j.elim λo j=>⟨o,Y M o j λcK=>C.own.a0 (cK▸u)⟩) id,C.aH.gK⟩,
  ⟨E.a0,E.aO,λ_ _ _=>rfl,λJ o j V _=>Y J o j V,W.step.eo,λU e2=>.inl ⟨e2,rfl⟩,λU o fl j e1=>Wd bc (Wc (Eq.trans (Eq.symm e1) j)),Wr _,λM u=>.inl u⟩,W.aM,W.dd⟩
def uM(H:∀f i,g f->o X w f i->o X w.bare f i)(e:dQ g d)(r:aK X w d h):aK X w.bare d h:=by
 induction d generalizing h with
 |nil=>exact r.eg .nil
 |cons x d S=>
  have e:(match g x with|true=>dQ g d|false=>false)=true:=e
  generalize q:g x=N;induction N with|true=>have e:=q▸e;exact r.dK λf h a b=>.cons (H _ _ q a) (S e b)|false=>have e:=q▸e;exact bb e
def Jn(H:∀f h,g f->o X w f h->o X w.bare f h)(e:lx g d)(r:b2 X w d i):b2 X w.bare d i:=by
 induction d generalizing i with
 |nil=>cases r;exact .nil
 |cons x d S=>
  have z:g x.2/\lx g d:=by
   have e:(match g x.2 with|true=>lx g d|false=>false)=true:=e
   generalize q:g x.2=N;induction N with|true=>have e:=q▸e;exact⟨rfl,e⟩|false=>have e:=q▸e;exact bb e
  clear e
  cases r with|cons a b=>exact .cons (H _ _ z.1 a) (S z.2 b)
def Jo(H:∀f h,g f->o X w f h->o X w.bare f h)(e:hD g d)(r:dA X w d i):dA X w.bare d i:=by
 induction d generalizing i with
 |nil=>cases r;exact .nil
 |cons x d S=>
  have z:g x.2/\hD g d:=by
   have e:(match g x.2 with|true=>hD g d|false=>false)=true:=e
   generalize q:g x.2=N;induction N with|true=>have e:=q▸e;exact⟨rfl,e⟩|false=>have e:=q▸e;exact bb e
  clear e
  cases r with|cons a b=>exact .cons (H _ _ z.1 a) (S z.2 b)
def o.bare(Z:Nat):∀(a':V)(c':Y3),cg Z a'->o f' h' a' c'->o f' h'.bare a' c':=by
 induction Z with
 |zero=>exactλ_ _ j=>bb j
 |succ Z W=>
  intro a' c' j u;induction a' using V.casesOn with
  |none=>exact u.l4 .none
  |bool=>exact u.kq .bool
  |int=>exact u.dt λ_=>.int
  |str=>exact u.f7 λ_=>.str
  |ay=>exact u.gp λY fi C J M U=>.ay C J M (uM W j U)
  |ae=>exact u.ic λY fi C J M U=>.ae C J M (uM W j U)
  |ah k=>exact u.yV λY e1 C J M U cK=>.ah C J (by induction k<;>exact M) U (Jn W j cK)
  |ins=>exact u.mV λY fl e1 C J M U cK e2=>.ins C J M U cK (Jo W j e2)
  |ref=>exact bb j
  |hu=>exact bb j
def o.SS(j:o c' h' a' f')(u:ql a'):o c' w' a' f':=by
 induction a' using V.casesOn with|none=>exact j.l4 .none|bool=>exact j.kq .bool|int=>exact j.dt λ_=>.int|str=>exact j.f7 λ_=>.str|_=>exact bb u
def cM.mT(C u:aL)(o:Z):cM (u.done o).bare (C.mT u o):=⟨λ_ J=>J,λ_ _ j=>ns j,λ_ _ _ j=>j⟩
def fk.RL(J:aP c f' c')(U:fk c s' Z.bj c'.bare hp₁ h')(W:ct 12 hp₁ h'=some a')(V:cg 60 a'):fk c s' f' c' f' a':=λM cK=>U M λC j u Y=>cK (c'.mT C hp₁) j (u.mT J) ((o.bare 60 a' j V (w4 u.aH 12 h' a' j W Y)).ext (.mT c' C hp₁))
def fk.Ka(j:aP c a' c')(C:fk c h' Z.bj (c'.done a').bare hp₁ f')(J:ql f'):fk c h' a' c' a' f':=λo U=>C o λW V u M=>U ⟨c'.G,W.s⟩ V (u.M5 j) (M.SS J)
def yg(n B:Nat)(K:cy)(c:cu):Prop:=∀(D:YU)(a:Z)(l:YS)(v:V)(E:Z)(w:aL)(t:YY),lH K K.ak D=some l->t' ((aD c.X.P c.X.N n).x K.body ⟨l,a⟩)=some (v,E)->g7 c.X->c.X.P.fK B=some K->hX c.X c.f->d5 c.f c.A (cN c.X B+20)->aP c a w->aK c.X w D t->
 fk c (.call (.ref (c.X.di B)) ⟨t,[]⟩) a w E v
def BP(n B:Nat)(K:cy):Prop:=∀c,yg n B K c
def IJ(F:∀a,BP n B a)(m:nM n B):nM (n+1) B:=λc k D V v E w t R e f b H I r=>by
 induction k with
 |ef=>exact absurd rfl R
 |inl=>exact aA e λa d e=>aA e λl A e=>F a c D V l v E w t A e f d b H I r
 |pure=>
  refine bR e λN e=>?_;have e:=e;generalize s:c.X.P.j2 B D=q;induction q with
  |some z=>have e:=s▸e;exact bz (p:=λv E=>fk c _ V w E v) e (f.j2 c.f c.af c.A B D z V w t s b H I r)
  |none=>have e:=s▸e;exact aA e λa d e=>aA e λl A e=>bK e λu P O e=>aA e λx j e=>bR e λi e=>bz (p:=λv E=>fk c _ V w E v) e ((F a c D Z.bj l u P w.bare t A O f d b H I.bare (uM (o.bare 60) N r)).RL I j i)
 |nV=>
  refine aA e λg G e=>bK e λu P O e=>bR e λp e=>bz (p:=λv E=>fk c _ V w E v) e ?_;have N:dQ (cg 60) g:=by
   induction n with|zero=>exact ns O|succ n=>exact bR O λh _=>h
  exact(m c .pure g Z.bj u P (w.done V).bare t nofun O f b H I.Fi (uM (o.bare 60) N (AR (λx y v e r=>w4 I.aH 12 x y v e r) G r))).Ka I p
def SD(m:(∃N,o1 c.X B a N))(K:o2 n a.body):yg n B a c:=λZ V l v h w vals e f O cK J H I r=>m.elim λN F=>bR e λL e=>by
 have k:=We L;rw[dO,dO,dO,r.length] at k;have e:=Wc e;subst e;refine bK f λi Y f t R W=>?_;refine C' (dD:=λs g=>bB c.X h s/\cG V w h s (iu c.f)/\o c.X s v g) O F J H I k (λa' X q v D=>uY (r.append X) (ha Z a.d6▸D)) (λP G ys y w1 U M C x A _ _ Q E q=>?_) R λs g j bc p=>W s g ⟨p.1,p.2.1,j,bc⟩ p.2.2;have z:=K ⟨c.X,P,G,y⟩ ⟨_,V⟩ i Y (cN c.X B) ys w1 f M C;rw[U] at z;refine z Q E λs r T d=>?_;have S:=x.step.mi I.aH T.step λb z=>.inr (A b z);induction i with|next=>have t:=Xs (Wc t);rw[d.1];exact q s .next .none T.aM T.dd rfl ⟨t.2▸T.aH,t.2▸S,t.1▸.none⟩|ret u=>have t:=Xs (Wc t);exact d.elim λg z=>z.1▸q s (.ret g) g T.aM T.dd rfl ⟨t.2▸T.aH,t.2▸S,t.1▸z.2⟩
def oE(h:a.all e3):(backTo pos (starEach a af)).any (·.1)=false:=by
 induction a with|nil=>rfl|cons x a S=>have h:=Xz▸h;rw[xq (aN h)];refine(?_:(false||(backTo pos (starEach a af)).any (·.1))=false);rw[S (ar h)];rfl
def yr(m:∀e,bT n e)(e:h6 (aD c.X.P c.X.N n).e G ⟨A,b⟩=some (f,d))(o:eO ck (bQ c.X k c.af.kindOf) G g)(s:(cD ck (aJ c.X k) G g).all e3)(C:bJ c k A b w):
  bP c (evalArgs L true (backTo pos (starEach (cD ck (aJ c.X k) G g) c.af)) []) b w d λB a=>∃t,a=⟨t,[]⟩/\aK c.X B f t:=by
 induction G with
 |nil=>exact bz (p:=λf d=>bP c _ b w d λB a=>∃t,a=⟨t,[]⟩/\aK c.X B f t) e (bP.toks C.ag λQ E q=>evalArgs_nil3 (q _ w.s.toks ⟨[],rfl,.nil⟩))
 |cons a r=>
  have z:=y1 m (pos:=pos) (a::r) g b f d w e o s C;have s:=Xz▸hV▸s;rw[hV,xq (aN s)] at z⊢
  exactλQ E q=>evalArgs_plain (z _ E λB t T p=>q B _ T ⟨t,rfl,p⟩)
def sj(j:∀e,bT n e)(e:h6 (aD c.X.P c.X.N n).e G ⟨A,b⟩=some (m,f))(o:eO ck (bQ c.X k c.af.kindOf) G h)(s:(cD ck (aJ c.X k) G h).all e3)(C:bJ c k A b w)
  (p:∀(d:List (Bool×Sem Y3))(Q:YV)(E:YV),d.any (·.1)=false->Zs c (evalArgs L true d []) (λa g=>c.X.K.In g.heap/\Zs c (call L (first++a.pos) a.kw) Q E g) E w.s->Zs c (callWith pos L first d []) Q E w.s)
  (F:∀B t,aT c b w f B->aK c.X B m t->aR c (call L (first++t) []) f B i l):aR c (callWith pos L first (backTo pos (starEach (cD ck (aJ c.X k) G h) c.af)) []) b w i l:=λQ E q=>
 p _ Q E (oE s) (yr j e o s C _ E λS a T z=>z.elim λt z=>z.1▸⟨(C.aF T).lS,bP.aO (F S t T z.2) C.ag T q⟩)
def ua(R:keepIn c.X.K L)(d:List (Bool×Sem Y3))(Q:YV)(E:YV)(e:d.any (·.1)=false)
  (h:wpAny (Zt c) b (evalArgs L true d []) (λa g=>c.X.K.In g.heap/\wpAny (Zt c) b (call L (first++a.pos) a.kw) Q E g) E s):wpAny (Zt c) b (callWith pos L first d []) Q E s:=
 callWith_of (by rw[e];rfl) (keeps_K R) h
def AZ{id:String}(d:List (Bool×Sem Y3))(Q:YV)(E:YV)(e:d.any (·.1)=false)
  (h:wpAny (Zt c) b (evalArgs (.builtin id) true d []) (λa g=>c.X.K.In g.heap/\wpAny (Zt c) b (call (.builtin id) (first++a.pos) a.kw) Q E g) E s):wpAny (Zt c) b (callWith pos (.builtin id) first d []) Q E s:=
 callWith_builtin e (W6 h (λ_ _ x=>x.2) λ_ _ x=>x)
def ub{id:String}(d:List (Bool×Sem Y3))(Q:YV)(E:YV)(e:d.any (·.1)=false)
  (h:wpAny (Zt c) b (evalArgs (.type id) true d []) (λa g=>c.X.K.In g.heap/\wpAny (Zt c) b (call (.type id) (first++a.pos) a.kw) Q E g) E s):wpAny (Zt c) b (callWith pos (.type id) first d []) Q E s:=
 PySem.callWith_type e (W6 h (λ_ _ x=>x.2) λ_ _ x=>x)
def Kd{P:qG}{N:kl}{B:Nat}(n:Nat):∀(k:jC)(b:YU)(d:Z)(r:V×Z),k≠.ef->(aD P N n).c k B b d=some r->(∃a,P.fK B=some a)\/∃b r,P.j2 B b=some r:=by
 induction n with
 |zero=>exactλ_ _ _ _ _ e=>ns e
 |succ n S=>
  intro k b d r R e;induction k with
  |ef=>exact absurd rfl R
  |inl=>exact aA e λa c _=>.inl ⟨a,c⟩
  |pure=>
   refine bR e λ_ e=>?_;generalize s:P.j2 B b=g;induction g with
   |some r=>exact .inr ⟨_,_,s⟩
   |none=>have e:=s▸e;exact aA e λa c _=>.inl ⟨a,c⟩
  |nV=>exact aA e λI G e=>aA e λq f e=>S .pure _ _ _ nofun f
def Ij(m:∀e,bT n e)(y:nM n B):bT (n+1) (.call d B G):=λc A V v b k x w e o C=>bK e λD P O e=>by
 have R:d≠.ef:=λz=>by have o:=z▸o;exact bb o
 have o:=ar o;have I:=ar o;have r:=ar (ar I);have a:=ar r;exact bP.d9 C.ag (vK C (n9 (aN (ar I))) (EU (aN r)) (rI (aN I))) (λS L l g=>g▸sj m O (ar (ar a)) (aN (ar a)) (C.aW.aF l|>λz=>z) (ua (C.ok.keep B (Kd _ _ _ _ _ R e))) λs t h p=>fk.call (y c d D P v b s t R e C.ok C.aM ((C.dJ.ju (W8 (nT (aN o))))) ((C.ag.aF l).aF h) p)) λQ E=>XO
end
def BZ{g h:Y5}(e:(if a=L then none else match g.get? a with|some _=>none|none=>(h.get? a).map λH=>(a,H))=some p):p.1=a:=by
 by_cases n:a=L
 .have e:=(if_pos n)▸e;exact ns e
 .have e:=(if_neg n)▸e
  generalize q:g.get? a=N;induction N with|some H=>have e:=q▸e;exact ns e|none=>have e:=q▸e;exact(Ye.mp e).elim λH z=>z.2▸rfl
def Jp(g h:Y5)(L:Y4):(jf g L h).Pairwise λp q=>p.1≠q.1:=
 List.Pairwise.filterMap _ (λa b n p V q I=>by rw[BZ V,BZ I];exact n) List.nodup_range
def Jq(e:h.get? a=some H)(n:a≠L)(i:g.get? a=none):∃l y,jf g L h=l++(a,H)::y/\(∀p∈l,p.1≠a)/\∀p∈y,p.1≠a:=
 (List.append_of_mem (jg.mpr ⟨e,n,i⟩)).elim λl z=>z.elim λy b=>by have c:=Jp g h L;rw[b,List.pairwise_append,XD] at c;exact⟨l,y,b,λp V=>c.2.2 p V _ (.head _),λp V=>Ne.symm (c.2.1.1 p V)⟩
def AK(G:List DictEntry):(PySem.W.putL name i key a G).length<=G.length+1:=by
 induction G with
 |nil=>exact Wr _
 |cons e r S=>
  unfold PySem.W.putL
  split
  .exact WH _
  .rw[WL,WL];exact WC S
def dA.a5(W:lp a')(C:o a' h' s' w')(u:dA a' h' fs f'):dA a' h' (VO fs c' s') (PySem.W.putL (a'.az c') F' (.str (a'.az c') t) w' f'):=by
 induction fs generalizing f' with
 |nil=>cases u;exact .cons C .nil
 |cons e2 fs M=>cases u with
  |cons U J=>
   rename_i j hs' V Y e1 f'
   refine(?_:dA a' h' (match Nat.beq j c' with|true=>(j,s')::fs|false=>(j,Y)::VO fs c' s') (if(Value.str (a'.az j) V).isStr (a'.az c')=true then _ else _))
   rw[EV W];generalize cK:Nat.beq j c'=Z;induction Z with|true=>rw[if_pos rfl];exact .cons C J|false=>rw[if_neg bb];exact .cons U (M J)
def dA.length(j:dA c' f' fs a'):fs.length=a'.length:=by
 induction fs generalizing a' with|nil=>cases j;rfl|cons J fs o=>cases j with|cons C u=>exact Wd Nat.succ (o u)
def dA.DL(W:lp a')(u:dA a' f' fs c')(o:Nat):(getL (a'.az o) c').isSome:=(u.zd W o).elim (λj=>j.elim λJ j=>j.elim λC j=>by rw[j.2.1];rfl) λj=>by rw[j.2];rfl
def DB(h:n5 l):l.length<800:=dO l▸fT h
section
variable{c:cu}{k n:Nat}{A:YS}{X T:Z}{w w':aL}{d a:Nat}
def G2{E:YV}(O:g7 c.X)(n:c.X.K.In w.h)(F:Fr c.f.g c.f.L w.h m)(R:d<c.X.iZ)(r:a<c.X.l3)
  (B:w.h.get? x=some (instObj (c.X.cP d) f))(T:ip w.h f G)(A:f≠c.f.L)(L:c.f.g.get? f=none)(p:(getL (c.X.az a) G).isSome)(o:G.length<=900)
  (q:∀g s,Fr c.f.g c.f.L g m->(∀b H,b≠f->b≠c.f.L->w.h.get? b=some H->g.get? b=some H)->(∃i t,ip g f (PySem.W.putL (c.X.az a) i (.str (c.X.az a) t) h G))->Q () (w.ab g s).s):Zs c (setAttr (.ref x) (c.X.az a) h) Q E w.s:=
 T.elim λP T=>(Jq T A L).elim λK z=>z.elim λJ z=>by
  have C:=O.az.cls d R;have I:InstAt w.h x (instObj (c.X.cP d) f) (c.X.cP d) (some (dictOf G P)):=⟨B,rfl,rfl,T⟩;refine set_plain n I C.SQ (osa_dict F (z.1▸jh) n I rfl C.Rn (C.Um a r) C.dict (by rw[lookIn_dict];exact p) z.2.1 z.2.2 (putName_dict ..) rfl (Wh (AK G) (Wh (WC o) (by decide))) λg l j=>?_)
  refine q g _ l (λb H u v e=>?_) ⟨_,_,_,(j _ (WR _ (.head _))).1⟩;generalize k:c.f.g.get? b=N;induction N with
  |some y=>exact Wc ((F.keep b y k).symm.trans e)▸l.keep b _ k
  |none=>
   refine(WU.mp (z.1▸jg.mpr ⟨e,v,k⟩)).elim (λD=>(j _ (Xa _ D)).1) λD=>?_;cases D with
   |head=>exact absurd rfl u
   |tail _ D=>exact(j _ (WR _ (.tail _ D))).1
def ip.has(o:ip c' a' h'):∃f',c'.get? a'=some f':=o.elim λk j=>⟨_,j⟩
def Bb(e:VW b X=some (p,H)):b=.ref p/\X.get p=some H/\bc H=0:=aA e λq I e=>aA e λr s e=>by
 induction r with
 |ae O l=>induction l with
  |zero=>exact bz (p:=λp H=>b=.ref p/\X.get p=some H/\bc H=0) e ⟨uP I,s,rfl⟩
  |succ=>exact ns e
 |ah P T l=>induction l with
  |zero=>exact bz (p:=λp H=>b=.ref p/\X.get p=some H/\bc H=0) e ⟨uP I,s,rfl⟩
  |succ=>exact ns e
 |ins=>exact bz (p:=λp H=>b=.ref p/\X.get p=some H/\bc H=0) e ⟨uP I,s,rfl⟩
def S0(C:bJ c k A X w)(J:a<c.X.l3)(e:rS L a y X=some T)(p:o c.X w L f)(q:o c.X w y h):bP c (setAttr f (c.X.az a) h) X w T λ_ _=>True:=
 bK e λb H i e=>by
  have i:=Bb i;induction H with
  |ins d P=>
   have p:=i.1▸p;have I:=C.ag;exact bR e λr e=>b6 (p:=λT=>bP c (setAttr f (c.X.az a) h) X w T λ_ _=>True) e (oO I.aH (q:=λf=>bP c (setAttr f (c.X.az a) h) X w _ λ_ _=>True) i.2.1 p λz u S=>S.2.elim λU N=>N.elim λn N=>by
    have N:=((Wc (N.1.symm.trans u)))▸N;have K:cT X b:=⟨_,i.2.1⟩
    refineλQ E v=>I.aM.elim λm F=>G2 C.ok C.lS F S.1 J N.2.2.1 N.2.2.2.1 (I.own.aX b K) (I.new b K) (N.2.2.2.2.2.DL C.ok.az a) N.2.2.2.2.1 λj s g l D=>D.elim λM D=>D.elim λt D=>?_
    have R:=I.aH.update (s':=(w.ab j s).s) (w':=.ins d (VO P a y)) I.own i.2.1 rfl rfl l (g.ns.elim λH x=>x.elim λ_ x=>x.elim λ_ x=>⟨H,x.1⟩) λB=>⟨S.1,z,_,N.1,N.2.1,l _ _ (Ne.symm ((I.aH.bI z N.2.1).2 b K)) (λq=>I.own.a0 (q▸N.2.1)) N.2.2.1,D,Wh (AK n) (by have:=DB r;have this:=N.2.2.2.2.2.length▸this;exact Wh this (by decide)),(N.2.2.2.2.2.a5 C.ok.az q).ext B⟩
    exact v (w.ab j s) () ⟨R.1,R.2,λO G=>kT G.ns F.ns▸g,⟨_,_,rfl⟩⟩ trivial)
  |_=>exact ns e
def Cj{Q:YV}{E:YV}(O:i' c.f c.af)(b:ff c.af w.h s e)(T:l6 s)(q:Q e w.s):Zs c (eval (.Name s pos) c.af) Q E w.s:=
 wpAny_Name (b.elim (λb=>b.2.elim λm g=>Yq O.kind b.1 g.1 g.2 q) λb=>b.2.2.elim λa g=>b.2.1.elim (λk=>Yx O.kind k g.1 g.2 q) λk=>Yy O.kind k g.1 g.2 q (wJ T)) (rI T)
def ec.more(j:ec)(F:Y4->Prop):ec:={j with dy:=λa=>j.dy a\/F a}
noncomputable def cu.more(c:cu)(F:Y4->Prop):cu:={c with f:=c.f.more F}
def bJ.more(C:bJ c k A X w)(M:∀a,F a->(∃a',w.h.get? a=some a')/\a≠c.f.L/\cY a X w/\c.f.g.get? a=none):bJ (c.more F) k A X w:=
 ⟨C.ok,⟨C.aM.B,C.aM.K,C.aM.T,C.aM.lV,C.aM.kind⟩,⟨C.dJ.frames,C.dJ.bC,C.dJ.depth,C.dJ.units,C.dJ.rr⟩,⟨C.bU.kind,C.bU.h8,C.bU.blt,C.bU.F.imp id .inl,λJ j u o=>.inl (C.bU.cell J j u o),C.bU.inj,C.bU.apart,C.bU.has⟩,
  ⟨C.ag.aM,C.ag.aH,C.ag.own,C.ag.new,λa j=>j.elim (C.ag.dy a) (M a)⟩,C.dc⟩
def cO.own(J:aP c X w)(o:c.f.dy c')(cK:∀a' o,a'≠c'->a'≠c.f.L->w.h.get? a'=some o->h'.get? a'=some o)(hd:∃o,h'.get? c'=some o)(Y:Fr c.f.g c.f.L h' f'):cO c X w X (w.ab h' s'):=by
 have W:∀a' o,¬hb c.f a'->w.h.get? a'=some o->h'.get? a'=some o:=λa' U nb C=>cK a' U (λj=>nb (.inr (j▸o))) (λj=>nb (.inl j)) C;have Z:∀a' o,w.h.get? a'=some o->∃U,h'.get? a'=some U:=λa' o C=>by
  by_cases j:a'=c'
  .exact j▸hd
  .by_cases e1:a'=c.f.L
   .exact e1▸Y.ns.elim λo u=>u.elim λ_ u=>u.elim λ_ u=>⟨o,u.1⟩
   .exact⟨o,cK a' o j e1 C⟩
 have own:∀a',hb c.f a'->cY a' X w:=λa' j=>j.elim (λj=>j▸J.own) λj=>(J.dy a' j).2.2.1;have E:cM w (w.ab h' s'):=⟨λ_ u=>u,λ_ _ u=>u,λa o M C=>W a o (λj=>(own a j).a0 M) C⟩;exact⟨⟨λV o C=>(J.aH.slot V o C).ext E rfl λu ex=>W _ u (λj=>(own _ j).aX V ⟨o,C⟩ rfl) ex,J.aH.inj,λa M=>(J.aH.bI a M).imp (λC=>C.elim (Z a)) id,J.aH.gK⟩,
  ⟨λ_ u=>u,λ_ _ u=>u,λ_ _ _=>rfl,λa' o C j _=>W a' o j C,Z,λV fi=>.inl ⟨fi,rfl⟩,λV o U C e2=>Wd bc (Wc (Eq.trans (Eq.symm e2) C)),Wr _,λa M=>.inl M⟩,⟨f',Y⟩,⟨_,_,rfl⟩⟩
def ff.set{C J:Y5}{o:ec}(j:ff af C f' O')(W:Fr o.g o.L C x')(Y:Fr o.g o.L J x')(M:∀j a',j≠s'->j≠o.L->C.get? j=some a'->J.get? j=some a')(s1:af.locals≠s')(s2:∀c' c,c'≠eU->af.cells.lookup c'=some c->c≠s')(Z:∀c' c,c'≠eU->af.cells.lookup c'=some c->c≠o.L):ff af J f' O':=
 j.imp (λj=>j.imp id λj=>j.elim λe1 j=>by
  by_cases U:af.locals=o.L
  .rw[U] at j⊢
   exact⟨x',Y.ns,kT j.1 W.ns▸j.2⟩
  .exact⟨e1,j.1.at' λa' cK=>M _ a' s1 U cK,j.2⟩) λj=>⟨j.1,j.2.1,j.2.2.elim λa u=>⟨a,u.1,u.2.elim λa' V=>⟨a',M a a' (s2 f' a j.1 u.1) (Z f' a j.1 u.1) V.1,V.2⟩⟩⟩
def fG.set{o:ec}(V:fG x' w af A)(E:cM w w')(e1:Fr o.g o.L w.h s')(W:Fr o.g o.L w'.h s')(J:∀f' c',f'≠h'->f'≠o.L->w.h.get? f'=some c'->w'.h.get? f'=some c')(Z:af.locals≠h')(s2:∀a' c,a'≠eU->af.cells.lookup a'=some c->c≠h')(Y:∀a' c,a'≠eU->af.cells.lookup a'=some c->c≠o.L):fG x' w' af A:=
 ⟨λC U e2 j=>(V.get C U e2 j).elim λfl u=>⟨fl,u.1.set e1 W J Z s2 Y,u.2.ext E⟩,by
  by_cases C:af.locals=o.L
  .rw[C];exact⟨s',W.ns⟩
  .exact V.ns.elim λfi u=>⟨fi,u.at' λc' j=>J _ c' Z C j⟩,λa' a M j=>(V.cell a' a M j).elim λU u=>u.elim λc' cK=>⟨U,c',J a c' (s2 a' a M j) (Y a' a M j) cK.1,cK.2⟩⟩
def xw:swapsWith b (some (.Attribute H s p)) l af=pure false:=by induction b using Expr.casesOn<;>exact(rfl:pure false=(pure false:Sem Bool))
def RY(fi:∀e,bT n e)(ld:d<c.X.iZ)(cK:c.f.dy x)(U:c.f.dy f)(f':x≠f)(s1:c.af.locals≠f)(s2:∀x l,x≠eU->c.af.cells.lookup x=some l->l≠f)(b:List S):∀(g:List Zd)(P h:YS)(X T:Z)(G:List DictEntry)(w:aL),
  l9 (aD c.X.P c.X.N n).e self b ⟨A,X⟩ P=some (h,T)->l5 c.X k c.af.kindOf b g->bJ c k A X w->ff c.af w.h (c.X.az self) (.ref x)->w.h.get? x=some (instObj (c.X.cP d) f)->ip w.h f G->dA c.X w P G->G.length<=801->
  ∀(Q:Flow->Y2)(E:YV),(∀w' s,cO c X w T w'->w'.h.get? x=some (instObj (c.X.cP d) f)->ip w'.h f s->dA c.X w' h s->Q .next w'.s)->Zs c (execs (kb c.X k b g) c.af) Q E w.s:=by
 induction b with
 |nil=>exactλg P h X T G w e _ C N R O B a' Q E q=>Xw (by have e:=Xs (Wc e);exact q w G (e.2▸(aT.refl C.ag.aH).b7 C.ag) R O (e.1▸B))
 |cons e2 r fp=>
  intro g P h X T G w e o C N R O B a' Q E q;obtain⟨p,a,v,rfl⟩:∃p a v,e2=.bY (.aS (.F p) a) v:=by
   induction e2 using S.casesOn with
   |bY t v=>induction t with
    |aS hi a=>cases hi with
     |F p=>exact⟨p,a,v,rfl⟩
     |_=>exact ns e
    |_=>exact ns e
   |_=>exact ns e
  have e:(match Nat.beq p self with
   |true=>Y ((aD c.X.P c.X.N n).e v ⟨A,X⟩) λu=>bS (n5 P) (l9 (aD c.X.P c.X.N n).e self r ⟨A,u.2⟩ (VO P a u.1))
   |false=>none)=some (h,T):=e
  generalize j:Nat.beq p self=kd;induction kd with
  |false=>have e:=j▸e;exact ns e
  |true=>
   have e:=j▸e;have j:=We j;subst j;have K:=(hO o).1;refine(?_:wpAny _ _ (execs (cD iG (kc c.X k) _ g) c.af) Q E w.s);rw[hV];generalize g.headD iG=y at K;refine bK e λu M e1 e=>bR e λhf e=>?_;induction k with
   |zero=>exact bb K
   |succ k=>induction k with
    |zero=>exact(λz:bQ c.X 0 c.af.kindOf v (bZ y 0)=true=>bb z) (aN (b:=AG c.X 0 c.af.kindOf v (aJ c.X 0 v (bZ y 0)) (.aS (.F p) a) (bZ y 1)) K)
    |succ k=>
     refine W0 (plainObj_wpAny_Assign_Attribute ?_ ?_)
     .refine(fi v).aO e1 (aN K) C.aW _ E λW kz i hj=>?_
      have L:=C.aF i;refine Cj C.bU (N.aF C.bU C.ag i) (aN (ar (ar K))) ?_;have hx1:=C.ag.xr i x _ cK R;have hr1:=B.ext (C.ag.ext i);have od1:=L.ag.dy f U;refine L.ag.aM.elim λm F=>G2 C.ok L.lS F ld (fT (aN (ar K))) hx1 (O.at λo e=>C.ag.xr i f o U e) od1.2.1 od1.2.2.2 (hr1.DL C.ok.az a) (Wh a' (by decide)) λh2 tk2 H D J=>J.elim λhs2 J=>J.elim λkk fd2=>?_
      have I:cO c M W M (W.ab h2 tk2):=.own L.ag U D fd2.has H;have X2:=L.ag.ra I;have cl:∀x a,x≠eU->c.af.cells.lookup x=some a->a≠c.f.L:=λx a fv e=>(C.ag.dy a (C.bU.cell x a fv e)).2.1;refine fp g.tail _ h M T _ (W.ab h2 tk2) e (hO o).2 ⟨C.ok,C.aM,C.dJ,C.bU,L.ag.b7 I,L.dc.set X2 F H D s1 s2 cl⟩ ((N.aF C.bU C.ag i).set F H D s1 s2 cl) (D x _ f' (C.ag.dy x cK).2.1 hx1) fd2 ((hr1.a5 C.ok.az hj).ext X2) (Wh (AK G) (by rw[<-B.length];exact Wh (DB hf) (by decide))) Q E λh' es3 fl hx3 fd3 hF=>q h' es3 ((i.b7 C.ag).trans C.ag (I.trans L.ag fl)) hx3 fd3 hF
     .exact xw
end
def wy(X:cn)(k:i9):Nat:=match k.init with
 |some i=>cN X i+40
 |none=>0
def xX(n:Nat)(d:Nat):Prop:=∀(c:cu)(D:YU)(a:Z)(v:V)(E:Z)(w:aL)(t:YY)(K:Nat),(aD c.X.P c.X.N n).c .ef d D a=some (v,E)->g7 c.X->hX c.X c.f->(∀k,c.X.P.cls d=some k->wy c.X k<=K)->d5 c.f c.A K->aP c a w->aK c.X w D t->
 fk c (.call (.ref (c.X.cP d)) ⟨t,[]⟩) a w E v
def d5.ef(j:d5 f' a' (c'+20)):d5 f' (a'.under (.builtin "type.__call__" ⟨.ref h'::eQ,kw⟩)) c':=by
 refine⟨j.frames,j.bC,?_,?_,Wh (Wt (Wq _ _) _) j.rr⟩
 .show(a'.depth+1)*20+c'<=18000
  rw[Nat.succ_mul,Wl,Wm 20];exact j.depth
 .show a'.units+1+8*c'<=9000
  refine Wh ?_ j.units;rw[Nat.mul_add,Wl,Wm 1];exact Wt (Wt (by decide) _) _
structure mq(c:cu)(e:Z)(w:aL)(d:Nat)(x a:Y4)(b:Y5):Prop where
 new:ir c w b
 sY:w.h.get? x=none
 sS:w.h.get? a=none
 og:b.get? x=some (instObj (c.X.cP d) a)
 bC:b.get? a=some emptyDict
 Gf:x≠a
 H':x≠c.f.L
 CY:a≠c.f.L
 Ny:c.f.g.get? x=none
 bR:c.f.g.get? a=none
def mq.jv(e2:aP a' s' c')(U:Fr a'.f.g a'.f.L c'.h V')(V:Fr a'.f.g a'.f.L h' V')(C:News a'.f.g a'.f.L h' ((x',instObj (a'.X.cP O') f')::(f',emptyDict)::jf a'.f.g a'.f.L c'.h))(lt:∀w'∈jf a'.f.g a'.f.L c'.h,w'.1<f')(M:f'<x'):mq a' s' c' O' x' f' h':=by
 have j:=C _ (.head _);have u:=C _ (.tail _ (.head _));have J:∀j,a'.f.g.get? j=none->j≠a'.f.L->f'<=j->c'.h.get? j=none:=λj Y cK Z=>by
  generalize W:c'.h.get? j=e1;induction e1 with|none=>rfl|some o=>exact absurd Z (Nat.not_le_of_lt (lt _ (jg.mpr ⟨W,cK,Y⟩)))
 exact⟨.jv U V C λw' s'=>.tail _ (.tail _ s'),J _ j.2.2 j.2.1 (WK M),J _ u.2.2 u.2.1 (Wr _),j.1,u.1,WZ M,j.2.1,u.2.1,j.2.2,u.2.2⟩
def mq.own(o:aP x' a' c')(u:mq x' a' c' F' s' f' h')(J:w'.G=c'.G):cY s' a' w'/\cY f' a' w':=
 have M:∀j,c'.h.get? j=none->cY j a' w':=λj C=>⟨λV=>(o.aH.bI j (J▸V)).1.elim λ_ U=>cj U C,λZ W Y=>o.aH.kS C W (J▸Y)⟩
 ⟨M s' u.sY,M f' u.sS⟩
def mq.aF(o:aP f' a' c')(j:mq f' a' c' s' F' w' h'):aT f' a' c' a' (c'.ab h' x'):=.gS o j.new.gS j.new.aM ⟨_,_,rfl⟩
def aT.BV(o:aT x' F' h' hp' w')(C:∀a',s' a'->h'.h.get? a'=none/\(∃f',w'.h.get? a'=some f')/\∀c',cT hp' c'->w'.G.aX c'≠a'):aT x' F' h' hp' ⟨w'.G.bI s',w'.s⟩:=
 ⟨⟨λc' f' J=>(o.aH.slot c' f' J).ext ⟨λ_ j=>.inl j,λ_ _ j=>j,λ_ _ _ j=>j⟩ rfl λ_ j=>j,o.aH.inj,λa' u=>u.elim (o.aH.bI a') λu=>(C a' u).2,o.aH.gK⟩,
  {o.step with a0:=λa' j=>.inl (o.step.a0 a' j),jT:=λa' j=>j.elim (o.step.jT a') λj=>.inr (.inl (C a' j).1),aO:=o.step.aO,aX:=o.step.aX,new:=o.step.new},o.aM,o.dd⟩
def PQ(I:aP c a w)(O:g7 c.X)(f:c.X.K.In w.h)(t:d<c.X.iZ)(g:findIn c.X.K (.ref (c.X.cP d)) "__init__"=some (some (.builtin "object.__init__")))(A:eQ=[]):fk c (.call (.ref (c.X.cP d)) ⟨eQ,[]⟩) a w a (.ins d false []):=λR q=>by subst A;exact I.aM.elim λm F=>make_K0 F jh f (O.az.cls d t).Ad g λx k S T h N B=>by have L:=mq.jv I F T h N B;have e:=I.aH.bV (F:=λb=>b=x\/b=k) (s':=(w.ab S w.s.toks).s) I.own L.new.gS λb z=>z.elim (λz=>z▸⟨L.sY,_,L.og⟩) λz=>z▸⟨L.sS,_,L.bC⟩;exact q ⟨w.G.bI λb=>b=x\/b=k,(w.ab S w.s.toks).s⟩ _ ⟨e.1,e.2,L.new.aM,⟨_,_,rfl⟩⟩ (.ins t (.inr (.inl rfl)) (.inr (.inr rfl)) L.og ⟨0,L.bC⟩ .nil)
def PR(fp:∀e,bT A e){H:YY}{l:YS}{P:YS}(I:aP c f w)(O:g7 c.X)(fr:hX c.X c.f)(hi:d5 c.f c.A (cN c.X i+40))(hj:c.X.K.In w.h)(T:d<c.X.iZ){fi:qC}(F:o1 c.X i g fi)(r:aK c.X w s H)
  (ini:findIn c.X.K (.ref (c.X.cP d)) "__init__"=some (some (.ref (c.X.di i))))(ifn:isFn c.X.K (.ref (c.X.di i)))(N:g.ak=self::t)(B:lH g t s=some l)(e2:l9 (aD c.X.P c.X.N A).e self g.body ⟨l,f⟩ []=some (P,h)):fk c (.call (.ref (c.X.cP d)) ⟨H,[]⟩) f w h (.ins d (sa P) P):=λR q=>by
 refine bR B λhr B=>?_;have hlen:=We hr;rw[dO,dO,dO,r.length] at hlen;have B:=Wc B;subst B;refine I.aM.elim λm Y=>make_K Y jh hj (O.az.cls d T).Ad ini (beq_iff_eq.mp ifn) λx k S F' fv lt' h1=>?_;have L:=mq.jv I Y F' fv lt' h1;have J:aT c f w f (w.ab S w.s.toks):=L.aF I;have o:=I.aF J;have I1':aP {c with A:=c.A.under (.builtin "type.__call__" ⟨.ref (c.X.cP d)::H,[]⟩)} f (w.ab S w.s.toks):=⟨o.aM,o.aH,o.own,o.new,o.dy⟩
 refine C' (c:={c with A:=c.A.under (.builtin "type.__call__" ⟨.ref (c.X.cP d)::H,[]⟩)}) (w:=w.ab S w.s.toks) (l:=jP t (U s g.d6)) (eQ:=.ref x::H) (dD:=λj v2=>v2=.none/\∃K,bB c.X h j/\cG f w h j (iu c.f)/\j.h.get? x=some (instObj (c.X.cP d) k)/\ip j.h k K/\dA c.X j P K/\cY x h j/\cY k h j)
  O F fr (d5.ef (c':=cN c.X i+20) hi) I1' (by rw[N,WL,WL,<-hlen,WY]) (λl1 kz q v e=>(uY ((r.ext (I.ext J)).append kz) (ha s g.d6▸e)).elim λk0 z=>⟨k0,by rw[N];exact .tail _ z.1,z.2⟩) (λM env' ys e1 W hto hF C n away a' pos Q E q=>?_) _ λj v2 fl bc p=>?_
 .have cK:W.h.get? x=some (instObj (c.X.cP d) k):=n.step.keep _ _ L.og L.H' λp l z=>(L.own I (w':=w.ab S w.s.toks) rfl).1.aX p l.e8 z
  have kd:W.h.get? k=some emptyDict:=n.step.keep _ _ L.bC L.CY λp l z=>(L.own I (w':=w.ab S w.s.toks) rfl).2.aX p l.e8 z;have D:∀b,hb M b->S.get? b=none:=away;have X:=C.more (F:=λa=>a=x\/a=k) λa z=>z.elim (λz=>by
   subst z;exact⟨⟨_,cK⟩,λz=>cj L.og (D _ (.inl z)),(L.own I (w':=w.ab S w.s.toks) rfl).1.step ⟨_,L.og⟩ n.step,a' a _ L.og L.H' L.Ny⟩) λz=>by
   subst z;exact⟨⟨_,kd⟩,λz=>cj L.bC (D _ (.inl z)),(L.own I (w':=w.ab S w.s.toks) rfl).2.step ⟨_,L.bC⟩ n.step,a' a _ L.bC L.CY L.bR⟩
  have z:=RY (c:=cu.more ⟨c.X,M,env',e1⟩ λa=>a=x\/a=k) fp T (Or.inr (Or.inl rfl)) (Or.inr (Or.inr rfl)) L.Gf (λz=>cj L.bC (z▸D _ C.bU.F)) (λy a h2 e z=>cj L.bC (z▸D _ (.inr (C.bU.cell y a h2 e)))) g.body ys [] P f h [] W e2 hF X (pos 0 self (.ref x) (by rw[N];rfl) rfl) cK ⟨0,kd⟩ .nil (Ww _) Q E λk2 es3 u hx3 fd3 kk=>?_
  .exact hto▸z
  .have Z:=X.ag.b7 u
   refine q k2 .next .none u.aM u.dd rfl ⟨rfl,es3,u.aH,?_,hx3,fd3,kk,(Z.dy x (.inr (.inl rfl))).2.2.1,(Z.dy k (.inr (.inr rfl))).2.2.1⟩;have out:∀b,hb M b->w.h.get? b=none:=λb z=>J.step.iX (D b z);exact(J.trans I ⟨n.aH,n.step,n.aM,n.dd⟩).step.mi I.aH u.step λb z=>.inr (z.elim (λz=>out b (.inl z)) λz=>z.elim (λz=>out b (.inr z)) λz=>z.elim (λz=>z▸L.sY) λz=>z▸L.sS)
 .exact p.2.elim λK z=>⟨p.1,q ⟨j.G.bI λb=>b=x\/b=k,j.s⟩ _ (aT.BV ⟨z.1,z.2.1,λc' G=>fl c' (L.new.aM c' G),.trans ⟨_,_,rfl⟩ bc⟩ λb y=>y.elim (λy=>y▸⟨L.sY,⟨_,z.2.2.1⟩,z.2.2.2.2.2.1.aX⟩) λy=>y▸⟨L.sS,z.2.2.2.1.has,z.2.2.2.2.2.2.aX⟩)
   (.ins T (.inr (.inl rfl)) (.inr (.inr rfl)) z.2.2.1 z.2.2.2.1 (z.2.2.2.2.1.ext (w':=⟨j.G.bI λb=>b=x\/b=k,j.s⟩) ⟨λ_ z=>Or.inl z,λ_ _ z=>z,λ_ _ _ z=>z⟩))⟩
def PS(y:nM h i)(I:aP c a w)(O:g7 c.X)(u:hX c.X c.f)(H:d5 c.f c.A (cN c.X i+40))(A:c.X.K.In w.h)(t:d<c.X.iZ)(r:aK c.X w l eQ)
  (C:findIn c.X.K (.ref (c.X.cP d)) "__init__"=some (some (.ref (c.X.di i))))(F:isFn c.X.K (.ref (c.X.di i)))(s:(aD c.X.P c.X.N h).c .inl i (.ref a.n::l) (a.new (.ins d []))=some (g,f))(B:iC g):fk c (.call (.ref (c.X.cP d)) ⟨eQ,[]⟩) a w f (.ref a.n):=λR q=>by
 refine I.aM.elim λm X=>make_K X jh A (O.az.cls d t).Ad C (beq_iff_eq.mp F) λx o S T n N D=>?_;have L:=mq.jv I X T n N D;have e:=I.aH.Ap (h':=λb=>b=x) (o:=.ins d []) (s':=(w.ab S w.s.toks).s) I.own L.new.gS (λb z=>z▸⟨L.sY,_,L.og⟩) L.sS (Ne.symm L.Gf) λE=>⟨t,x,[],d'.1,.inr rfl,d'.2.symm▸L.og,d'.2.symm▸⟨0,L.bC⟩,Ww _,.nil⟩;have k:aT c a w (a.new (.ins d [])) ⟨(w.G.bI λb=>b=x).a5 a.n x o,(w.ab S w.s.toks).s⟩:=⟨e.1,e.2,L.new.aM,⟨_,_,rfl⟩⟩;have p:=I.aF k;refine y {c with A:=c.A.under (.builtin "type.__call__" ⟨.ref (c.X.cP d)::eQ,[]⟩)} .inl _ _ g f _ (.ref x::eQ) nofun s O u (d5.ef H) ⟨p.aM,p.aH,p.own,p.new,p.dy⟩ (.cons (.ref d'.1) (r.ext (I.ext k))) _ λJ G j K=>?_
 have aD:G=.none:=by rw[vY B] at K;exact K.l4 (p:=λv=>v=Value.none) rfl
 exact⟨aD,q J (.ref x) (k.trans I ⟨j.aH,j.step,j.aM,j.dd⟩) (.ref (j.step.aO _ _ d'.1))⟩
def IK(o:∀e,bT a e)(y:∀B,nM a B)(d:Nat):xX (a+1) d:=λc D V v E w J K e O h x H I r=>aA e λk s e=>by
 have j:=I.aM.elim λ_ F=>h.K.keeps F.keep;have S:=O.cls d k s;have g:=S.init;have p:=x k s;unfold wy at p;generalize A:k.init=N;induction N with
 |none=>
  rw[A] at e g;refine bR e λb e=>?_;induction D with
  |nil=>exact bz (p:=λv E=>fk c _ V w E v) e (PQ I O j S.lt g (r.eg (q:=λl=>l=[]) rfl))
  |cons=>exact ns e
 |some i=>
  rw[A] at e g p;have e:=e;generalize b:k.qf=N;induction N with
  |true=>
   rw[b] at e;refine aA e λn q e=>(O.GA d k i s A b n q).elim λ_ F=>?_;have e:=e;generalize m:n.ak=N;induction N with
   |nil=>rw[m] at e;exact ns e
   |cons self G=>rw[m] at e;exact aA e λl t e=>bK e λC P f e=>bz (p:=λv E=>fk c _ V w E v) e (PR o I O h (H.ju p) j S.lt F r g.1 g.2 m t f)
  |false=>rw[b] at e;exact bK e λu P f e=>bR e λz e=>bz (p:=λv E=>fk c _ V w E v) e (PS (y i) I O h (H.ju p) j S.lt r g.1 g.2 f z)
def Qv(h:Ao X a d):∀q,X.P.cls d=some q->wy X q<=a:=λq e=>by
 unfold Ao at h;rw[e] at h;have h:(match q.init with|some i=>Nat.ble (39*X.P.kY i+79) a|none=>true)=true:=h
 unfold wy;generalize I:q.init=N;induction N with|none=>exact Ww _|some i=>rw[I] at h;exact nT h
def Iy(m:∀e,bT a e)(f:xX a d):bT (a+1) (.new d G):=λc A V v g k x w e o C=>bK e λD P O e=>by
 have R:keepIn c.X.K (.ref (c.X.cP d)):=by
  induction a with|zero=>exact ns e|succ a=>exact aA e λk s _=>(C.ok.cls d k s).keep
 have I:=ar (ar o);have r:=ar (ar I);have b:=ar r;exact bP.d9 C.ag (vK C (n9 (aN (ar I))) (EU (aN r)) (rI (aN I))) (λS L l i=>i▸sj m O (ar (ar b)) (aN (ar b)) (C.aW.aF l) (ua R) λj t h p=>fk.call (f c D P v g j t k e C.ok C.aM (Qv (aN (ar o))) C.aW.dJ ((C.ag.aF l).aF h) p)) λQ E=>XO
def hL(N:kl)(t m:Nat):Ze String:=match t with
 |1=>match Nat.beq m N.append with
  |true=>some "list.append"
  |false=>match Nat.beq m N.lI with
   |true=>some "list.extend"
   |false=>match Nat.beq m N.fZ with
    |true=>some "list.pop"
    |false=>bS (Nat.beq m N.iB) (some "list.index")
 |2=>match Nat.beq m N.get with
  |true=>some "dict.get"
  |false=>bS (Nat.beq m N.fZ) (some "dict.pop")
 |3=>bS (Nat.beq m N.rW) (some "str.startswith")
 |_=>none
def RK(a:YZ):∀b:YZ,rN a b=(decide (a.length<=b.length)&&(b.take a.length==a)):=by
 induction a with
 |nil=>intro b;exact(by rw[decide_eq_true (Ww _)];rfl:true=(decide (0<=b.length)&&true))
 |cons a r S=>
  intro b;induction b with
  |nil=>exact(by rw[decide_eq_false (Yr _)];rfl:false=(decide (r.length+1<=0)&&_))
  |cons b s=>
   refine(?_:(match Nat.beq a b with|true=>rN r s|false=>false)=_)
   rw[S,p3,WL,WL,List.take_succ_cons,List.cons_beq_cons,show(b==a)=(a==b) from Bool.beq_comm,show decide (r.length+1<=s.length+1)=decide (r.length<=s.length) from by rw[W7,decide_eq_true_iff,decide_eq_true_iff];exact Nat.succ_le_succ_iff]
   cases a==b with
   |true=>rfl
   |false=>rw[Bool.false_and,W2]
def TJ(x y:Y'):(decide (0+y.length<=x.length)&&Builtin.Str.subAt x y 0)=rN y.cps.toList x.cps.toList:=by
 rw[RK];unfold Builtin.Str.subAt Str.length;rw[Wj,Array.length_toList,Array.length_toList]
 congr 1
 rw[W7,beq_iff_eq,beq_iff_eq,<-Array.toList_inj,Array.toList_extract];simp [List.extract]
section
variable{c:cu}{k n:Nat}{A:YS}{X R:Z}{w B:aL}
def FP(i:args.all e3)(f:args.length<=20):methodCallForm (args.length+([]:List Keyword).length) (backTo pos (starEach args af)) (backToKw pos (keywordEach [] af)):=by
 have b:(backTo pos (starEach args af)).all (!·.1):=by have:=oE (af:=af) (pos:=pos) i;rw[Wn];rw[List.any_eq_false] at this;intro x B;exact(XP _▸this x B:x.1=false)▸rfl
 refine(?_:((backTo pos (starEach args af)).all (!·.1)&&true&&decide (args.length+0+0<30))=true);rw[b,decide_eq_true (Wf f (by decide):args.length+0+0<30)]
 rfl
def FQ{E:YV}(G:p7 H)(i:args.all e3)(f:args.length<=20)(d:(apos.endLine==pos.line))
  (h:Zs c (eval H c.af) (λb g=>Zs c (getMethod b name (do return (<-importBound H c.af).getD true)) (λm a=>Zs c (callWith pos m.1 m.2 (backTo pos (starEach args c.af)) []) Q E a) E g) E w.s):
  Zs c (eval (.Call (.Attribute H name apos) args [] pos) c.af) Q E w.s:=by
 rw[arm_eval_Call,uT G];refine Wi (W6 h (λb g k=>?_) λ_ _ e=>e);refine Wi (XI ?_);have l:methodCallPos true H c.af apos pos=pure pos:=by unfold methodCallPos;simp [d]
 unfold methodCall;rw[FP i f];unfold calleeOf;exact Wi (Xo (W6 k (λm a j=>(Wi (wpAny_of_eq l j))) λ_ _ e=>e))
def HK:iL (.ref p) X=match X.get p with|some (.ae _ _)=>1|some (.ah ..)=>2|_=>0:=rfl
def UW:(iL d X=1->∃b,gz d X=some (.L b))/\(iL d X=2->∃k T,gz d X=some (.D k T))/\(iL d X=3->∃x,d=.str x):=by
 have s:∀{A B C:Prop},(0=1->A)/\(0=2->B)/\(0=3->C):=⟨λz=>(nomatch z),λz=>(nomatch z),λz=>(nomatch z)⟩;have i:∀{A B C:Prop},A->(1=1->A)/\(1=2->B)/\(1=3->C):=λa=>⟨λ_=>a,λz=>(nomatch z),λz=>(nomatch z)⟩;have G:∀{A B C:Prop},B->(2=1->A)/\(2=2->B)/\(2=3->C):=λa=>⟨λz=>(nomatch z),λ_=>a,λz=>(nomatch z)⟩;have c:∀{A B C:Prop},C->(3=1->A)/\(3=2->B)/\(3=3->C):=λa=>⟨λz=>(nomatch z),λz=>(nomatch z),λ_=>a⟩;induction d using V.casesOn with
 |ae b=>exact i ⟨b,rfl⟩
 |ah k T=>exact G ⟨k,T,rfl⟩
 |str x=>exact c ⟨x,rfl⟩
 |ref p=>
  refine HK▸(show gz (.ref p) X=(match X.get p with|some (.ae b _)=>some (iO.L b)|some (.ah k T _)=>some (.D k T)|_=>none) from rfl)▸?_
  generalize X.get p=N;induction N with
  |none=>exact s
  |some o=>induction o with
   |ae b l=>exact i ⟨b,rfl⟩
   |ah k T l=>exact G ⟨k,T,rfl⟩
   |ins=>exact s
 |_=>exact s
def ew.exact{k:eS}(j:ew f' w k c' h'):∃a',w.h.get? c'=some a'/\a'.ExactDict:=by
 induction k with|I=>exact j.elim λ_ j=>j.1.elim λa' j=>j.elim λ_ j=>j.elim λ_ j=>⟨a',j.1,j.2.1⟩|S=>exact j.elim λ_ j=>j.1.elim λa' j=>j.elim λ_ j=>j.elim λ_ j=>⟨a',j.1,j.2.1⟩|T=>exact j.elim λ_ j=>j.1.elim λa' j=>j.elim λ_ j=>j.elim λ_ j=>⟨a',j.1,j.2.1⟩
def Nf{id:String}{Q:Y3×YY->Y2}{E:YV}(S:km c.X)(h:w.h.PlainList a f)(e:hL c.X.N 1 g=some id)(q:Q (.builtin id,[.ref a]) w.s):Zs c (getMethod (.ref a) (c.X.az g) d) Q E w.s:=h.elim λk s=>by
 have R:w.s.TypeIs (.ref a) "list":=⟨_,s,rfl⟩;have T:∀b,Value.ref a=.ref b->∃o,w.s.heap.get? b=some o/\o.dict=none:=λb z=>Value.ref.inj z▸⟨_,s,rfl⟩;unfold hL at e;generalize P:Nat.beq g c.X.N.append=N;induction N with
 |true=>have e:=P▸e;exact(We P)▸S.append▸getMethod_builtin R F.plainAttrs_list F.slot_list_append F.type_list_append T (Wc e▸q)
 |false=>
  have e:=P▸e;generalize y:Nat.beq g c.X.N.lI=N;induction N with
  |true=>have e:=y▸e;exact(We y)▸S.lI▸getMethod_builtin R F.plainAttrs_list F.slot_list_extend F.type_list_extend T (Wc e▸q)
  |false=>
   have e:=y▸e;generalize v:Nat.beq g c.X.N.fZ=N;induction N with|true=>have e:=v▸e;exact(We v)▸S.fZ▸getMethod_builtin R F.plainAttrs_list F.slot_list_pop F.type_list_pop T (Wc e▸q)|false=>have e:=v▸e;exact bR e λi e=>by exact(We i)▸S.iB▸getMethod_builtin R F.plainAttrs_list F.slot_list_index F.type_list_index T (Wc e▸q)
def Nd{id:String}{n:Sem Bool}{Q:Y3×YY->Y2}{E:YV}(S:km c.X)(h:ew c.X w d a G)(e:hL c.X.N 2 g=some id)(q:Q (.builtin id,[.ref a]) w.s):Zs c (getMethod (.ref a) (c.X.az g) n) Q E w.s:=h.exact.elim λo h=>by
 have R:w.s.TypeIs (.ref a) "dict":=⟨_,h.1,h.2.1⟩;have T:∀b,Value.ref a=.ref b->∃o,w.s.heap.get? b=some o/\o.dict=none:=λb z=>Value.ref.inj z▸⟨_,h.1,h.2.2.1⟩;unfold hL at e;generalize P:Nat.beq g c.X.N.get=N;induction N with|true=>have e:=P▸e;exact(We P)▸S.get▸getMethod_builtin R F.plainAttrs_dict F.slot_dict_get F.type_dict_get T (Wc e▸q)|false=>have e:=P▸e;exact bR e λf e=>by exact(We f)▸S.fZ▸getMethod_builtin R F.plainAttrs_dict F.slot_dict_pop F.type_dict_pop T (Wc e▸q)
def Ng{id:String}{Q:Y3×YY->Y2}{E:YV}(S:km c.X)(R:bB c.X X w)(p:o c.X w d b)(e:hL c.X.N (iL d X) g=some id)(q:Q (.builtin id,[b]) w.s):Zs c (getMethod b (c.X.az g) f) Q E w.s:=by
 have T:=UW (d:=d) (X:=X);generalize iL d X=t at e T
 match t,e,T with
 |1,e,T=>exact(T.1 rfl).elim λO h=>(kx R h p).elim λa h=>h.2.elim λD N=>by rw[h.1] at q⊢;exact Nf S N.1 e q
 |2,e,T=>exact(T.2.1 rfl).elim λk h=>h.elim λi h=>(kx R h p).elim λa h=>h.2.2.elim λG N=>by rw[h.1] at q⊢;exact Nd S N.1 e q
 |3,e,T=>
  exact(T.2.2 rfl).elim λx h=>by
   subst h;exact p.f7 (p:=λb=>Q (.builtin id,[b]) w.s->wpAny _ _ (getMethod b (c.X.az g) f) Q E w.s) (λt q=>bR e λz e=>by
    refine(We z)▸S.rW▸?_;have q:=Wc e▸q
    with_reducible exact getMethod_builtin (typeIs_str w.s x _) F.plainAttrs_str F.slot_str_startswith F.type_str_startswith (by intro a z;cases z) q) q
def aT.BB(J:aP c X w)(W:X.get c'=some o₀)(l₀:bc o₀=0)(lo:bc a'=0)(ax:Heap.SameBut (w.G.aX c') w.h h')(S:cM w (w.ab h' f')->fR c.X (w.ab h' f') c' a'):aT c X w (X.set c' a') (w.ab h' f'):=by have Z:cT X c':=⟨_,W⟩;have V:∀o j,o≠w.G.aX c'->w.h.get? o=some j->h'.get? o=some j:=λo j n u=>(ax.2 o n).trans u;have Y:∀M,Fr c.f.g c.f.L w.h M->Fr c.f.g c.f.L h' M:=λM C=>⟨C.ns.at' λa' u=>V _ a' (Ne.symm (J.own.aX c' Z)) u,λo a' u=>V o a' (λU=>cj (U▸u) (J.new c' Z)) (C.keep o a' u),C.above⟩;have U:=J.aH.update J.own W l₀ lo (λo j n _ u=>V o j n u) (J.aM.elim λM C=>(Y M C).ns.elim λa' j=>j.elim λ_ j=>j.elim λ_ j=>⟨a',j.1⟩) S;exact⟨U.1,U.2,Y,⟨_,_,rfl⟩⟩
def aT.uB(j:aP c X w)(o:X.get a'=some (.ae f' 0))(ax:Heap.SameBut (w.G.aX a') w.h h')(C:h'.PlainList (w.G.aX a') us.toArray)(u:us.length<=b0)(J:aK c.X w ys us):aT c X w (X.set a' (.ae ys 0)) (w.ab h' c'):=
 .BB j o rfl rfl ax λE=>⟨(j.aH.slot a' _ o).1,us,C,u,J.ext E⟩
def wY{h:Y5}(g:Array Y3->Array Y3)(s:h.get? l=some {cls:=.type "list",dict:=none,data:=.seq a k,slots:=#[]}):(h.update l (Obj.mapSeq g)).PlainList l (g a):=⟨_,Heap.get?_update_self _ s rfl⟩
def tD{q:Y3->Prop}(I:aP c X w)(s:X.get p=some (.ae e 0))(H:o c.X w (.ref p) d)(k:∀b,w.h.PlainList (w.G.aX p) b.toArray->b.length<=b0->aK c.X w e b->q (.ref (w.G.aX p))):q d:=
 oO I.aH s H λa E S=>Wc (S.1.symm.trans E)▸S.2.elim λb S=>k b S.1 S.2.1 S.2.2
def Jv(I:aP c X w)(s:X.get p=some (.ae b 0))(R:eA b)(H:o c.X w (.ref p) a)(m:o c.X w x h):aR c (call (.builtin "list.append") [a,h] []) X w (X.set p (.ae (U b [x]) 0)) .none:=
 tD (q:=λa=>aR c (call (.builtin "list.append") [a,h] []) X w _ .none) I s H λD f d F Q E q=>wpAny_list_append_plain f (λS n ax=>q (w.ab S w.s.toks) _ (aT.uB I s ax (List.push_toArray D h▸n) (by exact Wk▸F.length▸pH R) (ha b [x]▸F.append (.cons m .nil))) .none) (mc d)
def LF{a b:Array Y3}(h:a.size+b.size<b0):¬(!a.isEmpty&&Builtin.List.listTooLong (a.size+b.size))=true:=by
 have:Builtin.List.listTooLong (a.size+b.size)=false:=by
  unfold Builtin.List.listTooLong;rw[decide_eq_false_iff_not];have:=jy b0 (Wr _)
  lia
 rw[this,W2];exactλz=>bb z
def Mu(I:aP c X w)(s:X.get p=some (.ae a 0))(k:d4 x X=some l)(R:eA (U a l))(H:o c.X w (.ref p) d)(r:o c.X w x h):aR c (call (.builtin "list.extend") [d,h] []) X w (X.set p (.ae (U a l) 0)) .none:=
 tD (q:=λd=>aR c (call (.builtin "list.extend") [d,h] []) X w _ .none) I s H λD P m f=>mZ (p:=λh=>aR c (call (.builtin "list.extend") [_,h] []) X w _ .none) I.aH k r λb e N t i=>P.elim λv P=>N.elim λG N Q E q=>by
  have j:(D++e).length<b0:=by rw[Wk,<-f.length,<-i.length,<-Wk,<-ha];exact pH R
  have g:D.toArray.size+e.toArray.size<b0:=by exact WB▸WB▸Wk▸j
  refine call_meets F.slot_list_extend ⟨_,P,rfl⟩ F.entry_list_extend (F.args_list_extend_2 _ _) (AutoSeq1.list_extend_list_list_0 (w.G.aX p) D.toArray v b e.toArray G (LF g) (mc m) (W8 (Wh (WK g) (jy b0 (Wr _))))) ⟨P,N,?_⟩;have n:=wY (λa=>a++e.toArray) P;rw[List.append_toArray] at n;exact q (w.ab _ _) _ (aT.uB I s (Heap.SameBut.update ..) n (WK j) (ha a l▸f.append i)) .none
def aK.split:∀{c':YY},aK f' w (h'++[s']) c'->∃us a',c'=us++[a']/\aK f' w h' us/\o f' w s' a':=by
 induction h' with|nil=>exactλj=>j.hP (q:=λc'=>∃us a',c'=us++[a']/\aK f' w [] us/\o f' w s' a') λC j=>⟨[],C,rfl,.nil,j⟩|cons V h' U=>exactλj=>j.dK (q:=λc'=>∃us a',c'=us++[a']/\aK f' w (V::h') us/\o f' w s' a') λC c' J M=>(U M).elim λus u=>u.elim λa' u=>⟨C::us,a',Wd (C::·) u.1,.cons J u.2.1,u.2.2⟩
def RF(I:aP c X w)(s:X.get p=some (.ae a 0))(B:a=r++[x])(H:o c.X w (.ref p) b):aR c (call (.builtin "list.pop") [b] []) X w (X.set p (.ae r 0)) x:=
 tD (q:=λb=>aR c (call (.builtin "list.pop") [b] []) X w _ x) I s H λD P f g=>P.elim λv P=>(B▸g).split.elim λd z=>z.elim λu z Q E q=>by
  have e:=z.1;subst e;refine call_meets F.slot_list_pop ⟨_,P,rfl⟩ F.entry_list_pop (F.args_list_pop_1 _) (MeetsSeq.list_pop_last (w.G.aX p) (d++[u]).toArray v u (by simp) (mc f)) ⟨P,?_⟩
  have n:=wY (λa=>a.eraseIdxIfInBounds ((d++[u]).toArray.size-1)) P;have e:(d++[u]).toArray.eraseIdxIfInBounds ((d++[u]).toArray.size-1)=d.toArray:=by rw[Yp];congr 1;simp [List.eraseIdx_append_of_length_le]
  have n:=e▸n;have T:=aT.uB (c':=w.s.toks) I s (Heap.SameBut.update w.s.heap (w.G.aX p) (Obj.mapSeq λa:Array Y3=>a.eraseIdxIfInBounds ((d++[u]).toArray.size-1))) n (Wh (by exact Wk▸Wq _ _) f) z.2.1
  exact q (w.ab _ w.s.toks) _ T (z.2.2.ext (I.ext T))
def RC(I:aP c X w)(s:X.get p=some (.ae (x::r) 0))(H:o c.X w (.ref p) a):aR c (call (.builtin "list.pop") [a,.int 0 t] []) X w (X.set p (.ae r 0)) x:=
 tD (q:=λa=>aR c (call (.builtin "list.pop") [a,.int 0 t] []) X w _ x) I s H λD P b f=>P.elim λv P Q E q=>by
  cases f with
  |@cons _ u _ d y g=>
   refine call_meets F.slot_list_pop ⟨_,P,rfl⟩ F.entry_list_pop (F.args_list_pop_2 _ _) (MeetsSeq.list_pop_at (w.G.aX p) (u::d).toArray v 0 t 0 u (by decide) (G1 (by simp)) rfl (mc b)) ⟨P,?_⟩
   have n:=wY (λO=>O.eraseIdxIfInBounds 0) P;have e:(u::d).toArray.eraseIdxIfInBounds 0=d.toArray:=by rw[Yp];rfl
   have n:=e▸n;have T:=aT.uB (c':=w.s.toks) I s (Heap.SameBut.update w.s.heap (w.G.aX p) (Obj.mapSeq λO:Array Y3=>O.eraseIdxIfInBounds 0)) n (Wh (WH _) b) g;exact q (w.ab _ w.s.toks) _ T (y.ext (I.ext T))
def NT:∀{i f:Nat},vV x l i=some f->∃d,f=i+d/\(∀y∈l,∃b,iM y x=some b)/\(∃y,l[d]?=some y/\iM y x=some true)/\∀m y,m<d->l[m]?=some y->iM y x=some false:=by
 induction l with
 |nil=>exactλe=>ns e
 |cons y r S=>
  intro i f e;refine aA e λa I e=>?_;induction a with
  |true=>exact aA e λb s e=>⟨0,(Wc e).symm,λz c=>(Wz.mp c).elim (λz=>⟨_,z▸I⟩) ((p0 s).1 z),⟨y,rfl,I⟩,λm _ h=>absurd h (Xv _)⟩
  |false=>exact(S e).elim λd z=>⟨d+1,z.1.trans (by rw[Wl,Wm 1]),λp c=>(Wz.mp c).elim (λz=>⟨_,z▸I⟩) (z.2.1 p),z.2.2.1,λm p D c=>by
   induction m with|zero=>exact Wc c▸I|succ m=>exact z.2.2.2 m p (Xl D) c⟩
def NY{j:Y3}(I:aP c X w)(r:w.h.PlainList a b.toArray)(s:b.length<=b0)(h:aK c.X w g b)(e:vV x g 0=some f)(t:o c.X w x j):aR c (call (.builtin "list.index") [.ref a,j] []) X w X (.int (.ofNat f)):=
 r.elim λv k=>(NT e).elim λd z=>by
  have O:d=f:=(z.1.trans (Wj d)).symm;subst O;refine z.2.2.1.elim λy n=>(h.lM n.1).elim λu H=>?_;have m:d<b.toArray.size:=by exact WB▸(List.getElem?_eq_some_iff.mp H.1).1
  refine aR.toks I λQ E q=>call_meets F.slot_list_index ⟨_,k,rfl⟩ F.entry_list_index (F.args_list_index_2 _ _) (list_indexAt a b.toArray v none #[] j (mb x) d m ?_ ?_ ?_) ⟨k,Ae z.2.1 t h,q _ _ .int⟩
  .have q:d<100000:=Wg m (by exact WB▸s)
   lia
  .exact(show b.toArray[d]=u from by have:=(List.getElem?_eq_some_iff.mp H.1).2;simpa using this)▸(xg n.2 H.2)▸rfl
  .intro i A p
   have A:=WB▸A;exact(h.get (List.getElem?_eq_getElem A)).elim λB l=>by exact(show b.toArray[i]=b[i] from by simp)▸(xg (z.2.2.2 i B p l.1) l.2)▸rfl
def TK(I:aP c X w)(p:o c.X w (.str x) a)(q:o c.X w (.str y) h):aR c (call (.builtin "str.startswith") [a,h] []) X w X (.bool (rN y.cps.toList x.cps.toList)):=
 p.f7 (p:=λa=>aR c (call (.builtin "str.startswith") [a,h] []) X w X _) λt=>q.f7 (p:=λh=>aR c (call (.builtin "str.startswith") [_,h] []) X w X _) λu=>aR.toks I λQ E k=>call_gives F.slot_str_startswith (typeIs_str ..) F.entry_str_startswith (F.args_str_startswith_2 _ _) (gives_str_startswith x y _ _) (by rw[TJ];exact k _ w.s.toks .bool)
def b2.Gn(C:b2 a' w kvs f')(u:aE)(J:o a' w c' h'):o a' w (rK c' (bL kvs u)) ((bL f' u).getD h'):=
 (C.au u).elim (λj=>j.elim λU j=>j.elim λM j=>by exact j.1▸j.2.1▸j.2.2) λj=>by exact j.1▸j.2▸J
def Nn{Q:YV}{E:YV}(H:c.A.units+30<cLine)(h:(a==sysModules)=false)(T:w.h.DictOfH (tupleKind (intKind c.X.prog c.X.w)) a d)(f:IsTupleKey (intKind c.X.prog c.X.w) w.h z b)(e:rest=[]/\i=.none\/rest=[i])
  (q:∀s,Q (((atKey d z).map (·.2)).getD i) (w.a8 s).s):Zs c (call (.builtin "dict.get") (.ref a::.ref b::rest) []) Q E w.s:=by
 have S:=q (w.s.toks+(tupleKind (intKind c.X.prog c.X.w)).draws z);have g:c.A.units+1<cLine:=Wf (Wt (by decide) _) H
 induction e with
 |inl e=>
  refine e.1▸?_;rw[e.2] at S;refine XQ F.slot_dict_get T.typeIs F.entry_dict_get ?_ (F.args_dict_get_2 _ _);show wpAny _ _ (dictGet a (.ref b)>>=_) _ _ w.s;refine Wi (wpAny_dictGet_heap (tupleKind_room_in1 g) f T ?_);generalize R:(atKey d z).map (·.2)=N;induction N with
  |some v=>rw[R] at S;exact Wo ⟨v,rfl,S⟩
  |none=>rw[R] at S;exact Wi (wpAny_missed_other h (Wo ⟨.none,rfl,S⟩))
 |inr e=>
  refine e▸XQ F.slot_dict_get T.typeIs F.entry_dict_get ?_ (F.args_dict_get_3 ..);show wpAny _ _ (dictGet a (.ref b)>>=_) _ _ w.s;refine Wi (wpAny_dictGet_heap (tupleKind_room_in1 g) f T ?_);generalize R:(atKey d z).map (·.2)=N;induction N with|some v=>rw[R] at S;exact Wo ⟨v,rfl,S⟩|none=>rw[R] at S;exact Wi (wpAny_missed_other h (Wo ⟨i,rfl,S⟩))
def D3{K:Type} [DecidableEq K]{r:KeyKind c.X.prog c.X.w K}{z:K}{y:YY}{O:List (K×Y3)}{Q:YV}{E:YV}(g:(a==sysModules)=false)(T:w.h.DictOf r a O)(f:r.is z x)(b:y=[]/\i=.none\/y=[i])
  (q:∀s,Q ((valueAt O z).getD i) (w.a8 s).s):Zs c (call (.builtin "dict.get") (.ref a::x::y) []) Q E w.s:=by
 induction b with|inl b=>refine b.1▸?_;rw[b.2] at q;exact call_meetsIn F.slot_dict_get T.typeIs F.entry_dict_get (F.args_dict_get_2 _ _) (meets_dict_get r a f g) ⟨_,T.mapOf,q _⟩|inr b=>exact b▸call_meetsIn F.slot_dict_get T.typeIs F.entry_dict_get (F.args_dict_get_3 ..) (meets_dict_get_default r a f g _) ⟨_,T.mapOf,q _⟩
def D2{P:eS}{a:Y4}{A:aE}{y:YY}(I:aP c X w)(H:c.A.units+30<cLine)(d:ew c.X w P a G)(g:(a==sysModules)=false)(m:o3 c.X w P A x)(F:y=[]/\i=.none\/y=[i]):c4 c (call (.builtin "dict.get") (.ref a::x::y) []) X w X ((bL G A).getD i):=by
 refine c4.toks I λQ E q=>?_;induction P with
 |I=>induction A with
  |i n=>refine d.elim λO d=>m.elim λt aD=>?_;rw[d.2,pA aE.i n pP] at q;exact aD▸D3 g d.1 (intKind_is c.X.prog c.X.w _ t) F q
  |_=>exact m.elim
 |S=>induction A with
  |s n=>refine d.elim λO d=>m.elim λt aD=>?_;rw[d.2,pA aE.s n ts] at q;exact aD▸D3 g d.1 (strKind_is c.X.prog c.X.w _ t) F q
  |_=>exact m.elim
 |T=>induction A with|t l=>refine d.elim λO d=>m.elim λb aD=>?_;rw[d.2.1,yX aE.t l v8] at q;exact aD.1▸Nn H g d.1 aD.2.2 F q|_=>exact m.elim
def Ly(I:aP c X w)(H:c.A.units+30<cLine)(i:(a==sysModules)=false)(d:ew c.X w P a G)(h:b2 c.X w T G)(e:gA P T f=some L)(q:aK c.X w f b):aR c (call (.builtin "dict.get") (.ref a::b) []) X w X L:=by
 induction f with
 |nil=>exact ns e
 |cons x r=>
  refine aA e λy n e=>q.dK (q:=λb=>aR c (call (.builtin "dict.get") (.ref a::b) []) X w X L) λj b m g=>?_;induction r with
  |nil=>exact g.eg (q:=λb=>aR c (call (.builtin "dict.get") (.ref a::j::b) []) X w X L) (b6 e ((D2 I H d i (pQ n m) (.inl ⟨rfl,rfl⟩)).ju λS o l O=>by exact O▸(h.Gn y .none).ext (I.ext l)))
  |cons A t=>induction t with|nil=>exact g.hP (q:=λb=>aR c (call (.builtin "dict.get") (.ref a::j::b) []) X w X L) λp k=>b6 e ((D2 I H d i (pQ n m) (.inr rfl)).ju λS o l O=>by exact O▸(h.Gn y k).ext (I.ext l))|cons=>exact ns e
def Ls(k:aE)(l:List (aE×α)):(gP l k).length<=l.length:=by
 induction l with
 |nil=>exact Wr _
 |cons x r S=>
  show(match cJ x.1 k with|true=>r|false=>(x.1,x.2)::gP r k).length<=r.length+1
  generalize cJ x.1 k=N;induction N with|true=>exact WH _|false=>exact WC S
def LH(I:aP c X w)(s:X.get p=some (.ah .I b 0))(e:bL b (.i i)=some L)(H:o c.X w (.ref p) f):aR c (call (.builtin "dict.pop") [f,.int i t] []) X w (X.set p (.ah .I (gP b (.i i)) 0)) L:=
 oO I.aH (q:=λf=>aR c (call (.builtin "dict.pop") [f,.int i t] []) X w _ L) s H λa k S=>Wc (S.1.symm.trans k)▸S.2.2.elim λG N=>N.1.elim λO d=>(N.2.2.aO e).elim λv A Q E q=>by
  have h:=A.1;rw[d.2,pA aE.i i pP] at h;have B:O.length=G.length:=by rw[d.2,WG]
  refine call_meetsIn F.slot_dict_pop d.1.typeIs F.entry_dict_pop (F.args_dict_pop_2 _ _) (meets_dict_pop_there (intKind c.X.prog c.X.w) (w.G.aX p) (intKind_is _ _ i t) [] (.inl rfl) rfl) ⟨O,v,d.1,by refine B▸?_;exact jy _ N.2.1,h,λj l ax=>?_⟩
  have g:=Lu aE.i i pP O (d.1.elim λ_ z=>z.elim λ_ z=>z.elim λ_ z=>z.2.2.2.2.2);rw[<-d.2] at g;have T:=aT.BB (f':=w.s.toks+1) (a':=.ah .I (gP b (.i i)) 0) I s rfl rfl ax λE=>⟨S.1,S.2.1,gP G (.i i),⟨_,l,g⟩,Wh (Ls _ _) N.2.1,(N.2.2.hk _).ext E⟩;exact q (w.ab j (w.s.toks+1)) _ T (A.2.ext (I.ext T))
def km.cC{j:cn}(u:j.az a'=f')(C:j.az c'=h')(n:(f'==h')=false):Nat.beq a' c'=false:=by
 generalize J:Nat.beq a' c'=M;induction M with
 |false=>rfl
 |true=>
  have o:f'=h':=by exact u▸C▸((We J))▸rfl
  rw[beq_eq_false_iff_ne] at n;exact absurd o n
def nN(a:cn)(v:V)(g:Nat)(D:YU)(X:Z)(u:V)(R:Z):Prop:=
 ∃id,hL a.N (iL v X) g=some id/\∀(f:ec)(d:Env)(A:Zb)(w:aL)(K:Y3)(t:YY),A.units+30<cLine->aP ⟨a,f,d,A⟩ X w->o a w v K->aK a w D t->aR ⟨a,f,d,A⟩ (call (.builtin id) (K::t) []) X w R u
noncomputable def UX:O->Nat
 |.ae _ _=>1
 |.ah _ _ _=>2
 |.ins _ _=>0
def By(h:X.get p=some H):iL (.ref p) X=UX H:=by refine HK▸h▸?_;induction H<;>rfl
def K7{k:eS}(h:gz a X=some (.D k T)):iL a X=2:=by
 induction a using V.casesOn with
 |ah=>rfl
 |ref p=>
  have h:(match X.get p with|some (.ae O _)=>some (iO.L O)|some (.ah k T _)=>some (.D k T)|_=>none)=some (.D k T):=h
  generalize s:X.get p=N;induction N with
  |none=>rw[s] at h;exact ns h
  |some o=>refine(By s)▸?_;rw[s] at h;induction o with
   |ae=>nomatch h
   |ah=>rfl
   |ins=>exact ns h
 |ae=>nomatch h
 |ay=>nomatch h
 |_=>exact ns h
def K6(h:gz a X=some (.L b))(c:(!tm a)):a=.ae b:=by
 induction a using V.casesOn with
 |ae E=>exact Wd V.ae (Wd (λ|iO.L l=>l|_=>[]) (Wc h))
 |ref p=>exact bb c
 |ah=>nomatch h
 |ay=>nomatch h
 |_=>exact ns h
def RD(e:w0 a b=some (x,r)):(b=[]/\a=r++[x])\/(b=[.int 0]/\a=x::r):=by
 induction b with
 |nil=>
  have e:(match gj a []with|x::r=>some (x,gj r [])|[]=>none)=some (x,r):=e
  generalize F:gj a []=N;induction N with
  |nil=>rw[F] at e;exact ns e
  |cons y l=>rw[F] at e;refine bz (p:=λx r=>(([]:YU)=[]/\a=r++[x])\/_) e (.inl ⟨rfl,?_⟩);rw[AS,WQ] at F⊢;exact(List.reverse_reverse a)▸F▸Xy▸rfl
 |cons z t=>induction t with
  |cons=>exact ns e
  |nil=>
   refine aA e λn X e=>?_;induction n with
   |succ=>exact ns e
   |zero=>induction a with|nil=>exact ns e|cons y l=>exact bz (p:=λx r=>_\/([z]=[V.int 0]/\y::l=x::r)) e (.inr ⟨Wd (λz=>[z]) (pd X),rfl⟩)
def P7(s:X.get p=some (.ae d 0))(e:wx a.N p d g b X=some (L,R)):nN a (.ref p) g b X L R:=by
 unfold nN;refine(By s)▸?_;unfold wx at e;show∃id,(match Nat.beq g a.N.append with|true=>some "list.append"|false=>match Nat.beq g a.N.lI with|true=>some "list.extend"|false=>match Nat.beq g a.N.fZ with|true=>some "list.pop"|false=>bS (Nat.beq g a.N.iB) (some "list.index"))=some id/\_
 generalize P:Nat.beq g a.N.append=N;induction N with
 |true=>rw[P] at e;exact aA e λx B e=>bR e λh e=>⟨_,rfl,λf i A w K c H I p r=>(qa B▸r).hP (q:=λc=>aR _ (call (.builtin "list.append") (K::c) []) X w R L) λo m=>bz (p:=λL R=>aR _ _ X w R L) e (Jv I s h p m)⟩
 |false=>
  rw[P] at e;generalize y:Nat.beq g a.N.lI=N;induction N with
  |true=>rw[y] at e;exact aA e λx B e=>aA e λl k e=>bR e λh e=>⟨_,rfl,λf i A w K c H I p r=>(qa B▸r).hP (q:=λc=>aR _ (call (.builtin "list.extend") (K::c) []) X w R L) λo m=>bz (p:=λL R=>aR _ _ X w R L) e (Mu I s k h p m)⟩
  |false=>
   rw[y] at e;exact bR e λv e=>v▸aA e λr F e=>⟨_,rfl,λf i A w K c H I p Q=>bz (p:=λL R=>aR _ _ X w R L) e ((RD (x:=r.1) (r:=r.2) F).elim (λz=>(z.1▸Q).eg (q:=λc=>aR _ (call (.builtin "list.pop") (K::c) []) X w _ _) (RF I s z.2 p))
    λz=>(z.1▸Q).hP (q:=λc=>aR _ (call (.builtin "list.pop") (K::c) []) X w _ _) λj n=>n.dt (p:=λj=>aR _ (call (.builtin "list.pop") [K,j] []) X w _ _) λt=>RC I (z.2▸s) p)⟩
def P6(c:gz d X=some (.D P T))(e:bS (Nat.beq g b.N.get) (gA P T i)=some L):nN b d g i X L X:=bR e λz e=>⟨"dict.get",by refine(K7 c)▸?_;show(match Nat.beq g b.N.get with|true=>some "dict.get"|false=>bS (Nat.beq g b.N.fZ) (some "dict.pop"))=_;rw[z],λf j A w K t H I p r=>(kx I.aH c p).elim λa h=>h.1▸h.2.2.elim λG N=>Ly I H h.2.1 N.1 N.2.2 e r⟩
def P8(S:km b)(e:Af b.N d g h X=some L):nN b d g h X L X:=by
 have E:(Y (gz d X) λc=>match c with
  |.D k T=>bS (Nat.beq g b.N.get) (gA k T h)
  |.L O=>bS (!tm d) (bS (Nat.beq g b.N.iB) (Y (d9 h) λx=>Y (vV x O 0) λi=>some (.int (.ofNat i))))
  |.T _=>none)=some L->nN b d g h X L X:=λe=>by
  refine aA e λn j e=>?_;induction n with
  |D k T=>exact P6 j e
  |T=>exact ns e
  |L O=>
   refine bR e λC e=>bR e λz e=>aA e λx B e=>aA e λi q D=>?_;have aD:=K6 j C;subst aD;have z:=We z;subst z;refine⟨"list.index",?_,λf o A w K t H I p r=>(qa B▸r).hP (q:=λt=>aR _ (call (.builtin "list.index") (K::t) []) X w X L) λl m=>p.ic (p:=λK=>aR _ (call (.builtin "list.index") [K,l] []) X w X L) λa G _ P s F=>b6 D (NY I P s F q m)⟩;refine(?_:(match Nat.beq b.N.iB b.N.append with|true=>some "list.append"|false=>match Nat.beq b.N.iB b.N.lI with|true=>some "list.extend"|false=>match Nat.beq b.N.iB b.N.fZ with|true=>some "list.pop"|false=>bS (Nat.beq b.N.iB b.N.iB) (some "list.index"))=_)
   rw[km.cC S.iB S.append (by decide),km.cC S.iB S.lI (by decide),km.cC S.iB S.fZ (by decide),WA];rfl
 induction d using V.casesOn with|str x=>exact bR e λz e=>aA e λy u e=>aA e λJ v e=>⟨"str.startswith",by show bS (Nat.beq g b.N.rW) _=_;refine z▸?_;rfl,λf o A w K t H I p r=>(qa u▸r).hP (q:=λt=>aR _ (call (.builtin "str.startswith") (K::t) []) X w X L) λl m=>b6 e (TK I p (uR v▸m))⟩|_=>exact E e
def P'(S:km a)(e:iF a.N b g d X=some (L,R)):nN a b g d X L R:=by
 have e:(match tn a.N b g X with
  |some q=>match q.2 with
   |.ae O _=>wx a.N q.1 O g d X
   |.ah k T _=>bS (Nat.beq g a.N.fZ) (bS (zN k) (Y (d9 d) λx=>Y (fm x) λn=>Y (bL T (.i n)) λw=>some (w,X.set q.1 (.ah .I (gP T (.i n)) 0))))
   |.ins _ _=>none
  |none=>Y (Af a.N b g d X) λw=>some (w,X))=some (L,R):=e
 generalize c:tn a.N b g X=N;induction N with
 |none=>rw[c] at e;exact aA e λr u e=>bz e (P8 S u)
 |some q=>
  rw[c] at e;have c:(match Nat.beq g a.N.get with|true=>none|false=>VW b X)=some q:=c
  generalize j:Nat.beq g a.N.get=N;induction N with
  |true=>rw[j] at c;exact ns c
  |false=>
   rw[j] at c;have i:=Bb c;induction q with
   |mk p o=>induction o with
    |ae O l=>have h:l=0:=i.2.2;subst h;exact i.1▸P7 i.2.1 e
    |ins=>exact ns e
    |ah P T l=>
     have h:l=0:=i.2.2;subst h;refine bR e λz e=>bR e λv e=>aA e λx B e=>aA e λn y e=>aA e λr F e=>bz (p:=λL R=>nN a b g d X L R) e ?_;induction P with
     |I=>
      refine i.1▸⟨"dict.pop",?_,λf D A w K m H I p r=>(qa B▸r).hP (q:=λm=>aR _ (call (.builtin "dict.pop") (K::m) []) X w _ _) λs C=>(hE y▸C).dt (p:=λs=>aR _ (call (.builtin "dict.pop") [K,s] []) X w _ _) λt=>LH I i.2.1 F p⟩;refine(By i.2.1)▸(?_:(match Nat.beq g a.N.get with|true=>some "dict.get"|false=>bS (Nat.beq g a.N.fZ) (some "dict.pop"))=_)
      refine j▸z▸?_;rfl
     |_=>exact bb v
def Ro{k:i9}{v:Sem Bool}{Q:Y3×YY->Y2}{E:YV}(W:lp c.X)(O:c.X.K.In w.h)(R:bB c.X X w)(S:xS c.X d k)(F:ks e X=some d)(I:bM X e g=none)(n:au k.kR g=some i)(p:o c.X w e l)
  (q:Q (.ref (c.X.di i),[l]) w.s):Zs c (getMethod l (c.X.az g) v) Q E w.s:=by
 have t:∃P,zK e X=some (d,P)/\au P g=none:=by
  induction e using V.casesOn with
  |ins j b P=>exact⟨P,by refine(Wc F)▸?_;rfl,I⟩
  |ref a=>
   have F:(match X.get a with|some (.ins c _)=>some c|_=>none)=some d:=F
   have I:(match X.get a with|some (.ins _ P)=>au P g|_=>none)=none:=I
   refine(?_:∃P,(match X.get a with|some (.ins c P)=>some (c,P)|_=>none)=some (d,P)/\_)
   generalize s:X.get a=A;induction A with
   |none=>rw[s] at F;exact ns F
   |some H=>
    rw[s] at F I;induction H with
    |ins j P=>exact⟨P,by rw[<-Wc F],I⟩
    |_=>exact ns F
  |_=>exact ns F
 have r:=W.cls d S.lt;exact t.elim λP z=>(EL R z.1 p).elim λx h=>h.2.2.elim λy N=>N.elim λG N=>by rw[h.1] at q⊢;have m:=S.aC g i n;exact N.2.1.elim λu T=>method_fn O (od:=some (dictOf G u)) ⟨N.1,rfl,rfl,T⟩ r.DW r.gt m.1 (beq_iff_eq.mp m.2.1) (by unfold shadowIn;dsimp only;rw[lookIn_dict,((N.2.2.zd W g).elim (λf=>f.elim λC f=>f.elim λB f=>ns (z.2.symm.trans f.1)) λf=>f.2)];rfl) q
def VK(h:VN G<=m):(cD z g G b).length<=m:=by
 refine Wh (WI ?_) h
 clear h
 induction G generalizing b with|nil=>rfl|cons a r S=>exact hV▸Wd Nat.succ S
def Iw(i:∀e,bT n e)(S:∀a,nM n a):bT (n+1) (.aC H m G):=λc A X v R k x w e Y C=>bK e λu P O e=>by
 have F:=ar Y;have B:=ar F;have D:=ar B;have I:=ar D;have b:=ar I;have r:=ar b;have e:=e
 refineλQ E q=>FQ (aN B) (aN b) (VK (nT (aN I))) (by rw[<-p3];exact aN D) ((i H).aO O (aN r) C.aW _ E λw1 J l g=>?_)
 have L:=C.aW.aF l;generalize o:ks u P=N;induction N with
 |some d=>
  rw[o] at e;generalize p:bM P u (hp m)=N;induction N with
  |some _=>rw[p] at e;exact ns e
  |none=>rw[p] at e;exact aA e λT z e=>aA e λf y e=>bR e λV e=>bK e λZ U j e=>(Ro C.ok.az L.lS l.aH (C.ok.cls d T z) o p y g (bP.aO (sj i j (ar r) (aN b) L (ua (C.ok.E3 d T _ f z y)) λs t h K=>(fk.call (S f c .inl _ _ _ _ s (J::t) nofun e C.ok C.aM (C.dJ.ju (W8 (Wh (Wy (WT 39 (nT V)) 59) (nT (aN F))))) (L.ag.aF h) (.cons (g.ext (L.ag.ext h)) K)))) C.ag l q))
 |none=>rw[o] at e;refine bK e λZ U j e=>bR e λW e=>?_;have M:=P' C.ok.aC e;rw[nN,<-We W] at M;exact M.elim λid M=>Ng C.ok.aC l.aH g M.1 (bP.aO (sj i j (ar r) (aN b) L AZ λs t h K=>M.2 c.f c.af c.A s J t C.units (L.ag.aF h) (g.ext (L.ag.ext h)) K) C.ag l q)
end
def EK(x:Int)(l:Y1):(mV x l).Perm (x::l):=by
 induction l with
 |nil=>exact .refl _
 |cons y r S=>
  show(match gf y x with|true=>y::mV x r|false=>x::y::r).Perm _
  generalize gf y x=N;induction N with|true=>exact(S.cons y).trans (.swap x y r)|false=>exact .refl _
def Bd(l:Y1):(oP l).Perm l:=by
 induction l with|nil=>exact .refl _|cons x r S=>exact(EK x _).trans (S.cons x)
def N3(x:Int)(l:Y1)(h:l.Pairwise (·<=·)):(mV x l).Pairwise (·<=·):=by
 induction l with
 |nil=>exact .cons (λ_ h=>es h) .nil
 |cons y r S=>
  rw[XD] at h;show(match gf y x with|true=>y::mV x r|false=>x::y::r).Pairwise _
  have p:=tj y x;generalize L:gf y x=N;induction N with|true=>exact .cons (λz f=>(Wz.mp ((EK x r).mem_iff.mp f)).elim (λe=>e▸Int.le_of_lt (of_decide_eq_true (p.symm.trans L))) (h.1 z)) (S h.2)|false=>have a:=YM.mp (of_decide_eq_false (p.symm.trans L));exact .cons (λz f=>(Wz.mp f).elim (λe=>e▸a) λf=>YO a (h.1 z f)) (.cons h.1 h.2)
def Tr(l:Y1):(oP l).Pairwise (·<=·):=by
 induction l with|nil=>exact .nil|cons x r S=>exact N3 x _ S
def Ha(p:G.Perm l)(s:G.Pairwise (·<=·)):G=oP l:=
 List.Perm.eq_of_pairwise (λa b _ _ x y=>Int.le_antisymm x y) s (Tr l) (p.trans (Bd l).symm)
def HX{C:Prop}(e:fP (x::a)=some l)(k:∀i G,x=.int i->fP a=some G->l=i::G->C):C:=by
 induction x using V.casesOn with
 |int i=>
  have e:(match fP a with|some l=>some (i::l)|none=>none)=some l:=e
  generalize h:fP a=N;induction N with
  |none=>rw[h] at e;exact ns e
  |some G=>rw[h] at e;exact k i G rfl h (Wc e).symm
 |_=>exact ns e
def EN(e:fP d=some l)(r:aK X w d c):IntsAre c l:=by
 induction d generalizing l c with|nil=>exact Wc e▸r.eg (q:=λc=>IntsAre c []) .nil|cons x d S=>exact HX e λi G B f A=>A▸r.dK (q:=λc=>IntsAre c (i::G)) λv c a b=>(B▸a).dt (p:=λv=>IntsAre (v::c) (i::G)) λt=>.cons _ _ (S f b)
def AQ(h:IntsAre a l):aK X w (l.map .int) a:=by
 induction h with|nil=>exact .nil|cons _ _ _ S=>exact .cons .int S
def rn(h:IntsAre a l):a.length=l.length:=by
 induction h with|nil=>rfl|cons _ _ _ S=>exact Wd Nat.succ S
set_option backward.match.sparseCases true in
def K8{E:YV}(f:s.heap.IsTuple l a.toArray)
  (h:Q a {s with heap:=(s.heap.push (seqObj "list" #[] 0)).update (Zw s) (Obj.mapSeq (·++a.toArray))})(F:a.length<=sizeLine):
  wpAny (model prog w) A (collect (.ref l)) Q E s:=by
 obtain⟨o,c,L,n,T⟩:=id f;unfold collect;refine Wi (wpAny_runValue (Ys entry_proto_collect' ?_));refine Wi (Yh (Wo ⟨Code.quiet_builtin _ (by decide+kernel),Ys entry_list_iadd' ?_⟩))
 have b:(s.heap.push (seqObj "list" #[] 0)).get? l=some o:=Heap.get?_push_of_some _ c;refine(?_:wpAny _ _ (Builtin.List.listExtendWith (.ref (Zw s)) (.ref l) (.ref (Zw s))) _ _ {s with heap:=s.heap.push (seqObj "list" #[] 0)})
 unfold Builtin.List.listExtendWith;refine Wi (wpAny_typeOf ⟨o,b,L⟩ ?_);have V:(Value.type "tuple"==Value.type "tuple"):=by rfl
 rw[if_pos (by rw[V];simp)]
 refine Wi (listItems_at b T ?_);refine Wi (listItems_at (Heap.get?_push_size _ rfl) rfl ?_);rw[if_neg (by simp)]
 refine Wi (listUpdate_at (Heap.get?_push_size _ rfl) rfl ?_ (Ww _) (by show(#[]++a.toArray).size<=sizeLine+1;simp only [Array.size_append,WB,XG];lia))
 refine Wo ?_;show wpAny (model prog w) A (do
   let o<-load (Zw s)
   match o.data with
   |.seq O _=>pure O.toList
   |_=>unsupported "internal:collect") Q E {s with heap:=(s.heap.push (seqObj "list" #[] 0)).update (Zw s) (Obj.mapSeq (·++a.toArray))}
 refine Wi (wpAny_load (get?_update_seq (Heap.get?_push_size _ rfl) _) ?_);refine(?_:wpAny _ _ (pure ((#[]:Array Y3)++a.toArray).toList) Q E _);rw[show((#[]:Array Y3)++a.toArray).toList=a by simp]
 exact Wo h
def Tv{ns:Y1}{E:YV}
  (L:∀{c:YY->Y2},c a {s with heap:=(s.heap.push (seqObj "list" #[] 0)).update (Zw s) (Obj.mapSeq (·++a.toArray))}->wpAny (model prog w) A.in1 (collect x) c E s)(k:IntsAre a ns)(e:a.length<64)
  (h:∀(r:Array Y3)(b:Y1),IntsAre r.toList b->b.Perm ns->b.Pairwise (·<=·)->Q (.ref ((Zw s)+1)) {s with heap:=sortedAll s.heap a r}):
  wpAny (model prog w) A (call (.builtin "sorted") [x]) Q E s:=by
 refine Calls.call_function_entry kind_sorted plain_sorted entry_sorted (args_sorted1 _) ?_;unfold Builtin.«sorted»;refine Wi (Wo ?_);refine Wi (L ?_);refine Wi (Yh ?_ (by refine sizeLine_eq▸?_;lia))
 have F:((s.heap.push (seqObj "list" #[] 0)).update (Zw s) (Obj.mapSeq (·++a.toArray))).objs.size=(Zw s)+1:=by rw[Yj,size_push']
 have d:(((s.heap.push (seqObj "list" #[] 0)).update (Zw s) (Obj.mapSeq (·++a.toArray))).push (seqObj "list" a.toArray 0)).get? ((Zw s)+1)=some (seqObj "list" a.toArray 0):=by exact F▸Heap.get?_push_size _ rfl
 exact F▸Wi (Xo (XQ slot_list_sort ⟨_,d,rfl⟩ entry_list_sort (list_sort_tree d k e λr b f R T=>⟨_,rfl,(Wo ⟨_,rfl,h r b f R T⟩)⟩) (args_list_sort _)))
section
variable{c:cu}{X T:Z}{w B:aL}{x:Y3}
def z7(h:a<64):a<=b0:=Wh (WK h) (by decide)
def Hd(I:aP c X w)(F:aK c.X w f a)(i:a.length<64)(K:fP f=some l)
  (L:∀{A:Zb}{E:YV}{d:YY->Y2},d a {w.s with heap:=(w.s.heap.push (seqObj "list" #[] 0)).update (Zw w.s) (Obj.mapSeq (·++a.toArray))}->wpAny (Zt c) A (collect x) d E w.s):
  aR c (call (.builtin "sorted") [x] []) X w (dj g ((oP l).map .int) X).2 (dj g ((oP l).map .int) X).1:=λQ E q=>by
 have k:=EN K F;refine Tv L k i λr n h R T=>?_;have e:=Ha R T;subst e;exact(sortedAll_at w.s.heap a r).elim λe H=>(tH I (.all I λb o e=>sortedAll_old e) (Heap.get?_none_of_le (WH _)) ⟨e,H⟩ (by exact(rn h)▸((Bd l).length_eq)▸(rn k)▸z7 i) (AQ h) g).elim λB z=>by have y:=q B _ z.2.1 z.2.2;rw[z.1] at y;exact y
def E5(G:YT):(ib G).length=G.length:=by
 induction G with|nil=>rfl|cons x r S=>exact Wd Nat.succ S
def Ox{O:List (Int×Y3)}(r:b2 c.X w a (O.map λp=>(aE.i p.1,p.2)))(e:fP (ib a)=some l):l=O.map (·.1):=by
 induction a generalizing O l with
 |nil=>induction O with
  |nil=>exact(Wc e).symm
  |cons=>cases r
 |cons p a S=>induction O with
  |nil=>cases r
  |cons y O=>cases r with
   |cons m E=>refine HX e λi G B f A=>?_;have B:y.1=i:=Wd (λ|V.int i=>i|_=>0) B;exact A▸(S E f)▸WS▸B▸rfl
def N6{O:List (Int×Y3)}(e:f.length=O.length)(A:∀(b:Nat)(a:Y3),f[b]?=some a->∃d x,O[b]?=some (d,x)/\(intKind c.X.prog c.X.w).is d a):IntsAre f (O.map (·.1)):=by
 induction f generalizing O with
 |nil=>induction O with
  |nil=>exact .nil
  |cons=>nomatch e
 |cons a f S=>induction O with
  |nil=>nomatch e
  |cons p O=>
   refine(A 0 a rfl).elim λd h=>h.elim λx h=>?_;have g:=Wc h.1;have N:=h.2;subst g;induction a with|int i t=>exact(beq_iff_eq.mp N:i=d)▸.cons _ _ (S (XC e) λb a P=>A (b+1) a P)|_=>exact bb N
def Tt(I:aP c X w)(V:c.A.handled=none)(a':(d==sysModules)=false)(i:ew c.X w .I d f)(K:b2 c.X w a f)(A:(ib a).length<64)(M:fP (ib a)=some l):
  aR c (call (.builtin "sorted") [.ref d] []) X w (dj g ((oP l).map .int) X).2 (dj g ((oP l).map .int) X).1:=λQ E q=>i.elim λxs i=>i.1.dictAt.elim λc' O=>I.aM.elim λm F=>by
 have J:xs.length=(ib a).length:=by rw[E5,K.length,i.2,WG]
 refine kdu_sorted (kdl_dict a') V F jh O (by refine J▸?_;exact jy _ (z7 A)) λD P e2 h S k Z C W=>?_
 have v:=(Ox (i.2▸K) M)▸N6 C W;have L:=k _ (.head _);have Y:gu c.f.L w.h P:=.AE F S k λp X=>.tail _ X;have u:w.h.get? D=none:=by
  generalize e:w.h.get? D=cK;induction cK with|none=>rfl|some o=>exact absurd (Z _ (jg.mpr ⟨e,L.2.1,L.2.2⟩)) (Xu _)
 have H:h.length<64:=by exact C▸J▸A
 refine XQ slot_list_sort ⟨_,L.1,rfl⟩ entry_list_sort (list_sort_tree L.1 v H λr ns' s R T=>⟨_,rfl,?_⟩) (args_list_sort _);have e:=Ha R T;subst e;have j:∀b o,b≠D->P.get? b=some o->(sortedHeap P D h r).get? b=some o:=λb o n e=>by exact(sortedHeap_old n (WO e))▸e
 have t:∀m,Fr c.f.g c.f.L P m->Fr c.f.g c.f.L (sortedHeap P D h r) m:=λm S=>⟨S.ns.at' λo e=>j _ o (Ne.symm L.2.1) e,λb o e=>j b o (λz=>cj (z▸e) L.2.2) (S.keep b o e),S.above⟩;have N:ir c w (sortedHeap P D h r):=⟨λe1 G=>kT F.ns G.ns▸t m S,⟨λb o n e=>j b o (λz=>cj (z▸e) u) (Y.keep b o n e),(t m S).ns.elim λo x=>x.elim λ_ x=>x.elim λ_ x=>⟨o,x.1⟩⟩⟩;exact(sortedHeap_at L.1).elim λe U=>(tH I N u ⟨e,U⟩ (by exact(rn s)▸((Bd l).length_eq)▸(rn v)▸z7 H) (AQ s) g).elim λB z=>by have y:=q B _ z.2.1 z.2.2;rw[z.1] at y;exact y
end
def Pe{E:YV}(d:s.heap.get? a=some (seqObj "list" #[b] c))
  (h:Q (.done (.ret .none)) {s with heap:=sortedHeap s.heap a [b] #[b]}):wpAny (model prog w) A (Builtin.«list.sort» ⟨[.ref a],[]⟩) Q E s:=by
 rw[list_sort_plain];have e:a<(Zw s):=WO d;refine Wi (listItems_at d rfl ?_);refine Wi (listUpdate_at d rfl ?_);obtain⟨O,f⟩:∃O,(s.heap.update a (Obj.mapSeq λ_=>#[])).get? a=some (seqObj "list" #[] O):=⟨_,get?_update_seq d λ_=>#[]⟩;refine Wi (seqEpoch_at f rfl ?_);refine Wi (wpAny_newTuple ?_);refine Wi (Yh ?_);refine Xo ?_;have g:(((s.heap.update a (Obj.mapSeq λ_=>#[])).push (seqObj "tuple" [b].toArray 0)).push (seqObj "list" #[] 0)).get? a=some (seqObj "list" #[] O):=by
  rw[Heap.get?_push_ne _ _ _ (by rw[size_push',Yj];exact Wv (WW e)),Heap.get?_push_ne _ _ _ (by rw[Yj];exact Wv e)]
  exact f
 refine(?_:wpAny (model prog w) A _ Q E {s with heap:=((s.heap.update a (Obj.mapSeq λ_=>#[])).push (seqObj "tuple" [b].toArray 0)).push (seqObj "list" #[] 0)})
 dsimp only;have N:(#[b]:Array Y3).size<2:=by simp
 rw[if_pos N,if_pos N];refine Wi (Wo ?_);rw[StateT.run_pure];refine Wi (Wo ?_);dsimp only;refine Wi (seqEpoch_at g rfl ?_);refine Wi (listUpdate_at g rfl ?_ (hsz2:=by rw[Array.size_map];show(pairsOf [b]).size<=_;rw[pairsOf_size,sizeLine_eq,Ym];decide))
 simp only [bne_self_eq_false,Bool.false_eq_true,if_false]
 have p:Array.map (λx=>x.2) (arrOf (SortSt.mk' general' (#[b].zip #[b]) #[] 7 none))=#[b]:=by refine(?_:Array.map (λx=>x.2) (#[b].zip #[b])=#[b]);simp
 rw[p];exact Wo h
def Tw{E:YV}(f:s.heap.IsList l [a].toArray)(h:Q (.ref ((Zw s)+1)) {s with heap:=sortedAll s.heap [a] #[a]}):
  wpAny (model prog w) A (call (.builtin "sorted") [.ref l]) Q E s:=by
 refine Calls.call_function_entry kind_sorted plain_sorted entry_sorted (args_sorted1 _) ?_;unfold Builtin.«sorted»;refine Wi (m:=checkCount "sorted" 1 1 _) (Wo ?_);refine Wi (collect_list f ?_ (by refine Ym▸?_;decide))
 refine Wi (Yh ?_ (by refine Ym▸?_;decide))
 have F:((s.heap.push (seqObj "list" #[] 0)).update (Zw s) (Obj.mapSeq (·++[a].toArray))).objs.size=(Zw s)+1:=by rw[Yj,size_push']
 have b:(((s.heap.push (seqObj "list" #[] 0)).update (Zw s) (Obj.mapSeq (·++[a].toArray))).push (seqObj "list" [a].toArray 0)).get? ((Zw s)+1)=some (seqObj "list" [a].toArray 0):=by exact F▸Heap.get?_push_size _ rfl
 exact F▸Wi (Xo (XQ slot_list_sort ⟨_,b,rfl⟩ entry_list_sort (Pe b ⟨_,rfl,(Wo ⟨_,rfl,h⟩)⟩) (args_list_sort _)))
def Om{d:Nat->Nat->(Bool->Y2)->Y2}(k:∀i B b X,aw i B=some b->X b s->d i B X s)(t:KasT α):∀{a:α},kM aw t=some a->Q a s->t.kasWp d Q s:=by
 induction t with
 |ret x=>exactλe q=>b6 (p:=λa=>Q a s->(KasT.ret x).kasWp d Q s) e (λq=>q) q
 |ask i B c S=>
  intro a e q;unfold kM at e;generalize G:aw i B=N;induction N with|none=>rw[G] at e;exact ns e|some b=>rw[G] at e;exact k i B b _ G (S b e q)
def Oq:∀{f:YU}{c d:YY}{i:Nat}{r:Bool},qw qv g f=some r->aK X w g c->aK X w f d->Q r w.s->KatLex X.prog X.w A b (decide (c.length<d.length)) Q (c.zip d) i w.s:=by
 induction g with
 |nil=>
  intro f c d i r e j h q;refine j.eg (q:=λc=>KatLex X.prog X.w A b (decide (c.length<d.length)) Q (c.zip d) i w.s) ?_;induction f with
  |nil=>exact h.eg (q:=λd=>KatLex X.prog X.w A b (decide (([]:YY).length<d.length)) Q ([].zip d) i w.s) (kat_nil (b6 (p:=λr=>Q r w.s->Q false w.s) e id q))
  |cons y f=>exact h.dK (q:=λd=>KatLex X.prog X.w A b (decide (([]:YY).length<d.length)) Q ([].zip d) i w.s) λv d _ _=>kat_nil (by show Q (decide (0<d.length+1)) w.s;exact(decide_eq_true (Nat.zero_lt_succ _))▸b6 (p:=λr=>Q r w.s->Q true w.s) e id q)
 |cons x g S=>
  intro f c d i r e j h q;refine j.dK (q:=λc=>KatLex X.prog X.w A b (decide (c.length<d.length)) Q (c.zip d) i w.s) λv c m E=>?_;induction f with
  |nil=>exact h.eg (q:=λd=>KatLex X.prog X.w A b (decide ((v::c).length<d.length)) Q ((v::c).zip d) i w.s) (kat_nil (b6 (p:=λr=>Q r w.s->Q false w.s) e id q))
  |cons y f=>
   refine h.dK (q:=λd=>KatLex X.prog X.w A b (decide ((v::c).length<d.length)) Q ((v::c).zip d) i w.s) λu d l n=>?_;refine(show decide ((v::c).length<(u::d).length)=decide (c.length<d.length) from by rw[WL,WL,W7,decide_eq_true_iff,decide_eq_true_iff];exact Nat.succ_lt_succ_iff)▸?_
   have e:(match iM x y with|some true=>qw qv g f|some false=>qv x y|none=>none)=some r:=e
   generalize aD:iM x y=N;induction N with
   |none=>rw[aD] at e;exact ns e
   |some t=>
    rw[aD] at e;induction t with
    |true=>exact kat_cons (BC (A:=A) aD m l X.prog X.w _ _ (kat_yes (S e E n q)))
    |false=>
     refine kat_cons (BC (A:=A) aD m l X.prog X.w _ _ (kat_no ?_));refine aA e λa I e=>aA e λR s e=>?_;refine((hE I▸m).dt (p:=λv=>∃t,v=Value.int a t) λt=>⟨t,rfl⟩).elim λK P=>?_;refine((hE s▸l).dt (p:=λv=>∃t,v=Value.int R t) λt=>⟨t,rfl⟩).elim λo k=>?_;refine P▸k▸?_;have q:Q (decide (a<R)) w.s:=tj a R▸b6 (p:=λr=>Q r w.s->Q (gf a R) w.s) e id q;generalize G:(b&&i==0)=N;induction N with|true=>exact oneLt_int q|false=>exact kat_one _ _ (PyProof.Rows.lt_int (Q:=PySem.W.BoolBack Q) q)
def zB(h:tf x)(r:o X w x c):∃d,x=.ay d/\∃a b,c=.ref a/\w.h.IsTuple a b.toArray/\aK X w d b/\∃i t l,b=.int i t::l:=by
 induction x using V.casesOn with
 |ay d=>induction d with
  |nil=>exact bb h
  |cons y l=>induction y using V.casesOn with
   |int i=>exact⟨_,rfl,r.gp (p:=λc=>∃a b,c=.ref a/\w.h.IsTuple a b.toArray/\aK X w _ b/\∃i t l,b=.int i t::l) λa b _ e _ Q=>⟨a,b,rfl,e,Q,Q.dK (q:=λb=>∃i t l,b=.int i t::l) λc l m _=>m.dt (p:=λc=>∃i t G,c::l=.int i t::G) λt=>⟨i,t,l,rfl⟩⟩⟩
   |_=>exact bb h
 |_=>exact bb h
def Ot(e:d.all tf)(r:aK X w d b):∃P,KatTups w.h b P/\P.length=b.length/\∀c∈P,∃i t,c=.int i t:=by
 induction d generalizing b with|nil=>exact r.eg (q:=λb=>∃P,KatTups w.h b P/\P.length=b.length/\∀c∈P,∃i t,c=.int i t) ⟨[],trivial,rfl,λ_ B=>es B⟩|cons x d S=>rw[Xz] at e;exact r.dK (q:=λb=>∃P,KatTups w.h b P/\P.length=b.length/\∀c∈P,∃i t,c=.int i t) λc b m E=>(S (ar e) E).elim λP k=>(zB (aN e) m).elim λf z=>z.2.elim λa z=>z.elim λl z=>z.2.2.2.elim λi y=>y.elim λt y=>y.elim λG y=>z.2.1.elim λo s=>s.2.2.elim λn T=>by exact z.1▸⟨.int i t::P,.cons s.1 s.2.1 T (by refine y▸?_;rfl) k.1,Wd Nat.succ k.2.1,λc A=>(Wz.mp A).elim (λe=>⟨i,t,e⟩) (k.2.2 c)⟩
def Rz(r:aK X w b c):∀{a:YU},t6 b l=some a->aK X w a (l.map λi=>c.getD i Value.none):=by
 induction l with|nil=>exactλe=>b6 (p:=λa=>aK X w a []) e .nil|cons i l S=>exactλe=>aA e λx d e=>aA e λf h e=>b6 (p:=λa=>aK X w a _) e (by exact(r.lM (tT b i▸d)).elim λv z=>by exact WS▸(List.getD_eq_getElem?_getD)▸z.1▸.cons z.2 (S h))
def Tu(I:aP c d w)(J:w.h.PlainList a l.toArray)(s:aK c.X w h l)(hj:l.length<64)(P:h.all tf)(hne:h≠[])(G:Be h=some f)(hf:eA f):
  aR c (call (.builtin "sorted") [.ref a] []) d w (dj g f d).2 (dj g f d).1:=by
 have ek:2<=l.length->Y (kM (λi j=>Y (a3 h i) λx=>Y (a3 h j) λy=>oS x y) (kas_sort (VN h))) (λp=>t6 h p.toList)=some f->aR c (call (.builtin "sorted") [.ref a] []) d w (dj g f d).2 (dj g f d).1:=λH G Q E q=>aA G λp Z G=>I.aM.elim λm F=>by
  rw[dO,s.length] at Z;refine kat_sorted F jh J.isList H hj λD e1 S V W lt=>?_;have N:ir c w S:=.jv F V W λp d=>.tail _ d;have T:aT c d w d (w.ab S w.s.toks):=.gS I N.gS N.aM ⟨_,_,rfl⟩;have R:=s.ext (I.ext T);refine(Ot P R).elim λfs k=>?_;refine kat_kind (s:=(w.ab S w.s.toks).s) (T:=.type "int") k.1 (Wg (Nat.zero_lt_succ 1) (k.2.1▸H)) (λv K=>(k.2.2 v K).elim λi y=>y.elim λt y=>y▸Looks.of_pure rfl) rfl ?_;refine Om (λi j b C n hi=>aA n λx L n=>aA n λy M n=>?_) _ Z ?_
  .rw[tT] at L M
   refine(R.lM L).elim λv K=>(R.lM M).elim λu a'=>?_;unfold kas_ask;rw[List.getD_eq_getElem?_getD,List.getD_eq_getElem?_getD,K.1,a'.1];refine(zB (Wn.mp P x (List.mem_of_getElem? L)) K.2).elim λus z=>(zB (Wn.mp P y (List.mem_of_getElem? M)) a'.2).elim λus' fi=>z.2.elim λa1 A=>A.elim λvs1 A=>fi.2.elim λa2 B=>B.elim λvs2 B=>A.2.1.elim λkz t1=>t1.2.2.elim λkd fv=>B.2.1.elim λk0 e2=>e2.2.2.elim λkk f'=>?_;rw[A.1,B.1];refine kat_lt t1.1 fv e2.1 f' ?_;rw[z.1,fi.1] at n;have q:=Oq (A:=c.A.in1.in1) (w:=w.ab S w.s.toks) (b:=(Value.type "int" != Value.type "tuple")) (Q:=C) (i:=0) (r:=b) n A.2.2.1 B.2.2.1 hi
   simpa using q
  .refine KasFin.intro V W (.head λp d=>Wv (lt p d)) λH c' fl X=>?_
   have O:=X _ (.head _);have fp:ir c w H:=.jv F fl X λp d=>.tail _ d;have hDn:w.h.get? D=none:=by
    generalize e:w.h.get? D=h1;induction h1 with|none=>rfl|some o=>exact absurd (lt _ (jg.mpr ⟨e,O.2.1,O.2.2⟩)) (Xu _)
   have cK:=Rz s G;exact(tH I fp hDn ⟨c',O.1⟩ (by exact cK.length▸WK (pH hf)) cK g).elim λU z=>by have y:=q U _ z.2.1 z.2.2;rw[z.1] at y;exact y
 induction h with
 |nil=>exact absurd rfl hne
 |cons x r=>induction r with|nil=>exact b6 (p:=λf=>aR c _ d w (dj g f d).2 (dj g f d).1) G (s.hP (q:=λl=>w.h.PlainList a l.toArray->aR c _ d w (dj g [x] d).2 (dj g [x] d).1) (λv hF J Q E q=>Tw J.isList ((sortedAll_at w.s.heap [v] #[v]).elim λe he=>(tH (t:=w.s.toks) I (.all I λb o e=>sortedAll_old e) (Heap.get?_none_of_le (WH _)) (d:=[v]) ⟨e,he⟩ (Wb rfl) (.cons hF .nil) g).elim λU z=>by have y:=q U _ z.2.1 z.2.2;rw[z.1] at y;exact y)) J)|cons y r=>exact ek (by exact s.length▸WC (WC (Ww _))) G
section
variable{c:cu}{k n:Nat}{X:YS}{R Q:Z}{w B:aL}{P v:V}{O:Y3}{g:Bool}
def TF(I:aP c R w)(e:nB d g R=some (P,Q))(f:w.h.PlainList a b.toArray)(X:b.length<=b0)(F:aK c.X w d b):aR c (call (.builtin "sorted") [.ref a] []) R w Q P:=bR e λk e=>by
 have k:=fT k;rw[dO,F.length] at k;have e:=e;generalize A:fP d=N;induction N with|some l=>rw[A] at e;exact bz (p:=λP Q=>aR c _ R w Q P) e (Hd I F k A λq=>collect_list f.isList q (jy _ X))|none=>rw[A] at e;exact bR e λT e=>aA e λE n e=>bR e λh e=>bz (p:=λP Q=>aR c _ R w Q P) e (Tu I f F k T (λz=>by rw[z] at A;exact Qo A) n h)
def Oy{O:List (Int×Y3)}(r:b2 c.X w T (O.map λp=>(aE.i p.1,p.2))):∃l,fP (ib T)=some l:=by
 induction T generalizing O with
 |nil=>exact⟨[],rfl⟩
 |cons p T S=>induction O with
  |nil=>cases r
  |cons y O=>cases r with
   |cons m E=>
    refine(S E).elim λl e=>⟨y.1::l,?_⟩;refine(?_:(match fP (ib T)with|some l=>some (y.1::l)|none=>none)=_)
    exact e▸rfl
def wb(h:n<=b0):((n:Nat):Int)<2 ^ 63:=Int.lt_of_le_of_lt (Int.ofNat_le.mpr h) (by decide)
def TZ:∀{a r:Int},rY b a=some r->∃l,fP b=some l/\r=a+preSum (λi=>l.getD i 0) l.length:=by
 induction b with
 |nil=>exactλe=>b6 (p:=λr=>∃l,fP []=some l/\r=_+preSum (λi=>l.getD i 0) l.length) e ⟨[],rfl,(YQ _).symm⟩
 |cons x b S=>
  intro a r h;induction x using V.casesOn with
  |int i=>exact(S (h:rY b (a+i)=some r)).elim λl z=>⟨i::l,by
   refine(?_:(match fP b with|some l=>some (i::l)|none=>none)=_)
   rw[z.1],by
   rw[WL,PySem.W.kdu_shift,z.2];rw[Int.add_assoc];rfl⟩
  |_=>exact ns h
def N5(h:IntsAre a l):∀(i:Nat)(v:Y3),a[i]?=some v->∃t,v=Value.int (l.getD i 0) t:=by
 induction h with
 |nil=>exactλi v e=>ns e
 |cons n t _ S=>exactλi v e=>match i,e with
  |0,e=>⟨t,(Wc e).symm⟩
  |i+1,e=>S i v e
def T2(I:aP c R w)(N:c.A.handled=none)(e:d4 v R=some d)(g:rY d 0=some r)(p:o c.X w v O):aR c (call (.builtin "sum") [O] []) R w R (.int r):=
 mZ (p:=λO=>aR c (call (.builtin "sum") [O] []) R w R (.int r)) I.aH e p λa D f X F=>(TZ g).elim λl z Q E q=>by
  have k:=EN z.1 F;refine call_sum_walkG (YJ f.isList ?_);have m:=f.elim λH s=>WO s;refine⟨(Zw w.s),_,_,_,_,_,λi=>l.getD i 0,rfl,Walks.list (A:=c.A.in1) N (Zw w.s) a (Wv m) D.toArray,⟨⟨_,Heap.get?_push_size _ rfl,rfl,rfl⟩,f.isList.push _⟩,λb G=>?_,λi v A=>N5 k i v (by rw[List.getElem?_toArray] at A;exact A),λS n t h=>?_⟩
  .rw[Yd]
   exact(Wz.mp G).elim (λe=>e▸Wu _) λG=>(Wz.mp G).elim (λe=>e▸WW m) λz=>es z
  .have j:c3 w.s.heap S:=λb H e=>h b H (λz=>(Wz.mp z).elim (λz=>absurd (WO e) (z▸Xu _)) λz=>es z) (Heap.get?_push_of_some _ e)
   have P:preSum (λi=>l.getD i 0) D.toArray.size=r:=by rw[z.2,WB,rn k,Int.zero_add]
   rw[P];exact q (w.ab S n) _ (.all I j) .int
def UK(I:aP c R w)(e:d4 v R=some d)(p:o c.X w v O):aR c (call (.type "tuple") [O] []) R w R (.ay d):=
 mZ (p:=λO=>aR c (call (.type "tuple") [O] []) R w R (.ay d)) I.aH e p λa D g X F=>bP.zU I X F λQ E k=>call_tuple_list g.isList (λP f=>k _ w.s.toks _ (.all I λb H e=>Heap.get?_push_of_some _ (f b H e)) (by
  generalize e:w.s.heap.get? P.objs.size=N;induction N with|none=>rfl|some H=>exact absurd (WO (f _ _ e)) (Xu _)) (EW _ _)) (mc X)
def Pb(I:aP c R w)(e:d4 v R=some b)(p:o c.X w v O):aR c (call (.type "list") [O] []) R w (dj g b R).2 (dj g b R).1:=
 mZ (p:=λO=>aR c (call (.type "list") [O] []) R w (dj g b R).2 (dj g b R).1) I.aH e p λa D f X F=>f.elim λh f=>bP.tv I X F g λQ E k=>call_list_seq a (.inl rfl) f rfl rfl (λP c d L=>k _ w.s.toks _ (.all I d) (hl _) ⟨c,L⟩) (mc X)
def ye:Prop:=∀(c:cu)(R:Z)(w:aL)(k:eS)(v:V)(O:Y3)(l:YU)(d:YT),tR k->hX c.X c.f->d5 c.f c.A 0->aP c R w->d4 v R=some l->kV k l []=some d->o c.X w v O->
 aR c (call (.type "dict") [O] []) R w (R.new (.ah k d 0)) (.ref R.n)
def JV(K:ye)(X:hX c.X c.f)(H:d5 c.f c.A 0)(I:aP c R w)(e:VY g b f R=some (P,Q))(r:aK c.X w f x):aR c (call (qL b) x []) R w Q P:=by
 refine aA e λv aD e=>(qa aD▸r).hP (q:=λx=>aR c (call (qL b) x []) R w Q P) λO p=>?_;induction b with
 |len=>exact(by
   refine aA e λB F e=>(kx I.aH F p).elim λa h=>?_;refine h.1▸?_;have h:=h.2;induction B with
   |L o=>exact bz (p:=λP Q=>aR c _ R w Q P) e (h.elim λf h=>aR.toks I λj E q=>call_len_list h.1.isList (by rw[WB];exact wb h.2.1) (by rw[WB,<-h.2.2.length,<-dO];exact q _ _ .int))
   |T o=>exact bz (p:=λP Q=>aR c _ R w Q P) e (h.elim λf h=>aR.toks I λj E q=>PyProof.Rows.len_tuple h.1 (by rw[WB];exact wb h.2.1) (by rw[WB,<-h.2.2.length,<-dO];exact q _ _ .int))
   |D y Y=>
    refine bR e λ_ e=>bR e λu e=>bz (p:=λP Q=>aR c _ R w Q P) e (h.2.elim λG N=>aR.toks I λj E q=>?_);have S:∀{m:Nat},m=G.length->(m:Int)<2 ^ 63/\∀t C,j (.int (Int.ofNat m) t) (w.a8 C).s:=λ{m} J=>⟨wb (J▸N.2.1),λt C=>q _ _ (by rw[dO,N.2.2.length,<-J];exact .int)⟩
    induction y with
    |I=>exact N.1.elim λo d=>have z:=S (by rw[d.2,WG]);call_len_dict h.1 d.1 z.1 (z.2 _ _)
    |S=>exact N.1.elim λo d=>have z:=S (by rw[d.2,WG]);call_len_dict h.1 d.1 z.1 (z.2 _ _)
    |T=>exact bb u)
 |rX=>exact aA e λl A e=>aA e λs G e=>bz (p:=λP Q=>aR c _ R w Q P) e (T2 I H.bC A G p)
 |sorted=>exact(by
   refine aA e λB F e=>(kx I.aH F p).elim λa h=>?_;refine h.1▸?_;have h:=h.2;induction B with
   |L o=>exact h.elim λf h=>TF I e h.1 h.2.1 h.2.2
   |T o=>refine aA e λl A e=>bR e λk e=>h.elim λf h=>?_;have k:=fT k;rw[dO,h.2.2.length] at k;rw[A] at e;exact bz (p:=λP Q=>aR c _ R w Q P) e (Hd I h.2.2 k A λq=>K8 h.1 q (jy _ h.2.1))
   |D y Y=>
    refine bR e λ_ M=>bR M λu T=>bR T λk D=>h.2.elim λG N=>?_;induction y with
    |I=>have k:=fT k;rw[dO] at k;refine N.1.elim λo d=>(Oy (d.2▸N.2.2)).elim λl A=>?_;rw[A] at D;exact bz (p:=λP Q=>aR c _ R w Q P) D (Tt I H.bC h.1 N.1 N.2.2 k A)
    |_=>exact bb u)
 |abs=>
  refine aA e λi W e=>bz (p:=λP Q=>aR c _ R w Q P) e ((hE W▸p).dt (p:=λO=>aR c (call (.builtin "abs") [O] []) R w R _) λt=>aR.toks I λj E q=>call_abs_int λZ C=>?_);have z:(if i<0 then -i else i)=Int.ofNat i.natAbs:=by
   induction i with|ofNat n=>exact if_neg (YM.mpr (W4 n))|negSucc n=>exact if_pos (Xh n)
  exact z▸q _ _ .int
 |int=>
  induction v using V.casesOn with
  |int i=>exact bz (p:=λP Q=>aR c _ R w Q P) e (p.dt (p:=λO=>aR c (call (.type "int") [O] []) R w R _) λt=>aR.toks I λj E q=>call_int_int (q _ w.s.toks .int))
  |bool L=>exact bz (p:=λP Q=>aR c _ R w Q P) e (p.kq (p:=λO=>aR c (call (.type "int") [O] []) R w R _) (aR.toks I λj E q=>call_int_bool (by induction L<;>exact q _ _ .int)))
  |_=>exact ns e
 |str=>exact ns e
 |tuple=>exact aA e λl A e=>bz (p:=λP Q=>aR c _ R w Q P) e (UK I A p)
 |list=>exact aA e λl A e=>bz (p:=λP Q=>aR c _ R w Q P) e (Pb I A p)
 |dict y=>exact bR e λu e=>aA e λl A e=>aA e λd U e=>bz (p:=λP Q=>aR c _ R w Q P) e (K c R w y v O l d u X H I A U p)
def JT(b:qA):qK b∈qN/\bootBuiltins (qK b)=some (qL b)/\(qK b==("__debug__":Y'))=false/\qK b≠"__name__":=by induction b<;>first|exact⟨by decide+kernel,by decide+kernel,by decide+kernel,by decide+kernel⟩|(rename_i k;induction k<;>exact⟨by decide+kernel,by decide+kernel,by decide+kernel,by decide+kernel⟩)
def JU(b:qA)(e:List (Bool×Sem Y3))(Q:YV)(E:YV)(f:e.any (·.1)=false)
  (h:wpAny (Zt c) A (evalArgs (qL b) true e []) (λa d=>c.X.K.In d.heap/\wpAny (Zt c) A (call (qL b) (first++a.pos) a.kw) Q E d) E s):wpAny (Zt c) A (callWith pos (qL b) first e []) Q E s:=by
 induction b with|int=>exact ub e Q E f h|str=>exact ub e Q E f h|tuple=>exact ub e Q E f h|list=>exact ub e Q E f h|dict=>exact ub e Q E f h|_=>exact AZ e Q E f h
def Ig(f:ye)(m:∀e,bT n e):bT (n+1) (.bq g b G):=λc X R v Q k x w e o C=>bK e λD P O e=>by have B:=JT b;have F:=ar (ar o);exact bP.d9 C.ag (yF C (n9 (aN o)) B.1 B.2.1 B.2.2.1 B.2.2.2) (λS L l a=>a▸sj m O (ar F) (aN F) (C.aW.aF l) (JU b) λs t h p=>JV f C.aM (C.dJ.ju (Ww _)) ((C.ag.aF l).aF h) e p) λd E=>XO
end
def wz(h:a≠b):Nat.beq a b=false:=by
 generalize z:Nat.beq a b=N;induction N with|false=>rfl|true=>exact absurd (We z) h
def pY(l:List (Nat×α)):au (VO l a x) a=some x:=by
 induction l with
 |nil=>show(match Nat.beq a a with|true=>some x|false=>none)=_;rw[WA]
 |cons p r S=>
  show au (match Nat.beq p.1 a with|true=>(p.1,x)::r|false=>(p.1,p.2)::VO r a x) a=_
  generalize h:Nat.beq p.1 a=N;induction N with
  |true=>show(match Nat.beq p.1 a with|true=>some x|false=>au r a)=_;exact h▸rfl
  |false=>show(match Nat.beq p.1 a with|true=>some p.2|false=>au (VO r a x) a)=_;exact h▸S
def m1(n:a≠b)(l:List (Nat×α)):au (VO l a x) b=au l b:=by
 induction l with
 |nil=>show(match Nat.beq a b with|true=>some x|false=>none)=_;refine(wz n)▸?_;rfl
 |cons p r S=>
  show au (match Nat.beq p.1 a with|true=>(p.1,x)::r|false=>(p.1,p.2)::VO r a x) b=(match Nat.beq p.1 b with|true=>some p.2|false=>au r b)
  generalize h:Nat.beq p.1 a=N;induction N with
  |true=>show(match Nat.beq p.1 b with|true=>some x|false=>au r b)=_;exact(We h)▸(wz n)▸rfl
  |false=>show(match Nat.beq p.1 b with|true=>some p.2|false=>au (VO r a x) b)=_;exact S▸rfl
def FT(h:l0 a x):a x=some .local\/a x=some .cell:=by
 have h:(match a x with|some .local=>true|some .cell=>true|_=>false)=true:=h
 generalize q:a x=N;induction N with
 |none=>have h:=q▸h;exact bb h
 |some z=>have h:=q▸h;induction z<;>first|exact .inl rfl|exact .inr rfl|exact bb h
section
variable{c:cu}{k n q:Nat}{A i G:YS}{X T:Z}{w B P s:aL}{x:V}
structure g'(c:cu)(X:Z)(w:aL)(A:YS)(g:Y4->Prop)(B:aL):Prop where
 b7:cO c X w X B
 j:cG X w X B g
 aM:c.af.locals≠c.f.L->∀m,Fr c.f.g c.f.L w.h m->Fr c.f.g c.f.L B.h m
 dc:fG c.X B c.af A
def g'.trans(o:aP c X w)(j:g' c X w i Ey P)(b:g' c X P G Ey s):g' c X w G Ey s:=⟨j.b7.trans o b.b7,j.j.trans o.aH b.j,λC u J=>b.aM C u (j.aM C u J),b.dc⟩
def bJ.stored(C:bJ c k A X w)(j:g' c X w i Ey P):bJ c k i X P:=⟨C.ok,C.aM,C.dJ,C.bU,C.ag.b7 j.b7,j.dc⟩
def aP.qb(u:aP c X w)(o:Y4)(j:hb c.f o):cY o X w:=j.elim (λj=>j▸u.own) λj=>(u.dy o j).2.2.1
def cO.a5(C:aP c X w)(Y:hb c.f c')(ax:Heap.SameBut c' w.h h')(V:∃a',h'.get? c'=some a')(cK:∃f',Fr c.f.g c.f.L h' f'):cO c X w X (w.ab h' t)/\(Ey c'->cG X w X (w.ab h' t) Ey):=by
 have M:∀j a',j≠c'->w.h.get? j=some a'->h'.get? j=some a':=λj a' n o=>(ax.2 j n).trans o;have W:∀j a',w.h.get? j=some a'->∃Z,h'.get? j=some Z:=λj a' o=>by
  by_cases u:j=c'
  .exact u▸V
  .exact⟨a',M j a' u o⟩
 have O:=C.qb c' Y;have E:cM w (w.ab h' t):=⟨λ_ x=>x,λ_ _ x=>x,λj a' J o=>M j a' (λu=>O.a0 (u▸J)) o⟩;have S:∀Ey:Y4->Prop,Ey c'->cG X w X (w.ab h' t) Ey:=λEy fi=>⟨λ_ x=>x,λ_ _ x=>x,λ_ _ _=>rfl,λj a' o u _=>M j a' (λq=>u (q▸fi)) o,W,λU e2=>.inl ⟨e2,rfl⟩,λU a' Z o e1=>Wd bc (Wc (Eq.trans (Eq.symm e1) o)),Wr _,λc' J=>.inl J⟩;exact⟨⟨⟨λU a' o=>(C.aH.slot U a' o).ext E rfl λx V=>M _ x (λu=>O.aX U ⟨a',o⟩ u) V,C.aH.inj,λj J=>(C.aH.bI j J).imp (λo=>o.elim (W j)) id,C.aH.gK⟩,S _ Y,cK,⟨_,_,rfl⟩⟩,S _⟩
def fG.a5(W:lp c')(V:fG c' w af A)(E:cM w B)(Z:o c' w x h')(J:ff af B.h (c'.az q) h')(U:∀a' f',a'≠c'.az q->ff af w.h a' f'->ff af B.h a' f')(ns:∃w',B.h.Ns af.locals w')(M:∀a' s',a'≠eU->af.cells.lookup a'=some s'->∃h',B.h.IsCell s' h'):fG c' B af (VO A q x):=by
 refine⟨λC f' Y j=>?_,ns,M⟩
 by_cases u:q=C
 .rw[<-u,pY] at j
  exact⟨h',u▸J,Wc j▸Z.ext E⟩
 .rw[m1 u] at j
  exact(V.get C f' Y j).elim λcK a'=>⟨cK,U _ _ (λj=>u (W.inj _ _ j).symm) a'.1,a'.2.ext E⟩
def Fr.Ck(u:Fr c.f.g c.f.L w.h c')(n:a'≠c.f.L)(J:c.f.g.get? a'=none)(ax:Heap.SameBut a' w.h h'):Fr c.f.g c.f.L h' c':=
 ⟨u.ns.at' λo j=>(ax.2 _ (Ne.symm n)).trans j,λC o j=>(ax.2 C λM=>cj (M▸j) J).trans (u.keep C o j),u.above⟩
def uo(C:bJ c k A X w)(cK:g c.af.locals)(a':∀a,c.af.cells.lookup (c.X.az q)=some a->g a)(Y:l0 c.af.kindOf (c.X.az q))(p:o c.X w x d){E:YV}(K:∀B,g' c X w (VO A q x) g B->Q () B.s):
  Zs c (storeName c.af (c.X.az q) d) Q E w.s:=by
 have W:=C.ok.az;have R:(c.af.scope.kind==.class||(c.af.scope.kind==.module&&c.af.locals != c.af.globals))=false:=by refine C.bU.kind▸?_;rfl
 refine(FT Y).elim (λJ=>C.dc.ns.elim λc' M=>wpAny_storeName_local J M (λS s ax=>?_) R) λL=>(C.bU.has _ L).elim λj f=>(C.dc.cell _ _ (W.eU q) f).elim λv₀ Z=>wpAny_storeName_cell C.bU.kind L f Z λS N ax=>?_
 .have V:∃H,S.get? c.af.locals=some H:=s.elim λH x=>x.elim λ_ x=>x.elim λ_ x=>⟨H,x.1⟩
  have P:∀x a d,c.af.cells.lookup x=some a->w.h.IsCell a d->S.IsCell a d:=λx a d e y=>y.elim λH y=>⟨H,(ax.2 a (C.bU.apart x a e)).trans y.1,y.2⟩;have I:∀{t:Tok},hb c.f c.af.locals->(∃m,Fr c.f.g c.f.L S m)->(c.af.locals≠c.f.L->∀m,Fr c.f.g c.f.L w.h m->Fr c.f.g c.f.L S m)->Q () (w.ab S t).s:=λ{t} U F G=>by have T:=cO.a5 (t:=t) (Ey:=g) C.ag U ax V F;exact K (w.ab S t) ⟨T.1,T.2 cK,G,C.dc.a5 W (C.ag.ra T.1) p (.inl ⟨J,_,s,if_pos rfl⟩) (λy u r b=>b.imp (λb=>⟨b.1,b.2.elim λO b=>⟨_,s,by refine(if_neg r)▸(kT b.1 M)▸b.2⟩⟩) λb=>⟨b.1,b.2.1,b.2.2.elim λa z=>⟨a,z.1,P _ _ _ z.1 z.2⟩⟩) ⟨_,s⟩ λy a D e=>(C.dc.cell y a D e).elim λd z=>⟨d,P _ _ _ e z⟩⟩
  by_cases l:c.af.locals=c.f.L
  .exact I (.inl l) (C.ag.aM.elim λm F=>⟨_,F.set (l▸s) (l▸ax)⟩) λz=>absurd l z
  .have h:=C.bU.F.resolve_left l
   have G:=λm F=>Fr.Ck (c:=c) (w:=w) (c':=m) F l (C.ag.dy _ h).2.2.2 ax;exact I (.inr h) (C.ag.aM.elim λm F=>⟨m,G m F⟩) λ_=>G
 .have h:=C.ag.dy _ (C.bU.cell _ _ (W.eU q) f)
  have v:=Ne.symm (C.bU.apart _ _ f);have G:=λm F=>Fr.Ck (c:=c) (w:=w) (c':=m) F h.2.1 h.2.2.2 ax;have T:=cO.a5 (t:=w.s.toks) (Ey:=g) C.ag (.inr (C.bU.cell _ _ (W.eU q) f)) ax (N.elim λH y=>⟨H,y.1⟩) (C.ag.aM.elim λm F=>⟨m,G m F⟩);have P:∀x a d,c.af.cells.lookup x=some a->a≠j->w.h.IsCell a d->S.IsCell a d:=λx a d e n y=>y.elim λH y=>⟨H,(ax.2 a n).trans y.1,y.2⟩;refine K (w.ab S w.s.toks) ⟨T.1,T.2 (a' _ f),λ_=>G,C.dc.a5 W (C.ag.ra T.1) p (.inr ⟨W.eU q,.inl L,j,f,N⟩) (λy u r b=>b.imp (λb=>⟨b.1,b.2.elim λO b=>⟨O,b.1.at' λH e=>(ax.2 _ v).trans e,b.2⟩⟩) λb=>⟨b.1,b.2.1,b.2.2.elim λa z=>⟨a,z.1,P _ _ _ z.1 (λi=>r (C.bU.inj _ _ j (i▸z.1) f)) z.2⟩⟩) (C.dc.ns.elim λm z=>⟨m,z.at' λH e=>(ax.2 _ v).trans e⟩) λy a D e=>?_⟩
  by_cases z:a=j
  .exact z▸⟨_,N⟩
  .exact(C.dc.cell y a D e).elim λd i=>⟨d,P _ _ _ e z i⟩
def jG(n:Nat)(b:S):Prop:=∀(c:cu)(j:bD)(i:fE)(G:bD)(k:Nat)(y:Zd)(w:aL),k8 (aD c.X.P c.X.N n) b j=some (i,G)->m9 c.X (k+1) c.af.kindOf b y->bJ c (k+1) j.aj j.h w->g9 c (exec (kc c.X (k+1) b y) c.af) j.h w G i
def zM(O:i' f af):interactive af=false:=by unfold interactive;refine O.kind▸?_;rfl
def xx{v:Y9}{t:Ze Y9}(h:rE v):swapsWith v t l af=pure false:=by induction v using Expr.casesOn<;>first|exact(rfl:pure false=(pure false:Sem Bool))|exact bb h
def Ua{v o i:Y9}:swapsWith v (some (.Subscript o i p)) l af=pure false:=by induction v using Expr.casesOn<;>exact(rfl:pure false=(pure false:Sem Bool))
def g9.jd(j:aP c X w)(o:cO c X w T P)(C:g9 c f' T P st' fl){E:YV}(q:∀B a',cO c X w st'.h B->jD c B st'.aj fl a'->c' a' B.s):Zs c f' c' E P.s:=C c' E λs a' u J=>q s a' (o.trans j u) J
def I3:jG n .eD:=λc j i G k y w e _ C=>bz (p:=λi G=>g9 c (exec (.Pass y.pos) c.af) j.h w G i) e λQ E q=>λΓ p a=>q w .next ((aT.refl C.ag.aH).b7 C.ag) ⟨rfl,C.dc⟩
def I4(m:∀e,bT n e):jG n (.ret a):=λc j i G k y w e o C=>by
 cases a with
 |none=>exact bz (p:=λi G=>g9 c (exec (.Return none y.pos) c.af) j.h w G i) e λQ E q=>wpAny_Return_none (q w (.ret .none) ((aT.refl C.ag.aH).b7 C.ag) ⟨.none,rfl,.none⟩)
 |some B=>exact bK e λv b O e=>bz (p:=λi G=>g9 c (exec (.Return (some (aJ c.X k B (bZ y 0))) y.pos) c.af) j.h w G i) e λQ E q=>YK ((m B).aO O o C.aW _ E λP T l g=>q P (.ret T) (l.b7 C.ag) ⟨T,rfl,g⟩)
def SU{v:V}{x:Y3}(h:ql v)(r:o b w v x):∀a,x≠.ref a:=λa=>by
 induction v using V.casesOn with
 |none=>exact r.l4 (p:=λx=>x≠.ref a) λz=>nomatch z
 |bool=>exact r.kq (p:=λx=>x≠.ref a) λz=>nomatch z
 |int=>exact r.dt (p:=λx=>x≠.ref a) λt z=>nomatch z
 |str=>exact r.f7 (p:=λx=>x≠.ref a) λt z=>nomatch z
 |_=>exact bb h
def I0(m:∀e,bT n e):jG n (.expr a):=λc j i G k y w e o C=>bK e λv d O e=>bR e λb e=>bz (p:=λi G=>g9 c (exec (.Expr (aJ c.X k a (bZ y 0)) y.pos) c.af) j.h w G i) e λQ E q=>wpAny_Expr ((m a).aO O (ar o) C.aW _ E λP T l g=>by induction T<;>first|exact(q P .next (l.b7 C.ag) ⟨rfl,(C.aF l).dc⟩)|exact absurd rfl ((SU b g) _)) (zM C.bU) (xx (aN o))
def I2{t:E}(N:Gt n t)(A:∀b,o2 n b):jG n (.ite t a b):=λc j i G k y w e o C=>bK e λv f O e=>aA e λr m e Q E q=>by
 have F:=ar o;have d:=ar F;refine wpAny_If (N.aO (aN o) O m (aN F) C.aW _ E λP T l g=>?_);refine g▸?_;have L:=C.aW.aF l;induction r with|true=>exact(A a c _ _ _ k _ P e (aN d) L).jd C.ag (l.b7 C.ag) q|false=>exact(A b c _ _ _ k _ P e (ar d) L).jd C.ag (l.b7 C.ag) q
def Bh(C:bJ c k A X w)(R:l0 c.af.kindOf (c.X.az q))(p:o c.X w x a){Q:Flow->Y2}{E:YV}(K:∀B r,cO c X w X B->jD c B (VO A q x) .next r->Q r B.s):Zs c (storeName c.af (c.X.az q) a) (λ_=>Q .next) E w.s:=
 uo C trivial (λ_ _=>trivial) R p λB S=>K B .next S.b7 ⟨rfl,S.dc⟩
def uF(n:Nat):Prop:=∀(q:Nat)(B:E)(c:cu)(j:bD)(i:fE)(G:bD)(k:Nat)(y:Zd)(w:aL),rE (aJ c.X k B (bZ y 0))=false->k8 (aD c.X.P c.X.N n) (.bY (.F q) B) j=some (i,G)->m9 c.X (k+1) c.af.kindOf (.bY (.F q) B) y->bJ c (k+1) j.aj j.h w->g9 c (exec (kc c.X (k+1) (.bY (.F q) B) y) c.af) j.h w G i
def IW(m:∀e,bT n e)(b:uF n):jG n (.bY (.F p) a):=λc j i G k y w e o C=>by
 generalize A:rE (aJ c.X k a (bZ y 0))=N;induction N with|false=>exact b p a c j i G k y w A e o C|true=>exact bK e λv f O e=>bz (p:=λi G=>g9 c (exec (.Assign [.Name (c.X.az p) (bZ y 1).pos] (aJ c.X k a (bZ y 0)) y.pos) c.af) j.h w G i) e λQ E q=>wpAny_Assign_Name ((m a).aO O (aN o) C.aW _ E λP T l g=>Bh (C.aF l) (aN (ar o)) g λs r h d=>q s r ((l.b7 C.ag).trans C.ag h) d) (xx A)
def IV(m:∀e,bT n e):jG n (.bY (.aS b d) a):=λc j f G k y w e o C=>bK e λu r O e=>bK e λv N g e=>aA e λt D e=>bz (p:=λf G=>g9 c (exec (.Assign [.Attribute (aJ c.X k b (ax (bZ y 1) 0)) (c.X.az d) (bZ y 1).pos] (aJ c.X k a (bZ y 0)) y.pos) c.af) j.h w G f) e λQ E q=>plainObj_wpAny_Assign_Attribute ((m a).aO O (aN o) C.aW _ E λP T l p=>(m b).aO g (ar (ar o)) (C.aW.aF l) _ E λs x h K=>by have V:=(C.aF l).aF h;exact S0 V (fT (aN (ar o))) D K (p.ext ((C.ag.aF l).ext h)) _ E λI _ i _=>q I .next (((l.trans C.ag h).trans C.ag i).b7 C.ag) ⟨rfl,(V.aF i).dc⟩) xw
def IZ(J:∀e,bT n e):jG n (.pe p f d):=λc j B G k y w e H C=>by
 induction f with
 |add=>
  refine aA e λZ M e=>aA e λi T e=>bK e λI D O e=>aA e λF h e=>bz (p:=λB G=>g9 c (exec (.AugAssign (.Name (c.X.az p) (bZ y 1).pos) .Add (aJ c.X k d (bZ y 0)) y.pos) c.af) j.h w G B) e λQ E q=>wpAny_AugAssign_Name ?_;have R:=aN (ar H);refine(C.dc.get _ _ ((by unfold iY;exact(FT R).elim (λe=>by rw[e]) λe=>by rw[e])) M).elim λu z=>?_
  have tail:Zs c (eval (aJ c.X k d (bZ y 0)) c.af) (λv U=>Zs c (inplaceOp .Add u v) (λr V=>Zs c (storeName c.af (c.X.az p) r) (λ_=>Q .next) E V) E U) E w.s:=
   (J d).aO O (ar (ar H)) C.aW _ E λP W x l=>by refine((hE T▸z.2).dt (p:=λv=>∃t,v=Value.int i t) λt=>⟨t,rfl⟩).elim λX D=>?_;have l:o c.X P I W:=l;have h:I=.int F:=hE h;refine((h▸l).dt (p:=λv=>∃t,v=Value.int F t) λt=>⟨t,rfl⟩).elim λY S=>?_;refine D▸S▸wpAny_iadd_int ?_;have L:=C.aF x;have A:aT c _ P _ (P.a8 (P.s.toks+1)):=.a8 L.ag _;exact Bh (L.aF A) R .int λs r K N=>q s r (((x.trans C.ag A).b7 C.ag).trans C.ag K) N
  exact z.1.elim (λb=>b.2.elim λm g=>Yq C.bU.kind b.1 g.1 g.2 tail) λb=>b.2.2.elim λa g=>b.2.1.elim (λk=>Yx C.bU.kind k g.1 g.2 tail) λk=>Yy C.bU.kind k g.1 g.2 tail (wJ (aN H))
 |_=>exact ns e
end
section
variable{m:Program}{w:Y7}{A:Zb}{s:Za}
def S2{k:Int}{Q:Unit->Y2}{E:YV}(f:s.heap.PlainList l items)(x:0<=k)(K:k<2 ^ 63)(X:k<items.size)
  (F:∀a,a.PlainList l (items.setIfInBounds k.toNat b)->Heap.SameBut l s.heap a->Q () {s with heap:=a}):
  wpAny (model m w) A (setItem (.ref l) (.int k t) b) Q E s:=by
 obtain⟨D,c⟩:=f;have R:s.TypeIs (.ref l) "list":=⟨_,c,rfl⟩;unfold setItem
 try with_reducible refine Xo ?_
 first|refine Wi (Wo ?_)|skip
 refine Wi (wpAny_sequenceKey R (by decide) ?_)
 refine Wi (wpAny_callSpecial?_slot R slot_list_setitem
  (XQ slot_list_setitem R entry_list_setitem ?_ (args_list_setitem ..)))
 refine(?_:wpAny _ _ (Builtin.List.listSubscript? (.int k t)>>=_) _ _ s);refine Wi (wpAny_listSubscript_int (fitsIndex_of x K) ?_)
 clear K
 obtain⟨j,rfl⟩:=Int.eq_ofNat_of_zero_le x;have P:j<items.size:=by lia
 refine Wi (Wi (wpAny_seqItemAt c rfl (Wo ?_)));refine((Array.getElem?_eq_getElem P))▸?_;have d:=wY (λO=>O.setIfInBounds j b) c;refine Wi (wpAny_setSeqItemAt c rfl ?_);first
  |exact Wi (Wo (Wo ⟨.none,rfl,Wo (F _ d (Heap.SameBut.update ..))⟩))
  |exact Wo ⟨.none,rfl,Wo (F _ d (Heap.SameBut.update ..))⟩
end
def S7(p:o X w x e):∀{c:YY}{B:Nat},aK X w d c->aK X w (dT d B x) (c.set B e):=by
 induction d with
 |nil=>exactλr=>r.eg (q:=λc=>aK X w [] (c.set _ e)) .nil
 |cons y d S=>exactλ{c B} r=>r.dK (q:=λc=>aK X w (dT (y::d) B x) (c.set B e)) λu f a b=>match B with
  |0=>.cons p b
  |B+1=>.cons a (S b)
def C4(k:aE)(x:α)(l:List (aE×α)):(cU l k x).length<=l.length+1:=by
 induction l with
 |nil=>exact Wr _
 |cons p r S=>
  show(match cJ p.1 k with|true=>(p.1,x)::r|false=>(p.1,p.2)::cU r k x).length<=r.length+1+1
  generalize cJ p.1 k=N;induction N with|true=>exact WH _|false=>exact WC S
def DictOf.wB{o:Type} [DecidableEq o]{U:KeyKind prog a' o}{M:Y5}{C:Y4}{u:List (o×Y3)}(J:M.DictOf U C u):(u.map (·.1)).Nodup:=J.elim λ_ j=>j.elim λ_ j=>j.elim λ_ j=>j.2.2.2.2.2
section
variable{c:cu}{k n q:Nat}{A R G:YS}{Q P:Z}{w B O N:aL}{x:V}{v:Y3}{g:Y4->Prop}
def LM{P:eS}{A:aE}{Q:Unit->Y2}{E:YV}(H:c.A.units+30<cLine)(d:ew c.X w P a h)(X:h.length<=b0)(g:o3 c.X w P A m)
  (q:∀f t,Heap.SameBut a w.h f->ew c.X (w.ab f t) P a (cU h A p)->Q () (w.ab f t).s):Zs c (setItem (.ref a) m p) Q E w.s:=by
 induction P with
 |I=>induction A with
  |i n=>
   refine d.elim λO d=>g.elim λt aD=>aD▸wpAny_setItem_pairs (intKind_is _ _ _ t) d.1 (λf j ax=>q f _ ax ⟨_,j,?_⟩) (by refine(show O.length=h.length from by rw[d.2,WG])▸?_;exact jy _ X)
   exact d.2▸sE aE.i n pP _ _ (DictOf.wB d.1)
  |_=>exact g.elim
 |S=>induction A with
  |s n=>
   refine d.elim λO d=>g.elim λt aD=>aD▸wpAny_setItem_pairs (strKind_is _ _ _ t) d.1 (λf j ax=>q f _ ax ⟨_,j,?_⟩) (by refine(show O.length=h.length from by rw[d.2,WG])▸?_;exact jy _ X)
   exact d.2▸sE aE.s n ts _ _ (DictOf.wB d.1)
  |_=>exact g.elim
 |T=>induction A with
  |t l=>
   refine d.elim λO d=>g.elim λb aD=>aD.1▸wpAny_setItem_heap (tupleKind_room_in1 (Wf (Wt (by decide) _) H)) aD.2.2 d.1 (λf j ax=>q f _ ax ⟨_,j,?_,λy L=>?_⟩) (by refine(show O.length=h.length from by rw[d.2.1,WG])▸?_;exact jy _ X)
   .exact d.2.1▸LI aE.t l v8 _ _ _ (d.1.elim λ_ z=>z.elim λ_ z=>z.elim λ_ z=>z.2.2.2.2.2)
   .unfold storedH at L
    generalize o:atKey O l=N;induction N with
    |none=>rw[o] at L;exact(WU.mp L).elim (d.2.2 y) λL=>(Ws.mp L)▸aD.2.1
    |some z=>
     rw[o] at L;refine(WN.mp L).elim λz e=>?_;have k:=e.2;unfold putAt at k
     by_cases i:z.1=l
     .rw[if_pos i] at k;exact k▸d.2.2 z e.1
     .rw[if_neg i] at k;exact k▸d.2.2 z e.1
  |_=>exact g.elim
def S1{v i x:V}(J:c.A.units+30<cLine)(I:aP c Q w)(e:nt v i x Q=some P)(p:o c.X w v f)(q:o c.X w i d)(r:o c.X w x h):bP c (setItem f d h) Q w P λ_ _=>True:=
 bK e λb L g e=>by
  have g:=Bb g;rw[g.1] at p;induction L with
  |ins=>exact ns e
  |ah O T l=>have A:=g.2.2;subst A;exact aA e λK y e=>bR e λR e=>b6 (p:=λP=>bP c (setItem f d h) Q w P λ_ _=>True) e (oO I.aH (q:=λf=>bP c (setItem f d h) Q w _ λ_ _=>True) g.2.1 p λa z S=>Wc (S.1.symm.trans z)▸S.2.2.elim λM N s E k=>LM J N.1 N.2.1 (pQ y q) λm t ax u=>k (w.ab m t) () (aT.BB I g.2.1 rfl rfl ax λB=>⟨S.1,S.2.1,_,u,Wh (C4 ..) (by exact N.2.2.length▸pH R),(N.2.2.a5 K r).ext B⟩) trivial)
  |ae U l=>
   have A:=g.2.2;subst A;refine aA e λj C e=>bR e λG e=>b6 (p:=λP=>bP c (setItem f d h) Q w P λ_ _=>True) e (tD (q:=λf=>bP c (setItem f d h) Q w _ λ_ _=>True) I g.2.1 p λD H X F=>(pd C▸q).dt (p:=λd=>bP c (setItem _ d h) Q w _ λ_ _=>True) λt s E k=>?_);have G:=fT G;rw[dO,F.length] at G;refine S2 H (W4 j) (wb (Wh (WK G) X)) (by exact WB▸XM.mpr G) λm n ax=>?_
   have aD:D.toArray.setIfInBounds (Int.ofNat j).toNat h=(D.set j h).toArray:=by rw[List.setIfInBounds_toArray];rfl
   rw[aD] at n;exact k (w.ab m w.s.toks) () (aT.uB I g.2.1 ax n (by rw[List.length_set];exact X) (S7 r F)) trivial
def IX(m:∀e,bT n e):jG n (.bY (.sub b d) a):=λc j p G k y w e o C=>bK e λB P r e=>bK e λH x s e=>bK e λI z D e=>aA e λA t e=>
 bz (p:=λp G=>g9 c (exec (.Assign [.Subscript (aJ c.X k b (ax (bZ y 1) 0)) (aJ c.X k d (ax (bZ y 1) 1)) (bZ y 1).pos] (aJ c.X k a (bZ y 0)) y.pos) c.af) j.h w G p) e λQ E q=>by
 have F:=ar (ar o);exact wpAny_Assign_Subscript ((m a).aO r (aN o) C.aW _ E λO T l u=>(m b).aO s (aN F) (C.aW.aF l) _ E λN L h K=>(m d).aO D (ar F) ((C.aW.aF l).aF h) _ E λJ M i R=>by have V:=(C.aF l).aF h;have f:=V.aF i;exact S1 f.units f.ag t (K.ext (V.ag.ext i)) R ((u.ext ((C.ag.aF l).ext h)).ext (V.ag.ext i)) _ E λv _ g _=>q v .next ((((l.trans C.ag h).trans C.ag i).trans C.ag g).b7 C.ag) ⟨rfl,(f.aF g).dc⟩) Ua
abbrev e'(X:cn)(ns:YZ)(O:List Y9):List Y9:=cD ck (λn(y:Y9)=>Expr.Name (X.az n) y.pos) ns O
def TS(y:g c.af.locals){ns:YZ}:∀{h:List Y9}{f:YU}{d:YY}{A t:YS}{w:aL}{b:Unit->Y2}{E:YV},(ns.all λn=>l0 c.af.kindOf (c.X.az n))->gJ ns f A=some t->bJ c k A Q w->aK c.X w f d->(∀q∈ns,∀a,c.af.cells.lookup (c.X.az q)=some a->g a)->
  (∀B,g' c Q w t g B->b () B.s)->Zs c (assignInOrder ((assignEach (e' c.X ns h) c.af).map (·.2)) d) b E w.s:=by
 induction ns with
 |nil=>
  intro h f d A t w b E _ e C r _ K;induction f with
  |cons=>exact Internal.ns e
  |nil=>exact r.eg (q:=λd=>wpAny _ _ (assignInOrder _ d) b E w.s) (Wo (b6 (p:=λt=>(∀B,g' c Q w t g B->b () B.s)->b () w.s) e (λK=>K w ⟨(aT.refl C.ag.aH).b7 C.ag,.refl ..,λ_ _ F=>F,C.dc⟩) K))
 |cons a ns S=>
  intro h f d A t w b E D e C r j K;induction f with|nil=>exact Internal.ns e|cons x f=>rw[Xz] at D;refine r.dK (q:=λd=>wpAny _ _ (assignInOrder _ d) b E w.s) λu p m o=>?_;rw[e',hV];exact Wi (Xo (PyProof.Rows.assign_Name (uo C y (j a (.head _)) (aN D) m λO i=>S (ar D) e (C.stored i) (o.ext (C.ag.ra i.b7)) (λq I=>j q (.tail _ I)) λN l=>K N (i.trans C.ag l))))
def JA{ns:YZ}:∀{b:List Y9},(assignEach (e' X ns b) af).length=ns.length/\(assignEach (e' X ns b) af).findIdx? (·.1)=none:=by
 induction ns with|nil=>exact⟨rfl,rfl⟩|cons a ns S=>intro b;rw[e',hV];refine⟨Wd Nat.succ (S).1,?_⟩;refine(?_:((false,_)::assignEach (e' X ns b.tail) af).findIdx? (·.1)=none);rw[List.findIdx?_cons,(S).2];rfl
def uS{ns:YZ}:∀{b:YU}{l d:YS},gJ ns b l=some d->ns.length=b.length:=by
 induction ns with
 |nil=>intro b l d e;induction b with
  |nil=>rfl
  |cons=>exact cB e
 |cons a ns S=>intro b l d e;induction b with|nil=>exact cB e|cons x b=>exact Wd Nat.succ (S (e:gJ ns b (VO l a x)=some d))
def g'.Q6(C:bJ c k A Q w)(W:c3 w.h O.h)(u:aT c Q w Q O)(j:g' c Q O G g N)(_:hp₁=Q):g' c Q w G g N:=
 ⟨(u.b7 C.ag).trans C.ag j.b7,({u.step with keep:=λU o V _ _=>W U o V}:cG Q w Q O g).trans C.ag.aH j.j,λY J M=>j.aM Y J (u.aM J M),j.dc⟩
def B6{ns:YZ}{P:Nat}{j:Unit->Y2}{E:YV}(L:g c.af.locals)(z:(ns.all λn=>l0 c.af.kindOf (c.X.az n)))(O:YU)(i:xh x=some O)(e:gJ ns O A=some t)(C:bJ c k A Q w)(r:o c.X w x v)
  (J:∀q∈ns,∀a,c.af.cells.lookup (c.X.az q)=some a->g a)(K:∀B,g' c Q w t g B->j () B.s):Zs c (assign (.Tuple (e' c.X ns d) P l) c.af v) j E w.s:=by
 have h:=JA (X:=c.X) (af:=c.af) (ns:=ns) (b:=d);have p:∀D,aK c.X w O D->∀f,c3 w.h f->Zs c (assignInOrder ((assignEach (e' c.X ns d) c.af).map (·.2)) D) j E {w.s with heap:=f}:=λD r f u=>by have T:aT c Q w Q (w.ab f w.s.toks):=.all C.ag u;exact TS L z e (C.aF T) (r.ext (C.ag.ext T)) J λN S=>K N (S.Q6 C u T rfl)
 have m:∀{f},Heap.ExtBut (Zw w.s) w.s.heap f->c3 w.h f:=λs b H e=>s b H (Wv (WO e)) e;induction x using V.casesOn with
 |ay I=>refine r.gp (p:=λv=>wpAny _ _ (assign _ c.af v) j E w.s) λa D _ G _ F=>?_;have i:=Wc i;exact wpAny_assign_Tuple C.dJ.bC G (by rw[h.1,uS e,<-i,F.length,WB]) h.2 λf s=>p D (i▸F) f (m s)
 |ae I=>
   refine r.ic (p:=λv=>wpAny _ _ (assign _ c.af v) j E w.s) λa D _ y _ F=>?_;have i:=Wc i;rw[assign_Tuple];refine Wi (XI ?_);unfold unpack;have X:(assignEach (e' c.X ns d) c.af).length=D.toArray.size:=by rw[h.1,uS e,<-i,F.length,WB]
   rw[X,h.2];exact Wi (Xo (kun_itemsOf C.dJ.bC y.isList λf s=>p D (i▸F) f (m s)))
 |_=>exact Internal.ns i
end
section
set_option backward.match.sparseCases true
def Vu
  (h:wpAny (model prog w) A (isTrue qr af (eval qr af)) (λb d=>
   if b then wpAny (model prog w) A (execs body af) (λf p=>match f with
    |.next|.cont=>codeAny (model prog w) A (.whileLoop qr body orelse af) a p
    |.brk=>a (.ok .next) p
    |.ret g=>a (.ok (.ret g)) p) (Zu prog w A af a) d
   else wpAny (model prog w) A (execs orelse af) (λf p=>a (.ok f) p) (Zu prog w A af a) d)
   (Zu prog w A af a) s):codeAny (model prog w) A (.whileLoop qr body orelse af) a s:=by
 refine Yt ?_;refine wpAny_noted ?_;simp only [whileTurn];refine Wi (W6 h (λb d i=>?_) λ_ _ S=>S);induction b with
 |false=>
  simp only [Bool.false_eq_true,if_false] at i⊢
  exact Wi (W6 i (λf p G=>Wo G) λ_ _ S=>S)
 |true=>
  simp only [if_true] at i⊢
  refine Wi (W6 i (λf p G=>?_) λ_ _ S=>S);induction f with|next=>exact Wo ⟨rfl,G⟩|cont=>exact Wo ⟨rfl,G⟩|brk=>exact Wo G|ret g=>exact Wo G
def DK
  (h:wpAny (model prog w) A (pyNext T) (λr g=>match r with
   |none=>wpAny (model prog w) A (execs orelse af) (λf p=>a (.ok f) p) (Zu prog w A af a) g
   |some c=>wpAny (model prog w) A (letOwnedTupleGo target T c) (λ_ i=>
     wpAny (model prog w) A (assign target af c) (λ_ d=>wpAny (model prog w) A (execs body af) (λf p=>match f with
      |.next|.cont=>codeAny (model prog w) A (.forLoop target T body orelse af) a p
      |.brk=>a (.ok .next) p
      |.ret c=>a (.ok (.ret c)) p) (Zu prog w A af a) d) (Zu prog w A af a) i) (Zu prog w A af a) g)
    (Zu prog w A af a) s):codeAny (model prog w) A (.forLoop target T body orelse af) a s:=by
 refine Yt ?_;refine wpAny_noted ?_;simp only [forTurn];refine Wi (XI (Wi (wpAny_onRaise (W6 h (λr g k=>?_) λ_ _ S=>XI S))));induction r with
 |none=>exact Wo ⟨rfl,codeAny_block k⟩
 |some c=>
  refine Wi (W6 k (λ_ i j=>?_) λ_ _ S=>S);refine Wi (W6 j (λ_ d l=>Wi (W6 l (λf p G=>?_) λ_ _ S=>S)) λ_ _ S=>S);induction f with|next=>exact Wo ⟨rfl,G⟩|cont=>exact Wo ⟨rfl,G⟩|brk=>exact Wo G|ret c=>exact Wo G
end
def PF{v:α}{l:List (Nat×α)}:∀{r:List (Nat×α)},au (i8 l r) q=some v->au r q=some v:=by
 induction l with
 |nil=>exactλe=>cB e
 |cons y l S=>
  intro r e;induction r with
  |nil=>exact cB e
  |cons x r=>
   have e:(match Nat.beq x.1 q with|true=>some x.2|false=>au (i8 l r) q)=some v:=e
   show(match Nat.beq x.1 q with|true=>some x.2|false=>au r q)=some v
   generalize h:Nat.beq x.1 q=N;induction N with|true=>rw[h] at e;exact e|false=>rw[h] at e;exact S e
def fG.i8(V:fG a' f' af c'):fG a' f' af (i8 h' c'):=⟨λu C o j=>V.get u C o (PF j),V.ns,V.cell⟩
def uG(n:Nat)(t:E)(b:List S):Prop:=∀(c:cu)(j:bD)(i:fE)(G:bD)(k:Nat)(x:Y9)(a:List Zd)(w:aL),(aD c.X.P c.X.N n).w t b j=some (i,G)->ij t->bQ c.X k c.af.kindOf t x->l5 c.X k c.af.kindOf b a->bJ c k j.aj j.h w->
 ∀(R:Result->Y2),(∀B r,cO c j.h w G.h B->jD c B G.aj i r->R (.ok r) B.s)->codeAny (Zt c) c.A (.whileLoop (aJ c.X k t x) (kb c.X k b a) [] c.af) R w.s
def II(N:Gt a t)(A:o2 a b)(f:uG a t b):uG (a+1) t b:=λc j i G k x E w e V o y C R q=>bK e λv P O e=>aA e λr p e=>Vu (N.aO V O p o C _ _ λS J l F=>by
 rw[F];have L:=C.aF l;induction r with
 |false=>exact Xw (bz (p:=λi G=>(∀B r,cO c j.h w G.h B->jD c B G.aj i r->R (.ok r) B.s)->R (.ok .next) S.s) e (λq=>q S .next (l.b7 C.ag) ⟨rfl,L.dc⟩) q)
 |true=>
  have e:=e;refine bK e λlJ K n e=>A c _ _ _ k E S n y L _ _ λs H h d=>?_;have D:=(l.b7 C.ag).trans C.ag h;induction lJ with|next=>rw[d.1];exact f c ⟨i8 j.aj K.aj,K.h⟩ i G k x E s e V o y ⟨C.ok,C.aM,C.dJ,C.bU,C.ag.b7 D,d.2.i8⟩ R λI T m u=>q I T (D.trans C.ag m) u|ret v=>refine d.elim λg z=>?_;rw[z.1];exact bz (p:=λi G=>(∀B r,cO c j.h w G.h B->jD c B G.aj i r->R (.ok r) B.s)->R (.ok (.ret g)) s.s) e (λq=>q s (.ret g) D ⟨g,rfl,z.2⟩) q)
def I5(d:uG a t b):jG a (.il t b):=λc j i G k y w e o C Q E q=>wpAny_While (d c j i G k _ _ w e (aN o) (aN (ar o)) (ar (ar o)) C.aW _ λB r T f=>q B r T f)
def fG.au(V:fG c' s' af f')(j:∀a',au h' a'=au f' a'):fG c' s' af h':=⟨λa' C u o=>V.get a' C u (by exact(j a')▸o),V.ns,V.cell⟩
def Ul(h:v3 c):∃d a b,c=.Tuple d a b:=by induction c using Expr.casesOn<;>first|exact⟨_,_,_,rfl⟩|exact bb h
def QL(h:v3 a=false):swappedStores [.Tuple c P l] a af=pure none:=by induction a using Expr.casesOn<;>first|exact(rfl:pure none=(pure none:Sem _))|exact tL h
def MJ{α β:Type}{f:α->Ze β}{g:α->β}{l:List α}(h:(l.filterMap f).length=l.length)(i:∀x∈l,∀b,f x=some b->b=g x):l.filterMap f=l.map g:=by
 induction l with
 |nil=>rfl
 |cons x r S=>
  generalize e:f x=N;induction N with|none=>rw[List.filterMap_cons_none e,WL] at h;exact absurd (h▸List.length_filterMap_le f r:r.length+1<=r.length) (Yu _)|some b=>rw[List.filterMap_cons_some e,WL,WL] at h;rw[List.filterMap_cons_some e,WS,S (XC h) λy L=>i y (.tail _ L),i x (.head _) b e]
def tP(h:p5 l):l.Nodup:=by
 induction l with|nil=>exact .nil|cons x r S=>rw[Xc];refine⟨λB=>?_,S (ar h)⟩;have z:=Wn.mp (aN h) x B;rw[k3.mpr rfl] at z;exact bb z
def Mb{l:List Y'}(h:l.Nodup):l.eraseDups=l:=by
 induction l with|nil=>rfl|cons x r S=>rw[Xc] at h;rw[List.eraseDups_cons,List.filter_eq_self.mpr λy L=>by rw[XZ,beq_eq_false_iff_ne];exactλz=>h.1 (z▸L),S h.2]
set_option backward.match.sparseCases true in
def VH{f:ec}{d:Env}(O:i' f d){c D:List Y9}{P G:Nat}{l K:Pos}(k:D.length=c.length)(g:(c.length==2||c.length==3))(Q:D.all e3)(A:(i5 d.kindOf c).length=c.length)(T:p5 (i5 d.kindOf c))
  (R:D.all (foldedForSure 8)=false)(L:D.all (constantsAlone 8)=false):swappedStores [.Tuple c P l] (.Tuple D G K) d=pure (some (i5 d.kindOf c)):=by
 have a:d.blockKind=.function:=by unfold Env.blockKind;rw[O.kind];rfl
 unfold swappedStores;have b:(!(c.length==2||c.length==3)||D.length != c.length||d.blockKind != .function)=false:=by rw[a,k,g,bne_self_eq_false];rfl
 have e:(D.any λ|.Starred ..=>true|_=>false)=false:=by rw[List.any_eq_false];rw[Wn] at Q;intro x B z;have y:=Q x B;induction x using Expr.casesOn<;>first|(have z:false=true:=z;exact bb z)|(have y:false=true:=y;exact bb y)
 have p:((i5 d.kindOf c).length != c.length||(i5 d.kindOf c).eraseDups.length != (i5 d.kindOf c).length)=false:=by rw[Mb (tP T),A,bne_self_eq_false];rfl
 dsimp only;rw[if_neg (by rw[XP];exact b:¬_)]
 rw[if_neg (by rw[XP];exact e:¬_)]
 rw[(?eqn:List.filterMap _ c=i5 d.kindOf c)]
 case eqn=>unfold i5;exact Wd (λf=>List.filterMap f c) (funext λx=>by induction x using Expr.casesOn<;>rfl)
 rw[if_neg (by rw[XP];exact p:¬_)]
 rw[if_neg (by rw[XP];exact R:¬_)]
 rw[if_neg (by rw[XP];exact L:¬_)]
noncomputable def nh:YZ->YU->YS->YS
 |a::r,x::O,l=>VO (nh r O l) a x
 |_,_,l=>l
def PD:∀{b:YU}{l G:YS}{q:Nat},(q∉r->au l q=au G q)->r.length=b.length->au (nh r b l) q=au (nh r b G) q:=by
 induction r with
 |nil=>intro b l G q h _;induction b<;>exact h es
 |cons a r S=>
  intro b l G q h f;induction b with
  |nil=>nomatch f
  |cons x b=>
   show au (VO (nh r b l) a x) q=au (VO (nh r b G) a x) q
   by_cases z:a=q
   .rw[z,pY,pY]
   .rw[m1 z,m1 z]
    exact S (λn=>h λm=>(Wz.mp m).elim (λe=>z e.symm) n) (XC f)
def PE(n:a∉r):∀{c:YU}{l:YS},au (nh r c l) a=au l a:=by
 induction r with
 |nil=>intro c l;induction c<;>rfl
 |cons b r S=>
  intro c l;induction c with|nil=>rfl|cons x c=>exact(m1 (λz=>n (Wz.mpr (.inl z.symm))) _).trans (S λm=>n (.tail _ m))
def JD{ns:YZ}(D:ns.Nodup):∀{b:YU}{l G:YS},gJ ns b l=some G->∀q,au G q=au (nh ns b l) q:=by
 induction ns with
 |nil=>intro b l G e q;induction b with
  |nil=>exact b6 (p:=λG=>au G q=au l q) e rfl
  |cons=>exact cB e
 |cons a r S=>
  rw[Xc] at D;intro b l G e q;induction b with
  |nil=>exact cB e
  |cons x b=>
   have e:gJ r b (VO l a x)=some G:=e;refine(S D.2 e q).trans ?_;show _=au (VO (nh r b l) a x) q
   by_cases z:a=q
   .rw[<-z,PE D.1,pY,pY]
   .rw[m1 z]
    exact PD (λ_=>m1 z _) (uS e)
def Su{ns:YZ}:∀{d:YU}{b:YY}{A:YS}{w:aL}{f:List (Y3->Sem Unit)}{e:YY}{Q:Unit->Y2}{E:YV},(ns.all λh=>l0 c.af.kindOf (c.X.az h))=true->ns.length=d.length->bJ c i A g w->aK c.X w d b->
  (∀B,g' c g w (nh ns d A) (λ_=>True) B->Zs c (assignInOrder f e) Q E B.s)->Zs c (assignInOrder ((ns.map c.X.az).reverse.map (bindName c.af)++f) (b.reverse++e)) Q E w.s:=by
 induction ns with
 |nil=>
  intro d b A w f e Q E _ j C r K;induction d with
  |cons=>nomatch j
  |nil=>exact r.eg (q:=λb=>wpAny _ _ (assignInOrder _ (b.reverse++e)) Q E w.s) (K w ⟨(aT.refl C.ag.aH).b7 C.ag,.refl ..,λ_ _ F=>F,C.dc⟩)
 |cons a ns S=>
  intro d b A w f e Q E D j C r K;induction d with
  |nil=>nomatch j
  |cons x d=>rw[Xz] at D;refine r.dK (q:=λb=>wpAny _ _ (assignInOrder _ (b.reverse++e)) Q E w.s) λu b m l=>?_;rw[WS,Xy,Xy,XH,Xf,Xf];exact S (ar D) (XC j) C l λn k=>Wi (Xo (PyProof.Rows.bindName_ (uo (C.stored k) trivial (λ_ _=>trivial) (aN D) (m.ext (C.ag.ra k.b7)) λs N=>K s (k.trans C.ag N))))
def QG{ns:YZ}:∀{b:List Y9},(e' X ns b).map hN=ns.map X.az:=by
 induction ns with|nil=>exact rfl|cons a r S=>intro b;rw[e',hV];exact Wd (X.az a::·) S
def PX{X:cn}{ns:YZ}(h:(ns.map X.az).Nodup):ns.Nodup:=by
 induction ns with|nil=>exact .nil|cons a r S=>rw[WS,Xc] at h;exact Xc.mpr ⟨λm=>h.1 (WN.mpr ⟨a,m,rfl⟩),S h.2⟩
def T'{V:Y'->Ze Y6}{ns:YZ}{E:List Y9}(h:(i5 V (e' X ns E)).length=(e' X ns E).length):i5 V (e' X ns E)=ns.map X.az:=
 (MJ h λx _ b e=>by
  induction x using Expr.casesOn with
  |Name s p=>
   have e:(if(V s==some .local&&p.line==(((e' X ns E).head?.map (·.pos.line)).getD 0))=true then some s else none)=some b:=e
   by_cases z:(V s==some .local&&p.line==(((e' X ns E).head?.map (·.pos.line)).getD 0))=true
   .rw[if_pos z] at e;exact(Wc e).symm
   .rw[if_neg z] at e;exact Internal.ns e
  |_=>exact Internal.ns e).trans QG
def JZ{ns:YZ}{j G:bD}(h:(match ns with|_::_::_=>true|_=>false)=true)(e:uX ns d j=some G):∃c l,d=.ay c/\gJ ns c j.aj=some l/\G=⟨l,j.h⟩:=by
 match ns,h,e with
 |a::b::r,_,e=>induction d using V.casesOn with|ay c=>exact aA e λl A e=>⟨c,l,rfl,A,(Wc e).symm⟩|_=>exact Internal.ns e
def IY{ns:YZ}(Y:∀e,bT d e):jG d (.bY (.ay ns) B):=λc j u U k y w e H C=>bK e λv P Z e=>aA e λs2 n e=>by
 have M:=ar H;have O:=ar M;have r:=ar O;have n:uX ns v ⟨j.aj,P⟩=some s2:=n;refine(JZ (aN M) n).elim λxs z=>z.elim λl z=>?_;refine bz (p:=λu U=>g9 c (exec (.Assign [.Tuple (e' c.X ns (cR (bZ y 1))) (lR (bZ y 1)) (bZ y 1).pos] (aJ c.X k B (bZ y 0)) y.pos) c.af) j.h w U u) e λQ E q=>?_;rw[z.2.2] at q;have aD:=(Y B).aO Z (aN H) C.aW;have p:=(xx (aN O):swapsWith (aJ c.X k B (bZ y 0)) (some (.Tuple (e' c.X ns (cR (bZ y 1))) (lR (bZ y 1)) (bZ y 1).pos)) y.pos.line c.af=_);have i:Bk c.af.kindOf (e' c.X ns (cR (bZ y 1))) (aJ c.X k B (bZ y 0)):=ar r;generalize aJ c.X k B (bZ y 0)=fi at aD p i;generalize cR (bZ y 1)=f at p i;generalize V:v3 fi=fp;induction fp with
 |false=>exact PyProof.Rows.Assign_Tuple (aD _ E λS T h g=>B6 (g:=λ_=>True) trivial (aN r) xs (by rw[z.1];rfl) z.2.1 (C.aF h) g (λ_ _ _ _=>trivial) λs N=>q s .next ((h.b7 C.ag).trans C.ag N.b7) ⟨rfl,N.dc⟩) p (QL V)
 |true=>
  unfold Bk at i;rw[V] at i;refine(Ul V).elim λD x=>x.elim λk2 x=>x.elim λc' x=>?_;subst x;have S:(Nat.beq (VN D) (VN (e' c.X ns f))&&((Nat.beq (VN (e' c.X ns f)) 2||Nat.beq (VN (e' c.X ns f)) 3)&&(D.all e3&&(Nat.beq (VN (i5 c.af.kindOf (e' c.X ns f))) (VN (e' c.X ns f))&&(p5 (i5 c.af.kindOf (e' c.X ns f))&&(!(D.all (foldedForSure 8))&& !(D.all (constantsAlone 8)))))))):=i;rw[dO,dO,dO] at S;have s:=ar S;have I:=ar s;have W:=ar I;have G:=ar W;have F:=We (aN W);have X:=VH C.bU (P:=lR (bZ y 1)) (G:=k2) (l:=(bZ y 1).pos) (K:=c') (We (aN S)) (by rw[<-p3,<-p3];exact aN s) (aN I) F (aN G) (VX (aN (ar G))) (VX (ar (ar G)))
  have K:=aN G;rw[(T' F)] at X K;refine PyProof.Rows.Assign_Tuple_swapped (aD _ E λS T h g=>?_) p X;have L:=C.aF h;have g:o c.X S v T:=g;rw[z.1] at g;refine g.gp (p:=λT=>wpAny _ _ (unpackItems T (ns.map c.X.az).length none) _ E S.s) λa us _ cK _ J=>?_;have A:=uS z.2.1;rw[WG,A,J.length,<-WB];refine PyProof.Rows.unpackItems_tuple L.dJ.bC cK λh' a'=>?_;have m:aT c P S P (S.ab h' S.s.toks):=.all L.ag λb H e=>a' b H (Wv (WO e)) e;have R:=Su (c:=c) (f:=[]) (e:=[]) (Q:=λ_=>Q .next) (E:=E) (aN r) A (L.aF m) (J.ext (L.ag.ext m)) λI t=>Wo (q I .next (((h.trans C.ag m).b7 C.ag).trans C.ag t.b7) ⟨rfl,t.dc.au (JD (PX (tP K)) z.2.1)⟩);rw[WQ,WQ] at R;exact R
set_option backward.match.sparseCases false
def dI(f:ec)(P:List Y4)(V:Z)(w:aL):Prop:=∀b∈P,(∃o,w.h.get? b=some o)/\b≠f.L/\¬f.dy b/\cY b V w/\f.g.get? b=none
def aL.bV(j:aL)(F:Y4->Prop)(o:Y5)(u:Tok):aL:=Zx ⟨j.G.bI F,(j.ab o u).s⟩
def kh(P:List Y4)(h S:Y5):Prop:=∀b o,b∉P->h.get? b=some o->S.get? b=some o
structure kg(c:cu)(e:Y4)(own N:List Y4)(p:aL)(l:YU)(ek:Bool)(bD:Nat->Y5->Prop)(o4:Nat->Y3->Y5->Prop):Prop where
 frame:∀i h a,bD i h->(∀b,b∈own\/b∈N->∀H,h.get? b=some H->a.get? b=some H)->bD i a
 e8:∀i h,bD i h->∀b∈own,∃H,h.get? b=some H
 wi:∀i d h,o4 i d h->∀b∈own,∃H,h.get? b=some H
 item:∀i x(w:aL)(Q:Ze Y3->Y2)(E:YV),l[i]?=some x->bD i w.h->cM p w->(∀b∈own,¬w.G.a0 b)->
  (∀d a s(f:Y4->Prop),(∀b,f b->w.h.get? b=none/\∃H,a.get? b=some H)->o c.X (w.bV f a s) x d->o4 i d a->kh own w.h a->Q (some d) (w.ab a s).s)->
  Zs c (pyNext (.ref e)) Q E w.s
 go:∀g i d(w:aL)(Q:Unit->Y2)(E:YV),(ek=true->∃elts m pos,g=Expr.Tuple elts m pos)->o4 i d w.h->
  (∀a,bD (i+1) a->kh own w.h a->Q () (w.ab a w.s.toks).s)->Zs c (letOwnedTupleGo g (.ref e) d) Q E w.s
 self:∀i(w:aL)(Q:YV)(E:YV),bD i w.h->Q (.ref e) w.s->Zs c (pyIter (.ref e)) Q E w.s
 done:∀(w:aL)(Q:Ze Y3->Y2)(E:YV),bD l.length w.h->(∀a s,kh own w.h a->Q none (w.ab a s).s)->Zs c (pyNext (.ref e)) Q E w.s
section
variable{c:cu}{k n:Nat}{A:YS}{X T Q:Z}{w B m f:aL}{own N:List Y4}{F:Y4->Prop}{R:Y5}
def dI.step(C:dI c.f own X w)(S:cG X w T B Ex):dI c.f own T B:=λu M=>have j:=C u M;⟨j.1.elim λo J=>S.eo u o J,j.2.1,j.2.2.1,j.2.2.2.1.step j.1 S,j.2.2.2.2⟩
def cM.bV(C:∀a'∈own,¬w.G.a0 a')(u:kh own w.h R):cM w (w.bV F R c'):=⟨λ_ j=>.inl j,λ_ _ j=>j,λa' o M J=>u a' o (λU=>C a' U M) J⟩
def bB.eW(u:bB f' X w)(M:∀a'∈own,cY a' X w)(J:kh own w.h R)(V:∀a',F a'->w.h.get? a'=Option.none/\∃c',R.get? a'=some c'):bB f' X (w.bV F R h'):=
 ⟨λU c' C=>(u.slot U c' C).ext (.bV (λa' Y=>(M a' Y).a0) J) rfl λcK W=>J _ cK (λj=>(M _ j).aX U ⟨c',C⟩ rfl) W,u.inj,λa' o=>o.elim (λo=>have j:=u.bI a' o;⟨j.1.elim λc' C=>⟨c',J a' c' (λj=>(M a' j).a0 o) C⟩,j.2⟩) λo=>⟨(V a' o).2,λU Z j=>u.kS (V a' o).1 Z j⟩,u.gK⟩
def cO.eW(J:cO c Q f X w)(U:dI c.f own X w)(hB0:∀a'∈own,f.h.get? a'=none)(o:kh own w.h R)(V:∀a',F a'->w.h.get? a'=none/\∃c',R.get? a'=some c'):cO c Q f X (w.bV F R f'):=by have S:=J.step;have W:∀a' c',f.h.get? a'=some c'->a'∉own:=λa' c' j C=>cj j (hB0 a' C);exact⟨J.aH.eW (λa' cK=>(U a' cK).2.2.2.1) o V,⟨λa' u=>.inl (S.a0 a' u),S.aO,S.aX,λa' c' j e1 hm=>o a' c' (W a' c' j) (S.keep a' c' j e1 hm),λa' c' j=>(S.eo a' c' j).elim λY Z=>⟨Y,o a' Y (W a' c' j) Z⟩,S.new,S.gT,S.n,λa' u=>u.elim (S.jT a') λu=>.inr (.inl (S.iX (V a' u).1))⟩,J.aM.elim λe2 M=>⟨e2,⟨M.ns.at' λc' j=>o _ c' (λC=>(U _ C).2.1 rfl) j,λa' c' j=>o a' c' (λC=>cj j (U a' C).2.2.2.2) (M.keep a' c' j),M.above⟩⟩,J.dd.trans ⟨_,_,rfl⟩⟩
def bJ.eW(C:bJ c k A X w)(M:dI c.f own X w)(J:kh own w.h R)(hF:∀f',F f'->w.h.get? f'=none/\∃h',R.get? f'=some h'):bJ c k A X (w.bV F R s'):=by
 have fl:c.f.L∉own:=λo=>(M _ o).2.1 rfl;have W:∀f',c.f.dy f'->f'∉own:=λf' u o=>(M f' o).2.2.1 u;have e2:∀f',cY f' X w->(∃h',w.h.get? f'=some h')->cY f' X (w.bV F R s'):=λf' O j=>⟨λZ=>Z.elim O.a0 λZ=>j.elim λh' j=>cj j (hF f' Z).1,O.aX⟩;have loc:c.af.locals∉own:=λo=>C.bU.F.elim (λV=>fl (V▸o)) λV=>W _ V o;have E:cM w (w.bV F R s'):=.bV (λf' cK=>(M f' cK).2.2.2.1.a0) J;refine⟨C.ok,C.aM,C.dJ,C.bU,⟨C.ag.aM.elim λU Y=>⟨U,Y.ns.at' λh' j=>J _ h' fl j,λf' h' j=>J f' h' (λo=>cj j (M f' o).2.2.2.2) (Y.keep f' h' j),Y.above⟩,C.ag.aH.eW (λf' cK=>(M f' cK).2.2.2.1) J hF,e2 _ C.ag.own C.ag.jW,C.ag.new,λf' u=>have o:=C.ag.dy f' u;⟨o.1.elim λh' j=>⟨h',J f' h' (W f' u) j⟩,o.2.1,e2 f' o.2.2.1 o.1,o.2.2.2⟩⟩,
  ⟨λV e1 fs j=>(C.dc.get V e1 fs j).elim λfv o=>⟨fv,?_,o.2.ext E⟩,C.dc.ns.elim λU u=>⟨U,u.at' λh' j=>J _ h' loc j⟩,λhi c' fp j=>(C.dc.cell hi c' fp j).elim λe1 u=>u.elim λh' u=>⟨e1,h',J c' h' (W _ (C.bU.cell _ _ fp j)) u.1,u.2⟩⟩⟩
 exact o.1.imp (λf'=>⟨f'.1,f'.2.elim λU f'=>⟨U,f'.1.at' λh' j=>J _ h' loc j,f'.2⟩⟩) λf'=>⟨f'.1,f'.2.1,f'.2.2.elim λa' u=>⟨a',u.1,u.2.elim λh' fi=>⟨h',J a' h' (W _ (C.bU.cell _ _ f'.1 u.1)) fi.1,fi.2⟩⟩⟩
def dI.bV(C:dI c.f own X w)(M:∀a',F a'->w.h.get? a'=none/\∃c',R.get? a'=some c')(U:∀a'∈own,∃c',R.get? a'=some c'):dI c.f own X (w.bV F R f'):=λa' u=>have j:=C a' u;⟨U a' u,j.2.1,j.2.2.1,⟨λo=>o.elim j.2.2.2.1.a0 λo=>j.1.elim λc' J=>cj J (M a' o).1,j.2.2.2.1.aX⟩,j.2.2.2.2⟩
def cO.qt(u:bB c.X X w)(o:cO c X w hp₁ w₁)(j:cO c hp₁ w₁ hp₂ w₂):cO c X w hp₂ w₂:=⟨j.aH,o.step.trans u j.step,j.aM,o.dd.trans j.dd⟩
def Cg(y:g c.af.locals){Q:Unit->Y2}{E:YV}(D:oz c.X c.af.kindOf h)(e:hH h x ⟨A,X⟩=some d)(C:bJ c k A X w)(p:o c.X w x i)(f:∀q∈h,∀a,c.af.cells.lookup (c.X.az q)=some a->g a)
  (K:∀B,g' c X w d.aj g B->d.h=X->Q () B.s):Zs c (assign (g0 c.X h s) c.af i) Q E w.s:=
 match h,D,e,f with
 |[],D,_,_=>bb D
 |[q],D,e,f=>PyProof.Rows.assign_Name (uo C y (f q (.head _)) (aN (ar D)) p λB S=>b6 (p:=λd=>(∀B,g' c X w d.aj g B->d.h=X->Q () B.s)->Q () B.s) e (λK=>K B S rfl) K)
 |a::b::r,D,e,f=>aA e λO m e=>aA e λl j e=>B6 y (ar D) O m j C p f λB S=>b6 (p:=λd=>(∀B,g' c X w d.aj g B->d.h=X->Q () B.s)->Q () B.s) e (λK=>K B S rfl) K
def MT(od:∀b,o2 n b)(hm:oz c.X c.af.kindOf g)(f:l5 c.X k c.af.kindOf b l){W:YU}{ek:Bool}{St':Nat->Y5->Prop}{Mid:Nat->Y3->Y5->Prop}{j:Y5}
  (dv:kg c s own N m W ek St' Mid)(htwo:ek=true->∃G k P,g0 c.X g h=Expr.Tuple G k P)(R₀:bB c.X Q (m.ab j t))(hB0:∀b∈own,j.get? b=none)(hBk:∀a H,m.G.a0 a->m.h.get? a=some H->j.get? a=some H)
  (fpOk:∀b∈N,b∉own/\¬hb c.f b/\(∀p,qF Q p->m.G.aX p≠b)/\∃H,j.get? b=some H)(nofz:∀b,hb c.f b->¬m.G.a0 b){J:Result->Y2}{M:fE}{D:bD}(q:∀B r,cO c Q (m.ab j t) D.h B->jD c B D.aj M r->J (.ok r) B.s)(I:YU):∀(i:Nat)(d:bD)(w:aL),
  i+I.length=W.length->W.drop i=I->rh (aD c.X.P c.X.N n).x g b I d=some (M,D)->bJ c k d.aj d.h w->St' i w.h->dI c.f own d.h w->cO c Q (m.ab j t) d.h w->codeAny (Zt c) c.A (.forLoop (g0 c.X g h) (.ref s) (kb c.X k b l) [] c.af) J w.s:=by
 induction I with
 |nil=>intro i d w hi hd e C hst O L;refine DK (dv.done w _ _ (hi▸hst) λR h' K=>Xw ?_);have z:cO c Q (m.ab j t) d.h (w.bV (λ_=>False) R h'):=L.eW O hB0 K λ_ z=>z.elim;exact bz (p:=λM D=>(∀B r,cO c Q (m.ab j t) D.h B->jD c B D.aj M r->J (.ok r) B.s)->J (.ok .next) (w.ab R h').s) e (λq=>q (w.bV (λ_=>False) R h') .next z ⟨rfl,bJ.dc (C.eW (F:=λ_=>False) O K λ_ z=>z.elim)⟩) q
 |cons x I qs=>
  intro i d w hi hd e C hst O L;refine aA e λst1 e1 e=>bK e λfl1 st1' e2 e=>?_;have pl:W[i]?=some x:=by have z:=Wd List.head? hd;rw[List.head?_drop] at z;exact z
  have nk:cM m w:=⟨L.step.a0,L.step.aO,λa H fv e=>L.step.keep a H (hBk a H fv e) (λz=>nofz a z fv) λp mp=>(R₀.bI a fv).2 p mp.e8⟩;have fpK:∀{S U:aL}{c' hr:Z},cO c Q (m.ab j t) c' S->cO c Q (m.ab j t) hr U->∀b∈N,∀H,S.h.get? b=some H->U.h.get? b=some H:=λL1 X b f H e=>have z:=fpOk b f;z.2.2.2.elim λl2 k0=>Wc (Eq.trans (Eq.symm (L1.step.keep b l2 k0 z.2.1 z.2.2.1)) e)▸X.step.keep b l2 k0 z.2.1 z.2.2.1;refine DK (dv.item i x w _ _ pl hst nk (λb f=>(O b f).2.2.2.1.a0) λv A o F hF q0 hL l1=>?_);have mm:bJ c k d.aj d.h (w.bV F A o):=C.eW O l1 hF;have L1:cO c Q (m.ab j t) d.h (w.bV F A o):=L.eW O hB0 l1 hF;have aw1:dI c.f own d.h (w.bV F A o):=O.bV hF (dv.wi i v A hL);refine dv.go (g0 c.X g h) i v (w.bV F A o) _ _ htwo hL λE st2' k2=>?_;have hj:∀b,False->(w.bV F A o).h.get? b=none/\∃H,E.get? b=some H:=λ_ z=>z.elim;have kz:bJ c k d.aj d.h ((w.bV F A o).bV (λ_=>False) E o):=mm.eW aw1 k2 hj;have X:cO c Q (m.ab j t) d.h ((w.bV F A o).bV (λ_=>False) E o):=L1.eW aw1 hB0 k2 hj;have aw2:dI c.f own d.h ((w.bV F A o).bV (λ_=>False) E o):=aw1.bV hj (dv.e8 _ E st2');refine Cg (w:=(w.bV F A o).bV (λ_=>False) E o) (g:=λ_=>True) trivial hm e1 kz (q0.ext (.bV (λb f=>(aw1 b f).2.2.2.1.a0) k2)) (λ_ _ _ _=>trivial) λkk a' he=>?_;have fp:=kz.stored a';have Y:=X.qt R₀ a'.b7;have aw3:=aw2.step a'.b7.step;have ownK:∀{S U:aL}{c' hr:Z},dI c.f own c' S->cO c c' S hr U->∀b∈own,∀H,S.h.get? b=some H->U.h.get? b=some H:=λa T b f H e=>have z:=a b f;T.step.keep b H e (λy=>y.elim z.2.1 z.2.2.1) λp mp=>z.2.2.2.1.aX p mp.e8;rw[<-he] at fp Y aw3;refine od b c st1 fl1 st1' k l kk e2 f fp _ _ λfi rt cK f'=>?_;have fs:=Y.qt R₀ cK;induction fl1 with
  |ret u=>refine f'.elim λkd z=>?_;rw[z.1];exact bz (p:=λM D=>(∀B r,cO c Q (m.ab j t) D.h B->jD c B D.aj M r->J (.ok r) B.s)->J (.ok (.ret kd)) fi.s) e (λq=>q fi (.ret kd) fs ⟨kd,rfl,z.2⟩) q
  |next=>
   rw[f'.1];have hd':W.drop (i+1)=I:=by rw[<-YA,hd];rfl
   exact qs (i+1) ⟨i8 d.aj st1'.aj,st1'.h⟩ fi ((X9 i I.length).trans hi) hd' e ⟨C.ok,C.aM,C.dJ,C.bU,fp.ag.b7 cK,f'.2.i8⟩ (dv.frame _ kk.h fi.h (dv.frame _ E kk.h st2' λb f H e=>f.elim (λf=>ownK aw2 a'.b7 b f H e) λf=>fpK X Y b f H e) λb f H e=>f.elim (λf=>ownK aw3 cK b f H e) λf=>fpK Y fs b f H e) (aw3.step cK.step) fs
end
def tp:List String:=Zx ["enumerate","zip","dict_itemiterator","dict_reverseitemiterator","odict_iterator","itertools.zip_longest","itertools.pairwise"]
section
variable{c:cu}{k n:Nat}{A:YS}{X P i:Z}{w B m O:aL}{N H:List Y4}{F:Y4->Prop}{G:Y5}{t:Tok}{D:YU}{v:V}{z:Y3}
set_option backward.match.sparseCases true in
def PI{v:Y3}{s:Za}{Q:Unit->Y2}{E:YV}(h:s.heap.get? b=some e)(L:e.cls=.type f)(X:tp.contains f=false)(q:Q () s):Zs c (letOwnedTupleGo g (.ref b) v) Q E s:=by
 have S:∀(a:Y4)(d:Data),Zs c (match Value.type f,d with
   |.type n,.fields D=>
    if tp.contains n&&D[0]?==some (rawInt a)then do
     rule "for.unpacks-the-owned-tuple"
     updateField b 0 .none
    else pure ()
   |_,_=>pure ()) Q E s:=λa d=>by
  induction d with
  |fields D=>
   refine(?_:wpAny _ _ (if(tp.contains f&&_)=true then _ else _) ..)
   exact X▸Wo q
  |_=>exact Wo q
 have ek:∀l k p,Zs c (letOwnedTupleGo (.Tuple l k p) (.ref b) v) Q E s:=λl k p=>by
  induction v with|ref a=>exact Wi (wpAny_load h (by exact L▸S a e.data))|_=>exact Wo q
 induction g using Expr.casesOn with|Tuple l k p=>exact ek l k p|List l p=>exact ek l 0 p|_=>exact Wo q
def Oj{bD:Nat->Y5->Prop}{s:String}(n:Walks c.X.prog c.X.w c.A f r [f] l g bD)(X:l=D.length)(R:∀b∈r,b=f\/b∈H)
  (p:∀a h,bD a h->∃d,h.get? f=some d/\d.cls=.type s)(u:tp.contains s=false)(y:∀a v x,g a v->D[a]?=some x->o c.X m x v):kg c f [f] H m D false bD (λa _ h=>bD (a+1) h) where
 frame:=λa h G j k=>n.frame a h G j λb i d e=>k b ((R b i).imp (λz=>by exact z▸Ws.mpr rfl) id) d e
 e8:=λa h j b i=>by exact(Ws.mp i)▸(p a h j).elim λd e=>⟨d,e.1⟩
 wi:=λa v h j b i=>by exact(Ws.mp i)▸(p _ h j).elim λd e=>⟨d,e.1⟩
 item:=λa x w Q E B j t N F=>n.item a w.s Q E (by exact X▸(List.getElem?_eq_some_iff.mp B).1) j λv G I A C k=>F v G I (λ_=>False) (λ_ z=>z.elim) (((y a v x A B).ext t).ext (.bV N k)) C k
 go:=λJ a v w Q E _ j F=>(p _ _ j).elim λd e=>PI e.1 e.2 u (F w.s.heap j λ_ _ _ e=>e)
 self:=λa w Q E j q=>n.self a w.s Q E j q
 done:=λw Q E j F=>n.done w.s Q E (by exact X▸j) F
structure g8(c:cu)(X:Z)(w:aL)(P:Z)(B:aL)(D:YU)(v:V)(ek:Bool)(a:Y4):Prop where
 dh:∃(N H:List Y4)(bD:Nat->Y5->Prop)(o4:Nat->Y3->Y5->Prop),kg c a N H B D ek bD o4/\bD 0 B.h/\dI c.f N P B/\(∀b∈N,w.h.get? b=none)/\(∀b∈H,b∉N/\(B.G.a0 b\/∃q,v=.ref q/\cT P q/\B.G.aX q=b)/\∃d,B.h.get? b=some d)
 aF:aT c X w P B
def g8.jd{ek:Bool}(J:aP c X w)(u:aT c X w i O)(o:g8 c i O P B D v ek a'):g8 c X w P B D v ek a':=
 ⟨o.dh.elim λN j=>j.elim λH j=>j.elim λbD j=>j.elim λC j=>⟨N,H,bD,C,j.1,j.2.1,j.2.2.1,λM U=>u.step.iX (j.2.2.2.1 M U),j.2.2.2.2⟩,u.trans J o.aF⟩
def se(I:aP c X w)(a:∀b∈N,w.h.get? b=none/\∃d,G.get? b=some d):dI c.f N X (w.ab G t):=λb g=>by
 have z:=a b g;refine⟨z.2,λy=>I.jW.elim λd e=>cj e (y▸z.1),λy=>(I.dy b y).1.elim λd e=>cj e z.1,⟨λf=>(I.aH.bI b f).1.elim λd e=>cj e z.1,λp l y=>I.aH.kS z.1 l y⟩,?_⟩;generalize i:c.f.g.get? b=h;induction h with|none=>rfl|some d=>exact I.aM.elim λ_ F=>cj (F.keep b d i) z.1
def ja(X:Z)(w:aL)(v:V)(a:Y4):Prop:=w.G.a0 a\/∃q,v=.ref q/\cT X q/\w.G.aX q=a
def yU(R:bB c.X X w)(e:gz v X=some y)(p:o c.X w v (.ref a)):ja X w v a:=by
 induction v using V.casesOn with
 |ah=>exact p.yV (p:=λu=>u=Value.ref a->ja X w _ a) (λ_ _ f _ _ _ _ e=>.inl (Value.ref.inj e▸f)) rfl
 |ae=>exact p.ic (p:=λu=>u=Value.ref a->ja X w _ a) (λ_ _ f _ _ _ e=>.inl (Value.ref.inj e▸f)) rfl
 |ay=>exact p.gp (p:=λu=>u=Value.ref a->ja X w _ a) (λ_ _ f _ _ _ e=>.inl (Value.ref.inj e▸f)) rfl
 |ref q=>
  have e:(match X.get q with|some (.ae D _)=>some (iO.L D)|some (.ah k T _)=>some (.D k T)|_=>none)=some y:=e
  refine p.w3 (p:=λu=>u=Value.ref a->ja X w (.ref q) a) (λA I B=>?_) rfl;have S:∀{H},X.get q=some H->w.G.aO q=some (w.G.aX q)->cT X q->ja X w (.ref q) a:=λs z m=>.inr ⟨q,rfl,m,Wc (z.symm.trans (Value.ref.inj B▸I))⟩;generalize s:X.get q=N;induction N with
  |none=>rw[s] at e;exact ns e
  |some H=>rw[s] at e;induction H with
   |ae D l=>exact S s (R.slot q _ s).1 ⟨_,s⟩
   |ah P T l=>exact S s (R.slot q _ s).1 ⟨_,s⟩
   |ins=>exact ns e
 |_=>exact ns e
def tZ{bD:Nat->Y5->Prop}{k:String}(I:aP c X w)(n:Walks c.X.prog c.X.w c.A (Zw w.s) r [(Zw w.s)] g f bD)(q:g=D.length)(R:∀b∈r,b=(Zw w.s)\/b∈H)
  (C:∀d h,bD d h->∃a,h.get? (Zw w.s)=some a/\a.cls=.type k)(p:tp.contains k=false)(s:∀d L x,f d L->D[d]?=some x->o c.X w x L)(j:bD 0 (w.s.heap.push y))(u:y.isFreed=false)(l:∀b∈H,ja X w v b/\∃a,w.h.get? b=some a):g8 c X w X (w.ab (w.s.heap.push y) t) D v false (Zw w.s):=by
 have i:c3 w.h (w.s.heap.push y):=c3.push _ _;have T:aT c X w X (w.ab (w.s.heap.push y) t):=.all I i;refine⟨⟨[(Zw w.s)],H,bD,_,Oj n q R C p λd L x A B=>(s d L x A B).ext (I.ext T),j,se I λb G=>by refine(Ws.mp G)▸?_;exact⟨hl _,y,Heap.get?_push_size _ u⟩,λb G=>by exact(Ws.mp G)▸hl _,λb G=>?_⟩,T⟩
 have z:=l b G;exact⟨λm=>z.2.elim λa e=>cj e (by exact(Ws.mp m)▸hl _),z.1,z.2.elim λa e=>⟨a,i b a e⟩⟩
def wK{a b:Y4}:∀d∈[a,b],d=a\/d∈[b]:=λd h=>Wz.mp h
variable{Q:YV}{E:YV}
def Rf(I:aP c X w)(N:c.A.handled=none)(T:ja X w v a)(f:w.h.PlainList a d.toArray)(F:aK c.X w D d)(K:∀B I,g8 c X w X B D v false I->Q (.ref I) B.s):Zs c (pyIter (.ref a)) Q E w.s:=by
 refine YJ f.isList (K (w.ab _ w.s.toks) _ (tZ I (Walks.list N (Zw w.s) a (Wv (f.elim λo s=>WO s)) d.toArray) (by rw[WB,F.length]) wK (λi h j=>j.1.elim λo z=>⟨o,z.1,z.2.1⟩) (by decide) (λi u x n e=>?_) ⟨⟨_,Heap.get?_push_size _ rfl,rfl,rfl⟩,f.isList.push _⟩ rfl λb G=>by exact(Ws.mp G)▸⟨T,f.elim λo s=>⟨_,s⟩⟩))
 exact(F.lM e).elim λg z=>by
  have n:d[i]?=some u:=by rw[List.getElem?_toArray] at n;exact n
  exact Wc (z.1.symm.trans n)▸z.2
def Ri(I:aP c X w)(N:c.A.handled=none)(T:ja X w v a)(f:w.h.IsTuple a d.toArray)(F:aK c.X w D d)(K:∀B I,g8 c X w X B D v false I->Q (.ref I) B.s):Zs c (pyIter (.ref a)) Q E w.s:=by
 refine wpAny_pyIter_tuple f (K (w.ab _ w.s.toks) _ (tZ I (Walks.tuple N (Zw w.s) a (Wv (f.elim λo s=>WO s.1)) d.toArray) (by rw[WB,F.length]) wK (λi h j=>j.1.elim λo z=>⟨o,z.1,z.2.1⟩) (by decide) (λi u x n g=>?_) ⟨⟨_,Heap.get?_push_size _ rfl,rfl,rfl⟩,zR f λo e=>c3.push _ _ _ _ e⟩ rfl λb G=>by exact(Ws.mp G)▸⟨T,f.elim λo s=>⟨_,s.1⟩⟩))
 exact(F.lM g).elim λk z=>by
  have n:d[i]?=some u:=by rw[List.getElem?_toArray] at n;exact n
  exact Wc (z.1.symm.trans n)▸z.2
def Ow:∀{a:Nat}{x:V},(ib l)[a]?=some x->∃k v,l[a]?=some (k,v)/\x=AD k:=by
 induction l with
 |nil=>exactλe=>ns e
 |cons p r S=>exactλ{a x} e=>match a,e with
  |0,e=>⟨p.1,p.2,rfl,(Wc e).symm⟩
  |a+1,e=>S e
def R8{D:YT}:∀{f:List (aE×Y3)},b2 g w D f->∀{d:Nat}{k:aE}{v:V},D[d]?=some (k,v)->∃L,f[d]?=some (k,L):=by
 induction D with
 |nil=>exactλ_ _ _ _ e=>ns e
 |cons p D S=>
  intro f r d k v e;refine r.dK (q:=λf=>∃L,f[d]?=some (k,L)) λc f a b=>?_;induction d with|zero=>exact⟨_,Wd (λq=>some (q,_)) (Wd Prod.fst (Wc e))⟩|succ d=>exact S b e
def Rc(I:aP c X w)(N:c.A.handled=none)(R:g≠.T)(V:(a==sysModules)=false)(d:ew c.X w g a f)(C:b2 c.X w l f)(J:ja X w v a)(K:∀B I,g8 c X w X B (ib l) v false I->Q (.ref I) B.s):Zs c (pyIter (.ref a)) Q E w.s:=by
 have q:∀{T:Type} [DecidableEq T]{r:KeyKind c.X.prog c.X.w T}{D:List (T×Y3)}{s:T->aE},w.h.DictOf r a D->f=D.map (λp=>(s p.1,p.2))->(∀{z:T}{u:Y3},r.is z u->o c.X w (AD (s z)) u)->Zs c (pyIter (.ref a)) Q E w.s:=λ{T _ r D s} L H M=>L.dictAt.elim λS A=>by
  refine wpAny_pyIter_dict V A (K (w.ab _ w.s.toks) _ (tZ (k:="dict_keyiterator") (H:=[a]) I (Walks.dictKeys (prog:=c.X.prog) (w:=c.X.w) (knd:=r) N (Zw w.s) a (Wv A.lt_size) D S) (by rw[E5,C.length,H,WG]) wK (λi h j=>j.1.elim λU z=>⟨U,z.1,z.2.1⟩) (by decide) (λi u x n O=>?_) ⟨⟨_,Heap.get?_push_size _ rfl,rfl,rfl⟩,A.push _⟩ rfl λb G=>by exact(Ws.mp G)▸⟨J,d.has⟩))
  refine n.elim λz n=>n.elim λW m=>(Ow O).elim λP y=>y.elim λY y=>(R8 C y.1).elim λB k=>?_;rw[H,List.getElem?_map,m.1] at k;have F:s z=P:=Wd Prod.fst (Wc k);rw[y.2,<-F];exact M m.2
 induction g with
 |T=>exact absurd rfl R
 |I=>
   refine d.elim λD d=>q (s:=aE.i) d.1 d.2 λ{z u} e=>?_;induction u with
   |int i t=>exact(beq_iff_eq.mp (e:(i==z)))▸.int
   |_=>exact bb e
 |S=>
   refine d.elim λD d=>q (s:=aE.s) d.1 d.2 λ{z u} e=>?_;induction u with|str i t=>exact(beq_iff_eq.mp (e:(i==z)))▸.str|_=>exact bb e
def RV:∀{L:Int}{a:Nat}{x:V},(i0 L n)[a]?=some x->x=.int (L+a):=by
 induction n with
 |zero=>exactλe=>ns e
 |succ n S=>exactλ{L a x} e=>match a,e with
  |0,e=>(Wc e).symm.trans (by rw[YB,YQ])
  |a+1,e=>(S e).trans (Wd V.int (by rw[Int.natCast_add,Int.add_assoc,YP (a:Int)];rfl))
def RW:∀{L:Int},(i0 L n).length=n:=by
 induction n with|zero=>exact rfl|succ n S=>exact Wd Nat.succ S
def Gm{t u v:Tok}(I:aP c X w)(N:c.A.handled=none)(F:IsRange w.h r a b 1 t u v)(d:-(2 ^ 62)<=a/\a<2 ^ 62)(G:-(2 ^ 62)<=b/\b<2 ^ 62)(f:D=i0 a (b-a).toNat)(K:∀B I,g8 c X w X B D .none false I->Q (.ref I) B.s):Zs c (pyIter (.ref r)) Q E w.s:=by
 subst f;refine wpAny_pyIter_range F (small_one d.1 d.2 G.1 G.2) (K (w.ab _ w.s.toks) _ (tZ (H:=[]) I (Walks.range (prog:=c.X.prog) (w:=c.X.w) N (Zw w.s) a 1 (b-a).toNat) RW.symm (λb G=>.inl (Ws.mp G)) (λi h j=>⟨_,j,rfl⟩) (by decide) (λi u x n f=>?_) ?_ rfl λb G=>nomatch G))
 .exact n.elim λk e=>by rw[RV f,e,Int.mul_one];exact .int
 .have O:(a+((0:Nat):Int)*1)=a:=by rw[Int.mul_one,YB,YQ]
  have g:(((b-a).toNat:Int)-((0:Nat):Int))=Builtin.Range.rangeSize a b 1:=by clear K N d G F I;rw[rangeSize_one];split<;>simp<;>lia
  rw[O,g];exact Heap.get?_push_size _ rfl
end
section
variable{c:cu}{k n:Nat}{A:YS}{X T d h:Z}{w B m R:aL}{P N:List Y4}{L:Y5}{t:Tok}{I:YU}{v:V}{H:Y3}
def L':∀{k:Int},(mK I k).length=I.length:=by
 induction I with|nil=>exact rfl|cons x I S=>exact Wd Nat.succ S
def L9:∀{k:Int}{i:Nat}{x:V},(mK I k)[i]?=some x->∃y,I[i]?=some y/\x=.ay [.int (k+i),y]:=by
 induction I with
 |nil=>exactλe=>ns e
 |cons y I S=>exactλ{k i x} e=>match i,e with
  |0,e=>⟨y,rfl,(Wc e).symm.trans (by rw[YB,YQ])⟩
  |i+1,e=>(S e).elim λz q=>⟨z,q.1,q.2.trans (Wd (λj=>V.ay [.int j,z]) (by rw[Int.natCast_add,Int.add_assoc,YP (i:Int)];rfl))⟩
def uz{a b d:Y4}(h:d∈[a,b]):d=a\/d=b:=(Wz.mp h).imp id λh=>Ws.mp h
def Oi(N:c.A.handled=none)(J:e≠g)(M:l≠e)(O:l≠g)(r:aK c.X m I p)(W:p.length<=b0):
  kg c e [e,g] [l] m (mK I 0) true (λi f=>(∃s,IsEnum f e g i s)/\f.IsListIter g l i/\f.IsList l p.toArray)
   (λi v f=>∃a,v=.ref a/\(∃x,IsEnumOut f e g ((i:Int)+1) x a)/\f.IsListIter g l (i+1)/\f.IsList l p.toArray/\a≠e/\a≠g):=by
 have n:=WalksT.enumerate (prog:=c.X.prog) (w:=c.X.w) N e g l J M O p.toArray;refine⟨λi f L j k=>n.frame i f L j λb G o C=>k b ((Wz.mp G).elim (λz=>.inl (z▸.head _)) λG=>(Wz.mp G).elim (λz=>.inl (z▸.tail _ (.head _))) .inr) o C,λi f j b G=>?_,λi v f j b G=>?_,λi x w Q E S j B P F=>?_,λY i v w Q E ek j F=>?_,λi w Q E j q=>n.self i w.s Q E j q,λw Q E j F=>?_⟩
 .exact(uz G).elim (λz=>z▸j.1.elim λs H=>⟨_,H⟩) λz=>z▸j.2.1.elim λo h=>⟨o,h.1⟩
 .exact j.elim λa j=>(uz G).elim (λz=>z▸j.2.1.elim λy H=>⟨_,H⟩) λz=>z▸j.2.2.1.elim λo h=>⟨o,h.1⟩
 .refine(L9 S).elim λy A=>(r.lM A.1).elim λa' u=>?_
  refine n.item i w.s Q E (by exact WB▸(List.getElem?_eq_some_iff.mp u.1).1) j λa Z L U d R V hL K=>?_
  refine d.elim λt d=>d.elim λz d=>?_;have T:p[i]?=some z:=by have y:=d.1;rw[List.getElem?_toArray] at y;exact y
  refine F (.ref a) L U (λb=>b=a) (λb G=>(G:b=a)▸⟨Heap.get?_none_of_le R,V.elim λo e=>⟨o,e.1⟩⟩) ?_ ⟨a,rfl,hL⟩ K;rw[A.2,Int.zero_add];exact .ay (.inr rfl) (d.2▸V) (Wb rfl) (.cons .int (.cons ((((Wc (u.1.symm.trans T))▸u.2).ext B).ext (.bV P K)) .nil))
 .exact(ek rfl).elim λD x=>x.elim λk x=>x.elim λX x=>j.elim λa j=>by exact x▸j.1▸n.go D k X i a w.s Q E j.2 F
 .refine n.done w.s Q E ?_ F
  rw[L'] at j;rw[WB,<-r.length];exact j
variable{Q:YV}{E:YV}
def Rh(d:aP c X w)(N:c.A.handled=none)(T:ja X w v a)(f:w.h.PlainList a e.toArray)(F:aK c.X w I e)(K:∀B d,g8 c X w X B I.reverse v false d->Q (.ref d) B.s):Zs c (call (.type "reversed") [.ref a] []) (λx g=>Zs c (pyIter x) Q E g) E w.s:=by
 have l:(w.s.heap.push (revObj a ((e.toArray.size:Int)-1))).IsRevIter (Zw w.s) a ((e.toArray.size:Int)-1):=⟨_,Heap.get?_push_size _ rfl,rfl,rfl⟩;refine call_reversed_list f.isList (wpAny_pyIter_revIter l (K (w.ab _ w.s.toks) _ (tZ d (Walks.listRev N (Zw w.s) a (Wv (f.elim λo s=>WO s)) e.toArray) (by rw[WB,Yz,F.length]) wK (λi h j=>j.2.1.elim λo z=>⟨o,z.1,z.2.1⟩) (by decide) (λi u x n k=>?_) ⟨Ww _,by rw[YB,Int.sub_zero];exact l,f.isList.push _⟩ rfl λb G=>by rw[Ws.mp G];exact⟨T,f.elim λo s=>⟨_,s⟩⟩)))
 rw[List.getElem?_reverse (by have z:=(List.getElem?_eq_some_iff.mp k).1;rwa [Yz] at z),F.length] at k
 exact(F.lM k).elim λm z=>by
  have n:e[e.length-1-i]?=some u:=by rw[List.getElem?_toArray,WB] at n;exact n
  exact Wc (z.1.symm.trans n)▸z.2
def Rd(d:aP c X w)(N:c.A.handled=none)(j:ja X w v a)(h:w.h.PlainList a f.toArray)(l:f.length<=b0)(F:aK c.X w I f)(K:∀B d,g8 c X w X B (mK I 0) v true d->Q (.ref d) B.s):Zs c (call (.type "enumerate") [.ref a] []) (λx g=>Zs c (pyIter x) Q E g) E w.s:=by have m:=h.elim λo s=>WO s;refine call_enumerate_list h.isList λP H k n i=>wpAny_pyIter_enum H (K (w.ab P w.s.toks) _ ?_);have T:aT c X w X (w.ab P w.s.toks):=.all d i;have r:∀b∈[(Zw w.s)+1,(Zw w.s)],w.s.heap.get? b=none:=λb G=>(uz G).elim (λz=>z▸Heap.get?_none_of_le (WH _)) λz=>z▸hl _;refine⟨⟨[(Zw w.s)+1,(Zw w.s)],[a],_,_,Oi N (Nat.succ_ne_self _) (Wv (WW m)) (Wv m) (F.ext (d.ext T)) l,⟨⟨.none,H⟩,k,h.isList.at λo e=>i _ _ e⟩,se d λb G=>⟨r b G,(uz G).elim (λz=>z▸⟨_,H⟩) λz=>z▸k.elim λo s=>⟨o,s.1⟩⟩,r,λb G=>?_⟩,T⟩;exact(Ws.mp G)▸⟨λz=>(uz z).elim (Wv (WW m)) (Wv m),j,h.elim λo s=>⟨_,i _ _ s⟩⟩
def ya:Bool->O->O->Prop
 |true,o,r=>bc r=bc o+1
 |false,o,r=>bc o=bc r+1
def tA(e:dX v X i=some d):((∀p,v≠.ref p)/\d=X)\/∃p g r,v=.ref p/\X.get p=some g/\d=X.set p r/\ya i g r/\∀{f:cn}{w:aL},fR f w p g->fR f w p r:=by
 induction v using V.casesOn with
 |ref p=>
  refine .inr ?_;have e:(match(generalizing:=false) X.get p with
   |some (.ae I l)=>match(generalizing:=false) i,l with
    |true,l=>some (X.set p (.ae I (l+1)))
    |false,l+1=>some (X.set p (.ae I l))
    |_,_=>none
   |some (.ah k I l)=>match(generalizing:=false) i,l with
    |true,l=>some (X.set p (.ah k I (l+1)))
    |false,l+1=>some (X.set p (.ah k I l))
    |_,_=>none
   |_=>none)=some d:=e
  generalize s:X.get p=N;induction N with
  |none=>rw[s] at e;exact ns e
  |some g=>
   rw[s] at e;have S:∀{r},some (X.set p r)=some d->ya i g r->(∀{f:cn}{w:aL},fR f w p g->fR f w p r)->∃q u r,V.ref p=.ref q/\X.get q=some u/\d=X.set q r/\ya i u r/\∀{f:cn}{w:aL},fR f w q u->fR f w q r:=λe a b=>⟨p,g,_,rfl,s,(Wc e).symm,a,b⟩
   clear s
   induction g with
   |ae I l=>induction i with
    |true=>exact S e (Eq.refl _) λa=>a
    |false=>induction l with
     |zero=>exact ns e
     |succ l=>exact S e (Eq.refl _) λa=>a
   |ah P I l=>induction i with
    |true=>exact S e (Eq.refl _) λa=>a
    |false=>induction l with
     |zero=>exact ns e
     |succ l=>exact S e (Eq.refl _) λa=>a
   |ins=>exact ns e
 |_=>exact .inl ⟨λ_ z=>V.noConfusion z,(Wc e).symm⟩
def tB(e:dX v X b=some d)(R:bB a X w):bB a d w/\∀q,cT d q↔cT X q:=
 (tA e).elim (λz=>by rw[z.2];exact⟨R,λ_=>Iff.rfl⟩) λz=>z.elim λp z=>z.elim λo z=>z.elim λr z=>by rw[z.2.2.1];exact⟨R.R7 z.2.1 z.2.2.2.2,λq=>kN z.2.1⟩
def cY.gT(O:cY c' X w)(u:∀a',cT d a'↔cT X a'):cY c' d w:=⟨O.a0,λj o=>O.aX j ((u j).mp o)⟩
def Fu(e:dX v X b=some d)(I:aP c X w):aP c d w:=have z:=tB e I.aH;⟨I.aM,z.1,I.own.gT z.2,λp l=>I.new p ((z.2 p).mp l),λa y=>have u:=I.dy a y;⟨u.1,u.2.1,u.2.2.1.gT z.2,u.2.2.2⟩⟩
def HL(e:dX v X true=some d)(j:dX v T false=some h)(S:cG d w T B g):cG X w h B g:=by
 refine(tA e).elim (λz=>(tA j).elim (λc=>by refine c.2▸z.2▸?_;exact S) λc=>c.elim λp c=>c.elim λo c=>c.elim λr c=>absurd c.1 (z.1 p)) λz=>z.elim λp z=>z.elim λo z=>z.elim λr z=>(tA j).elim (λc=>absurd z.1 (c.1 p)) λc=>c.elim λR c=>c.elim λu c=>c.elim λF c=>?_
 have l:p=R:=by have q:=z.1.symm.trans c.1;exact Wd (λ|V.ref p=>p|_=>0) q
 subst l;have s:=z.2.1;have H:=c.2.1;rw[z.2.2.1] at S;refine c.2.2.1▸?_;have k:=z.2.2.2.1;have C:(X.set p r).get p=some r:=by rw[Z.mR,if_pos rfl]
 refine⟨S.a0,S.aO,S.aX,λb x t E D=>S.keep b x t E λq m=>m.elim λy n=>?_,S.eo,λq K=>(S.new q ((kN H).mp K)).imp (λy=>⟨(kN s).mp y.1,y.2⟩) id,λq a A I f=>?_,S.n,λa y=>(S.jT a y).imp id (Or.imp id λy=>y.elim λq y=>⟨q,(kN s).mp y.1,y.2⟩)⟩
 .have G:=n.1
  rw[Z.mR] at G
  by_cases i:p=q
  .rw[if_pos i] at G
   exact absurd ((Wd bc (Wc G)).symm.trans k|>.symm.trans n.2) (X1 _)
  .rw[if_neg i] at G;exact D q ⟨y,G,n.2⟩
 .rw[Z.mR] at f
  by_cases i:p=q
  .subst i
   rw[if_pos rfl] at f;have P:=S.gT p r u C H;rw[k,c.2.2.2.1] at P;exact(Wd bc (Wc f)).symm.trans ((XC P).trans (Wd bc (Wc (s.symm.trans I))))
  .rw[if_neg i] at f
   exact S.gT q a A (by rw[Z.mR,if_neg i];exact I) f
end
section
variable{c:cu}{k n:Nat}{A:YS}{X R i d h:Z}{w B m Q:aL}{own N:List Y4}{I:Y5}{t:Tok}{H:YU}{v:V}{G:Y3}
def qo{h I:Z}{G:Prop}{P:YU->V->Z->Prop}(e:some (a,b,h)=some (g,l,I))(K:P g l I)(f:P a b h->G):G:=f (b6 (p:=λr:YU×V×Z=>P r.1 r.2.1 r.2.2) e.symm K)
noncomputable def HH:dv->Bool
 |.jl _=>true
 |_=>false
def u4{D:YU}{P:Z}{d:YV}{E:YV}(m:∀e,bT n e)(x:c.af.kindOf b=some .globalImplicit)(O:b∈qN)(j:bootBuiltins b=some (.type q))(r:(b==("__debug__":Y'))=false)(t:b≠"__name__")
  (u:h6 (aD c.X.P c.X.N n).e g ⟨A,X⟩=some (D,P))(o:eO ck (bQ c.X k c.af.kindOf) g l)(s:(cD ck (aJ c.X k) g l).all e3)(C:bJ c k A X w)(v:∀B f,aT c X w P B->aK c.X B D f->Zs c (call (.type q) f []) d E B.s):
  Zs c (eval (.Call (.Name b p) (cD ck (aJ c.X k) g l) [] pos) c.af) d E w.s:=
 XO (yF C x O j r t _ E λQ L h y=>y▸PySem.callWith_type (oE s) (yr m u o s (C.aF h) _ E λF a i z=>z.elim λf z=>z.1▸v F f (h.trans C.ag i) z.2))
def zW(h:n<b0):-(2 ^ 62:Int)<=(.ofNat n:Int)/\(.ofNat n:Int)<2 ^ 62:=⟨YO (by decide) (W4 n),YN (XM.mpr h) (by decide)⟩
def Hg(L:∀e,bT n e){m:YV}{E:YV}(e:xm (aD c.X.P c.X.N n).e T ⟨A,X⟩=some (H,v,R))(q:rH c.X k c.af.kindOf T x)(C:bJ c k A X w)(K:∀B b,g8 c X w R B H v (HH T) b->m (.ref b) B.s):
  Zs c (eval (mh c.X k T x) c.af) (λx g=>Zs c (pyIter x) m E g) E w.s:=by
 induction k with
 |zero=>exact bb q
 |succ k=>
 have G:=C.dJ.bC;have d9:∀{a:Internal.E}{u:V}{P:Z},(aD c.X.P c.X.N n).e a ⟨A,X⟩=some (u,P)->h6 (aD c.X.P c.X.N n).e [a] ⟨A,X⟩=some ([u],P):=λ{a u P} e=>by refine(?_:Y _ _=_);refine e▸?_;rfl
 induction T using dv.casesOn with
 |e a=>
  refine bK e λu P r e=>aA e λco fs e=>(L a).aO r q C.aW _ E λQ x1 f W=>?_;have p:=C.ag.aF f;have W:o c.X Q u x1:=W;refine(kx f.aH fs W).elim λd h=>?_;rw[h.1] at W⊢;have hd:=yU f.aH fs W;have h:=h.2;induction co with
  |L ys=>exact qo (P:=λl v h=>∀B b,g8 c X w h B l v false b->m (.ref b) B.s) e K (λK=>h.elim λfp h=>Rf p G hd h.1 h.2.2 λs b O=>K s b (O.jd C.ag f))
  |T ys=>exact qo (P:=λl v h=>∀B b,g8 c X w h B l v false b->m (.ref b) B.s) e K (λK=>h.elim λfp h=>Ri p G hd h.1 h.2.2 λs b O=>K s b (O.jd C.ag f))
  |D kd kvs=>
   have fv:kd≠.T:=λz=>by subst z;exact Internal.ns e
   have e:some (ib kvs,u,P)=some (H,v,R):=by induction kd<;>first|exact e|exact absurd rfl fv
   exact qo (P:=λl v h=>∀B b,g8 c X w h B l v false b->m (.ref b) B.s) e K (λK=>h.2.elim λl2 N=>Rc p G fv h.1 N.1 N.2.2 hd λs b O=>K s b (O.jd C.ag f))
 |range lo hi=>
  induction lo with
  |none=>
   have F:=ar q;refine bK e λu P r e=>aA e λj I e=>bR e λcK e=>?_;have I:u=.int (.ofNat j):=pd I;refine u4 (g:=[hi]) (l:=[ax x 1]) L (n9 (aN q)) (q:="range") (by decide+kernel) (by decide+kernel) (by decide+kernel) (by decide+kernel) (d9 r) (WM.mpr ⟨ar F,rfl⟩) (WM.mpr ⟨aN F,rfl⟩) C.aW λQ t f J=>?_
   refine(I▸J).hP (q:=λt=>wpAny _ _ (call (.type "range") t []) _ E Q.s) λa' y=>y.dt (p:=λa'=>wpAny _ _ (call (.type "range") [a'] []) _ E Q.s) λl1=>call_range_1 ?_;have p:=C.ag.aF f;have M:aT c P Q P (Q.ab (Q.s.heap.push {cls:=.type "range",data:=.fields #[.int 0 Q.s.toks,.int (Int.ofNat j) l1,.int 1 (Q.s.toks+1)]}) (Q.s.toks+1+1)):=.all p (c3.push _ _);exact qo (P:=λl v h=>∀B b,g8 c X w h B l v false b->m (.ref b) B.s) e K (λK=>Gm (w:=Q.ab _ (Q.s.toks+1+1)) (p.aF M) G (IsRange.new Q.s.heap 0 (Int.ofNat j) 1 ..) ⟨by decide,by decide⟩ (zW (fT cK)) (by rw[Int.sub_zero];rfl) λs b O=>K s b ((O.jd p M).jd C.ag f))
  |some k0=>
   have F:=ar q;have f':=ar F;have hr:=ar f';refine bK e λu P r e=>bK e λh' N e2 e=>aA e λi hi' e=>bR e λcK e=>aA e λD I e=>?_;have hi':u=.int (.ofNat i):=pd hi';have I:h'=.int D:=hE I;refine u4 (g:=[k0,hi]) (l:=[ax x 1,ax x 2]) (D:=[u,h']) (P:=N) L (n9 (aN q)) (q:="range") (by decide+kernel) (by decide+kernel) (by decide+kernel) (by decide+kernel) (by show Y _ _=_;refine r▸?_;show Y (Y _ _) _=_;refine e2▸?_;rfl) (WM.mpr ⟨aN hr,WM.mpr ⟨ar hr,rfl⟩⟩) (WM.mpr ⟨aN F,WM.mpr ⟨aN f',rfl⟩⟩) C.aW λQ t f J=>?_
   refine J.dK (q:=λt=>wpAny _ _ (call (.type "range") t []) _ E Q.s) λfi kk k2 c'=>c'.hP (q:=λkk=>wpAny _ _ (call (.type "range") (fi::kk) []) _ E Q.s) λfl c'=>(hi'▸k2).dt (p:=λfi=>wpAny _ _ (call (.type "range") [fi,fl] []) _ E Q.s) λt1=>(I▸c').dt (p:=λfl=>wpAny _ _ (call (.type "range") [_,fl] []) _ E Q.s) λhF=>call_range_2 ?_;have p:=C.ag.aF f;have M:aT c N Q N (Q.ab (Q.s.heap.push {cls:=.type "range",data:=.fields #[.int (Int.ofNat i) t1,.int D hF,.int 1 Q.s.toks]}) (Q.s.toks+1)):=.all p (c3.push _ _);have fin:∀{l:YU},-(2 ^ 62:Int)<=D/\D<2 ^ 62->l=i0 (.ofNat i) (D-.ofNat i).toNat->some (l,V.none,N)=some (H,v,R)->Zs c (pyIter (.ref (Zw Q.s))) m E (Q.ab (Q.s.heap.push {cls:=.type "range",data:=.fields #[.int (Int.ofNat i) t1,.int D hF,.int 1 Q.s.toks]}) (Q.s.toks+1)).s:=λU kz e=>qo (P:=λl v h=>∀B b,g8 c X w h B l v false b->m (.ref b) B.s) e K (λK=>Gm (w:=Q.ab _ (Q.s.toks+1)) (p.aF M) G (IsRange.new Q.s.heap (Int.ofNat i) D 1 ..) (zW (fT cK)) U kz λs b O=>K s b ((O.jd p M).jd C.ag f))
   induction D with
   |ofNat j=>exact bR e λU e=>fin (zW (fT U)) (Wd (i0 (.ofNat i)) (Int.toNat_sub j i).symm) e
   |negSucc j=>exact bR e λU e=>fin ⟨Int.le_of_lt (by have z:=fT U;unfold b0 at z;omega),YN (Xh j) (by decide)⟩ (by refine(show(Int.negSucc j-Int.ofNat i).toNat=0 from Int.toNat_of_nonpos (Int.sub_nonpos_of_le (YO (Int.le_of_lt (Xh j)) (W4 i))))▸?_;rfl) e
 |jl a=>
  have F:=ar q;refine bK e λu P r e=>aA e λys S e=>?_;refine u4 (g:=[a]) (l:=[ax x 1]) L (n9 (aN q)) (q:="enumerate") (by decide+kernel) (by decide+kernel) (by decide+kernel) (by decide+kernel) (d9 r) (WM.mpr ⟨ar F,rfl⟩) (WM.mpr ⟨aN F,rfl⟩) C.aW λQ t f J=>J.hP (q:=λt=>wpAny _ _ (call (.type "enumerate") t []) _ E Q.s) λa' y=>?_
  refine(kx f.aH (sv S) y).elim λd h=>?_;rw[h.1] at y⊢;exact qo (P:=λl v h=>∀B b,g8 c X w h B l v true b->m (.ref b) B.s) e K (λK=>h.2.elim λfp h=>Rd (C.ag.aF f) G (yU f.aH (sv S) y) h.1 h.2.1 h.2.2 λs b O=>K s b (O.jd C.ag f))
 |rP a=>
  have F:=ar q;refine bK e λu P r e=>aA e λys S e=>?_;refine u4 (g:=[a]) (l:=[ax x 1]) L (n9 (aN q)) (q:="reversed") (by decide+kernel) (by decide+kernel) (by decide+kernel) (by decide+kernel) (d9 r) (WM.mpr ⟨ar F,rfl⟩) (WM.mpr ⟨aN F,rfl⟩) C.aW λQ t f J=>J.hP (q:=λt=>wpAny _ _ (call (.type "reversed") t []) _ E Q.s) λa' y=>?_
  refine(kx f.aH (sv S) y).elim λd h=>?_;rw[h.1] at y⊢;rw[AS,WQ] at e;exact qo (P:=λl v h=>∀B b,g8 c X w h B l v false b->m (.ref b) B.s) e K (λK=>h.2.elim λfp h=>Rh (C.ag.aF f) G (yU f.aH (sv S) y) h.1 h.2.2 λs b O=>K s b (O.jd C.ag f))
def Ut:∀{e:E}{x:Y9},bQ b k f e x->p6 (aJ b k e x):=by
 induction k with
 |zero=>exactλo=>bb o
 |succ k S=>
  intro e x o;induction e using E.casesOn with
  |bI a=>exact S o
  |comp g l d T B=>
   have K:=aN o;refine(?_:p6 (match ma x with|some c=>_|none=>x)=true)
   generalize h:ma x=N;induction N with
   |none=>have K:=h▸K;exact bb K
   |some c=>rfl
  |k9=>exact bb o
  |_=>exact(rfl:true=true)
def Br(o:rH b k e T x):p6 (mh b k T x):=by
 induction k with
 |zero=>exact bb o
 |succ k=>induction T using dv.casesOn with
  |e a=>exact Ut o
  |range L A=>induction L<;>rfl
  |_=>rfl
def zg(h:p6 x)(v:Y3):foldedSetIterable x af v=pure v:=by induction x using Expr.casesOn<;>first|exact(rfl:pure v=(pure v:Sem Y3))|exact bb h
def bB.pL(C:bB c' X w)(U:∀a'∈own,cY a' X w):bB c' X (w.ab (hideAll w.h own) t):=
 ⟨λV o u=>(C.slot V o u).ext ⟨λ_ M=>M,λ_ _ M=>M,λa' o J u=>hideAll_get _ u λj=>(U a' j).a0 J⟩ rfl λM W=>hideAll_get _ W λj=>(U _ j).aX V ⟨o,u⟩ rfl,C.inj,λa' J=>have j:=C.bI a' J;⟨j.1.elim λo u=>⟨o,hideAll_get _ u λj=>(U a' j).a0 J⟩,j.2⟩,C.gK⟩
def cG.pL(S:cG X w i Q Ex)(o:∀a'∈own,w.h.get? a'=none):cG X w i (Q.ab (hideAll Q.h own) t) Ex:=by have C:∀a' j,w.h.get? a'=some j->a'∉own:=λa' j u W=>cj u (o a' W);exact⟨S.a0,S.aO,S.aX,λa' j u U M=>hideAll_get _ (S.keep a' j u U M) (C a' j u),λa' j u=>(S.eo a' j u).elim λV J=>⟨V,hideAll_get _ J (C a' j u)⟩,S.new,S.gT,S.n,S.jT⟩
def Fv(e:dX (.ref q) X true=some d)(m:qF d p):p≠q:=λz=>(tA e).elim (λy=>absurd rfl (y.1 q)) λy=>y.elim λR y=>y.elim λo y=>y.elim λr y=>m.elim λu H=>by have S:q=R:=Wd (λ|V.ref p=>p|_=>0) y.1;have P:=H.1;rw[y.2.2.1,z,<-S,Z.mR,if_pos rfl] at P;exact absurd ((Wd bc (Wc P)).trans H.2|>.symm.trans y.2.2.2.1).symm (X1 _)
def I1(P:∀e,bT n e)(R:∀b,o2 n b):jG n (.b5 g T b):=λc j H K k y w e o C=>by
 have J:=ar o;have A:=ar J;refine aA e λr X e=>aA e λd v e=>bK e λf1 s2 Y e=>aA e λh F e=>?_;refine bz (p:=λH K=>g9 c (exec (.For (g0 c.X g (bZ y 0)) (mh c.X k T (bZ y 1)) (kb c.X k b (mz y)) [] y.pos) c.af) j.h w K H) e λfp E q=>?_;refine wpAny_For (Hg P X (aN A) C.aW λQ I O=>?_) (zg (Br (aN A)));refine O.dh.elim λown z=>z.elim λN z=>z.elim λSt' z=>z.elim λMid z=>?_;have B:=z.2.2.1;have L:=C.aF O.aF;have s:=tB v L.ag.aH;have M:bJ c k j.aj d Q:=⟨C.ok,C.aM,C.aW.dJ,C.bU,Fu v L.ag,L.dc⟩;have D:dI c.f own d Q:=λb G=>have u:=B b G;⟨u.1,u.2.1,u.2.2.1,u.2.2.2.1.gT s.2,u.2.2.2.2⟩;have U:bB c.X d (Q.ab (hideAll Q.h own) Q.s.toks):=s.1.pL λb G=>(D b G).2.2.2.1;have V:cO c d (Q.ab (hideAll Q.h own) Q.s.toks) d Q:=⟨s.1,⟨λ_ x=>x,λ_ _ x=>x,λ_ _ _=>rfl,λb o e _ _=>of_hideAll _ e,λb o e=>⟨o,of_hideAll _ e⟩,λp l=>.inl ⟨l,rfl⟩,λp o fs e W=>Wd bc (Wc (Eq.trans (Eq.symm W) e)),Wr _,λa x=>.inl x⟩,L.ag.aM,⟨_,_,rfl⟩⟩;refine MT R (aN J) (ar A) z.1 (λz=>?_) U (λb G=>hideAll_none _ G) (λa o Z e=>hideAll_get _ e λz=>(B a z).2.2.2.1.a0 Z) (λb G=>?_) (λb z=>(L.ag.qb b z).a0) (λfi c' t a'=>?_) r.1 0 ⟨j.aj,d⟩ Q (Wj _) rfl Y M z.2.1 D V
 .have cK:=aN o
  cases T with
  |jl a=>exact(DJ cK).elim λ_ z=>z.elim λ_ z=>z.elim λ_ e=>e▸⟨_,_,_,rfl⟩
  |_=>exact bb z
 .have f:=z.2.2.2.2 b G
  have i:=f.2.1;exact⟨f.1,λy=>i.elim (L.ag.qb b y).a0 λi=>i.elim λq i=>(L.ag.qb b y).aX q i.2.1 i.2.2,λp m y=>i.elim (λi=>(L.ag.aH.bI b i).2 p ((s.2 p).mp m.e8) y) λi=>i.elim λq i=>(Fv (i.1▸v) m (L.ag.aH.inj p q ((s.2 p).mp m.e8) i.2.1 (y.trans i.2.2.symm))),f.2.2.elim λo e=>⟨o,hideAll_get _ e f.1⟩⟩
 .have S:=(O.aF.b7 C.ag).step.pL (own:=own) (t:=Q.s.toks) z.2.2.2.1
  exact q fi c' ⟨(tB F t.aH).1,S.trans C.ag.aH (HL v F t.step),t.aM,O.aF.dd.trans (fj.trans ⟨_,_,rfl⟩ t.dd)⟩ a'
end
def gy(d:Env)(O:List (Y'×Y6)):List (Y'×Y4)->List (Y'×Y4):=Zx (O.rec (λF=>F) λm _ S F=>if m.2==.free then S ((m.1,(d.cells.lookup m.1).getD 0)::F)else S F)
def sr(h:(b==NameKind.free)):gy af ((a,b)::r) acc=gy af r ((a,(af.cells.lookup a).getD 0)::acc):=if_pos h
def sq(h:¬(a==NameKind.free)=true):gy af ((b,a)::r) acc=gy af r acc:=if_neg h
section
variable{m:Program}{w:Y7}{d:Env}{A:Zb}{s:Za}
def KU(g:Y'×Y6->List (Y'×Y4)->Sem (ForInStep (List (Y'×Y4))))(k:∀b f c,g (b,f) c=if(f==.free)=true then(do let a<-cellOf d b;pure (.yield ((b,a)::c)))else pure (.yield c))(j:List (Y'×Y6)):
  ∀(i:List (Y'×Y4)),(∀x∈j,x.2=.free->∃c,d.cells.lookup x.1=some c)->forIn j i g=pure (gy d j i):=by
 induction j with
 |nil=>intro i _;rw[YC];rfl
 |cons p r S=>
  intro i h;induction p with
  |mk b f=>
   rw[List.forIn_cons,k]
   by_cases R:(f==NameKind.free)=true
   .rw[if_pos R,sr R]
    refine(h (b,f) (.head _) (beq_iff_eq.mp R)).elim λc L=>?_;have e:cellOf d b=pure c:=by unfold cellOf;rw[L]
    rw[e,L];exact S _ λx B=>h x (.tail _ B)
   .rw[if_neg R,sq R]
    exact S _ λx B=>h x (.tail _ B)
set_option backward.match.sparseCases true
def KV(h:∀x∈b.names,x.2=.free->∃c,d.cells.lookup x.1=some c):closureFor b d=pure (gy d b.names []):=by
 have e:forIn b.names ([]:List (Y'×Y4)) (λ(x:Y'×Y6)(X:List (Y'×Y4))=>match x with
  |(l,f)=>if(f==NameKind.free)=true then(do let a<-cellOf d l;pure (ForInStep.yield ((l,a)::X)))else pure (ForInStep.yield X))=(pure (gy d b.names []):Sem _):=KU _ (λn k c=>rfl) b.names [] h
 unfold closureFor;exact(Wd (λt:Sem (List (Y'×Y4))=>t>>=λs=>pure s) e).trans rfl
def K9{E:YV}
  (q:Q (newEnv scope (Zw s) d.globals (cellsFrom ((Zw s)+1) scope.names N) d.qual none .none (some d) builtinsNs) {s with heap:=pushCells (s.heap.push Zv) scope.names}):
  wpAny (model m w) A (newFunctionEnv scope d.globals N [] d.qual none .none (some d)) Q E s:=by
 simp only [newFunctionEnv,Option.isSome_some,if_true]
 refine Wi (wpAny_alloc ?_);refine Wi (wpAny_layCells _ (λl b P=>by cases vR:b==NameKind.cell<;>simp [vR]) _ _ _ _ ?_)
 rw[show({s with heap:=s.heap.push Zv}:Za).heap.objs.size=(Zw s)+1 from Yd ..]
 rw[YC];exact Wi (Wo (Wo q))
def CL
  (h:wpAny (model m w) A (pyNext T) (λr g=>match r with
   |none=>b (.ok .next) g
   |some i=>wpAny (model m w) A (letOwnedTupleGo target T i) (λ_ l=>wpAny (model m w) A (assign target d i) (λ_ q=>
    wpAny (model m w) A (forIn ifs true λc r=>if r=true then do let f<-isTrue c d (eval c d);pure (ForInStep.yield f)else pure (ForInStep.yield r)) (λf p=>
     if f=true then wpAny (model m w) A (eval elt d) (λx t=>wpAny (model m w) A (call (.builtin "list.append") [acc,x]) (λ_ H=>codeAny (model m w) A (.compLoop (.ListComp elt [⟨target,iter,ifs,0⟩] scope pos) 0 T acc d) b H) (Zu m w A d b) t) (Zu m w A d b) p
     else codeAny (model m w) A (.compLoop (.ListComp elt [⟨target,iter,ifs,0⟩] scope pos) 0 T acc d) b p) (Zu m w A d b) q) (Zu m w A d b) l) (Zu m w A d b) g) (Zu m w A d b) s):
  codeAny (model m w) A (.compLoop (.ListComp elt [⟨target,iter,ifs,0⟩] scope pos) 0 T acc d) b s:=by
 refine Yt ?_;refine wpAny_noted ?_;rw[compTurn_list];refine Wi (XI (Wi (W6 h (λr g k=>?_) λ_ _ S=>S)));induction r with
 |none=>exact Wo k
 |some i=>
  refine Wi (W6 k (λ_ l j=>?_) λ_ _ S=>S);refine Wi (W6 j (λ_ q n=>Wi (W6 n (λf p G=>?_) λ_ _ S=>S)) λ_ _ S=>S);induction f with|false=>exact Wo ⟨rfl,G⟩|true=>exact Wi (Wi (W6 G (λx t o=>Wi (W6 o (λ_ H u=>Wo (Wo ⟨rfl,u⟩)) λ_ _ S=>S)) λ_ _ S=>S))
def KS:∀{b:List (Y'×Y4)},(x,a)∈gy d names b->(x,a)∈b\/((x,NameKind.free)∈names/\a=(d.cells.lookup x).getD 0):=by
 induction names with
 |nil=>exactλh=>.inl h
 |cons p r S=>
  intro b h;induction p with
  |mk y k=>
   by_cases R:(k==NameKind.free)=true
   .rw[sr R] at h
    refine(S h).elim (λh=>(Wz.mp h).elim (λe=>.inr ?_) .inl) λh=>.inr ⟨.tail _ h.1,h.2⟩;have O:x=y:=Wd Prod.fst e;have f:a=(d.cells.lookup y).getD 0:=Wd Prod.snd e;rw[f,O,beq_iff_eq.mp R];exact⟨.head _,rfl⟩
   .rw[sq R] at h
    exact(S h).imp id λh=>⟨.tail _ h.1,h.2⟩
def KR:∀{b:List (Y'×Y4)},(x,a)∈b->(x,a)∈gy d names b:=by
 induction names with
 |nil=>exactλh=>h
 |cons p r S=>
  intro b h;induction p with
  |mk y k=>
   by_cases R:(k==NameKind.free)=true
   .rw[sr R];exact S (.tail _ h)
   .rw[sq R];exact S h
def CG:∀{a:List (Y'×Y4)},(x,NameKind.free)∈names->(x,(d.cells.lookup x).getD 0)∈gy d names a:=by
 induction names with
 |nil=>exactλh=>es h
 |cons p r S=>
  intro a h;induction p with
  |mk y k=>
   by_cases R:(k==NameKind.free)=true
   .rw[sr R]
    exact(Wz.mp h).elim (λe=>KR (by rw[show x=y from Wd Prod.fst e];exact .head _)) S
   .rw[sq R]
    exact(Wz.mp h).elim (λe=>absurd (by rw[<-(show NameKind.free=k from Wd Prod.snd e)];rfl) R) S
def KQ(i:∀x y c,d.cells.lookup x=some c->d.cells.lookup y=some c->x=y):∀{a:List (Y'×Y4)},(∀x∈f,x.2=.free->∃c,d.cells.lookup x.1=some c)->(f.map (·.1)).Nodup->
  a.Pairwise (λp q=>p.2≠q.2)->(∀p∈a,d.cells.lookup p.1=some p.2/\∀x∈f,x.1≠p.1)->(gy d f a).Pairwise λp q=>p.2≠q.2:=by
 induction f with
 |nil=>exactλ_ _ h _=>h
 |cons p r S=>
  intro a b D h E;rw[WS,Xc] at D;have g:∀x∈r,x.2=.free->∃c,d.cells.lookup x.1=some c:=λx B=>b x (.tail _ B);induction p with
  |mk y k=>
   by_cases R:(k==NameKind.free)=true
   .rw[sr R]
    refine(b (y,k) (.head _) (beq_iff_eq.mp R)).elim λc L=>?_;have L:=L;rw[L];exact S g D.2 (.cons (λp V e=>(E p V).2 _ (.head _) (i _ _ _ L ((show c=p.2 from e)▸(E p V).1))) h) λp V=>(Wz.mp V).elim (λe=>by rw[e];exact⟨L,λx B e=>D.1 (WN.mpr ⟨x,B,e⟩)⟩) λV=>⟨(E p V).1,λx B=>(E p V).2 x (.tail _ B)⟩
   .rw[sq R]
    exact S g D.2 h λp V=>⟨(E p V).1,λx B=>(E p V).2 x (.tail _ B)⟩
end
def PC{l:List (Y'×Y4)}(h:(x,a)∈l)(u:∀b,(x,b)∈l->b=a):l.lookup x=some a:=by
 induction l with
 |nil=>exact es h
 |cons p r S=>
  rw[XB];cases hxy:x==p.1 with
  |true=>exact Wd some (u p.2 (by rw[beq_iff_eq.mp hxy];exact .head _))
  |false=>exact(Wz.mp h).elim (λe=>by rw[<-e] at hxy;exact absurd ((beq_self_eq_true x).symm.trans hxy) nofun) λh=>S h λb G=>u b (.tail _ G)
noncomputable def gi(d:YZ)(A:YS):YS:=A.filter λp=> !(d.contains p.1)
def Fy(f:z∈d)(A:YS):au (gi d A) z=none:=by
 induction A with
 |nil=>rfl
 |cons p r S=>
  unfold gi at S⊢;rw[Xj]
  by_cases R:(!(d.contains p.1))=true
  .rw[if_pos R]
   have n:p.1≠z:=λe=>by rw[e,Yn.mpr f] at R;exact bb R
   refine(?_:(match Nat.beq p.1 z with|true=>some p.2|false=>au _ z)=none)
   rw[wz n];exact S
  .rw[if_neg R];exact S
def z6(f:z∉d)(A:YS):au (gi d A) z=au A z:=by
 induction A with
 |nil=>rfl
 |cons p r S=>
  unfold gi at S⊢;rw[Xj]
  by_cases R:(!(d.contains p.1))=true
  .rw[if_pos R]
   show(match Nat.beq p.1 z with|true=>some p.2|false=>au _ z)=(match Nat.beq p.1 z with|true=>some p.2|false=>au r z)
   rw[S]
  .rw[if_neg R,S]
   have n:p.1≠z:=λe=>R (by rw[e,XZ,W3];exactλq=>f (Yn.mp q))
   show _=(match Nat.beq p.1 z with|true=>some p.2|false=>au r z)
   rw[wz n]
def JB{ns:YZ}:∀{a:YU}{l i:YS}(G:YS),gJ ns a l=some i->∃b,gJ ns a G=some b/\∀z,(z∈ns\/au G z=au l z)->au b z=au i z:=by
 induction ns with
 |nil=>intro a l i G e;induction a with
  |nil=>exact⟨G,rfl,λz h=>h.elim es λh=>Wc e▸h⟩
  |cons=>exact cB e
 |cons q ns S=>intro a l i G e;induction a with
  |nil=>exact cB e
  |cons x a=>exact(S (VO G q x) (e:gJ ns a (VO l q x)=some i)).elim λc h=>⟨c,h.1,λz f=>h.2 z (by
   by_cases I:q=z
   .exact .inr (by rw[I,pY,pY])
   .exact f.elim (λf=>(Wz.mp f).elim (λe=>absurd e.symm I) .inl) λf=>.inr (by rw[m1 I,m1 I,f]))⟩
def JC{ns:YZ}(f:z∉ns):∀{a:YU}{l G:YS},gJ ns a l=some G->au G z=au l z:=by
 induction ns with
 |nil=>intro a l G e;induction a with
  |nil=>exact Wc e▸rfl
  |cons=>exact cB e
 |cons q ns S=>intro a l G e;induction a with|nil=>exact cB e|cons x a=>exact(S (λh=>f (.tail _ h)) (e:gJ ns a (VO l q x)=some G)).trans (m1 (λe=>f (Wz.mpr (.inl e.symm))) l)
def yw{d:YZ}(e:gJ d b out=some l):∃i,gJ d b (gi d out)=some i/\(∀z,au l z=au i z)/\∀z a,au (gi d out) z=some a->au l z=some a:=
 (JB (gi d out) e).elim λi h=>⟨i,h.1,λz=>(h.2 z (by
  by_cases f:z∈d
  .exact .inl f
  .exact .inr (z6 f out))).symm,λz a A=>by
  have c:z∉d:=λg=>ns ((Fy g out).symm.trans A);rw[JC c e,<-z6 c];exact A⟩
def JY(e:hH g x ⟨out,d⟩=some c):∃i,hH g x ⟨gi g out,d⟩=some ⟨i,d⟩/\c.h=d/\(∀z,au c.aj z=au i z)/\∀z f,au (gi g out) z=some f->au c.aj z=some f:=by
 match g,e with
 |[q],e=>exact b6 (p:=λc:bD=>∃i,hH [q] x ⟨gi [q] out,d⟩=some ⟨i,d⟩/\c.h=d/\(∀z,au c.aj z=au i z)/\∀z f,au (gi [q] out) z=some f->au c.aj z=some f) e ((yw (d:=[q]) (b:=[x]) rfl).elim λi h=>⟨i,Wd (Option.map λl=>bD.mk l d) h.1,rfl,h.2⟩)
 |[],e=>exact aA e λO j e=>aA e λl A e=>b6 (p:=λc:bD=>∃i,hH [] x ⟨gi [] out,d⟩=some ⟨i,d⟩/\c.h=d/\(∀z,au c.aj z=au i z)/\∀z f,au (gi [] out) z=some f->au c.aj z=some f) e ((yw A).elim λi h=>⟨i,by show Y (xh x) _=_;rw[j];show Y (gJ ..) _=_;rw[h.1];rfl,rfl,h.2⟩)
 |a::b::r,e=>exact aA e λO j e=>aA e λl A e=>b6 (p:=λc:bD=>∃i,hH (a::b::r) x ⟨gi (a::b::r) out,d⟩=some ⟨i,d⟩/\c.h=d/\(∀z,au c.aj z=au i z)/\∀z f,au (gi (a::b::r) out) z=some f->au c.aj z=some f) e ((yw A).elim λi h=>⟨i,by show Y (xh x) _=_;rw[j];show Y (gJ ..) _=_;rw[h.1];rfl,rfl,h.2⟩)
def fG.sub(V:fG f' w' af h')(j:∀a' c',Internal.au s' a'=some c'->Internal.au h' a'=some c'):fG f' w' af s':=⟨λa' c' u o=>V.get a' c' u (j a' c' o),V.ns,V.cell⟩
set_option backward.match.sparseCases false
structure fS(c:cu)(g:Y4->Prop)(b:Z)(w:aL)(a:Z)(B:aL):Prop where
 aH:bB c.X a B
 step:cG b w a B g
 aM:∀m,Fr c.f.g c.f.L w.h m->Fr c.f.g c.f.L B.h m
 dd:fj w B
section
variable{c:cu}{k n:Nat}{A:YS}{X T Q r O:Z}{w B m f v h:aL}{P d N:List Y4}{F:Y4->Prop}{R:Y5}{t:Tok}{g:Y4->Prop}{D:Y4}
def fS.qt(C:bB c.X X w)(o:fS c g X w r v)(j:fS c g r v O h):fS c g X w O h:=⟨j.aH,o.step.trans C j.step,λu F=>j.aM u (o.aM u F),o.dd.trans j.dd⟩
def aT.xI(j:aT c X w T B)(u:g c.f.L):fS c g X w T B:=⟨j.aH,j.step.xN λo C=>(C:o=c.f.L)▸u,j.aM,j.dd⟩
def g'.xI(S:g' c X w A g B)(j:c.af.locals≠c.f.L):fS c g X w X B:=⟨S.b7.aH,S.j,S.aM j,S.b7.dd⟩
def fS.eW(M:fS c g Q f X w)(U:dI c.f P X w)(hB0:∀a'∈P,f.h.get? a'=none)(u:kh P w.h R)(V:∀a',F a'->w.h.get? a'=none/\∃c',R.get? a'=some c'):fS c g Q f X (w.bV F R t):=by have S:=M.step;have W:∀a' c',f.h.get? a'=some c'->a'∉P:=λa' c' j J=>cj j (hB0 a' J);refine⟨M.aH.eW (λa' cK=>(U a' cK).2.2.2.1) u V,⟨λa' C=>.inl (S.a0 a' C),S.aO,S.aX,λa' c' j e1 hm=>u a' c' (W a' c' j) (S.keep a' c' j e1 hm),λa' c' j=>(S.eo a' c' j).elim λY Z=>⟨Y,u a' Y (W a' c' j) Z⟩,S.new,S.gT,S.n,λa' C=>C.elim (S.jT a') λC=>.inr (.inl (S.iX (V a' C).1))⟩,λe2 o=>?_,M.dd.trans ⟨_,_,rfl⟩⟩;have o:=M.aM e2 o;exact⟨o.ns.at' λc' j=>u _ c' (λJ=>(U _ J).2.1 rfl) j,λa' c' j=>u a' c' (λJ=>cj j (U a' J).2.2.2.2) (o.keep a' c' j),o.above⟩
def dI.sub(j:dI c.f P X w)(u:∀a'∈d,a'∈P):dI c.f d X w:=λa' o=>j a' (u a' o)
def tX:∀b∈[D],b∈D::P:=λb G=>Ws.mp G▸.head _
def r5(c:cu)(k:Nat)(d:YZ)(r:YS)(g:Y4->Prop)(Q:Z)(f:aL)(D:Y4)(R:Result->Y2)(F a:YU)(T:Z):Prop:=
 ∀(B:aL)(i:YY),bJ c k (gi d r) T B->fS c g Q f T B->dI c.f [D] T B->B.h.PlainList D i.toArray->i.length<=b0->aK c.X B (F++a) i->R (.ok .next) B.s
def La(Q1:∀e,bT n e)(Q2:∀e,Gt n e){cond:Ze E}{pos:Pos}(VT:c.af.locals≠c.f.L)(hm:oz c.X c.af.kindOf l)(he:bQ c.X k c.af.kindOf elt x0)(hcond:∀cd,cond=some cd->ij cd/\bQ c.X k c.af.kindOf cd x3){I:Y4}{xs:YU}{ek:Bool}{St':Nat->Y5->Prop}{Mid:Nat->Y3->Y5->Prop}{f:Y5}
  (dv:kg c I P N m xs ek St' Mid)(htwo:ek=true->∃elts k pos,g0 c.X l x1=Expr.Tuple elts k pos)(R₀:bB c.X Q (m.ab f t))(hB0:∀b∈D::P,f.get? b=none)(hDo:D∉P)(hBk:∀a H,m.G.a0 a->m.h.get? a=some H->f.get? a=some H)
  (fpOk:∀b∈N,b∉P/\¬hb c.f b/\(∀p,qF Q p->m.G.aX p≠b)/\∃H,f.get? b=some H)(nofz:∀b,hb c.f b->¬m.G.a0 b)(V1:g c.af.locals)(V0:∀q∈l,∀a,c.af.cells.lookup (c.X.az q)=some a->g a)(Ey:g c.f.L)(rt:∀b,g b->hb c.f b)(u:YU):∀(i:Nat)(s T:Z)(w:aL)(G rs:YU)(a':YY),
  i+u.length=xs.length->xs.drop i=u->sx (aD c.X.P c.X.N n).e l elt cond out u s=some (rs,T)->bJ c k (gi l out) s w->St' i w.h->dI c.f (D::P) s w->fS c g Q (m.ab f t) s w->w.h.PlainList D a'.toArray->a'.length+u.length<=b0->aK c.X w G a'->r5 c k l out g Q (m.ab f t) D c' G rs T->
  codeAny (Zt c) c.A (.compLoop (.ListComp (aJ c.X k elt x0) [⟨g0 c.X l x1,iter,(cond.map λe=>aJ c.X k e x3).toList,0⟩] scope pos) 0 (.ref I) (.ref D) c.af) c' w.s:=by
 have O:∀(w:aL)(R:Y5)(b:Y4),False->w.h.get? b=none/\∃H,R.get? b=some H:=λ_ _ _ z=>z.elim;have hB1:∀b∈P,f.get? b=none:=λb d=>hB0 b (.tail _ d);induction u with
 |nil=>intro i s T w G rs a' hi hd e C hst fp L x4 kd hr q;refine CL (dv.done w _ _ (hi▸hst) λR Ex K=>?_);have X:=fp.sub λb d=>.tail _ d;exact bz (p:=λrs T=>r5 c k l out g Q (m.ab f t) D c' G rs T->c' (.ok .next) (w.ab R Ex).s) e (λq=>q (w.bV (λ_=>False) R Ex) a' (C.eW X K (O w R)) (L.eW X hB1 K (O w R)) ((fp.sub tX).bV (O w R) λb d=>by rw[Ws.mp d];exact(fp D (.head _)).1.elim λH e=>⟨H,K D H hDo e⟩) (x4.at λH e=>K D H hDo e) (XX kd) (by rw[WQ];exact hr.ext (.bV (λb d=>(X b d).2.2.2.1.a0) K))) q
 |cons x u x8=>
  intro i s T w G rs a' hi hd e C hst fp L x4 kd hr q;have hi2:=(X9 i u.length).trans hi;have hn2:=Wh (WI (X9 a'.length u.length)) kd;have hd':xs.drop (i+1)=u:=by rw[<-YA,hd];rfl
  refine aA e λs1 e1 e=>(JY e1).elim λl1 hj=>?_;have VU:xs[i]?=some x:=by have z:=Wd List.head? hd;rw[List.head?_drop] at z;exact z
  have O':cM m w:=⟨L.step.a0,L.step.aO,λa H x2 e=>L.step.keep a H (hBk a H x2 e) (λz=>nofz a (rt a z) x2) λp mp=>(R₀.bI a x2).2 p mp.e8⟩;have fpK:∀{S fi:aL}{cK k0:Z},fS c g Q (m.ab f t) cK S->fS c g Q (m.ab f t) k0 fi->∀b∈N,∀H,S.h.get? b=some H->fi.h.get? b=some H:=λL1 L2 b d H e=>have z:=fpOk b d;z.2.2.2.elim λx5 q0=>Wc (Eq.trans (Eq.symm (L1.step.keep b x5 q0 (λy=>z.2.1 (rt b y)) z.2.2.1)) e)▸L2.step.keep b x5 q0 (λy=>z.2.1 (rt b y)) z.2.2.1;have ownK:∀{S fi:aL}{cK k0:Z},dI c.f (D::P) cK S->fS c g cK S k0 fi->∀b∈D::P,∀H,S.h.get? b=some H->fi.h.get? b=some H:=λa qs b d H e=>have z:=a b d;qs.step.keep b H e (λy=>(rt b y).elim z.2.1 z.2.2.1) λp mp=>z.2.2.2.1.aX p mp.e8;have frm:∀{S fi:aL}{cK k0:Z},St' (i+1) S.h->dI c.f (D::P) cK S->fS c g Q (m.ab f t) cK S->fS c g cK S k0 fi->St' (i+1) fi.h:=λj a L1 qs=>dv.frame _ _ _ j λb d H e=>d.elim (λd=>ownK a qs b (.tail _ d) H e) λd=>fpK L1 (L1.qt R₀ qs) b d H e;have emit:∀{h' Y:Z}{fl:aL}{f':V}{e2:YU×Z},(aD c.X.P c.X.N n).e elt ⟨s1.aj,h'⟩=some (f',Y)->sx (aD c.X.P c.X.N n).e l elt cond out u Y=some e2->r5 c k l out g Q (m.ab f t) D c' G (f'::e2.1) e2.2->bJ c k s1.aj h' fl->St' (i+1) fl.h->dI c.f (D::P) h' fl->fS c g Q (m.ab f t) h' fl->fl.h.PlainList D a'.toArray->aK c.X fl G a'->∀(l2:YV),
    Zs c (eval (aJ c.X k elt x0) c.af) (λx s₄=>Zs c (call (.builtin "list.append") [.ref D,x]) (λ_ s₅=>codeAny (Zt c) c.A (.compLoop (.ListComp (aJ c.X k elt x0) [⟨g0 c.X l x1,iter,(cond.map λe=>aJ c.X k e x3).toList,0⟩] scope pos) 0 (.ref I) (.ref D) c.af) c' s₅) l2 s₄) l2 fl.s:=λ{h' Y fl f' e2} VQ VR q wd stc awc x7 hlc hrc l2=>by
   refine(Q1 elt).aO VQ he wd _ l2 λo y B VW=>?_;have U:=B.xI Ey;have nk:=x7.qt R₀ U;have W:=awc.step B.step;have A:=wd.aF B;refine wpAny_list_append_plain (hlc.at λH e=>ownK awc U D (.head _) H e) (λM pl ax=>?_) (mc (XX kd));have kz:kh [D] o.h M:=λb H nb e=>(ax.2 b λz=>nb (Ws.mpr z)).trans e;rw[List.push_toArray] at pl;have x6:cM o (o.bV (λ_=>False) M o.s.toks):=.bV (own:=[D]) (λb d=>(W b (tX b d)).2.2.2.1.a0) kz;have fv:bJ c k s1.aj Y (o.bV (λ_=>False) M o.s.toks):=A.eW (W.sub tX) kz (O o M);refine x8 (i+1) Y e2.2 (o.bV (λ_=>False) M o.s.toks) (G++[f']) e2.1 (a'++[y]) hi2 hd' VR ⟨fv.ok,fv.aM,fv.dJ,fv.bU,fv.ag,fv.dc.sub hj.2.2.2⟩ (dv.frame _ o.h M (frm stc awc x7 U) λb d H e=>kz b H (λz=>d.elim (λd=>hDo (Ws.mp z▸d)) λd=>(fpOk b d).2.2.2.elim λx5 q0=>cj q0 (Ws.mp z▸hB0 D (.head _))) e)
    (W.bV (O o M) λb d=>(Wz.mp d).elim (λz=>z▸pl.elim λ_ e=>⟨_,e⟩) λd=>(W b (.tail _ d)).1.elim λH e=>⟨H,kz b H (λz=>hDo (Ws.mp z▸d)) e⟩) (nk.eW (W.sub tX) (λb d=>hB0 b (tX b d)) kz (O o M)) pl (by exact Wk▸hn2) (((hrc.ext (wd.ag.ext B)).ext x6).append (.cons (VW.ext x6) .nil)) λVZ vs6 qS VN VO pl6 VV x'=>q VZ vs6 qS VN VO pl6 VV (by rw[Xf] at x';exact x')
  have X:=fp.sub λb d=>.tail _ d;refine CL (dv.item i x w _ _ VU hst O' (λb d=>(X b d).2.2.2.1.a0) λv r h F hF VX hL kk=>?_);have F':bJ c k (gi l out) s (w.bV F r h):=C.eW X kk hF;have L1:fS c g Q (m.ab f t) s (w.bV F r h):=L.eW X hB1 kk hF;have aw1:dI c.f (D::P) s (w.bV F r h):=fp.bV hF λb d=>(Wz.mp d).elim (λz=>z▸(fp D (.head _)).1.elim λH e=>⟨H,kk D H hDo e⟩) (dv.wi i v r hL b);have aw1O:=aw1.sub λb d=>.tail _ d;refine dv.go (g0 c.X l x1) i v (w.bV F r h) _ _ htwo hL λJ st2' k2=>?_;have s':bJ c k (gi l out) s ((w.bV F r h).bV (λ_=>False) J h):=F'.eW aw1O k2 (O _ J);have L2:fS c g Q (m.ab f t) s ((w.bV F r h).bV (λ_=>False) J h):=L1.eW aw1O hB1 k2 (O _ J);have aw2:dI c.f (D::P) s ((w.bV F r h).bV (λ_=>False) J h):=aw1.bV (O _ J) λb d=>(Wz.mp d).elim (λz=>z▸(aw1 D (.head _)).1.elim λH e=>⟨H,k2 D H hDo e⟩) (dv.e8 _ J st2' b);have EE1:cM w (w.bV F r h):=.bV (λb d=>(X b d).2.2.2.1.a0) kk;have EE2:cM (w.bV F r h) ((w.bV F r h).bV (λ_=>False) J h):=.bV (λb d=>(aw1O b d).2.2.2.1.a0) k2;refine Cg (w:=(w.bV F r h).bV (λ_=>False) J h) V1 hm hj.1 s' (VX.ext EE2) V0 λVY od _=>?_;have X3:=od.xI VT;have mm:=L2.qt R₀ X3;have aw3:=aw2.step od.b7.step;have fs:=s'.stored od;have C3':bJ c k s1.aj s VY:=⟨fs.ok,fs.aM,fs.dJ,fs.bU,fs.ag,fs.dc.au hj.2.2.1⟩;have st3:=frm st2' aw2 L2 X3;have hl3:=((x4.at λH e=>kk D H hDo e).at λH e=>k2 D H hDo e).at λH e=>ownK aw2 X3 D (.head _) H e;have hr3:=((hr.ext EE1).ext EE2).ext (s'.ag.ra od.b7);rw[show s1=⟨s1.aj,s⟩ from Wd (bD.mk s1.aj) hj.2.1] at e;induction cond with
  |none=>refine bK e λf' Y w' e=>aA e λe2 eq' e=>?_;show wpAny _ _ (forIn ([]:List Y9) true _) _ _ _;rw[YC];refine Wo ?_;rw[if_pos rfl];exact bz (p:=λrs T=>r5 c k l out g Q (m.ab f t) D c' G rs T->_) e (λq=>emit w' eq' q C3' st3 aw3 mm hl3 hr3 _) q
  |some cd=>
   refine bK e λV2 Y VS e=>aA e λb etr e=>?_;show wpAny _ _ (forIn [aJ c.X k cd x3] true _) _ _ _;rw[List.forIn_cons,if_pos rfl];have hcd:=hcond cd rfl;refine Wi (Wi ((Q2 cd).aO hcd.1 VS etr hcd.2 C3' _ _ λo VP B hb'=>Wo ?_));have hb':=hb';subst hb';have U:=B.xI Ey;have A:=C3'.aF B;have nk:=mm.qt R₀ U;have W:=aw3.step B.step;have hl4:=hl3.at λH e=>ownK aw3 U D (.head _) H e;have hr4:=hr3.ext (C3'.ag.ext B);dsimp only;rw[YC];refine Wo ?_;induction VP with
   |true=>refine bK e λf' M w' e=>aA e λe2 eq' e=>?_;rw[if_pos rfl];exact bz (p:=λrs T=>r5 c k l out g Q (m.ab f t) D c' G rs T->_) e (λq=>emit w' eq' q A (frm st3 aw3 mm U) W nk hl4 hr4 _) q
   |false=>
    rw[if_neg (by decide)]
    exact x8 (i+1) Y T o G rs a' hi2 hd' e ⟨A.ok,A.aM,A.dJ,A.bU,A.ag,A.dc.sub hj.2.2.2⟩ (frm st3 aw3 mm U) W nk hl4 (Wh (Wt (WH _) _) kd) hr4 q
end
def wm{α:Type}{k:α}{l:List (Y'×α)}(D:(l.map (·.1)).Nodup)(h:(x,k)∈l):l.lookup x=some k:=by
 induction l with
 |nil=>exact es h
 |cons p r S=>
  rw[WS,Xc] at D;rw[XB];refine(Wz.mp h).elim (λe=>?_) λh=>?_
  .rw[show x=p.1 from Wd Prod.fst e,beq_self_eq_true,show k=p.2 from Wd Prod.snd e]
  .rw[beq_eq_false_iff_ne.mpr (λz=>D.1 (WN.mpr ⟨_,h,z⟩):x≠p.1)]
   exact S D.2 h
def sk:cellsFrom a (y::r) acc=if(y.2==NameKind.cell)=true then cellsFrom (a+1) r ((y.1,a)::acc)else cellsFrom a r acc:=rfl
def Kn(f:List (Y'×Y6)):∀(c:Nat)(a b:List (Y'×Y4)),cellsFrom c f (a++b)=cellsFrom c f a++b:=by
 induction f with
 |nil=>exactλ_ _ _=>rfl
 |cons y r S=>
  intro c a b;rw[sk,sk]
  by_cases h:(y.2==NameKind.cell)=true
  .exact(if_pos h)▸(if_pos h)▸S (c+1) ((y.1,c)::a) b
  .exact(if_neg h)▸(if_neg h)▸S c a b
def Kp(f:List (Y'×Y6)):∀(c:Nat)(b:List (Y'×Y4)),(x,a)∈cellsFrom c f b->(x,a)∈b\/(x,NameKind.cell)∈f:=by
 induction f with
 |nil=>exactλ_ _ h=>.inl h
 |cons y r S=>
  intro c b h;rw[sk] at h
  by_cases q:(y.2==NameKind.cell)=true
  .rw[if_pos q] at h
   refine(S _ _ h).elim (λh=>(Wz.mp h).elim (λe=>.inr ?_) .inl) λh=>.inr (.tail _ h);exact(show x=y.1 from Wd Prod.fst e)▸(beq_iff_eq.mp q)▸.head _
  .rw[if_neg q] at h
   exact(S _ _ h).imp id (.tail _)
def Km(f:List (Y'×Y6)):∀(b:Nat)(a:List (Y'×Y4)),p∈a->p∈cellsFrom b f a:=by
 induction f with
 |nil=>exactλ_ _ h=>h
 |cons y r S=>
  intro b a h;refine sk▸?_
  by_cases q:(y.2==NameKind.cell)=true
  .exact(if_pos q)▸S _ _ (.tail _ h)
  .exact(if_neg q)▸S _ _ h
def Ko(f:List (Y'×Y6)):∀(b:Nat)(c:List (Y'×Y4)),(x,NameKind.cell)∈f->∃a,(x,a)∈cellsFrom b f c:=by
 induction f with
 |nil=>exactλ_ _ h=>es h
 |cons y r S=>
  intro b c h;refine sk▸?_
  by_cases q:(y.2==NameKind.cell)=true
  .refine(if_pos q)▸?_
   exact(Wz.mp h).elim (λe=>⟨b,Km _ _ _ (by exact(show x=y.1 from Wd Prod.fst e)▸.head _)⟩) (S _ _)
  .refine(if_neg q)▸?_
   exact(Wz.mp h).elim (λe=>absurd (by refine((Wd Prod.snd e:NameKind.cell=y.2))▸?_;rfl) q) (S _ _)
def FD{l:List (Y'×Y4)}(h:(x,a)∈l):∃b,l.lookup x=some b:=by
 generalize z:l.lookup x=N;induction N with|some b=>exact⟨b,rfl⟩|none=>rw[List.lookup_eq_none_iff] at z;exact absurd (z _ h) (by rw[bne_self_eq_false];exact Bool.false_ne_true)
section
variable{V:Y'->Ze Y6}{E:Zc}
def A2(h:oK V E):E.kind=.function:=by have h:=aN h;generalize q:E.kind=N;induction N<;>first|rfl|(rw[q] at h;exact bb h)
def xf(h:oK V E):(E.names.map (·.1)).Nodup:=tP (aN (ar (ar (ar h))))
def xe(h:oK V E)(m:(x,a)∈E.names):x≠eU/\(a=.free->V x=some .cell):=by
 have z:=Wn.mp (ar (ar (ar (ar h)))) _ m;refine⟨λe=>?_,λe=>?_⟩
 .have y:=VX (aN z)
  rw[show VP x "__class__"=true from k3.mpr e] at y;exact tL y
 .subst e
  have y:=ar z;generalize q:V x=N;induction N with
  |none=>rw[q] at y;exact bb y
  |some a=>rw[q] at y;induction a<;>first|rfl|exact bb y
end
def GF(R:af.scope.kind=.function):(relabel scope af).names=j5 af.kindOf scope.names:=by
 unfold relabel j5;refine List.map_congr_left λx _=>?_;induction x with
 |mk y k=>
  rw[R];induction k<;>try rfl
  show(if(NameKind.free==NameKind.free&&ScopeKind.function==ScopeKind.function&&af.kindOf y==some .cell)=true then(y,NameKind.cell)else(y,NameKind.free))=match af.kindOf y with|some .cell=>(y,.cell)|_=>(y,.free)
  generalize af.kindOf y=N;induction N with
  |none=>rfl
  |some k=>induction k<;>rfl
def gN(d:Env)(S:Zc)(C:Y4):Env:={newEnv S C d.globals (cellsFrom (C+1) S.names (gy d S.names [])) d.qual none .none (some d) builtinsNs with scope:=relabel S d}
def n2(S:Zc)(C:Y4)(a:Y4):Prop:=a=C\/∃x,(x,a)∈cellsFrom (C+1) S.names []
def ez(w:aL)(S:Zc):Y5:=pushCells (w.s.heap.push Zv) S.names
def n1(c:cu)(S:Zc)(C:Y4):cu:=⟨c.X,c.f.more (n2 S C),gN c.af S C,c.A⟩
section
variable{c:cu}{k n:Nat}{X:Z}{w:aL}{t:Tok}
structure BM(c:cu)(k:Nat)(d:YZ)(scope:Zc)(out:YS)(X:Z)(w:aL)(t:Tok):Prop where
 K3:bJ (n1 c scope (Zw w.s)) k (gi d out) X (w.ab (ez w scope) t)
 aF:aT c X w X (w.ab (ez w scope) t)
 iX:∀a,n2 scope (Zw w.s) a->w.h.get? a=none
 ns:(ez w scope).Ns (Zw w.s) λ_=>none
 all:c3 w.h (ez w scope)
 cell:∀x a,(gN c.af scope (Zw w.s)).cells.lookup x=some a->n2 scope (Zw w.s) a\/(x,NameKind.free)∈scope.names
def K'{s:YZ}{S:Zc}{n:YS}(i:oK c.af.kindOf S)(fi:tY c.X s S.names)(C:bJ c k n X w):BM c k s S n X w t:=by
 have W:=C.ok.az;have H:∀x,(x,NameKind.free)∈S.names->c.af.kindOf x=some .cell:=λx m=>(xe i m).2 rfl;have A:∀x∈S.names,x.2=.free->∃a,c.af.cells.lookup x.1=some a:=λx B e=>C.bU.has _ ((xe i B).2 e);have F:∀x a,(x,a)∈gy c.af S.names []->(x,NameKind.free)∈S.names/\c.af.cells.lookup x=some a:=λx a B=>(KS B).elim nofun λh=>(A _ h.1 rfl).elim λb G=>by have G:c.af.cells.lookup x=some b:=G;have e:=h.2;rw[G] at e;exact⟨h.1,by refine G▸e▸?_;rfl⟩
 have Z:∀x a,(x,a)∈gy c.af S.names []->a<(Zw w.s):=λx a B=>(C.ag.dy a (C.bU.cell x a (xe i (F x a B).1).1 (F x a B).2)).1.elim λo e=>WO e;have jC:CellsOk (ez w S) ((Zw w.s)+1) (cellsFrom ((Zw w.s)+1) S.names []):=by
  have z:=cellsFrom_ok S.names (w.s.heap.push Zv) ((Zw w.s)+1) [] ⟨λ_ _ h=>(nomatch h),.nil⟩ (by rw[Yd];exact Wr _)
  rwa [Yd] at z
 have Q:c3 w.h (ez w S):=λb o e=>pushCells_keeps _ _ _ _ (Heap.get?_push_of_some _ e);have u:(ez w S).Ns (Zw w.s) λ_=>none:=(Heap.Ns.new w.s.heap (.type "dict")).keeps (pushCells_keeps S.names _);have Y:∀a,(Zw w.s)<=a->w.h.get? a=none:=λa l=>by
  generalize e:w.h.get? a=N;induction N with|none=>rfl|some o=>exact absurd (Wg (WO e) l) (Xu _)
 have J:∀a,n2 S (Zw w.s) a->w.h.get? a=none/\∃o,(ez w S).get? a=some o:=λa z=>z.elim (λz=>z▸⟨Y _ (Wr _),u.elim λo x=>x.elim λ_ x=>x.elim λ_ x=>⟨o,x.1⟩⟩) λz=>z.elim λx B=>have y:=jC.empty x a B;⟨Y _ (WX y.2),y.1.elim λo e=>⟨o,e.1⟩⟩;have T:aT c X w X (w.ab (ez w S) t):=.all C.ag Q;have L:=C.aF T;have d:=L.more (F:=n2 S (Zw w.s)) λa z=>have y:=se (t:=t) (N:=[a]) C.ag (λb G=>by exact(Ws.mp G)▸J a z) a (.head _);⟨y.1,y.2.1,y.2.2.2.1,y.2.2.2.2⟩
 have P:(gN c.af S (Zw w.s)).cells=cellsFrom ((Zw w.s)+1) S.names []++gy c.af S.names []:=Kn S.names ((Zw w.s)+1) [] _;have apart:(cellsFrom ((Zw w.s)+1) S.names []++gy c.af S.names []).Pairwise λp q=>p.2≠q.2:=List.pairwise_append.mpr ⟨jC.apart,KQ C.bU.inj A (xf i) .nil λ_ h=>(nomatch h),λp X q I e=>Xu _ (Wg (e▸Z q.1 q.2 I) (WX (jC.empty p.1 p.2 X).2))⟩;have D:∀x a,(gN c.af S (Zw w.s)).cells.lookup x=some a->(x,a)∈cellsFrom ((Zw w.s)+1) S.names []\/(x,a)∈gy c.af S.names []:=λx a e=>WU.mp (hK (by rw[P] at e;exact e))
 have U:∀x k,(gN c.af S (Zw w.s)).kindOf x=some k->(k=.cell/\(x,NameKind.free)∈S.names)\/(k≠.free/\(x,k)∈S.names):=λx k e=>by
  have e:(gN c.af S (Zw w.s)).scope.names.lookup x=some k:=e;rw[show(gN c.af S (Zw w.s)).scope.names=j5 c.af.kindOf S.names from GF C.bU.kind] at e;refine(WN.mp (hK e)).elim λy K=>?_;induction y with
  |mk y j=>
   have m:=K.1;have e:=K.2
   by_cases R:j=.free
   .subst R
    have e:(match c.af.kindOf y with|some .cell=>(y,NameKind.cell)|_=>(y,NameKind.free))=(x,k):=e
    rw[H y m] at e;exact((show y=x from Wd Prod.fst e))▸.inl ⟨(Wd Prod.snd e:NameKind.cell=k).symm,m⟩
   .have e:(y,j)=(x,k):=by induction j<;>first|exact e|exact absurd rfl R
    exact((show y=x from Wd Prod.fst e))▸((show j=k from Wd Prod.snd e))▸.inr ⟨R,m⟩
 have lkfree:∀x a,(x,NameKind.free)∈S.names->c.af.cells.lookup x=some a->(gN c.af S (Zw w.s)).cells.lookup x=some a:=λx a B e=>by
  refine P▸?_;have z:(x,a)∈gy c.af S.names []:=by have y:=CG (d:=c.af) (a:=[]) B;rw[e] at y;exact y
  exact PC (WR _ z) λb G=>(WU.mp G).elim (λG=>(Kp _ _ _ G).elim nofun λh=>nomatch ((Wc ((wm (xf i) B).symm.trans (wm (xf i) h))))) λG=>(Wc (e.symm.trans (F x b G).2)).symm
 refine⟨⟨d.ok,d.aM,d.dJ,⟨(A2 i:S.kind=.function),C.bU.h8,C.bU.blt,.inr (.inr (.inl rfl)),λx a E e=>?_,λx y a O g=>?_,λx a e=>?_,λx e=>?_⟩,⟨d.ag.aM,d.ag.aH,d.ag.own,d.ag.new,d.ag.dy⟩,⟨λq v f e=>?_,⟨_,u⟩,λx a E e=>?_⟩⟩,T,λa z=>(J a z).1,u,Q,λx a e=>(D x a e).imp (λh=>.inr ⟨x,h⟩) λh=>(F x a h).1⟩
 .exact(D x a e).elim (λh=>.inr (.inr ⟨x,h⟩)) λh=>.inl (C.bU.cell x a E (F x a h).2)
 .have O:(gN c.af S (Zw w.s)).cells.lookup x=some a:=O
  have g:(gN c.af S (Zw w.s)).cells.lookup y=some a:=g;rw[P] at O g;exact yM apart (hK O) (hK g)
 .exact(D x a e).elim (λh=>WZ (jC.empty x a h).2) λh=>Wv (Z x a h)
 .refine(?_:∃a,(gN c.af S (Zw w.s)).cells.lookup x=some a)
  exact P▸(U x _ e).elim (λh=>FD (WR _ (CG h.2))) λh=>(Ko S.names _ [] h.2).elim λa cK=>FD (Xa _ cK)
 .have I:q∉s:=λz=>ns ((Fy z n).symm.trans e)
  rw[z6 I n] at e;have own:∀k,(k=NameKind.local\/k=.cell)->(c.X.az q,k)∈S.names->False:=λk c' B=>by
   have z:=Wn.mp fi _ B;have z:(VP (c.X.az q) ".0"||s.any λa'=>VP (c.X.az a') (c.X.az q)):=c'.elim (λe=>by subst e;exact z) λe=>by subst e;exact z
   exact(Xd.mp z).elim (λz=>W.LG q (k3.mp z)) λz=>(Yk.mp z).elim λa' h=>I (W.inj _ _ (k3.mp h.2)▸h.1)
  have f:(match(gN c.af S (Zw w.s)).kindOf (c.X.az q)with|some .local=>true|some .cell=>true|some .free=>true|_=>false)=true:=f
  generalize r:(gN c.af S (Zw w.s)).kindOf (c.X.az q)=N;induction N with
  |none=>rw[r] at f;nomatch f
  |some k=>
   rw[r] at f;refine(U _ _ r).elim (λh=>?_) λh=>(own k ?_ h.2).elim
   .have M:=H _ h.2
    refine(L.dc.get q v (by unfold iY;exact M▸rfl) e).elim λfl z=>⟨fl,z.1.elim (λb=>nomatch (M.symm.trans b.1)) λb=>b.2.2.elim λa y=>.inr ⟨W.eU q,.inl (h.1▸r),a,lkfree _ _ h.2 y.1,y.2⟩,z.2⟩
   .induction k<;>first|exact .inl rfl|exact .inr rfl|exact absurd rfl h.1|nomatch f
 .exact(D x a e).elim (λh=>⟨_,(jC.empty x a h).1⟩) λh=>L.dc.cell x a E (F x a h).2
end
section
variable{c:cu}{k n:Nat}{A:YS}{X T i d:Z}{w B m w1:aL}{own N:List Y4}{R:Y5}{t:Tok}{Q:YU}{P:YY}{D:Y4}
def aT.BW(J:aT c X w T B)(R₀:bB c.X X w)(fp:w.h.get? D=none)(O:cY D T B)(fl:cM B ⟨B.G.a5 T.n D D,B.s⟩->fR c.X ⟨B.G.a5 T.n D D,B.s⟩ T.n c'):
  aT c X w (T.new c') ⟨B.G.a5 T.n D D,B.s⟩/\∀a',a'≠D->cY a' T B->cY a' (T.new c') ⟨B.G.a5 T.n D D,B.s⟩:=by
 have E:cM B ⟨B.G.a5 T.n D D,B.s⟩:=⟨λ_ Y=>Y,λj a' Y=>(qd (J.aH.wA Y)).1.trans Y,λ_ _ _ o=>o⟩;have V:∀j,cT T j->(B.G.a5 T.n D D).aX j=B.G.aX j:=λj u=>(qd (Wv (J.aH.lt u))).2;have S:=J.step;refine⟨⟨⟨λj W o=>?_,λj M fs fi o=>?_,λU cK=>⟨(J.aH.bI U cK).1,λj u=>?_⟩,λj U o=>?_⟩,⟨S.a0,λj U o=>E.aO _ _ (S.aO j U o),λj U o=>(qd (J.aH.wA (S.aO j U o))).2.trans (S.aX j U o),S.keep,S.eo,λj u=>?_,λj c' W o e1=>?_,W8 S.n,S.jT⟩,J.aM,J.dd⟩,λa' nb O=>⟨O.a0,λj u=>(lX u).elim (λC=>by rw[C];show(B.G.a5 T.n D D).aX T.n≠a';exact d'.2▸Ne.symm nb) λu=>by show(B.G.a5 T.n D D).aX j≠a';exact(V j u)▸O.aX j u⟩⟩
 .rw[Z.ta] at o
  by_cases M:T.n=j
  .rw[if_pos M] at o
   exact Wc o▸M▸fl E
  .rw[if_neg M] at o
   exact(J.aH.slot j W o).ext E (V j ⟨W,o⟩) λ_ C=>C
 .have o:=o
  refine(lX fs).elim (λC=>(lX fi).elim (λf'=>C.trans f'.symm) λu=>?_) λu=>(lX fi).elim (λC=>?_) λe2=>?_
  .rw[C,d'.2,V M u] at o;exact absurd o.symm (O.aX M u)
  .rw[C,d'.2,V j u] at o;exact absurd o (O.aX j u)
  .rw[V j u,V M e2] at o;exact J.aH.inj j M u e2 o
 .skip
  refine(lX u).elim (λC=>?_) λu=>?_
  .exact C▸d'.2▸λfv=>O.a0 (fv▸cK)
  .exact(V j u)▸(J.aH.bI U cK).2 j u
 .skip
  by_cases M:j=T.n
  .exact M▸Wu _
  .exact WW (J.aH.gK j U ((qd M).1.symm.trans o))
 .refine(lX u).elim (λC=>.inr ?_) λu=>?_
  .rw[C];show w.h.get? ((B.G.a5 T.n D D).aX T.n)=none;exact d'.2▸fp
  .skip
   exact(V j u)▸S.new j u
 .rw[Z.ta,if_neg (Ne.symm (Wv (Wg (R₀.lt ⟨c',o⟩) S.n)))] at e1
  exact S.gT j c' W o e1
def aT.Jl(u:Bool)(J:aT c X w T B)(W:bB c.X X w)(M:w.h.get? D=none)(O:cY D T B)(C:B.h.PlainList D P.toArray)(U:P.length<=b0)(V:aK c.X B Q P):∃w'',w''.s=B.s/\aT c X w (dj u Q T).2 w''/\o c.X w'' (dj u Q T).1 (.ref D)/\∀a',a'≠D->cY a' T B->cY a' (dj u Q T).2 w'':=by
 induction u with|false=>exact⟨⟨B.G.bI λa'=>a'=D,B.s⟩,rfl,J.BV λa' j=>(j:a'=D)▸⟨M,C.elim λ_ Y=>⟨_,Y⟩,O.aX⟩,.ae (.inr rfl) C U (V.ext (w':=⟨B.G.bI λa'=>a'=D,B.s⟩) ⟨λ_ j=>Or.inl j,λ_ _ j=>j,λ_ _ _ j=>j⟩),λa' nb O=>⟨λZ=>Z.elim O.a0 nb,O.aX⟩⟩|true=>have j:=J.BW (c':=.ae Q 0) W M O λE=>⟨d'.1.trans (Wd some d'.2.symm),P,d'.2.symm▸C,U,V.ext E⟩;exact⟨⟨B.G.a5 T.n D D,B.s⟩,rfl,j.1,.ref d'.1,j.2⟩
def aT.eW(o:aT c X w T B)(C:dI c.f own T B)(J:∀a'∈own,w.h.get? a'=none)(u:kh own B.h R):aT c X w T (B.bV (λ_=>False) R t):=
 have j:=fS.eW (⟨o.aH,o.step,o.aM,o.dd⟩:fS c (iu c.f) X w T B) C J u λ_ j=>j.elim
 ⟨j.aH,j.step,j.aM,j.dd⟩
def kg.aO{ek:Bool}{bD:Nat->Y5->Prop}(u:c'.X=c.X)(o:c'.A=c.A)(dv:kg c a' own N m Q ek bD o4)(E:cM m w1):kg c' a' own N w1 Q ek bD o4:=by
 induction c with|mk cK e1 env Y=>induction c' with|mk X' f' env' Z=>
 have u:=u;have o:=o;subst u;subst o;exact⟨dv.frame,dv.e8,dv.wi,λW x w M C V j J own U=>dv.item W x w M C V j (E.trans J) own U,dv.go,dv.self,dv.done⟩
def Fr.pL(u:Fr c.f.g c.f.L w.h a')(J:dI c.f own X w):Fr c.f.g c.f.L (hideAll w.h own) a':=⟨u.ns.at' λo j=>hideAll_get _ j λC=>(J _ C).2.1 rfl,λM o j=>hideAll_get _ (u.keep M o j) λC=>cj j (J M C).2.2.2.2,u.above⟩
def Lb(kk:∀e,bT n e)(kz:∀e,Gt n e){cond:Ze E}{S:Zc}{pos:Pos}{C M:Z}{lv:V}{Y:YU}{j:aL}{I:Y4}{ek:Bool}{St':Nat->Y5->Prop}{Mid:Nat->Y3->Y5->Prop}(wd:tY c.X g S.names)
  (w':oz c.X (gN c.af S (Zw j.s)).kindOf g)(he:bQ c.X k (gN c.af S (Zw j.s)).kindOf elt x0)(hcond:∀r,cond=some r->ij r/\bQ c.X k (gN c.af S (Zw j.s)).kindOf r x3)(htwo:ek=true->∃elts k pos,g0 c.X g x1=Expr.Tuple elts k pos)
  (hfit:eA Q)(e2:dX lv C true=some d)(rt:sx (aD c.X.P c.X.N n).e g elt cond A Q d=some (Y,i))(hj:dX lv i false=some M)(R:bB c.X X w)(cK:aT c X w C w1)(O:aT c C w1 C j)(dv:kg c I own N w1 Q ek St' Mid)(st0:St' 0 w1.h)(hi:dI c.f own C w1)(fr:∀b∈own,w.h.get? b=none)
  (fpk:∀b∈N,b∉own/\(w1.G.a0 b\/∃q,lv=.ref q/\cT C q/\w1.G.aX q=b)/\∃H,w1.h.get? b=some H)(P:aP c C w1)(c':w1.h.get? D=none)(k2:c3 w1.h j.h)(hlD:j.h.PlainList D ([]:YY).toArray)(qs:dI c.f [D] C j)(K:BM c k g S A C j t){use:Ze (Y3->Sem Unit)}{fl:YV}{E:YV}
  (q:∀B D L s,aT c X w (dj G Y M).2 B->o c.X B (dj G Y M).1 (.ref D)->B.h.Ns L s->dI c.f [L] (dj G Y M).2 B->w.h.get? L=none->compPost (Zt c) c.A E use fl (.ref D) L (.ok .next) B.s):
  codeAny (Zt c) c.A (.compStart (.ListComp (aJ c.X k elt x0) [⟨g0 c.X g x1,iter,(cond.map λe=>aJ c.X k e x3).toList,0⟩] S pos) 0 (.ref I) (.ref D) (gN c.af S (Zw j.s))) (compPost (Zt c) c.A E use fl (.ref D) (Zw j.s)) (j.ab (ez j S) t).s:=by
 have J:=K.K3;have nDo:D∉own:=λz=>(hi D z).1.elim λH e=>cj e c';have a2:dI c.f (D::own) C j:=λb v=>(Wz.mp v).elim (λz=>z▸qs D (.head _)) (hi.step O.step b);have fp:dI (n1 c S (Zw j.s)).f (D::own) C (j.ab (ez j S) t):=λb v=>have u:=(a2.step K.aF.step) b v;⟨u.1,u.2.1,λy=>y.elim u.2.2.1 λy=>(a2 b v).1.elim λH e=>cj e (K.iX b y),u.2.2.2⟩;have T:=tB e2 J.ag.aH;have kd:bJ (n1 c S (Zw j.s)) k (gi g A) d (j.ab (ez j S) t):=⟨J.ok,J.aM,J.dJ,J.bU,Fu e2 J.ag,J.dc⟩;have f':dI (n1 c S (Zw j.s)).f (D::own) d (j.ab (ez j S) t):=λb v=>have u:=fp b v;⟨u.1,u.2.1,u.2.2.1,u.2.2.2.1.gT T.2,u.2.2.2.2⟩;have R₀:bB c.X d ((j.ab (ez j S) t).ab (hideAll (j.ab (ez j S) t).h (D::own)) t):=T.1.pL λb v=>(f' b v).2.2.2.1;have h2:c3 w1.h (j.ab (ez j S) t).h:=λb H e=>K.all b H (k2 b H e);have U:=O.trans P K.aF;have st3:St' 0 (j.ab (ez j S) t).h:=dv.frame 0 _ _ st0 λb _ H e=>h2 b H e;have fs:∀b,w1.h.get? b=none->w.h.get? b=none:=λb e=>cK.step.iX e;have fr':∀b∈D::own,w.h.get? b=none:=λb v=>(Wz.mp v).elim (λz=>z▸fs D c') (fr b);have h1:∀b,n2 S (Zw j.s) b->w.h.get? b=none:=λb z=>fs b (O.step.iX (K.iX b z));have neL:(Zw j.s)≠c.f.L:=λz=>(P.aF O).jW.elim λH e=>cj e (K.iX _ (.inl z.symm));have k0:fS (n1 c S (Zw j.s)) (λb=>b=c.f.L\/n2 S (Zw j.s) b) d ((j.ab (ez j S) t).ab (hideAll (j.ab (ez j S) t).h (D::own)) t) d (j.ab (ez j S) t):=⟨T.1,⟨λ_ x=>x,λ_ _ x=>x,λ_ _ _=>rfl,λb H e _ _=>of_hideAll _ e,λb H e=>⟨H,of_hideAll _ e⟩,λp l=>.inl ⟨l,rfl⟩,λp H x6 e q0=>Wd bc (Wc (Eq.trans (Eq.symm q0) e)),Wr _,λa x=>.inl x⟩,λm F=>(⟨F.ns.at' λH e=>of_hideAll _ e,λb H e=>of_hideAll _ (F.keep b H e),F.above⟩),⟨_,_,rfl⟩⟩;have It3:kg (n1 c S (Zw j.s)) I own N (j.ab (ez j S) t) Q ek St' Mid:=kg.aO (c:=c) (c':=n1 c S (Zw j.s)) rfl rfl dv (P.ext U);have held3:∀b∈N,ja C (j.ab (ez j S) t) lv b:=λb v=>(fpk b v).2.1.imp (U.step.a0 b) λy=>y.elim λq y=>⟨q,y.1,y.2.1,by exact y.2.2▸(P.aH.has y.2.1).1.elim λa fv=>U.step.aX q a fv⟩
 have loop:codeAny (Zt c) c.A (.compLoop (.ListComp (aJ c.X k elt x0) [⟨g0 c.X g x1,iter,(cond.map λe=>aJ c.X k e x3).toList,0⟩] S pos) 0 (.ref I) (.ref D) (gN c.af S (Zw j.s))) (compPost (Zt c) c.A E use fl (.ref D) (Zw j.s)) (j.ab (ez j S) t).s:=by
  refine La (c:=n1 c S (Zw j.s)) (m:=j.ab (ez j S) t) (f:=hideAll (j.ab (ez j S) t).h (D::own)) (t:=t) (g:=λb=>b=c.f.L\/n2 S (Zw j.s) b) kk kz neL w' he hcond It3 htwo R₀ (λb v=>hideAll_none _ v) nDo (λa H s' e=>hideAll_get _ e λz=>(fp a z).2.2.2.1.a0 s') (λb v=>?_) (λb z=>(J.ag.qb b z).a0) (.inr (.inl rfl)) (λp X a fv=>?_) (.inl rfl) (λb z=>z.imp id .inr) Q 0 d i (j.ab (ez j S) t) [] Y [] (Wj _) rfl rt kd st3 f' k0 (hlD.at λH e=>K.all _ _ e) (by rw[XG,Wj];exact WK (pH hfit)) .nil λe1 vs6 qS a' pl pl6 x2 x5=>?_
  .have f:=fpk b v
   have h:=held3 b v;have nb:b∉D::own:=λz=>(Wz.mp z).elim (λz=>f.2.2.elim λH e=>cj e (z▸c')) f.1;exact⟨f.1,λy=>h.elim (J.ag.qb b y).a0 λh=>h.elim λq h=>(J.ag.qb b y).aX q h.2.1 h.2.2,λp m y=>h.elim (λh=>(J.ag.aH.bI b h).2 p ((T.2 p).mp m.e8) y) λh=>h.elim λq h=>(Fv (h.1▸e2) m (J.ag.aH.inj p q ((T.2 p).mp m.e8) h.2.1 (y.trans h.2.2.symm))),f.2.2.elim λH e=>⟨H,hideAll_get _ (h2 b H e) nb⟩⟩
  .refine(K.cell _ _ fv).elim .inr λz=>?_
   have y:=Wn.mp wd _ z;have y:(!(g.any λx4=>VP (c.X.az x4) (c.X.az p))):=y;rw[Yk.mpr ⟨p,X,k3.mpr rfl⟩] at y;exact bb y
  .have fi:=tB hj a'.aH
   have l2:cG X w C ((j.ab (ez j S) t).ab (hideAll (j.ab (ez j S) t).h (D::own)) t) (iu c.f):=((cK.step.trans R U.step)).pL fr';have nk:cG X w M e1 (iu c.f):=l2.mi R (HL e2 hj a'.step) λb z=>z.imp id (h1 b);have od:aT c X w M e1:=⟨fi.1,nk,λm F=>a'.aM m (Fr.pL (own:=D::own) (K.aF.aM m (O.aM m (cK.aM m F))) fp),cK.dd.trans (U.dd.trans (fj.trans ⟨_,_,rfl⟩ a'.dd))⟩;have l1:cY D M e1:=(pl D (.head _)).2.2.2.1.gT fi.2;have nDC:(Zw j.s)≠D:=λz=>hlD.elim λ_ e=>cj e (K.iX _ (.inl z.symm));refine(od.Jl G R (fs D c') l1 pl6 x2 x5).elim λh' y=>y.1▸?_;have W:=qS.ag.dy (Zw j.s) (.inr (.inl rfl));refine qS.dc.ns.elim λs ns1=>?_;have hr:h'.h=e1.h:=Wd Shared.heap y.1;refine q h' D (Zw j.s) s y.2.1 y.2.2.1 (hr▸ns1) (λb v=>?_) (h1 _ (.inl rfl));exact(Ws.mp v)▸⟨hr▸W.1,neL,λu=>((P.aF O).dy _ u).1.elim λH e=>cj e (K.iX _ (.inl rfl)),y.2.2.2 _ nDC (W.2.2.1.gT fi.2),W.2.2.2⟩
 exact codeAny_compStart_list loop (dv.self 0 (j.ab (ez j S) t) _ _ st3 loop)
end
section
variable{c:cu}{k n:Nat}{A:YS}{X T:Z}{w B:aL}
def CJ(K:∀e,bT n e)(a':∀e,Gt n e){u:Ze E}{x0 x1 J x3:Y9}{j:Zc}{D:Pos}{v:V}(fs:oK c.af.kindOf j)(Y:tY c.X g j.names)(hf:sV d g)(hi:rH c.X k c.af.kindOf d J)
  (Z:oz c.X (kP (j5 c.af.kindOf j.names)) g)(U:bQ c.X k (kP (j5 c.af.kindOf j.names)) elt x0)(R:∀l,u=some l->ij l/\bQ c.X k (kP (j5 c.af.kindOf j.names)) l x3)
  (e:(aD c.X.P c.X.N (n+1)).e (.comp N elt g d u) ⟨A,X⟩=some (v,T))(C:bJ c k A X w){F:Ze (Y3->Sem Unit)}{Q:YV}{E:YV}
  (q:∀B f L h,aT c X w T B->o c.X B v (.ref f)->B.h.Ns L h->dI c.f [L] T B->w.h.get? L=none->compPost (Zt c) c.A E F Q (.ref f) L (.ok .next) B.s):
  Zs c (eval (mh c.X k d J) c.af) (λx s=>Zs c (pyIter x) (λp t=>Zs c (newList []) (λi G=>
   Zs c (newFunctionEnv j c.af.globals (gy c.af j.names []) [] c.af.qual none .none (some c.af)) (λm H=>
    codeAny (Zt c) c.A (.compStart (.ListComp (aJ c.X k elt x0) [⟨g0 c.X g x1,mh c.X k d J,(u.map λe=>aJ c.X k e x3).toList,0⟩] j D) 0 p i {m with scope:=relabel j c.af}) (compPost (Zt c) c.A E F Q i m.locals) H) E G) E t) E s) E w.s:=by
 refine aA e λr e1 e=>bR e λhfit e=>aA e λfv e2 e=>bK e λrs hp1 c' e=>aA e λhF fi e=>?_;refine Hg K e1 hi C λS I O=>?_;refine O.dh.elim λown z=>z.elim λfp z=>z.elim λSt' z=>z.elim λMid z=>?_;refine Yh ?_ (Ww _);refine K9 ?_;have W:(S.s.heap.push {cls:=.type "list",data:=.seq ([]:YY).toArray}).PlainList (Zw S.s) ([]:YY).toArray:=wZ ..;have P:S.h.get? (Zw S.s)=none:=hl _;have L:=C.aF O.aF;have k2:c3 S.h (S.s.heap.push {cls:=.type "list",data:=.seq ([]:YY).toArray}):=c3.push _ _;have M:aT c r.2.2 S r.2.2 (S.ab (S.s.heap.push {cls:=.type "list",data:=.seq ([]:YY).toArray}) S.s.toks):=.all L.ag k2;have cK:=se (t:=S.s.toks) (N:=[(Zw S.s)]) L.ag (G:=S.s.heap.push {cls:=.type "list",data:=.seq ([]:YY).toArray}) λb fl=>by rw[Ws.mp fl];exact⟨P,W.elim λ_ e=>⟨_,e⟩⟩
 have hkind:kP (j5 c.af.kindOf j.names)=(gN c.af j (S.s.heap.push {cls:=.type "list",data:=.seq ([]:YY).toArray}).objs.size).kindOf:=funext λx=>(PA x _).trans (by rw[<-GF C.bU.kind];rfl)
 rw[hkind] at Z U R;have htwo:HH d->∃elts k D,g0 c.X g x1=Expr.Tuple elts k D:=λy=>by
  induction d using dv.casesOn with|jl a=>exact(DJ hf).elim λ_ z=>z.elim λ_ z=>z.elim λ_ e=>e▸⟨_,_,_,rfl⟩|_=>exact bb y
 exact Lb K a' Y Z U R htwo hfit e2 c' fi C.ag.aH O.aF M z.1 z.2.1 z.2.2.1 z.2.2.2.1 z.2.2.2.2 L.ag P k2 W cK (K' (t:=S.s.toks) fs Y (L.aF M)) (bz (p:=λv T=>∀B f L h,aT c X w T B->o c.X B v (.ref f)->B.h.Ns L h->dI c.f [L] T B->w.h.get? L=none->compPost (Zt c) c.A E F Q (.ref f) L (.ok .next) B.s) e.symm q)
def CH(i:oK c.af.kindOf a)(p:i' c.f c.af):closureFor a c.af=pure (gy c.af a.names [])/\∀x∈a.names,x.2=.local->a.names.lookup x.1=some .local:=⟨KV λx B e=>p.has _ ((xe i B).2 e),λx B e=>wm (xf i) (by rw[<-e];exact B)⟩
def CK{B:Ze E}{x:Y9}{V:Y'->Ze Y6}(o:bQ c.X (k+1) V (.comp g elt d b B) x):∃a,ma x=some a/\aJ c.X (k+1) (.comp g elt d b B) x=.ListComp (aJ c.X k elt (ax x 0)) [⟨g0 c.X d (ax x 1),mh c.X k b (ax x 2),(B.map λe=>aJ c.X k e (ax x 3)).toList,0⟩] a x.pos/\oK V a/\tY c.X d a.names/\sV b d/\rH c.X k V b (ax x 2)/\
  oz c.X (kP (j5 V a.names)) d=true/\bQ c.X k (kP (j5 V a.names)) elt (ax x 0)/\∀l,B=some l->ij l/\bQ c.X k (kP (j5 V a.names)) l (ax x 3):=by
 have K:=aN o;have F:=ar o;have t:=ar F;have r:=ar t;have f:=ar r;have i:=ar f;generalize h:ma x=N;induction N with
 |none=>rw[h] at K;exact bb K
 |some a=>
  rw[h] at K;have X:tN V x=kP (j5 V a.names):=by unfold tN;rw[h]
  rw[X] at r f i;refine⟨a,rfl,?_,aN K,ar K,aN F,aN t,aN r,aN f,λl e=>?_⟩
  .refine(?_:(match ma x with|some a=>Expr.ListComp (aJ c.X k elt (ax x 0)) [⟨g0 c.X d (ax x 1),mh c.X k b (ax x 2),(B.map λe=>aJ c.X k e (ax x 3)).toList,0⟩] a x.pos|none=>x)=_)
   rw[h]
  .subst e
   exact⟨aN i,ar i⟩
def AH(ax:Heap.SameBut a h d):kh [a] h d:=λb o c e=>(ax.2 b λz=>c (Ws.mpr z)).trans e
def Im(m:∀e,bT n e)(i:∀e,Gt n e){B:Ze E}:bT (n+1) (.comp g elt d a B):=λc A X v T k x w e o C=>(CK o).elim λt h=>by rw[h.2.1];have h:=h.2.2;have N:=CH h.1 C.bU;intro Q E q;rw[eval_ListComp];refine wpAny_comprehension_free rfl (zg (Br h.2.2.2.1)) N.1 (A2 h.1) N.2 (CJ m i h.1 h.2.1 h.2.2.1 h.2.2.2.1 h.2.2.2.2.1 h.2.2.2.2.2.1 h.2.2.2.2.2.2 e C.aW λS D L O l r p f s=>?_);refine⟨O,p,λj ax=>?_⟩;have K:=AH ax;exact q (S.bV (λ_=>False) j S.s.toks) _ (l.eW f (λb G=>by rw[Ws.mp G];exact s) K) (r.ext (.bV (λb G=>(f b G).2.2.2.1.a0) K))
def IG:uF 0:=λq B c j i G k y w _ e _ _=>Internal.ns (e:none=some (i,G))
def IF(J:∀e,bT n e)(P:∀e,Gt n e)(M:∀e,bT (n+1) e):uF (n+1):=λi V c j x I k y w Z e o C=>by
 have F:=aN (ar o);have H:=ar (ar o);rw[Z] at H;induction V using E.casesOn with
 |comp g a d T B=>
  refine bK e λv X O e=>bz (p:=λx I=>g9 c (exec (.Assign [.Name (c.X.az i) (bZ y 1).pos] (aJ c.X k (.comp g a d T B) (bZ y 0)) y.pos) c.af) j.h w I x) e ?_;induction k with
  |zero=>exact(λz:bQ c.X 0 c.af.kindOf (.comp g a d T B) (bZ y 0)=true=>bb z) (aN (b:=AG c.X 0 c.af.kindOf (.comp g a d T B) (aJ c.X 0 (.comp g a d T B) (bZ y 0)) (.F i) (bZ y 1)) o)
  |succ k=>
   have vl:=(M (.comp g a d T B)).aO O (aN o) C.aW;refine(CK (aN o)).elim λsc h=>?_;rw[h.2.1] at vl⊢;have h:=h.2.2;have t:=CH h.1 C.bU;intro Q E q;obtain⟨b,G⟩:∃b,swapsWith (.ListComp (aJ c.X k a (ax (bZ y 0) 0)) [⟨g0 c.X d (ax (bZ y 0) 1),mh c.X k T (ax (bZ y 0) 2),(B.map λe=>aJ c.X k e (ax (bZ y 0) 3)).toList,0⟩] sc (bZ y 0).pos) (some (.Name (c.X.az i) (bZ y 1).pos)) y.pos.line c.af=pure b:=⟨_,rfl⟩;induction b with
   |false=>exact wpAny_Assign_Name (vl _ E λw1 x1 l f=>Bh (C.aF l) F f λs r S W=>q s r ((l.b7 C.ag).trans C.ag S) W) G
   |true=>
    rw[exec_Assign_Name_used _ _ _ _ G];refine Wi (XI (Wi ?_));refine Wi (W6 (wpAny_comprehension_free rfl (zg (Br h.2.2.2.1)) t.1 (A2 h.1) t.2 (CJ J P h.1 h.2.1 h.2.2.1 h.2.2.2.1 h.2.2.2.2.1 h.2.2.2.2.2.1 h.2.2.2.2.2.2 O C.aW.aW λw1 D L cK l f c' m e2=>?_)) (λ_ s' a'=>Wo (Wo a')) λ_ _ e=>e);refine PyProof.Rows.assign_Name (uo (C.aF l) trivial (λ_ _=>trivial) F f λs N=>?_);have R:=m.step N.b7.step;have u:=m L (.head _);refine⟨cK,c'.at' λo e=>N.b7.step.keep L o e (λz=>z.elim u.2.1 u.2.2.1) λp mp=>u.2.2.2.1.aX p mp.e8,λA ax=>?_⟩;have K:=AH ax;have U:cO c j.h w X (s.bV (λ_=>False) A s.s.toks):=((l.b7 C.ag).trans C.ag N.b7).eW R (λb Y=>by rw[Ws.mp Y];exact e2) K λ_ z=>z.elim
    exact q (s.bV (λ_=>False) A s.s.toks) .next U ⟨rfl,((C.aF l).stored N|>.eW R K λ_ z=>z.elim).dc⟩
 |_=>exact bb H
end
def TR{K:Type} [DecidableEq K]{k:K}{O:List (K×Y3)}(h:(O.map (·.1)).Nodup):((stored O k c).map (·.1)).Nodup:=by
 unfold stored
 by_cases X:(O.any λp=>decide (p.1=k))=true
 .rw[if_pos X]
  have e:(O.map λm=>if m.1=k then(m.1,c)else m).map (·.1)=O.map (·.1):=by
   rw[XE];exact List.map_congr_left λx _=>by
    show(if x.1=k then(x.1,c)else x).1=x.1
    by_cases z:x.1=k
    .rw[if_pos z]
    .rw[if_neg z]
  rw[e];exact h
 .rw[if_neg X,XH,List.map_singleton]
  refine YL.mpr ⟨h,Xc.mpr ⟨λz=>(es z),List.nodup_nil⟩,λa E b G e=>?_⟩;rw[Ws.mp G] at e;exact(WN.mp E).elim λx B=>X (Yk.mpr ⟨x,B.1,decide_eq_true (B.2.trans e)⟩)
section
variable{c:cu}{k n:Nat}{A:YS}{X P:Z}{w B:aL}{D:Y4}
def Hs(E:hX c.X c.f)(I:aP c X w):((Zw w.s)==sysModules)=false:=by exact beq_eq_false_iff_ne.mpr (WZ (WJ (by decide) (E.T.g.elim λo x=>x.elim λ_ x=>x.elim λ_ x=>I.aM.elim λm F=>WO (F.keep _ _ x.1))))
structure qD(e:cn)(f:eS)(d:Type) [DecidableEq d](knd:KeyKind e.prog e.w d)(s:d->aE):Prop where
 eq:∀a b,cJ (s a) (s b)=decide (a=b)
 key:∀{w:aL}{x:V}{y:aE}{v:Y3},fO f x=some y->o e w x v->∃z,y=s z/\knd.is z v=true
 aO:∀{w:aL}{a:Y4}{l:List (d×Y3)},w.h.DictOf knd a l->ew e w f a (l.map λp=>(s p.1,p.2))
def E1(X:cn):qD X .I Int (intKind X.prog X.w) aE.i:=⟨pP,λ{w x y v} e r=>by
 have m:=pQ e r;induction y with|i n=>exact m.elim λt aD=>⟨n,rfl,aD▸intKind_is ..⟩|_=>exact m.elim,λd=>⟨_,d,rfl⟩⟩
def E2(X:cn):qD X .S Y' (strKind X.prog X.w) aE.s:=⟨ts,λ{w x y v} e r=>by
 have m:=pQ e r;induction y with|s n=>exact m.elim λt aD=>⟨n,rfl,aD▸strKind_is ..⟩|_=>exact m.elim,λd=>⟨_,d,rfl⟩⟩
def Rt(H:∀e,bT n e){K:Type} [DecidableEq K]{D:KeyKind c.X.prog c.X.w K}{s:K->aE}{J:eS}(M:qD c.X J K D s){E:YV}(R:List Internal.E):∀(g:List Internal.E)(i l:List Y9)(X P:Z)(d h:YT)(w:aL)(f:List (K×Y3))(Q:List (Y3×Y3)->Y2),
  t4 (aD c.X.P c.X.N n).e J R g ⟨A,X⟩ d=some (h,P)->eO ck (bQ c.X k c.af.kindOf) R i->eO ck (bQ c.X k c.af.kindOf) g l->bJ c k A X w->(f.map (·.1)).Nodup->b2 c.X w d (f.map λp=>(s p.1,p.2))->
  (∀B t T,aT c X w P B->Carries D t T->b2 c.X B h ((merged f T).map λp=>(s p.1,p.2))->T.length=R.length->Q t B.s)->
  Zs c (evalPairs (pairTrees ((cD ck (aJ c.X k) R i).map some) (cD ck (aJ c.X k) g l) c.af pos)) Q E w.s:=by
 induction R with
 |nil=>
  intro g i l X P d h w f Q e j m C F G q;induction g with
  |cons=>exact Internal.ns e
  |nil=>exact pairTrees_nil_walk (bz (p:=λh P=>(∀B t T,aT c X w P B->Carries D t T->b2 c.X B h ((merged f T).map λp=>(s p.1,p.2))->T.length=0->Q t B.s)->Q [] w.s) e (λq=>q w [] [] (.refl C.ag.aH) trivial G rfl) q)
 |cons a R c'=>
  intro g i l X P d h w f Q e j m C F G q;induction g with
  |nil=>exact Internal.ns e
  |cons b g=>
   refine bK e λu h1 U e=>bK e λv h2 W e=>aA e λy Y e=>?_;rw[hV,hV,WS];have j:=hO j;have m:=hO m;refine pairTrees_cons_walk ((H a).aO U j.1 C _ E λw1 v1 o fi=>(H b).aO W m.1 (C.aF o) _ E λN r x fl=>?_);have L:=C.aF o;refine(M.key Y fi).elim λz I=>?_;have rd2:b2 c.X N (cU d (s z) v) ((stored f z r).map λp=>(s p.1,p.2)):=by rw[<-sE s z M.eq r f F];exact((G.ext (C.ag.ext o)).ext (L.ag.ext x)).a5 (s z) fl
   rw[I.1] at e;exact c' g i.tail l.tail h2 P _ h N (stored f z r) _ e j.2 m.2 (L.aF x) (TR F) rd2 λfp t T O S rd3 a'=>q fp _ ((z,r)::T) ((o.trans C.ag x).trans C.ag O) ⟨I.2,rfl,S⟩ rd3 (Wd Nat.succ a')
def xR(G:List α):∀{b:List β},(cD d g G b).length=G.length:=by
 induction G with|nil=>exact rfl|cons a r S=>intro b;rw[hV];exact Wd Nat.succ S
def Io{m:eS}{R D:List E}(fp:∀e,bT n e):bT (n+1) (.ah m R D):=λc A X v P k x w e H C=>bK e λd g S e=>by
 have hr:=aN H;have a':=ar H;have c':=ar a';have e2:=ar c';have h:=We (aN c');have j:=nT (aN a');rw[dO] at h j;rw[dO] at h;refine bz (p:=λv P=>aR c (eval (.Dict ((cD ck (aJ c.X k) R (cR x)).map some) (cD ck (aJ c.X k) D ((cR x).drop R.length)) x.pos) c.af) X w P v) e λQ E q=>?_;have fi:=Hs C.aM C.ag;have V:c3 w.h (w.s.heap.push Zv):=c3.push _ _;have U:∀{K:Type} [DecidableEq K]{r:KeyKind c.X.prog c.X.w K}{M:K->aE},qD c.X m K r M->R≠[]->Zs c (eval (.Dict ((cD ck (aJ c.X k) R (cR x)).map some) (cD ck (aJ c.X k) D ((cR x).drop R.length)) x.pos) c.af) Q E w.s:=λ{K _ r M} W hne=>by
  have O:(w.s.heap.push Zv).DictOf r (Zw w.s) []:=Heap.DictOf.new _;have F:w.h.get? (Zw w.s)=none:=hl _;have L:=se (t:=w.s.toks) (N:=[(Zw w.s)]) C.ag (G:=w.s.heap.push Zv) λb G=>by rw[Ws.mp G];exact⟨F,O.elim λH y=>y.elim λ_ y=>y.elim λ_ y=>⟨H,y.1⟩⟩
  have J:aT c X w X (w.ab (w.s.heap.push Zv) w.s.toks):=.all C.ag V;refine wpAny_Dict_walk (knd:=r) (Wn.mpr λy hi=>(WN.mp hi).elim λz hj=>hj.2▸rfl) (by rw[WG,xR,xR];exact h) (λz=>hne (List.length_eq_zero_iff.mp (by rw[<-xR (d:=ck) (g:=aJ c.X k) R (b:=cR x),<-WG (f:=some),z];rfl))) (by rw[WG,xR];exact j) ?_
  refine Rt fp W R D (cR x) ((cR x).drop R.length) X g [] d (w.ab (w.s.heap.push Zv) w.s.toks) [] _ S (aN e2) (ar e2) (C.aW.aF J) List.nodup_nil .nil λI t Y i cr rd3 hl3=>?_;have T:=L.step i.step;have u:=L _ (.head _);refine⟨Y,cr,q6 O λH e=>i.step.keep _ H e u.2.1 λp mp=>u.2.2.2.1.aX p mp.e8,λl hd4 ax=>?_⟩;have s:=AH ax;have fv:aT c X w g (I.bV (λ_=>False) l (I.s.toks+t.length)):=(J.trans C.ag i).eW T (λb G=>by rw[Ws.mp G];exact F) s
  have Z:=merged_length_le [] Y;rw[XG,Wj,hl3] at Z;have fs:cY (Zw w.s) g (I.bV (λ_=>False) l (I.s.toks+t.length)):=have y:=(T _ (.head _)).2.2.2.1;⟨λf=>f.elim y.a0 id,y.aX⟩;have z:=fv.BW (c':=.ah m d 0) C.ag.aH F fs λfl=>⟨d'.1.trans (Wd some d'.2.symm),d'.2.symm▸fi,_,d'.2.symm▸W.aO (w:=⟨(I.bV (λ_=>False) l (I.s.toks+t.length)).G.a5 g.n _ _,_⟩) hd4,by rw[WG];exact Wh Z (Wh j (by decide)),(rd3.ext (.bV (λb G=>(T b G).2.2.2.1.a0) s)).ext fl⟩
  exact q _ _ z.1 (.ref d'.1)
 induction R with
 |nil=>
  induction D with
  |cons=>nomatch h
  |nil=>
   have f':∀B:aL,B.h=w.s.heap.push Zv->ew c.X B m (Zw w.s) []:=λB N=>by
    induction m with|I=>exact⟨[],by rw[N];exact Heap.DictOf.new _,rfl⟩|S=>exact⟨[],by rw[N];exact Heap.DictOf.new _,rfl⟩|T=>exact⟨[],by rw[N];exact Heap.DictOfH.new _,rfl,λ_ z=>es z⟩
   exact wpAny_Dict_empty ((E' C.ag (.all C.ag V) (hl _) fi (λB _ e=>f' B e) (Ww _) .nil).elim λB z=>by have y:=(bz (p:=λd g=>∀B a,aT c X w (g.new (.ah m d 0)) B->o c.X B (.ref g.n) a->Q a B.s) (Eq.symm S) q) B _ z.2.1 z.2.2;rw[z.1] at y;exact y)
 |cons a R=>
  induction m with|I=>exact U (E1 c.X) nofun|S=>exact U (E2 c.X) nofun|T=>exact bb hr
end
def Pp:typeLookup (.type "list") "keys"=pure none:=by rw[typeLookup_type,builtinLookup_eq_fast];kernel_rfl
def Po:typeLookup (.type "list") "__getattr__"=pure none:=by rw[typeLookup_type,builtinLookup_eq_fast];kernel_rfl
section
variable{m:Program}{w:Y7}{A:Zb}{h:Y5}{g:Array GenState}{d:Drawn}{t:Nat}{p:OsState}{a:Y4}{l:Array Y3}{n:Nat}
def Qd{E:YV}(B:h.get? a=some {cls:=.type "list",data:=.seq l n})(N:A.handled=none)(O:∀b s e,Heap.NewAttrErr h b e (.ref a) "keys"->E (.ref e) ⟨b,g,d,s,p⟩):
  wpAny (model m w) A (Builtin.«object.__getattribute__» ⟨[.ref a,.str "keys" s],[]⟩) Q E ⟨h,g,d,t,p⟩:=by
 have R:(⟨h,g,d,t,p⟩:Za).TypeIs (.ref a) "list":=⟨_,B,rfl⟩;have Dt:=Pp;unfold Builtin.«object.__getattribute__»;repeat (any_goals (first|assumption|wp_step))
 exact wpAny_raiseAttrError N O (attrMsg_fits (by decide+kernel) (by decide+kernel))
def Qc(B:h.get? a=some {cls:=.type "list",data:=.seq l n})(N:A.handled=none)(Q:∀b s e,Heap.NewAttrErr h b e (.ref a) "keys"->c (.error (.ref e)) ⟨b,g,d,s,p⟩):
  codeAny (model m w) A (.call (.builtin "list.__getattribute__") ⟨[.ref a,.str "keys" s],[]⟩) c ⟨h,g,d,t,p⟩:=
 Yv F.slot_list_getattribute.plain F.entry_list_ga (F.slot_list_getattribute.check _ _ _ _ _ _ _ _ (⟨_,B,rfl⟩:(⟨h,g,d,t,p⟩:Za).TypeIs (.ref a) "list") (F.args_list_getattribute_2 _ _) (Qd B N Q))
def Qb{E:YV}(B:h.get? a=some {cls:=.type "list",data:=.seq l n})(N:A.handled=none)(O:∀b s e,Heap.NewAttrErr h b e (.ref a) "keys"->E (.ref e) ⟨b,g,d,s,p⟩):
  wpAny (model m w) A (getAttrBy (.ref a) (.str "keys" s) false) Q E ⟨h,g,d,t,p⟩:=by
 have R:(⟨h,g,d,t,p⟩:Za).TypeIs (.ref a) "list":=⟨_,B,rfl⟩;have lJ:=F.slot_list_getattribute.lookup;have sQ:=F.slot_list_getattribute.bind (.ref a);have T:=sub_AttributeError;have c:=Po;repeat (any_goals (first|assumption|wp_step))
 refine Qc B N λb V e f=>?_;obtain⟨k,X,H⟩:=f.there;unfold getattributeRaised;repeat (any_goals (first|assumption|wp_step))
 exact O _ _ _ f
def Qa{E:YV}(B:h.get? a=some {cls:=.type "list",data:=.seq l n})(N:A.handled=none)(F:∀c s,(∀b y,h.get? b=some y->c.get? b=some y)->Q none ⟨c,g,d,s,p⟩):
  wpAny (model m w) A (getAttr? (.ref a) "keys") Q E ⟨h,g,d,t,p⟩:=by
 have T:=sub_AttributeError;unfold getAttr? getAttrBy?;refine Wi (wpAny_mkText ?_);refine Wi (wpAny_attempt (Qb B N λc V e f=>?_));obtain⟨k,X,H⟩:=f.there;repeat (any_goals (first|assumption|wp_step))
 exact F _ _ f.keeps
end
def Dc:entryFor table "dict.update.loop"=some Builtin.«dict.update.loop»:=entryFor_of_tree rfl
def wX:plainId "dict.update.loop":=by decide+kernel
def Rq{C:Prop}(e:kV c (x::r) d=some g)(q:∀a b y,x=.ay [a,b]->fO c a=some y->kV c r (cU d y b)=some g->C):C:=by
 induction x using V.casesOn with
 |ay l=>match l,e with
  |[a,b],e=>
   have e:(match fO c a with|some x=>kV c r (cU d x b)|none=>none)=some g:=e
   generalize h:fO c a=N;induction N with
   |none=>rw[h] at e;exact ns e
   |some y=>rw[h] at e;exact q a b y rfl h e
 |_=>exact ns e
section
variable{c:cu}{X:Z}{w:aL}
def LA{K:Type} [DecidableEq K]{O:KeyKind c.X.prog c.X.w K}{n:K->aE}(kk:qD c.X G K O n){A:Zb}{a D I:Y4}{v:YY}(hi:A.handled=none)(neDI:D≠I)(hD0:w.h.get? D=none)(hI0:w.h.get? I=none)(fp:w.h.IsList a v.toArray){R:Result->Y2}{L:YT}(q:∀h s m,c3 w.h h->h.DictOf O D m->b2 c.X w L (m.map λp=>(n p.1,p.2))->m.length<=b0->R (.ok (.ret .none)) (w.ab h s).s)(S:YU):
  ∀(g:YY)(i:Nat)(B:Int)(P:Y5)(s:Tok)(f:List (K×Y3))(d:YT),kV G S d=some L->aK c.X w S g->v.drop i=g->c3 w.h P->P.IsListIter I a i->P.DictOf O D f->f.length+g.length<=b0->b2 c.X w d (f.map λp=>(n p.1,p.2))->
   codeAny (Zt c) A (.builtin "dict.update.loop" ⟨[.ref D,.ref I,.int B 0,.none],[]⟩) R (w.ab P s).s:=by
 induction S with
 |nil=>
  intro g i B P s f d e r T F Y E X e2;have Z:P.IsList a v.toArray:=fp.at λH e=>F _ _ e;have hj:g=[]:=r.eg (q:=λg=>g=[]) rfl;have a':v.toArray[i]?=none:=by rw[List.getElem?_toArray];exact List.getElem?_eq_none (List.drop_eq_nil_iff.mp (T.trans hj))
  refine Ys Dc ?_;rw[Around.under_plainId wX _];refine Wi (wpAny_pyNext_list_end hi Y Z a' λh fl=>?_);exact Wi (Wo (Wo (q h s f (λb H e=>fl b H (λz=>cj e (z▸hI0)) (F b H e)) (q6 E λH e=>fl D H neDI e) (b6 (p:=λL=>b2 c.X w L (f.map λp=>(n p.1,p.2))) e e2) (XX X))))
 |cons x S hr=>
  intro g i B P s f d e r T F Y E X e2;refine Rq e λN Q y hx0 f' fi=>?_;subst hx0;have Z:P.IsList a v.toArray:=fp.at λH e=>F _ _ e;refine r.dK (q:=λg=>v.drop i=g->f.length+g.length<=b0->_) (λu g hF kz T X=>?_) T X;have a':v.toArray[i]?=some u:=by have z:=Wd List.head? T;rw[List.head?_drop] at z;exact(List.getElem?_toArray)▸z
  have hd':v.drop (i+1)=g:=by rw[<-YA,T];rfl
  obtain⟨t,k,j,C,t1,c',e1⟩:∃t k j,u=.ref t/\w.h.IsTuple t #[k,j]/\o c.X w N k/\o c.X w Q j:=hF.gp (p:=λu=>∃t k j,u=.ref t/\w.h.IsTuple t #[k,j]/\o c.X w N k/\o c.X w Q j) λt l _ C _ rs=>rs.dK (q:=λl=>w.h.IsTuple t l.toArray->∃J k j,Value.ref t=.ref J/\w.h.IsTuple J #[k,j]/\o c.X w N k/\o c.X w Q j) (λk l c' rs C=>rs.hP (q:=λl=>w.h.IsTuple t (k::l).toArray->∃J k j,Value.ref t=.ref J/\w.h.IsTuple J #[k,j]/\o c.X w N k/\o c.X w Q j) (λj e1 C=>⟨t,k,j,rfl,C,c',e1⟩) C) C;subst C;refine(kk.key f' c').elim λz fs=>?_;refine Ys Dc ?_;rw[Around.under_plainId wX _];refine Wi (wpAny_pyNext_list_item Y Z a' λU hit1 sb1=>?_);have fv:c3 w.h U:=λb H e=>(sb1.2 b λz=>cj e (z▸hI0)).trans (F b H e);have t1':U.IsTuple t #[k,j]:=zR t1 λH e=>fv _ _ e;have hm1:U.DictOf O D f:=q6 E λH e=>(sb1.2 D neDI).trans e;refine Wi (Xo ?_);refine Wi (wpAny_tryCatch ?_);unfold Builtin.Dict.pairItems;refine t1'.elim λl2 M=>M.2.2.elim λl1 hdt=>?_;refine Wi (wpAny_typeOf ⟨_,M.1,M.2.1⟩ ?_);rw[if_pos (by decide)]
  refine Wi (wpAny_seqItems M.1 hdt (Wo ?_));rw[WL] at X;refine Xo (wpAny_dictSet_pairs fs.2 hm1 (λW hm2 sb2=>?_) (jy _ (XX X)));have k2:c3 w.h W:=λb H e=>(sb2.2 b λz=>cj e (z▸hD0)).trans (fv b H e);have hit2:W.IsListIter I a (i+1):=hit1.elim λH z=>⟨H,(sb2.2 I (Ne.symm neDI)).trans z.1,z.2⟩;have ln:(stored f z j).length<=f.length+1:=by have y:=Wd List.length (sE n z kk.eq j f (DictOf.wB E));rw[WG] at y;rw[<-y,<-WG (as:=f) (f:=λp=>(n p.1,p.2))];exact C4 _ _ _
  refine Wo ⟨plainId_quiet wX _,?_⟩;rw[fs.1] at fi;exact hr g (i+1) (B+1) W _ (stored f z j) _ fi kz hd' k2 hit2 hm2 (Wh (Wy ln _) (Wh (WI (by rw[Wl,Wm 1])) X)) (by exact(sE n z kk.eq j f (DictOf.wB E))▸e2.a5 (n z) e1)
def Rr:ye:=λc X w V x m l d u t H I A T U=>mZ (p:=λm=>aR c (call (.type "dict") [m] []) X w (X.new (.ah V d 0)) (.ref X.n)) I.aH A U λa D g J W=>by
 have v:∀{K:Type} [DecidableEq K]{r:KeyKind c.X.prog c.X.w K}{s:K->aE},qD c.X V K r s->aR c (call (.type "dict") [.ref a] []) X w (X.new (.ah V d 0)) (.ref X.n):=λ{K _ r s} P Q E q=>by
  have h:w.h.get? (Zw w.s)=none:=hl _;refine callType_codes (Q₁:=λi j=>i=.ref (Zw w.s)/\j={w.s with heap:=w.s.heap.push Zv}) F.kt_called_dict (F.kt_typeCall_dict_1 _) F.entry_dict_init (kt_code_dict_new _ ⟨rfl,rfl⟩) ?_
  rintro i j ⟨rfl,rfl⟩
  have R:(w.s.heap.push Zv).DictOf r (Zw w.s) []:=Heap.DictOf.new w.s.heap;have f:c3 w.h (w.s.heap.push Zv):=c3.push _ _;have k:=g.at λo e=>f _ _ e;refine⟨R.typeIs,F.args_dict_init_2 _ _,?_⟩;unfold Builtin.«dict.__init__»;refine Wi ?_;unfold Builtin.Dict.selfAndRest;refine Wi (wpAny_notOrdered_dict R.typeIs ?_);refine Wo ?_;refine(?_:wpAny _ _ (Builtin.Dict.updateFrom "dict.__init__" (Zw w.s) (.ref a) [] .none) ..);unfold Builtin.Dict.updateFrom;refine Wi (wpAny_typeOf k.isList.typeIs ?_);rw[if_pos (by decide)]
  refine k.elim λe1 n=>Wi (Qa n (H.bC:c.A.in1.handled=none) λN Z G=>?_);rw[if_pos (show(none:Ze Y3).isNone=true from rfl)];have S:N.PlainList a D.toArray:=⟨_,G _ _ n⟩;refine Wi (wpAny_rule ?_);refine Wi (YJ S.isList ?_);have B:c3 N (N.push {cls:=.type "list_iterator",data:=.fields #[.ref a,.int 0 0]}):=c3.push _ _;have Y:w.h.get? N.objs.size=none:=by
   generalize e:w.h.get? N.objs.size=a';induction a' with|none=>rfl|some o=>exact absurd (WO (G _ _ (f _ _ e))) (Xu _)
  refine Wo ⟨plainId_quiet wX _,?_⟩;exact LA (w:=w) P (A:=c.A.in1) (H.bC:c.A.in1.handled=none) (Wv (WO (G _ _ (Heap.get?_push_size _ rfl)))) h Y g.isList (λc' tk4 acc L C M O=>(E' (t:=tk4) I (.all I L) h (Hs t I) (λp _ e=>P.aO (by rw[e];exact C)) (by rw[WG];exact O) M).elim λp z=>⟨rfl,by have y:=q p _ z.2.1 z.2.2;rw[z.1] at y;exact y⟩) l D 0 0 (N.push {cls:=.type "list_iterator",data:=.fields #[.ref a,.int 0 0]}) Z [] [] T W rfl (λb o e=>B _ _ (G _ _ (f _ _ e))) ⟨_,Heap.get?_push_size _ rfl,rfl,rfl⟩ (q6 R λo e=>B _ _ (G _ _ e)) (by rw[XG,Wj];exact J) .nil
 induction V with|I=>exact v (E1 c.X)|S=>exact v (E2 c.X)|T=>exact bb u
end
structure jB(n:Nat):Prop where
 e:∀e,bT n e
 t:∀e,Gt n e
 x:∀b,o2 n b
 w:∀t b,uG n t b
 c:∀B,nM n B
 m:∀c,xX n c
 l:uF n
def Jt:jB 0:=⟨λ_ _ _ _ _ _ _ _ _ e=>ns (e:none=some _),λ_ _ _ _ _ _ _ _ _ _ _ e=>ns (e:none=some _),λ_ _ _ _ _ _ _ _ e=>ns (e:none=some _),λ_ _ _ _ _ _ _ _ _ _ e=>ns (e:none=some _),λ_ _ _ _ _ _ _ _ _ _ e=>ns (e:none=some _),λ_ _ _ _ _ _ _ _ _ e=>ns (e:none=some _),IG⟩
section
variable{n:Nat}
def uk(I:jB n)(b:S):jG n b:=by
 induction b using S.casesOn with
 |bY t e=>induction t with
  |F q=>exact IW I.e I.l
  |aS o a=>exact IV I.e
  |sub o i=>exact IX I.e
  |ay ns=>exact IY I.e
 |pe q F e=>exact IZ I.e
 |expr e=>exact I0 I.e
 |ret e=>exact I4 I.e
 |ite t a b=>exact I2 (I.t t) I.x
 |il t b=>exact I5 (I.w t b)
 |b5 d T b=>exact I1 I.e I.x
 |eD=>exact I3
 |hc=>exactλ_ _ _ _ _ _ _ e=>Internal.ns (e:none=some _)
def s8(I:jB n)(e:E):bT (n+1) e:=by
 induction e using E.casesOn with|lit=>exact It|d8=>exact Iq|F=>exact Iu|aS e a=>exact Ie (I.e e)|a7 F m a b=>exact Ih (I.e a) (I.e b)|c6 F a=>exact ID (I.e a)|aw F a b=>exact Ik (I.e a) (I.e b)|kv=>exact Il I.e|bool=>exact Ii I.e|ite=>exact Ir I.e I.t|ay=>exact IC I.e|ae=>exact Iv I.e|ah=>exact Io I.e|sub a i=>exact IB (I.e a) (I.e i)|gk=>exact IA I.e|oH m a=>exact Iz (I.e a)|call k f=>exact Ij I.e (I.c f)|bI a=>exact Ip (I.e a)|new c=>exact Iy I.e (I.m c)|aC o g=>exact Iw I.e I.c|bq=>exact Ig Rr I.e|comp=>exact Im I.e I.t|k9=>exactλ_ _ _ _ _ _ _ _ _ o=>bb o
def Nx(I:jB n)(e:E):Gt (n+1) e:=by
 induction e using E.casesOn with
 |aw F a b=>exact I' (I.e a) (I.e b)
 |kv=>exact Ja I.e
 |bool=>exact I9 I.t
 |ite=>exact Jb I.t
 |bI=>exactλ_ _ _ _ _ _ _ _ _ h=>bb h
 |k9=>exactλ_ _ _ _ _ _ _ _ _ _ _ _ o=>bb o
 |c6 F a=>induction F with
  |not=>exact Jc (I.t a)
  |_=>exact yl (s8 I _) λX k V x o=>rfl
 |comp g l d T B=>
  refine yl (s8 I _) λX k V x o=>?_;have K:=aN o;refine(?_:AJ (match ma x with|some c=>_|none=>x)=true)
  generalize h:ma x=N;induction N with
  |none=>have K:=h▸K;exact bb K
  |some c=>rfl
 |_=>exact yl (s8 I _) λX k V x o=>rfl
def IH(I:jB n)(b:List S):o2 (n+1) b:=λc j i G k f w e o C=>by
 induction b with
 |nil=>exact bz (p:=λi G=>g9 c (execs [] c.af) j.h w G i) e λQ E q=>Xw (q w .next ((aT.refl C.ag.aH).b7 C.ag) ⟨rfl,C.dc⟩)
 |cons p r=>
  have o:=hO o;refine(?_:g9 c (execs (cD iG (kc c.X k) (p::r) f) c.af) j.h w G i);refine hV▸?_;induction k with
  |zero=>exact bb o.1
  |succ k=>
   refine bK e λT V O e Q E q=>W0 (uk I p c j T V k _ w O o.1 C _ E λa m l d=>?_);induction T with|ret v=>refine d.elim λg z=>?_;exact z.1▸bz (p:=λi G=>(∀B r,cO c j.h w G.h B->jD c B G.aj i r->Q r B.s)->Q (.ret g) a.s) e (λq=>q a (.ret g) l ⟨g,rfl,z.2⟩) q|next=>exact d.1▸(I.x r c V i G (k+1) _ a e o.2 ⟨C.ok,C.aM,C.dJ,C.bU,C.ag.b7 l,d.2⟩).jd C.ag l q
def Js(c:∀B a,BP n B a)(I:jB n):jB (n+1):=
 ⟨s8 I,Nx I,IH I,λt b=>II (I.t t) (I.x b) (I.w t b),λB=>IJ (c B) (I.c B),IK I.e I.c,IF I.e I.t (s8 I)⟩
end
noncomputable def nL.dn{o:cn}{C:Nat}{M:cy}{j:r8}(U:nL o C M j)(u:ec)(J:Zb):cu:=⟨o,u,ksEnv j.qual j.scope u.L (o.di C) (.ref j.lD) j.jQ,J⟩
section
variable{c:cu}{k n:Nat}{A:YS}{X T:Z}{w B:aL}
set_option backward.match.sparseCases true in
def L8{dD:aL->Y3->Prop}(O:g7 c.X){N:r8}(F:nL c.X f h N)(v:hX c.X c.f)(M:d5 c.f c.A (cN c.X f+20))(I:aP c X w)(hlen:t.length=h.ak.length)
  (fp:∀q d,au l q=some d->∃r,(c.X.az q,r)∈(h.ak.map c.X.az).zip t/\o c.X w d r)
  (body:∀(P:ec)(i:Zb)(H:aL),bJ (F.dn P i) (cN c.X f) l X H->aT c X w X H->(∀b,hb P b->w.h.get? b=none)->
   ∀(Q:Flow->Y2)(E:YV),(∀s L d,(∃m,Fr P.g P.L s.h m)->fj H s->(match L with|.ret d=>d|_=>.none)=d->dD s d->Q L s.s)->_root_.PySem.wpAt (Zt c) i (.func N.body (F.dn P i).af) (execs N.body (F.dn P i).af) Q E H.s)
  (R:Result->Y2)(q:∀s d,(∀m,Fr c.f.g c.f.L w.h m->Fr c.f.g c.f.L s.h m)->fj w s->dD s d->R (.ok (.ret d)) s.s):codeAny (Zt c) c.A (.call (.ref (c.X.di f)) ⟨t,[]⟩) R w.s:=by
 refine(I.aM).elim λm u=>?_;have hloc':∀y∈(h.ak.map c.X.az).zip t,N.scope.names.lookup y.1=some .local:=λy fs=>(WN.mp (XU fs).1).elim λa z=>z.2▸eq_of_beq (Wn.mp F.En a z.1);refine ks_code_super (K:=c.X.K) v.B u v.K jh v.T M.frames v.lV v.kind F.fw F.tc M.lt (kp_binds (v.K.keeps u.keep) λS=>F.dN S t hlen) hloc' (λg j C k T a' cK Z o' lt=>?_) F.zA F.td F.tg F.hn;have fv:gu c.f.L w.h C:=by
  refine⟨λb B n e=>?_,k.ns.elim λB x=>x.elim λ_ x=>x.elim λ_ x=>⟨B,T.keep _ _ x.1⟩⟩;generalize V:c.f.g.get? b=hr;induction hr with|some hj=>exact Wc ((u.keep b hj V).symm.trans e)▸T.keep b _ (k.keep b _ V)|none=>exact(a' _ (jg.mpr ⟨e,n,V⟩)).1
 have U:=DN u k T λp X=>lt p X;have K:aT c X w X (w.ab C (w.s.toks+((h.ak.map c.X.az).zip t).length)):=.gS I fv (λhi G=>kT G.ns u.ns▸⟨k.ns.keeps T.keep,λb B e=>T.keep _ _ (k.keep b B e),k.above⟩) ⟨_,_,rfl⟩;have own:cY j X (w.ab C (w.s.toks+((h.ak.map c.X.az).zip t).length)):=⟨λz=>(I.aH.bI j z).1.elim λ_ e=>cj e (U j (Wr _)),λp A z=>I.aH.kS (U j (Wr _)) A z⟩
 let P:ec:=⟨g,j,c.f.bx::c.f.hQ,c.f.base,c.A,ksEnv N.qual N.scope j (c.X.di f) (.ref N.lD) N.jQ,λ_=>False⟩
 have W:∀x a,x≠eU->(ksEnv N.qual N.scope j (c.X.di f) (.ref N.lD) N.jQ).cells.lookup x=some a->False:=λx a D e=>by have e:List.lookup x [(("__class__":Y'),N.jQ)]=some a:=e;rw[XB,show(x==("__class__":Y'))=false from beq_eq_false_iff_ne.mpr D] at e;exact cB e
 have Y:∀x a,(ksEnv N.qual N.scope j (c.X.di f) (.ref N.lD) N.jQ).cells.lookup x=some a->x=eU/\a=N.jQ:=λx a e=>by
  by_cases D:x=eU
  .subst D
   have e:List.lookup eU [(eU,N.jQ)]=some a:=e;rw[XB,beq_self_eq_true] at e;exact⟨rfl,(Wc e).symm⟩
  .exact(W x a D e).elim
 have D:=BK O.az t F.ti;refine body P (c.A.deeper (ksEnv N.qual N.scope j (c.X.di f) (.ref N.lD) N.jQ)) (w.ab C (w.s.toks+((h.ak.map c.X.az).zip t).length))
  ⟨O,⟨cK,Z,o',rfl,F.hn⟩,M.EM rfl,⟨F.hn,rfl,rfl,.inl rfl,λx a D e=>(W x a D e).elim,λx y a e1 e2=>(Y x a e1).1.trans (Y y a e2).1.symm,λx a e=>by rw[(Y x a e).2];exact Wv (Wg (WO (Z _ _ F.zz)) T.above),λx e=>absurd rfl (F.zA _ (hK e))⟩,
   ⟨⟨_,T⟩,K.aH,own,λp A=>(I.aH.eo A).elim λB e=>(a' _ (jg.mpr ⟨e,I.own.aX p A,I.new p A⟩)).2.2,λa z=>z.elim⟩,
   ⟨λq d _ e=>(fp q d e).elim λr z=>⟨r,.inl ⟨hloc' _ z.1,_,T.ns,wm (List.pairwise_map.mpr (List.pairwise_reverse.mpr (D.imp λz=>Ne.symm z))) (List.mem_reverse.mpr z.1)⟩,z.2.ext (I.ext K)⟩,⟨_,T.ns⟩,λx a D e=>(W x a D e).elim⟩⟩
  K (λb z=>U b (z.elim (λz=>WI z.symm) λz=>z.elim)) _ _ λs L d J bc aD p=>?_
 exact J.elim λm'' J=>⟨j,m'',jf g j s.h,J,jh,λc' _=>by subst aD;exact q s _ (λhi G=>kT G.ns u.ns▸c') (.trans ⟨_,_,rfl⟩ bc) p⟩
end
section
variable{n:Nat}{T:YS}{R Q:Z}{w B:aL}
def Kj(i:args.all e3)(c:args.length<=20)(d:(apos.endLine==pos.line)):
  eval (.Call (.Attribute a name apos) args [] pos) af=(do
   let b<-attributeBase a name af (eval a af)
   standAt apos.atName
   let(f,first)<-holding [b] (getMethod b name (do return (<-importBound a af).getD true))
   callWith pos f first (backTo pos (starEach args af)) []):=by
 rw[arm_eval_Call];have l:methodCallPos true a af apos pos=pure pos:=by unfold methodCallPos;simp [d]
 unfold methodCall;rw[FP i c];unfold calleeOf;rw[l]
 rfl
variable{X:cn}{N:Nat}{I:cy}{f:ec}{A:Zb}{H G:bD}{i:fE}
def T9{g:r8}(F:nL X N I g)(fv:∀e,bT n e)(hj:∀N,nM n N)(e:k8 (aD X.P X.N (n+1)) (.expr (.k9 g.c g.self g.kB g.av)) ⟨T,R⟩=some (i,G))(C:bJ (F.dn f A) (cN X N) T R w){E:YV}
  (q:∀B,i=.next->G.aj=T->aT (F.dn f A) R w G.h B->c .next B.s):
  _root_.PySem.wpAt (model X.prog X.w) A (.func g.body (F.dn f A).af) (exec (.Expr (.Call (.Attribute (.Call (.Name "super" g.bp) [] [] g.bk) "__init__" g.bf) (g.jA::g.bt) [] g.oC) g.wO) (F.dn f A).af) c E w.s:=by
 refine bK e λu h1 O e=>bR e λ_ e=>aA O λv ev' O=>aA O λp Q O=>aA O λo cK O=>?_;induction o with
 |ae=>exact ns O
 |ah=>exact ns O
 |ins d fs=>
  refine bR O λD O=>bK O λkz h2 e2 hi=>?_;have D:=We D;subst D;have hr:=uP Q;subst hr;have H:(F.dn f A).af.kindOf (X.az g.self)=some .local:=by exact F.zE▸F.zF
  refine(C.dc.get g.self _ (by show iY _ (X.az g.self)=true;unfold iY;exact H▸rfl) ev').elim λnk z=>?_
  obtain⟨x,hF,Z⟩:=z.2.w3 (p:=λv=>∃x,v=.ref x/\w.G.aO p=some x) λa h=>⟨a,rfl,h⟩;obtain⟨lc,s,a',S⟩:=C.ag.aH.slot p _ cK;have ex:=Wc (S.1.symm.trans Z);subst ex;obtain⟨m,j⟩:=C.ag.aM;have hmx:m g.sb.arg=some (.ref s):=z.1.elim (λb=>b.2.elim λh' c'=>by have n1':w.h.Ns f.L h':=c'.1;exact(kT n1' j.ns)▸F.zE▸hF▸c'.2) λb=>b.2.1.elim (λk=>nomatch (H.symm.trans k)) λk=>nomatch (H.symm.trans k)
  obtain⟨kd',hfd⟩:=S.2.2.2.1;have lv:cT R p:=⟨_,cK⟩;have xL:s≠f.L:=λz=>C.ag.own.a0 (z▸S.2.1);have kd:w.G.aX p≠f.L:=C.ag.own.aX p lv;refine ks_wpAt_Expr_any (hi:=zM C.bU) (ks_wpAt_MethodCall (pl:=(do return (<-importBound (.Call (.Name "super" g.bp) [] [] g.bk) (F.dn f A).af).getD true)) ?_ ?_)
  .refine ks_node (K:=X.K) (h₀:=f.g) (L:=f.L) (m:=m) (news:=jf f.g f.L w.h) j C.aM.K jh C.aM.T F.fw F.Ee hmx (⟨S.2.2.1,rfl,rfl,hfd⟩:InstAt w.h s (instObj (X.cP g.c) (w.G.aX p)) (X.cP g.c) (some (dictOf a' kd'))) F.Ea F.EE F.Ec F.zz F.D6 F.Ew F.Ez (show(("__init__":Y')==("__class__":Y'))=false by decide+kernel) F.Ej F.vR F.zF F.hn F.ED (by kernel_rfl) λb6 h1' L M l1=>?_
   have kb1:gu f.L w.h h1':=.AE j L M λp R=>.tail _ R;have Ia1:InstAt h1' s (instObj (X.cP g.c) (w.G.aX p)) (X.cP g.c) (some (dictOf a' kd')):=⟨kb1.keep _ _ xL S.2.2.1,rfl,rfl,kb1.keep _ _ kd hfd⟩;refine ks_method (K:=X.K) (h₀:=f.g) (L:=f.L) L C.aM.K M (.head _) Ia1 F.EB F.th F.EA (by decide+kernel) λr h2' fp P l2=>?_
   have gv:ir (F.dn f A) w h2':=.jv j fp P λp R=>.tail _ (.tail _ R);have U:aT (F.dn f A) R w R (w.ab h2' (w.s.toks+1)):=.gS C.ag gv.gS gv.aM ⟨_,_,rfl⟩;have J:=C.aF U;have l:=P _ (.head _);have kk:w.h.get? r=none:=by
    generalize z:w.h.get? r=k0;induction k0 with|none=>rfl|some o=>exact absurd (l2 _ (.tail _ (jg.mpr ⟨z,l.2.1,l.2.2⟩))) (Xu _)
   have Y:=yr (c:=F.dn f A) (pos:=g.oC) (L:=.ref r) (g:=g.jA::g.bt) fv e2 F.Eb (by show(cD ck (aJ X (cN X N)) g.av (g.jA::g.bt)).all e3=true;rw[F.zD];exact F.vT) J
   rw[show cD ck (aJ (F.dn f A).X (cN X N)) g.av (g.jA::g.bt)=g.jA::g.bt from F.zD] at Y;refine callWith_of (P:=MethP X.K r (X.di g.kB) (.ref s)) (by rw[oE F.vT];rfl) (keeps_M F.Ed) (Y _ E λfi k2 y t=>t.elim λvals t=>?_)
   refine t.1▸?_;have hq3:fi.h.get? r=some (methodObj (.ref (X.di g.kB)) (.ref s)):=y.step.keep r _ l.1 l.2.1 λmm mp z=>C.ag.aH.kS kk mp.e8 z;have K:=J.aF y;refine⟨⟨hq3,K.lS⟩,Yc (method_call hq3 ?_)⟩;have W:=U.trans C.ag y;refine hj g.kB (F.dn f A) .inl (V.ref p::kz) h2 u h1 fi (.ref s::vals) (λz=>nomatch z) hi C.ok C.aM (C.dJ.ju F.Eu) K.ag (.cons (.ref (W.step.aO _ _ Z)) t.2) _ λfl v4 f' _=>?_;exact bz (p:=λi G=>(∀B,i=.next->G.aj=T->aT (F.dn f A) R w G.h B->c .next B.s)->c .next fl.s) e (λq=>q fl rfl rfl (W.trans C.ag f')) q
  .exact Kj F.vT F.Ek F.Em
def T5{d:r8}(F:nL X N I d)(p:∀c,c<=n->jB c)(h:List S):∀(a:List Zd)(m:Nat)(T:YS)(R:Z)(w:aL)(i:fE)(G:bD),m<=n->a.length=h.length->
  (aD X.P X.N m).x (h++.expr (.k9 d.c d.self d.kB d.av)::d.post) ⟨T,R⟩=some (i,G)->l5 X (cN X N) (ia d.scope) h a->kb X (cN X N) h a=a->bJ (F.dn f A) (cN X N) T R w->
  ∀(b:Flow->Y2)(E:YV),(∀B r,cO (F.dn f A) R w G.h B->jD (F.dn f A) B G.aj i r->b r B.s)->
   _root_.PySem.wpAt (model X.prog X.w) A (.func d.body (F.dn f A).af) (execs (a++.Expr (.Call (.Attribute (.Call (.Name "super" d.bp) [] [] d.bk) "__init__" d.bf) (d.jA::d.bt) [] d.oC) d.wO::d.m') (F.dn f A).af) b E w.s:=by
 induction h with
 |nil=>
  intro a m T R w i G D u e _ _ C b E q;induction a with
  |cons=>nomatch u
  |nil=>
   induction m with
   |zero=>exact ns e
   |succ m=>induction m with
    |zero=>exact ns (e:none=some (i,G))
    |succ m=>
     refine bK e λs g O e=>ks_wpAt_execs_cons (T9 F (p m (WX (WX D))).e (p m (WX (WX D))).c O C λj Q U l=>?_);induction s with
     |ret v=>nomatch Q
     |next=>
     have e:=e;have P:bJ (F.dn f A) (cN X N) g.aj g.h j:=by exact U▸C.aF l
     have z:=(p (m+1) (WX D)).x d.post (F.dn f A) g i G (cN X N) d.m' j e F.Ep P;rw[show kb (F.dn f A).X (cN X N) d.post d.m'=d.m' from F.Er] at z;exact wpAt_of_wpAny (z _ E λJ r x k=>q J r ((l.b7 C.ag).trans C.ag x) k)
 |cons M h cK=>
  intro a m T R w i G D u e a' L C b E q;induction a with
  |nil=>nomatch u
  |cons y t=>
   induction m with
   |zero=>exact ns e
   |succ m=>
    have o:=hO a';have Y:=(W5 L).1;have hT2:=(W5 L).2;refine bK e λs g O e=>?_;have K:=uk (p m (WX D)) M (F.dn f A) ⟨T,R⟩ s g (39*X.P.kY N+38) y w O o.1 C;rw[show kc (F.dn f A).X (39*X.P.kY N+38+1) M y=y from Y] at K;refine ks_wpAt_execs_cons (wpAt_of_wpAny (K _ E λj c' l k=>?_));induction s with|ret v=>refine k.elim λH z=>?_;exact z.1▸bz (p:=λi G=>(∀B r,cO (F.dn f A) R w G.h B->jD (F.dn f A) B G.aj i r->b r B.s)->b (.ret H) j.s) e (λq=>q j (.ret H) l ⟨H,rfl,z.2⟩) q|next=>exact k.1▸cK t m g.aj g.h j i G (WX D) (XC u) e o.2 hT2 ⟨C.ok,C.aM,C.dJ,C.bU,C.ag.b7 l,k.2⟩ b E λJ r x W=>q J r (l.trans C.ag x) W
def SI(m:(∃a,nL c.X N I a))(x:∀d,d<=n->jB d):yg n N I c:=λP R l v Q w Z e f O X K H J r=>m.elim λa F=>bR e λL e=>by
 have k:=We L;rw[dO,dO,dO,r.length,F.rm] at k;have e:=Wc e;subst e;refine bK f λi G f t A M=>?_;refine L8 (l:=jP I.ak (U P I.d6)) (dD:=λs g=>bB c.X Q s/\cG R w Q s (iu c.f)/\o c.X s v g) O F K H J k (λq v e=>uY r (by rw[ha,F.rm,WQ] at e;exact e)) (λY W V C B D y E q=>?_) A λs g j bc p=>M s g ⟨p.1,p.2.1,j,bc⟩ p.2.2
 rw[F.D9] at f;have z:=T5 F x a.pre a.qc n _ R V i G (Wr n) F.El f F.Es F.Et C y E;rw[<-F.D'] at z;refine z λs r T h=>?_;have S:=B.step.mi J.aH T.step λb z=>.inr (D b z);induction i with|next=>have t:=Xs (Wc t);exact h.1▸q s .next .none T.aM T.dd rfl ⟨t.2▸T.aH,t.2▸S,t.1▸.none⟩|ret u=>have t:=Xs (Wc t);exact h.elim λg z=>z.1▸q s (.ret g) g T.aM T.dd rfl ⟨t.2▸T.aH,t.2▸S,t.1▸z.2⟩
def Jr(n:Nat):∀a,a<=n->jB a:=by
 induction n with|zero=>exactλa h=>Nat.le_zero.mp h▸Jt|succ n S=>exactλa h=>(XF h).elim (λz=>S a (WV z)) λz=>z▸Js (λN I=>λc D R l v Q w t e f O b E H J r=>(O.fK N I b).elim (λF=>SD F ((S n (Wr n)).x I.body) D R l v Q w t e f O b E H J r) λF=>SI F S D R l v Q w t e f O b E H J r) (S n (Wr n))
def Hf(n:Nat):jB n:=Jr n n (Wr n)
end
end Mine.Internal
end
noncomputable section
open PySem PySem.W PyProof.Rows
namespace Mine.Internal
abbrev ea:Program:=Zx (PySem.Challenge.pw_nn0422_01)
def mA:List Zd:=behindTheImports ea
def DC:Y':=Zx (Str.ofString "/claim/cut.py")
def el(x:String)(t:Nat):Y3:=Zx (.str (Str.ofString x) t)
def hA(i:Int):Y3:=Zx (.int i 0)
def ht(D:YY):Obj:=Zx ({cls:=.type "tuple",data:=.seq D.toArray 0})
def ox(D:YY):Obj:=Zx ({cls:=.none,data:=.fields D.toArray})
def Q3(f:FuncData):Obj:=Zx ({cls:=.none,data:=.func f})
def Q4(f:FuncData):Obj:=Zx ({cls:=.type "function",data:=.func f})
def tU(n q:Y')(t k:Nat)(e a c:Int)(g:Bool)(d f:Nat)(b sP y6 y7:Y3):Obj:=
 {cls:=.type "code",data:=.fields [.str n t,.str q (t+1),.str DC (t+2),.int e 0,.int a 0,.int 0 0,.int 0 0,.int c 0,.ref d,.bool g,.int 181 0,.ref f,b,sP,y6,y7,.int (Int.ofNat (t+3+k)) 0,.int e 0,.str DC (t+4+k)].toArray}
def xE(f:Nat)(O:List Y'):YY:=Zx (O.rec (motive:=λ_=>Nat->YY) (λ_=>[]) (λx _ S t=>.str x t::S (t+1)) f)
noncomputable def Od:Y6->Bool
 |.local=>true
 |_=>false
noncomputable def Oa:Y6->Bool
 |.free=>true
 |_=>false
def Fw(E:Zc):List Y':=(E.names.filter λx=>Od x.2).map (·.1)
def DM(E:Zc):List Y':=(E.names.filter λx=>Oa x.2).map (·.1)
def Jx(a:Arguments):Int:=Zx (Int.ofNat (a.posonlyargs.length+a.args.length))
def DH(n q:Y')(c:Arguments)(b:List Zd)(E:Zc)(a:Nat)(K g l i:Y3)(N:List (Y'×Y4)):FuncData:=Zx ({name:=n,qualname:=q,params:=c,body:=.stmts b,scope:=E,globals:=a,closure:=N,defaults:=K,kwdefaults:=.none,pyModule:=g,code:=l,closureTuple:=i})
noncomputable def f6:Zd->(Y'×Arguments×Zc×Pos)×List Zd×List Y'
 |.FunctionDef n c b _ _ _ E _ _ X=>((n,c,E,X),b,[])
 |.ClassDef n _ _ b _ _ _ _ _ a X=>((n,default,default,X),b,a)
 |_=>default
def mF(h:Bool)(a t:Nat)(l:Y')(g K:Y3)(N:List (Y'×Y4))(i:Y3)(s:Zd):List Obj:=
 let q:=l++(f6 s).1.1
 let c:=(f6 s).1.2.1
 let b:=(f6 s).2.1
 let E:=(f6 s).1.2.2.1
 let D:=Fw E
 let P:=DM E
 let e:=Int.ofNat (f6 s).1.2.2.2.line
 let f:=if h then a+4 else a+2
 let k:=(if h then D.length else 0)+P.length
 (if h then [ht (xE (t+3) P),ox [],ht (xE (t+3+P.length) D),ht []]else [ht (xE (t+3) P),ox []])++
 [Q3 (DH (f6 s).1.1 q c b E 0 .none .none .none .none []),
  tU (f6 s).1.1 q t k e (Jx c) 3 true a (a+1) .none (if h then .ref (a+2)else .none) (if h then .ref (a+3)else .none) (.ref f),
  Q4 (DH (f6 s).1.1 q c b E 3 K g (.ref (f+1)) i N)]
def bh(P:Y8)(x:String)(t:Nat)(v:Y3):DictEntry:=Zx ⟨PyData.keyHash P (Str.ofString x),.str (Str.ofString x) t,v⟩
def p8(G:List DictEntry)(n:Nat):Obj:=Zx ({cls:=.type "dict",data:=.dict G.toArray n})
def wG(D:List (Ze Y3)):Obj:=Zx ({cls:=.type "frame",slots:=D.toArray})
def rG(D:YY):Obj:=Zx ({cls:=.type "builtin_function_or_method",data:=.fields D.toArray})
def AA(D:YY):Obj:=Zx ({cls:=.type "getset_descriptor",data:=.fields D.toArray})
def AB(c:Y4):Obj:=Zx ({cls:=.type "super",data:=.fields [.ref c,.ref c,.ref c].toArray})
def Az(n:Y')(a b:YY)(ns:Y4)(f:YY)(c:List (Ze Y3)):Obj:=Zx ({cls:=.type "type",data:=.cls {name:=n,bases:=a,mro:=b,ns:=ns,qualname:=n,subclasses:=f},slots:=c.toArray})
def Q0(v:Ze Y3):Obj:=Zx ({cls:=.type "cell",data:=.cell v})
def tl(O:List Obj):Nat->BT->BT:=Zx (O.rec (λ_ t=>t) λo _ S i t=>S (i+1) (t.ins i o))
def j'(i:Nat):Zd:=(mA[i]?).getD default
def rz(i j:Nat):Zd:=((f6 (j' i)).2.1[j]?).getD default
def C7(O:List (Ze Int)):Nat->YY×Nat:=Zx (O.rec (λt=>([],t)) λx _ S t=>
  let u:=if x.any (·<0)then t+1 else t
  let z:=S (if x.isSome then u+1 else t)
  ((match x with|some i=>.int i u|none=>.none)::z.1,z.2))
def PL(P:Y8)(l:Y')(g:Y3)(q:YZ)(O:List Zd):List (List (Ze Int))->Nat->Nat->Nat->List DictEntry×YY×List Obj×Nat:=
 O.rec (λ_ _ _ t=>([],[],[],t)) λs _ S p j a t=>
  let d:=p.headD []
  let h:= !q.contains j
  let E:=(f6 s).1.2.2.1
  let k:=(C7 d t).2
  let u:=k+5+(if h then(Fw E).length else 0)+(DM E).length
  let b:=if d.isEmpty then a else a+1
  let e:=if h then b+6 else b+4
  let z:=S p.tail (j+1) (e+1) (u+1)
  (⟨PyData.keyHash P (f6 s).1.1,.str (f6 s).1.1 u,.ref e⟩::z.1,hA (Int.ofNat (f6 s).1.2.2.2.line)::hA 4::.ref (e-1)::z.2.1,(if d.isEmpty then []else [ht (C7 d t).1])++mF h b k l g (if d.isEmpty then .none else .ref a) [] .none s++z.2.2.1,z.2.2.2)
def pK(P:Y8)(i a t:Nat)(g:Y3)(B:Nat)(D:YY)(d:String)(f:YY)(p:List (List (Ze Int)))(q:YZ):List Obj:=
 let n:=(f6 (j' i)).1.1
 let e:=Int.ofNat (f6 (j' i)).1.2.2.2.line
 let z:=PL P (n++Str.ofString ".") g q ((f6 (j' i)).2.1.filter λs=> !(Nat.beq (f6 s).1.2.2.2.line 0)) p 0 (a+7) (t+10)
 let h:=Nat.beq B 0
 let c:=a+9+z.2.2.1.length
 let b:=(f6 (j' i)).2.2
 let u:=z.2.2.2+b.length
 let m:=bh P "__module__" (t+5) g
 let l:=bh P "__firstlineno__" (t+9) (.int e (t+8))::z.1++[bh P "__static_attributes__" u (.ref (c-2))]
 [ht (if h then []else [.ref B]),rG [.builtin "type.__prepare__",.type "type"],p8 (m::bh P "__qualname__" (t+7) (.str n (t+6))::l) (z.1.length+4),ht [],ox z.2.1,
  tU n n t 0 e 0 0 false (a+3) (a+4) .none .none .none .none,wG [some (.ref (a+5)),some (.ref 3),some (.ref (a+2)),none,some g,none,some (.ref 0)]]++z.2.2.1++
 [ht (xE z.2.2.2 b),p8 (m::l++if h then [bh P "__dict__" (u+2) (.ref (c+1)),bh P "__weakref__" (u+4) (.ref (c+2)),bh P "__doc__" (u+5) .none]else [bh P "__doc__" (u+1) .none]) (if h then 4 else 2),
  Az n (if h then [.type "object"]else [.ref B]) (.ref c::D) (c-1) f [if h then none else some (.ref a),none,some (.str n (t-2)),some (.str n (t+6)),some (.builtin d),some (.bool true)]]++
 (if h then [AA [el "__dict__" (u+1),.ref c,.builtin "function.__dict__",.builtin "function.__dict__#set"],AA [el "__weakref__" (u+3),.ref c,.builtin "ExceptionGroup.__weakref__",.none]]else [])++
 [AB c,rG [.builtin "object.__init_subclass__",.ref c]]
def hJ(P:Y8)(i a t:Nat)(g:Y3):=pK P i a t g 0 [.type "object"] "object.__new__"
def NQ:YY:=[el "__main__" 164,el "grammarmill.source" 194,el "grammarmill.tables" 341,el "grammarmill.nodes" 736,el "grammarmill.driver" 935,el "grammarmill.grammar" 1341,el "grammarmill.analysis" 1498,el "grammarmill.lrzero" 1523,el "grammarmill.trees" 1812,el "law_nn0422_01" 1852]
def b3(i:Nat):Y3:=(NQ[i]?).getD .none
def d2(f:Bool)(a t:Nat)(m:Y3)(k:Nat):List Obj:=mF f a t (Str.ofString "") m .none [] .none (j' k)
def yP(P:Y8)(c a b:YY):List (List Obj):=[d2 true 15 187 (b3 0) 0,
 [],
 [ht [.type "Exception"],rG [.builtin "type.__prepare__",.type "type"],p8 [bh P "__module__" 203 (b3 1),bh P "__qualname__" 205 (el "ToolError" 204),bh P "__firstlineno__" 207 (.int (5) 206),bh P "__init__" 216 (.ref 36),bh P "told" 223 (.ref 43),bh P "__static_attributes__" 226 (.ref 44)] 6,ht [],ox [hA 7,hA 4,.ref 35,hA 12,hA 4,.ref 42],tU (Str.ofString "ToolError") (Str.ofString "ToolError") 198 0 5 0 0 false 25 26 (.none) (.none) (.none) (.none),wG [some (.ref 27),some (.ref 3),some (.ref 24),none,some (b3 1),none,some (.ref 0)],ht [.none]]++mF true 30 208 (Str.ofString "ToolError.") (b3 1) (.ref 29) [] (.none) (rz 2 0)++mF true 37 217 (Str.ofString "ToolError.") (b3 1) (.none) [] (.none) (rz 2 1)++[ht [el "at" 224,el "what" 225],p8 [bh P "__module__" 203 (b3 1),bh P "__firstlineno__" 207 (.int (5) 206),bh P "__init__" 216 (.ref 36),bh P "told" 223 (.ref 43),bh P "__static_attributes__" 226 (.ref 44),bh P "__weakref__" 228 (.ref 47),bh P "__doc__" 229 (.none)] 3,Az (Str.ofString "ToolError") [.type "Exception"] [.ref 46,.type "Exception",.type "BaseException",.type "object"] 45 c [some (.ref 22),none,some (el "ToolError" 196),some (el "ToolError" 204),some (.builtin "Exception.__new__"),some (.bool true)],AA [el "__weakref__" 227,.ref 46,.builtin "ExceptionGroup.__weakref__",.none],AB 46,rG [.builtin "object.__init_subclass__",.ref 46]],
 pK P 3 50 236 (b3 1) 46 [.ref 46,.type "Exception",.type "BaseException",.type "object"] "Exception.__new__" [] [] [],
 pK P 4 62 252 (b3 1) 46 [.ref 46,.type "Exception",.type "BaseException",.type "object"] "Exception.__new__" [] [] [],
 pK P 5 74 268 (b3 1) 46 [.ref 46,.type "Exception",.type "BaseException",.type "object"] "Exception.__new__" [] [] [],
 hJ P 6 86 284 (b3 1) [] [[none]] [],
 d2 true 122 331 (b3 1) 7,
 [],
 [],
 [],
 [],
 [],
 [],
 hJ P 14 129 360 (b3 2) a [] [],
 hJ P 15 227 495 (b3 2) [] [] [],
 [ht [.ref 222],rG [.builtin "type.__prepare__",.type "type"],p8 [bh P "__module__" 544 (b3 2),bh P "__qualname__" 546 (el "ParseTables" 545),bh P "__firstlineno__" 548 (.int (123) 547),bh P "__init__" 555 (.ref 268),bh P "state_count" 562 (.ref 275),bh P "explicit" 571 (.ref 282),bh P "goto" 580 (.ref 289),bh P "__static_attributes__" 588 (.ref 290),bh P "__classcell__" 589 (.ref 258)] 9,Q0 (some (.ref 292)),ht [],ox [hA 125,hA 4,.ref 267,hA 138,hA 4,.ref 274,hA 141,hA 4,.ref 281,hA 144,hA 4,.ref 288],tU (Str.ofString "ParseTables") (Str.ofString "ParseTables") 539 0 123 0 0 false 259 260 (.none) (.none) (.none) (.none),wG [some (.ref 261),some (.ref 3),some (.ref 257),none,some (b3 2),none,some (.ref 0)],ht [.ref 258]]++mF false 264 549 (Str.ofString "ParseTables.") (b3 2) (.none) [(Str.ofString "__class__",258)] (.ref 263) (rz 16 0)++mF true 269 556 (Str.ofString "ParseTables.") (b3 2) (.none) [] (.none) (rz 16 1)++mF true 276 563 (Str.ofString "ParseTables.") (b3 2) (.none) [] (.none) (rz 16 2)++mF true 283 572 (Str.ofString "ParseTables.") (b3 2) (.none) [] (.none) (rz 16 3)++[ht [el "conflicts" 581,el "defaults" 582,el "gotos" 583,el "grammar" 584,el "mode" 585,el "rows" 586,el "settled" 587],p8 [bh P "__module__" 544 (b3 2),bh P "__firstlineno__" 548 (.int (123) 547),bh P "__init__" 555 (.ref 268),bh P "state_count" 562 (.ref 275),bh P "explicit" 571 (.ref 282),bh P "goto" 580 (.ref 289),bh P "__static_attributes__" 588 (.ref 290),bh P "__doc__" 590 (.none)] 3,Az (Str.ofString "ParseTables") [.ref 222] [.ref 292,.ref 222,.type "object"] 291 [] [some (.ref 255),none,some (el "ParseTables" 537),some (el "ParseTables" 545),some (.builtin "object.__new__"),some (.bool true)],AB 292,rG [.builtin "object.__init_subclass__",.ref 292]],
 d2 true 295 593 (b3 2) 17,
 hJ P 18 302 606 (b3 2) [] [] [4],
 d2 true 349 680 (b3 2) 19,
 d2 false 356 691 (b3 2) 20,
 [ht [el "lalr" 697]]++mF true 362 698 (Str.ofString "") (b3 2) (.ref 361) [] (.none) (j' 21),
 d2 true 369 717 (b3 2) 22,
 d2 true 376 726 (b3 2) 23,
 [],
 hJ P 25 383 740 (b3 3) b [] [4,5],
 pK P 26 449 823 (b3 3) 444 [.ref 444,.type "object"] "object.__new__" [] [] [],
 d2 true 482 863 (b3 3) 27,
 hJ P 28 489 876 (b3 3) [] [] [],
 d2 false 531 929 (b3 3) 29,
 [],
 [],
 [],
 hJ P 33 536 943 (b3 4) [] [] [],
 hJ P 34 571 988 (b3 4) [] [[some (-1)]] [],
 hJ P 35 607 1039 (b3 4) [] [] [],
 hJ P 36 635 1081 (b3 4) [] [] [],
 hJ P 37 663 1119 (b3 4) [] [[none,some (5000)]] [20],
 d2 true 830 1333 (b3 4) 38,
 [],
 hJ P 40 837 1345 (b3 5) [] [[some (-1),none,some (0),some (0)]] [],
 hJ P 41 859 1390 (b3 5) [] [] [0],
 [],
 d2 false 941 1500 (b3 6) 43,
 d2 true 946 1506 (b3 6) 44,
 d2 true 953 1513 (b3 6) 45,
 [],
 [],
 hJ P 48 960 1530 (b3 7) [] [] [],
 hJ P 49 995 1581 (b3 7) [] [] [],
 d2 true 1037 1642 (b3 7) 50,
 d2 true 1044 1650 (b3 7) 51,
 d2 true 1051 1662 (b3 7) 52,
 hJ P 53 1058 1674 (b3 7) [] [] [],
 hJ P 54 1114 1748 (b3 7) [] [] [],
 d2 true 1156 1805 (b3 7) 55,
 [],
 d2 false 1163 1814 (b3 8) 57,
 d2 true 1168 1820 (b3 8) 58,
 d2 true 1175 1837 (b3 8) 59,
 [],
 d2 false 1182 1854 (b3 9) 61,
 d2 true 1187 1860 (b3 9) 62,
 d2 true 1194 1869 (b3 9) 63,
 d2 false 1201 1877 (b3 9) 64,
 d2 false 1206 1883 (b3 9) 65,
 d2 true 1211 1889 (b3 9) 66,
 d2 false 1218 1901 (b3 9) 67,
 d2 false 1223 1907 (b3 9) 68,
 d2 false 1228 1913 (b3 9) 69,
 d2 true 1233 1919 (b3 9) 70,
 d2 true 1240 1928 (b3 9) 71,
 d2 true 1247 1939 (b3 9) 72,
 d2 false 1254 1946 (b3 9) 73]
def yN(P:Y8)(r g l:Obj):List Obj:=[boot_o_0 P,boot_o_1 P,r,g,boot_o_4 P,boot_o_5 P,boot_o_6 P,boot_o_7 P,boot_o_8 P,boot_o_9 P,boot_o_10 P,ht [],l,tU (Str.ofString "<module>") (Str.ofString "<module>") 182 0 1 0 0 false 11 12 (.none) (.none) (.none) (.none),wG [some (.ref 13),some (.ref 3),some (.ref 3),none,some (el "__main__" 164),none,some (.ref 0)]]
def Nc(P:Y8):List DictEntry:=[bh P "__doc__" 166 (.none),bh P "__package__" 167 (.none),bh P "__loader__" 168 (.builtin "__main__.__loader__#opaque"),bh P "__spec__" 169 (.none),bh P "__annotations__" 170 (.ref 6),bh P "__builtins__" 171 (.ref 4),bh P "__file__" 173 (el "/claim/cut.py" 172),bh P "__cached__" 174 (.none),bh P "_wall" 193 (.ref 21),bh P "ToolError" 233 (.ref 46),bh P "GrammarError" 249 (.ref 59),bh P "TableError" 265 (.ref 71),bh P "ParseError" 281 (.ref 83),bh P "Token" 330 (.ref 117),bh P "bits" 340 (.ref 128),bh P "ACCEPT" 346 (.int (1048576) 345),bh P "BARRED" 351 (.int (-1048576) 350),bh P "END" 353 (.int (0) 352),bh P "ERROR_tables" 355 (.int (1) 354),bh P "UNDEFINED_tables" 357 (.int (2) 356),bh P "Tables" 492 (.ref 222),bh P "Conflict" 536 (.ref 250),bh P "ParseTables" 592 (.ref 292),bh P "settle" 603 (.ref 301),bh P "RowMaker" 679 (.ref 344),bh P "default_of" 690 (.ref 355),bh P "without" 696 (.ref 360),bh P "fill" 716 (.ref 368),bh P "conflict_counts" 725 (.ref 375),bh P "checked" 735 (.ref 382),bh P "Tree" 820 (.ref 444),bh P "Leaf" 862 (.ref 479),bh P "postorder" 873 (.ref 488),bh P "TreeHandler" 928 (.ref 526),bh P "left_names" 934 (.ref 535),bh P "ERROR_driver" 938 (.int (1) 937),bh P "UNDEFINED_driver" 940 (.int (2) 939),bh P "Handler" 985 (.ref 566),bh P "Fault" 1036 (.ref 602),bh P "Outcome" 1078 (.ref 630),bh P "TokenRow" 1116 (.ref 658),bh P "Core" 1332 (.ref 825),bh P "parse_tree" 1340 (.ref 836),bh P "Rule" 1387 (.ref 854),bh P "Grammar" 1497 (.ref 936),bh P "spread" 1505 (.ref 945),bh P "nullable" 1512 (.ref 952),bh P "transitive" 1522 (.ref 959),bh P "NONE" 1527 (.int (-1) 1526),bh P "LrState" 1578 (.ref 990),bh P "Closer" 1641 (.ref 1032),bh P "advanced" 1649 (.ref 1043),bh P "kernels_behind" 1661 (.ref 1050),bh P "complete_rules" 1671 (.ref 1057),bh P "Automaton" 1745 (.ref 1109),bh P "Builder" 1804 (.ref 1151),bh P "build" 1811 (.ref 1162),bh P "unit_order" 1819 (.ref 1167),bh P "ways" 1836 (.ref 1174),bh P "count_trees" 1851 (.ref 1181),bh P "_law_pen" 1859 (.ref 1186),bh P "_law_draw" 1868 (.ref 1193),bh P "_law_pick" 1876 (.ref 1200),bh P "_law_world" 1882 (.ref 1205),bh P "_law_grammar" 1888 (.ref 1210),bh P "_law_way" 1900 (.ref 1217),bh P "_law_due" 1906 (.ref 1222),bh P "_law_trees" 1912 (.ref 1227),bh P "_law_is_settled" 1918 (.ref 1232),bh P "_law_told" 1927 (.ref 1239),bh P "_law_word" 1938 (.ref 1246),bh P "_law_is_let" 1945 (.ref 1253),bh P "law" 1951 (.ref 1258)]
def z1:YY:=[(1,20),(5,27),(16,55),(18,67),(20,79),(22,91),(35,127),(51,134),(112,232),(123,261),(146,300),(162,307),(225,354),(237,359),(239,367),(260,374),(266,381),(276,388),(310,454),(323,487),(332,494),(348,534),(353,541),(363,576),(376,612),(386,640),(399,668),(520,835),(523,842),(533,864),(580,944),(606,951),(608,958),(617,965),(634,1000),(663,1042),(665,1049),(677,1056),(683,1063),(708,1119),(736,1161),(739,1166),(761,1173),(774,1180),(787,1185),(789,1192),(796,1199),(798,1204),(813,1209),(825,1216),(834,1221),(844,1226),(858,1231),(876,1238),(883,1245),(895,1252),(900,1257)].flatMap λ(x:Nat×Nat)=>[hA (Int.ofNat x.1),hA 0,.ref x.2]
def zj(P:Y8)(e n:Nat)(v:Y3):Obj:=p8 (bh P "__name__" 165 v::(Nc P).take e) n
def yG(P:Y8):Obj:={cls:=.none,data:=.dict [bh P "type.__subclasses__.Exception.0" 230 (hA 46),bh P "type.__subclasses__.Exception.n" 231 (hA 1)].toArray 2}
def SP(w:Y7)(p:OsState)(k n d:Nat)(g l r:Obj)(c a b:YY):SharedT:=⟨tl (yN w.params r g l++((yP w.params c a b).take k).flatten) 0 .nil,n,(boot_heap w.params).life,Array.mk [],boot_drawn,d,p⟩
def mx:Ze Y3:=Zx (some (.ref 6))
def sG:Env:={scope:=ea.main.scope,locals:=mainNs,globals:=mainNs,cells:=[],code:=.ref 13,frame:=some 14}
def pw:Code:=.body mA sG
def t7:Pos:=Zx ⟨0,0,0,0⟩
def Gr:Pos:=Zx ⟨0,0,0,0⟩
def RG:Pos:=Zx ⟨0,0,0,0⟩
def RS:List YZ:=Zx [[0,15,187,8,0,0,0,0,0,301,0,0,0,0,3,9175],[3,50,234,10,6,1,0,0,0,214,5,0,15,29,1,8874],[4,62,250,11,9,1,1,0,0,214,16,0,17,8,1,8660],[5,74,266,12,12,1,2,0,0,214,18,0,19,8,1,8446],[6,86,282,13,15,1,3,0,0,395,20,0,21,8,8,8232],[14,129,358,20,21,2,3,0,0,593,50,0,50,16,1,7837],[15,227,493,21,24,2,3,0,0,262,51,0,111,19,1,7244],[16,255,537,22,27,2,3,0,0,394,112,0,122,77,2,6982],[18,302,604,24,33,2,3,1,0,397,146,0,161,15,2,6588],[20,356,691,26,39,2,3,1,0,142,225,0,236,15,5,6191],[25,383,738,30,51,3,3,1,0,441,275,0,275,8,1,6049],[26,449,821,31,54,3,3,1,0,344,276,0,309,16,2,5608],[28,489,874,33,60,3,3,1,1,374,323,0,331,22,5,5264],[33,536,941,37,66,4,3,1,1,287,352,0,352,16,1,4890],[34,571,986,38,69,4,3,1,1,298,353,0,362,16,1,4603],[35,607,1037,39,72,4,3,1,1,260,363,0,375,16,1,4305],[36,635,1079,40,75,4,3,1,1,256,376,0,385,17,1,4045],[37,663,1117,41,78,4,3,1,1,913,386,0,398,20,1,3789],[38,830,1333,42,81,4,3,1,1,283,399,0,519,36,3,2876],[41,859,1388,44,87,5,3,1,1,518,523,0,532,28,1,2593],[42,941,1498,45,90,5,3,1,1,120,533,0,578,53,6,2075],[48,960,1528,49,99,7,3,1,1,293,616,0,616,4,1,1955],[49,995,1579,50,102,7,3,1,1,393,617,0,633,61,3,1662],[52,1051,1662,53,111,7,3,1,1,33,665,0,676,18,1,1269],[53,1058,1672,54,114,7,3,1,1,388,677,0,682,24,1,1236],[54,1114,1746,55,117,7,3,1,1,389,683,0,707,17,4,848],[58,1168,1820,58,126,8,3,1,1,401,739,0,760,16,14,459],[72,1247,1939,71,165,9,3,1,1,56,883,0,894,15,2,58],[74,1259,1952,73,171,9,3,1,1,0,900,0,927,15,0,2]]
def ej(j c:Nat):Nat:=(((RS[j]?).getD [])[c]?).getD 0
def k7(w:Y7)(p:OsState)(j:Nat):SharedT:=SP w p (ej j 0) (ej j 1) (ej j 2) (zj w.params (ej j 3) (ej j 3+1) (b3 (ej j 5))) (ox (z1.take (ej j 4))) (bif Nat.beq j 0 then boot_o_2 w.params else yG w.params) ([.ref 59,.ref 71,.ref 83].take (ej j 6)) ([.ref 292].take (ej j 7)) ([.ref 479].take (ej j 8))
def vS(j:Nat):Pos:=⟨ej j 10,ej j 11,ej j 12,ej j 13⟩
def BO(w:Y7)(j:Nat):Prop:=(λp=>Fast.tw10110043849684766642 Fast.tw14364793385576792824 ea w 11 mx 1 (ej j 9) (k7 w p j) (piecesOf ((mA.drop (ej j 0)).take (ej j 14)) sG pw (vS j) [topFrame t7]))=λp=>some (.next,k7 w p (j+1),pw,vS (j+1))
def RJ(w:Y7):(λp=>topGo treeTable ea w 11 mx 12 ⟨boot_heap w.params,Array.mk [],boot_drawn,boot_toks,p⟩ (topStub ea))=λp=>some ((k7 w p 0).abs,⟨denote treeTable (.body mA sG),pw,Gr,[topFrame t7]⟩):=by
 rw[Fast.te15667345088766844465,Fast.te14364793385576792824,Fast.te11892475500146522536]
 kernel_rfl
def J7(w:Y7):(λp=>segRunT treeTable ea w 11 mx 1 1 (k7 w p 0) (blockOf mA sG pw Gr [topFrame t7]))=λp=>some (.next,k7 w p 0,pw,RG):=by
 rw[Fast.te10110043849684766642,Fast.te14364793385576792824]
 kernel_rfl
def ML(w:Y7):(λp=>topRun treeTable ea w 11 mx 2 (k7 w p 28).abs ⟨doneF .next,pw,vS 28,[topFrame t7]⟩)=λp=>some (k7 w p 28).abs:=by
 rw[Fast.te14082659384304107361,Fast.te14364793385576792824]
 kernel_rfl
def jI(w:Y7)(p:OsState)(j:Nat):Prop:=topRun treeTable ea w 11 mx (ej j 15) (k7 w p j).abs (restOf (mA.drop (ej j 0)) sG pw (vS j) [topFrame t7])=some (k7 w p 28).abs
def eI{w:Y7}{p:OsState}{j:Nat}(h:BO w j)(e:ej j 0+ej j 14=ej (j+1) 0)(f:ej j 15=ej j 9+ej (j+1) 15)(k:jI w p (j+1)):jI w p j:=by
 unfold BO at h;rw[<-Fast.te10110043849684766642,<-Fast.te14364793385576792824] at h;unfold jI at k⊢;rw[<-e] at k;rw[f];have:=piece_app (rest:=(mA.drop (ej j 0)).drop (ej j 14)) (segRun_of (Xx h p)) (by rw[YA];exact k)
 rwa [Yo] at this
def Sz{w:Y7}{p:OsState}(k:jI w p 7):jI w p 0:=
 eI (by show _=_;kernel_rfl) rfl rfl (eI (by show _=_;kernel_rfl) rfl rfl (eI (by show _=_;kernel_rfl) rfl rfl (eI (by show _=_;kernel_rfl) rfl rfl (eI (by show _=_;kernel_rfl) rfl rfl (eI (by show _=_;kernel_rfl) rfl rfl (eI (by show _=_;kernel_rfl) rfl rfl k))))))
def SA{w:Y7}{p:OsState}(k:jI w p 14):jI w p 7:=
 eI (by show _=_;kernel_rfl) rfl rfl (eI (by show _=_;kernel_rfl) rfl rfl (eI (by show _=_;kernel_rfl) rfl rfl (eI (by show _=_;kernel_rfl) rfl rfl (eI (by show _=_;kernel_rfl) rfl rfl (eI (by show _=_;kernel_rfl) rfl rfl (eI (by show _=_;kernel_rfl) rfl rfl k))))))
def SE{w:Y7}{p:OsState}(k:jI w p 21):jI w p 14:=
 eI (by show _=_;kernel_rfl) rfl rfl (eI (by show _=_;kernel_rfl) rfl rfl (eI (by show _=_;kernel_rfl) rfl rfl (eI (by show _=_;kernel_rfl) rfl rfl (eI (by show _=_;kernel_rfl) rfl rfl (eI (by show _=_;kernel_rfl) rfl rfl (eI (by show _=_;kernel_rfl) rfl rfl k))))))
def SF{w:Y7}{p:OsState}(k:jI w p 28):jI w p 21:=
 eI (by show _=_;kernel_rfl) rfl rfl (eI (by show _=_;kernel_rfl) rfl rfl (eI (by show _=_;kernel_rfl) rfl rfl (eI (by show _=_;kernel_rfl) rfl rfl (eI (by show _=_;kernel_rfl) rfl rfl (eI (by show _=_;kernel_rfl) rfl rfl (eI (by show _=_;kernel_rfl) rfl rfl k))))))
def L5:mA.drop 74=[]:=by kernel_rfl
def SJ(w:Y7)(p:OsState):topRun treeTable ea w 11 mx (12+(1+ej 0 15)) ⟨boot_heap w.params,Array.mk [],boot_drawn,boot_toks,p⟩ (topStub ea)=some (k7 w p 28).abs:=
 go_top (Xx (RJ w) p) (piece_block (segRun_of (Xx (J7 w) p)) (show jI w p 0 from (Sz (SA (SE (SF (show topRun treeTable ea w 11 mx 2 _ (restOf (mA.drop 74) _ _ _ _)=_ from L5▸piece_nil (Xx (ML w) p))))))))
def ei:Program:={ea with main:={ea.main with body:=[j' 73]}}
def kQ:List Y':=Zx (["_wall","ToolError","GrammarError","TableError","ParseError","Token","bits","ACCEPT","BARRED","END","ERROR_tables","UNDEFINED_tables","Tables","Conflict","ParseTables","settle","RowMaker","default_of","without","fill","conflict_counts","checked","Tree","Leaf","postorder","TreeHandler","left_names","ERROR_driver","UNDEFINED_driver","Handler","Fault","Outcome","TokenRow","Core","parse_tree","Rule","Grammar","spread","nullable","transitive","NONE","LrState","Closer","advanced","kernels_behind","complete_rules","Automaton","Builder","build","unit_order","ways","count_trees","_law_pen","_law_draw","_law_pick","_law_world","_law_grammar","_law_way","_law_due","_law_trees","_law_is_settled","_law_told","_law_word","_law_is_let"].map Str.ofString)
def mn(P:Y8):Y5:=absHeap (tl (yN P (yG P) (zj P 73 74 (b3 (ej 28 5))) (ox (z1.take 171))++((yP P [.ref 59,.ref 71,.ref 83] [.ref 292] [.ref 479]).take 74).flatten) 0 .nil) 1259 (boot_heap P).life
def TH(w:Y7):(λp=>some (k7 w p 28).abs)=λp=>some ⟨mn w.params,Array.mk [],boot_drawn,1952,p⟩:=by kernel_rfl
def Rg:∀w:Y7,(fencedOpening treeTable ea w 20000).map (λs=>(s.heap,s.gens,s.drawn,s.toks))=some (boot_heap w.params,Array.mk [],boot_drawn,boot_toks):=
 boot_open (by rfl) (by rfl) (λ_=>rfl)
def Tq(w:Y7):((boot_heap w.params).isNs mainGlobals&&(Array.mk ([]:List GenState)).size==0,(boot_heap w.params).objs.size,(boot_heap w.params).nsMap mainGlobals "__annotations__")=(true,11,mx):=by kernel_rfl
abbrev w9:OpenLaw:=Zx (PySem.Challenge.rw_nn0422_01)
abbrev hx(w:Y7)(p:OsState):Za:=⟨mn w.params,Array.mk [],boot_drawn,1952,p⟩
def Pf(w:Y7):(λp=>(staticsOk (importedModules ea.main.body) (boot_heap w.params) (mn w.params)&&namesBound ea (mn w.params)&&gensDone (hx w p)&&laidKept (boot_heap w.params) (mn w.params)))=λ_=>true:=by kernel_rfl
def Pg(w:Y7):(λp=>seen ((recsOf ei).map (·.name)) (ownsOf ei) [] {(hx w p)with gens:=#[]})=λ_=>expectedOf ei:=by kernel_rfl
def Ph(w:Y7):(λp=>(hx w p).heap.bltView)=λ_=>bltViewBooted:=by kernel_rfl
def Pj(w:Y7):(λp=>(hx w p).heap.keysOk (looseW ei kQ) ((recsOf ei).map (·.name)) ((litsOf ei).map (·.1)) ((clssOf ei (looseW ei kQ)).map (·.name))&&(hx w p).heap.accountedOkI (importedModules ea.main.body)&&(hx w p).heap.isNs mainGlobals&&(hx w p).heap.isNs builtinsNs&&tablesOk ei (hx w p).heap&&(xlAt ei [] (hx w p)&&recOk (RowW.records (OpenLaw.row w9).toRowW) (hx w p))&&(if true then(hx w p).gens.size==0 else !leftWithCleanup (hx w p).gens))=λ_=>true:=by kernel_rfl
def zX(w:Y7):(λp=>tabsOk ei (hx w p))=λ_=>true:=by kernel_rfl
def zY(w:Y7):(λp=>pinSeenD ei (drecsOf ei) (hx w p))=λ_=>pinGoodD (drecsOf ei):=by kernel_rfl
def Pk(w:Y7):(λp=>plainSeenE ei (looseW ei kQ) (hx w p))=λ_=>plainGoodE ei (looseW ei kQ):=by kernel_rfl
def Pl(w:Y7):(λp=>plainSeenD ei kQ (hx w p))=λ_=>plainGoodD ei kQ:=by kernel_rfl
def Pm(w:Y7):(λp=>wideSeen ei (hx w p))=λ_=>wideGood ei:=by kernel_rfl
def Pn(w:Y7):(λp=>clsSeenW ei kQ (hx w p))=λ_=>clsGoodW ei kQ:=by kernel_rfl
def lY(x:a=A)(y:b=c):(a,b)=(A,c):=by rw[x,y]
abbrev Je(s:Za):Bool:=xlAt ei [] s&&recOk (RowW.records (OpenLaw.row w9).toRowW) s
def SH(w:Y7)(p:OsState):topRun treeTable ea w 11 mx 9200 ⟨boot_heap w.params,Array.mk [],boot_drawn,boot_toks,p⟩ (topStub ea)=some ⟨mn w.params,Array.mk [],boot_drawn,1952,p⟩:=by have:=SJ w p;rw[Xx (TH w) p] at this;have z:=topRun_mono (9200-(12+(1+ej 0 15))) _ _ _ _ this;exact z
def OV:LeftO ea ei kQ Je Shared.heap (λw=>mn w.params) 20000:=
 LeftO.of_pieces Rg Tq SH (by rfl) λw=>funext λp=>lY (Xx (Pf w) p) (lY (lY (Xx (Pg w) p) (lY (Xx (Ph w) p) (lY (Xx (Pj w) p) (lY (Xx (zX w) p) (lY (Xx (zY w) p) (lY (Xx (Pk w) p) (lY (Xx (Pl w) p) (lY (Xx (Pm w) p) (Xx (Pn w) p))))))))) rfl)
abbrev nq:OpenRow:=OpenLaw.row w9
def CU:DefRec:=⟨Str.ofString "law",(f6 (j' 73)).1.2.1,(f6 (j' 73)).2.1,(f6 (j' 73)).1.2.2.1,(f6 (j' 73)).1.2.2.2⟩
def LD:(chainsOk ei&&opensWell nq.prog&&(frees nq.toRowW&&nq.within.isEmpty)):=by kernel_rfl
def LC:nq.prog.bare:=⟨rfl,rfl,rfl,rfl,rfl,by kernel_rfl⟩
abbrev BS(w:Y7)(h:Y5):Prop:=∀b o,(mn w.params).get? b=some o->h.get? b=some o
def NS(i:nq.wellSaid)(g:nq.toRowW.promised)(d:WalkO ei kQ (XL ei []) BS nq.toRowW CU [] λf c=>PySem.call f c):nq.Holds:=
 holds_open OV (λw s e b o h=>by rw[e];exact h) (λw h S a k b o e=>k b o (a b o e)) (λs e=>xl_of s (WM.mp e).1) XL.keeps (by kernel_rfl) (by kernel_rfl) (by kernel_rfl) (λs e=>recFacts_of (WM.mp e).2) (by rfl) i LD LC g d
end Mine.Internal
end
noncomputable section
open PySem PySem.W PySem.Calls PyProof.Rows
namespace Mine.Internal
def Dy:YZ:=Zx [21,36,43,100,107,114,128,142,149,156,163,170,177,184,191,198,205,212,219,240,247,268,275,282,289,301,315,322,329,336,341,355,360,368,375,382,396,403,410,417,422,427,434,441,462,469,476,488,502,509,516,523,535,549,556,563,585,592,599,620,627,648,655,677,684,691,698,705,712,719,726,733,740,747,754,761,768,775,782,789,796,803,810,815,822,836,851,870,877,884,891,898,905,912,919,926,933,945,952,959,973,980,987,1008,1015,1022,1029,1043,1050,1057,1071,1078,1085,1092,1099,1106,1127,1134,1141,1148,1162,1167,1174,1181,1186,1193,1200,1205,1210,1217,1222,1227,1232,1239,1246,1253,1258]
def iT:YZ:=Zx [117,117,117,117,117,222,250,292,344,444,479,526,566,602,630,658,825,854,936,990,1032,1109,1151]
def p2(l:YZ)(i:Nat):Nat:=match a3 l i with|some x=>x|none=>0
def gB(i:Nat):Nat:=p2 Dy (match au Mv i with|some j=>j|none=>i)
noncomputable def l7:YZ->Nat->List Obj->Frag
 |a::r,i,o::s=>match Nat.beq a i with
  |true=>(a,o)::l7 r (i+1) s
  |false=>l7 (a::r) (i+1) s
 |_,_,_=>[]
def E0(l:YZ):YZ:=Zx (l.flatMap λa=>[a-1,a])
def p9(P:Y8):List Obj:=yN P (yG P) (zj P 73 74 (b3 (ej 28 5))) (ox (z1.take 171))++((yP P [.ref 59,.ref 71,.ref 83] [.ref 292] [.ref 479]).take 74).flatten
def bH(P:Y8):Frag:=U (l7 [2,3] 0 (p9 P)) (U (l7 (E0 (iT.drop 5)) 0 (p9 P)) (U (l7 [29,45,46,58,59,93,258,361,578,670,844] 0 (p9 P)) (U (l7 [116,117] 0 (p9 P)) (l7 (E0 Dy) 0 (p9 P)))))
def p4:List Y':=QI.map Str.ofString
def e0(n:Nat):Y':=match a3 p4 n with
 |some s=>s
 |none=>j [0,n]
def aZ(O:Nat->YU->Ze V)(w:Y7)(T:hC):cn where
 prog:=ea
 w:=w
 K:=bH w.params
 az:=e0
 cP:=p2 iT
 di:=gB
 jU:=λs=>(nsIn (bH w.params) mainGlobals s).join
 iZ:=23
 l3:=187
 P:=⟨rg.get,n0.get,vv,O⟩
 N:=gv
 T:=T
def xW(n:Nat)(t:BT):Prop:=∀i,(t.get i).isSome=true↔i<n
def Lp(i:Nat):(2*i+1) % 2=1:=(Nat.mul_add_mod 2 i 1).trans rfl
def Lq(i:Nat):¬(2*i+2) % 2=1:=λe=>absurd ((Nat.mul_add_mod 2 i 2).symm.trans e:2 % 2=1) (by decide)
def NO(i:Nat):(2*i+1)/2=i:=Nat.mul_add_div (by decide) i 1
def NP(i:Nat):(2*i+2)/2-1=i:=Wd (·-1) (Nat.mul_add_div (m:=2) (by decide) i 2)
def CV{i k j:Nat}:2*i+j<2*k+j↔i<k:=Nat.add_lt_add_iff_right.trans (Nat.mul_lt_mul_left (by decide))
def Q5{i n:Nat}(h:n % 2=1):2*i+1<n↔i<n/2:=by have e:=W9 n 2;rw[h] at e;generalize n/2=k at e⊢;exact e▸CV
def Mc{i n:Nat}(x:n≠0)(h:n % 2=0):2*i+2<n↔i<n/2-1:=by
 have e:=W9 n 2;rw[h] at e;generalize n/2=k at e⊢;induction k with|zero=>exact absurd e.symm x|succ k=>exact e▸CV (j:=2)
def MY(t:BT):∀{a:Nat},xW a t->((t.ins a H).get a).isSome:=by
 induction t with
 |nil=>
  intro a h;induction a with
  |zero=>rfl
  |succ a=>nomatch (h 0).mpr (Wx a)
 |node v l r m Q=>
  intro a h;rw[BT.ins_node]
  by_cases x:a=0
  .rw[if_pos x,BT.get_node,if_pos x];rfl
  .rw[if_neg x]
   by_cases P:a % 2=1
   .rw[if_pos P,BT.get_node,if_neg x,if_pos P]
    refine m λi=>?_;have z:=h (2*i+1);rw[BT.get_node,if_neg (X1 _),if_pos (Lp i),NO] at z;exact z.trans (Q5 P)
   .rw[if_neg P,BT.get_node,if_neg x,if_neg P]
    refine Q λi=>?_;have z:=h (2*i+2);rw[BT.get_node,if_neg (X1 _),if_neg (Lq i),NP] at z;exact z.trans (Mc x ((Nat.mod_two_eq_zero_or_one a).resolve_right P))
def N4(l:List Obj):∀{a:Nat}{t:BT},xW a t->∀{i:Nat}{H:Obj},a3 l i=some H->(tl l a t).get (a+i)=some H/\∀B,B<a->(tl l a t).get B=t.get B:=by
 induction l with
 |nil=>exactλ_ _ _ e=>cB e
 |cons x r S=>
  intro a t h i H e;have g:=BT.get_ins x t a (MY t h);have f:xW (a+1) (t.ins a x):=λB=>by
   rw[g]
   by_cases q:B=a
   .rw[if_pos q,q];exact⟨λ_=>Wu _,λ_=>rfl⟩
   .rw[if_neg q,h];lia
  have F:∀B,B<a+1->(tl r (a+1) (t.ins a x)).get B=(t.ins a x).get B:=by
   induction r with|nil=>exactλ_ _=>rfl|cons y s=>exact(S f (i:=0) rfl).2
  refine⟨?_,λB P=>(F B (WW P)).trans (by rw[g,if_neg (Wv P)])⟩
  induction i with
  |zero=>exact(F a (Wu _)).trans (by rw[g,if_pos rfl];exact e)
  |succ i=>
   have z:=(S f e).1
   rwa [show a+1+i=a+(i+1) from by lia] at z
def t5{a:Nat}{o:Obj}(L:List Obj):∀{l:YZ}{i:Nat},(a,o)∈l7 l i L->∃B,a=i+B/\a3 L B=some o:=by
 induction L with
 |nil=>exactλ{l i} h=>by induction l<;>exact es h
 |cons x s S=>
  intro l i h;induction l with
  |nil=>exact es h
  |cons b r=>
   have h:(a,o)∈(match Nat.beq b i with|true=>(b,x)::l7 r (i+1) s|false=>l7 (b::r) (i+1) s):=h
   have D:(∃B,a=i+1+B/\a3 s B=some o)->∃B,a=i+B/\a3 (x::s) B=some o:=λz=>z.elim λB z=>⟨B+1,by rw[z.1,Wl,Wm 1],z.2⟩
   generalize q:Nat.beq b i=N;induction N with
   |false=>rw[q] at h;exact D (S h)
   |true=>
    rw[q] at h;cases h with
    |head=>exact⟨0,We q,rfl⟩
    |tail _ h=>exact D (S h)
def IL(P:Y8):((bH P).all λp=>Nat.blt p.1 1259&& !p.2.isFreed):=by kernel_rfl
def PH{α β:Type} [BEq α] [LawfulBEq α]{a:α}{b:β}(l:List (α×β))(h:l.lookup a=some b):(a,b)∈l:=by
 induction l with
 |nil=>exact cB h
 |cons x r S=>
  rw[show x=(x.1,x.2) from rfl,XB] at h;cases q:a==x.1 with
  |false=>rw[q] at h;exact .tail _ (S h)
  |true=>rw[q] at h;rw[show(a,b)=x from Prod.ext (beq_iff_eq.mp q) (Wc h).symm];exact .head _
def IM{h:Y5}(H:∀b f,(mn P).get? b=some f->h.get? b=some f):(bH P).In h:=by
 intro a f e;refine H a f ?_;have m:=PH _ e;have g:=WM.mp (Wn.mp (IL P) _ m);have z:∃j,a=0+j/\a3 (p9 P) j=some f:=by
  unfold bH at m;rw[ha,ha,ha,ha] at m;rcases WU.mp m with m|m
  .exact t5 _ m
  rcases WU.mp m with m|m
  .exact t5 _ m
  rcases WU.mp m with m|m
  .exact t5 _ m
  exact(WU.mp m).elim (t5 _) (t5 _)
 refine z.elim λj z=>?_;have y:=(N4 (p9 P) (a:=0) (t:=.nil) (λi=>⟨λh=>(bb h),λh=>absurd h (Xv _)⟩) z.2).1;rw[<-z.1] at y;refine(abs_get (Wb g.1) y).trans ?_;have k:=g.2;unfold alive;induction f with
 |mk c d R q=>induction R<;>first|rfl|exact bb k
def yp{p:Nat->Bool}{n:Nat}(h:(List.range n).all p){i:Nat}(A:i<n):p i:=Wn.mp h i (List.mem_range.mpr A)
def KX(K:Frag)(a:Nat):Bool:=hasDictIn K a&&(plainOver K a&&(makesIn K a&&(List.range 187).all λx=>uU K a (e0 x)))
noncomputable def mJ{α:Type}:bo α->List (Nat×α)
 |.nil=>[]
 |.node v l r=>U (match v with|some x=>[(0,x)]|none=>[]) (U ((mJ l).map λp=>(2*p.1+1,p.2)) ((mJ r).map λp=>(2*p.1+2,p.2)))
def RH(n:i≠0)(m:i % 2=0):2*(i/2-1)+2=i:=by
 have h:=W9 i 2;rw[m] at h;generalize i/2=k at h⊢;induction k with|zero=>exact absurd h.symm n|succ k=>exact h
def pC(t:bo α):∀{i:Nat},t.get i=some x->(i,x)∈mJ t:=by
 induction t with
 |nil=>exactλh=>cB h
 |node v l r m Q=>
  intro i h;have h:(match Nat.beq i 0 with|true=>v|false=>match Nat.beq (i % 2) 1 with|true=>l.get (i/2)|false=>r.get (i/2-1))=some x:=h
  refine(?_:_∈U _ _);rw[ha,ha];generalize d:Nat.beq i 0=N;induction N with
  |true=>rw[d] at h;have h:v=some x:=h;rw[We d,h];exact Xa _ (.head _)
  |false=>
   rw[d] at h;refine WR _ ?_;generalize k:Nat.beq (i % 2) 1=N;induction N with|true=>rw[k] at h;have e:=W9 i 2;rw[We k] at e;exact Xa _ (WN.mpr ⟨(i/2,x),m h,Prod.ext e rfl⟩)|false=>rw[k] at h;exact WR _ (WN.mpr ⟨(i/2-1,x),Q h,Prod.ext (RH (iR d) (sI (iR k))) rfl⟩)
def m5{α β:Type}{f g:α->β}{l:List α}(h:l.map f=l.map g){x:α}(m:x∈l):f x=g x:=List.map_inj_left.mp h x m
def mS(s:Y'):Nat:=Zx (match s.cps.toList with
 |c::_=>c
 |[]=>0)
def QJ:p5 p4:=rfl
def QK:(p4.all λs=> !(Nat.beq (mS s) 0)&&(!(Nat.beq (mS s) 46)&& !(Nat.beq (mS s) 95))):=rfl
def Ga(l:List α):∀{i:Nat},a3 l i=l[i]?:=by
 induction l with
 |nil=>exactλ{i}=>by induction i<;>rfl
 |cons x r S=>exactλ{i}=>by induction i with|zero=>rfl|succ i=>exact S
def As(e:mS (e0 b)=c):c≠46/\c≠95/\(c=0->∃a,e0 b=j [0,a]/\a=b):=by
 unfold e0 at e⊢;generalize q:a3 p4 b=N;induction N with
 |none=>rw[q] at e;exact e▸⟨(λz:0=46=>nomatch z),(λz:0=95=>nomatch z),λ_=>⟨b,rfl,rfl⟩⟩
 |some s=>
  rw[q] at e;have z:=WM.mp (Wn.mp QK s (List.mem_of_getElem? ((Ga _).symm.trans q)));have y:=WM.mp z.2;have D:∀{a:Nat},(!(Nat.beq (mS s) a))->c≠a:=λh g=>by rw[e,g,WA] at h;exact bb h
  exact⟨D y.1,D y.2,λg=>absurd g (D z.1)⟩
def QF(a b:Nat)(e:e0 a=e0 b):a=b:=by
 by_cases z:mS (e0 a)=0
 .obtain⟨k,P,N⟩:=(As (b:=a) rfl).2.2 z
  obtain⟨B,x,f⟩:=(As (b:=b) rfl).2.2 (e▸z);have q:=P.symm.trans (e.trans x);have q:k=B:=by injection q with q;injection q with q;injection q with _ q;injection q
  exact N▸f▸q▸rfl
 .unfold e0 at e z
  have p:∀{n:Nat},mS (match a3 p4 n with|some s=>s|none=>j [0,n])≠0->∃s,a3 p4 n=some s:=λ{n} h=>by
   generalize q:a3 p4 n=c;induction c with|none=>rw[q] at h;exact absurd rfl h|some s=>exact⟨s,rfl⟩
  refine(p z).elim λs i=>?_;refine(p (e▸z)).elim λt V=>?_;rw[i,V] at e;have e:=e;subst e;rw[Ga] at i V;exact(List.getElem?_inj (List.getElem?_eq_some_iff.mp i).1 (tP QJ)).mp (i.trans V.symm)
def F5(h:mS s=46\/mS s=95):e0 a≠s:=λe=>by have z:=As (b:=a) rfl;rw[e] at z;exact h.elim z.1 z.2.1
def Fz(l:List (Nat×α))(h:au l a=some b):(a,b)∈l:=by
 induction l with
 |nil=>exact cB h
 |cons x r S=>
  have h:(match Nat.beq x.1 a with|true=>some x.2|false=>au r a)=some b:=h
  generalize q:Nat.beq x.1 a=N;induction N with|false=>rw[q] at h;exact .tail _ (S h)|true=>rw[q] at h;rw[show(a,b)=x from Prod.ext (We q).symm (Wc h).symm];exact .head _
def NZ:Y0->Ze (Ze Y3)
 |none=>some (some (.builtin "object.__init__"))
 |some i=>some (some (.ref (gB i)))
def KW(K:Frag)(p:Nat×i9):Bool:=Nat.blt p.1 23&&(keepIn K (.ref (p2 iT p.1))&&((match p.2.init with|none=>true|some i=>isFn K (.ref (gB i)))&&p.2.kR.all λq=>Nat.blt q.1 187&&(isFn K (.ref (gB q.2))&&keepIn K (.ref (gB q.2)))))
def qW(P:Y8):((iT.drop 4).all λa=>KX (bH P) a)/\((iT.drop 4).map λa=>(findIn (bH P) (.ref a) "__getattribute__",findIn (bH P) (.ref a) "__getattr__",findIn (bH P) (.ref a) "__setattr__"))=((iT.drop 4).map λ_=>(some (some (.builtin "object.__getattribute__")),some none,some (some (.builtin "object.__setattr__"))))/\((iT.drop 4).map λa=>(List.range 187).map λx=>takerIn (bH P) a (e0 x))=((iT.drop 4).map λ_=>(List.range 187).map λ_=>some none)/\((mJ n0).all (KW (bH P)))/\((mJ n0).map λp=>(findIn (bH P) (.ref (p2 iT p.1)) "__init__",p.2.kR.map λq=>findIn (bH P) (.ref (p2 iT p.1)) (e0 q.1)))=((mJ n0).map λp=>(NZ p.2.init,p.2.kR.map λq=>some (some (.ref (gB q.2))))):=by refine⟨?_,?_,?_,?_,?_⟩<;>kernel_rfl
def KY{O:Nat->YU->Ze V}(c:Nat)(k:i9)(h:n0.get c=some k):xS (aZ O w T) c k:=by
 have m:=pC _ h;have b:=Wn.mp (qW w.params).2.2.2.1 _ m;have e:=Xs (m5 (qW w.params).2.2.2.2 m);refine⟨Wb (aN b),aN (ar b),?_,λx i B=>?_⟩
 .have b:=aN (ar (ar b))
  have e:=e.1;show match k.init with|none=>_|some i=>_
  generalize q:k.init=N;induction N with|none=>rw[q] at e;exact e|some i=>rw[q] at e b;exact⟨e,b⟩
 .have y:=Fz _ B
  have b:=Wn.mp (ar (ar (ar b))) _ y;exact⟨m5 e.2 y,aN (ar b),Wb (aN b)⟩
def Ov{w:Y7}(c:Nat)(k:i9)(x i:Nat)(h:n0.get c=some k)(B:au k.kR x=some i):keepIn (bH w.params) (.ref (gB i)):=
 ar (ar (Wn.mp (ar (ar (ar (Wn.mp (qW w.params).2.2.2.1 _ (pC _ h))))) _ (Fz _ B)))
def UC(P:Y8):(qN.map λx=>nsIn (bH P) mainGlobals x)=qN.map λ_=>some none:=rfl
def UD{O:Nat->YU->Ze V}:BR (aZ O w T):=⟨λx v h=>by
 have h:(nsIn (bH w.params) mainGlobals x).join=some v:=h;show nsIn (bH w.params) mainGlobals x=some (some v);generalize q:nsIn (bH w.params) mainGlobals x=N;induction N with|none=>rw[q] at h;exact cB h|some o=>rw[q] at h;exact Wd some h,λx m=>m5 (UC w.params) m⟩
def P9{O:Nat->YU->Ze V}:km (aZ O w T):=by constructor<;>kernel_rfl
def K1{O:Nat->YU->Ze V}(c:Nat)(h:c<23):BL (aZ O w T) c:=by
 have m:p2 iT c∈iT.drop 4:=by have z:((List.range 23).all λc=>(iT.drop 4).contains (p2 iT c)):=rfl;exact Yn.mp (yp z h)
 have b:=Wn.mp (qW w.params).1 _ m;have f:=Xs (m5 (qW w.params).2.1 m);have lJ:=Xs f.2;exact⟨f.1,lJ.1,lJ.2,aN b,aN (ar b),λa h=>yp (ar (ar (ar b))) h,λa h=>m5 (m5 (qW w.params).2.2.1 m) (List.mem_range.mpr h),aN (ar (ar b))⟩
def QH{O:Nat->YU->Ze V}:lp (aZ O w T):=⟨QF,K1,λ_=>F5 (.inl rfl),λ_=>F5 (.inr rfl)⟩
def pG(K:Frag)(i:Nat):Obj:=(K.lookup (gB i)).getD default
def gQ(K:Frag)(i:Nat):FuncData:=match(pG K i).data with
 |.func f=>f
 |_=>default
def kC(f:FuncData):List Zd:=Zx (match f.body with
 |.stmts b=>b
 |_=>[])
def Dx(f:FuncData):FuncData:=fnOf f.name f.qualname f.params (kC f) f.scope f.defaults f.kwdefaults f.doc f.pyModule f.annotations f.code f.closureTuple
def LS(K:Frag)(f:FuncData)(n:Nat):YY:=Zx (match f.defaults with
 |.ref t=>match K.lookup t with
  |some o=>match o.data with
   |.seq O _=>O.toList.drop (O.toList.length-n)
   |_=>[]
  |none=>[]
 |_=>[])
noncomputable def t9:YU->YY->Bool
 |[],[]=>true
 |.none::r,.none::s=>t9 r s
 |.int i::r,.int j _::s=>dr i j&&t9 r s
 |.str i::r,.str j _::s=>VP i j&&t9 r s
 |_,_=>false
def R'(l:YU):∀{m:YY},t9 l m->aK X w l m:=by
 induction l with
 |nil=>exactλ{m} h=>by cases m with
  |nil=>exact .nil
  |cons=>exact bb h
 |cons x r S=>
  intro m h;cases m with
  |nil=>cases x<;>exact bb h
  |cons v s=>
   cases x with
   |none=>cases v with
    |none=>exact .cons .none (S h)
    |_=>exact bb h
   |int i=>cases v with
    |int j t=>exact .cons (mU.mp (aN h)▸.int) (S (ar h))
    |_=>exact bb h
   |str i=>cases v with
    |str j t=>exact .cons (k3.mp (aN h)▸.str) (S (ar h))
    |_=>exact bb h
   |_=>exact bb h
def n6:List (Nat×cy):=(mJ rg).filter λp=> !(Nat.beq p.1 21)
def oc:List (Nat×YZ×YU):=U [(135,[74],[]),(35,[74],[]),(1,[6,186,7],[.none])] (n6.map λp=>(p.1,p.2.ak,p.2.d6))
abbrev rf(K:Frag)(p:Nat×YZ×YU):YY:=LS K (gQ K p.1) (VN p.2.2)
abbrev vB(K:Frag)(p:Nat×YZ×YU):Nat:=p.2.1.length-(rf K p).length
def MQ(K:Frag)(p:Nat×YZ×YU):Bool:=
 let f:=gQ K p.1
 codeIn K f.code f.qualname&&(t9 p.2.2 (rf K p)&&((p.2.1.all λq=>ia f.scope (e0 q)==some .local||ia f.scope (e0 q)==some .cell)&&(p5 ((cellsFrom 0 f.scope.names []).map (·.1))&&(decide p.2.1.Nodup&&((match f.scope.kind with|.function=>true|_=>false)&&(!f.scope.isCoroutine&&(!f.scope.isGenerator&&(keepIn K (.ref (gB p.1))&&isFn K (.ref (gB p.1))))))))))
def vC(P:Y8):(oc.map λp=>(bH P).lookup (gB p.1))=(oc.map λp=>some ⟨(pG (bH P) p.1).cls,(pG (bH P) p.1).dict,.func (Dx (gQ (bH P) p.1)),(pG (bH P) p.1).slots⟩)/\(oc.all (MQ (bH P)))/\∀(a:Nat->Y3)(S:Setting),(oc.map λp=>peek (bH P) S (bindArgs (Dx (gQ (bH P) p.1)) ⟨(List.range (vB (bH P) p)).map a,[]⟩))=oc.map λp=>some ((p.2.1.map e0).zip ((List.range (vB (bH P) p)).map a++rf (bH P) p)):=by refine⟨?_,?_,λa S=>?_⟩<;>kernel_rfl
def DG(O:Nat->YU->Ze V)(w:Y7)(T:hC):(n6.all λp=>l5 (aZ O w T) (cN (aZ O w T) p.1) (ia (gQ (bH w.params) p.1).scope) p.2.body (kC (gQ (bH w.params) p.1)))/\(n6.map λp=>kb (aZ O w T) (cN (aZ O w T) p.1) p.2.body (kC (gQ (bH w.params) p.1)))=n6.map λp=>kC (gQ (bH w.params) p.1):=by refine⟨?_,?_⟩<;>kernel_rfl
def HQ(t:YY):(List.range t.length).map (λi=>(t[i]?).getD .none)=t:=by
 refine List.ext_getElem? λi=>?_;refine(List.getElem?_map)▸?_
 by_cases h:i<t.length
 .rw[List.getElem?_range h,Option.map_some,List.getElem?_eq_getElem h];rfl
 .rw[List.getElem?_eq_none (by exact List.length_range▸X4 h),List.getElem?_eq_none (X4 h),Option.map_none]
def vO(O:Nat->YU->Ze V)(w:Y7)(T:hC)(p:Nat×YZ×YU)(m:p∈oc):∃N,xV (aZ O w T) p.1 p.2.1 p.2.2 N/\N.body=kC (gQ (bH w.params) p.1)/\N.scope=(gQ (bH w.params) p.1).scope/\N.iU=rf (bH w.params) p:=by
 have b:=Wn.mp (vC w.params).2.1 p m;have g:=ar b;have r:=ar g;have d:=ar r;have l:=ar d;have n:=ar l;have c:=ar n;have e:=ar c;have a:=ar e;refine⟨⟨_,_,_,_,_,_,_,_,_,_,_,_,_,_,_,rf (bH w.params) p⟩,⟨m5 (vC w.params).1 m,aN b,λS t f=>?_,λW=>R' _ (aN g),aN r,tP (aN d),of_decide_eq_true (aN l),VX (aN c),VX (aN e),?_,aN a,ar a⟩,rfl,rfl,rfl⟩
 .have f:=f
  have z:=m5 ((vC w.params).2.2 (λi=>(t[i]?).getD .none) S) m;have q:vB (bH w.params) p=t.length:=by unfold vB;rw[<-f,Ya]
  rw[q,HQ] at z;exact z
 .have k:=aN n
  generalize(gQ (bH w.params) p.1).scope.kind=x at k⊢;induction x<;>first|rfl|exact bb k
def DI(m:p∈n6):(p.1,p.2.ak,p.2.d6)∈oc:=by unfold oc;rw[ha];exact WR _ (WN.mpr ⟨p,m,rfl⟩)
def ze(O:Nat->YU->Ze V)(w:Y7)(T:hC)(p:Nat×cy)(m:p∈n6):(∃N,o1 (aZ O w T) p.1 p.2 N):=by obtain⟨N,F,e,f,_⟩:=vO O w T _ (DI m);exact⟨N,⟨F,by exact e▸f▸Wn.mp (DG O w T).1 p m,by exact e▸m5 (DG O w T).2 m⟩⟩
def T4(y:Zd):Y9×List Y9×Pos×Pos×Pos×Pos×Pos:=((cR (bZ y 0)).getD 1 ck,(cR (bZ y 0)).drop 2,(ax (ax (ax (bZ y 0) 0) 0) 0).pos,(ax (ax (bZ y 0) 0) 0).pos,(ax (bZ y 0) 0).pos,(bZ y 0).pos,y.pos)
def fb(P:Y8):FuncData:=gQ (bH P) 21
def ug(P:Y8):List Zd:=kC (fb P)
def qk(P:Y8):Y9×List Y9×Pos×Pos×Pos×Pos×Pos:=T4 ((ug P).getD 3 default)
def iJ(P:Y8)(a:Y4):Obj:=((bH P).lookup a).getD default
def GW(P:Y8):Array Y3:=match(iJ P 267).data with
 |.fields v=>v
 |_=>#[]
def SM(P:Y8):Arg:=((fb P).params.posonlyargs++(fb P).params.args).headD default
def GV(P:Y8):Y'×Tok:=match((GW P)[2]?:Ze Y3)with
 |some (.str s t)=>(s,t)
 |_=>default
def SN(P:Y8):ClassData:=match(iJ P 292).data with
 |.cls c=>c
 |_=>default
def OW(h:eQ.length=8):∃a:Nat->Y3,eQ=[a 0,a 1,a 2,a 3,a 4,a 5,a 6,a 7]:=⟨λi=>(eQ[i]?).getD .none,by have z:=HQ eQ;rw[h] at z;exact z.symm⟩
def SO(P:Y8):FuncData:=ksFn (fb P).name (fb P).qualname (fb P).params (ug P) (fb P).scope (fb P).defaults (fb P).kwdefaults (fb P).doc (fb P).pyModule (fb P).annotations (.ref 267) (fb P).closureTuple 258
def T7(P:Y8)(S:Setting)(t:YY)(h:t.length=8):peek (bH P) S (bindArgs (SO P) ⟨t,[]⟩)=some ((pE.ak.map e0).zip t):=(OW h).elim λv e=>e▸(by kernel_rfl)
def T6(w:Y7):∀x∈(fb w.params).scope.names,x.2≠.cell:=λx B=>by
 have z:((fb w.params).scope.names.all λx=>match x.2 with|.cell=>false|_=>true):=by kernel_rfl
 have z:=Wn.mp z x B;intro e;rw[e] at z;exact bb z
def T8(O:Nat->YU->Ze V)(w:Y7)(T:hC):(∃N,nL (aZ O w T) 21 pE N):=⟨{
 name:=(fb w.params).name,qual:=(fb w.params).qualname,params:=(fb w.params).params,body:=ug w.params,scope:=(fb w.params).scope,q5:=(fb w.params).defaults,rp:=(fb w.params).kwdefaults,doc:=(fb w.params).doc,rM:=(fb w.params).pyModule,q1:=(fb w.params).closureTuple
 wI:=(pG (bH w.params) 21).cls,tW:=(pG (bH w.params) 21).dict,wL:=(pG (bH w.params) 21).slots,qH:=(fb w.params).annotations,lD:=267,jQ:=258
 Cr:=(iJ w.params 267).cls,Cu:=(iJ w.params 267).dict,Cs:=(iJ w.params 267).slots,bg:=GW w.params,file:=(GV w.params).1,Hy:=(GV w.params).2,sb:=SM w.params
 Cy:=(iJ w.params 258).cls,Cz:=(iJ w.params 258).dict,CN:=(iJ w.params 258).slots,c:=7,self:=6,kB:=7,Ct:=SN w.params
 pre:=pE.body.take 3,post:=pE.body.drop 4,qc:=(ug w.params).take 3,m':=(ug w.params).drop 4,av:=[(.aS (.F 33) 15),(.aS (.F 33) 16),(.F 17),(.F 18),(.F 19)]
 jA:=(qk w.params).1,bt:=(qk w.params).2.1,bp:=(qk w.params).2.2.1,bk:=(qk w.params).2.2.2.1,bf:=(qk w.params).2.2.2.2.1,oC:=(qk w.params).2.2.2.2.2.1,wO:=(qk w.params).2.2.2.2.2.2},{
 fw:=by kernel_rfl
 tc:=by kernel_rfl
 dN:=by dsimp only;exact T7 w.params
 rm:=rfl
 En:=by kernel_rfl
 zA:=by dsimp only;exact T6 w
 ti:=by decide
 td:=by kernel_rfl
 tg:=by kernel_rfl
 hn:=by kernel_rfl
 D9:=by rfl
 D':=by kernel_rfl
 Es:=by kernel_rfl
 Et:=by kernel_rfl
 El:=by kernel_rfl
 Ep:=by kernel_rfl
 Er:=by kernel_rfl
 Eb:=by kernel_rfl
 zD:=by kernel_rfl
 Eu:=Wb (by kernel_rfl)
 vT:=by kernel_rfl
 Em:=by kernel_rfl
 Ek:=Wb (by kernel_rfl)
 Ee:=by kernel_rfl
 zE:=by kernel_rfl
 zF:=by kernel_rfl
 Ea:=by kernel_rfl
 EE:=by kernel_rfl
 Ec:=by kernel_rfl
 zz:=by kernel_rfl
 D6:=by kernel_rfl
 Ew:=by kernel_rfl
 Ez:=by kernel_rfl
 Ej:=by kernel_rfl
 vR:=by kernel_rfl
 ED:=by kernel_rfl
 EB:=by kernel_rfl
 th:=by kernel_rfl
 EA:=by kernel_rfl
 Ed:=by kernel_rfl}⟩
def vq:∀{B:Nat}{a:cy},(B,a)∈mJ rg->(B,a)∈n6\/B=21:=λ{B a} m=>by
 generalize q:Nat.beq B 21=N;induction N with|true=>exact .inr (We q)|false=>exact .inl (Yw.mpr ⟨m,by show(!(Nat.beq B 21))=true;rw[q];rfl⟩)
def RZ:((mJ n0).all λp=> !p.2.qf||match p.2.init with|none=>true|some i=> !(Nat.beq i 21)):=rfl
def EY(P:Y8):(keepIn (bH P) (.ref (gB 135))&&keepIn (bH P) (.ref (gB 21))):=by kernel_rfl
def MR(P:Y8)(p:Nat×cy)(m:p∈n6):keepIn (bH P) (.ref (gB p.1)):=by have a:=ar (ar (ar (ar (ar (ar (ar (ar (Wn.mp (vC P).2.1 _ (DI m)))))))));exact aN a
def MZ:rg.get 21=some pE:=rfl
def Dz(O:Nat->YU->Ze V)(w:Y7)(T:hC)(x:∀B a r,O B a=some r->B=135)(o:yc (aZ O w T)):g7 (aZ O w T) where
 az:=QH
 r0:=UD
 aC:=P9
 cls:=KY
 keep:=λB h=>by
  rcases h with⟨K,h⟩|⟨a,r,h⟩
  .rcases vq (pC _ h)with m|e
   .exact MR w.params _ m
   .exact e▸ar (EY w.params)
  .exact x B a r h▸aN (EY w.params)
 E3:=λc k g i h b=>Ov c k g i h b
 GA:=λc k i h A F K R=>by
  rcases vq (pC _ R)with m|e
  .exact ze O w T _ m
  .have z:=Wn.mp RZ _ (pC _ h)
   have z:=e▸A▸F▸z;exact bb z
 fK:=λB K R=>by
  rcases vq (pC _ R)with m|e
  .exact .inl (ze O w T _ m)
  .subst e
   have R:=R;have e:=Wc (MZ.symm.trans R);subst e;exact .inr (T8 O w T)
 j2:=o
noncomputable def lC:YY:=[.ref 46,.type "Exception",.type "BaseException",.type "object"]
def nZ(P:Y8):ClassData:=match(iJ P 59).data with
 |.cls c=>c
 |_=>default
abbrev y2(P:Y8):Obj:=excClassObj (nZ P).name (nZ P).qualname 59 58 (nZ P).bases lC (nZ P).hasDict (nZ P).slotNames (nZ P).subclasses (nZ P).abstract (nZ P).collection (iJ P 59).dict ((iJ P 59).slots.toList.getD 0 none) ((iJ P 59).slots.toList.getD 1 none) ((iJ P 59).slots.toList.getD 2 none) ((iJ P 59).slots.toList.getD 3 none) ((iJ P 59).slots.toList.getD 5 none) "Exception.__new__"
def sL(P:Y8):(bH P).lookup 59=some (y2 P):=by kernel_rfl
def Mf(P:Y8):findIn (bH P) (.ref 59) "__init__"=some (some (.ref 36)):=by kernel_rfl
def y3:(Value.ref 59::lC).contains (.type "Exception")/\(Value.ref 59::lC).contains (.type "AttributeError")=false/\(Value.ref 59::lC).contains (.type "NameError")=false/\(Value.ref 59::lC).contains (.ref 59):=by refine⟨?_,?_,?_,?_⟩<;>decide+kernel
section
variable{m:Program}{w:Y7}{A:Zb}{E:YV}{h:Y5}{g:Array GenState}{d:Drawn}{t:Nat}{p:OsState}
def Mk(K:h.get? 59=some (y2 P))(I:Q () ⟨h,g,d,t,p⟩):wpAny r A (checkBuiltinCall "Exception.__new__" ⟨.ref 59::rest,[]⟩) Q E ⟨h,g,d,t,p⟩:=wpAny_check_new_subU PySem.F.excBase_Exception (by decide+kernel) .base K I
def Ml(K:h.get? 59=some (y2 P))
  (I:a (.ok (.ret (.ref (h.objs.size+1)))) ⟨(h.push {cls:=.type "tuple",data:=.seq rest.toArray}).push {cls:=.ref 59,data:=.fields #[.ref h.objs.size,.none,.none,.none,.bool false,.none]},g,d,t,p⟩)(i:rest.length<=sizeLine):
  codeAny (model m w) A (.builtin "Exception.__new__" ⟨.ref 59::rest,[]⟩) a ⟨h,g,d,t,p⟩:=by
 have F:=PySem.F.excBase_Exception;have f:=F.ends;obtain⟨pK,c,e,_⟩:=y3;refine codeAny_builtinAt F.entry ?_;unfold Builtin.«BaseException.__new__»;refine PySem.wpAt_bind ?_;refine PySem.wpAt_bind (PySem.wpAt_stack λj b=>PySem.wpAt_of_wpAny ?_)
 wp_walk
 refine PySem.wpAt_of_wpAny ?_;rw[F.owner];repeat (first|with_reducible refine wpAny_madeHere_exc F.canon K ?_|with_reducible refine Xp K ?_|(with_reducible refine X7 K ?_;first|rw[pK]|rw[c]|rw[e])|wp_step)
 rw[Yd];exact I
def Mo(X:(bH P).In h)
  (I:∀a e,Heap.MadeExcOf h a e (.ref 59) rest->wpAny (model m w) A (call (.ref 36) (.ref e::rest)) (λr c=>r=.none/\Q (.done (.ret (.ref e))) c) E ⟨a,g,d,t,p⟩)(l:rest.length<=sizeLine):
  wpAny (model m w) A (Builtin.«type.__call__» ⟨.ref 59::rest,[]⟩) Q E ⟨h,g,d,t,p⟩:=by
 have K:=X _ _ (sL P);repeat (first|with_reducible refine Xp K ?_|with_reducible refine wpAny_madeBy_exc K ?_|wp_step)
 refine codeAny_call_builtin_code (Code.quiet_builtin _ PySem.F.excBase_Exception.quiet) (Mk K ?_);refine Ml K ?_ l;have i:∀b o,h.get? b=some o->((h.push {cls:=.type "tuple",data:=.seq rest.toArray}).push {cls:=.ref 59,data:=.fields #[.ref h.objs.size,.none,.none,.none,.bool false,.none]}).get? b=some o:=λb o e=>Heap.get?_push_of_some _ (Heap.get?_push_of_some _ e);have f:=X.keeps i;have j:((h.push {cls:=.type "tuple",data:=.seq rest.toArray}).push
   {cls:=.ref 59,data:=.fields #[.ref h.objs.size,.none,.none,.none,.bool false,.none]}).get? (h.objs.size+1)=some
   {cls:=.ref 59,data:=.fields #[.ref h.objs.size,.none,.none,.none,.bool false,.none]}:=by heap_get
 unfold isInstance;repeat (first|with_reducible refine Xp j ?_|(with_reducible refine X7 (i _ _ K) ?_;rw[y3.2.2.2])|wp_step)
 refine(looks_findIn f (Mf P)).here ?_;refine Xo (Wi ((bind_fn f _ ((by kernel_rfl))).here ?_))
 refine Wi (W6 (I _ (h.objs.size+1) ⟨i,Heap.get?_none_of_le (WH _),h.objs.size,j,Heap.get?_none_of_le (Wr _),?_⟩) (λr c k=>?_) λ_ _ x=>x)
 .exact Heap.get?_push_of_some _ (Heap.get?_push_at rfl rfl)
 .obtain⟨rfl,F⟩:=k
  wp_walk
  exact F
def Mj(X:(bH P).In h)
  (I:∀a e,Heap.MadeExcOf h a e (.ref 59) rest->wpAny (model m w) (A.under (.builtin "type.__call__" ⟨.ref 59::rest,[]⟩)) (call (.ref 36) (.ref e::rest)) (λr b=>r=.none/\Q (.ref e) b) E ⟨a,g,d,t,p⟩)(c:rest.length<=sizeLine):
  wpAny (model m w) A (call (.ref 59) rest) Q E ⟨h,g,d,t,p⟩:=by
 have K:=X _ _ (sL P);have T:=tc_lookup;have lJ:=tc_bind (.ref 59);have R:(⟨h,g,d,t,p⟩:Za).TypeIs (.ref 59) "type":=⟨_,K,rfl⟩;refine Yc (Yt ?_);repeat (any_goals (first|assumption|with_reducible refine Xp K ?_|wp_step))
 refine⟨rfl,?_⟩;refine codeAny_call_builtin_at (Code.quiet_builtin _ (by decide+kernel)) entry_typeCall (wpAny_check_type_call_sub K (Mo X (λa e D=>?_) c))
 exact I a e D
end
end Mine.Internal
end
noncomputable section
open PySem PySem.W PySem.Calls PyProof.Rows Builtin Builtin.ObjectAttr
namespace Mine.Internal
section
variable{m:Program}{w:Y7}{A:Zb}{E:YV}{h:Y5}{g:Array GenState}{d:Drawn}{t:Nat}{p:OsState}{P:Y8}{x:Y4}{v:Y3}
def Mg(P:Y8):findCls (bH P) (.type "Exception") (.type "type") "__init__"=some (.val (.builtin "Exception.__init__")):=rfl
def Mh(P:Y8):mroIn (bH P) 59 (.type "object")=some true/\mroIn (bH P) 59 (.type "Exception")=some true:=⟨by kernel_rfl,by kernel_rfl⟩
def Df(P:Y8):(clsIn (bH P) 59).map (·.mro)=some (.ref 59::lC)/\(clsIn (bH P) 59).any (·.hasDict):=⟨by kernel_rfl,by kernel_rfl⟩
def Mm(X:(bH P).In s.heap)(h:Q (.builtin "Exception.__init__",[]) {s with toks:=s.toks+1}):wpAny (model m w) A (getMethod (.type "Exception") "__init__" a) Q E s:=by
 have b:Looks (model m w) s.heap (typeOf (.type "Exception")) (.type "type"):=Looks.of_pure (kitMeta_of (by decide+kernel))
 have c:Looks (model m w) s.heap (opaqueClassAbove (.type "Exception")) none:=Looks.of_pure (by unfold opaqueClassAbove;dsimp only;rw[show Manifest.isStub "Exception"=false from by decide+kernel];rfl)
 have i:findIn (bH P) (.type "type") "__getattribute__"=some (some (.builtin "type.__getattribute__")):=type_tga;unfold getMethod;refine Wi (Wi (b.here ((looks_findIn X i).here ?_)));dsimp only;rw[if_pos (by decide+kernel:(Manifest.canonical "type.__getattribute__" != "object.__getattribute__")=true)]
 refine Wi (cls_open X c b i (looks_hook X (r:=none) (by rfl)) (by show subIn (bH P) _ _=_;rfl) (Mg P) ?_)
 exact Wo (handed_on rfl (Wo h))
def Mi(X:(bH P).In h)(H:h.get? x=some b)(L:b.cls=.ref 59)(T:b.data=.fields #[.ref r,.none,.none,.none,.bool false,.none])
  (I:Q .none ⟨(h.push {cls:=.type "tuple",data:=.seq #[v]}).update x (Obj.mapFields (·.setIfInBounds 0 (.ref h.objs.size))),g,d,t,p⟩):wpAny (model m w) A (call (.builtin "Exception.__init__") [.ref x,v]) Q E ⟨h,g,d,t,p⟩:=by
 have F:=PySem.F.excBase_Exception;have K:=X _ _ (sL P);refine Yc (Yv F.init.plain F.initEntry ?_)
 .have a:=F.noStar
  simp only [checkBuiltinCall,F.initKind,F.initSplit,F.initRow]
  repeat (first|(with_reducible refine Xp H ?_;rw[L])|with_reducible refine Xp K ?_|(with_reducible refine X7 K ?_;rw[y3.1])|wp_step)
  rw[T]
  wp_walk
  rw[T]
  wp_walk
  exact I
def Mn{ns:List Y'}(X:(bH P).In h)(I:h.Inst x 59 r)
  (J:∀l z,l.Inst x 59 (λy=>if y=name then some v else r y)->(∀b H,b≠x->(∀i f,h.get? x=some i->i.dict=some f->b≠f)->h.get? b=some H->l.get? b=some H)->
   (∀i,h.get? x=some i->∃q,l.get? x=some q/\q.cls=i.cls/\q.data=i.data/\∀f,q.dict=some f->i.dict=some f\/h.get? f=none)->Q (.done (.ret .none)) ⟨l,g,d,z,p⟩)(hw:Within r ns)(hsz:ns.length<=5):
  wpAny (model m w) A (storeInOwnDict (.ref x) (.ref 59) (.str name s) name v false) Q E ⟨h,g,d,t,p⟩:=by
 obtain⟨H,B,L,n,F⟩:=I;obtain⟨cd,hcd,hdt⟩:=any_some (Df P).2;obtain⟨fs,od,R,N⟩:=H;dsimp only at L n F;subst L;unfold storeInOwnDict;refine Wi (Wo (Wi (Wi (wpAny_loadPart B (Wi ((looks_clsIn X hcd).here ?_))))));rw[hdt];rcases F with⟨hdn,hmA⟩|⟨f,hdx,o,hns⟩
 .subst hdn
  rw[if_neg (by decide)]
  dsimp only;rw[if_neg (by simp [typeHasDict])]
  have M:(h.push Zv).get? x=some {cls:=.ref 59,dict:=none,data:=R,slots:=N}:=Heap.get?_push_of_some _ B;have C:x≠h.objs.size:=Wv (WO B);have hgd:((h.push Zv).update x λH=>{cls:=H.cls,dict:=some h.objs.size,data:=H.data,slots:=H.slots}).get? h.objs.size=some Zv:=
   (Heap.get?_update_ne _ _ _ _ C.symm).trans (Heap.get?_push_at rfl rfl)
  have hnd:((h.push Zv).update x λH=>{cls:=H.cls,dict:=some h.objs.size,data:=H.data,slots:=H.slots}).Ns h.objs.size (λ_=>none):=
   ⟨_,#[],_,hgd,rfl,λe he=>absurd he (by simp),λ_=>rfl⟩
  have go:wpAny (model m w) A (do let d<-alloc {cls:=Value.type "dict",data:=Data.dict #[]};update x λH=>{cls:=H.cls,dict:=some d,data:=H.data,slots:=H.slots};dictMade (.ref 59) x d) (λa s'=>wpAny (model m w) A (match a with|some d=>storeInDict d (Value.str name s) name v|none=>noDictFor (Value.ref x) (Value.ref 59) name false) Q E s') E ⟨h,g,d,t,p⟩:=by
   refine Wi (wpAny_alloc' ?_);refine Wi (wpAny_update' M ?_);refine Wo ?_;unfold storeInDict newKeyGuard;refine Wi (Wo (Wi (wpAny_nsSet1 (Heap.Ns1.of_empty hnd) λl k j=>?_)));obtain⟨fl,esD,Z,u,V,T⟩:=k.count (Within.cons name v Within.nil);refine Wi (wpAny_lookBehind u (by rw[V];exact pastItsLine_dict (Wh T (by rw[WL,XG,sizeLine_eq];lia))) ?_)
   have K:l.get? x=some {cls:=.ref 59,dict:=some h.objs.size,data:=R,slots:=N}:=by refine(j.2 x C).trans (Heap.get?_update_self _ M ?_);have hfr:=(Heap.get?_some_iff.mp B).2;induction R<;>first|rfl|exact hfr
   refine Wo (J l _ ⟨_,K,rfl,n,.inr ⟨h.objs.size,rfl,C.symm,?_⟩⟩ (λb fp hbx _ G=>?_) λi D=>?_)
   .obtain⟨fi,a',Y,O,S,U,cK,W⟩:=k
    exact⟨fi,a',Y,O,S,U,cK,λy=>by rw[W y];by_cases c':y=name<;>simp [c',hmA]⟩
   .exact(j.2 b (Wv (WO G))).trans ((Heap.get?_update_ne _ _ _ _ hbx).trans (Heap.get?_push_of_some _ G))
   .obtain rfl:=Wc (B.symm.trans D)
    exact⟨_,K,rfl,rfl,λf e=>.inr (Wc e▸hl h)⟩
  induction R with|cls c=>exact absurd rfl (n c)|_=>exact go
 .subst hdx
  rw[if_neg (by decide)]
  refine Wo ?_;unfold storeInDict newKeyGuard;refine Wi (Wo (Wi (wpAny_nsSet1 hns λl k j=>?_)));obtain⟨fl,esD,Z,u,V,T⟩:=k.count (Within.cons name v hw);refine Wi (wpAny_lookBehind u (by rw[V];exact pastItsLine_dict (Wh T (by rw[WL,sizeLine_eq];lia))) ?_)
  refine Wo (J l _ ⟨_,(j.2 x o.symm).trans B,rfl,n,.inr ⟨f,rfl,o,k⟩⟩ (λb fp _ hbd G=>(j.2 b (hbd _ f B rfl)).trans G) λi D=>⟨i,(j.2 x o.symm).trans D,rfl,rfl,λ_ e=>.inl e⟩)
def Dg{ns:List Y'}(X:(bH P).In h)(C:findIn (bH P) (.ref 59) name=some none)(I:h.Inst x 59 f)
  (G:∀e l,e.Inst x 59 (λy=>if y=name then some v else f y)->(∀b H,b≠x->(∀c a,h.get? x=some c->c.dict=some a->b≠a)->h.get? b=some H->e.get? b=some H)->
   (∀c,h.get? x=some c->∃i,e.get? x=some i/\i.cls=c.cls/\i.data=c.data/\∀a,i.dict=some a->c.dict=some a\/h.get? a=none)->Q () ⟨e,g,d,l,p⟩)(M:Within f ns)(K:ns.length<=5):
  wpAny (model m w) A (setAttr (.ref x) name v) Q E ⟨h,g,d,t,p⟩:=by
 have j:=PySem.F.store_object;have r:Looks (model m w) h (mroOf (.ref 59)) (.ref 59::lC):=by
  have z:=(Df P).1;generalize q:clsIn (bH P) 59=V;induction V with|none=>rw[q] at z;exact cB z|some W=>rw[q] at z;exact(Wc z)▸(looks_clsIn X q).andThen .now
 have J:∃k n,W.InstAt h x k 59 n:=by
  obtain⟨H,B,L,D,T⟩:=I;have s:notCls H:=by obtain⟨_,_,R,_⟩:=H;induction R<;>first|rfl|exact absurd rfl (D _)
  rcases T with⟨N,_⟩|⟨a,u,_,F⟩
  .exact⟨H,none,B,L,s,by rw[N];trivial⟩
  .obtain⟨S,Z,Y,O,_⟩:=F
   exact⟨H,some S,B,L,s,by rw[u];exact O⟩
 obtain⟨k,n,J⟩:=J;have U:Looks (model m w) h (isInstance (.ref x) (.type "object")) true:=J.type.andThen (looks_mroIn X (Mh P).1);refine set_plain X J ((by kernel_rfl)) (Yv j.slot.plain j.entry (@check_slot (model m w) _ _ _ "object.__setattr__" "object" "__setattr__" (.ref x) [.str name t,v] [] _ j.kind j.split U (j.args (.ref x) (.str name t) v) ?_))
 rw[osa_eq,refuse_eq];refine Wi (Wi (J.type.here (Wi (r.here ?_))));unfold lC;rw[refuseLoop_ref,refuseLoop_ref,PySem.F.store_Exception.passes];have o:Looks (model m w) h (storeTaker? none) none:=.now;exact Wo (Wi (J.type.here (Wi ((looks_findIn X C).here (Wi (o.here (Mn X I G M K)))))))
end
end Mine.Internal
end
noncomputable section
open PySem PySem.W PySem.Calls PyProof.Rows
namespace Mine.Internal
def N0(P:Y8):kC (gQ (bH P) 1)=[.Expr (.Call (.Attribute (.Name "Exception" ⟨8,8,8,17⟩) "__init__" ⟨8,8,8,26⟩) [.Name "self" ⟨8,27,8,31⟩,.Name "what" ⟨8,33,8,37⟩] [] ⟨8,8,8,38⟩) ⟨8,8,8,38⟩,
 .Assign [.Attribute (.Name "self" ⟨9,8,9,12⟩) "what" ⟨9,8,9,17⟩] (.Name "what" ⟨9,20,9,24⟩) ⟨9,8,9,24⟩,.Assign [.Attribute (.Name "self" ⟨10,8,10,12⟩) "at" ⟨10,8,10,15⟩] (.Name "at" ⟨10,18,10,20⟩) ⟨10,8,10,20⟩]:=by kernel_rfl
def N1(P:Y8):ia (gQ (bH P) 1).scope "Exception"=some .globalImplicit/\(e0 6="self"/\(e0 186="what"/\e0 7="at"))/\takerIn (bH P) 59 "what"=some none/\findIn (bH P) (.ref 59) "what"=some none/\findIn (bH P) (.ref 59) "at"=some none/\(rf (bH P) (1,[6,186,7],[.none]))=[.none]:=
 ⟨by kernel_rfl,⟨by kernel_rfl,rfl,rfl⟩,by kernel_rfl,by kernel_rfl,by kernel_rfl,by kernel_rfl⟩
def ff.Ou(O:i' s' af)(j:ff af w' f' x')(u:∀a' c',hb s' a'->w'.get? a'=some c'->h'.get? a'=some c'):ff af h' f' x':=
 j.imp (λj=>j.imp id λj=>j.elim λM j=>⟨M,j.1.at' λc' J=>u _ c' O.F J,j.2⟩) λj=>⟨j.1,j.2.1,j.2.2.elim λa' o=>⟨a',o.1,o.2.elim λc' C=>⟨c',u a' c' (.inr (O.cell f' a' j.1 o.1)) C.1,C.2⟩⟩⟩
def r6(h:Y5)(e:Y4):Prop:=∃b t,h.get? e=some b/\b.cls=.ref 59/\b.data=.fields #[.ref t,.none,.none,.none,.bool false,.none]
section
variable{O:Nat->YU->Ze V}{X:Y7}{T:hC}{f:ec}{d:Env}{A:Zb}
set_option backward.match.sparseCases true in
def N2(M:g7 (aZ O X T))(fr:hX (aZ O X T) f)(fl:d5 f A (cN (aZ O X T) 1+20))(I:aP ⟨aZ O X T,f,d,A⟩ i w)
  (K:w.h.get? e=some {cls:=.ref 59,data:=.fields #[.ref r,.none,.none,.none,.bool false,.none]})(hr:f.g.get? e=none)(Y:e≠f.L)(R:Result->Y2)
  (q:∀c,(∀m,Fr f.g f.L w.h m->Fr f.g f.L c.h m)->fj w c->(∀b H,b≠e->b≠f.L->w.h.get? b=some H->c.h.get? b=some H)->r6 c.h e->R (.ok (.ret .none)) c.s):codeAny (model ea X) A (.call (.ref 36) ⟨[.ref e,g],[]⟩) R w.s:=by
 obtain⟨e1,F,Z,a',hdv⟩:=vO O X T (1,[6,186,7],[.none]) (.tail _ (.tail _ (.head _)));dsimp only at Z a' hdv;obtain⟨kz,⟨l1,n186,l2⟩,_,h1,hF,dv1⟩:=N1 X.params;refine vj (l:=[]) (dD:=λc c'=>c'=.none/\(∀b H,b≠e->b≠f.L->w.h.get? b=some H->c.h.get? b=some H)/\r6 c.h e) R M F fr fl I rfl (λ_ _ _ _ z=>nomatch z) (λP S hj _ C T0 cK fs nw D Q E x _ _=>?_) λc c' a b p=>p.1▸q c a b p.2.1 p.2.2;have v:=C.lS;have W:P.g.get? e=none:=nw e _ K Y hr;have ne:∀a,hb P a->a≠e:=λa z y=>cj K (fs e (y▸z));have he1:=cK.keep e _ Y K;have fin:∀{h:Y5}{j:Tok},(∀b H,b≠e->S.h.get? b=some H->h.get? b=some H)->r6 h e->Q .next {S.s with heap:=h,toks:=j}:=λ{h j} J a=>x ⟨S.G,{S.s with heap:=h,toks:=j}⟩ .next .none (C.ag.aM.elim λm k=>⟨m,k.ns.at' λH y=>J _ H (ne _ (.inl rfl)) y,λb H y=>J b H (λz=>cj (z▸y) W) (k.keep b H y),k.above⟩) ⟨_,_,rfl⟩ rfl ⟨rfl,λb H k0 k2 y=>J b H k0 (cK.keep b H k2 y),a⟩
 have o:∀{h:Y5}{s:Y'}{u:Y3}{j:Tok}{p:Pos}{Q:YV}{E:YV},(∀b H,b≠e->S.h.get? b=some H->h.get? b=some H)->ff P.bx S.h s u->l6 s->Q u {S.s with heap:=h,toks:=j}->wpAny (model ea X) (A.deeper P.bx) (eval (.Name s p) P.bx) Q E {S.s with heap:=h,toks:=j}:=
  λ{h s u j p Q E} J b H q=>Cj (c:=⟨aZ O X T,P,P.bx,A.deeper P.bx⟩) (w:=⟨S.G,{S.s with heap:=h,toks:=j}⟩) C.bU (ff.Ou C.bU b λa H z y=>J a H (ne a z) y) H q
 have B:ff P.bx S.h "self" (.ref e):=l1▸D 0 6 (.ref e) rfl rfl;have V:ff P.bx S.h "what" g:=n186▸D 1 186 g rfl rfl;have fp:ff P.bx S.h "at" .none:=l2▸D 2 7 .none rfl (by rw[hdv,dv1];rfl)
 have kE':P.bx.kindOf "Exception"=some .globalImplicit:=by rw[hj];show ia e1.scope "Exception"=_;rw[a'];exact kz
 have N:∀b H,b≠e->S.h.get? b=some H->S.h.get? b=some H:=λ_ _ _ z=>z;rw[Z,N0];refine W0 (wpAny_Expr ?_ (zM C.bU) (xx rfl));refine FQ (c:=⟨aZ O X T,P,P.bx,A.deeper P.bx⟩) (w:=S) rfl rfl (by decide) rfl ?_
 refine C.ag.aM.elim λm k=>Name_function_global C.bU.kind kE' (loadGlobal_builtin (by exact C.bU.h8▸C.aM.T.g.keeps k.keep) (mg_none_of C.aM.K C.aM.T.g (M.r0.blt _ (by decide))) (by exact C.bU.blt▸C.aM.T.b.keeps k.keep) ((C.aM.T.builtins _ (by decide)).trans rfl) ?_) (by decide)
 refine Mm v ?_;refine AZ (c:=⟨aZ O X T,P,P.bx,A.deeper P.bx⟩) _ _ _ (oE rfl) ?_;refine evalArgs_plain (spliced_cons (o N B rfl (spliced_cons (o N V rfl (spliced_nil ⟨v,Mi v he1 rfl rfl ?_⟩)))));have hp1:(S.h.push {cls:=.type "tuple",data:=.seq #[g]}).get? e=some {cls:=.ref 59,data:=.fields #[.ref r,.none,.none,.none,.bool false,.none]}:=Heap.get?_push_of_some _ he1;have G:((S.h.push {cls:=.type "tuple",data:=.seq #[g]}).update e (Obj.mapFields (·.setIfInBounds 0 (.ref S.h.objs.size)))).get? e=some {cls:=.ref 59,data:=.fields #[.ref S.h.objs.size,.none,.none,.none,.bool false,.none]}:=Heap.get?_update_self (Obj.mapFields (·.setIfInBounds 0 (.ref S.h.objs.size))) hp1 rfl;have l:∀b H,b≠e->S.h.get? b=some H->((S.h.push {cls:=.type "tuple",data:=.seq #[g]}).update e (Obj.mapFields (·.setIfInBounds 0 (.ref S.h.objs.size)))).get? b=some H:=λb H n z=>(Heap.get?_update_other _ _ (Ne.symm n)).trans (Heap.get?_push_of_some _ z);have U:∀{h:Y5},(∀b H,b≠e->S.h.get? b=some H->h.get? b=some H)->(bH X.params).In h:=λ{h} J=>Frag.In.keeps (h:=P.g) C.aM.K λb H z=>J b H (λy=>cj (y▸z) W) (k.keep b H z);generalize((S.h.push {cls:=.type "tuple",data:=.seq #[g]}).update e (Obj.mapFields (·.setIfInBounds 0 (.ref S.h.objs.size))))=h2 at G l⊢;have e2:h2.Inst e 59 (λ_=>none):=⟨_,G,rfl,(λ_ z=>nomatch z),.inl ⟨rfl,λ_=>rfl⟩⟩;refine W0 (plainObj_wpAny_Assign_Attribute (o l V rfl (o l B rfl (Dg (U l) h1 e2 (λh' t3 fi kd fv=>?_) .nil (by decide)))) xw)
 obtain⟨mm,ho3,hc3,hd3,hf3⟩:=fv _ G;have L:∀b H,b≠e->S.h.get? b=some H->h'.get? b=some H:=λb H n z=>kd b H n (λo₀ t y u=>nomatch ((Wd Obj.dict (Wc (G.symm.trans y))).trans u:(none:Ze Y4)=some t)) (l b H n z);refine W0 (plainObj_wpAny_Assign_Attribute (o L fp rfl (o L B rfl (Dg (U L) hF fi (λq0 rt qs kk hi=>?_) (Within.cons _ _ .nil) (by decide)))) xw)
 obtain⟨nk,ho4,hc4,hd4,_⟩:=hi _ ho3;refine Xw (fin (λb H n z=>kk b H n (λo₀ t y u od=>?_) (L b H n z)) ⟨nk,_,ho4,hc4.trans hc3,hd4.trans hd3⟩);have u:mm.dict=some t:=(Wd Obj.dict (Wc (ho3.symm.trans y))).trans u;exact(hf3 t u).elim (λz=>nomatch z) λpl=>cj (l b H n z) (od▸pl)
end
abbrev Bm(m:Nat):Y':=Zx (Str.ofString (toString (Int.ofNat m)))
def xy(h:m<64):(Bm m).length<=4:=by have z:((List.range 64).all λm=>Nat.ble (Bm m).length 4):=rfl;exact Wb (yp z h)
def Cq{x y:Y'}(a:x.length<=c)(b:y.length<=m):(x++y).length<=c+m:=by rw[size_cat];exact Xb a b
def Hn(C:bJ c b A a w)(i:au A q=some (.int (.ofNat m)))(D:m<64)(k:iY c.af.kindOf (c.X.az q))(I:l6 (c.X.az q))(j:c.af.kindOf "str"=some .globalImplicit)(Q:YV)(E:YV)
  (z:∀B s,aT c a w a B->Q (.str (Bm m) s) B.s):Zs c (eval (.Call (.Name "str" g) [.Name (c.X.az q) d] [] e) c.af) Q E w.s:=
 XO (yF C j (by decide) rfl (by decide) (by decide) _ E λS L l O=>O▸PySem.callWith_type (oE rfl)
  (evalArgs_plain (spliced_cons (z2 (C.aF l).ag C.bU (C.aF l).dc k i (rI I) (wJ I) _ E λf x h r=>spliced_nil (r.dt (p:=λx=>Zs c (call (.type "str") ([]++[x]) []) Q E f.s) λt=>PySem.P.str_of_int (Wf (Nat.log2_le_self _) (WJ D (by decide)))
   (z (f.a8 (f.s.toks+1)) f.s.toks ((l.trans C.ag h).trans C.ag (.a8 ((C.aF l).aF h).ag _))))))))
section
variable{r:Model}{A:Zb}{E:YV}
def De:(Value.ref 59::lC).contains (.type "BaseException")/\lC.contains (.type "BaseException"):=⟨by decide+kernel,by decide+kernel⟩
def RU(N:A.handled=none)(h:wpAny r A x (λb a=>∃e,b=.ref e/\(bH P).In a.heap/\r6 a.heap e/\E (.ref e) a) E s):wpAny r A (raiseStmt af (some x) none) Q E s:=by
 unfold raiseStmt;refine Wi (W6 h (λb a k=>?_) λ_ _ x=>x);obtain⟨e,rfl,X,⟨c,t,H,L,T⟩,O⟩:=k;have K:=X _ _ (sL P);obtain⟨V,g,d,f,p⟩:=a;obtain⟨z,n,R,q⟩:=c;dsimp only at L T;subst L T;repeat (first|with_reducible refine Xp H ?_|with_reducible refine Xp K ?_|(with_reducible refine X7 K ?_;rw[De.1])|wp_step)
 exact wpAny_raiseNew_none N O
end
def zp(P:Y8):(nsIn (bH P) mainGlobals "GrammarError").join=some (.ref 59)/\keepIn (bH P) (.ref 59):=⟨by kernel_rfl,by kernel_rfl⟩
def aP.at'(j:aP a' c' f')(u:Env)(o:Zb):aP ⟨a'.X,a'.f,u,o⟩ c' f':=⟨j.aM,j.aH,j.own,j.new,j.dy⟩
section
variable{O:Nat->YU->Ze V}{X:Y7}{T:hC}{f:ec}{d:Env}{A:Zb}{S:Z}{w:aL}
def RT(C:bJ ⟨aZ O X T,f,d,A⟩ r G S w)(a':cN (aZ O X T) 1+40<=r)(c':d.kindOf "GrammarError"=some .globalImplicit)(ns:e3 arg)
  (harg:∀l,aT ⟨aZ O X T,f,d,A⟩ S w S l->∀(Q:YV)(E:YV),(∀B x p,aT ⟨aZ O X T,f,d,A⟩ S l S B->Q (.str x p) B.s)->wpAny (model ea X) A (eval arg d) Q E l.s){E:YV}
  (q:∀c i e,aT ⟨aZ O X T,f,d,A⟩ S w S c->fj c ⟨c.G,i⟩->(∀m,Fr f.g f.L c.h m->Fr f.g f.L i.heap m)->(∀b H,b≠f.L->c.h.get? b=some H->i.heap.get? b=some H)->c.h.get? e=none->r6 i.heap e->E (.ref e) i):
  wpAny (model ea X) A (exec (.Raise (some (.Call (.Name "GrammarError" L) [arg] [] N)) none P) d) Q E w.s:=by
 rw[arm_exec_Raise];refine Wi (XI (RU (P:=X.params) C.dJ.bC (Wi (W6 (wpAny_Call_ofName (vK C c' (zp X.params).1 (by decide) _ _ λl fv o e1=>e1▸?_)) (λv s₃ h₃=>Wi (XI (Wo h₃))) λ_ _ x=>x))))
 refine ua (c:=⟨aZ O X T,f,d,A⟩) (zp X.params).2 _ _ _ (oE (by rw[Xz,ns];rfl)) ?_
 rw[xq ns];refine evalArgs_plain (spliced_cons (harg l o _ _ λc x p u=>spliced_nil ⟨((C.aF o).aF u).lS,?_⟩));have V:=(C.aF o).aF u;have Y:=o.trans C.ag u;obtain⟨⟨h,g,K,t,W⟩,k⟩:∃s:Za,c.s=s:=⟨_,rfl⟩;rw[k];refine Mj (P:=X.params) (by have:=V.lS;rwa [show c.h=h from Wd Shared.heap k] at this) (λj e D=>?_) (by show 1<=sizeLine;rw[sizeLine_eq];decide)
 have fl:c.h=h:=Wd Shared.heap k;rw[<-fl] at D;obtain⟨t0,he,_,_⟩:=D.there;have e2:gu f.L c.h j:=⟨λb H _ z=>D.keeps b H z,V.ag.jW.elim λH z=>⟨H,D.keeps _ H z⟩⟩;have I:∀m,Fr f.g f.L c.h m->Fr f.g f.L j m:=λm F=>⟨F.ns.keeps D.keeps,λb H z=>D.keeps b H (F.keep b H z),F.above⟩;have Z:aT ⟨aZ O X T,f,d,A⟩ S c S ⟨c.G,⟨j,g,K,t,W⟩⟩:=.gS V.ag e2 I ⟨j,t,by rw[k]⟩
 refine V.ag.aM.elim λU J=>?_;refine Yc (N2 (f:=f) (d:=d) (w:=⟨c.G,⟨j,g,K,t,W⟩⟩) C.ok C.aM (d5.ef (C.dJ.ju a')) ((V.ag.aF Z).at' d _) he ?_ ?_ _ λfi R zX cK M=>⟨rfl,e,rfl,?_,M,?_⟩)
 .generalize z:f.g.get? e=fp;induction fp with|none=>rfl|some H=>exact cj (J.keep e H z) D.new
 .exactλz=>V.ag.jW.elim λH y=>cj (z▸y) D.new
 .exact C.aM.K.keeps (R U (I U J)).keep
 .refine q c fi.s e Y (by obtain⟨a,b,z⟩:=zX;exact⟨a,b,by exact k▸z⟩) (λm F=>R m (I m F)) (λb H n z=>cK b H (λy=>cj (y▸z) D.new) n (D.keeps b H z)) D.new M
end
def s9(e:bM Z.bj b a=some x):bM h b a=some x:=by
 induction b using V.casesOn with
 |ref p=>exact ns (e:none=some x)
 |ins=>exact e
 |_=>nomatch e
def pq:List S:=Zx [.ite (.aw .eq (.aS (.F 185) 30) (.lit (.str Zh))) [.pe 45 .add (.lit (.int 1))] []]
def O4(X:YU):∀{g b:Nat},tx X=some b->rh (aD P N (d+9)).x [185] pq X ⟨[(74,t),(45,.int (.ofNat g))],a⟩=some (.next,⟨[(74,t),(45,.int (.ofNat (g+b)))],a⟩):=by
 induction X with
 |nil=>exactλ{g b} e=>b6 (p:=λb=>rh (aD P N (d+9)).x [185] pq [] ⟨[(74,t),(45,.int (.ofNat g))],a⟩=some (.next,⟨[(74,t),(45,.int (.ofNat (g+b)))],a⟩)) e rfl
 |cons c r S=>
  intro g b e;have e:=e;refine aA e λs G e=>aA e λv O e=>aA G λu m G=>?_;have h:bM a c 30=some (.str s):=s9 (uR G▸m);have f:(aD P N (d+8)).e (.aw .eq (.aS (.F 185) 30) (.lit (.str Zh))) ⟨[(74,t),(45,.int (.ofNat g)),(185,c)],a⟩=some (.bool (VP s Zh),a):=by show Y (Y (bM a c 30) _) _=_;refine h▸?_;rfl
  have i:(aD P N (d+9)).x pq ⟨[(74,t),(45,.int (.ofNat g)),(185,c)],a⟩=some (.next,⟨[(74,t),(45,.int (.ofNat (match VP s Zh with|true=>g+1|false=>g))),(185,c)],a⟩):=by show Y (Y ((aD P N (d+8)).e _ _) _) _=_;refine f▸?_;cases VP s Zh<;>rfl
  show Y ((aD P N (d+9)).x pq ⟨[(74,t),(45,.int (.ofNat g)),(185,c)],a⟩) _=_;refine i▸(S O).trans ?_;refine((Wc e))▸?_;generalize VP s Zh=k;induction k with|true=>show some (fE.next,bD.mk [(74,t),(45,.int (.ofNat (g+1+v)))] a)=some (fE.next,bD.mk [(74,t),(45,.int (.ofNat (g+(v+1))))] a);rw[Wl,Wm 1]|false=>rfl
def Ld(e:P.fK 34=some Dr)(L:bM Z.bj t 38=some (.ae X))(R:tx X=some c)(f:Nat.beq c (VN X)):(aD P N (b+14)).c .inl 34 [t] a=some (.ay [.int (.ofNat c),.int 0],a):=by
 have d:bM a t 38=some (.ae X):=s9 L;have I:∀{j:Nat}{A:YS},(aD P N (b+j+2)).e (.aS (.F 74) 38) ⟨(74,t)::A,a⟩=some (.ae X,a):=λ{j A}=>by show Y (bM a t 38) _=_;refine d▸?_;rfl
 have S:=O4 (P:=P) (N:=N) (d:=b+2) (t:=t) (a:=a) X (g:=0) R;rw[Wj] at S;have E:k8 (aD P N (b+11)) (.b5 [185] (.e (.aS (.F 74) 38)) pq) ⟨[(74,t),(45,.int 0)],a⟩=some (.next,⟨[(74,t),(45,.int (.ofNat c))],a⟩):=by show Y (Y ((aD P N (b+11)).e (.aS (.F 74) 38) ⟨[(74,t),(45,.int 0)],a⟩) _) _=_;refine(show b+11=b+9+2 from rfl)▸I▸?_;show Y (rh (aD P N (b+2+9)).x [185] pq X ⟨[(74,t),(45,.int (.ofNat 0))],a⟩) _=_;rw[S];rfl
 have Q:(aD P N (b+10)).e (.ay [(.F 45),(.a7 .sub false (.bq false .len [(.aS (.F 74) 38)]) (.F 45))]) ⟨[(74,t),(45,.int (.ofNat c))],a⟩=some (.ay [.int (.ofNat c),.int 0],a):=by show Y (Y (Y (Y (Y (Y ((aD P N (b+7)).e (.aS (.F 74) 38) ⟨[(74,t),(45,.int (.ofNat c))],a⟩) _) _) _) _) _) _=_;refine(show b+7=b+5+2 from rfl)▸I▸?_;show some (V.ay [.int (.ofNat c),.int (Int.ofNat (VN X)-Int.ofNat c)],a)=_;rw[We f,Int.sub_self]
 show Y (P.fK 34) _=_;refine e▸?_;show t' (Y (k8 (aD P N (b+11)) (.b5 [185] (.e (.aS (.F 74) 38)) pq) ⟨[(74,t),(45,.int 0)],a⟩) _)=_;refine E▸?_;show t' (Y (Y ((aD P N (b+10)).e _ _) _) _)=_;rw[Q];rfl
@[irreducible] noncomputable def oW:Zd:=.Assign [.Name "wanted" ⟨267,4,267,10⟩] (.Attribute (.Attribute (.Name "tables" ⟨267,13,267,19⟩) "grammar" ⟨267,13,267,27⟩) "expect" ⟨267,13,267,34⟩) ⟨267,4,267,34⟩
@[irreducible] noncomputable def oV:Y9:=.Compare (.Name "wanted" ⟨268,7,268,13⟩) [.IsNot] [.Constant .none 0 ⟨268,21,268,25⟩] ⟨268,7,268,25⟩
@[irreducible] noncomputable def oX:Zd:=.Assign [.Tuple [.Name "shifts" ⟨269,8,269,14⟩,.Name "reductions" ⟨269,16,269,26⟩] 0 ⟨269,8,269,26⟩] (.Call (.Name "conflict_counts" ⟨269,29,269,44⟩) [.Name "tables" ⟨269,45,269,51⟩] [] ⟨269,29,269,52⟩) ⟨269,8,269,52⟩
@[irreducible] noncomputable def oT:Y9:=.Compare (.Name "reductions" ⟨270,11,270,21⟩) [.Gt] [.Constant (.int 0) 0 ⟨270,24,270,25⟩] ⟨270,11,270,25⟩
@[irreducible] noncomputable def oU:Y9:=.Compare (.Name "shifts" ⟨272,11,272,17⟩) [.NotEq] [.Name "wanted" ⟨272,21,272,27⟩] ⟨272,11,272,27⟩
@[irreducible] noncomputable def uO:Y9:=.BinOp (.BinOp (.BinOp (.Call (.Name "str" ⟨273,31,273,34⟩) [.Name "shifts" ⟨273,35,273,41⟩] [] ⟨273,31,273,42⟩) .Add (.Constant (.str " shift/reduce conflicts, ") 0 ⟨273,45,273,72⟩) ⟨273,31,273,72⟩) .Add (.Call (.Name "str" ⟨273,75,273,78⟩) [.Name "wanted" ⟨273,79,273,85⟩] [] ⟨273,75,273,86⟩) ⟨273,31,273,86⟩) .Add (.Constant (.str " expected") 0 ⟨273,89,273,100⟩) ⟨273,31,273,100⟩
@[irreducible] noncomputable def oY:Zd:=.Return (some (.Name "tables" ⟨274,11,274,17⟩)) ⟨274,4,274,17⟩
def ud:S:=Zx (.bY (.F 132) (.aS (.aS (.F 74) 33) 113))
def qR:E:=Zx (.aw .mW (.F 132) (.lit .none))
def ue:S:=Zx (.bY (.ay [45,49]) (.call .inl 34 [.F 74]))
def qP:E:=Zx (.aw .gt (.F 49) (.lit (.int 0)))
def qQ:E:=Zx (.aw .cC (.F 45) (.F 132))
def uf:S:=Zx (.ret (some (.F 74)))
def JI(P:Y8):List Zd:=mz ((mz ((kC (gQ (bH P) 35)).getD 1 iG)).getD 1 iG)
def EH(P:Y8):List Zd:=[oX,.If oT (JI P) [] ⟨270,8,271,91⟩,.If oU [.Raise (some (.Call (.Name "GrammarError" ⟨273,18,273,30⟩) [uO] [] ⟨273,18,273,101⟩)) none ⟨273,12,273,101⟩] [] ⟨272,8,273,101⟩]
def KA(P:Y8):kC (gQ (bH P) 35)=[oW,.If oV (EH P) [] ⟨268,4,273,101⟩,oY]:=by kernel_rfl
abbrev jY(P:Y8):Y'->Ze Y6:=ia (gQ (bH P) 35).scope
section
variable(O:Nat->YU->Ze V)(X:Y7)(T:hC)
def Ks:m9 (aZ O X T) 117 (jY X.params) ud oW/\kc (aZ O X T) 117 ud oW=oW:=⟨by kernel_rfl,by kernel_rfl⟩
def Kt:bQ (aZ O X T) 117 (jY X.params) qR oV/\aJ (aZ O X T) 117 qR oV=oV:=⟨by kernel_rfl,by kernel_rfl⟩
def Ku:m9 (aZ O X T) 117 (jY X.params) ue oX/\kc (aZ O X T) 117 ue oX=oX:=⟨by kernel_rfl,by kernel_rfl⟩
def Kv:bQ (aZ O X T) 117 (jY X.params) qP oT/\aJ (aZ O X T) 117 qP oT=oT:=⟨by kernel_rfl,by kernel_rfl⟩
def Kw:bQ (aZ O X T) 117 (jY X.params) qQ oU/\aJ (aZ O X T) 117 qQ oU=oU:=⟨by kernel_rfl,by kernel_rfl⟩
def Kx:m9 (aZ O X T) 117 (jY X.params) uf oY/\kc (aZ O X T) 117 uf oY=oY:=⟨by kernel_rfl,by kernel_rfl⟩
def Cx:(cN (aZ O X T) 35=117/\cN (aZ O X T) 1+40<=117)/\(jY X.params "GrammarError"=some .globalImplicit/\jY X.params "str"=some .globalImplicit)/\e0 45="shifts"/\e0 132="wanted"/\iY (jY X.params) "shifts"/\iY (jY X.params) "wanted":=
 ⟨⟨by kernel_rfl,Wb rfl⟩,⟨by kernel_rfl,by kernel_rfl⟩,rfl,rfl,by kernel_rfl,by kernel_rfl⟩
end
structure IE(X:cn)(f:ec)(a:Z)(w:aL)(e:Y4)(s:Za)(G:aL)(B:Y5):Prop where
 aH:bB X a G
 step:cG a w a G (iu f)
 dd:fj w ⟨G.G,s⟩
 keep:∀b H,G.h.get? b=some H->B.get? b=some H\/b=e\/((∀c,H.data≠.fields c)/\((w.h.get? b=none/\cY b a G)\/b∈(f.bx::f.hQ).filterMap (·.frame)))
 new:w.h.get? e=none
 own:cY e a G
 VL:∃d,Heap.FlyingW B (f.bx::f.hQ) e (.ref 59) d s.heap
 up:G.h.UpToSlots s.heap
section
variable{O:Nat->YU->Ze V}{X:Y7}{T:hC}{f:ec}{d:Env}{A:Zb}{S:Z}
def bJ.b7(C:bJ a' c' h' S f')(T:cO a' S f' hp' w')(j:fG a'.X w' a'.af ls'):bJ a' c' ls' hp' w':=⟨C.ok,C.aM,C.dJ,C.bU,C.ag.b7 T,j⟩
def A1:(Str.ofString " shift/reduce conflicts, ").length<=40/\(Str.ofString " expected").length<=40:=⟨by decide+kernel,by decide+kernel⟩
def Jw(C:bJ ⟨aZ O X T,f,d,A⟩ 117 [(74,t),(132,.int (.ofNat c)),(45,.int (.ofNat e)),(49,.int 0)] S w)(V:d.kindOf=jY X.params)(g:c<64)(R:e<64)(Q:YV)(E:YV)(z:∀B x s,aT ⟨aZ O X T,f,d,A⟩ S w S B->Q (.str x s) B.s):
  wpAny (model ea X) A (eval uO d) Q E w.s:=by
 obtain⟨_,⟨_,q⟩,k,D,r,m⟩:=Cx O X T;have y:(aZ O X T).az 45="shifts":=k;have v:(aZ O X T).az 132="wanted":=D;have a:=Hn (g:=⟨273,31,273,34⟩) (d:=⟨273,35,273,41⟩) (e:=⟨273,31,273,42⟩) C rfl R (by show iY d.kindOf _=true;exact V▸y▸r) (by rw[y];rfl) (by have q:=V▸q;exact q)
 have a:=y▸a;unfold uO;refine wpAny_BinOp (wpAny_BinOp (wpAny_BinOp (a _ E λJ K l=>?_)));refine YF (SB.add (λo j=>?_) (Wh (Xb (xy R) A1.1) (by rw[sizeLine_eq];decide)))
 have h:=l.trans C.ag (.a8 (C.aF l).ag j);have b:=Hn (c:=⟨aZ O X T,f,d,A⟩) (q:=132) (m:=c) (g:=⟨273,75,273,78⟩) (d:=⟨273,79,273,85⟩) (e:=⟨273,75,273,86⟩) (C.aF h) rfl g (by show iY d.kindOf _=true;exact V▸v▸m) (by rw[v];rfl) (by have q:=V▸q;exact q)
 have b:=v▸b;refine b _ E λI u i=>?_;have G:=Cq (xy R) A1.1;refine SB.add (λH n=>?_) (Wh (Xb G (xy g)) (by rw[sizeLine_eq];decide))
 refine YF (SB.add (λF p=>?_) (Wh (Xb (Cq G (xy g)) A1.2) (by rw[sizeLine_eq];decide)))
 exact z (I.a8 p) _ F ((h.trans C.ag i).trans C.ag (.a8 ((C.aF h).aF i).ag p))
structure x9(t g:V)(a:YU)(n b:Nat):Prop where
 L0:bM Z.bj t 33=some g
 LZ:bM Z.bj t 38=some (.ae a)
 bO:bM Z.bj g 113=some (.int (.ofNat n))
 eK:tx a=some b
 L3:Nat.beq b (VN a)=true
 hn:b<64
 NR:n<64
set_option maxHeartbeats 400000 in
set_option backward.match.sparseCases true in
def Kr(s':g7 (aZ O X T))(fr:hX (aZ O X T) f)(x2:d5 f A (cN (aZ O X T) 35+20))(I:aP ⟨aZ O X T,f,d,A⟩ S w)(r:o (aZ O X T) w t H)(L:x9 t g P c i)(R:Result->Y2)
  (VS:Nat.beq i c->∀l G,aT ⟨aZ O X T,f,d,A⟩ S w S l->o (aZ O X T) l t G->R (.ok (.ret G)) l.s)(VT:Nat.beq i c=false->∀e s N B,IE (aZ O X T) f S w e s N B->R (.error (.ref e)) s):
  codeAny (model ea X) A (.call (.ref ((aZ O X T).di 35)) ⟨[H],[]⟩) R w.s:=by
 obtain⟨rt,F,nk,od,hdv⟩:=vO O X T (35,[74],[]) (.tail _ (.head _));dsimp only at nk od hdv;obtain⟨⟨b35,x3⟩,⟨Q2,V1⟩,_⟩:=Cx O X T;have ga:∀h,bM h t 33=some g:=λh=>s9 L.L0;have Ex:∀h,bM h g 113=some (.int (.ofNat c)):=λh=>s9 L.bO;refine vj (l:=[(74,t)]) (dD:=λl fi=>Nat.beq i c=true/\bB (aZ O X T) S l/\cG S w S l (iu f)/\o (aZ O X T) l t fi) R s' F fr x2 I rfl (λV0 V9 q G z=>?_) (λj w1 x8 l2 C U V2 fs nw bnd Q E x _ ys=>?_) λl fi a b p=>VS p.1 l fi ⟨p.2.1,p.2.2.1,a,b⟩ p.2.2.2
 .have z:(match Nat.beq 74 q with|true=>some t|false=>none)=some G:=z
  generalize e:Nat.beq 74 q=M;induction M with|false=>have z:=e▸z;exact cB z|true=>have z:=e▸z;exact⟨H,We e▸.head _,Wc z▸r⟩
 have C:=b35▸C;have V:j.bx.kindOf=jY X.params:=by rw[x8];show ia rt.scope=_;rw[od]
 have v:=Hf 30;rw[nk,KA];refine W0 ?_;have o0:=Ks O X T;have VO:m9 (aZ O X T) 117 j.bx.kindOf ud oW:=by exact V▸o0.1
 have fl:=uk v ud ⟨aZ O X T,j,j.bx,A.deeper j.bx⟩ ⟨[(74,t)],S⟩ .next ⟨[(74,t),(132,.int (.ofNat c))],S⟩ 116 oW w1 (by show Y (Y (Y (bM S t 33) _) _) _=_;rw[ga];show Y (Y (bM S g 113) _) _=_;rw[Ex];rfl) VO C
 have fl:=(show kc (aZ O X T) (116+1) ud oW=oW from o0.2)▸fl;refine fl _ E λl V6 hF fo2=>?_;rw[fo2.1];have a':=C.b7 hF fo2.2;have pl:=Kt O X T;have VP:bQ (aZ O X T) 117 j.bx.kindOf qR oV:=by exact V▸pl.1
 have fp:=(v.t qR).aO (c:=⟨aZ O X T,j,j.bx,A.deeper j.bx⟩) (k:=117) (x:=oV) (b:=true) rfl (h:=show(aD (aZ O X T).P (aZ O X T).N 30).e qR ⟨[(74,t),(132,.int (.ofNat c))],S⟩=some (.bool true,S)by kernel_rfl) rfl VP a'
 have fp:=(show aJ (aZ O X T) 117 qR oV=oV from pl.2)▸fp;refine W0 (wpAny_If (fp _ E λVU VX h1 x4=>?_));rw[x4,if_pos rfl];have hj:=a'.aF h1;unfold EH;have o10:=Ku O X T;have p10:m9 (aZ O X T) 117 j.bx.kindOf ue oX:=by exact V▸o10.1
 have z10:=uk v ue ⟨aZ O X T,j,j.bx,A.deeper j.bx⟩ ⟨[(74,t),(132,.int (.ofNat c))],S⟩ .next ⟨[(74,t),(132,.int (.ofNat c)),(45,.int (.ofNat i)),(49,.int 0)],S⟩ 116 oX VU (by
  show Y ((aD (aZ O X T).P gv 29).c .inl 34 [t] S) _=_;rw[show(29:Nat)=15+14 from rfl,Ld rfl L.LZ L.eK L.L3]
  rfl) p10 hj
 have z10:=(show kc (aZ O X T) (116+1) ue oX=oX from o10.2)▸z10;refine W0 (z10 _ E λV' V7 h2 fo4=>?_);rw[fo4.1];have cK:=hj.b7 h2 fo4.2;have o11:=Kv O X T;have p11:bQ (aZ O X T) 117 j.bx.kindOf qP oT:=by exact V▸o11.1
 have z11:=(v.t qP).aO (c:=⟨aZ O X T,j,j.bx,A.deeper j.bx⟩) (k:=117) (x:=oT) (b:=false) rfl (h:=show(aD (aZ O X T).P (aZ O X T).N 30).e qP ⟨[(74,t),(132,.int (.ofNat c)),(45,.int (.ofNat i)),(49,.int 0)],S⟩=some (.bool false,S)by kernel_rfl) rfl p11 cK
 have z11:=(show aJ (aZ O X T) 117 qP oT=oT from o11.2)▸z11;refine W0 (wpAny_If (z11 _ E λN VY kk x5=>?_));rw[x5,if_neg (by decide)]
 refine Xw ?_;have c':=cK.aF kk;have o12:=Kw O X T;have p12:bQ (aZ O X T) 117 j.bx.kindOf qQ oU:=by exact V▸o12.1
 have z12:=(v.t qQ).aO (c:=⟨aZ O X T,j,j.bx,A.deeper j.bx⟩) (k:=117) (x:=oU) (b:= !(Nat.beq i c)) rfl (h:=show(aD (aZ O X T).P (aZ O X T).N 30).e qQ ⟨[(74,t),(132,.int (.ofNat c)),(45,.int (.ofNat i)),(49,.int 0)],S⟩=some (.bool (!(Nat.beq i c)),S)by kernel_rfl) rfl p12 c'
 have z12:=(show aJ (aZ O X T) 117 qQ oU=oU from o12.2)▸z12;refine W0 (wpAny_If (z12 _ E λq0 VZ kz x6=>?_));have n:=c'.aF kz;have T16:cO ⟨aZ O X T,j,j.bx,A.deeper j.bx⟩ S w1 S q0:=(((hF.trans C.ag (h1.b7 a'.ag)).trans C.ag h2).trans C.ag (kk.b7 cK.ag)).trans C.ag (kz.b7 c'.ag);rw[x6];generalize hkn:Nat.beq i c=M;induction M with
 |true=>
  rw[if_neg (by decide)]
  refine Xw (Xw ?_);have e2:=Kx O X T;have VQ:m9 (aZ O X T) 117 j.bx.kindOf uf oY:=by exact V▸e2.1
  have fv:=uk v uf ⟨aZ O X T,j,j.bx,A.deeper j.bx⟩ ⟨[(74,t),(132,.int (.ofNat c)),(45,.int (.ofNat i)),(49,.int 0)],S⟩ (.ret t) ⟨[(74,t),(132,.int (.ofNat c)),(45,.int (.ofNat i)),(49,.int 0)],S⟩ 116 oY q0 rfl VQ n;have fv:=(show kc (aZ O X T) (116+1) uf oY=oY from e2.2)▸fv;refine W0 (fv _ E λVV V8 w' fo7=>?_);obtain⟨qs,x7,VR⟩:=fo7;have Z:=T16.trans C.ag w';rw[x7];exact x VV (.ret qs) qs Z.aM Z.dd rfl ⟨hkn,Z.aH,U.step.mi I.aH Z.step λb z=>.inr (fs b z),VR⟩
 |false=>
  rw[if_pos (by decide)]
  refine W0 (RT n x3 (by exact V▸Q2) (by unfold uO;rfl) (λWa x1 Q E z=>Jw (n.aF x1) V L.NR L.hn Q E z) λk K e k0 bc fr3 L2 ne ex=>ys _ _ ?_)
  obtain⟨V5,t1,he,F',hd⟩:=ex;have u:=(n.aF k0).ag;obtain⟨V3,hr⟩:∃m,Fr j.g j.L K.heap m:=u.aM.elim λm wd=>⟨m,fr3 m wd⟩;have kb5:gu j.L k.h K.heap:=⟨L2,hr.ns.elim λJ y=>y.elim λ_ y=>y.elim λ_ y=>⟨J,y.1⟩⟩;have T5':aT ⟨aZ O X T,j,j.bx,A.deeper j.bx⟩ S k S ⟨k.G,K⟩:=.gS u kb5 fr3 bc;have T1b:cO ⟨aZ O X T,j,j.bx,A.deeper j.bx⟩ S w1 S k:=T16.trans C.ag (k0.b7 n.ag);have W:cO ⟨aZ O X T,j,j.bx,A.deeper j.bx⟩ S w1 S ⟨k.G,K⟩:=T1b.trans C.ag (T5'.b7 u);have VW:w.h.get? e=none:=by
   generalize q:w.h.get? e=M;induction M with|none=>rfl|some J=>exact((U.step.mi I.aH T1b.step λb z=>.inr (fs b z)).eo e J q).elim λV4 y=>cj y ne
  have hi:=pushX C.aM.B hr C.aM.lV C.aM.kind;refine wpAny_leaving_firstW C.dJ.frames (funFrames_hide (as:=e::(j.bx::j.hQ).filterMap (·.frame)) hi.frames λd he a hf=>.tail _ (XS.mpr ⟨d,he,hf⟩)) C.aM.lV he (λb J z=>of_hideAll _ z) (hideAll_none _ (.head _)) hd rfl rfl λh' Ey=>?_;obtain⟨L1,⟨_,_,k2⟩,Q1,O'⟩:=Ey;refine VT hkn e _ ⟨k.G,K⟩ _ ⟨W.aH,U.step.mi I.aH W.step λb z=>.inr (fs b z),(U.dd.trans W.dd).trans ⟨h',_,rfl⟩,λb J z=>?_,VW,⟨λy=>(u.aH.bI e y).1.elim λ_ y=>cj y ne,λp VN y=>u.aH.kS ne VN y⟩,⟨_,L1,hideAll_none _ (.head _),l2▸k2,F'▸Q1⟩,O'⟩
  by_cases D:b∈e::(j.bx::j.hQ).filterMap (·.frame)
  .refine .inr ?_
   cases D with
   |head=>exact .inl rfl
   |tail _ D=>
    obtain⟨_,e2,ho2,nf2⟩:=hi.frames.mem D;refine .inr ⟨Wc (ho2.symm.trans z)▸nf2,?_⟩;obtain⟨x',e1,mm⟩:=XS.mp D;cases e1 with
    |head=>have l1:b=j.L:=Wc (mm.symm.trans C.aM.lV);exact .inl ⟨fs b (.inl l1),l1▸(C.ag.b7 W).own⟩
    |tail _ e1=>exact .inr (XS.mpr ⟨x',l2▸e1,mm⟩)
  .exact .inl (hideAll_get _ z D)
end
@[irreducible] noncomputable def u3:Y9:=.Call (.Name "checked" ⟨897,15,897,22⟩) [.Name "tables" ⟨897,23,897,29⟩] [] ⟨897,15,897,30⟩
@[irreducible] noncomputable def xA:Y9:=.Name "tables" ⟨897,39,897,45⟩
def O2(P:Y8):kC (gQ (bH P) 135)=[.Try [.Return (some (.Compare (.Attribute u3 "rows" ⟨897,15,897,35⟩) [.Eq] [.Attribute xA "rows" ⟨897,39,897,50⟩] ⟨897,15,897,50⟩)) ⟨897,8,897,50⟩]
 [.ExceptHandler (some (.Name "GrammarError" ⟨898,11,898,23⟩)) none [.Return (some (.Constant (.bool false) 0 ⟨899,15,899,20⟩)) ⟨899,8,899,20⟩] ⟨898,4,899,20⟩] [] [] ⟨896,4,899,20⟩]:=by kernel_rfl
abbrev v7(P:Y8):Y'->Ze Y6:=ia (gQ (bH P) 135).scope
def O3(O:Nat->YU->Ze V)(W:Y7)(T:hC):(cN (aZ O W T) 135=585/\cN (aZ O W T) 35+20<=585)/\(v7 W.params "GrammarError"=some .globalImplicit/\v7 W.params "checked"=some .globalImplicit)/\(e0 74="tables"/\e0 36="rows")/\iY (v7 W.params) "tables"/\(nsIn (bH W.params) mainGlobals "checked").join=some (.ref 382)/\keepIn (bH W.params) (.ref 382)/\gB 35=382:=
 ⟨⟨by kernel_rfl,Wb rfl⟩,⟨by kernel_rfl,by kernel_rfl⟩,⟨by kernel_rfl,rfl⟩,by kernel_rfl,rfl,by kernel_rfl,rfl⟩
def F9:p7 u3/\p7 xA:=⟨by unfold u3;rfl,by unfold xA;rfl⟩
def HN(e:k' a Z.bj=some x):k' a h=some x:=by
 induction a using V.casesOn with|ref p=>exact cB e|_=>exact e
def K2(e:dx .eq a b Z.bj=some r):dx .eq a b h=some r:=aA e λx d e=>aA e λy n e=>by refine(?_:Y (k' a h) (λa=>Y (k' b h) λb=>gq 20 a b)=_);exact(HN d)▸(HN n)▸e
def bB.E4(M:bB x' h' f')(Y:∀c',Ex c'->cY c' h' f')(V:∀c' a',¬Ex c'->f'.h.get? c'=some a'->s'.heap.get? c'=some a')(W:∀c' a',f'.h.get? c'=some a'->∃w',s'.heap.get? c'=some w'):bB x' h' ⟨f'.G,s'⟩/\cG h' f' h' ⟨f'.G,s'⟩ Ex:=by
 have E:cM f' ⟨f'.G,s'⟩:=⟨λ_ j=>j,λ_ _ j=>j,λu a' C o=>V u a' (λJ=>(Y u J).a0 C) o⟩;exact⟨⟨λU a' o=>(M.slot U a' o).ext E rfl λj ex=>V _ j (λJ=>(Y _ J).aX U ⟨a',o⟩ rfl) ex,M.inj,λu C=>(M.bI u C).imp (λj=>j.elim (W u)) id,M.gK⟩,
  λ_ j=>j,λ_ _ j=>j,λ_ _ _=>rfl,λc' a' o J _=>V c' a' J o,W,λU cK=>.inl ⟨cK,rfl⟩,λU a' w' o Z=>Wd bc (Wc (Z.symm.trans o)),Wr _,λu C=>.inl C⟩
section
variable{O:Nat->YU->Ze V}{X:Y7}{T:hC}{f:ec}{d:Env}{A:Zb}{S:Z}
set_option backward.match.sparseCases true in
def O7(e1:g7 (aZ O X T))(M:hX (aZ O X T) f)(mm:d5 f A (cN (aZ O X T) 135+20))(I:aP ⟨aZ O X T,f,d,A⟩ S w)(r:o (aZ O X T) w t G)(L:x9 t g H c i)(hr:Nat.beq i c->bM Z.bj t 36=some gX/\dx .eq gX gX Z.bj=some true)(R:Result->Y2)
  (q:∀h,aT ⟨aZ O X T,f,d,A⟩ S w S h->R (.ok (.ret (.bool (Nat.beq i c)))) h.s):codeAny (model ea X) A (.call (.ref ((aZ O X T).di 135)) ⟨[G],[]⟩) R w.s:=by
 obtain⟨x1,F,pl,qs,hdv⟩:=vO O X T (135,[74],[]) (.head _);dsimp only at pl qs hdv;obtain⟨⟨b135,b35⟩,⟨Ex,ys⟩,⟨n74,n36⟩,Ey,glC,kpC,fa35⟩:=O3 O X T;have glC':(aZ O X T).jU "checked"=some (.ref 382):=glC;have lev:f.hQ=[]:=by
  have z:=mm.rr;rw[b135] at z;unfold Bt at z;generalize q:f.hQ=Y;induction Y with|nil=>rfl|cons a r=>rw[q,WL] at z;lia
 refine vj (l:=[(74,t)]) (dD:=λh q0=>q0=.bool (Nat.beq i c)/\bB (aZ O X T) S h/\cG S w S h (iu f)) R e1 F M mm I rfl (λVV V1 q v z=>?_) (λP w1 x6 x7 C J VY W nw bnd Q E x raw _=>?_) λh q0 a b p=>p.1▸q h ⟨p.2.1,p.2.2,a,b⟩
 .have z:(match Nat.beq 74 q with|true=>some t|false=>none)=some v:=z
  generalize e:Nat.beq 74 q=Y;induction Y with|false=>rw[e] at z;exact cB z|true=>rw[e] at z;exact⟨G,We e▸.head _,Wc z▸r⟩
 rw[b135] at C;have kd:P.bx.kindOf=v7 X.params:=by rw[x6];refine(?_:ia x1.scope=_);rw[qs]
 rw[pl,O2];have tL:∀{K:aL}{p:Pos}{Q:YV}{E:YV},bJ ⟨aZ O X T,P,P.bx,A.deeper P.bx⟩ 585 [(74,t)] S K->(∀w' v,aT ⟨aZ O X T,P,P.bx,A.deeper P.bx⟩ S K S w'->o (aZ O X T) w' t v->Q v w'.s)->wpAny (model ea X) (A.deeper P.bx) (eval (.Name "tables" p) P.bx) Q E K.s:=λ{K p Q E} D q=>by
  have z:=z2 (c:=⟨aZ O X T,P,P.bx,A.deeper P.bx⟩) (n:=74) (v:=t) (X:=p) D.ag D.bU D.dc (by show iY P.bx.kindOf (e0 74)=true;exact kd▸n74▸Ey) rfl (by show(e0 74==_)=false;rw[n74];decide) (by show(e0 74==_)=false;rw[n74];decide) Q E q
  rwa [show(aZ O X T).az 74="tables" from n74] at z
 refine W0 (wpAny_Try_except (W0 (YK (wpAny_Compare1 (Attribute_any_ ?_ (by
   show(do let j<-attributeBase _ _ P.bx (eval _ P.bx);_)=_
   rw[uT F9.1])) rfl))))
 unfold u3;refine XO (vK C (by exact kd▸ys) glC' (by decide) _ _ λh fv k0 e2=>e2▸?_)
 have c':=C.aF k0;refine ua (c:=⟨aZ O X T,P,P.bx,A.deeper P.bx⟩) kpC _ _ _ (oE rfl) (evalArgs_plain (spliced_cons (tL c' λrt VQ fi Q1=>spliced_nil ⟨(c'.aF fi).lS,?_⟩)));have a':=c'.aF fi;have T13:=k0.trans C.ag fi;refine Yc (fa35▸Kr e1 C.aM (C.dJ.ju b35) a'.ag Q1 L _ (λhkn V6 v4 l1 Q2=>?_) λhkn e s n B fl=>?_:codeAny _ _ (.call (.ref 382) ⟨[VQ],[]⟩) _ _)
 .have h1:=a'.aF l1
  obtain⟨hr1,hr2⟩:=hr hkn;have at36:∀{K:aL}{v:Y3},bJ ⟨aZ O X T,P,P.bx,A.deeper P.bx⟩ 585 [(74,t)] S K->o (aZ O X T) K t v->aR ⟨aZ O X T,P,P.bx,A.deeper P.bx⟩ (getAttr v "rows" true) S K S gX:=λ{K v} D p=>by
   have z:=DX (c:=⟨aZ O X T,P,P.bx,A.deeper P.bx⟩) (a:=36) (i:=true) D (show 36<187 by decide) (s9 hr1) p
   rwa [show(aZ O X T).az 36="rows" from n36] at z
  refine at36 h1 Q2 _ _ λn V3 l2 VN=>?_;have N:=h1.aF l2;refine Attribute_any_ ?_ (by
   show(do let j<-attributeBase _ _ P.bx (eval _ P.bx);_)=_
   rw[uT F9.2])
  unfold xA;refine tL N λV7 v6 U VO=>at36 (N.aF U) VO _ _ λV8 V4 fp VP=>?_;have h2:=(N.aF U).aF fp;refine pv (c:=⟨aZ O X T,P,P.bx,A.deeper P.bx⟩) (f:=.eq) h2.ag h2.units (K2 hr2) ((VN.ext (N.ag.ext U)).ext ((N.ag.aF U).ext fp)) VP _ _ λVR V5 x4 x5=>?_;rw[x5];have T18:=((((T13.trans C.ag l1).trans C.ag l2).trans C.ag U).trans C.ag fp).trans C.ag x4;exact x VR (.ret (.bool true)) (.bool true) (T18.b7 C.ag).aM T18.dd rfl ⟨by rw[hkn],T18.aH,J.step.mi I.aH T18.step λb z=>.inr (W b (.inl z))⟩
 .obtain⟨rel5,st5,zY,keep5,new5,own5,⟨VU,fly⟩,up5⟩:=fl
  obtain⟨m,h'⟩:=I.aM;have S15:cG S w1 S n (iu P):=T13.step.trans C.ag.aH st5;have S05:cG S w S n (iu f):=J.step.mi I.aH S15 λb z=>.inr (W b (.inl z));have frm:∀b,b∈(P.bx::P.hQ).filterMap (·.frame)->b=P.L\/b=f.L:=λb z=>by
   obtain⟨VW,u,nk⟩:=XS.mp z;cases u with
   |head=>exact .inl (Wc (nk.symm.trans C.aM.lV))
   |tail _ u=>
    rw[x7] at u;cases u with
    |head=>exact .inr (Wc (nk.symm.trans M.lV))
    |tail _ u=>rw[show(⟨aZ O X T,f,d,A⟩:cu).f.hQ=[] from lev] at u;exact es u
  have has3:∀b j,w.h.get? b=some j->∃hj,rt.h.get? b=some hj:=λb j z=>(J.step.eo b j z).elim λL2 z=>T13.step.eo b L2 z;have inB:∀b j,w.h.get? b=some j->b≠f.L->n.h.get? b=some j->B.get? b=some j:=λb j z c VT=>by obtain⟨VZ,s'⟩:=has3 b j z;refine(keep5 b j VT).elim id λy=>y.elim (λy=>cj (y▸s') new5) λy=>y.2.elim (λy=>cj s' y.1) λy=>(frm b y).elim (λy=>cj z (W b (.inl y))) λy=>absurd y c
  have od:∀b j,f.g.get? b=some j->B.get? b=some j:=λb j z=>by have c:b≠f.L:=λy=>cj (y▸z) (kts_self h');have wd:=h'.keep b j z;exact inB b j wd c (S05.keep b j wd c λp l y=>cj z (y▸I.new p l.e8))
  refine wpAny_looks_onW C.dJ.frames C.aM.lV fly λVX held4 up4=>wpAny_landsW held4 λx8 V up6=>?_;have kk:∀b j,f.g.get? b=some j->x8.get? b=some j:=λb j z=>V.1 b j (od b j z);obtain⟨V0,hob,hobc⟩:=V.there;refine wpAny_handleBy_cons (codeAny_handlers_test (Name_function_global C.bU.kind (by exact kd▸Ex) (loadGlobal_global (by exact C.bU.h8▸M.T.g.keeps kk) (mg_of M.K M.T.g (e1.r0.jU _ _ (zp X.params).1)) ?_) (by decide))) (by intro q;cases q)
  refine wpAny_excMatches_sub_self (kk _ _ (M.K _ _ (sL X.params))) hob hobc De.2 (codeAny_handlers_suite ?_);refine wpAny_setFlight_noneW V.1 V.2.2.1 V.2.2.2 λcK hi k2 k x'=>?_;refine W0 (YK (wpAny_Constant_bool ?_));have up:n.h.UpToSlots cK:=((up5.trans up4).trans up6).trans λb j z c=>⟨j.slots,x' b j z c⟩;have own3:∀b,b=P.L\/b=f.L->cY b S n:=λb z=>z.elim (λz=>z▸a'.ag.own.step a'.ag.jW st5) λz=>z▸I.own.step I.jW S05;have none3:∀b,rt.h.get? b=none->w.h.get? b=none:=λb z=>by
   generalize q:w.h.get? b=Y;induction Y with|none=>rfl|some j=>exact(has3 b j q).elim λhj y=>cj y z
  have kz:=bB.E4 (s':={s with heap:=cK}) (Ex:=λb=>b=f.L\/(w.h.get? b=none/\cY b S n)) rel5 (λb z=>z.elim (λz=>own3 b (.inr z)) (·.2)) (λb j c z=>(keep5 b j z).elim (hi b j) λy=>absurd (y.elim (λy=>.inr ⟨y▸none3 e new5,y▸own5⟩) λy=>y.2.elim (λy=>.inr ⟨none3 b y.1,y.2⟩) λy=>(frm b y).elim (λy=>.inr ⟨W b (.inl y),own3 b (.inl y)⟩) .inl) c)
   (λb j z=>(keep5 b j z).elim (λy=>⟨j,hi b j y⟩) λy=>y.elim (λy=>k.elim λO' k=>k.elim λ_ k=>k.elim λ_ k=>k.elim λ_ k=>k.elim λ_ k=>⟨O',y▸k.1⟩) λy=>(up b j z y.1).elim λV2 y=>⟨_,y⟩)
  refine raw (.ret (.bool false)) _ ?_;have z:=q ⟨n.G,{s with heap:=cK}⟩ ⟨kz.1,S05.mi I.aH kz.2 λb z=>z.imp id (·.1),λL1 F'=>?_,((J.dd.trans T13.dd).trans zY).trans ⟨cK,s.toks,rfl⟩⟩
  .rw[hkn] at z;exact z
  .have x2:=J.aM L1 F'
   have x3:=I.own.step I.jW J.step;exact⟨up.ns (x2.ns.at' λj y=>S15.keep _ j y (λhF=>(I.jW.elim λhj VS=>cj VS (W _ (.inl hF)))) λp l hF=>x3.aX p l.e8 hF),λb j y=>hi b j (od b j y),F'.above⟩
end
section
variable{O g:Nat->YU->Ze V}{X:Y7}{T:hC}{f:ec}
def o.gZ(u:o (aZ O X T) c' f' a'):o (aZ g X T) c' f' a':=
 o.rec
  .none .bool .int .str (λf C j _ u=>.ay f C j u) (λf C j _ u=>.ae f C j u) (λf W C j _ u=>.ah f W C j u) (λV f U C M _ u=>.ins V f U C M u)
  .ref (λf C j _ u=>.hu f C j u) .nil (λ_ _ J j=>.cons J j) .nil (λ_ _ J j=>.cons J j) .nil (λ_ _ J j=>.cons J j) u
def aK.gZ:∀{a':YY},aK (aZ O X T) f' c' a'->aK (aZ g X T) f' c' a':=by
 induction c' with|nil=>exactλj=>by cases j;exact .nil|cons o J C=>exactλj=>by cases j with|cons o u=>exact .cons o.gZ (C u)
def b2.gZ:∀{a':List (aE×Y3)},b2 (aZ O X T) f' c' a'->b2 (aZ g X T) f' c' a':=by
 induction c' with|nil=>exactλj=>by cases j;exact .nil|cons o J C=>exactλj=>by cases j with|cons o u=>exact .cons o.gZ (C u)
def dA.gZ:∀{a':List DictEntry},dA (aZ O X T) f' c' a'->dA (aZ g X T) f' c' a':=by
 induction c' with|nil=>exactλj=>by cases j;exact .nil|cons o J C=>exactλj=>by cases j with|cons o u=>exact .cons o.gZ (C u)
def fR.gZ(j:fR (aZ O X T) f' c' a'):fR (aZ g X T) f' c' a':=by
 induction a' with|ae Y C=>exact⟨j.1,j.2.elim λJ j=>⟨J,j.1,j.2.1,j.2.2.gZ⟩⟩|ah V W C=>exact⟨j.1,j.2.1,j.2.2.elim λo j=>⟨o,j.1,j.2.1,j.2.2.gZ⟩⟩|ins M U=>exact⟨j.1,j.2.elim λu j=>j.elim λo j=>⟨u,o,j.1,j.2.1,j.2.2.1,j.2.2.2.1,j.2.2.2.2.1,j.2.2.2.2.2.gZ⟩⟩
def bB.gZ(j:bB (aZ O X T) a' c'):bB (aZ g X T) a' c':=⟨λC o u=>(j.slot C o u).gZ,j.inj,j.bI,j.gK⟩
def aP.gZ(j:aP ⟨aZ O X T,f,af,a'⟩ c' f'):aP ⟨aZ g X T,f,af,a'⟩ c' f':=⟨j.aM,j.aH.gZ,j.own,j.new,j.dy⟩
def aT.gZ(j:aT ⟨aZ O X T,f,af,c'⟩ a' f' a' w'):aT ⟨aZ g X T,f,af,c'⟩ a' f' a' w':=⟨j.aH.gZ,j.step,j.aM,j.dd⟩
def MB(X:Y7)(T:hC):g7 (aZ (λ_ _=>none) X T):=Dz _ X T (λ_ _ _ h=>nomatch h) λ_ _ _ _ _ _ _ _ _ h=>nomatch h
def Rj(X:Y7)(T:hC):yc (aZ t2 X T):=λf env A B D r fp w i e E H I U R q=>by
 have e:(match Nat.beq B 135 with|true=>Y (d9 D) wg|false=>none)=some r:=e
 generalize x:Nat.beq B 135=N;induction N with
 |false=>rw[x] at e;exact cB e
 |true=>
  rw[x] at e;have x:=We x;subst x;refine aA e λt y e=>?_;have y:D=[t]:=by
   induction D with
   |nil=>exact cB y
   |cons a l=>induction l with|nil=>exact Wd (λa=>[a]) (Wc y)|cons=>exact cB y
  subst y;refine U.hP (q:=λi=>codeAny (model ea X) A (.call (.ref (gB 135)) ⟨i,[]⟩) R w.s) λcK W=>?_;refine aA e λg v e=>aA e λj F e=>aA F λfl p s=>aA e λn P e=>aA P λfs G J=>aA e λk u e=>bR e λC e=>bR e λM e=>bR e λQ e=>?_;have L:x9 t g j n k:=⟨v,by rw[p,B5 s],by rw[G,pd J],u,C,Wb M,Wb Q⟩
  have e:=e;have S:∀{d:V},(Nat.beq k n=true->bM Z.bj t 36=some d/\dx .eq d d Z.bj=some true)->r=.bool (Nat.beq k n)->codeAny (model ea X) A (.call (.ref (gB 135)) ⟨[cK],[]⟩) R w.s:=λh K=>O7 (MB X T) ⟨E.B,E.K,E.T,E.lV,E.kind⟩ H I.gZ W.gZ L h R λc' a'=>q c' _ a'.gZ (K▸.bool)
  generalize z:Nat.beq k n=N;induction N with
  |false=>rw[z] at e S;exact S (d:=.none) bb (Wc e).symm
  |true=>
   rw[z] at e S;refine aA e λm O e=>bR e λc e=>S (d:=m) (λ_=>⟨O,?_⟩) (Wc e).symm;generalize dx .eq m m Z.bj=o at c⊢;induction o with|none=>exact bb c|some b=>exact Wd some c
def MA(X:Y7)(T:hC):g7 (aZ t2 X T):=Dz _ X T (λB D r h=>by
 have h:(match Nat.beq B 135 with|true=>Y (d9 D) wg|false=>none)=some r:=h
 generalize x:Nat.beq B 135=N;induction N with|false=>rw[x] at h;exact cB h|true=>exact We x) (Rj X T)
end
set_option backward.match.sparseCases true in
def UE(I:jB f)(O:g7 X){N:qC}(F:o1 X B d N)(hj:A.frames=some [])(h2:A.handled=none)(hdep:(A.depth+1)*20+cN X B<=18000)(hun:A.units+3+8*cN X B<=9000)(hlev:cN X B<=Bt)
  {w:aL}(K:X.K.In w.h)(T:Top X.T.p X.T.FE X.T.ry X.T.FR X.T.FN w.h)(cK:bB X Z.bj w){a':YU}{t:YY}{v:V}{hp':Z}(e:(aD X.P X.N (f+1)).c .inl B a' Z.bj=some (v,hp'))(hf:X.P.fK B=some d)(r:aK X w a' t)(R:Result->Y2)
  (q:∀s g,(∀b H,w.h.get? b=some H->s.h.get? b=some H)->fj w s->o X s v g->R (.ok (.ret g)) s.s):codeAny (model X.prog X.w) A (.call (.ref (X.di B)) ⟨t,[]⟩) R w.s:=by
 refine aA e λfn' c' e=>?_;have c':=Wc (hf.symm.trans c');subst c';refine aA e λl E e=>bR E λh' E=>?_;have W:=We h';rw[dO,dO,dO,r.length] at W;have E:=Wc E;subst E;refine bK e λfl st' e2 n=>?_;have G:=F.H;have rdf:=F.H.rm w;have W:t.length+N.iU.length=d.ak.length:=by rw[<-rdf.length];exact W
 have hkind':(((d.ak.map X.az).zip (t++N.iU)).all λy=>N.scope.names.lookup y.1==some .local||N.scope.names.lookup y.1==some .cell):=
  Wn.mpr λy kd=>(WN.mp (XU kd).1).elim λa z=>z.2▸Wn.mp F.H.Ei a z.1
 have hroom:A.depth<recursionLimit:=Nat.lt_of_mul_lt_mul_right (a:=20) (Wg (Wg (Nat.mul_lt_mul_of_pos_right (Wu _) (by decide)) (Wh (Wq _ _) hdep)) (by decide))
 refine codeAny_call_function hroom (K _ _ F.H.fw) rfl F.H.td F.H.tg rfl (codeRec_of K F.H.tc) (kp_binds K (λS=>F.H.dN S t W) _ _ _ _ ?_);refine wpAny_newFunctionEnv_cells F.H.hn (kindsX hkind' _) λenv' he s' x=>?_;subst he;refine⟨T.nolimit.keeps x.toInCall.keep,codeAny_func ?_⟩;obtain⟨k,i,rfl,_⟩:=x.done;have M:∀b H,w.h.get? b=some H->k.get? b=some H:=x.toInCall.keep;obtain⟨cells,Q,Y⟩:=Cl.news (h₀:=w.s.heap) (Wr _) λf c D=>⟨x.cell f c (lookup_of_mem_nodup (cellsFrom_names N.scope.names 0 ((Zw w.s)+1) [] [] rfl▸F.H.Eo) D),x.above f c D⟩;have owge:∀x a,(x,a)∈cellsFrom ((Zw w.s)+1) N.scope.names []->(Zw w.s)<a:=λx a J=>(Cw _ _ _ _ _ J).elim (λz=>(nomatch z)) id;have fs:=bB.E4 (s':=(w.ab k i).s) (Ex:=λ_=>False) cK (λ_ z=>z.elim) (λb H _ z=>M b H z) λb H z=>⟨H,M b H z⟩;have own:∀a,w.h.get? a=none->cY a Z.bj (w.ab k i):=λa l=>⟨λz=>(cK.bI a z).1.elim λ_ e=>cj e l,λp fp=>absurd fp m6⟩
 let P:ec:=⟨w.h,(Zw w.s),[],w.h,A,envOfC N.qual N.scope (Zw w.s) (X.di B) N.mE,λa=>∃x,(x,a)∈cellsFrom ((Zw w.s)+1) N.scope.names []⟩
 have h1:aP ⟨X,P,P.bx,A.deeper P.bx⟩ Z.bj (w.ab k i):=by refine⟨⟨_,x.toInCall.ns,M,Wr _⟩,fs.1,own _ (hl _),λp fp=>absurd fp m6,λa z=>z.elim λx J=>(pn Y J).elim λH D=>?_⟩;have z:=Q _ D.1;exact⟨⟨H,z.1⟩,z.2.1,own a z.2.2,z.2.2⟩
 have hF:=BK O.az (t++N.iU) F.H.ti;have bnd:∀x v,(x,v)∈(d.ak.map X.az).zip (t++N.iU)->ff P.bx k x v:=λy v D=>by refine(Xd.mp (Wn.mp hkind' _ D)).elim (λq=>.inl ⟨eq_of_beq q,_,x.toInCall.ns,Cf (eq_of_beq q) D hF⟩) λq=>?_;have q:N.scope.names.lookup y=some .cell:=eq_of_beq q;exact(XN.mp (cellsFrom_some _ _ _ (.inl q):(List.lookup y (cellsFrom ((Zw w.s)+1) N.scope.names [])).isSome=true)).elim λj L=>(pn Y (hK L)).elim λH z=>.inr ⟨(WN.mp (XU D).1).elim λa z=>z.2▸O.az.eU a,.inl q,j,L,H,(Q _ z.1).1,by rw[z.2,Ce q D hF]⟩
 have C:bJ ⟨X,P,P.bx,A.deeper P.bx⟩ (cN X B) (jP d.ak (U a' d.d6)) Z.bj (w.ab k i):=
  ⟨O,⟨⟨hj,λ_ _ e=>e,trivial⟩,K,T,rfl,F.H.hn⟩,⟨by show A.frames.map _=_;rw[hj];rfl,h2,hdep,hun,by show 0*20+_<=_;rw[Xt,Wj];exact hlev⟩,
   ⟨F.H.hn,rfl,rfl,.inl rfl,λx j _ e=>⟨x,hK e⟩,λx y j e1 e2=>yM (Cv N.scope.names ((Zw w.s)+1) [] .nil λ_ h=>(nomatch h)) (hK e1) (hK e2),λx j e=>WZ (owge x j (hK e)),λx e=>XN.mp (cellsFrom_some _ _ _ (.inl e))⟩,h1,
   ⟨λq v _ e=>(uY (r.append rdf) (ha a' d.d6▸e)).elim λg z=>⟨g,bnd _ _ z.1,z.2.ext (fs.2.ext cK λ_ z=>z.elim)⟩,⟨_,x.toInCall.ns⟩,λx j _ L=>(pn Y (hK L)).elim λH z=>⟨_,H,(Q _ z.1).1,z.2⟩⟩⟩
 have z:=I.x d.body ⟨X,P,P.bx,A.deeper P.bx⟩ ⟨_,Z.bj⟩ fl st' (cN X B) N.body (w.ab k i) e2 F.th C;rw[F.EC] at z;refine z _ _ λs kz fv hi=>?_;have hr:∀b H,w.h.get? b=some H->s.h.get? b=some H:=λb H y=>fv.step.keep b H (M b H y) (λz=>z.elim (λz=>cj (z▸y) (hl w.s.heap)) λz=>z.elim λx J=>(pn Y J).elim λkk D=>cj y (Q _ D.1).2.2) λp m=>absurd m.e8 m6;have bc:fj w s:=fj.trans (b:=w.ab k i) ⟨k,i,rfl⟩ fv.dd;induction fl with|next=>have n:=Xs (Wc n);rw[hi.1];exact q s .none hr bc (n.1▸.none)|ret u=>have n:=Xs (Wc n);exact hi.elim λg z=>z.1▸q s g hr bc (n.1▸z.2)
end Mine.Internal
end
noncomputable section
open PySem PySem.W PyProof.Rows
namespace Mine.Internal
set_option backward.match.sparseCases true
def OC(P:Y8):(match(bH P).lookup mainGlobals with
 |some H=>(match H.data with|.dict G _=>nsFind G "law"|_=>none)
 |none=>none)=some (.ref (gB 136)):=by kernel_rfl
def OG(K:(bH P).In h)(g:h.Ns mainGlobals a):a "law"=some (.ref (gB 136)):=by
 have b:=OC P;generalize e:(bH P).lookup mainGlobals=N;induction N with|none=>rw[e] at b;exact cB b|some o=>rw[e] at b;rw[g.eq_nsMap];unfold Heap.nsMap;rw[K _ _ e];exact b
def DP:rg.get 136=some rd:=by kernel_rfl
def Sg:Nat.beq (vv 136) 15:=by kernel_rfl
def uH:Prop:=∀l:Y1,l.length<=63->∃n E,(aD dD gv (n+1)).c .inl 136 [.hu (l.map .int)] Z.bj=some (.bool true,E)
def OD(E:uH){L:List Y'}{s:Za}(K:(bH w.params).In s.heap)(T:Top g L ry f d s.heap){a:Y4}{o:YY}{l:Y1}(j:s.heap.IsList a o.toArray)(k:IntsAre o l)(m:l.length<=63)(Q:YV)(u:YV)
  (q:∀c,(∀b H,s.heap.get? b=some H->c.heap.get? b=some H)->c.os=s.os->c.gens=s.gens->Q (.bool true) c):wpAny (model ea w) callerA (call (.ref (gB 136)) [.ref a]) Q u s:=by
 obtain⟨n,x,e⟩:=E l m;have F:=MA w ⟨g,L,ry,f,d⟩;obtain⟨_,v⟩:=ze t2 w ⟨g,L,ry,f,d⟩ _ ((vq (pC _ DP)).elim id λe=>nomatch e);have G:cN (aZ t2 w ⟨g,L,ry,f,d⟩) 136=624:=by show 39*vv 136+39=624;rw[We Sg]
 have i:∀p H,Z.bj.get p≠some H:=λp H z=>cB z;refine Yc (UE (w:=⟨⟨λb=>b=a,λ_=>none,λ_=>0⟩,s⟩) (hp':=x) (Hf n) F v rfl rfl ?_ ?_ ?_ K T ⟨λp H z=>absurd z (i p H),λp _ l=>l.elim λH z=>absurd z (i p H),λb z=>⟨j.elim λH B=>⟨H,z▸B.1⟩,λp l=>l.elim λH z=>absurd z (i p H)⟩,λ_ _ z=>cB z⟩ e DP (.cons (.hu rfl j ?_ (AQ k)) .nil) _ ?_)
 .rw[G];decide
 .rw[G];decide
 .rw[G];decide
 .rw[rn k];exact Wh m (by decide)
 .intro A C y bc r
  cases r
  exact q A.s y (by obtain⟨h,t,z⟩:=bc;rw[z]) (by obtain⟨h,t,z⟩:=bc;rw[z])
def Kk(E:uH):WalkO ei kQ (XL ei []) BS nq.toRowW CU [] λf a=>PySem.call f a:=by
 w_on
 intro w H J C u G Y j o S l z g P t s r L F i I M q N y R V b;have X:=(Ground.X G).1;refine Ground.open G ?_;intro T B D m n;have e:=at_of_top T
 wrow_args N y R V b
 rename_i d _ _ _ k _ A _
 have K:=IM Y;have x:=OG K T.g;have x:=Value.ref.inj (Wc (F.symm.trans x));subst x;refine OD E K T d k (by omega) _ _ λO c p v=>?_
 exact⟨.inl ⟨_,.bool true,[],rfl,λ_=>rfl,.bool true,(by first|with_unfolding_all rfl|kernel_rfl),λ_=>⟨.nil,λ_ h=>nomatch h⟩⟩,.of_keep c,p,.of_eq (v.trans i)⟩
set_option backward.match.sparseCases false
abbrev lZ:OpenLaw:=w9
def Vg:noRoadLSs {strict:= !(importedModules lZ.row.prog.main.body).all cThrough.contains,foot:=none,bare:=(["vars","dir","locals"]:List Y').filter (readsOut lZ.row.prog lZ.row.prog.main.body)} lZ.row.prog.main.body:=by kernel_rfl
def Ve:looksOpen lZ.row.prog:=by unfold looksOpen;rw[Vg];kernel_rfl
def H0:lZ.row.wellSaid:=by unfold OpenRow.wellSaid OpenRow.partSaid;rw[Ve];kernel_rfl
def hg(x:a=true)(y:b=true):(a&&b):=by rw[x,y];rfl
def SR:OpenLaw.wellSaid lZ:=by unfold OpenLaw.wellSaid;exact hg (hg (hg (hg (hg (hg (hg (hg (hg (hg (hg (hg (hg (hg (hg (hg (hg (hg H0 (by kernel_rfl)) (by kernel_rfl)) (by kernel_rfl)) (by kernel_rfl)) (by kernel_rfl)) (by kernel_rfl)) (by kernel_rfl)) (by kernel_rfl)) (by kernel_rfl)) (by kernel_rfl)) (by kernel_rfl)) (by kernel_rfl)) (by kernel_rfl)) (by kernel_rfl)) (by kernel_rfl)) (by kernel_rfl)) (by kernel_rfl)) (by kernel_rfl)
def jZ(E:uH):PySem.Challenge.rw_nn0422_01.Holds:=⟨SR,NS H0 (⟨[.list []],by kernel_rfl,by kernel_rfl⟩) (Kk E)⟩
end Mine.Internal
end
noncomputable section
open PySem
namespace Mine.Internal
abbrev eF(n:Nat):lk:=aD dD gv n
def dU{α:Type}(F:lk->Ze α)(r:α):Prop:=∃k,∀n,F (eF (n+k))=some r
def dU.val(j:c'=some a'):dU (λ_=>c') a':=⟨0,λ_=>j⟩
def dU.Y{M:α->lk->Ze β}(C:dU a' f')(u:dU (M f') h'):dU (λc'=>Internal.Y (a' c') λs'=>M s' c') h':=
 C.elim λo C=>u.elim λj u=>⟨o+j,λJ=>by have U:=C (J+j);rw[Wl,Wm j o] at U;refine(?_:Internal.Y (a' (eF (J+(o+j)))) _=_);rw[U,<-Wl];exact u (J+o)⟩
def dU.cp{j:α->lk->Ze β}(u:a'=some c')(o:dU (j c') h'):dU (λf'=>Internal.Y a' λs'=>j s' f') h':=dU.Y (dU.val u) o
def dU.step(j:dU (λc'=>a' (VV dD gv c')) f'):dU a' f':=j.elim λo j=>⟨o+1,λu=>j u⟩
def dU.bR(o:c'=true)(j:dU a' h'):dU (λf'=>bS c' (a' f')) h':=by exact o▸j
def a6(h:x=some a)(g:f a=r):Y x f=r:=by exact h▸g
def fL(h:b=true)(g:x=r):bS b x=r:=by exact h▸g
abbrev ao(e:E)(s:bD)(v:V)(h:Z):Prop:=dU (λi=>i.e e s) (v,h)
abbrev gs(G:List E)(s:bD)(D:YU)(h:Z):Prop:=dU (λi=>h6 i.e G s) (D,h)
abbrev bE(b:List S)(s:bD)(f:fE)(O:bD):Prop:=dU (λi=>i.x b s) (f,O)
abbrev cF(b:S)(s:bD)(f:fE)(O:bD):Prop:=dU (λi=>k8 i b s) (f,O)
abbrev jJ(t:E)(b:List S)(s:bD)(f:fE)(O:bD):Prop:=dU (λi=>i.w t b s) (f,O)
abbrev aY(k:jC)(f:Nat)(D:YU)(h:Z)(v:V)(S:Z):Prop:=dU (λi=>i.c k f D h) (v,S)
abbrev cS(a:YZ)(b:List S)(D:YU)(s:bD)(f:fE)(O:bD):Prop:=dU (λi=>rh i.x a b D s) (f,O)
abbrev eT(a:YZ)(l:E)(B:Ze E)(r:YS)(D:YU)(h:Z)(I:YU)(S:Z):Prop:=dU (λi=>sx i.e a l B r D h) (I,S)
abbrev iq(T:dv)(s:bD)(D:YU)(v:V)(h:Z):Prop:=dU (λi=>xm i.e T s) (D,v,h)
abbrev oZ(C:Bool)(G:List E)(s:bD)(v:V)(h:Z):Prop:=dU (λi=>pj i.e C G s) (v,h)
def u:ao (.lit a) ⟨A,h⟩ a h:=.step (.val rfl)
def h4:ao (.d8 a) ⟨A,h⟩ a h:=.step (.val rfl)
def J(g:au A a=some b:=by rfl):ao (.F a) ⟨A,h⟩ b h:=.step (.cp g (.val rfl))
def a9(p:ao e s x h)(g:bM h x a=some b):ao (.aS e a) s b h:=.step (.Y p (.cp g (.val rfl)))
def s6(p:ao a ⟨A,h⟩ x P)(q:ao b ⟨A,P⟩ y N)(g:mB c B x y N=some (d,t)):ao (.a7 c B a b) ⟨A,h⟩ d t:=.step (.Y p (.Y q (.val g)))
def hI(p:ao a s x h)(g:xJ b x h=some c):ao (.c6 b a) s c h:=.step (.Y p (.cp g (.val rfl)))
def n7(p:ao a ⟨A,h⟩ x P)(q:ao b ⟨A,P⟩ y N)(g:dx c x y N=some B):ao (.aw c a b) ⟨A,h⟩ (.bool B) N:=.step (.Y p (.Y q (.cp g (.val rfl))))
def LU(p:ao a ⟨A,h⟩ x P)(q:ao b ⟨A,P⟩ y N)(g:dx d x y N=some false):ao (.kv d e a b c) ⟨A,h⟩ (.bool false) N:=.step (.Y p (.Y q (.cp g (.val rfl))))
def LV(p:ao a ⟨A,h⟩ x P)(q:ao b ⟨A,P⟩ y N)(g:dx d x y N=some true)(u:ao c ⟨A,N⟩ z t)(k:dx e y z t=some B):ao (.kv d e a b c) ⟨A,h⟩ (.bool B) t:=.step (.Y p (.Y q (.cp g (.Y u (.cp k (.val rfl))))))
def DV(p:ao a ⟨A,h⟩ x P)(g:VQ x P=some true)(q:ao b ⟨A,P⟩ d N):ao (.ite a b c) ⟨A,h⟩ d N:=.step (.Y p (.cp g q))
def du:gs [] ⟨A,h⟩ [] h:=.val rfl
def n8(p:ao a ⟨A,h⟩ b P)(q:gs G ⟨A,P⟩ c N):gs (a::G) ⟨A,h⟩ (b::c) N:=.Y p (.Y q (.val rfl))
def aq(p:ao a ⟨A,h⟩ b P):gs [a] ⟨A,h⟩ [b] P:=n8 p du
def d7(p:gs G s a h):ao (.ay G) s (.ay a) h:=.step (.Y p (.val rfl))
def fq(p:gs G s a h):ao (.ae false G) s (.ae a) h:=.step (.Y p (.val rfl))
def h5(p:gs G s a h):ao (.ae true G) s (.ref h.n) (h.new (.ae a 0)):=.step (.Y p (.val rfl))
def DU(p:ao a ⟨A,h⟩ x P)(q:ao b ⟨A,P⟩ y N)(g:cZ x y N=some c):ao (.sub a b) ⟨A,h⟩ c N:=.step (.Y p (.Y q (.cp g (.val rfl))))
def v'(e:d4 a h=some b):ru a h=some b:=by
 induction a using V.casesOn with|hu l=>exact cB e|_=>exact e
def zo(p:ao a ⟨A,h⟩ x P)(q:ao b ⟨A,P⟩ (.int (.ofNat c)) N)(g:d4 x N=some d):ao (.gk false a (some b) none) ⟨A,h⟩ (.ae (q7 d c)) N:=.step (.Y p (.Y q (.cp (v' g) (.val rfl))))
def zm(p:ao a ⟨A,h⟩ x P)(q:ao b ⟨A,P⟩ (.int (.ofNat c)) N)(g:d4 x N=some d):ao (.gk false a none (some b)) ⟨A,h⟩ (.ae (mg d c)) N:=.step (.Y p (.cp rfl (.Y q (.cp (v' g) (.val rfl)))))
def C8(p:ao a ⟨A,h⟩ x P)(q:ao b ⟨A,P⟩ (.int (.ofNat c)) N)(g:d4 x N=some d):ao (.gk true a none (some b)) ⟨A,h⟩ (.ref N.n) (N.new (.ae (mg d c) 0)):=.step (.Y p (.cp rfl (.Y q (.cp (v' g) (.val rfl)))))
def LX(p:ao a s x h)(g:d4 x h=some b):ao (.oH false a) s (.ae (gj b [])) h:=.step (.Y p (.cp (v' g) (.val rfl)))
def c7(p:gs G s c P)(q:aY a f c P b h):ao (.call a f G) s b h:=.step (.Y p q)
def iA(p:gs G s c P)(q:aY .ef a c P b h):ao (.new a G) s b h:=.step (.Y p q)
def mI(p:ao a s x P)(g:sW x P=some (b,h)):ao (.bI a) s b h:=.step (.Y p (.val g))
def fH(p:ao a ⟨A,h⟩ x P)(i:ks x P=some c)(n:bM P x (hp m)=none)(R:dD.cls c=some b)(D:au b.kR (hp m)=some f)(F:Nat.ble (dD.kY f) (rx m))(q:gs G ⟨A,P⟩ e N)(g:aY .inl f (x::e) N d t):ao (.aC a m G) ⟨A,h⟩ d t:=
 .step (.Y p (by refine i▸?_;dsimp only;refine n▸?_;dsimp only;refine .cp R (.cp D ?_);exact F▸.Y q g))
def kA(p:ao a ⟨A,h⟩ x P)(d:ks x P=none)(q:gs G ⟨A,P⟩ c N)(V:Nat.beq (iL x P) (iL x N))(g:iF gv x (hp m) c N=some (b,t)):ao (.aC a m G) ⟨A,h⟩ b t:=
 .step (.Y p (by refine d▸?_;dsimp only;refine .Y q ?_;exact V▸.val g))
def d3(p:gs G s c P)(g:VY B a c P=some (b,N)):ao (.bq B a G) s b N:=.step (.Y p (.val g))
def LY{c q f d p:Nat}{j:YS}(a:au A q=some (.ref p))(b:h.get p=some (.ins d j))(e:Nat.beq c d)(u:gs G ⟨A,h⟩ l P)(g:aY .inl f (.ref p::l) P i N):ao (.k9 c q f G) ⟨A,h⟩ i N:=by refine .step (.cp a (.cp rfl (.cp b ?_)));dsimp only;exact e▸.Y u g
def hZ(p:ao a s b h):oZ X [a] s b h:=p
def ph(p:ao a s c h)(g:VQ c h=some (!X)):oZ X (a::b::G) s c h:=.Y p (.cp g (by induction X<;>exact .val rfl))
def fV(p:oZ X G s a h):ao (.bool X G) s a h:=.step p
def mH(p:dU (λi=>t4 i.e a b G s []) (m,h)):ao (.ah a b G) s (.ref h.n) (h.new (.ah a m 0)):=.step (.Y p (.val rfl))
def oD:dU (λi=>t4 i.e a [] [] ⟨A,h⟩ d) (d,h):=.val rfl
def xo(v:V)(h:Z):Ze YU:=Y (gz v h) λc=>match c with
 |.D k T=>match k with
  |.T=>none
  |_=>some (ib T)
 |.L O=>some O
 |.T O=>some O
def c8(p:ao a s b h)(g:xo b h=some d):iq (.e a) s d b h:=by
 refine .Y p (.val ?_);unfold xo at g;dsimp only;generalize gz b h=o at g⊢;induction o with
 |none=>exact cB g
 |some c=>
  induction c with
  |D k=>induction k with
   |T=>exact cB g
   |_=>exact Wd (λo=>Y o λO=>some (O,b,h)) g
  |_=>exact Wd (λo=>Y o λO=>some (O,b,h)) g
def kH(p:ao a s (.int (.ofNat b)) h)(g:Nat.blt b b0):iq (.range none a) s (i0 0 b) .none h:=.Y p (.cp rfl (.val (fL g rfl)))
def zG(p:ao a ⟨A,h⟩ (.int (.ofNat m)) P)(q:ao b ⟨A,P⟩ (.int (.ofNat c)) N)(g:Nat.blt m b0)(f:Nat.blt c b0):iq (.range (some a) b) ⟨A,h⟩ (i0 (.ofNat m) (c-m)) .none N:=.Y p (.Y q (.cp rfl (.val (fL g (fL f rfl)))))
def EF(p:ao a s b h)(g:d4 b h=some c):iq (.jl a) s (mK c 0) b h:=.Y p (.cp g (.val rfl))
def EG(p:ao a s b h)(g:d4 b h=some c):iq (.rP a) s (gj c []) b h:=.Y p (.cp g (.val rfl))
def gD{B:Ze E}:eT a e B out [] h [] h:=.val rfl
def vL(g:hH a b ⟨out,h⟩=some s)(p:ao e s w P)(q:eT a e none out c P d N):eT a e none out (b::c) h (w::d) N:=.cp g (.Y p (.Y q (.val rfl)))
def Ab(g:hH a b ⟨out,h⟩=some s)(u:ao c s x P)(k:VQ x P=some false)(q:eT a e (some c) out d P f N):eT a e (some c) out (b::d) h f N:=.cp g (.Y u (.cp k q))
def s7{B:Ze E}(p:iq T ⟨A,h⟩ b a P)(f:eA b)(i:dX a P true=some N)(q:eT d e B A b N g t)(G:dX a t false=some c):ao (.comp false e d T B) ⟨A,h⟩ (.ae g) c:=.step (.Y p (.bR f (.cp i (.Y q (.cp G (.val rfl))))))
def LW{B:Ze E}(p:iq T ⟨A,h⟩ b a P)(f:eA b)(i:dX a P true=some N)(q:eT d e B A b N g t)(G:dX a t false=some c):ao (.comp true e d T B) ⟨A,h⟩ (.ref c.n) (c.new (.ae g 0)):=.step (.Y p (.bR f (.cp i (.Y q (.cp G (.val rfl))))))
def ba:bE [] s .next s:=.step (.val rfl)
def M{j:S}(p:cF j s .next a)(q:bE r a i b):bE (j::r) s i b:=.step (.Y p q)
def bG{j:S}(p:cF j s (.ret b) a):bE (j::r) s (.ret b) a:=.step (.Y p (.val rfl))
def VG(b a:List S):∀{m:Nat}{s c:bD},(eF (m+a.length)).x a s=some (.next,c)->(eF (m+a.length)).x (a++b) s=(eF m).x b c:=by
 induction a with
 |nil=>
  intro m s c e;induction m with
  |zero=>exact cB e
  |succ m=>refine(show s=c from Wd Prod.snd (Wc e))▸?_;rfl
 |cons j a d=>
  intro m s c e;have e:(Y (k8 (eF (m+a.length)) j s) λp=>match p.1 with
    |.next=>(eF (m+a.length)).x a p.2
    |.ret v=>some (.ret v,p.2))=some (.next,c):=e
  show(Y (k8 (eF (m+a.length)) j s) λp=>match p.1 with
    |.next=>(eF (m+a.length)).x (a++b) p.2
    |.ret v=>some (.ret v,p.2))=_
  generalize k8 (eF (m+a.length)) j s=o at e⊢;induction o with
  |none=>exact cB e
  |some p=>match p,e with
   |(.next,O),e=>exact d e
   |(.ret v,O),e=>nomatch (Wd Prod.fst (Wc e):fE.ret v=.next)
def nJ(k:Nat)(p:bE (r.take k) s .next b)(q:bE (r.drop k) b a c):bE r s a c:=p.elim λi p=>q.elim λj q=>⟨i+j+(r.take k).length,λn=>by
 have z:=p (n+j+(r.take k).length);have e:n+j+(r.take k).length+i=n+i+j+(r.take k).length:=by rw[WY (n+j),WY n]
 rw[e] at z;have z:=(VG (r.drop k) (r.take k) z).trans (q (n+i));rw[Yo] at z;rw[<-Wl,<-Wl];exact z⟩
def cI(p:ao e ⟨A,h⟩ b P):cF (.bY (.F a) e) ⟨A,h⟩ .next ⟨VO A a b,P⟩:=.Y p (.val rfl)
def kG(p:ao e ⟨A,h⟩ c P)(q:ao a ⟨A,P⟩ x N)(g:rS x b c N=some t):cF (.bY (.aS a b) e) ⟨A,h⟩ .next ⟨A,t⟩:=.Y p (.Y q (.cp g (.val rfl)))
def D5(p:ao e ⟨A,h⟩ d P)(q:ao a ⟨A,P⟩ x N)(u:ao b ⟨A,N⟩ y t)(g:nt x y d t=some c):cF (.bY (.sub a b) e) ⟨A,h⟩ .next ⟨A,c⟩:=.Y p (.Y q (.Y u (.cp g (.val rfl))))
def GX(p:ao e ⟨A,h⟩ c P)(g:uX b c ⟨A,P⟩=some a):cF (.bY (.ay b) e) ⟨A,h⟩ .next a:=.Y p (.cp g (.val rfl))
def de(p:ao e ⟨A,h⟩ a P)(g:ql a):cF (.expr e) ⟨A,h⟩ .next ⟨A,P⟩:=.Y p (.bR g (.val rfl))
def cb(p:ao e ⟨A,h⟩ a P):cF (.ret (some e)) ⟨A,h⟩ (.ret a) ⟨A,P⟩:=.Y p (.val rfl)
def lP(p:ao e ⟨A,h⟩ x P)(g:VQ x P=some true)(q:bE r ⟨A,P⟩ i a):cF (.ite e r t) ⟨A,h⟩ i a:=.Y p (.cp g q)
def jV(p:ao e ⟨A,h⟩ x P)(g:VQ x P=some false)(q:bE t ⟨A,P⟩ i a):cF (.ite e r t) ⟨A,h⟩ i a:=.Y p (.cp g q)
def oJ(p:jJ e r s i a):cF (.il e r) s i a:=p
def qx(p:ao e ⟨A,h⟩ x P)(g:VQ x P=some false):jJ e r ⟨A,h⟩ .next ⟨A,P⟩:=.step (.Y p (.cp g (.val rfl)))
def uC(p:ao e ⟨A,h⟩ x P)(g:VQ x P=some true)(q:bE r ⟨A,P⟩ .next ⟨G,N⟩)(k:jJ e r ⟨i8 A G,N⟩ i a):jJ e r ⟨A,h⟩ i a:=.step (.Y p (.cp g (.Y q k)))
def H5(p:ao e ⟨A,h⟩ x P)(g:VQ x P=some true)(q:bE r ⟨A,P⟩ (.ret b) a):jJ e r ⟨A,h⟩ (.ret b) a:=.step (.Y p (.cp g (.Y q (.val rfl))))
def da(p:iq T ⟨A,h⟩ d a P)(u:dX a P true=some N)(q:cS b r d ⟨A,N⟩ i ⟨G,t⟩)(w:dX a t false=some c):cF (.b5 b T r) ⟨A,h⟩ i ⟨G,c⟩:=.Y p (.cp u (.Y q (.cp w (.val rfl))))
def dq:cS a r [] s .next s:=.val rfl
def vw(g:hH a d ⟨A,h⟩=some b)(p:bE r b .next ⟨G,N⟩)(q:cS a r e ⟨i8 A G,N⟩ i c):cS a r (d::e) ⟨A,h⟩ i c:=.cp g (.Y p q)
def cW(g:hH a e ⟨A,h⟩=some c)(p:bE r c .next ⟨G,N⟩)(k:i8 A G=b)(q:cS a r f ⟨b,N⟩ i d):cS a r (e::f) ⟨A,h⟩ i d:=vw g p (by exact k▸q)
def Mw(g:hH c d s=some a)(p:bE r a (.ret w) b):cS c r (d::e) s (.ret w) b:=.cp g (.Y p (.val rfl))
def cH(R:dD.fK f=some a)(H:lH a a.ak c=some A)(p:bE a.body ⟨A,h⟩ (.ret b) ⟨G,P⟩):aY .inl f c h b P:=.step (.cp R (.cp H (.Y p (.val rfl))))
def gM(R:dD.fK f=some a)(H:lH a a.ak b=some A)(p:bE a.body ⟨A,h⟩ .next ⟨G,P⟩):aY .inl f b h .none P:=.step (.cp R (.cp H (.Y p (.val rfl))))
def kr(L:dQ (cg 60) b)(s:dD.j2 f b=none)(R:dD.fK f=some a)(H:lH a a.ak b=some A)(p:bE a.body ⟨A,Z.bj⟩ (.ret c) ⟨G,P⟩)(d:ct 12 P c=some w)(k:cg 60 w):aY .pure f b h w h:=by refine .step (.bR L ?_);exact s▸.cp R (.cp H (.Y (.Y p (.val rfl)) (.cp d (.bR k (.val rfl)))))
def Kf(L:dQ (cg 60) a)(s:dD.j2 f a=some b):aY .pure f a h b h:=by refine .step (.bR L ?_);exact s▸.val rfl
def Co(A:fY (ct 12 h) b=some c)(p:aY .pure f c Z.bj a P)(i:ql a):aY .nV f b h a h:=.step (.cp A (.Y p (.bR i (.val rfl))))
def yL(j:dD.cls f=some b)(g:b.init=some i)(F:b.qf)(R:dD.fK i=some a)(V:a.ak=self::d)(H:lH a d e=some A)
  (p:dU (λi=>l9 i.e self a.body ⟨A,h⟩ []) (P,c)):aY .ef f e h (.ins f (sa P) P) c:=by
 refine .step (.cp j ?_);refine g▸?_;dsimp only;refine F▸?_;dsimp only;refine .cp R ?_;exact V▸.cp H (.Y p (.val rfl))
def yJ(R:dD.cls f=some a)(A:a.init=some i)(F:a.qf=false)(p:aY .inl i (.ref h.n::b) (h.new (.ins f [])) .none P):aY .ef f b h (.ref h.n) P:=by refine .step (.cp R ?_);refine A▸?_;dsimp only;refine F▸?_;dsimp only;exact .Y p (.bR rfl (.val rfl))
def cV(p:ao a ⟨A,h⟩ x h)(q:ao b ⟨A,h⟩ y h)(g:mB c B x y h=some (d,h)):ao (.a7 c B a b) ⟨A,h⟩ d h:=s6 p q g
def bF(p:ao a ⟨A,h⟩ x h)(q:ao b ⟨A,h⟩ y h)(g:dx c x y h=some B):ao (.aw c a b) ⟨A,h⟩ (.bool B) h:=n7 p q g
def lG(p:ao a ⟨A,h⟩ x h)(g:VQ x h=some true)(q:ao b ⟨A,h⟩ d P):ao (.ite a b c) ⟨A,h⟩ d P:=DV p g q
def jS(p:ao a ⟨A,h⟩ x h)(g:VQ x h=some false)(q:ao c ⟨A,h⟩ d P):ao (.ite a b c) ⟨A,h⟩ d P:=(.step (.Y p (.cp g q)))
def aI(p:ao a ⟨A,h⟩ b h)(q:gs G ⟨A,h⟩ c P):gs (a::G) ⟨A,h⟩ (b::c) P:=n8 p q
def bw(p:ao a ⟨A,h⟩ x h)(q:ao b ⟨A,h⟩ y h)(g:cZ x y h=some c):ao (.sub a b) ⟨A,h⟩ c h:=DU p q g
def jN(p:ao a ⟨A,h⟩ x h)(g:VQ x h=some X)(q:oZ X (b::G) ⟨A,h⟩ c P):oZ X (a::b::G) ⟨A,h⟩ c P:=(.Y p (.cp g (by induction X<;>exact q)))
def fX(g:hH a b ⟨out,h⟩=some ⟨A,h⟩)(p:ao e ⟨A,h⟩ w h)(q:eT a e none out c h d h):eT a e none out (b::c) h (w::d) h:=vL g p q
def Ac(g:hH a b ⟨out,h⟩=some ⟨A,h⟩)(u:ao c ⟨A,h⟩ x h)(k:VQ x h=some true)(p:ao e ⟨A,h⟩ w h)(q:eT a e (some c) out d h f h):eT a e (some c) out (b::d) h (w::f) h:=(.cp g (.Y u (.cp k (.Y p (.Y q (.val rfl))))))
def h3{B:Ze E}(p:iq T ⟨A,h⟩ b a h)(f:eA b)(i:dX a h true=some h)(q:eT c e B A b h d h)(G:dX a h false=some h):ao (.comp false e c T B) ⟨A,h⟩ (.ae d) h:=s7 p f i q G
def dk(p:ao e ⟨A,h⟩ b h):cF (.bY (.F a) e) ⟨A,h⟩ .next ⟨VO A a b,h⟩:=cI p
def fa(p:ao e ⟨A,h⟩ c h)(q:ao a ⟨A,h⟩ x h)(g:rS x b c h=some P):cF (.bY (.aS a b) e) ⟨A,h⟩ .next ⟨A,P⟩:=kG p q g
def jw(p:ao e ⟨A,h⟩ c h)(q:ao a ⟨A,h⟩ x h)(u:ao b ⟨A,h⟩ y h)(g:nt x y c h=some P):cF (.bY (.sub a b) e) ⟨A,h⟩ .next ⟨A,P⟩:=D5 p q u g
def c1(p:ao e ⟨A,h⟩ x h)(g:VQ x h=some true)(q:bE r ⟨A,h⟩ i a):cF (.ite e r t) ⟨A,h⟩ i a:=lP p g q
def xd(p:ao e ⟨A,h⟩ x h)(g:VQ x h=some false)(q:bE t ⟨A,h⟩ i a):cF (.ite e r t) ⟨A,h⟩ i a:=jV p g q
def cX(p:ao e ⟨A,h⟩ x h)(g:VQ x h=some false):cF (.ite e r []) ⟨A,h⟩ .next ⟨A,h⟩:=jV p g ba
def eK(j:Nat)(g:∀a,(eF (a+j)).e e s=some (b,h)):ao e s b h:=⟨j,g⟩
def k5(B:Nat){j:S}(g:∀a,k8 (eF (a+B)) j s=some (i,b)):cF j s i b:=⟨B,g⟩
def fD(j:Nat)(g:∀a,(eF (a+j)).x r s=some (i,b)):bE r s i b:=⟨j,g⟩
def fo(j:Nat)(g:∀b,(eF (b+j)).c a f d h=some (c,P)):aY a f d h c P:=⟨j,g⟩
def bo.iH(C:Ze α)(J j:Nat)(M:Ze α)(o u:bo α):bo.a5 (J+1) (.node M o u) j C=match Nat.beq j 0 with
 |true=>.node C o u
 |false=>match Nat.beq (j % 2) 1 with
  |true=>.node M (bo.a5 J o (j/2) C) u
  |false=>.node M o (bo.a5 J u (j/2-1) C):=rfl
def Gu(n:i≠0)(m:i % 2=0):0<i/2:=YE λz=>n (by rw[<-W9 i 2,z,m])
def bo.RO(o u:Ze α)(j:Nat):∀(c':bo α)(a':Nat),bo.a5 j (bo.a5 j c' a' u) a' o=bo.a5 j c' a' o:=by
 induction j with
 |zero=>exactλ_ _=>rfl
 |succ j U=>
  intro c' a';refine(bo.t8 u j c' a')▸(bo.t8 o j c' a')▸?_;generalize C:Nat.beq a' 0=J;induction J with
  |true=>show bo.a5 (j+1) (.node u c'.dz.2.1 c'.dz.2.2) a' o=_;rw[bo.iH,C]
  |false=>
   generalize M:Nat.beq (a' % 2) 1=J;induction J with|true=>show bo.a5 (j+1) (.node c'.dz.1 (bo.a5 j c'.dz.2.1 (a'/2) u) c'.dz.2.2) a' o=_;rw[bo.iH,C,M];exact Wd (λV=>bo.node _ V _) (U _ _)|false=>show bo.a5 (j+1) (.node c'.dz.1 c'.dz.2.1 (bo.a5 j c'.dz.2.2 (a'/2-1) u)) a' o=_;rw[bo.iH,C,M];exact Wd (bo.node _ _) (U _ _)
def bo.RN(M U:Ze α)(o:Nat):∀(h':Nat)(a':bo α)(f' c':Nat),f'<o->c'<h'->f'≠c'->bo.a5 o (bo.a5 h' a' c' U) f' M=bo.a5 h' (bo.a5 o a' f' M) c' U:=by
 induction o with
 |zero=>exactλ_ _ _ _ e1=>absurd e1 (Xv _)
 |succ o cK=>
  intro h' a' f' c' hi hj W;induction h' with
  |zero=>exact absurd hj (Xv _)
  |succ h'=>
  rw[bo.t8 U h' a' c',bo.t8 M o a' f'];generalize C:Nat.beq f' 0=j;induction j with
  |true=>
   have u:Nat.beq c' 0=false:=by
    generalize u:Nat.beq c' 0=j;induction j with|true=>exact absurd ((We C).trans (We u).symm) W|false=>rfl
   rw[u];rw[bo.iH,u];generalize Nat.beq (c' % 2) 1=j;induction j with
   |true=>show bo.a5 (o+1) (.node a'.dz.1 (bo.a5 h' a'.dz.2.1 (c'/2) U) a'.dz.2.2) f' M=_;rw[bo.iH,C]
   |false=>show bo.a5 (o+1) (.node a'.dz.1 a'.dz.2.1 (bo.a5 h' a'.dz.2.2 (c'/2-1) U)) f' M=_;rw[bo.iH,C]
  |false=>
   generalize u:Nat.beq c' 0=j;induction j with
   |true=>
    rw[bo.iH,C];generalize Nat.beq (f' % 2) 1=j;induction j with
    |true=>show _=bo.a5 (h'+1) (.node a'.dz.1 (bo.a5 o a'.dz.2.1 (f'/2) M) a'.dz.2.2) c' U;rw[bo.iH,u]
    |false=>show _=bo.a5 (h'+1) (.node a'.dz.1 a'.dz.2.1 (bo.a5 o a'.dz.2.2 (f'/2-1) M)) c' U;rw[bo.iH,u]
   |false=>
    have Z:=vM hi (iR C);have hj2:=vM hj (iR u);generalize J:Nat.beq (f' % 2) 1=j;induction j with
    |true=>
     rw[bo.iH,u];generalize V:Nat.beq (c' % 2) 1=j;induction j with
     |true=>rw[bo.iH,C,J];exact Wd (λe2=>bo.node _ e2 _) (cK h' _ _ _ Z hj2 λY=>W (by rw[<-W9 f' 2,<-W9 c' 2,Y,We J,We V]))
     |false=>show bo.a5 (o+1) (.node a'.dz.1 a'.dz.2.1 (bo.a5 h' a'.dz.2.2 (c'/2-1) U)) f' M=_;rw[bo.iH,C,J]
    |false=>
     rw[bo.iH,u];generalize V:Nat.beq (c' % 2) 1=j;induction j with|true=>show bo.a5 (o+1) (.node a'.dz.1 (bo.a5 h' a'.dz.2.1 (c'/2) U) a'.dz.2.2) f' M=_;rw[bo.iH,C,J]|false=>rw[bo.iH,C,J];have J:=sI (iR J);have V:=sI (iR V);exact Wd (bo.node _ _) (cK h' _ _ _ (Wf (W' _ _) Z) (Wf (W' _ _) hj2) λY=>W (by rw[<-W9 f' 2,<-W9 c' 2,Nat.sub_one_cancel (Gu (iR C) J) (Gu (iR u) V) Y,J,V]))
noncomputable def Z.a5(j:Z)(o:Nat)(u:Ze O):Z:=⟨j.t.a5 (o+1) o u,j.n⟩
def Z.oi(j:Z)(o:Ze O):Z:=⟨j.t.a5 (j.n+1) j.n o,j.n+1⟩
def Z.mQ(o:Z)(u j:Nat)(C:Ze O):(o.a5 u C).get j=if u=j then C else o.get j:=bo.mQ _ _ _ _ _ (Wu _)
def Z.vI(j:Z)(o:Nat)(u:Ze O):(j.oi u).get o=if j.n=o then u else j.get o:=bo.mQ _ _ _ _ _ (Wu _)
noncomputable def W:Z->List (Ze O)->Z
 |F,[]=>F
 |F,o::r=>W (F.oi o) r
def pJ(L:List (Ze O)):∀{a:Z},p<a.n->(W a L).get p=a.get p:=by
 induction L with|nil=>exactλ_=>rfl|cons o r S=>exactλh=>(S (WW h)).trans (by rw[Z.vI,if_neg (WZ h)])
def cw(L:List (Ze O)):∀{a:Z}{i:Nat},a3 L i=some x->(W a L).get (a.n+i)=x:=by
 induction L with
 |nil=>exactλh=>cB h
 |cons o r S=>
  intro a i h;induction i with|zero=>refine(pJ r (a:=a.oi o) (Wu _)).trans ?_;rw[Z.vI,if_pos rfl];exact Wc h|succ i=>exact(show _=(W (a.oi o) r).get (a.n+1+i)by rw[Wl,Wm 1];rfl).trans (S h)
def zy(L:List (Ze O)):∀{a:Z},p<a.n->(W a L).a5 p x=W (a.a5 p x) L:=by
 induction L with|nil=>exactλ_=>rfl|cons o r S=>exactλ{a} h=>(S (WW h)).trans (Wd (W · r) (Wd (Z.mk · _) (bo.RN _ _ _ _ _ _ _ (Wu _) (Wu _) (Wv h))))
def gR(L:List (Ze O)):∀{a:Z}{i:Nat},a3 L i=some y->(W a L).a5 (a.n+i) x=W a (dT L i x):=by
 induction L with
 |nil=>exactλh=>cB h
 |cons o r S=>
  intro a i h;induction i with|zero=>exact(zy r (Wu _)).trans (Wd (W · r) (Wd (Z.mk · _) (bo.RO ..)))|succ i=>exact(show _=(W (a.oi o) r).a5 (a.n+1+i) x by rw[Wl,Wm 1];rfl).trans (S h)
def D8(L:List (Ze O)):∀{a:Z},(W a L).n=a.n+L.length:=by
 induction L with|nil=>exact rfl|cons o r S=>exactλ{a}=>S.trans (by rw[WL,Wm r.length,<-Wl];rfl)
def iW(e:h.get p=some (.ins c P))(g:au P a=some b):bM h (.ref p) a=some b:=by
 refine(?_:(match h.get p with|some (O.ins _ P)=>au P a|_=>none)=_)
 exact e▸g
def kE(e:h.get p=some (.ins c P))(g:au P a=none):bM h (.ref p) a=none:=by
 refine(?_:(match h.get p with|some (O.ins _ P)=>au P a|_=>none)=_)
 exact e▸g
def ku(e:h.get p=some (.ins c P)):ks (.ref p) h=some c:=by
 refine(?_:(match h.get p with|some (O.ins c _)=>some c|_=>none)=_)
 exact e▸rfl
def K0(e:h.get p=some (.ae a l)):ks (.ref p) h=none:=by
 refine(?_:(match h.get p with|some (O.ins c _)=>some c|_=>none)=_)
 exact e▸rfl
def KZ(e:h.get p=some (.ah P T l)):ks (.ref p) h=none:=by
 refine(?_:(match h.get p with|some (O.ins c _)=>some c|_=>none)=_)
 exact e▸rfl
def px(e:h.get p=some (.ae a l)):gz (.ref p) h=some (.L a):=by
 refine(?_:(match h.get p with|some (O.ae a _)=>some (iO.L a)|some (O.ah k T _)=>some (iO.D k T)|_=>none)=_)
 exact e▸rfl
def su(e:h.get p=some (.ah P T l)):gz (.ref p) h=some (.D P T):=by
 refine(?_:(match h.get p with|some (O.ae a _)=>some (iO.L a)|some (O.ah k T _)=>some (iO.D k T)|_=>none)=_)
 exact e▸rfl
def lW(e:h.get p=some (.ae a l)):d4 (.ref p) h=some a:=by
 refine(?_:(match h.get p with|some (O.ae a _)=>some a|_=>none)=_)
 exact e▸rfl
def HJ(e:h.get p=some (.ae a l)):iL (.ref p) h=1:=by
 refine(?_:(match h.get p with|some (O.ae _ _)=>1|some (O.ah ..)=>2|_=>0)=_)
 exact e▸rfl
def HI(e:h.get p=some (.ah P T l)):iL (.ref p) h=2:=by
 refine(?_:(match h.get p with|some (O.ae _ _)=>1|some (O.ah ..)=>2|_=>0)=_)
 exact e▸rfl
def lN(e:h.get p=some (.ah P T l))(t:fO P x=some y)(g:bL T y=some a):cZ (.ref p) x h=some a:=a6 (su e) (a6 t g)
def zq(e:h.get p=some (.ae b l))(g:vU b x=some a):cZ (.ref p) x h=some a:=a6 (px e) g
def uj(e:h.get p=some (.ae a l)):xo (.ref p) h=some a:=a6 (px e) rfl
def EI(e:h.get p=some (.ah P T l))(t:fO P x=some y):dx .kJ x (.ref p) h=some (VU (bL T y)):=a6 (su e) (a6 t rfl)
def Bc(e:h.get p=some (.ae a 0)):VW (.ref p) h=some (p,.ae a 0):=a6 rfl (a6 e rfl)
def G9(e:h.get p=some (.ah P T 0)):VW (.ref p) h=some (p,.ah P T 0):=a6 rfl (a6 e rfl)
def rU(e:h.get p=some (.ah P T 0))(t:fO P w=some y)(g:eA T):nt (.ref p) w x h=some (h.a5 p (some (.ah P (cU T y x) 0))):=a6 (G9 e) (a6 t (fL g rfl))
def k4(e:h.get p=some (.ins c P))(g:n5 P):rS (.ref p) a x h=some (h.a5 p (some (.ins c (VO P a x)))):=a6 (a6 rfl (a6 e rfl)) (fL g rfl)
def Pt(e:h.get p=some (.ae a l)):dX (.ref p) h true=some (h.a5 p (some (.ae a (l+1)))):=by unfold dX;dsimp only;refine e▸?_;rfl
def U0(e:h.get p=some (.ae a (l+1))):dX (.ref p) h false=some (h.a5 p (some (.ae a l))):=by unfold dX;dsimp only;refine e▸?_;rfl
def Ft(e:h.get p=some (.ah P T l)):dX (.ref p) h true=some (h.a5 p (some (.ah P T (l+1)))):=by unfold dX;dsimp only;refine e▸?_;rfl
def HM(e:h.get p=some (.ah P T (l+1))):dX (.ref p) h false=some (h.a5 p (some (.ah P T l))):=by unfold dX;dsimp only;refine e▸?_;rfl
def zO(n:Nat.beq m gv.get=false)(e:VW a h=some (p,H)):tn gv a m h=some (p,H):=by unfold tn;exact n▸e
def hq(e:h.get p=some (.ae a 0))(f:eA a):iF gv (.ref p) 0 [x] h=some (.none,h.a5 p (some (.ae (U a [x]) 0))):=by unfold iF;rw[zO rfl (Bc e)];exact fL f rfl
def FJ(e:h.get p=some (.ae a 0))(g:d4 x h=some b)(f:eA (U a b)):iF gv (.ref p) 1 [x] h=some (.none,h.a5 p (some (.ae (U a b) 0))):=by unfold iF;rw[zO rfl (Bc e)];exact a6 g (fL f rfl)
def PM(e:h.get p=some (.ah .I T 0))(g:bL T (.i a)=some w):iF gv (.ref p) 2 [.int a] h=some (w,h.a5 p (some (.ah .I (gP T (.i a)) 0))):=by unfold iF;rw[zO rfl (G9 e)];exact a6 g rfl
def tF(e:h.get p=some (.ah P T l))(g:gA P T b=some a):iF gv (.ref p) 3 b h=some (a,h):=a6 (a6 (su e) g) rfl
def ou(g:gA P T b=some a):iF gv (.ah P T) 3 b h=some (a,h):=a6 g rfl
def fW(q:ao a ⟨A,h⟩ (.ref p) P)(e:P.get p=some (.ae f l))(u:gs G ⟨A,P⟩ c N)(i:N.get p=some (.ae H d))(g:iF gv (.ref p) (hp m) c N=some (b,t)):ao (.aC a m G) ⟨A,h⟩ b t:=kA q (K0 e) u (by rw[HJ e,HJ i];rfl) g
def q'(q:ao a ⟨A,h⟩ (.ref p) P)(e:P.get p=some (.ah d T l))(u:gs G ⟨A,P⟩ c N)(j:N.get p=some (.ah f i r))(g:iF gv (.ref p) (hp m) c N=some (b,t)):ao (.aC a m G) ⟨A,h⟩ b t:=kA q (KZ e) u (by rw[HI e,HI j];rfl) g
def fx(i:Nat)(e:a3 L i=some (some (.ins c P)))(g:au P a=some d):bM (W b L) (.ref (b.n+i)) a=some d:=iW (cw L e) g
def e9(i:Nat)(e:a3 L i=some (some (.ins c P)))(g:n5 P):rS (.ref (b.n+i)) a x (W b L)=some (W b (dT L i (some (.ins c (VO P a x))))):=(k4 (cw L e) g).trans (Wd some (gR L e))
def mX(i:Nat)(e:a3 L i=some (some (.ae c l)))(g:vU c x=some b):cZ (.ref (a.n+i)) x (W a L)=some b:=zq (cw L e) g
def FG(i:Nat)(e:a3 L i=some (some (.ae c 0)))(g:Nat.blt b (VN c)):nt (.ref (a.n+i)) (.int (.ofNat b)) x (W a L)=some (W a (dT L i (some (.ae (dT c b x) 0)))):=((a6 (Bc (cw L e)) (fL g rfl))).trans (Wd some (gR L e))
def E7(i:Nat)(e:a3 L i=some (some (.ah P T l)))(t:fO P x=some y)(g:bL T y=some b):cZ (.ref (a.n+i)) x (W a L)=some b:=lN (cw L e) t g
def tC(i:Nat)(e:a3 L i=some (some (.ah P T 0)))(t:fO P w=some y)(g:eA T):nt (.ref (a.n+i)) w x (W a L)=some (W a (dT L i (some (.ah P (cU T y x) 0)))):=(rU (cw L e) t g).trans (Wd some (gR L e))
def E8(i:Nat)(e:a3 L i=some (some (.ah P T l)))(t:fO P x=some y):dx .kJ x (.ref (a.n+i)) (W a L)=some (VU (bL T y)):=EI (cw L e) t
def pS(i:Nat)(e:a3 L i=some (some (.ae b l))):dX (.ref (a.n+i)) (W a L) true=some (W a (dT L i (some (.ae b (l+1))))):=(Pt (cw L e)).trans (Wd some (gR L e))
def pT(i:Nat)(e:a3 L i=some (some (.ae b (l+1)))):dX (.ref (a.n+i)) (W a L) false=some (W a (dT L i (some (.ae b l)))):=(U0 (cw L e)).trans (Wd some (gR L e))
def Oz(i:Nat)(e:a3 L i=some (some (.ah P T l))):dX (.ref (a.n+i)) (W a L) true=some (W a (dT L i (some (.ah P T (l+1))))):=(Ft (cw L e)).trans (Wd some (gR L e))
def OA(i:Nat)(e:a3 L i=some (some (.ah P T (l+1)))):dX (.ref (a.n+i)) (W a L) false=some (W a (dT L i (some (.ah P T l)))):=(HM (cw L e)).trans (Wd some (gR L e))
def v9(i:Nat)(D:hp m=0)(q:ao a ⟨A,h⟩ (.ref (b.n+i)) (W b L))(e:a3 L i=some (some (.ae c 0)))(p:ao d ⟨A,W b L⟩ x (W b L))(f:eA c):ao (.aC a m [d]) ⟨A,h⟩ .none (W b (dT L i (some (.ae (U c [x]) 0)))):=
 fW q (cw L e) (aq p) (cw L e) (by rw[D];exact(hq (cw L e) f).trans (Wd (λh=>some (V.none,h)) (gR L e)))
def iD:VN (U a b)=VN a+VN b:=by
 induction a with|nil=>exact(Wj _).symm|cons x r S=>exact(Wd (·+1) S).trans (X0 ..).symm
def cQ:U a b=a++b:=by
 induction a with|nil=>rfl|cons x r S=>exact Wd (x::·) S
def c5:VN a=a.length:=by
 induction a with|nil=>rfl|cons x r S=>exact Wd (·+1) S
def eG:U l []=l:=by exact cQ▸WQ l
def eJ:U (U a b) c=U a (U b c):=by rw[cQ,cQ,cQ,cQ,Xf]
def dE(h:a<b):Nat.blt a b:=Xe h
def dY(h:Nat.blt a b):a<b:=Wb h
def qO(h:a<1000):Nat.blt a b0:=dE (Wg h (Wb rfl))
def dV(h:VN l<1000):eA l:=qO h
def ly(h:VN b+(a+1)<m):VN (U b [x])+a<m:=by exact iD▸(show VN b+1+a=VN b+(a+1)by rw[Wl,Wm 1])▸h
def ho{a b m:Nat}(h:a+b<m):a<m:=Wf (Wq _ _) h
noncomputable abbrev I(n:Nat):V:=.int (.ofNat n)
abbrev bX(l:YZ):V:=.str (j l)
set_option genCtorIdx true in
inductive b' where|gW|nx|iw|dH
def hT:b'->V
 |.gW=>bX [114,101,100,117,99,101]
 |.nx=>bX [115,104,105,102,116]
 |.iw=>bX [98,97,114]
 |.dH=>bX [110,111,110,101]
def jz:b'->V
 |.dH=>.none
 |w=>hT w
def cm(f:cy)(i:Nat):S:=Zx ((f.body.drop i).headD .eD)
noncomputable def cA:S->List S
 |.b5 _ _ b=>b
 |.il _ b=>b
 |_=>[]
noncomputable def nG:S->E
 |.il e _=>e
 |_=>.lit .none
def hY:U (a.map f) (b.map f)=(U a b).map f:=by rw[cQ,cQ,XH]
def c9:VN (a.map f)=VN a:=by rw[c5,c5,WG]
def S6(l:List α):∀{i:Nat},dT (l.map f) i (f x)=(dT l i x).map f:=by
 induction l with
 |nil=>exact rfl
 |cons y r S=>exactλ{i}=>by induction i with|zero=>rfl|succ i=>exact Wd (f y::·) S
noncomputable def nS(O:Nat):Nat->Nat->YZ:=
 O.rec (λ_ _=>[]) λ_ S l a=>match Nat.beq (Nat.land l 1) 1 with
  |true=>a::S (Nat.shiftRight l 1) (a+1)
  |false=>S (Nat.shiftRight l 1) (a+1)
def J3(O:Nat):Nat->Nat->Nat:=Zx (O.rec (λ_ a=>a) λ_ S l a=>match l with
  |0=>a
  |l+1=>S (Nat.shiftRight (l+1) 1) (a+1))
def gc(m:Nat):YZ:=nS 40 m 0
def J5(f:Nat):∀{a:Nat},nS f 0 a=[]:=by
 induction f with|zero=>exact rfl|succ f S=>exact S
noncomputable def pf(O:YZ):Z:=⟨.node (some (.ae (O.map I) 0)) .nil .nil,1⟩
def pg(m a l:Nat):YS:=Zx [(13,I m),(12,.ref 0),(7,I a),(14,I l)]
def J4(f:Nat):∀{l a:Nat}{b:YZ},l<2 ^ f->VN b+f<1000->jJ (nG (cm vu 3)) (cA (cm vu 3)) ⟨pg m a l,pf b⟩ .next ⟨pg m (J3 f l a) 0,pf (U b (nS f l a))⟩:=by
 induction f with
 |zero=>intro l a b h _;rw[Nat.lt_one_iff.mp h,show nS 0 0 a=[] from rfl,eG];exact qx (bF J u rfl) rfl
 |succ f S=>
  intro l a b h d;induction l with
  |zero=>rw[J5,eG];exact qx (bF J u rfl) rfl
  |succ l=>
   have e:∀{h},bE ((cA (cm vu 3)).drop 1) ⟨pg m a (l+1),h⟩ .next ⟨pg m (a+1) (Nat.shiftRight (l+1) 1),h⟩:=λ{h}=>fD 9 λ_=>rfl;have c:∀{B},Nat.beq (Nat.land (l+1) 1) 1=B->ao (.aw .eq (.a7 .kp false (.F 14) (.lit (.int 1))) (.lit (.int 1))) ⟨pg m a (l+1),pf b⟩ (.bool B) (pf b):=λz=>z▸eK 5 λ_=>rfl;refine uC (G:=pg m (a+1) (Nat.shiftRight (l+1) 1)) (N:=pf (U b (match Nat.beq (Nat.land (l+1) 1) 1 with|true=>[a]|false=>[]))) (bF J u rfl) rfl ?_ ?_
   .generalize G:Nat.beq (Nat.land (l+1) 1) 1=N;induction N with|true=>rw[show pf (U b [a])=⟨.node (some (.ae (U (b.map I) [I a]) 0)) .nil .nil,1⟩ from Wd (λl=>(⟨.node (some (.ae l 0)) .nil .nil,1⟩:Z)) hY.symm];exact M (c1 (c G) rfl (M (de (fW (J rfl) rfl (aq J) rfl (hq rfl (dV (by rw[c9];exact ho d)))) rfl) ba)) e|false=>exact eG▸M (cX (c G) rfl) e
   .have z:=S (a:=a+1) (b:=U b (match Nat.beq (Nat.land (l+1) 1) 1 with|true=>[a]|false=>[])) ((by
      refine(?_:(l+1)>>>1<_);rw[Nat.shiftRight_eq_div_pow];exact Nat.div_lt_of_lt_mul (by rw[Nat.pow_succ,Nat.mul_comm] at h;exact h))) (by
     generalize Nat.beq (Nat.land (l+1) 1) 1=N;induction N with|true=>exact ly d|false=>exact eG▸WE d)
    rw[eJ] at z;rw[show nS (f+1) (l+1) a=U (match Nat.beq (Nat.land (l+1) 1) 1 with|true=>[a]|false=>[]) (nS f (Nat.shiftRight (l+1) 1) (a+1)) from by
     show(match Nat.beq (Nat.land (l+1) 1) 1 with|true=>a::nS f (Nat.shiftRight (l+1) 1) (a+1)|false=>nS f (Nat.shiftRight (l+1) 1) (a+1))=_
     cases Nat.beq (Nat.land (l+1) 1) 1<;>rfl]
    exact z
def U4{O:YZ}:fY (ct (a+1) h) (O.map I)=some (O.map I):=by
 induction O with|nil=>rfl|cons i r S=>exact a6 rfl (a6 S rfl)
def u9{O:YZ}:dQ (cg (a+1)) (O.map I):=by
 induction O with|nil=>rfl|cons i r S=>exact S
def qu(e:h.get p=some (.ae b l))(g:fY (ct a h) b=some d):ct (a+1) h (.ref p)=some (.ae d):=by
 refine(?_:(match h.get p with|some (O.ae b _)=>Y (fY (ct a h) b) λl=>some (V.ae l)|some (O.ah f T _)=>Y (gU (ct a h) T) λl=>some (V.ah f l)|some (O.ins c P)=>Y (gg (ct a h) P) λl=>some (V.ins c false l)|none=>none)=_)
 exact e▸a6 g rfl
def yE(D:m<2 ^ 40):aY .pure 6 [I m] h (.ae ((gc m).map I)) h:=
 kr rfl rfl rfl rfl (nJ 3 (fD 9 λ_=>rfl:bE _ _ _ ⟨pg m 0 m,pf []⟩) (M (oJ (J4 40 D (Wb rfl))) (bG (cb J)))) (qu rfl U4) u9
def l'(a t:Nat)(G:V)(q b:Nat):YS:=Zx [(33,G),(22,I q),(45,.ref (a+1)),(37,.ref (a+2)),(48,.ref (a+3)),(51,I b),(39,.ref t)]
def nA:V:=bX [115,104,105,102,116,47,114,101,100,117,99,101]
def eH(q r:Nat)(c:Nat×Int):V:=.ins 6 false [(25,I q),(26,I c.1),(30,nA),(31,.ay [I r]),(32,.int c.2)]
abbrev lh:Int:=Zx (-1048576)
noncomputable def D(l:YW):YT:=l.map λx=>(.i (.ofNat x.1),I x.2)
def sC(O:YW):Nat->YW:=
 O.rec (λ_=>[]) λm r S n=>match Nat.beq m.1 n with
  |true=>r
  |false=>m::S n
structure hB where
 aa:YW
 m:Nat
 b:Nat
 dR:List (Nat×Int)
def AF(m t:Nat):Nat:=Zx (m-Nat.land m (Nat.shiftLeft 1 t))
def xt(r t g:Nat)(w:b')(x:hB):hB:=match w with
 |.dH=>x
 |.gW=>⟨sC x.aa t,x.m,x.b,U x.dR [(t,-(.ofNat r))]⟩
 |.nx=>⟨x.aa,AF x.m t,x.b,U x.dR [(t,.ofNat g)]⟩
 |.iw=>⟨sC x.aa t,AF x.m t,Nat.lor x.b (Nat.shiftLeft 1 t),U x.dR [(t,lh)]⟩
def lj:bL (D l) (.i (.ofNat a))=(au l a).map I:=by
 induction l with
 |nil=>rfl
 |cons x r S=>
  show(match Nat.beq x.1 a with|true=>some (I x.2)|false=>bL (D r) (.i (.ofNat a)))=(match Nat.beq x.1 a with|true=>some x.2|false=>au r a).map I
  generalize Nat.beq x.1 a=N;induction N with|true=>rfl|false=>exact S
def Ic:gP (D l) (.i (.ofNat a))=D (sC l a):=by
 induction l with
 |nil=>rfl
 |cons x r S=>
  show(match Nat.beq x.1 a with|true=>D r|false=>(aE.i (.ofNat x.1),I x.2)::gP (D r) (.i (.ofNat a)))=D (match Nat.beq x.1 a with|true=>r|false=>x::sC r a)
  generalize Nat.beq x.1 a=N;induction N with|true=>rfl|false=>exact Wd (_::·) S
def A8(e:t<=64):mB .jx false (.int 1) (I t) h=some (I (Nat.shiftLeft 1 t),h):=by refine(?_:Y (bS (Nat.ble t 64) _) _=_);refine(Xe e)▸?_;rfl
def N8:xJ .ag (I x) h=some (.int (.negSucc x)):=Wd (λi=>some (V.int i)) (by rw[Yb,Int.neg_add];rfl)
def dm(F:Z)(G:V)(q r l:Nat)(Q:YW)(x:hB):List (Ze O):=
 [some (.ins 8 (l' F.n (F.n+5) G q x.b)),some (.ah .I (D x.aa) 0),some (.ah .I (D Q) 0),some (.ae [.ref (F.n+4)] l),some (.ae [I r,I x.m] 0),some (.ae (x.dR.map (eH q r)) 0)]
def FU:aY .ef 6 [I q,I t,nA,.ay [I r],.int a] h (eH q r (t,a)) h:=fo 9 λ_=>rfl
def S'(T:au x.aa t=some g)(k:t<=64)(j:VN x.dR<1000)(y:w≠.dH):aY .inl 28 [.ref e.n,.ref (e.n+4),I t,jz w] (W e (dm e G q r l Q x)) .none (W e (dm e G q r l Q (xt r t g w x))):=by
 have T:=lj.trans (Wd _ T);have j:eA (x.dR.map (eH q r)):=dV (by rw[c9];exact j)
 have S:∀{L:List (Ze O)}{A:YS}{n:Int}{b m:Nat},a3 L 0=some (some (.ins 8 (l' e.n (e.n+5) G q b)))->a3 L 4=some (some (.ae [I r,I m] 0))->a3 L 5=some (some (.ae (x.dR.map (eH q r)) 0))->au A 6=some (.ref e.n)->au A 26=some (I t)->au A 52=some (.ref (e.n+4))->au A 32=some (.int n)->
   bE [cm y9 5] ⟨A,W e L⟩ .next ⟨A,W e (dT L 5 (some (.ae ((U x.dR [(t,n)]).map (eH q r)) 0)))⟩:=λ{L}{A}{n}{b}{m} B p v a R c d=>by
  rw[<-hY];exact M (de (v9 5 rfl (a9 (J a) (fx 0 B rfl)) v (iA (aI (a9 (J a) (fx 0 B rfl)) (aI (J R) (aI u (aI (d7 (aq (bw (J c) u (mX 4 p rfl)))) (aq (J d)))))) FU) j) rfl) ba
 have o:∀{L:List (Ze O)}{A:YS}{b:Nat},a3 L 0=some (some (.ins 8 (l' e.n (e.n+5) G q b)))->a3 L 1=some (some (.ah .I (D x.aa) 0))->au A 6=some (.ref e.n)->au A 26=some (I t)->
   bE [.expr (.aC (.aS (.F 6) 45) 8194 [(.F 26)])] ⟨A,W e L⟩ .next ⟨A,W e (dT L 1 (some (.ah .I (D (sC x.aa t)) 0)))⟩:=λB f a b=>
  M (de (q' (a9 (J a) (fx 0 B rfl)) (cw _ f) (aq (J b)) (cw _ f) ((PM (cw _ f) T).trans (Wd (λh=>some (I g,h)) (Ic▸gR _ f)))) rfl) ba
 have s:∀{L:List (Ze O)}{A:YS},a3 L 4=some (some (.ae [I r,I x.m] 0))->au A 52=some (.ref (e.n+4))->au A 26=some (I t)->
   bE [.bY (.sub (.F 52) (.lit (.int 1))) (.a7 .kp false (.sub (.F 52) (.lit (.int 1))) (.c6 .ag (.a7 .jx false (.lit (.int 1)) (.F 26))))] ⟨A,W e L⟩ .next ⟨A,W e (dT L 4 (some (.ae [I r,I (AF x.m t)] 0)))⟩:=λp a b=>
  M (jw (cV (bw (J a) u (mX 4 p rfl)) (hI (cV u (J b) (A8 k)) N8) rfl) (J a) u (FG 4 p rfl)) ba
 have i:cF (cm y9 0) ⟨[(6,.ref e.n),(52,.ref (e.n+4)),(26,I t),(30,jz w)],W e (dm e G q r l Q x)⟩ .next ⟨[(6,.ref e.n),(52,.ref (e.n+4)),(26,I t),(30,jz w),(32,I g)],W e (dm e G q r l Q x)⟩:=dk (bw (a9 J (fx 0 rfl rfl)) J (E7 1 rfl rfl T));induction w with|dH=>exact absurd rfl y|gW=>exact gM rfl rfl (M i (M (c1 (eK 3 λ_=>rfl) rfl (M (dk (hI (bw J u (mX 4 rfl rfl)) rfl)) ba)) (nJ 2 (fD 9 λ_=>rfl) (M (c1 (eK 3 λ_=>rfl) rfl (o rfl rfl rfl rfl)) (S rfl rfl rfl rfl rfl rfl rfl)))))|nx=>exact gM rfl rfl (M i (nJ 2 (fD 9 λ_=>rfl) (M (c1 (eK 3 λ_=>rfl) rfl (s rfl rfl rfl)) (M (cX (eK 3 λ_=>rfl) rfl) (S rfl rfl rfl rfl rfl rfl rfl)))))|iw=>exact gM rfl rfl (M i (M (cX (eK 3 λ_=>rfl) rfl) (M (c1 (eK 3 λ_=>rfl) rfl (M (dk h4) (M (fa (cV (a9 J (fx 0 rfl rfl)) (cV u J (A8 k)) rfl) J (e9 0 rfl rfl)) ba))) (M (c1 (eK 3 λ_=>rfl) rfl (s rfl rfl rfl)) (M (c1 (eK 3 λ_=>rfl) rfl (o rfl rfl rfl rfl)) (S rfl rfl rfl rfl rfl rfl rfl))))))
def Bg(r:Nat)(w:Nat->b')(t:Nat)(x:hB):hB:=match au x.aa t with
 |some g=>xt r t g (w t) x
 |none=>x
def sU(r:Nat)(w:Nat->b')(O:YZ):hB->hB:=
 O.rec (λx=>x) λt _ S x=>S (Bg r w t x)
abbrev wj(F:Z):YS:=Zx [(6,.ref F.n),(52,.ref (F.n+4))]
def OZ(h:VN x.dR+(a+1)<m):VN (xt r t g w x).dR+a<m:=by
 induction w with|dH=>exact WE h|_=>exact ly h
def Tc{w:Nat->b'}(d:YZ):∀{x:hB},(∀c∈d,c<=64/\∀h,aY .inl 25 [G,I r,I c] h (jz (w c)) h)->VN x.dR+d.length<1000->
  cS [26] (cA ((cA (cm y8 0)).headD .eD)) (d.map I) ⟨wj a,W a (dm a G q r 1 Q x)⟩ .next ⟨wj a,W a (dm a G q r 1 Q (sU r w d x))⟩:=by
 induction d with
 |nil=>exactλ_ _=>dq
 |cons t d S=>
  intro x X L;have V:=X t (.head _);have A:=λm D=>X m (.tail _ D);have f:dx .kJ (I t) (.ref (a.n+1)) (W a (dm a G q r 1 Q x))=some (VU ((au x.aa t).map I)):=(E8 1 rfl rfl).trans (Wd (λo=>some (VU o)) lj);have B:ao (.aw .kJ (.F 26) (.aS (.F 6) 45)) ⟨[(6,.ref a.n),(52,.ref (a.n+4)),(26,I t),(30,.none)],W a (dm a G q r 1 Q x)⟩ (.bool (VU ((au x.aa t).map I))) (W a (dm a G q r 1 Q x)):=bF J (a9 J (fx 0 rfl rfl)) f;refine(?_:cS _ _ (I t::d.map I) _ _ ⟨_,W a (dm a G q r 1 Q (sU r w d (Bg r w t x)))⟩);unfold Bg;generalize T:au x.aa t=N;induction N with
  |none=>rw[T] at B;exact vw rfl (M (k5 3 λ_=>rfl) (M (cX B rfl) (fD 9 λ_=>rfl))) (S A (WE L))
  |some g=>
   rw[T] at B;have e:ao (.call .inl 25 [.aS (.F 6) 33,.sub (.F 52) (.lit (.int 0)),.F 26]) ⟨[(6,.ref a.n),(52,.ref (a.n+4)),(26,I t),(30,.none)],W a (dm a G q r 1 Q x)⟩ (jz (w t)) (W a (dm a G q r 1 Q x)):=c7 (aI (a9 J (fx 0 rfl rfl)) (aI (bw J u (mX 4 rfl rfl)) (aq J))) (V.2 _);have v:w t≠.dH->iC (jz (w t))=false->cS [26] (cA ((cA (cm y8 0)).headD .eD)) (I t::d.map I) ⟨wj a,W a (dm a G q r 1 Q x)⟩ .next ⟨wj a,W a (dm a G q r 1 Q (sU r w d (xt r t g (w t) x)))⟩:=λj i=>vw rfl (M (k5 3 λ_=>rfl) (M (c1 B rfl (M (dk e) ba)) (M (c1 (bF (c:=.mW) (B:=true) (x:=jz (w t)) (y:=.none) J u (Wd (λb=>some (!b)) i)) rfl (M (de (fH J (ku (cw (i:=0) _ rfl)) (kE (cw (i:=0) _ rfl) rfl) rfl rfl rfl (aI J (aI J (aq J))) (S' T V.1 (ho L) j)) rfl) ba)) ba))) (S A (OZ L));generalize k:w t=N;induction N with
   |dH=>rw[k] at e;exact vw rfl (M (k5 3 λ_=>rfl) (M (c1 B rfl (M (dk e) ba)) (fD 9 λ_=>rfl))) (S A (WE L))
   |_=>exact k▸v (by exact k▸λz=>nomatch z) (by refine k▸?_;rfl)
def rT(f:Nat->Int)(O:YZ):Y1->Y1:=
 O.rec (λr=>r) λt _ S r=>S (dT r t (f t))
def Ff(l:List α):∀{i:Nat}{x:α},VN (dT l i x)=VN l:=by
 induction l with
 |nil=>exact rfl
 |cons y r S=>exactλ{i}{x}=>by induction i with|zero=>rfl|succ i=>exact Wd (·+1) S
def oo(c:YZ):∀{r:Y1},VN (rT f c r)=VN r:=by
 induction c with|nil=>exact rfl|cons t c S=>exact S.trans (Ff _)
def i3(a:Nat):Y1:=j6 [0] a
def Sn:j6 [V.int 0] a=(i3 a).map .int:=by
 induction a with|zero=>rfl|succ n S=>exact Wd (V.int 0::·) S
def qi:VN (i3 a)=a:=by
 induction a with|zero=>rfl|succ n S=>exact Wd (·+1) S
def xj(E:YW)(t:Nat):Int:=match au E t with
 |some g=>.ofNat g
 |none=>0
def k1(x:hB)(r:Y1):Y1:=rT (λ_=>lh) (gc x.b) (rT (xj x.aa) (x.aa.map (·.1)) r)
def kZ(r a:Nat)(x:hB):Y1:=k1 x (rT (λ_=>-(.ofNat r)) (gc x.m) (i3 a))
def HW{l:Y1}:fY (ct (a+1) h) (l.map .int)=some (l.map .int):=by
 induction l with|nil=>rfl|cons i r S=>exact a6 rfl (a6 S rfl)
abbrev oG(a:Y1):Ze O:=Zx (some (.ae (a.map .int) 0))
def sX(e:h.get p=some (.ae a 0))(g:fY (ct 11 Z.bj) a=some a):sW (.ref p) h=some (.ae a,h.a5 p none):=by
 refine(?_:(match h.get p with|some (O.ae a 0)=>Y (fY (ct 11 Z.bj) a) λl=>some (V.ae l,h.hk p)|some (O.ah k T 0)=>Y (gU (ct 11 Z.bj) T) λl=>some (V.ah k l,h.hk p)|_=>none)=_)
 exact e▸a6 g rfl
def A7{R:Y1->List (Ze O)}(j:∀a,au (U A [(26,I a)]) 54=some (.ref (c.n+i)))(g:∀a,au (U A [(26,I a)]) 26=some (I a))(G:∀a h,hH [26] (I a) ⟨A,h⟩=some ⟨U A [(26,I a)],h⟩)(V:∀a,i8 A (U A [(26,I a)])=A)(Q:∀x,a3 (R x) i=some (oG x))(k:∀x y,dT (R x) i (oG y)=R y)
  (d:YZ):∀{b:Y1},(∀a∈d,a<VN b)->(∀a∈d,∀b,ao e ⟨U A [(26,I a)],W c (R b)⟩ (.int (f a)) (W c (R b)))->
  cS [26] [.bY (.sub (.F 54) (.F 26)) e] (d.map I) ⟨A,W c (R b)⟩ .next ⟨A,W c (R (rT f d b))⟩:=by
 induction d with
 |nil=>exactλ_ _=>dq
 |cons a d S=>
  intro b X H;refine cW (G a _) (M (jw (H a (.head _) b) (J (j a)) (J (g a)) ((FG i (Q b) (by rw[c9];exact dE (X a (.head _)))).trans ?_)) ba) (V a) (S (λm D=>by rw[Ff];exact X m (.tail _ D)) λm D=>H m (.tail _ D))
  rw[S6,k]
def zS:ib (D l)=(l.map (·.1)).map I:=by
 induction l with|nil=>rfl|cons x r S=>exact Wd (I x.1::·) S
def z4{l:YW}(h:a∈l.map (·.1)):∃g,au l a=some g:=by
 induction l with
 |nil=>exact es h
 |cons x r S=>
  show∃g,(match Nat.beq x.1 a with|true=>some x.2|false=>au r a)=some g
  generalize G:Nat.beq x.1 a=N;induction N with
  |true=>exact⟨_,rfl⟩
  |false=>cases h with
   |head=>exact absurd (WA x.1) (by exact G▸nofun)
   |tail _ h=>exact S h
def jH(F:Z)(G:V)(q l:Nat)(Q:YW)(x:hB):List (Ze O):=Zx [some (.ins 8 (l' F.n (F.n+4) G q x.b)),some (.ah .I (D x.aa) 0),some (.ah .I (D Q) 0),some (.ae [] l),some (.ae [] 0)]
def GQ{T:Nat->List (Ze O)}(k:Nat)(E:∀l y,a3 (U (T l) [y]) 0=some (some (.ins 8 P)))(vt:au P 45=some (.ref (b.n+1)))(n:au P 51=some (I x.b))(d:∀l y,a3 (U (T l) [y]) 1=some (some (.ah .I (D x.aa) l)))(j:∀l m y,dT (U (T l) [y]) 1 (some (.ah .I (D x.aa) m))=U (T m) [y])
  (R:∀l y,a3 (U (T l) [y]) k=some y)(f:∀l y z,dT (U (T l) [y]) k z=U (T l) [z])(o:∀c∈x.aa.map (·.1),c<VN row)(N:∀c∈gc x.b,c<VN row)(G:x.b<2 ^ 40):
  bE (y'.body.drop 2) ⟨[(6,.ref b.n),(54,.ref (b.n+k))],W b (U (T 0) [oG row])⟩ (.ret (.ae ((k1 x row).map .int))) ⟨[(6,.ref b.n),(54,.ref (b.n+k))],W b (U (T 0) [none])⟩:=by
 have i:∀{A:YS}{l a:Nat}{y:Ze O}{v:V},au A 6=some (.ref b.n)->au P a=some v->ao (.aS (.F 6) a) ⟨A,W b (U (T l) [y])⟩ v (W b (U (T l) [y])):=λe g=>a9 (J e) (fx 0 (E _ _) g);have K:=A7 (A:=[(6,.ref b.n),(54,.ref (b.n+k))]) (e:=.sub (.aS (.F 6) 45) (.F 26)) (f:=xj x.aa) (R:=λz=>U (T 1) [oG z]) (λ_=>rfl) (λ_=>rfl) (λ_ _=>rfl) (λ_=>rfl) (λ_=>R _ _) (λ_ _=>f _ _ _) (x.aa.map (·.1)) o λc X z=>by refine bw (i rfl vt) J (E7 1 (d _ _) rfl ?_);rw[lj];unfold xj;exact(z4 X).elim λg e=>by rw[e];rfl
 refine M (da (c8 (i rfl vt) ((a6 (su (cw _ (d 0 _))) rfl).trans (Wd some zS))) ((Oz 1 (d 0 _)).trans (by rw[j])) K ((OA 1 (d 1 _)).trans (by rw[j]))) ?_
 exact M (da (c8 (c7 (aq (i rfl n)) (yE G)) rfl) rfl (A7 (c:=b) (i:=k) (A:=[(6,.ref b.n),(54,.ref (b.n+k))]) (e:=.d8 (.int (-1048576))) (f:=λ_=>lh) (R:=λz=>U (T 0) [oG z]) (λ_=>rfl) (λ_=>rfl) (λ_ _=>rfl) (λ_=>rfl) (λ_=>R _ _) (λ_ _=>f ..) (gc x.b) (b:=rT (xj x.aa) (x.aa.map (·.1)) row) (λc X=>by rw[oo];exact N c X) λc X z=>h4) rfl) (bG (cb (mI J ((sX (cw _ (R 0 _)) HW).trans (Wd (λh=>some (_,h)) ((gR _ (R 0 _)).trans (by rw[f])))))))
def GP(v:∀h,bM h G 16=some (I a))(c:a<1000)(e:au A 6=some (.ref p))(b:h.get p=some (.ins 8 P))(g:au P 33=some G):cF (cm y' 0) ⟨A,h⟩ .next ⟨VO A 54 (.ref h.n),h.new (.ae ((i3 a).map .int) 0)⟩:=by
 refine cI (s6 (fq (aq u)) (a9 (a9 (J e) (iW b g)) (v _)) ?_);refine(?_:Y (bS (Nat.blt a b0) (some (j6 [V.int 0] a))) _=_);rw[qO c,Sn]
 rfl
def Sp(v:∀h,bM h G 16=some (I b))(V:b<1000)(P:∀c∈x.aa.map (·.1),c<b)(N:∀c∈gc x.b,c<b)(d:x.b<2 ^ 40)(t:∀c∈gc x.m,c<b)(e:x.m<2 ^ 40):
  aY .inl 29 [.ref a.n] (W a (dm a G q r 0 Q x)) (.ae ((kZ r b x).map .int)) (W a (U (dm a G q r 0 Q x) [none])):=by
 exact cH rfl rfl (M (a:=⟨[(6,.ref a.n),(54,.ref (a.n+6))],W a (U (dm a G q r 0 Q x) [oG (i3 b)])⟩) (GP (p:=a.n) v V rfl (cw (i:=0) _ rfl) rfl) (M (da (EG (a9 J (fx 0 rfl rfl)) (lW (cw (i:=3) _ rfl))) (pS 3 rfl) (cW rfl (M (da (c8 (c7 (aq (bw J u (mX 4 rfl rfl))) (yE e)) rfl) rfl (A7 (c:=a) (A:=[(6,.ref a.n),(54,.ref (a.n+6)),(52,.ref (a.n+4))]) (e:=.c6 .neg (.sub (.F 52) (.lit (.int 0)))) (R:=λz=>U (dm a G q r 1 Q x) [oG z]) (λ_=>rfl) (λ_=>rfl) (λ_ _=>rfl) (λ_=>rfl) (λ_=>rfl) (λ_ _=>rfl) (gc x.m) (b:=i3 b) (by rw[qi];exact t) λc X z=>hI (bw J u (mX 4 rfl rfl)) rfl) rfl) ba) rfl dq) (pT 3 rfl))
  (GQ (x:=x) (T:=λl=>dT (dm a G q r 0 Q x) 1 (some (.ah .I (D x.aa) l))) 6 (λ_ _=>rfl) rfl rfl (λ_ _=>rfl) (λ_ _ _=>rfl) (λ_ _=>rfl) (λ_ _ _=>rfl) (by rw[oo,qi];exact P) (by rw[oo,qi];exact N) d)))
def So(v:∀h,bM h G 16=some (I b))(V:b<1000)(P:∀c∈x.aa.map (·.1),c<b)(N:∀c∈gc x.b,c<b)(d:x.b<2 ^ 40):
  aY .inl 29 [.ref a.n] (W a (jH a G q 0 Q x)) (.ae ((k1 x (i3 b)).map .int)) (W a (U (jH a G q 0 Q x) [none])):=
 cH rfl rfl (M (a:=⟨[(6,.ref a.n),(54,.ref (a.n+5))],W a (U (jH a G q 0 Q x) [oG (i3 b)])⟩) (GP v V rfl (cw (i:=0) _ rfl) rfl) (M (da (EG (a9 J (fx 0 rfl rfl)) (lW (cw _ rfl))) (pS 3 rfl) dq (pT 3 rfl))
  (GQ (T:=λl=>dT (jH a G q 0 Q x) 1 (some (.ah .I (D x.aa) l))) 5 (λ_ _=>rfl) rfl rfl (λ_ _=>rfl) (λ_ _ _=>rfl) (λ_ _=>rfl) (λ_ _ _=>rfl) (by exact qi▸P) (by exact qi▸N) d)))
def ro(m t:Nat):Bool:=Zx (wF (.ofNat (Nat.land m (Nat.shiftLeft 1 t))))
def n3(m:Nat)(E:YW)(b:Y1)(t:Nat):List (Nat×Int):=match ro m t&&VU (au E t)with
 |true=>match a3 b t with
  |some i=>[(t,i)]
  |none=>[]
 |false=>[]
def CM(h:ro m t=false\/au a t=none):n3 m a row t=[]:=by
 unfold n3;induction h with
 |inl h=>refine h▸?_;rfl
 |inr h=>refine h▸?_;cases ro m t<;>rfl
def Li(h:ro m t)(k:au a t=some g)(e:a3 row t=some i):n3 m a row t=[(t,i)]:=by unfold n3;refine h▸k▸e▸?_;rfl
def qY(m:Nat)(E:YW)(b:Y1)(O:YZ):List (Nat×Int):=
 O.rec [] λt _ S=>U (n3 m E b t) S
def m7(l:List α):∀{i:Nat},i<VN l->∃a,a3 l i=some a:=by
 induction l with
 |nil=>exactλh=>absurd h (Xv _)
 |cons x r S=>exactλ{i} h=>by induction i with|zero=>exact⟨x,rfl⟩|succ i=>exact S (Xl h)
def kU(l:List α):∀{i:Nat},a3 (l.map f) i=(a3 l i).map f:=by
 induction l with
 |nil=>exact rfl
 |cons x r S=>exactλ{i}=>by induction i with|zero=>rfl|succ i=>exact S
def jq(T:d<VN a)(e:a3 a d=some b):cZ (.ae a) (I d) h=some b:=by
 refine(?_:Y (match Nat.blt d (VN a)with|true=>some d|false=>none) (a3 a)=_)
 exact(dE T)▸e
def U5{l:List (Nat×Int)}:fY (ct (a+1) h) (l.map (eH q r))=some (l.map (eH q r)):=by
 induction l with|nil=>rfl|cons i r S=>exact a6 rfl (a6 S rfl)
abbrev gL(q r:Nat)(a:List (Nat×Int)):Ze O:=some (.ae (a.map (eH q r)) 0)
abbrev sy:List S:=cA (cm Dq 1)
abbrev iy(F:Z)(k:Nat)(b:Y1):YS:=Zx [(6,.ref F.n),(54,.ae (b.map .int)),(12,.ref (F.n+k))]
section
variable{F:Z}{G:V}{q r a:Nat}{Q:YW}{x:hB}{b:Y1}
def Lg(a:YZ):∀{c:List (Nat×Int)},(∀d∈a,d<VN b/\d<=64)->VN c+a.length<1000->
  cS [26] sy (a.map I) ⟨iy F 7 b,W F (U (dm F G q r 0 Q x) [none,gL q r c])⟩ .next ⟨iy F 7 b,W F (U (dm F G q r 0 Q x) [none,gL q r (U c (qY x.m x.aa b a))])⟩:=by
 induction a with
 |nil=>exactλ{c} _ _=>by rw[show qY x.m x.aa b []=[] from rfl,eG];exact dq
 |cons t a n=>
  intro c X f;have j:=X t (.head _);have z:=n (c:=U c (n3 x.m x.aa b t)) (λm D=>X m (.tail _ D)) (by
   unfold n3;cases ro x.m t&&VU (au x.aa t)with
   |false=>rw[eG];exact WE f
   |true=>cases a3 b t with
    |none=>rw[eG];exact WE f
    |some i=>exact ly f)
  rw[eJ] at z;have S:∀{h:YU}{E:List (Nat×Int)},U c (n3 x.m x.aa b t)=E->bE sy ⟨U (iy F 7 b) [(26,I t)],W F (U (dm F G q r 0 Q x) [none,gL q r c])⟩ .next ⟨U (iy F 7 b) [(26,I t),(31,.ae h)],W F (U (dm F G q r 0 Q x) [none,gL q r E])⟩->
    cS [26] sy ((t::a).map I) ⟨iy F 7 b,W F (U (dm F G q r 0 Q x) [none,gL q r c])⟩ .next ⟨iy F 7 b,W F (U (dm F G q r 0 Q x) [none,gL q r (U c (qY x.m x.aa b (t::a)))])⟩:=λe p=>cW rfl p rfl (e▸z)
  have L:∀{h:YU}{H:Z},H=W F (U (dm F G q r 1 Q x) [none,gL q r c])->eT [52] (.sub (.F 52) (.lit (.int 0))) (some (.a7 .kp false (.sub (.F 52) (.lit (.int 1))) (.a7 .jx false (.lit (.int 1)) (.F 26)))) (U (iy F 7 b) [(26,I t)]) [.ref (F.n+4)] H h H->
    cF (sy.headD .eD) ⟨U (iy F 7 b) [(26,I t)],W F (U (dm F G q r 0 Q x) [none,gL q r c])⟩ .next ⟨U (iy F 7 b) [(26,I t),(31,.ae h)],W F (U (dm F G q r 0 Q x) [none,gL q r c])⟩:=λe m=>
   cI (s7 (c8 (a9 J (fx 0 rfl rfl)) (uj (cw _ rfl))) rfl (pS 3 rfl) (e▸m) (pT 3 rfl))
  have l:ao (.a7 .kp false (.sub (.F 52) (.lit (.int 1))) (.a7 .jx false (.lit (.int 1)) (.F 26))) ⟨U (iy F 7 b) [(26,I t),(52,.ref (F.n+4))],W F (U (dm F G q r 1 Q x) [none,gL q r c])⟩ (I (Nat.land x.m (Nat.shiftLeft 1 t))) (W F (U (dm F G q r 1 Q x) [none,gL q r c])):=cV (bw J u (mX 4 rfl rfl)) (cV u J (A8 j.2)) rfl;cases dN:ro x.m t with
  |false=>exact S ((Wd _ (CM (.inl dN))).trans eG) (M (L rfl (Ab rfl l (Wd some dN) gD)) (fD 9 λ_=>rfl))
  |true=>
   have y:=L rfl (Ac rfl l (Wd some dN) (bw J u (mX 4 rfl rfl)) gD);have k:∀{o},au x.aa t=o->ao (.bool true [.F 31,.aw .kJ (.F 26) (.aS (.F 6) 45)]) ⟨U (iy F 7 b) [(26,I t),(31,.ae [I r])],W F (U (dm F G q r 0 Q x) [none,gL q r c])⟩ (.bool (VU (o.map I))) (W F (U (dm F G q r 0 Q x) [none,gL q r c])):=λe=>fV (jN J rfl (hZ (bF J (a9 J (fx 0 rfl rfl)) ((E8 1 rfl rfl).trans (Wd (λo=>some (VU o)) (e▸lj))))))
   cases bC:au x.aa t with
   |none=>exact S ((Wd _ (CM (.inr bC))).trans eG) (M y (M (cX (k bC) rfl) (fD 9 λ_=>rfl)))
   |some g=>
    refine(m7 b j.1).elim λi A=>S (h:=[I r]) (Wd _ (Li dN bC A)) (M y (M (c1 (k bC) rfl (M (de (v9 7 rfl J rfl (iA (aI (a9 J (fx 0 rfl rfl)) (aI J (aI u (aI (d3 (aq J) rfl) (aq (bw J J (jq (by rw[c9];exact j.1) ((kU b).trans (Wd (Option.map V.int) A))))))))) FU) (dV (by rw[c9];exact ho f))) rfl) ba)) ?_))
    refine(?_:bE _ ⟨_,W F (U (dm F G q r 0 Q x) [none,some (.ae (U (c.map (eH q r)) ([(t,i)].map (eH q r))) 0)])⟩ _ _);rw[hY];exact fD 9 λ_=>rfl
def Lf(v:∀h,bM h G 16=some (I a))(V:a<900)(e:i0 0 a=c.map I)(f:c.length<900)(X:∀d∈c,d<VN b/\d<=64):
  aY .inl 30 [.ref F.n,.ae (b.map .int)] (W F (U (dm F G q r 0 Q x) [none])) (.ae ((qY x.m x.aa b c).map (eH q r))) (W F (U (dm F G q r 0 Q x) [none,none])):=
 cH rfl rfl (M (a:=⟨iy F 7 b,W F (U (dm F G q r 0 Q x) [none,gL q r []])⟩) (cI (h5 du)) (M (da (e▸kH (a9 (a9 J (fx 0 rfl rfl)) (v _)) (qO (Wg V (Wb rfl)))) rfl (Lg c X (by rw[show VN ([]:List (Nat×Int))=0 from rfl,Wj];exact Wg f (Wb rfl))) rfl)
  (bG (cb (mI J ((sX (cw _ rfl) U5).trans (Wd (λh=>some (_,h)) (gR _ rfl))))))))
def Lh(c:YZ):cS [26] sy (c.map I) ⟨iy F 6 b,W F (U (jH F G q 0 Q x) [none,some (.ae [] 0)])⟩ .next ⟨iy F 6 b,W F (U (jH F G q 0 Q x) [none,some (.ae [] 0)])⟩:=by
 induction c with|nil=>exact dq|cons t c S=>exact cW rfl (M (cI (s7 (c8 (a9 J (fx 0 rfl rfl)) (uj (cw _ rfl))) rfl (pS 3 rfl) gD (pT 3 rfl))) (fD 9 λ_=>rfl)) rfl S
def Le(v:∀h,bM h G 16=some (I a))(V:a<900){c:YZ}(d:i0 0 a=c.map I):
  aY .inl 30 [.ref F.n,.ae (b.map .int)] (W F (U (jH F G q 0 Q x) [none])) (.ae []) (W F (U (jH F G q 0 Q x) [none,none])):=
 cH rfl rfl (M (a:=⟨iy F 6 b,W F (U (jH F G q 0 Q x) [none,some (.ae [] 0)])⟩) (cI (h5 du)) (M (da (d▸kH (a9 (a9 J (fx 0 rfl rfl)) (v _)) (qO (Wg V (Wb rfl)))) rfl (Lh c) rfl)
  (bG (cb (mI J ((sX (cw _ rfl) rfl).trans (Wd (λh=>some (_,h)) (gR _ rfl))))))))
end
def xO(r:Nat)(l:Y1):Y1:=Zx (l.map λi=>match dr i (-(.ofNat r))with|true=>0|false=>i)
def Vv(f:VN row<1000):aY .inl 32 [.ae (row.map .int),I r] h (.ae ((xO r row).map .int)) h:=by
 have v:∀O:Y1,eT [22] (.ite (.aw .eq (.F 22) (.c6 .neg (.F 24))) (.lit (.int 0)) (.F 22)) none [(54,.ae (row.map .int)),(24,I r)] (O.map .int) h ((xO r O).map .int) h:=λO=>by
  induction O with
  |nil=>exact gD
  |cons i O S=>
   have c:∀{B},dr i (-(.ofNat r))=B->ao (.aw .eq (.F 22) (.c6 .neg (.F 24))) ⟨[(54,.ae (row.map .int)),(24,I r),(22,.int i)],h⟩ (.bool B) h:=λe=>e▸eK 5 λ_=>rfl;show eT _ _ _ _ (.int i::O.map .int) _ (.int (match dr i (-(.ofNat r))with|true=>0|false=>i)::(xO r O).map .int) _
   generalize G:dr i (-(.ofNat r))=N;induction N with|true=>exact fX rfl (lG (c G) rfl u) S|false=>exact fX rfl (jS (c G) rfl J) S
 exact cH rfl rfl (bG (cb (h3 (c8 J rfl) (dV (by rw[c9];exact f)) rfl (v row) rfl)))
def kn(l:YZ):V:=Zx (.ay (l.map I))
def iK(n:Nat)(s:YZ)(g:Int)(T:YZ)(A:YW)(m:YZ):V:=Zx (.ins 19 false [(22,I n),(128,kn s),(46,.int g),(129,.ae (T.map I)),(47,.ah .I (D A)),(49,.ae (m.map I))])
def nv(a:Nat)(O:YW):YW->YW:=
 O.rec (λd=>d) λx _ S d=>match Nat.beq x.1 0 with
  |true=>S (VO d x.1 1048576)
  |false=>match Nat.blt x.1 a with
   |true=>S (VO d x.1 x.2)
   |false=>S d
def eV(a:Nat)(O:YW):YW->YW:=
 O.rec (λd=>d) λx _ S d=>match Nat.beq x.1 0 with
  |true=>S d
  |false=>match Nat.blt x.1 a with
   |true=>S d
   |false=>S (VO d x.1 x.2)
def uE:cU (D l) (.i (.ofNat a)) (I b)=D (VO l a b):=by
 induction l with
 |nil=>rfl
 |cons x r S=>
  show(match Nat.beq x.1 a with|true=>(aE.i (.ofNat x.1),I b)::D r|false=>(aE.i (.ofNat x.1),I x.2)::cU (D r) (.i (.ofNat a)) (I b))=D (match Nat.beq x.1 a with|true=>(x.1,b)::r|false=>x::VO r a b)
  generalize Nat.beq x.1 a=N;induction N with|true=>rfl|false=>exact Wd (_::·) S
def wc:VN (VO l a b)<=VN l+1:=by
 induction l with
 |nil=>exact Wr _
 |cons x r S=>
  show VN (match Nat.beq x.1 a with|true=>(x.1,b)::r|false=>x::VO r a b)<=_
  generalize Nat.beq x.1 a=N;induction N with|true=>exact WH _|false=>exact WC S
def AL(h:VN l+(a+1)<m):VN (VO l b c)+a<m:=Wf (Wh (Wy wc a) (WI (by rw[Wl,Wm 1]))) h
def DE(h:VN l+a<1000):eA (D l):=dV (by unfold D;rw[c9];exact ho h)
abbrev Sk(F:Z)(q:Nat)(G:V):YS:=Zx [(33,G),(22,I q),(45,.ref (F.n+1)),(37,.ref (F.n+2))]
abbrev nd(F:Z)(G s m:V):YS:=Zx [(6,.ref F.n),(33,G),(25,s),(50,m)]
def jb(F:Z)(q:Nat)(G:V)(E Q:YW):List (Ze O):=Zx [some (.ins 8 (Sk F q G)),some (.ah .I (D E) 0),some (.ah .I (D Q) 0)]
def Qm(n:∀h,bM h G 16=some (I c))(r:YW):∀{b Q:YW},(∀x∈r,au A x.1=some x.2)->VN b+r.length<1000->VN Q+r.length<1000->
  cS [46] (cA (cm vs 4)) (r.map λx=>I x.1) ⟨nd a G (iK q s g T A m) (.ah .T mk),W a (jb a q G b Q)⟩ .next ⟨nd a G (iK q s g T A m) (.ah .T mk),W a (jb a q G (nv c r b) (eV c r Q))⟩:=by
 induction r with
 |nil=>exactλ_ _ _=>dq
 |cons x r S=>
  intro b Q D P N;have l:ao (.sub (.aS (.F 25) 47) (.F 46)) ⟨U (nd a G (iK q s g T A m) (.ah .T mk)) [(46,I x.1)],W a (jb a q G b Q)⟩ (I x.2) (W a (jb a q G b Q)):=bw (a9 (J rfl) rfl) J (a6 rfl (a6 rfl (by rw[lj,D x (.head _)];rfl)))
  have f:∀{B},Nat.beq x.1 0=B->ao (.aw .eq (.F 46) (.d8 (.int 0))) ⟨U (nd a G (iK q s g T A m) (.ah .T mk)) [(46,I x.1)],W a (jb a q G b Q)⟩ (.bool B) (W a (jb a q G b Q)):=λe=>e▸eK 5 λ_=>rfl;have p:∀{B},Nat.blt x.1 c=B->ao (.aw .lt (.F 46) (.aS (.F 33) 16)) ⟨U (nd a G (iK q s g T A m) (.ah .T mk)) [(46,I x.1)],W a (jb a q G b Q)⟩ (.bool B) (W a (jb a q G b Q)):=λe=>e▸bF J (a9 J (n _)) rfl;have i:=λy L=>D y (.tail _ L);have k:∀v,nt (.ref (a.n+1)) (I x.1) (I v) (W a (jb a q G b Q))=some (W a (jb a q G (VO b x.1 v) Q)):=λv=>(tC 1 rfl rfl (DE P)).trans (by rw[uE];rfl)
  unfold nv eV;dsimp only;generalize d:Nat.beq x.1 0=j;induction j with
  |true=>exact cW rfl (M (c1 (f d) rfl (M (jw h4 (a9 J (fx 0 rfl rfl)) J (k 1048576)) ba)) ba) rfl (S i (AL P) (WE N))
  |false=>generalize O:Nat.blt x.1 c=j;induction j with|true=>exact cW rfl (M (xd (f d) rfl (M (c1 (p O) rfl (M (jw l (a9 J (fx 0 rfl rfl)) J (k _)) ba)) ba)) ba) rfl (S i (AL P) (WE N))|false=>exact cW rfl (M (xd (f d) rfl (M (xd (p O) rfl (M (jw l (a9 J (fx 0 rfl rfl)) J ((tC 2 rfl rfl (DE N)).trans (by rw[uE];rfl))) ba)) ba)) ba) rfl (S i (WE P) (AL N))
def GI(v:∀h,bM h G 16=some (I b))(D:∀x∈A,au A x.1=some x.2)(f:A.length<1000)(k:bE (vs.body.drop 5) ⟨nd a G (iK q s g T A m) (.ah .T mk),W a (jb a q G (nv b A []) (eV b A []))⟩ .next c):bE vs.body ⟨nd a G (iK q s g T A m) (.ah .T mk),W a [some (.ins 8 [])]⟩ .next c:=by
 have z:VN ([]:YW)+A.length<1000:=by rw[show VN ([]:YW)=0 from rfl,Wj];exact f
 exact M (fa J J (e9 0 rfl rfl)) (M (fa (a9 J rfl) J (e9 0 rfl rfl)) (M (kG (P:=W a [some (.ins 8 [(33,G),(22,I q)]),some (.ah .I [] 0)]) (mH oD) J (e9 0 rfl rfl)) (M (kG (P:=W a [some (.ins 8 [(33,G),(22,I q),(45,.ref (a.n+1))]),some (.ah .I [] 0),some (.ah .I [] 0)]) (mH oD) J (e9 0 rfl rfl)) (M (da (c8 (a9 (J rfl) rfl) (Wd some (zS.trans XE))) rfl (Qm v A D z z) rfl) k))))
def i4(a m:Nat)(A:YW):hB:=⟨nv a A [],m,0,[]⟩
abbrev AV(F:Z)(q:Nat)(G:V):YS:=Zx [(33,G),(22,I q),(45,.ref (F.n+1)),(37,.ref (F.n+2)),(48,.ref (F.n+3))]
def Sl(v:∀h,bM h G 16=some (I b))(c:∀x∈A,au A x.1=some x.2)(f:A.length<1000):aY .ef 8 [G,iK q s g T A [],.ah .T mk] a (.ref a.n) (W a (jH a G q 0 (eV b A []) (i4 b 0 A))):=by exact yJ rfl rfl rfl (gM (G:=nd a G (iK q s g T A []) (.ah .T mk)) rfl rfl (GI v c f (M (kG (P:=W a (U (jb a q G (nv b A []) (eV b A [])) [some (.ae [] 0)])) (h5 du) J (e9 0 rfl rfl)) (M (da (c8 (a9 J rfl) rfl) rfl dq rfl) (M (fa u J (e9 0 rfl rfl)) (M (kG (P:=W a [some (.ins 8 (U (AV a q G) [(51,I 0)])),some (.ah .I (D (nv b A [])) 0),some (.ah .I (D (eV b A [])) 0),some (.ae [] 0),some (.ae [] 0)]) (h5 du) J (e9 0 rfl rfl)) ba))))))
def Sm(v:∀h,bM h G 16=some (I b))(c:∀x∈A,au A x.1=some x.2)(f:A.length<1000)(R:bL mk (.t [.ofNat q,.ofNat r])=some (I m)):aY .ef 8 [G,iK q s g T A [r],.ah .T mk] a (.ref a.n) (W a (dm a G q r 0 (eV b A []) (i4 b m A))):=by exact yJ rfl rfl rfl (gM (G:=nd a G (iK q s g T A [r]) (.ah .T mk)) rfl rfl (GI v c f (M (kG (P:=W a (U (jb a q G (nv b A []) (eV b A [])) [some (.ae [] 0)])) (h5 du) J (e9 0 rfl rfl)) (M (da (c8 (a9 (J rfl) rfl) rfl) rfl (cW rfl (M (de (fW (N:=W a [some (.ins 8 (AV a q G)),some (.ah .I (D (nv b A [])) 0),some (.ah .I (D (eV b A [])) 0),some (.ae [] 0),some (.ae [I r,I m] 0)]) (a9 J (fx 0 rfl rfl)) (cw (i:=3) _ rfl) (aq (h5 (aI J (aq (kA (J rfl) rfl (aI (d7 (aI (a9 (J rfl) rfl) (aq (J rfl)))) (aq u)) rfl (ou (Wd (λo=>some (rK (V.int 0) o)) R))))))) (cw (i:=3) _ rfl) ((hq (cw (i:=3) _ rfl) rfl).trans (Wd (λh=>some (V.none,h)) (gR (i:=3) _ rfl)))) rfl) ba) rfl dq) rfl) (M (fa u J (e9 0 rfl rfl)) (M (kG (P:=W a [some (.ins 8 (U (AV a q G) [(51,I 0)])),some (.ah .I (D (nv b A [])) 0),some (.ah .I (D (eV b A [])) 0),some (.ae [.ref (a.n+4)] 0),some (.ae [I r,I m] 0),some (.ae [] 0)]) (h5 du) J (e9 0 rfl rfl)) ba))))))
def pN:dr a b=true↔a=b:=by
 induction a with
 |ofNat m=>induction b with
  |ofNat n=>exact⟨λh=>Wd Int.ofNat (We h),λh=>XR h▸WA m⟩
  |negSucc n=>exact⟨(nomatch ·),(nomatch ·)⟩
 |negSucc m=>induction b with
  |ofNat n=>exact⟨(nomatch ·),(nomatch ·)⟩
  |negSucc n=>exact⟨λh=>Wd Int.negSucc (We h),λh=>Int.negSucc.inj h▸WA m⟩
def oe(r:Nat)(O:Y1):Nat->Y0:=
 O.rec (λc=>some c) λi _ S c=>match gf lh i&&gf i 0 with
  |false=>S c
  |true=>match dr (-i) (.ofNat r)with
   |true=>S (c+1)
   |false=>none
noncomputable def lF(r:Nat):Nat->YW
 |0=>[]
 |c+1=>[(r,c+1)]
def nW(d:YW):Z:=Zx ⟨.node (some (.ah .I (D d) 0)) .nil .nil,1⟩
abbrev q4(b:Y1):YS:=Zx [(54,.ae (b.map .int)),(56,.ref 0)]
def K4:gA .I (D (lF r c)) [I r,.int 0]=some (I c):=by
 induction c with
 |zero=>rfl
 |succ c=>
  refine(?_:some (rK (V.int 0) (match Nat.beq r r with|true=>some (I (c+1))|false=>none))=_)
  rw[WA];rfl
def K5:nt (.ref 0) (I r) (I (c+1)) (nW (lF r c))=some (nW (lF r (c+1))):=by
 refine(rU rfl rfl (by induction c<;>rfl)).trans ?_
 rw[uE,show VO (lF r c) r (c+1)=lF r (c+1) from ?_]
 .rfl
 .induction c with
  |zero=>rfl
  |succ c=>
   refine(?_:(match Nat.beq r r with|true=>[(r,c+2)]|false=>_)=_)
   rw[WA];rfl
def a4(h:(a&&b)):a=true/\b=true:=by induction a<;>induction b<;>first|exact⟨rfl,rfl⟩|exact bb h
def Lw(O:Y1):∀{f c:Nat},oe r O f=some c->cS [22] (cA (cm za 2)) (O.map .int) ⟨q4 row,nW (lF r f)⟩ .next ⟨q4 row,nW (lF r c)⟩:=by
 induction O with
 |nil=>exactλe=>Wc e▸dq
 |cons i l S=>
  intro f c e;have e:(match gf lh i&&gf i 0 with
   |false=>oe r l f
   |true=>match dr (-i) (.ofNat r)with
    |true=>oe r l (f+1)
    |false=>none)=some c:=e
  have b:∀{B},(gf lh i&&gf i 0)=B->ao (.kv .lt .lt (.d8 (.int (-1048576))) (.F 22) (.lit (.int 0))) ⟨U (q4 row) [(22,.int i)],nW (lF r f)⟩ (.bool B) (nW (lF r f)):=λ{B} z=>by
   cases q:gf lh i with
   |false=>have z:=q▸z;exact z▸LU h4 (J rfl) (Wd some q)
   |true=>have z:=q▸z;exact z▸LV h4 (J rfl) (Wd some q) u rfl
  cases dN:gf lh i&&gf i 0 with
  |false=>have e:=dN▸e;exact cW rfl (M (cX (b dN) rfl) ba) rfl (S e)
  |true=>
   have e:=dN▸e;cases hr:dr (-i) (.ofNat r)with
   |false=>have e:=hr▸e;exact cB e
   |true=>have e:=hr▸e;have a:∀{h},ao (.c6 .neg (.F 22)) ⟨U (q4 row) [(22,.int i)],h⟩ (I r) h:=λ{h}=>hI (J rfl) (Wd (λj=>some (V.int j)) (pN.mp hr));exact cW rfl (M (c1 (b dN) rfl (M (jw (cV (q' J rfl (aI a (aq u)) rfl (tF rfl K4)) u rfl) J a K5) ba)) ba) rfl (S e)
noncomputable def qJ(r:Nat):Nat->Nat
 |0=>0
 |_+1=>r
def Lv(O:a3 row 1=some 0)(f:1<VN row)(N:oe r row 0=some c):aY .nV 31 [.ae (row.map .int)] h (I (qJ r c)) h:=by
 have a:cg 60 (.ae (row.map .int)):=by
  clear O f N
  induction row with|nil=>rfl|cons i r S=>exact S
 refine Co (P:=Z.bj) (c:=[.ae (row.map .int)]) rfl ?_ rfl;have v:∀{G P},bE (za.body.drop 3) ⟨q4 row,nW (lF r c)⟩ (.ret (I (qJ r c))) ⟨G,P⟩->aY .pure 31 [.ae (row.map .int)] Z.bj (I (qJ r c)) Z.bj:=λk=>
  kr (show(match cg 60 (.ae (row.map .int))with|true=>true|false=>false)=true by rw[a]) rfl rfl rfl (M (cX (bF (bw J h4 (jq (by rw[c9];exact f) ((kU row).trans (Wd (Option.map V.int) O)))) u rfl) rfl)
   (M (cI (mH oD)) (M (da (c8 J rfl) rfl (Lw (row:=row) row N) rfl) k))) rfl rfl
 induction c with|zero=>exact v (fD 12 λ_=>rfl:bE _ _ _ ⟨U (q4 row) [(57,I 0)],nW []⟩)|succ c=>exact v (M (dk u) (M (da ⟨9,λ_=>rfl⟩ rfl ⟨9,λ_=>rfl⟩ rfl) (bG (cb J))))
def rl(A:List (Ze O)):∀{a:Z}{B:List (Ze O)},W (W a A) B=W a (U A B):=by
 induction A with|nil=>exact rfl|cons o r S=>exact S
inductive yb(e:Z)(G s m:V)(q:Nat)(row:Y1)(f:YW)(w g:YU):Prop where
 |mk (A B X x:List (Ze O)) (t a b c d:Nat) (i:aY .ef 8 [G,s,m] e (.ref e.n) (W e A)) (H:aY .inl 27 [.ref e.n] (W e A) .none (W e B)) (h:aY .inl 29 [.ref e.n] (W e B) (.ae (row.map .int)) (W e X)) (l:aY .inl 30 [.ref e.n,.ae (row.map .int)] (W e X) (.ae w) (W e x))
  (p:a3 A 0=some (some (.ins 8 (l' e.n (e.n+t) G q a)))) (y:a3 B 0=some (some (.ins 8 (l' e.n (e.n+t) G q b)))) (z:a3 X 0=some (some (.ins 8 (l' e.n (e.n+t) G q c)))) (r:a3 x 0=some (some (.ins 8 (l' e.n (e.n+t) G q d)))) (N:a3 x 2=some (some (.ah .I (D f) 0))) (P:a3 x t=some (some (.ae g 0)))
structure gb where
 gX:List Y1
 gt:List YW
 d6:YZ
 ey:YU
 fN:YU
noncomputable def lg(f:gb):List (Ze O):=[some (.ae (f.gX.map λr=>.ae (r.map .int)) 0),some (.ae (f.gt.map λg=>.ah .I (D g)) 0),some (.ae (f.d6.map I) 0),some (.ae f.ey 0),some (.ae f.fN 0)]
abbrev dP(f:gb)(J:List (Ze O)):Z:=W Z.bj (U (lg f) J)
def uc(d:Nat)(b:Y1):Y1:=Zx (match d with
 |0=>b
 |d+1=>xO (d+1) b)
def nC(f:gb)(d:Nat)(Q:YW)(b:Y1)(w E:YU):gb:=⟨U f.gX [uc d b],U f.gt [Q],U f.d6 [d],U f.ey w,U f.fN E⟩
noncomputable def gO(p:Bool)(d:Nat):Nat:=match p with
 |true=>d
 |false=>0
def U3:gU (ct (a+1) h) (D l)=some (D l):=by
 induction l with|nil=>rfl|cons i r S=>exact a6 rfl (a6 S rfl)
def tS(A:List α):∀{i:Nat}{B:List α},a3 A i=some x->a3 (U A B) i=some x:=by
 induction A with
 |nil=>exactλh=>cB h
 |cons y r S=>exactλ{i}{B} h=>by induction i with|zero=>exact h|succ i=>exact S h
def G3(A:List α):∀{i:Nat}{B:List α},a3 A i=some x->dT (U A B) i y=U (dT A i y) B:=by
 induction A with
 |nil=>exactλh=>cB h
 |cons z r S=>exactλ{i}{B} h=>by induction i with|zero=>rfl|succ i=>exact Wd (z::·) (S h)
def gF(i:Nat)(e:a3 (lg f) i=some x):(W (dP f a) L).get i=x:=by
 have z:=cw (a:=Z.bj) (U (U (lg f) a) L) (tS _ (tS _ e))
 rwa [<-rl,show Z.bj.n+i=i from Wj i] at z
def tK(i:Nat)(e:a3 (lg f) i=some x)(g:dT (lg f) i y=lg P):(W (dP f a) L).a5 i y=W (dP P a) L:=by have z:=gR (a:=Z.bj) (U (U (lg f) a) L) (x:=y) (tS _ (tS _ e));rw[G3 _ (tS _ e),G3 _ e,g,show Z.bj.n+i=i from Wj i] at z;rw[rl,rl];exact z
def tI:(dP f a).n=5+a.length:=(D8 _).trans (by rw[show Z.bj.n=0 from rfl,Wj,cQ,Wk];rfl)
structure nK(f:gb)(g:Nat):Prop where
 a:VN f.gX+g<800
 b:VN f.gt+g<800
 c:VN f.d6+g<800
 d:VN f.ey+8*g<800
 e:VN f.fN+8*g<800
def uA(h:a<800):a<1000:=Wg h (Wb rfl)
def uK(h:a+8*(c+1)<800)(l:b<=8):a+b+8*c<800:=Wf (by rw[XK,Wm (8*c),<-Wl];exact Wy (Wt l a) _) h
def nK.step{u o:Nat}(j:nK a' (u+1))(C:VN c'<=8)(J:VN f'<=8):nK (nC a' o h' row c' f') u:=
 ⟨ly j.a,ly j.b,ly j.c,by rw[show(nC a' o h' row c' f').ey=U a'.ey c' from rfl,iD];exact uK j.d C,by rw[show(nC a' o h' row c' f').fN=U a'.fN f' from rfl,iD];exact uK j.e J⟩
def p1:V:=bX [108,97,108,114]
abbrev lK(M m:V)(p:Bool):YS:=[(58,M),(50,m),(62,.bool p),(40,p1),(36,.ref 0),(37,.ref 1),(20,.ref 2),(38,.ref 3),(39,.ref 4)]
def MF(X:∀f,(dP f a).n=b)(R:VN f.gX<1000/\VN f.gt<1000/\VN f.d6<1000)(x:a3 L 0=some (some (.ins 8 H)))(c:au H 37=some (.ref (b+2)))(v:a3 L 2=some (some (.ah .I (D Q) 0))):
  bE ((cA (cm sR 5)).drop 8) ⟨U (lK r m short) [(25,s),(60,.ref b),(54,.ae (row.map .int)),(24,I g)],W (dP f a) L⟩ .next ⟨U (lK r m short) [(25,s),(60,.ref b),(54,.ae (row.map .int)),(24,I g)],W (dP ⟨U f.gX [row],U f.gt [Q],U f.d6 [g],f.ey,f.fN⟩ a) (dT L 2 none)⟩:=by
 have i:∀f,ao (.bI (.aS (.F 60) 37)) ⟨U (lK r m short) [(25,s),(60,.ref b),(54,.ae (row.map .int)),(24,I g)],W (dP f a) L⟩ (.ah .I (D Q)) (W (dP f a) (dT L 2 none)):=λf=>by
  refine mI (a9 J (X f▸fx 0 x c)) ?_;have e:=cw (a:=dP f a) L v;have p:=gR (a:=dP f a) (x:=none) L v;rw[X] at e p;refine(?_:(match(W (dP f a) L).get (b+2)with|some (O.ae d 0)=>Y (fY (ct 11 Z.bj) d) λl=>some (V.ae l,(W (dP f a) L).hk (b+2))|some (O.ah k T 0)=>Y (gU (ct 11 Z.bj) T) λl=>some (V.ah k l,(W (dP f a) L).hk (b+2))|_=>none)=_)
  rw[e,<-p];exact a6 U3 rfl
 refine M (de (fW J (gF 0 rfl) (aq J) (gF 0 rfl) ((hq (gF 0 rfl) (dV (by rw[c9];exact R.1))).trans (Wd (λh=>some (V.none,h)) (tK (P:=⟨U f.gX [row],f.gt,f.d6,f.ey,f.fN⟩) 0 rfl (by unfold lg;rw[<-hY];rfl))))) rfl) ?_
 refine M (de (fW J (gF 1 rfl) (aq (i _)) (gF 1 rfl) ((hq (gF 1 rfl) (dV (by rw[c9];exact R.2.1))).trans (Wd (λh=>some (V.none,h)) (tK (P:=⟨U f.gX [row],U f.gt [Q],f.d6,f.ey,f.fN⟩) 1 rfl (by unfold lg;rw[<-hY (a:=f.gt)];rfl))))) rfl) ?_
 exact M (de (fW J (gF 2 rfl) (aq J) (gF 2 rfl) ((hq (gF 2 rfl) (dV (by rw[c9];exact R.2.2))).trans (Wd (λh=>some (V.none,h)) (tK 2 rfl (by unfold lg;rw[<-hY (a:=f.d6)];rfl))))) rfl) ba
def DD(K:yb (dP f g) G s m q row Q w i)(N:∀h,bM h r 33=some G)(R:nK f (p+1))(S:VN w<=8)(a':VN i<=8)(F:a3 row 1=some 0)(Z:1<VN row)(hl2:VN row<1000)(Y:oe d row 0=some c)(T:qJ d c=d):
  ∃l,bE (cA (cm sR 5)) ⟨U (lK r m short) [(25,s)],dP f g⟩ .next ⟨U (lK r m short) [(25,s),(60,.ref (dP f g).n),(54,.ae ((uc (gO short d) row).map .int)),(24,I (gO short d))],dP (nC f (gO short d) Q row w i) l⟩:=
 K.casesOn λA B C x t a b c' e2 o H D E k y z n cK os=>by
  refine⟨U g (dT x 2 none),?_⟩;rw[show dP (nC f (gO short d) Q row w i) (U g (dT x 2 none))=W (dP (nC f (gO short d) Q row w i) g) (dT x 2 none) from rl _▸rfl];have v:∀{L:List (Ze O)}{b},a3 L 0=some (some (.ins 8 (l' (dP f g).n ((dP f g).n+t) G q b)))->(W (dP f g) L).get (dP f g).n=some (.ins 8 (l' (dP f g).n ((dP f g).n+t) G q b)):=λ{L b} e=>cw L e;refine M (cI (iA (aI (a9 J (N _)) (aI J (aq J))) o)) ?_;refine M (de (fH J (ku (v k)) (kE (v k) rfl) rfl rfl rfl du H) rfl) ?_;refine M (cI (fH J (ku (v y)) (kE (v y) rfl) rfl rfl rfl du D)) ?_;refine M (de (fW J (gF 3 rfl) (aq (fH J (ku (v z)) (kE (v z) rfl) rfl rfl rfl (aq J) E)) (gF 3 rfl) ((FJ (gF 3 rfl) rfl (dV (by rw[iD];exact uA (ho (uK R.d S))))).trans (Wd (λh=>some (V.none,h)) (tK (P:={f with ey:=U f.ey w}) 3 rfl rfl)))) rfl) ?_
  have X:∀P,(dP P g).n=(dP f g).n:=λP=>tI.trans tI.symm;have j:=cw (a:=dP {f with ey:=U f.ey w} g) x n
  rw[X] at j;refine M (de (fW J (gF 4 rfl) (aq (a9 J (iW j rfl))) (gF 4 rfl) ((FJ (gF 4 rfl) (lW (X {f with ey:=U f.ey w}▸cw x os)) (dV (by rw[iD];exact uA (ho (uK R.e a'))))).trans (Wd (λh=>some (V.none,h)) (tK (P:={f with ey:=U f.ey w,fN:=U f.fN i}) 4 rfl rfl)))) rfl) ?_
  exact nJ 3 ((by
   refine M (dk u) ?_;induction short with
   |false=>exact fD 9 λ_=>rfl
   |true=>
    refine M (c1 J rfl (M (dk (c7 (aq J) (T▸Lv F Z Y))) ba)) ?_;induction d with|zero=>exact fD 9 λ_=>rfl|succ d=>exact M (c1 (bF J u rfl) rfl (M (dk (c7 (aI J (aq J)) (Vv hl2))) ba)) ba)) (MF (f:={f with ey:=U f.ey w,fN:=U f.fN i}) X ⟨uA (ho R.a),uA (ho R.b),uA (ho R.c)⟩ n rfl cK)
set_option genCtorIdx true in
inductive C where|mu|jK|lu|iv|ko|lA
def gV:V:=bX [39,43,39]
def um:V:=bX [39,42,39]
def we:V:=bX [39,60,39]
def nQ:V:=bX [39,33,39]
def pb:V:=bX [97]
namespace C
noncomputable def yq:C->Nat|mu=>0|jK=>1|lu=>2|iv=>0|ko=>1|lA=>2
noncomputable def k:C->Nat|mu=>2|jK=>2|lu=>2|iv=>3|ko=>3|lA=>3
def hS(j:C):YU:=match j.k with|2=>[gV,um]|_=>[gV,um,we]
def je(j:C):V:=match j.yq with|0=>bX []|1=>nQ|_=>gV
def sJ(j:C):YU:=match j.yq with|1=>U j.hS [nQ]|_=>j.hS
def eB(j:C):YU:=match j.yq with|0=>j.hS|_=>U j.hS [j.je]
def jZ:C->V|mu=>um|jK=>nQ|lu=>um|iv=>we|ko=>nQ|lA=>we
noncomputable def aD:C->Nat|mu=>2|jK=>3|lu=>2|iv=>3|ko=>4|lA=>3
noncomputable def R:C->Nat|mu=>2|jK=>3|lu=>3|iv=>3|ko=>4|lA=>4
def aG(j:C):Nat:=4+j.aD
def names(j:C):YU:=U [bX [36,101,110,100],bX [101,114,114,111,114],bX [36,117,110,100,101,102,105,110,101,100],pb] (U j.sJ [bX [36,97,99,99,101,112,116],bX [69]])
end C
def cz(l:YZ):V:=Zx (.ae (l.map I))
def dB(n l:Nat)(r:YZ)(L:Int):V:=Zx (.ins 17 false [(22,I n),(14,I l),(34,kn r),(42,.int L),(98,.none),(70,I 0),(35,I 0)])
def rj(E:C)(aG:Nat)(Q:YU)(K:YT)(d:Int)(s:Nat)(a:List YZ)(c P:YZ)(b:Nat):V:=
 .ins 18 false [(15,.ae E.names),(16,I aG),(31,.ae Q),(41,.ah .I K),(113,.int d),(68,I s),(114,.ae (a.map cz)),(115,cz c),(116,cz P),(117,I b)]
structure d1 where
 q:Nat
 E6:YZ
 Hr:Int
 EX:YZ
 eN:YW
 i1:YZ
noncomputable abbrev d1.v(j:d1):V:=iK j.q j.E6 j.Hr j.EX j.eN j.i1
def cv(E:C)(L:Nat->Int)(K:YT)(d:Int):V:=match E with
 |.mu=>rj C.mu 6 [dB 0 6 [7,0] 0,dB 1 7 [7,4,7] (L 0),dB 2 7 [7,5,7] (L 1),dB 3 7 [3] 3] K d 7 [[],[],[],[],[],[],[0],[1,2,3]] [0,3,7,11] [0,0,0,1,1,1,1,2,2,2,2,3,3] 13
 |.jK=>rj C.jK 7 [dB 0 7 [8,0] 0,dB 1 8 [8,4,8] (L 0),dB 2 8 [8,5,8] (L 1),dB 3 8 [6,8] (L 2),dB 4 8 [3] 3] K d 8 [[],[],[],[],[],[],[],[0],[1,2,3,4]] [0,3,7,11,14] [0,0,0,1,1,1,1,2,2,2,2,3,3,3,4,4] 16
 |.lu=>rj C.lu 6 [dB 0 6 [7,0] 0,dB 1 7 [7,4,7] (L 0),dB 2 7 [7,5,7] (L 1),dB 3 7 [4,7] (L 2),dB 4 7 [3] 3] K d 7 [[],[],[],[],[],[],[0],[1,2,3,4]] [0,3,7,11,14] [0,0,0,1,1,1,1,2,2,2,2,3,3,3,4,4] 16
 |.iv=>rj C.iv 7 [dB 0 7 [8,0] 0,dB 1 8 [8,4,8] (L 0),dB 2 8 [8,5,8] (L 1),dB 3 8 [8,6,8] (L 2),dB 4 8 [3] 3] K d 8 [[],[],[],[],[],[],[],[0],[1,2,3,4]] [0,3,7,11,15] [0,0,0,1,1,1,1,2,2,2,2,3,3,3,3,4,4] 17
 |.ko=>rj C.ko 8 [dB 0 8 [9,0] 0,dB 1 9 [9,4,9] (L 0),dB 2 9 [9,5,9] (L 1),dB 3 9 [9,6,9] (L 2),dB 4 9 [7,9] (L 3),dB 5 9 [3] 3] K d 9 [[],[],[],[],[],[],[],[],[0],[1,2,3,4,5]] [0,3,7,11,15,18] [0,0,0,1,1,1,1,2,2,2,2,3,3,3,3,4,4,4,5,5] 20
 |.lA=>rj C.lA 7 [dB 0 7 [8,0] 0,dB 1 8 [8,4,8] (L 0),dB 2 8 [8,5,8] (L 1),dB 3 8 [8,6,8] (L 2),dB 4 8 [4,8] (L 3),dB 5 8 [3] 3] K d 8 [[],[],[],[],[],[],[],[0],[1,2,3,4,5]] [0,3,7,11,15,18] [0,0,0,1,1,1,1,2,2,2,2,3,3,3,3,4,4,4,5,5] 20
noncomputable def C.dS:C->List d1
 |.mu=>[⟨0,[0],-1,[0,3,7,11],[(3,1),(7,2)],[]⟩,⟨1,[12],3,[12],[],[3]⟩,⟨2,[1,4,8],7,[1,4,8],[(0,3),(4,4),(5,5)],[]⟩,⟨3,[2],0,[2],[],[]⟩,⟨4,[5],4,[5,3,7,11],[(3,1),(7,6)],[]⟩,⟨5,[9],5,[9,3,7,11],[(3,1),(7,7)],[]⟩,⟨6,[4,6,8],7,[4,6,8],[(4,4),(5,5)],[1]⟩,⟨7,[4,8,10],7,[4,8,10],[(4,4),(5,5)],[2]⟩]
 |.jK=>[⟨0,[0],-1,[0,3,7,11,14],[(3,1),(6,2),(8,3)],[]⟩,⟨1,[15],3,[15],[],[4]⟩,⟨2,[12],6,[12,3,7,11,14],[(3,1),(6,2),(8,4)],[]⟩,⟨3,[1,4,8],8,[1,4,8],[(0,5),(4,6),(5,7)],[]⟩,⟨4,[4,8,13],8,[4,8,13],[(4,6),(5,7)],[3]⟩,⟨5,[2],0,[2],[],[]⟩,⟨6,[5],4,[5,3,7,11,14],[(3,1),(6,2),(8,8)],[]⟩,⟨7,[9],5,[9,3,7,11,14],[(3,1),(6,2),(8,9)],[]⟩,⟨8,[4,6,8],8,[4,6,8],[(4,6),(5,7)],[1]⟩,⟨9,[4,8,10],8,[4,8,10],[(4,6),(5,7)],[2]⟩]
 |.lu=>[⟨0,[0],-1,[0,3,7,11,14],[(3,1),(4,2),(7,3)],[]⟩,⟨1,[15],3,[15],[],[4]⟩,⟨2,[12],4,[12,3,7,11,14],[(3,1),(4,2),(7,4)],[]⟩,⟨3,[1,4,8],7,[1,4,8],[(0,5),(4,6),(5,7)],[]⟩,⟨4,[4,8,13],7,[4,8,13],[(4,6),(5,7)],[3]⟩,⟨5,[2],0,[2],[],[]⟩,⟨6,[5],4,[5,3,7,11,14],[(3,1),(4,2),(7,8)],[]⟩,⟨7,[9],5,[9,3,7,11,14],[(3,1),(4,2),(7,9)],[]⟩,⟨8,[4,6,8],7,[4,6,8],[(4,6),(5,7)],[1]⟩,⟨9,[4,8,10],7,[4,8,10],[(4,6),(5,7)],[2]⟩]
 |.iv=>[⟨0,[0],-1,[0,3,7,11,15],[(3,1),(8,2)],[]⟩,⟨1,[16],3,[16],[],[4]⟩,⟨2,[1,4,8,12],8,[1,4,8,12],[(0,3),(4,4),(5,5),(6,6)],[]⟩,⟨3,[2],0,[2],[],[]⟩,⟨4,[5],4,[5,3,7,11,15],[(3,1),(8,7)],[]⟩,⟨5,[9],5,[9,3,7,11,15],[(3,1),(8,8)],[]⟩,⟨6,[13],6,[13,3,7,11,15],[(3,1),(8,9)],[]⟩,⟨7,[4,6,8,12],8,[4,6,8,12],[(4,4),(5,5),(6,6)],[1]⟩,⟨8,[4,8,10,12],8,[4,8,10,12],[(4,4),(5,5),(6,6)],[2]⟩,⟨9,[4,8,12,14],8,[4,8,12,14],[(4,4),(5,5),(6,6)],[3]⟩]
 |.ko=>[⟨0,[0],-1,[0,3,7,11,15,18],[(3,1),(7,2),(9,3)],[]⟩,⟨1,[19],3,[19],[],[5]⟩,⟨2,[16],7,[16,3,7,11,15,18],[(3,1),(7,2),(9,4)],[]⟩,⟨3,[1,4,8,12],9,[1,4,8,12],[(0,5),(4,6),(5,7),(6,8)],[]⟩,⟨4,[4,8,12,17],9,[4,8,12,17],[(4,6),(5,7),(6,8)],[4]⟩,⟨5,[2],0,[2],[],[]⟩,⟨6,[5],4,[5,3,7,11,15,18],[(3,1),(7,2),(9,9)],[]⟩,⟨7,[9],5,[9,3,7,11,15,18],[(3,1),(7,2),(9,10)],[]⟩,⟨8,[13],6,[13,3,7,11,15,18],[(3,1),(7,2),(9,11)],[]⟩,⟨9,[4,6,8,12],9,[4,6,8,12],[(4,6),(5,7),(6,8)],[1]⟩,⟨10,[4,8,10,12],9,[4,8,10,12],[(4,6),(5,7),(6,8)],[2]⟩,⟨11,[4,8,12,14],9,[4,8,12,14],[(4,6),(5,7),(6,8)],[3]⟩]
 |.lA=>[⟨0,[0],-1,[0,3,7,11,15,18],[(3,1),(4,2),(8,3)],[]⟩,⟨1,[19],3,[19],[],[5]⟩,⟨2,[16],4,[16,3,7,11,15,18],[(3,1),(4,2),(8,4)],[]⟩,⟨3,[1,4,8,12],8,[1,4,8,12],[(0,5),(4,6),(5,7),(6,8)],[]⟩,⟨4,[4,8,12,17],8,[4,8,12,17],[(4,6),(5,7),(6,8)],[4]⟩,⟨5,[2],0,[2],[],[]⟩,⟨6,[5],4,[5,3,7,11,15,18],[(3,1),(4,2),(8,9)],[]⟩,⟨7,[9],5,[9,3,7,11,15,18],[(3,1),(4,2),(8,10)],[]⟩,⟨8,[13],6,[13,3,7,11,15,18],[(3,1),(4,2),(8,11)],[]⟩,⟨9,[4,6,8,12],8,[4,6,8,12],[(4,6),(5,7),(6,8)],[1]⟩,⟨10,[4,8,10,12],8,[4,8,10,12],[(4,6),(5,7),(6,8)],[2]⟩,⟨11,[4,8,12,14],8,[4,8,12,14],[(4,6),(5,7),(6,8)],[3]⟩]
def hs(E:C)(G:V):V:=Zx (.ins 21 false [(33,G),(59,.ae (E.dS.map d1.v))])
def wN(b:List S)(A:YS)(n:Nat):Ze V:=match(eF n).x b ⟨A,Z.bj⟩with
 |some (.ret v,s)=>ct 12 s.h v
 |_=>none
def Cp(L:dQ (cg 60) c)(d:dD.j2 f c=none)(R:dD.fK f=some a)(H:lH a a.ak c=some A)(p:∀b,wN a.body A (b+k)=some w)(e:cg 60 w):aY .pure f c h w h:=by
 refine .step (.bR L ⟨k,λb=>?_⟩);refine d▸?_;refine a6 R (a6 H ?_);have p:=p b;unfold wN at p;generalize(eF (b+k)).x a.body ⟨A,Z.bj⟩=o at p⊢
 match o,p with
 |some (.ret v,s),p=>exact a6 rfl (a6 p (fL e rfl))
def Kb(E:C)(L:Nat->Int)(K:YT)(d:Int):∀a,wN Di.body [(33,cv E L K d)] (a+60)=some (hs E (cv E L K d)):=λa=>by induction E<;>kernel_rfl
def eP(a:Y1)(c x:Int)(L R Q:bo O)(n:Nat):Z:=Zx ⟨.node (some (.ae (a.map .int) 0)) (.node (some (.ae [.ref 0,.int c,.int x] 0)) L R) Q,n⟩
inductive dg(L R Q:bo O)(n:Nat):Z->Prop where
 |mk (a:Y1) (c x:Int):dg L R Q n (eP a c x L R Q n)
section
variable{L R Q:bo O}{n m:Nat}{h:Z}{X:Prop}
def MP(a:Int)(m:Nat):Int.fmod a (.ofNat (m+1))=.ofNat (Int.fmod a (.ofNat (m+1))).toNat/\(Int.fmod a (.ofNat (m+1))).toNat<m+1:=by have p:=Int.natCast_pos.mpr (Wx m);have P:=Int.fmod_nonneg_of_pos a p;exact⟨(Int.toNat_of_nonneg P).symm,(Int.toNat_lt P).mpr (Int.fmod_lt_of_pos a p)⟩
abbrev q9(m:Nat):YS:=Zx [(160,.ref 1),(152,I (m+1))]
def LJ(D:m<900):∃d l,d<m+1/\bE (y5.body.drop 2) ⟨q9 m,eP a c x L R Q n⟩ (.ret (I d)) ⟨l,eP a c (Int.fdiv x (.ofNat (m+1))) L R Q n⟩:=by
 have z:=MP (Int.fmod x (.ofNat (m+1))+c) m;refine⟨_,U (q9 m) [(161,.int (Int.fmod x (.ofNat (m+1))))],z.2,M (a:=⟨U (q9 m) [(161,.int (Int.fmod x (.ofNat (m+1))))],eP a c x L R Q n⟩) (k5 9 λ_=>rfl) (M (jw (cV (d:=.int (Int.fdiv x (.ofNat (m+1)))) (eK (b:=.int x) 5 λ_=>rfl) J ?_) J u rfl) (bG (cb ?_)))⟩
 .show Y (bS (Nat.blt m 1000000) _) _=_
  rw[dE (Wg D (Wb rfl))];rfl
 .rw[show I (Int.fmod (Int.fmod x (.ofNat (m+1))+c) (.ofNat (m+1))).toNat=.int (Int.fmod (Int.fmod x (.ofNat (m+1))+c) (.ofNat (m+1))) from Wd V.int z.1.symm]
  exact eK 5 λ_=>by kernel_rfl
def sF(P:dg L R Q n h)(D:m<900)(k:∀d a,d<m+1->dg L R Q n a->aY .inl 125 [.ref 1,I (m+1)] h (I d) a->X):X:=by
 induction P with
 |mk O c x=>
 have b:∀{H s},cF (cm y5 1) ⟨q9 m,eP O (c+1) x L R Q n⟩ .next ⟨q9 m,eP H (c+1) s L R Q n⟩->X:=λ{H s} e=>(LJ D).elim λd z=>z.elim λl z=>k d _ z.1 (.mk ..) (cH rfl rfl (M (k5 9 λ_=>by kernel_rfl) (M e z.2)))
 have f:∀{B},dr x 0=B->ao (.aw .eq (.sub (.F 160) (.lit (.int 2))) (.lit (.int 0))) ⟨q9 m,eP O (c+1) x L R Q n⟩ (.bool B) (eP O (c+1) x L R Q n):=λe=>e▸eK 5 λ_=>rfl;generalize G:dr x 0=N;induction N with
 |false=>exact b (cX (fV (ph (f G) rfl)) rfl)
 |true=>
  induction O with|nil=>exact b (cX (fV (jN (f G) rfl (hZ (eK (b:=.bool false) 5 λ_=>rfl)))) rfl)|cons y r=>have v:ct 12 (eP (y::r) (c+1) x L R Q n) (.ref 0)=some (.ae ((y::r).map .int)):=qu rfl HW;have g:dx .cC (.ref 0) (.ae []) (eP (y::r) (c+1) x L R Q n)=some true:=a6 v rfl;exact b (H:=r) (s:=y) (c1 (fV (jN (f G) rfl (hZ (bF (bw J u rfl) (fq du) g)))) rfl (fD 9 λ_=>by kernel_rfl))
def rF(l:List α):∀{i:Nat},a3 l i=some a->a∈l:=by
 induction l with
 |nil=>exactλh=>cB h
 |cons x r S=>exactλ{i} h=>by induction i with|zero=>exact Wc h▸.head _|succ i=>exact .tail _ (S h)
def rL(P:dg L R Q n h)(D:VN f<900)(k:∀d b a,a3 (y::f) d=some b->dg L R Q n a->aY .inl 126 [.ref 1,.ae (y::f)] h b a->X):X:=
 sF P D λd a T i c=>(m7 (y::f) T).elim λb e=>k d b a e i (cH rfl rfl (bG (cb (DU (J rfl) (c7 (aI J (aq (d3 (aq J) rfl))) c) (jq T e)))))
end
noncomputable def fM(a b:V):Nat->V
 |0=>.none
 |1=>a
 |_=>b
def eb:Nat->V
 |0=>bX [108,101,102,116]
 |1=>bX [114,105,103,104,116]
 |2=>bX [110,111,110,97,115,115,111,99]
 |_=>bX [112,114,101,99,101,100,101,110,99,101]
def eX(x:Nat×Nat):V:=.ay [.int (.ofNat x.1),eb x.2]
def fz(E:C)(B:Nat):Y':=match B with
 |0=>j [39,43,39]
 |1=>j [39,42,39]
 |2=>match E with
  |.jK=>j [39,33,39]
  |_=>j [39,60,39]
 |_=>j [39,33,39]
noncomputable abbrev dC:=Nat×(Nat×Nat)
def iE(E:C)(G:List dC):YT:=G.map λe=>(.s (fz E e.1),eX e.2)
noncomputable def nc(k:Nat)(b:V):YU->YZ->Nat->YU
 |v::D,p::O,i=>.ae [v,.bool (Nat.beq i k),fM gV b p]::nc k b D O (i+1)
 |_,_,_=>[]
def P1(h:a3 [V.none,.none,.none,a,b] d=some c):∃p,c=fM a b p:=match d,h with
 |0,h=>⟨0,(Wc h).symm⟩
 |1,h=>⟨0,(Wc h).symm⟩
 |2,h=>⟨0,(Wc h).symm⟩
 |3,h=>⟨1,(Wc h).symm⟩
 |4,h=>⟨2,(Wc h).symm⟩
abbrev bl(E:C):YS:=Zx [(160,.ref 1),(163,.ae E.hS),(164,E.je),(165,.ae E.sJ),(31,.ref 2)]
section
variable{L R b a Q:bo O}{n:Nat}{X:Prop}{E:C}
def RQ(e:x=.ae [g,.bool (Nat.beq i k),fM gV c p]):U (U f [x]) (nc k c h d (i+VN [x]))=U f (nc k c (g::h) (p::d) i):=by rw[eJ,e];rfl
def VE:ao (.ae false [.lit .none,.lit .none,.lit .none,.sub (.F 165) (.lit (.int 0)),.sub (.F 165) (.c6 .neg (.lit (.int 1)))]) ⟨U (bl E) [(166,c)],h⟩ (.ae [.none,.none,.none,gV,E.jZ]) h:=eK 9 λ_=>by induction E<;>kernel_rfl
def VD:ao (.ae false [.F 166,.aw .eq (.bq false .len [.F 31]) (.bq false .len [.F 163]),.F 167]) ⟨U (bl E) [(166,e),(167,p)],eP f c x L R (.node (some (.ae d 0)) b a) n⟩ (.ae [e,.bool (Nat.beq (VN d) E.k),p]) (eP f c x L R (.node (some (.ae d 0)) b a) n):=eK 9 λ_=>by induction E<;>kernel_rfl
def VB(D:YU):∀{g:YU}{h:Z},VN g+D.length<900->dg L R (.node (some (.ae g 0)) b a) n h->
  (∀i l,i.length=D.length->dg L R (.node (some (.ae (U g (nc E.k E.jZ D i (VN g))) 0)) b a) n l->cS [166] (cA (cm jm 4)) D ⟨bl E,h⟩ .next ⟨bl E,l⟩->X)->X:=by
 induction D with
 |nil=>exactλ{g}{h} _ P k=>k [] h rfl ((eG).symm▸P) dq
 |cons v D S=>
  intro g h j P k;refine rL P (f:=[.none,.none,gV,E.jZ]) (Wb rfl) λd w l r m c=>(P1 r).elim λp e=>?_;subst e;induction m with
  |mk O s x=>
  refine S (ly (x:=V.ae [v,.bool (Nat.beq (VN g) E.k),fM gV E.jZ p]) j) (.mk ..) λi N o q f=>k (p::i) N (Wd (·+1) o) ?_ (cW rfl (M (cI (c7 (aI J (aq VE)) c)) (M (de (fW (J rfl) rfl (aq VD) rfl (hq rfl (dV (Wg (ho j) (Wb rfl))))) rfl) ba)) rfl f);rw[iD,RQ rfl] at q;exact q
def P2(h:a3 [V.int 0,.int 1,.int 2,.int 0,.int 1,.int 3] d=some c):(∃l,l<3/\c=I l)\/c=.int 3:=match d,h with
 |0,h=>.inl ⟨0,Wb rfl,(Wc h).symm⟩
 |1,h=>.inl ⟨1,Wb rfl,(Wc h).symm⟩
 |2,h=>.inl ⟨2,Wb rfl,(Wc h).symm⟩
 |3,h=>.inl ⟨0,Wb rfl,(Wc h).symm⟩
 |4,h=>.inl ⟨1,Wb rfl,(Wc h).symm⟩
 |5,h=>.inr (Wc h).symm
def P4(h:a3 [bX [108,101,102,116],bX [114,105,103,104,116],bX [110,111,110,97,115,115,111,99],bX [108,101,102,116],bX [112,114,101,99,101,100,101,110,99,101]] d=some c):∃p,c=eb p:=match d,h with
 |0,h=>⟨0,(Wc h).symm⟩
 |1,h=>⟨1,(Wc h).symm⟩
 |2,h=>⟨2,(Wc h).symm⟩
 |3,h=>⟨0,(Wc h).symm⟩
 |4,h=>⟨3,(Wc h).symm⟩
end
def Tg(h:l<3):∃p,a3 [eb a,eb g,eb b] l=some (eb p):=match l,h with
 |0,_=>⟨a,rfl⟩
 |1,_=>⟨g,rfl⟩
 |2,_=>⟨b,rfl⟩
 |_+3,z=>absurd z (Xk (Xi 3 _))
def dG(E:C)(j:Nat):V:=.str (fz E j)
noncomputable def aB(f:Nat)(O:Nat):YZ:=
 O.rec (motive:=λ_=>Nat->YZ) (λ_=>[]) (λ_ S i=>i::S (i+1)) f
def Md(E:C):E.sJ=(aB 0 E.aD).map (dG E):=by induction E<;>rfl
def QE(E:C):((aB 0 E.aD).all λi=>(aB 0 E.aD).all λB=>hG (cJ (.s (fz E i)) (.s (fz E B))) (Nat.beq i B)):=by induction E<;>kernel_rfl
def gE(n:Nat):∀{i:Nat},i<=B->B<i+n->B∈aB i n:=by
 induction n with|zero=>exactλh k=>absurd k (Xk h)|succ n S=>exactλ{i} h k=>(XF h).elim (λz=>.tail _ (S z (by rw[X0];exact k))) λz=>z▸.head _
def JR(h:hG a b):a=b:=by induction a<;>induction b<;>first|rfl|exact bb h
def Ar(A:i<a.aD)(P:B<a.aD):cJ (.s (fz a i)) (.s (fz a B))=Nat.beq i B:=by exact JR (Wn.mp (Wn.mp (QE a) i (gE _ (Ww _) (by rw[Wj];exact A))) B (gE _ (Ww _) (by rw[Wj];exact P)))
inductive d0:Nat->List dC->Prop where
 |nil {m:Nat}:d0 m []
 |qn {B m:Nat} {G:List dC} {x:Nat×Nat}:d0 B G->B<m->d0 m (U G [(B,x)])
def d0.up(j:d0 c' a')(o:c'<=k):d0 k a':=by
 induction j with|nil=>exact .nil|qn j u=>exact .qn j (Wg u o)
def d0.lt(j:d0 f' c'):∀a'∈c',a'.1<f':=by
 induction j with|nil=>exactλ_ j=>es j|qn j C J=>intro a' u;rw[cQ] at u;exact(WU.mp u).elim (λo=>WJ (J a' o) C) λo=>(Ws.mp o)▸C
def Pa(P:B<a.aD)(h:∀e∈G,e.1<B):cU (iE a G) (.s (fz a B)) (eX x)=iE a (U G [(B,x)]):=by
 induction G with
 |nil=>rfl
 |cons e r S=>
  have l:=h e (.head _);refine(?_:(match cJ (.s (fz a e.1)) (.s (fz a B))with|true=>_|false=>(aE.s (fz a e.1),eX e.2)::cU (iE a r) (.s (fz a B)) (eX x))=_)
  rw[Ar (WJ l P) P,show Nat.beq e.1 B=false from W3.mpr λz=>Wv l (We z)];exact Wd (_::·) (S λy L=>h y (.tail _ L))
abbrev e6(E:C)(k g K:Nat):YS:=U (bl E) [(168,.ae [eb k,eb g,eb K]),(169,.ref 3)]
section
variable{h x R Q:bo O}{n:Nat}{X:Prop}{E:C}{T g S:Nat}
def VA(m:Nat):∀{B:Nat}{G:List dC}{a:Z},B+m=E.aD->d0 B G->VN G+m<900->dg (.node (some (.ah .S (iE E G) 0)) h x) R Q n a->
  (∀G b,d0 E.aD G->dg (.node (some (.ah .S (iE E G) 0)) h x) R Q n b->cS [166] (cA (cm jm 7)) ((aB B m).map (dG E)) ⟨e6 E T g S,a⟩ .next ⟨e6 E T g S,b⟩->X)->X:=by
 induction m with
 |zero=>exactλ{B G a} e o _ P k=>k G a (e▸o) P dq
 |succ m r=>
  intro B G a e o i P k;have A:B+1+m=E.aD:=by rw[<-e,Wl,Wm 1]
  refine rL P (y:=.int 0) (f:=[.int 1,.int 2,.int 0,.int 1,.int 3]) (Wb rfl) λd w b C j c=>?_;have t:cF ((cA (cm jm 7)).headD .eD) ⟨U (e6 E T g S) [(166,dG E B)],a⟩ .next ⟨U (e6 E T g S) [(166,dG E B),(70,w)],b⟩:=cI (c7 (aI J (aq (fq (aI u (aI u (aI u (aI u (aI u (aq u))))))))) c);refine(P2 C).elim (λz=>z.elim λl z=>?_) λz=>?_
  .induction j with
   |mk O v D=>
   have H:=z.2;subst H;refine(Tg (a:=T) (g:=g) (b:=S) z.1).elim λp y=>?_;refine r (G:=U G [(B,l,p)]) A (.qn o (Wu B)) (ly i) (.mk O v D) λs N F q f=>k s N F q (cW rfl (M t (M (c1 (bF (B:=true) (J rfl) u (Wd some (dE z.1))) rfl (M (jw (d7 (aI J (aq (bw J J (jq z.1 y))))) J J ?_) ba)) ba)) rfl f);refine(rU rfl rfl (dV (by unfold iE;rw[c9];exact Wg (ho i) (Wb rfl)))).trans ?_
   rw[show V.ay [I l,eb p]=eX (l,p) from rfl,Pa (e▸WD (Wx m)) (o.lt)]
   rfl
  .subst z
   exact r A (o.up (WH B)) (WE i) j λs N F q f=>k s N F q (cW (G:=U (e6 E T g S) [(166,dG E B),(70,.int 3)]) (N:=b) rfl (M t (fD 9 λ_=>rfl)) rfl f)
end
def NI(E:C):E.eB.length<900:=by induction E<;>exact Wb rfl
def Dd(E:C):E.aD<5:=by induction E<;>exact Wb rfl
def qj(E:C)(O:YZ):YU:=nc E.k E.jZ E.eB O 0
def bN(E:C)(O:YZ)(G:List dC)(k g K:Nat):V:=.ay [.ae E.hS,E.je,.ae (qj E O),.ah .S (iE E G),.ae [eb k,eb g,eb K]]
def U'(D:YU):∀{a:YZ}{i:Nat},fY (ct 11 h) (nc k b D a i)=some (nc k b D a i):=by
 induction D with
 |nil=>exact rfl
 |cons v D S=>exactλ{a}{i}=>by induction a with|nil=>rfl|cons p a=>exact a6 rfl (a6 S rfl)
def U6:gU (ct 11 h) (iE a G)=some (iE a G):=by
 induction G with|nil=>rfl|cons e r S=>exact a6 rfl (a6 S rfl)
section
variable{E:C}{L R Q:bo O}{n:Nat}{X:Y1}{c x:Int}{h:Z}{T:Prop}
def Vb:cF (cm jm 2) ⟨[(160,.ref 1),(163,.ae E.hS),(164,E.je)],h⟩ .next ⟨[(160,.ref 1),(163,.ae E.hS),(164,E.je),(165,.ae E.sJ)],h⟩:=k5 9 λ_=>by induction E<;>kernel_rfl
def Vf:cF (cm jm 3) ⟨[(160,.ref 1),(163,.ae E.hS),(164,E.je),(165,.ae E.sJ)],eP X c x .nil .nil .nil 2⟩ .next ⟨bl E,eP X c x .nil .nil (.node (some (.ae [] 0)) .nil .nil) 3⟩:=k5 9 λ_=>by kernel_rfl
def Vc:iq (.e (.a7 .add false (.F 163) (.ite (.aw .cC (.F 164) (.lit (.str (j [])))) (.ae false [.F 164]) (.ae false [])))) ⟨bl E,h⟩ E.eB (.ae E.eB) h:=⟨9,λ_=>by induction E<;>kernel_rfl⟩
def Vd:cF (cm jm 6) ⟨U (bl E) [(168,.ae [eb a,eb g,eb b])],eP X c x .nil .nil Q 3⟩ .next ⟨e6 E a g b,eP X c x (.node (some (.ah .S [] 0)) .nil .nil) .nil Q 4⟩:=k5 9 λ_=>by kernel_rfl
def BG(P:dg L R Q n h)(e:au A 160=some (.ref 1))(k:∀p a,dg L R Q n a->ao (.call .inl 126 [.F 160,.ae false [.lit (.str Zl),.lit (.str Zm),.lit (.str Zn),.lit (.str Zl),.lit (.str Zq)]]) ⟨A,h⟩ (eb p) a->T):T:=
 rL P (Wb rfl) λd w a b i c=>(P4 b).elim λp z=>k p a i (z▸c7 (aI (J e) (aq (fq (aI u (aI u (aI u (aI u (aq u)))))))) c)
def Vi(P:dg L R Q n h)(k:∀a g b d,dg L R Q n d->cF (cm jm 5) ⟨bl E,h⟩ .next ⟨U (bl E) [(168,.ae [eb a,eb g,eb b])],d⟩->T):T:=
 BG P rfl λa x c p=>BG c rfl λg e s l=>BG s rfl λb N q f=>k a g b N q
  (cI (s7 (kH u rfl) rfl rfl (vL rfl p (vL rfl l (vL rfl f gD))) rfl))
def Vh(f:fY (ct 11 Z.bj) b=some b)(h:gU (ct 11 Z.bj) a=some a):bE [cm jm 8] ⟨e6 E d g e,eP X c x (.node (some (.ah .S a 0)) .nil .nil) .nil (.node (some (.ae b 0)) .nil .nil) 4⟩ (.ret (.ay [.ae E.hS,E.je,.ae b,.ah .S a,.ae [eb d,eb g,eb e]])) ⟨e6 E d g e,eP X c x (.node none .nil .nil) .nil (.node none .nil .nil) 4⟩:=
 bG (cb (d7 (aI J (aI J (n8 (mI (J rfl) (sX rfl f)) (n8 (mI (J rfl) (a6 h rfl)) (aq J)))))))
def VC(P:dg .nil .nil .nil 2 h)(k:∀a G b g d l L R Q n e,a.length=E.eB.length->d0 E.aD G->dg L R Q (n+2) e->bE (jm.body.drop 2) ⟨[(160,.ref 1),(163,.ae E.hS),(164,E.je)],h⟩ (.ret (bN E a G b g d)) ⟨l,e⟩->T):T:=by
 induction P with
 |mk X c x=>
 refine VB (E:=E) (L:=.nil) (R:=.nil) (b:=.nil) (a:=.nil) (n:=3) E.eB (g:=[]) (by rw[show VN ([]:YU)=0 from rfl,Wj];exact NI E) (.mk X c x) λa m j s f=>Vi (E:=E) s λb g d N q i=>?_
 induction q with
 |mk X c x=>
 refine VA (E:=E) (T:=b) (g:=g) (S:=d) E.aD (G:=[]) (Wj _) .nil (by rw[show VN ([]:List dC)=0 from rfl,Wj];exact Wg (Dd E) (Wb rfl)) (.mk (L:=.node (some (.ah .S [] 0)) .nil .nil) (R:=.nil) (Q:=.node (some (.ae (qj E a) 0)) .nil .nil) (n:=4) X c x) λG t H I sQ=>?_
 rw[<-Md] at sQ;induction I with|mk X c x=>exact k a G b g d _ _ _ _ 2 _ j H (.mk X c x) (M Vb (M Vf (M (da Vc rfl f rfl) (M i (M Vd (M (da (c8 J rfl) rfl sQ rfl) (Vh (U' _) U6)))))))
def Vz(P:dg .nil .nil .nil 2 h)(k:∀E g G m p q L R Q n f,g.length=E.eB.length->d0 E.aD G->dg L R Q (n+2) f->aY .inl 127 [.ref 1] h (bN E g G m p q) f->T):T:=by
 have S:∀(E:C){N:Z},dg .nil .nil .nil 2 N->bE (jm.body.take 2) ⟨[(160,.ref 1)],h⟩ .next ⟨[(160,.ref 1),(163,.ae E.hS),(164,E.je)],N⟩->T:=λE{N} o e=>VC o λg G m p q l L R Q n f a b c d=>k E g G m p q L R Q n f a b c (cH rfl rfl (nJ 2 e d));have B:∀{d t},aY .inl 125 [.ref 1,I 2] h (I d) t->cF (cm jm 0) ⟨[(160,.ref 1)],h⟩ .next ⟨[(160,.ref 1),(163,.ae (mg [gV,um,we] (2+d)))],t⟩:=λc=>cI (zm (fq (aI u (aI u (aq u)))) (s6 u (c7 (aI J (aq u)) c) rfl) rfl);have O:∀{x:YU}{w t N},cZ (.ae x) (.int 0) t=some gV->aY .inl 126 [.ref 1,.ae [nQ,gV,nQ,bX []]] t w N->bE [cm jm 1] ⟨[(160,.ref 1),(163,.ae x)],t⟩ .next ⟨[(160,.ref 1),(163,.ae x),(164,w)],N⟩:=λe c=>M (cI (c7 (aI J (aq (fq (aI u (aI (bw J u e) (aI u (aq u))))))) c)) ba;refine sF (m:=1) P (Wb rfl) λd t v y r=>rL y (y:=nQ) (f:=[gV,nQ,bX []]) (Wb rfl) λi w N j o s=>?_
 match d,v,i,j with
 |0,_,0,j=>(have j:=Wc j;subst j);exact S .jK o (M (B r) (O rfl s))
 |0,_,1,j=>(have j:=Wc j;subst j);exact S .lu o (M (B r) (O rfl s))
 |0,_,2,j=>(have j:=Wc j;subst j);exact S .jK o (M (B r) (O rfl s))
 |0,_,3,j=>(have j:=Wc j;subst j);exact S .mu o (M (B r) (O rfl s))
 |1,_,0,j=>(have j:=Wc j;subst j);exact S .ko o (M (B r) (O rfl s))
 |1,_,1,j=>(have j:=Wc j;subst j);exact S .lA o (M (B r) (O rfl s))
 |1,_,2,j=>(have j:=Wc j;subst j);exact S .ko o (M (B r) (O rfl s))
 |1,_,3,j=>(have j:=Wc j;subst j);exact S .iv o (M (B r) (O rfl s))
 |_+2,v,_,_=>exact absurd v (Xk (Xi 2 _))
end
noncomputable def A4:Nat->b'
 |0=>.gW
 |1=>.nx
 |2=>.iw
 |_=>.dH
def hU(a b:Ze (Nat×Nat)):b':=match a with
 |none=>.dH
 |some x=>match b with
  |none=>.dH
  |some y=>match Nat.beq x.1 y.1 with
   |true=>A4 y.2
   |false=>match Nat.blt y.1 x.1 with
    |true=>.gW
    |false=>.nx
noncomputable def oB(g:Nat×Nat->V):Ze (Nat×Nat)->V
 |some x=>g x
 |none=>.none
def pX(p s:V):V:=match iC p with
 |true=>s
 |false=>p
def Pr{O:E}(B:ao (.F 24) ⟨A,h⟩ (.ae [s,b,p]) h):ao (.ite (.aw .is (.sub (.F 24) (.lit (.int 2))) (.lit .none)) (.sub (.F 24) (.lit (.int 0))) (.sub (.F 24) (.lit (.int 2)))) ⟨A,h⟩ (pX p s) h:=by
 have c:ao (.aw .is (.sub (.F 24) (.lit (.int 2))) (.lit .none)) ⟨A,h⟩ (.bool (iC p)) h:=bF (bw B u rfl) u rfl;unfold pX;generalize V:iC p=N;induction N with|true=>rw[V] at c;exact lG c rfl (bw B u rfl)|false=>rw[V] at c;exact jS c rfl (bw B u rfl)
def vf(t:fO k x=some q)(h:bL T q=own.map g):gA k T [x]=some (oB g own):=a6 t (by rw[h];induction own<;>rfl)
def H4{w:b'}:ct 12 h (hT w)=some (hT w)/\cg 60 (hT w):=by induction w<;>exact⟨rfl,rfl⟩
def VF:Z:=⟨.node (some (.ah .S [(.s Zl,hT .gW),(.s Zm,hT .nx),(.s Zn,hT .iw),(.s Zq,hT .dH)] 0)) .nil .nil,1⟩
abbrev nI(a b x l K F:V):YS:=Zx [(170,a),(24,b),(166,x),(169,l),(43,K),(44,F)]
def Vl{u v:Nat×Nat}{a b x l:V}(n:Nat)(p:Nat):(eF (n+9)).x [cm vo 5] ⟨nI a b x l (eX u) (.ay [.int (.ofNat v.1),eb p]),Z.bj⟩=some (.ret (hT (A4 p)),⟨nI a b x l (eX u) (.ay [.int (.ofNat v.1),eb p]),VF⟩):=match p with
 |0=>rfl
 |1=>rfl
 |2=>rfl
 |_+3=>rfl
def Vm{a b x l:V}(P k:Ze (Nat×Nat)):∃c,bE (vo.body.drop 3) ⟨nI a b x l (oB eX P) (oB eX k),Z.bj⟩ (.ret (hT (hU P k))) c:=by
 induction P with
 |none=>exact⟨⟨nI a b x l .none (oB eX k),Z.bj⟩,fD 9 λ_=>rfl⟩
 |some L=>
  induction k with
  |none=>exact⟨⟨nI a b x l (eX L) .none,Z.bj⟩,fD 9 λ_=>rfl⟩
  |some v=>
   have w:cF (cm vo 3) ⟨nI a b x l (eX L) (eX v),Z.bj⟩ .next ⟨nI a b x l (eX L) (eX v),Z.bj⟩:=k5 9 λ_=>rfl;have p:∀{B},Nat.beq L.1 v.1=B->ao (.aw .cC (.sub (.F 43) (.lit (.int 0))) (.sub (.F 44) (.lit (.int 0)))) ⟨nI a b x l (eX L) (eX v),Z.bj⟩ (.bool (!B)) Z.bj:=λe=>e▸eK 9 λ_=>rfl;have i:∀{B},Nat.blt v.1 L.1=B->ao (.aw .gt (.sub (.F 43) (.lit (.int 0))) (.sub (.F 44) (.lit (.int 0)))) ⟨nI a b x l (eX L) (eX v),Z.bj⟩ (.bool B) Z.bj:=λe=>e▸eK 9 λ_=>rfl;unfold hU;dsimp only;generalize g:Nat.beq L.1 v.1=N;induction N with
   |true=>exact⟨_,M w (M (cX (p g) rfl) (fD 9 λn=>Vl n v.2))⟩
   |false=>
    generalize f:Nat.blt v.1 L.1=N;induction N with|true=>exact⟨_,M w (bG (c1 (p g) rfl (bG (cb (lG (i f) rfl u)))))⟩|false=>exact⟨_,M w (bG (c1 (p g) rfl (bG (cb (jS (i f) rfl u)))))⟩
def OL(L:dQ (cg 60) [.ay [d,f,c,.ah .S T,e],.ae [s,b,p],x])(K:fO .S (pX p s)=some g)(i:fO .S x=some G)(P:bL T g=own.map eX)(N:bL T G=a.map eX):
  aY .pure 129 [.ay [d,f,c,.ah .S T,e],.ae [s,b,p],x] h (hT (hU own a)) h:=
 (Vm own a).elim λO z=>kr L rfl rfl rfl (M (dk (bw J u rfl)) (M (dk (kA J rfl (aq (Pr (O:=.lit .none) J)) rfl (ou (vf K P)))) (M (dk (kA J rfl (aq J) rfl (ou (vf i N)))) z))) H4.1 (H4 (h:=h)).2
def eZ(x:Nat×Nat):V:=.ay [.int (.ofNat (x.1+1)),eb x.2]
def UH{u v:Nat}{P:Prop}(a:Nat.blt v u->Nat.beq u v=false->P)(b:Nat.blt v u=false->Nat.blt u v->Nat.beq u v=false->P)(c:Nat.blt v u=false->Nat.blt u v=false->Nat.beq u v->P):P:=by have f:∀{x y:Nat},Nat.blt y x->Nat.beq x y=false:=λz=>W3.mpr λq=>WZ (dY z) (We q);have n:∀{x y:Nat},¬y<x->Nat.blt y x=false:=λz=>W3.mpr λq=>z (dY q);exact(Nat.lt_trichotomy u v).elim (λl=>b (n (Nat.lt_asymm l)) (dE l) (W3.mpr λq=>Wv l (We q))) λl=>l.elim (λe=>c (n λz=>Wv z e.symm) (n λz=>Wv z e) (e▸WA u)) λl=>a (dE l) (f (dE l))
abbrev oN(G K F:V)(r t:Int):YS:=Zx [(33,G),(24,.int r),(26,.int t),(43,K),(44,F)]
def Ta{G:V}{r t:Int}{u:V}(v:Nat)(n p:Nat):(eF (n+9)).x (vr.body.drop 5) ⟨oN G u (.ay [.int (.ofNat (v+1)),eb p]) r t,h⟩=some (.ret (jz (A4 p)),⟨oN G u (.ay [.int (.ofNat (v+1)),eb p]) r t,h⟩):=match p with
 |0=>rfl
 |1=>rfl
 |2=>rfl
 |_+3=>rfl
def Tb{r t:Int}(P k:Ze (Nat×Nat)):bE (vr.body.drop 2) ⟨oN G (oB eZ P) (oB eZ k) r t,h⟩ (.ret (jz (hU P k))) ⟨oN G (oB eZ P) (oB eZ k) r t,h⟩:=by
 induction P with
 |none=>exact fD 9 λ_=>rfl
 |some L=>
  induction k with
  |none=>exact fD 9 λ_=>rfl
  |some v=>
   have w:cF (cm vr 2) ⟨oN G (eZ L) (eZ v) r t,h⟩ .next ⟨oN G (eZ L) (eZ v) r t,h⟩:=k5 9 λ_=>rfl;have D:∀{B},Nat.blt v.1 L.1=B->ao (.aw .gt (.sub (.F 43) (.lit (.int 0))) (.sub (.F 44) (.lit (.int 0)))) ⟨oN G (eZ L) (eZ v) r t,h⟩ (.bool B) h:=λe=>e▸eK 9 λ_=>rfl;have p:∀{B},Nat.blt L.1 v.1=B->ao (.aw .lt (.sub (.F 43) (.lit (.int 0))) (.sub (.F 44) (.lit (.int 0)))) ⟨oN G (eZ L) (eZ v) r t,h⟩ (.bool B) h:=λe=>e▸eK 9 λ_=>rfl;unfold hU;dsimp only;refine UH (u:=L.1) (v:=v.1) (λa b=>?_) (λa b c=>?_) λa b c=>?_
   .rw[b,a];exact M w (bG (c1 (D a) rfl (bG (cb u))))
   .rw[c,a];exact M w (M (cX (D a) rfl) (bG (c1 (p b) rfl (bG (cb u)))))
   .rw[c];exact M w (M (cX (D a) rfl) (M (cX (p b) rfl) (fD 9 λn=>Ta v.1 n v.2)))
def S9{r t L:Int}(x:bM h G 41=some (.ah .I a))(f:bM h G 31=some (.ae Q))(c:cZ (.ae Q) (.int r) h=some R)(d:bM h R 42=some (.int L))(P:bL a (.i L)=own.map eZ)(N:bL a (.i t)=b.map eZ):aY .inl 25 [G,.int r,.int t] h (jz (hU own b)) h:=
 cH rfl rfl (M (dk (kA (a9 J x) rfl (aq (a9 (bw (a9 J f) J c) d)) rfl (ou (vf (k:=.I) (x:=.int L) rfl P)))) (M (dk (kA (a9 J x) rfl (aq J) rfl (ou (vf (k:=.I) (x:=.int t) rfl N)))) (Tb own b)))
def fy(O:List dC):Nat->Ze (Nat×Nat):=
 O.rec (λ_=>none) λm _ S j=>match Nat.beq m.1 j with
  |true=>some m.2
  |false=>S j
def er(G:List dC):YT:=G.map λe=>(.i (.ofNat (4+e.1)),eZ e.2)
def lO(O:YZ):Nat->Nat:=Zx (O.rec (λ_=>0) λx _ S i=>match i with
  |0=>x
  |i+1=>S i)
noncomputable def C.bC(o:C)(j:Nat):Nat:=match o with
 |.lu=>match j with|2=>0|i=>j
 |.lA=>match j with|3=>0|i=>j
 |_=>j
def C.le(j:C)(u o:Nat):Nat:=match u with
 |0=>j.bC o
 |1=>0
 |_=>j.aD-1
def e4(E:C)(O:YZ)(i:Nat):V:=.ae [dG E (E.bC i),.bool (Nat.beq i E.k),fM gV E.jZ (lO O i)]
def br(E:C)(O:YZ)(G:List dC)(i j:Nat):b':=hU (fy G (E.le (lO O i) i)) (fy G j)
def NH(E:C):E.eB=(aB 0 E.R).map λi=>dG E (E.bC i):=by induction E<;>rfl
def A9(E:C):E.hS=(aB 0 E.k).map (dG E):=by induction E<;>rfl
def M'(O:YZ):∀{i p:Nat}{r:YZ},O.drop i=p::r->lO O i=p:=by
 induction O with
 |nil=>intro i p r h;induction i<;>nomatch h
 |cons x O S=>intro i p r h;induction i with|zero=>exact(W5 h).1|succ i=>exact S h
def RR{k:Nat}{b:V}{g:Nat->V}{O:YZ}(n:Nat):∀{i:Nat}{a:YZ},O.drop i=a->a.length=n->nc k b ((aB i n).map g) a i=(aB i n).map λB=>.ae [g B,.bool (Nat.beq B k),fM gV b (lO O B)]:=by
 induction n with
 |zero=>exactλ_ _=>rfl
 |succ n S=>
  intro i a h l;induction a with
  |nil=>nomatch l
  |cons p r=>
   refine(?_:V.ae [g i,.bool (Nat.beq i k),fM gV b p]::nc k b ((aB (i+1) n).map g) r (i+1)=_::_);rw[S (i:=i+1) (a:=r) (by rw[<-List.tail_drop,h];rfl) (XC l)]
   refine(?_:_=V.ae [g i,.bool (Nat.beq i k),fM gV b (lO O i)]::_);rw[M' O h];rfl
def ni{E:C}{O:YZ}(h:O.length=E.eB.length):qj E O=(aB 0 E.R).map (e4 E O):=by unfold qj;rw[NH E];exact RR (O:=O) (k:=E.k) (b:=E.jZ) (g:=λi=>dG E (E.bC i)) E.R (i:=0) rfl (h.trans ((by induction E<;>rfl)))
def B2{g:V->Bool}{l:YU}(h:∀x∈l,g x):dQ g l:=by
 induction l with
 |nil=>rfl
 |cons x r S=>
  refine(?_:(match g x with|true=>dQ g r|false=>false)=true)
  rw[h x (.head _)];exact S λy m=>h y (.tail _ m)
def jL{α:Type}{g:V->Bool}{f:α->V}{l:List α}(h:∀x,g (f x)):dQ g (l.map f):=B2 λ_ m=>(WN.mp m).elim λy z=>z.2▸h y
def cf{g:V->Bool}{x:V}{r:YU}(a:g x)(b:dQ g r):dQ g (x::r):=by
 refine(?_:(match g x with|true=>dQ g r|false=>false)=true)
 rw[a];exact b
def hh{f:Nat}{l:YU}(h:dQ (cg f) l):cg (f+1) (.ae l):=h
def qX{f:Nat}{l:YU}(h:dQ (cg f) l):cg (f+1) (.ay l):=h
def u'{f:Nat}{k:eS}{l:YT}(h:lx (cg f) l):cg (f+1) (.ah k l):=h
def yo{α:Type}{g:V->Bool}{k:α->aE}{f:α->V}{l:List α}(h:∀x,g (f x)):lx g (l.map λx=>(k x,f x)):=by
 induction l with
 |nil=>rfl
 |cons x r S=>
  refine(?_:(match g (f x)with|true=>lx g (r.map λx=>(k x,f x))|false=>false)=true)
  rw[h x];exact S
section
variable{E:C}{O:YZ}{G:List dC}
def KL:cg (f+1) (fM gV E.jZ p):=match p with
 |0=>rfl
 |1=>rfl
 |_+2=>by induction E<;>rfl
def so:cg (f+1) (eb p):=match p with
 |0=>rfl
 |1=>rfl
 |2=>rfl
 |_+3=>rfl
def CC:cg (f+2) (e4 E O i):=hh (cf rfl (cf rfl (cf KL rfl)))
def KI:lx (cg (f+2)) (er G):=yo (f:=λe:dC=>eZ e.2) λ_=>qX (cf rfl (cf so rfl))
def vc(V:O.length=E.eB.length):cg (f+4) (bN E O G a g b):=
 qX (cf (by induction E<;>rfl) (cf (by induction E<;>rfl) (cf (hh (by rw[ni V];exact jL (g:=cg (f+2)) (f:=e4 E O) λ_=>CC)) (cf (u' (yo (g:=cg (f+2)) (f:=λe:dC=>eX e.2) λ_=>(qX (cf rfl (cf so rfl))))) (cf (hh (cf so (cf so (cf so rfl)))) rfl)))))
def NG(E:C):((aB 0 E.R).all λi=>Nat.blt (E.bC i) E.aD&&Nat.blt 0 E.aD&&Nat.blt (E.aD-1) E.aD):=by induction E<;>rfl
def pV(h:i<E.R):E.le p i<E.aD:=by
 have z:=a4 (Wn.mp (NG E) i (gE _ (Ww _) (by rw[Wj];exact h)))
 have y:=a4 z.1;exact match p with
 |0=>dY y.1
 |1=>dY y.2
 |_+2=>dY z.2
def Fq:pX (fM gV E.jZ p) (dG E (E.bC i))=dG E (E.le p i):=match p with
 |0=>rfl
 |1=>rfl
 |_+2=>by induction E<;>rfl
def z5(P:B<E.aD):∀{G:List dC},(∀e∈G,e.1<E.aD)->bL (iE E G) (.s (fz E B))=(fy G B).map eX:=by
 intro G;induction G with
 |nil=>exactλ_=>rfl
 |cons e r S=>
  intro h;refine(?_:(match cJ (.s (fz E e.1)) (.s (fz E B))with|true=>some (eX e.2)|false=>bL (iE E r) (.s (fz E B)))=(match Nat.beq e.1 B with|true=>some e.2|false=>fy r B).map eX)
  rw[Ar (h _ (.head _)) P];generalize Nat.beq e.1 B=N;induction N with|true=>rfl|false=>exact S λe m=>h e (.tail _ m)
def uW{i j:Nat}:Nat.beq (4+i) (4+j)=Nat.beq i j:=by rw[Wm 4,Wm 4];rfl
def wk:∀{G:List dC},bL (er G) (.i (.ofNat (4+B)))=(fy G B).map eZ:=by
 intro G;induction G with
 |nil=>rfl
 |cons e r S=>
  refine(?_:(match Nat.beq (4+e.1) (4+B)with|true=>some (eZ e.2)|false=>bL (er r) (.i (.ofNat (4+B))))=(match Nat.beq e.1 B with|true=>some e.2|false=>fy r B).map eZ)
  rw[uW];generalize Nat.beq e.1 B=N;induction N with|true=>rfl|false=>exact S
def BJ(V:O.length=E.eB.length)(s:d0 E.aD G)(A:i<E.R)(P:B<E.aD):aY .pure 129 [bN E O G a g b,e4 E O i,dG E B] h (hT (br E O G i B)) h:=
 OL (cf (vc V) (cf CC rfl)) (by rw[Fq];rfl) rfl (z5 (pV A) s.lt) (z5 P s.lt)
end
def gG(P:Nat->Prop)(O:YZ):Prop:=
 O.rec True λx _ S=>P x/\S
def gG.at(o:gG c' a')(j:f'∈a'):c' f':=by
 induction a' with
 |nil=>exact es j
 |cons J C u=>cases j with
  |head=>exact o.1
  |tail _ j=>exact u o.2 j
def gG.lt(j:gG a' (aB 0 f'))(o:c'<f'):a' c':=j.at (gE _ (Ww _) (by rw[Wj];exact o))
def QS(O:YU):Nat->YT:=
 O.rec (λ_=>[]) λv _ S i=>match v with
  |.str s=>(.s s,I i)::S (i+1)
  |_=>S (i+1)
abbrev iI(E:C):YT:=QS E.names 0
noncomputable abbrev b1(E:C):Nat:=E.aG+1
def Ax(E:C):bL (iI E) (.s Zf)=some (I (b1 E)):=by induction E<;>rfl
def QT(E:C):bL (iI E) (.s Zr)=some (I E.aG):=by induction E<;>rfl
def QV(E:C):gG (λB=>bL (iI E) (.s (fz E B))=some (I (4+B))) (aB 0 E.aD):=by induction E<;>(repeat' apply And.intro)<;>first|rfl|trivial
def Ay(h:B<a.aD):bL (iI a) (.s (fz a B))=some (I (4+B)):=(QV a).lt h
noncomputable def qh(b:Bool)(e ns:Nat):YZ:=match b with
 |true=>[ns,e]
 |false=>[e,ns,e]
def ft(N:YT)(y:YU):Z:=Zx ⟨.node (some (.ah .S N 0)) (.node (some (.ae y 0)) .nil .nil) .nil,2⟩
abbrev lL(E:C)(O:YZ)(G:List dC)(k g K:Nat)(d:Int):YS:=
 [(170,bN E O G k g K),(113,.int d),(163,.ae E.hS),(164,E.je),(31,.ae (qj E O)),(169,.ah .S (iE E G)),(168,.ae [eb k,eb g,eb K]),(15,.ae E.names),(22,.ref 0),(171,.ref 1)]
abbrev xG(s:Y')(b:Bool)(p:V):YS:=Zx [(166,.str s),(172,.bool b),(167,p)]
def mO(e:au A 22=some (.ref 0))(B:ao a ⟨A,ft N y⟩ c (ft N y))(t:fO .S c=some q)(d:bL N q=some (I b)):ao (.sub (.F 22) a) ⟨A,ft N y⟩ (I b) (ft N y):=bw (J e) B (lN rfl t d)
def zl(R:VN y<900)(f:au A 22=some (.ref 0))(d:au A 171=some (.ref 1))(O:bL N (.s Zf)=some (I e))(b:ao a ⟨A,ft N y⟩ (kn r) (ft N y))(F:ao c ⟨A,ft N y⟩ (I g) (ft N y)):cF (.expr (.aC (.F 171) 8192 [(.new 17 [(.bq false .len [(.F 171)]),(.sub (.F 22) (.lit (.str Zf))),a,c])])) ⟨A,ft N y⟩ .next ⟨A,ft N (U y [dB (VN y) e r (.ofNat g)])⟩:=
 de (fW (N:=ft N y) (J d) rfl (aq (iA (aI (d3 (aq (J d)) rfl) (aI (mO f u rfl O) (aI b (aq F)))) (fo 9 λ_=>by kernel_rfl))) rfl (hq (a:=y) rfl (dV (Wg R (Wb rfl))))) rfl
def Nt(R:VN y<900)(O:bL N (.s Zf)=some (I e))(n:bL N (.s s)=some (I a))(o:fO .S (pX p (.str s))=some q)(k:bL N q=some (I r)):
  ∃l,bE (cA (cm sO 4)) ⟨U (lL m i G f g h d) (xG s b p),ft N y⟩ .next ⟨U (lL m i G f g h d) (U (xG s b p) l),ft N (U y [dB (VN y) e (qh b e a) (.ofNat r)])⟩:=by
 have c:∀{l},ao (.aw .is (.F 167) (.lit .none)) ⟨U (lL m i G f g h d) (U (xG s b p) l),ft N y⟩ (.bool (iC p)) (ft N y):=bF J u rfl;have D:∀{l},ao (.ite (.aw .is (.F 167) (.lit .none)) (.F 166) (.F 167)) ⟨U (lL m i G f g h d) (U (xG s b p) l),ft N y⟩ (pX p (.str s)) (ft N y):=λ{l}=>by
  unfold pX;have c:=c (l:=l);generalize V:iC p=t;induction t with|true=>rw[V] at c;exact lG c rfl J|false=>rw[V] at c;exact jS c rfl J
 induction b with|true=>exact⟨[(173,.ae [.str s,.str Zf]),(34,kn [a,e])],M (dk (lG J rfl (fq (aI J (aq u))))) (M (dk (d3 (aq (h3 (c8 J rfl) rfl rfl (fX rfl (mO rfl J rfl n) (fX rfl (mO rfl J rfl O) gD)) rfl)) rfl)) (M (zl R rfl rfl O J (mO rfl D o k)) ba))⟩|false=>exact⟨[(173,.ae [.str Zf,.str s,.str Zf]),(34,kn [e,a,e])],M (dk (jS J rfl (fq (aI u (aI J (aq u)))))) (M (dk (d3 (aq (h3 (c8 J rfl) rfl rfl (fX rfl (mO rfl J rfl O) (fX rfl (mO rfl J rfl n) (fX rfl (mO rfl J rfl O) gD))) rfl)) rfl)) (M (zl R rfl rfl O J (mO rfl D o k)) ba))⟩
def rQ(E:C):V:=dB 0 E.aG [b1 E,0] 0
def kO(E:C)(O:YZ)(i:Nat):Int:=.ofNat (4+E.le (lO O i) i)
def rR(E:C)(O:YZ)(i:Nat):V:=dB (i+1) (b1 E) (qh (Nat.beq i E.k) (b1 E) (4+E.bC i)) (kO E O i)
def Nu(k:bE (sO.body.drop 4) ⟨lL a e G b g c d,ft (iI a) [rQ a]⟩ i f):bE sO.body ⟨[(170,bN a e G b g c),(113,.int d)],Z.bj⟩ i f:=
 nJ 4 (fD 29 λ_=>by induction a<;>kernel_rfl) k
def Nv(m:Nat):∀{i:Nat}{y:YU},i+m=a.R->VN y=i+1->VN y+m<900->cS [166,172,167] (cA (cm sO 4)) ((aB i m).map (e4 a b)) ⟨lL a b G c g e d,ft (iI a) y⟩ .next ⟨lL a b G c g e d,ft (iI a) (U y ((aB i m).map (rR a b)))⟩:=by
 induction m with
 |zero=>exactλ{i y} _ _ _=>by exact(show(aB i 0).map (rR a b)=[] from rfl)▸eG▸dq
 |succ m S=>
  intro i y Q D R;have A:=Q▸WD (Wx m);have z:=S (i:=i+1) (y:=U y [rR a b i]) (by rw[<-Q,Wl,Wm 1]) (by rw[iD,D];rfl) (ly R)
  rw[eJ] at z;refine(Nt (m:=a) (i:=b) (G:=G) (f:=c) (g:=g) (h:=e) (d:=d) (y:=y) (s:=fz a (a.bC i)) (b:=Nat.beq i a.k) (p:=fM gV a.jZ (lO b i)) (q:=.s (fz a (a.le (lO b i) i))) (ho R) (Ax a) (Ay (pV (p:=0) A)) (Wd (fO .S) Fq) (Ay (pV A))).elim λl v=>?_;rw[D] at v;exact cW rfl v rfl z
def Py(h:fy G B=some x):fy (U G b) B=some x:=by
 induction G with
 |nil=>exact cB h
 |cons e r S=>
  have h:(match Nat.beq e.1 B with|true=>some e.2|false=>fy r B)=some x:=h
  show(match Nat.beq e.1 B with|true=>some e.2|false=>fy (U r b) B)=some x
  generalize a:Nat.beq e.1 B=N;induction N with|true=>rw[a] at h;exact h|false=>rw[a] at h;exact S h
def Pz(h:∀e∈G,e.1<B):fy (U G b) B=fy b B:=by
 induction G with
 |nil=>rfl
 |cons e r S=>
  refine(?_:(match Nat.beq e.1 B with|true=>some e.2|false=>fy (U r b) B)=_)
  rw[show Nat.beq e.1 B=false from W3.mpr λz=>Wv (h e (.head _)) (We z)];exact S λy L=>h y (.tail _ L)
def d0.au(j:d0 f' c'):∀a'∈c',fy c' a'.1=some a'.2:=by
 induction j with
 |nil=>exactλ_ j=>es j
 |qn j J C=>
  intro a' u;rw[cQ] at u;refine(WU.mp u).elim (λo=>Py (C a' o)) λo=>?_;rw[Ws.mp o,Pz j.lt];refine(?_:(match Nat.beq _ _ with|true=>_|false=>_)=_)
  rw[WA]
def xH(e:dC):V:=.ay [I (4+e.1),eZ e.2]
def L4:E:=Zx (.ay [(.sub (.F 22) (.F 166)),(.ay [(.a7 .add false (.sub (.sub (.F 169) (.F 166)) (.lit (.int 0))) (.lit (.int 1))),(.sub (.sub (.F 169) (.F 166)) (.lit (.int 1)))])])
def O8(s:d0 a.aD G)(r:List dC):(∀e∈r,e∈G)->eT [166] L4 none (lL a f G b g c d) (ib (iE a r)) (ft (iI a) y) (r.map xH) (ft (iI a) y):=by
 induction r with
 |nil=>exactλ_=>gD
 |cons e r S=>
  intro F;have H:=F e (.head _);have P:=s.lt e H;have R:ao (.sub (.F 169) (.F 166)) ⟨U (lL a f G b g c d) [(166,dG a e.1)],ft (iI a) y⟩ (eX e.2) (ft (iI a) y):=bw (J rfl) (J rfl) (show bL (iE a G) (.s (fz a e.1))=_ by rw[z5 P s.lt,s.au e H];rfl)
  exact fX rfl (d7 (aI (mO rfl J rfl (Ay P)) (aq (d7 (aI (cV (bw R u rfl) u rfl) (aq (bw R u rfl))))))) (S λx B=>F x (.tail _ B))
def PK(h:∀e∈G,e.1<B):cU (er G) (.i (.ofNat (4+B))) (eZ x)=er (U G [(B,x)]):=by
 induction G with
 |nil=>rfl
 |cons e r S=>
  refine(?_:(match Nat.beq (4+e.1) (4+B)with|true=>_|false=>(aE.i (.ofNat (4+e.1)),eZ e.2)::cU (er r) (.i (.ofNat (4+B))) (eZ x))=_)
  rw[uW,show Nat.beq e.1 B=false from W3.mpr λz=>Wv (h e (.head _)) (We z)];exact Wd (_::·) (S λy L=>h y (.tail _ L))
def Ru:∀{d g:YT},kV .I (l.map xH) d=some g->kV .I ((U l [e]).map xH) d=some (cU g (.i (.ofNat (4+e.1))) (eZ e.2)):=by
 induction l with|nil=>exactλh=>Wd (λd=>some (cU d _ _)) (Wc h)|cons x r S=>exactλh=>S h
def O9(h:d0 m G):kV .I (G.map xH) []=some (er G):=by
 induction h with|nil=>rfl|qn h l S=>rw[Ru S,PK h.lt]
def U7:gU (ct (f+1) h) (er G)=some (er G):=by
 induction G with|nil=>rfl|cons e r S=>exact a6 rfl (a6 S rfl)
def zi(N:YT)(y:YU)(K:YT):Z:=Zx ⟨.node (some (.ah .S N 0)) (.node (some (.ae y 0)) .nil .nil) (.node (some (.ah .I K 0)) .nil .nil),3⟩
def C.i2(u:C)(o:Nat->Int):YU:=match bM Z.bj (cv u o [] 0) 31 with
 |some (.ae j)=>j
 |_=>[]
def DQ(E:C)(d:Int):YU:=[.ae E.names,I E.aG,.ref 1,.ref 2,.int d,I (b1 E)]
def ri(E:C)(L:Nat->Int)(K:YT)(d:Int):Z:=(((eF 40).c .ef 18 (DQ E d) (zi (iI E) (E.i2 L) K)).getD default).2
def M3(E:C)(L:Nat->Int)(K:YT)(d:Int):aY .ef 18 (DQ E d) (zi (iI E) (E.i2 L) K) (.ref 3) (ri E L K d):=fo 40 λ_=>by induction E<;>kernel_rfl
def HV(e:h.get p=some (.ins c P))(g:gg (ct f h) P=some a):ct (f+1) h (.ref p)=some (.ins c false a):=by unfold ct;dsimp only;rw[e];exact a6 g rfl
def BE(e:h.get p=some (.ah k P l))(g:gU (ct f h) P=some a):ct (f+1) h (.ref p)=some (.ah k a):=by unfold ct;dsimp only;rw[e];exact a6 g rfl
def FK(e:gg g a=some A)(d:g x=some y)(b:gg g r=some t):gg g (U a ((k,x)::r))=some (U A ((k,y)::t)):=by
 induction a generalizing A with
 |nil=>exact(Wc e)▸a6 d (a6 b rfl)
 |cons z a S=>
  have e:Y (g z.2) (λv=>Y (gg g a) λl=>some ((z.1,v)::l))=some A:=e;refine(?_:Y (g z.2) (λv=>Y (gg g (U a _)) λl=>some ((z.1,v)::l))=_);generalize g z.2=o at e⊢;induction o with
  |none=>exact cB e
  |some v=>
   have e:Y (gg g a) (λl=>some ((z.1,v)::l))=some A:=e;generalize I:gg g a=o at e S;induction o with|none=>exact cB e|some l=>exact Wc e▸a6 rfl (a6 (S rfl) rfl)
def sZ(E:C)(r:V):YS:=[(15,.ae E.names),(16,I E.aG),(31,r)]
def DT(E:C)(d:Int):YS:=[(113,.int d),(68,I (b1 E)),(114,.ref (E.aG+6)),(115,.ref (E.aG+7)),(116,.ref (E.aG+8)),(117,I (3*(E.R-E.k)+4*E.k+5))]
def M1(v:V):YS:=Zx (match v with
 |.ins _ _ l=>l
 |_=>[])
abbrev zk(E:C)(d:Int):YS:=(M1 (cv E (λ_=>0) [] d)).drop 4
def DS(E:C)(L:Nat->Int)(K:YT)(d:Int):(ri E L K d).get 3=some (.ins 18 (U (sZ E (.ref 1)) ((41,.ref 2)::DT E d)))/\gg (ct 11 (ri E L K d)) (sZ E (.ref 1))=some (sZ E (.ae (E.i2 L)))/\(ri E L K d).get 2=some (.ah .I K 0)/\gg (ct 11 (ri E L K d)) (DT E d)=some (zk E d)/\V.ins 18 false (U (sZ E (.ae (E.i2 L))) ((41,.ah .I K)::zk E d))=cv E L K d:=by induction E<;>exact⟨by kernel_rfl,by kernel_rfl,by kernel_rfl,by kernel_rfl,by kernel_rfl⟩
def M4(E:C)(L:Nat->Int)(G:List dC)(d:Int):ct 12 (ri E L (er G) d) (.ref 3)=some (cv E L (er G) d):=by have z:=DS E L (er G) d;exact(HV z.1 (FK z.2.1 (BE z.2.2.1 U7) z.2.2.2.1)).trans (Wd some z.2.2.2.2)
def BY(e:hD g a)(d:hD g b):hD g (U a b):=by
 induction a with
 |nil=>exact d
 |cons x r S=>
  have e:(match g x.2 with|true=>hD g r|false=>false)=true:=e
  refine(?_:(match g x.2 with|true=>hD g (U r b)|false=>false)=true)
  generalize h:g x.2=N;induction N with|true=>rw[h] at e;exact S e|false=>rw[h] at e;exact bb e
def iQ(a:g x)(b:hD g r):hD g ((k,x)::r):=by
 refine(?_:(match g x with|true=>hD g r|false=>false)=true)
 rw[a];exact b
def CB(E:C)(L:Nat->Int)(d:Int):hD (cg (f+5)) (sZ E (.ae (E.i2 L)))/\hD (cg (f+5)) (zk E d):=by induction E<;>exact⟨by kernel_rfl,by kernel_rfl⟩
def lE:cg (f+6) (cv a L (er G) d):=by rw[<-(DS a L (er G) d).2.2.2.2];exact(BY (CB a L d).1 (iQ (u' KI) (CB a L d).2):hD (cg (f+5)) _=true)
def Si(E:C)(L:Nat->Int):U (U [rQ E] ((aB 0 E.R).map λi=>dB (i+1) (b1 E) (qh (Nat.beq i E.k) (b1 E) (4+E.bC i)) (L i))) [dB (E.R+1) (b1 E) [3] 3]=E.i2 L:=by induction E<;>kernel_rfl
def JN(R:tR k)(a:d4 c h=some l)(b:kV k l []=some d):VY B (.dict k) [c] h=some (.ref h.n,h.new (.ah k d 0)):=a6 rfl (fL R (a6 a (a6 b rfl)))
def OY:VN (ib T)=VN T:=by
 induction T with|nil=>rfl|cons x r S=>exact Wd (·+1) S
def d0.len(j:d0 c' a'):Internal.VN a'<=c':=by
 induction j with|nil=>exact Ww _|qn j u o=>exact iD▸Wf o u
def OI(V:b.length=a.eB.length)(s:d0 a.aD G):aY .pure 128 [bN a b G c g e,.int d] h (cv a (kO a b) (er G) d) h:=by
 have T:=Nv (b:=b) (G:=G) (c:=c) (g:=g) (e:=e) (d:=d) a.R (i:=0) (y:=[rQ a]) (Wj _) rfl (by induction a<;>exact Wb rfl)
 rw[<-ni V] at T;have f:VN (U [rQ a] ((aB 0 a.R).map (rR a b)))=a.R+1:=by induction a<;>rfl
 have i:=zl (e:=b1 a) (g:=3) (A:=lL a b G c g e d) (N:=iI a) (y:=U [rQ a] ((aB 0 a.R).map (rR a b))) (a:=.ay [.lit (.int 3)]) (c:=.lit (.int 3)) (r:=[3]) (by rw[f];induction a<;>exact Wb rfl) rfl rfl (Ax a) (d7 (aq u)) u
 rw[f] at i;have q:U (U [rQ a] ((aB 0 a.R).map (rR a b))) [dB (a.R+1) (b1 a) [3] (.ofNat 3)]=a.i2 (kO a b):=Si a (kO a b);rw[q] at i;refine kr (cf (vc V) rfl) rfl rfl rfl (Nu (M (da (c8 J rfl) rfl T rfl) (M i (M (cI (P:=zi (iI a) (a.i2 (kO a b)) (er G)) (d3 (aq (h3 (c8 J rfl) (dV (by rw[OY];unfold iE;rw[c9];exact Wf s.len (WJ (Dd a) (Wb rfl)))) rfl (O8 s G λ_ h=>h) rfl)) ((JN rfl rfl (O9 s)).trans (by kernel_rfl)))) (bG (cb (iA (aI J (aI (bw J u (lN rfl rfl (QT a))) (aI J (aI J (aI J (aq (bw J u (lN rfl rfl (Ax a))))))))) (M3 a (kO a b) (er G) d)))))))) (M4 ..) lE
def PG(D:x.m<2 ^ 40)(X:∀b∈gc x.m,b<=64/\∀h,aY .inl 25 [G,I r,I b] h (jz (w b)) h)(L:VN x.dR+(gc x.m).length<1000):aY .inl 27 [.ref a.n] (W a (dm a G q r 0 Q x)) .none (W a (dm a G q r 0 Q (sU r w (gc x.m) x))):=
 gM rfl rfl (M (da (c8 (a9 J (fx 0 rfl rfl)) (uj (cw _ rfl))) (pS 3 rfl) (cW rfl (M (da (c8 (c7 (aq (bw J u (mX 4 rfl rfl))) (yE D)) rfl) rfl (Tc (gc x.m) X L) rfl) ba) rfl dq) (pT 3 rfl)) ba)
def j4(n:Nat):∀{i:Nat},i0 (.ofNat i) n=(aB i n).map I:=by
 induction n with|zero=>exact rfl|succ n S=>exactλ{i}=>Wd (I i::·) (S)
def oR(n:Nat):∀{i:Nat},(aB i n).length=n:=by
 induction n with|zero=>exact rfl|succ n S=>exact Wd (·+1) S
def g6(n:Nat):∀{i:Nat},B∈aB i n->i<=B/\B<i+n:=by
 induction n with
 |zero=>exactλh=>es h
 |succ n S=>exactλ{i} h=>by cases h with
  |head=>exact⟨Wr _,WD (Wx n)⟩
  |tail _ h=>exact(S h).elim λa b=>⟨WX a,by rw[X0] at b;exact b⟩
def AX:VN (k1 x (i3 aG))=aG:=by unfold k1;rw[oo,oo,qi]
def xa:VN (kZ r aG x)=aG:=by unfold kZ k1;rw[oo,oo,oo,qi]
def wo(aG:Nat)(l:YZ):Bool:=Zx (l.all λn=>Nat.blt n aG)
def tE(h:wo aG l):∀a∈l,a<aG:=λa m=>dY (Wn.mp h a m)
def xb(aG:Nat)(x:hB):Bool:=wo aG (x.aa.map (·.1))&&(wo aG (gc x.b)&&(Nat.blt x.b (2 ^ 40)&&(wo aG (gc x.m)&&Nat.blt x.m (2 ^ 40))))
def f3(aG r m:Nat)(A:YW)(w:Nat->b'):hB:=sU r w (gc m) (i4 aG m A)
def PO(v:∀h,bM h G 16=some (I aG))(V:aG<65)(D:∀x∈A,au A x.1=some x.2)(f:A.length<1000)(R:bL mk (.t [.ofNat q,.ofNat r])=some (I m))(e:m<2 ^ 40)(X:∀a∈gc m,a<=64/\∀h,aY .inl 25 [G,I r,I a] h (jz (w a)) h)(L:(gc m).length<1000)(B:xb aG (f3 aG r m A w)):
  yb b G (iK q s g T A [r]) (.ah .T mk) q (kZ r aG (f3 aG r m A w)) (eV aG A []) ((qY (f3 aG r m A w).m (f3 aG r m A w).aa (kZ r aG (f3 aG r m A w)) (aB 0 aG)).map (eH q r)) ((f3 aG r m A w).dR.map (eH q r)):=by
 have P:=a4 B;have N:=a4 P.2;have t:=a4 N.2;have d:=a4 t.2;have c:∀{a},65<=a->aG<a:=λz=>Wg V z;exact .mk (dm b G q r 0 (eV aG A []) (i4 aG m A)) (dm b G q r 0 (eV aG A []) (f3 aG r m A w)) _ _ 5 _ _ _ _ (Sm v D f R) (PG e X (by rw[show VN (i4 aG m A).dR=0 from rfl,Wj];exact L)) (Sp v (c (Wb rfl)) (tE P.1) (tE N.1) (dY t.1) (tE d.1) (dY d.2)) (Lf v (c (Wb rfl)) (j4 aG) (by rw[oR];exact c (Wb rfl)) λa h=>by rw[xa];have z:=(g6 aG h).2;rw[Wj] at z;exact⟨z,WV (WJ z V)⟩) rfl rfl rfl rfl rfl rfl
def PN(v:∀h,bM h G 16=some (I aG))(V:aG<65)(D:∀x∈A,au A x.1=some x.2)(f:A.length<1000)(B:xb aG (i4 aG 0 A)):
  yb a G (iK q s g T A []) (.ah .T mk) q (k1 (i4 aG 0 A) (i3 aG)) (eV aG A []) [] []:=by
 have P:=a4 B;have N:=a4 P.2;have t:=a4 N.2;have b:∀{n},65<=n->aG<n:=λz=>Wg V z;exact .mk (jH a G q 0 (eV aG A []) (i4 aG 0 A)) (jH a G q 0 (eV aG A []) (i4 aG 0 A)) _ _ 4 _ _ _ _ (Sl v D f) (gM rfl rfl (M (da (c8 (a9 J (fx 0 rfl rfl)) (uj (cw _ rfl))) (pS 3 rfl) dq (pT 3 rfl)) ba)) (So v (b (Wb rfl)) (tE P.1) (tE N.1) (dY t.1)) (Le v (b (Wb rfl)) (j4 aG)) rfl rfl rfl rfl rfl rfl
noncomputable def hM(a b c:b'):Nat->b'
 |4=>a
 |5=>b
 |6=>c
 |_=>.dH
def eR(W:Nat->Nat->b')(R r:Nat):Nat->b':=match Nat.beq r (R+1)with
 |true=>hM .dH .dH .dH
 |false=>hM (W (r-1) 0) (W (r-1) 1) (W (r-1) 2)
def eM(E:C):Nat:=Zx (match E.k with
 |2=>49
 |_=>113)
def FA(h:a<4):bL (er G) (.i (.ofNat a))=none:=by
 induction G with
 |nil=>rfl
 |cons e r S=>
  refine(?_:(match Nat.beq (4+e.1) a with|true=>some (eZ e.2)|false=>bL (er r) (.i (.ofNat a)))=none)
  exact(show Nat.beq (4+e.1) a=false from W3.mpr λz=>Xk (Wq 4 e.1) (We z▸h))▸S
def jO(h:Y x f=some r):∃a,x=some a/\f a=some r:=by
 induction x with|none=>exact cB h|some a=>exact⟨a,rfl,h⟩
noncomputable abbrev Fs(E:C)(L:Nat->Int)(i:Nat):Int:=match Nat.beq i E.R with
 |true=>3
 |false=>L i
def Sj(E:C)(L:Nat->Int)(h:Z):gG (λi=>Y (cZ (.ae (E.i2 L)) (I (i+1)) h) (λR=>bM h R 42)=some (.int (Fs E L i))) (aB 0 (E.R+1)):=by induction E<;>(repeat' apply And.intro)<;>first|exact trivial|kernel_rfl
def rk(E:C)(L:Nat->Int)(K:YT)(d:Int)(h:Z):bM h (cv E L K d) 31=some (.ae (E.i2 L))/\bM h (cv E L K d) 41=some (.ah .I K)/\bM h (cv E L K d) 16=some (I E.aG)/\bM h (cv E L K d) 15=some (.ae E.names):=by induction E<;>exact⟨rfl,rfl,rfl,rfl⟩
abbrev fF(E:C)(O:YZ)(G:List dC)(d:Int):V:=cv E (kO E O) (er G) d
def Vk:hU a none=.dH:=by induction a<;>rfl
def wM(G:List dC)(n:Nat):Ze (Nat×Nat):=match n with
 |4=>fy G 0
 |5=>fy G 1
 |6=>fy G 2
 |_=>none
def AI(E:C)(O:YZ)(G:List dC)(i:Nat):Ze (Nat×Nat):=match Nat.beq i E.R with
 |true=>none
 |false=>fy G (E.le (lO O i) i)
def yD{P:Nat->Prop}(X:e=0\/e=4\/e=5\/e=6)(a:P 0)(b:P 4)(c:P 5)(d:P 6):P e:=X.elim (λz=>z▸a) λy=>y.elim (λz=>z▸b) λy=>y.elim (λz=>z▸c) λz=>z▸d
def Rk{P:Ze (Nat×Nat)}(X:a=0\/a=4\/a=5\/a=6):hU P (wM G a)=hM (hU P (fy G 0)) (hU P (fy G 1)) (hU P (fy G 2)) a:=yD (P:=λa=>hU P (wM G a)=hM (hU P (fy G 0)) (hU P (fy G 1)) (hU P (fy G 2)) a) X Vk rfl rfl rfl
def Rp(X:a=0\/a=4\/a=5\/a=6):hU (AI b c G i) (wM G a)=eR (br b c G) b.R (i+1) a:=by rw[Rk X];unfold eR AI;rw[show Nat.beq (i+1) (b.R+1)=Nat.beq i b.R from rfl];cases Nat.beq i b.R<;>rfl
def Nw(A:i<a.R+1)(X:b=0\/b=4\/b=5\/b=6):aY .inl 25 [fF a c G d,I (i+1),I b] h (jz (eR (br a c G) a.R (i+1) b)) h:=
 (jO ((Sj a (kO a c) h).lt A)).elim λR z=>Rp X▸S9 (rk a (kO a c) (er G) d h).2.1 (rk a (kO a c) (er G) d h).1 z.1 z.2 (by
  unfold Fs AI;generalize Nat.beq i a.R=N;induction N with|true=>exact FA (Wb rfl)|false=>exact wk) ((yD (P:=λb=>bL (er G) (.i (.ofNat b))=(wM G b).map eZ) X (FA (Wb rfl)) (wk (B:=0)) (wk (B:=1)) (wk (B:=2))))
def ji(g:b'->Bool):Bool:=Zx (g .gW&&(g .nx&&(g .iw&&g .dH)))
def mw(h:ji g)(w:b'):g w:=by have a:=a4 h;have b:=a4 a.2;have c:=a4 b.2;induction w<;>first|exact a.1|exact b.1|exact c.1|exact c.2
def xQ(r:Y1):Bool:=match a3 r 1 with
 |some i=>dr i 0
 |_=>false
def Ia(h:xQ r):a3 r 1=some 0:=by
 unfold xQ at h;generalize e:a3 r 1=N;induction N with|none=>rw[e] at h;exact bb h|some i=>rw[e] at h;exact Wd some (pN.mp h)
def vP(r:Nat)(l:Y1):Bool:=match oe r l 0 with
 |some c=>Nat.beq (qJ r c) r
 |none=>false
def Ef(h:vP r l):∃c,oe r l 0=some c/\qJ r c=r:=by
 unfold vP at h;generalize e:oe r l 0=N;induction N with|none=>rw[e] at h;exact bb h|some c=>rw[e] at h;exact⟨c,rfl,We h⟩
def Qe(m:Nat)(O:List d1):YT:=
 O.rec [] λs _ S=>match s.i1 with
  |[]=>S
  |x::_=>(.t [.ofNat s.q,.ofNat x],I m)::S
def ie(E:C):YT:=Qe (eM E) E.dS
def z3(o:Ze V)(m:Nat):Bool:=Zx (match o with
 |some (.int i)=>dr i (.ofNat m)
 |_=>false)
def Px(h:z3 H m):H=some (I m):=by
 induction H with
 |none=>exact bb h
 |some v=>induction v using V.casesOn with|int i=>exact Wd (λi=>some (V.int i)) (pN.mp h)|_=>exact bb h
def Aj(A:YW):Bool:=Nat.blt A.length 1000&&A.all λx=>match au A x.1 with
 |some y=>Nat.beq y x.2
 |none=>false
def FW(h:Aj A):∀x∈A,au A x.1=some x.2:=λx m=>by
 have z:=Wn.mp (a4 h).2 x m;generalize e:au A x.1=N;induction N with|none=>rw[e] at z;exact bb z|some y=>rw[e] at z;exact Wd some (We z)
def qU(aG q r:Nat)(x:hB):List (Nat×Int):=qY x.m x.aa (kZ r aG x) (aB 0 aG)
def AP(aG q r:Nat)(x:hB):Bool:=xb aG x&&(xQ (kZ r aG x)&&(vP r (kZ r aG x)&&(Nat.ble (VN (qU aG q r x)) 8&&Nat.ble (VN x.dR) 8)))
def A3(E:C)(s:d1):Bool:=Aj s.eN&&match s.i1 with
 |[]=>xb E.aG (i4 E.aG 0 s.eN)&&(xQ (k1 (i4 E.aG 0 s.eN) (i3 E.aG))&&vP 0 (k1 (i4 E.aG 0 s.eN) (i3 E.aG)))
 |[r]=>Nat.blt 0 r&&(Nat.blt (r-1) (E.R+1)&&(z3 (bL (ie E) (.t [.ofNat s.q,.ofNat r])) (eM E)&&ji λa=>ji λb=>ji λc=>AP E.aG s.q r (f3 E.aG r (eM E) s.eN (hM a b c))))
 |_=>false
def SW(E:C):E.dS.all (A3 E):=by induction E<;>kernel_rfl
def ka(E:C)(W:Nat->Nat->b')(p:Bool)(f:gb)(s:d1):gb:=match s.i1 with
 |[]=>nC f (gO p 0) (eV E.aG s.eN []) (k1 (i4 E.aG 0 s.eN) (i3 E.aG)) [] []
 |r::_=>nC f (gO p r) (eV E.aG s.eN []) (kZ r E.aG (f3 E.aG r (eM E) s.eN (eR W E.R r))) ((qU E.aG s.q r (f3 E.aG r (eM E) s.eN (eR W E.R r))).map (eH s.q r)) ((f3 E.aG r (eM E) s.eN (eR W E.R r)).dR.map (eH s.q r))
def kD(E:C)(W:Nat->Nat->b')(p:Bool)(O:List d1):gb->gb:=
 O.rec (λf=>f) λs _ S f=>S (ka E W p f s)
def nD(E:C):5<E.aG/\E.aG<65/\eM E<2 ^ 40/\(gc (eM E)).length<1000:=by induction E<;>exact⟨Wb rfl,Wb rfl,Wb rfl,Wb rfl⟩
def FL(E:C):∀a∈gc (eM E),a=0\/a=4\/a=5\/a=6:=by
 have z:((gc (eM E)).all λa=>Nat.beq a 0||(Nat.beq a 4||(Nat.beq a 5||Nat.beq a 6))):=by induction E<;>kernel_rfl
 exactλa m=>(Xd.mp (Wn.mp z a m)).imp We λy=>(Xd.mp y).imp We λy=>(Xd.mp y).imp We We
section
variable{E:C}{X:YZ}{G:List dC}{d:Int}{p:Bool}
def H3{W:Nat->Nat->b'}{P:(Nat->b')->Bool}(h:(ji λa=>ji λb=>ji λc=>P (hM a b c))):P (eR W R r):=by
 unfold eR;generalize Nat.beq r (R+1)=N;induction N with|true=>exact mw (mw (mw h .dH) .dH) .dH|false=>exact mw (mw (mw h _) _) _
def lT(z:65<=a):E.aG<a:=Wg (nD E).2.1 z
def DR(h:Z):bM h (fF E X G d) 16=some (I E.aG):=(rk E (kO E X) (er G) d h).2.2.1
abbrev BN(E:C)(X:YZ)(G:List dC)(d:Int)(p:Bool)(f:gb)(J:List (Ze O))(k:Nat)(v:V)(P:gb):Prop:=∃l I,bE (cA (cm sR 5)) ⟨U (lK (hs E (fF E X G d)) (.ah .T (ie E)) p) [(25,v)],dP f J⟩ .next ⟨U (lK (hs E (fF E X G d)) (.ah .T (ie E)) p) ((25,v)::l),dP P I⟩/\nK P k
variable{f:gb}{k:Nat}
def MH(b:Aj A)(F:Nat.blt r (E.R+1))(o:z3 (bL (ie E) (.t [.ofNat q,.ofNat (r+1)])) (eM E))(y:AP E.aG q (r+1) (f3 E.aG (r+1) (eM E) A (eR (br E X G) E.R (r+1))))(R:nK f (k+1)):
  BN E X G d p f a k (iK q s g T A [r+1]) (nC f (gO p (r+1)) (eV E.aG A []) (kZ (r+1) E.aG (f3 E.aG (r+1) (eM E) A (eR (br E X G) E.R (r+1)))) ((qU E.aG q (r+1) (f3 E.aG (r+1) (eM E) A (eR (br E X G) E.R (r+1)))).map (eH q (r+1))) ((f3 E.aG (r+1) (eM E) A (eR (br E X G) E.R (r+1))).dR.map (eH q (r+1)))):=by
 generalize B:f3 E.aG (r+1) (eM E) A (eR (br E X G) E.R (r+1))=x at y⊢;have c:=(a4 y).2;have m:=a4 (a4 (a4 c).2).2;have j:VN ((qU E.aG q (r+1) x).map (eH q (r+1)))<=8:=by rw[c9];exact Wb m.1
 have l:VN (x.dR.map (eH q (r+1)))<=8:=by rw[c9];exact Wb m.2
 have M:=PO (s:=s) (T:=T) (g:=g) (b:=dP f a) DR (nD E).2.1 (FW b) (dY (a4 b).1) (Px o) (nD E).2.2.1 (λn i=>⟨(yD (P:=λn=>n<=64) (FL E n i) (Wb rfl) (Wb rfl) (Wb rfl) (Wb rfl)),λh=>Nw (c:=X) (G:=G) (d:=d) (h:=h) (dY F) (FL E n i)⟩) (nD E).2.2.2 (B▸(a4 y).1);rw[B] at M;exact(Ef (a4 (a4 c).2).1).elim λt z=>(DD M (λ_=>rfl) R j l (Ia (a4 c).1) (by exact xa▸WJ (Wb rfl) (nD E).1) (by exact xa▸lT (Wb rfl)) z.1 z.2).elim λI e=>⟨_,I,e,R.step j l⟩
def MG(s:d1)(i:A3 E s)(R:nK f (k+1)):BN E X G d p f a k s.v (ka E (br E X G) p f s):=match s,i with
 |⟨_,_,_,_,_,[]⟩,i=>((Ef (a4 (a4 (a4 i).2).2).2).elim λl z=>(DD (PN DR (nD E).2.1 (FW (a4 i).1) (dY (a4 (a4 i).1).1) (a4 (a4 i).2).1) (λ_=>rfl) R (Ww _) (Ww _) (Ia (a4 (a4 (a4 i).2).2).1) (by exact AX▸WJ (Wb rfl) (nD E).1) (by exact AX▸lT (Wb rfl)) z.1 z.2).elim λI e=>⟨_,I,e,R.step (Ww _) (Ww _)⟩)
 |⟨_,_,_,_,A,[r+1]⟩,i=>MH (a4 i).1 (a4 (a4 (a4 i).2).2).1 (a4 (a4 (a4 (a4 i).2).2).2).1 (H3 (P:=λw=>AP E.aG _ (r+1) (f3 E.aG (r+1) (eM E) A w)) (a4 (a4 (a4 (a4 i).2).2).2).2) R
 |⟨_,_,_,_,_,[0]⟩,i=>bb (a4 (a4 i).2).1
 |⟨_,_,_,_,_,_::_::_⟩,i=>bb (a4 i).2
def MI(g:List d1):∀{f:gb}{b:List (Ze O)},(∀s∈g,A3 E s=true)->nK f g.length->∃a,cS [25] (cA (cm sR 5)) (g.map d1.v) ⟨lK (hs E (fF E X G d)) (.ah .T (ie E)) p,dP f b⟩ .next ⟨lK (hs E (fF E X G d)) (.ah .T (ie E)) p,dP (kD E (br E X G) p g f) a⟩:=by
 induction g with|nil=>exactλ_ _=>⟨_,dq⟩|cons s g S=>exactλi R=>(MG s (i s (.head _)) R).elim λl z=>z.elim λa z=>(S (λs m=>i s (.tail _ m)) z.2).elim λL y=>⟨L,cW rfl z.1 rfl y⟩
end
def wD(names:YU)(O:YZ):YT->YT:=
 O.rec (λd=>d) λn _ S d=>match a3 names n with
  |some (.str s)=>S (cU d (.s s) (I n))
  |_=>S d
def Hm(names:YU)(l:YZ):Bool:=l.all λn=>match a3 names n with
 |some (.str _)=>true
 |_=>false
def C.tw(j:C):YU:=I j.aG::j6 [I (b1 j)] (j.R+1)
def C.mY(j:C):YU:=I 2::U (j6 [I 3] j.k) (U (j6 [I 2] (j.R-j.k)) [I 1])
def C.nR(j:C):YU:=j6 [I 0] (j.R+2)
def C.c0(j:C):YT:=wD j.names (aB 0 j.aG) []
abbrev uu(E:C):YS:=[(15,.ae E.names),(16,I E.aG),(17,.ae E.tw),(18,.ae E.mY),(19,.ae E.nR)]
abbrev qE(F:Z)(E:C)(P:YS)(d:YT):List (Ze O):=[some (.ins 7 (U (uu E) P)),some (.ae [] 0),some (.ah .S d 0)]
abbrev Bl(F:Z)(E:C):YS:=(6,.ref F.n)::uu E
def pW{d:YT}{k:aE}{v:V}:VN (cU d k v)<=VN d+1:=by
 induction d with
 |nil=>exact Wr _
 |cons x r S=>
  induction x with
  |mk a g=>
  show VN (match cJ a k with|true=>(a,v)::r|false=>(a,g)::cU r k v)<=VN r+1+1
  generalize cJ a k=N;induction N with|true=>exact WH _|false=>exact WC S
def TU{o:Ze V}(z:(match o with|some (.str _)=>true|_=>false)=true):∃s,o=some (.str s):=by
 induction o with
 |none=>exact bb z
 |some v=>induction v using V.casesOn<;>first|exact⟨_,rfl⟩|exact bb z
def QW(m:Nat):∀{i:Nat}{d:YT},Hm a.names (aB i m)->i+m<=VN a.names->VN d+m<900->cS [22] (cA (cm Dv 7)) ((aB i m).map I) ⟨Bl b a,W b (qE b a [(20,.ref (b.n+1)),(21,.ref (b.n+2))] d)⟩ .next ⟨Bl b a,W b (qE b a [(20,.ref (b.n+1)),(21,.ref (b.n+2))] (wD a.names (aB i m) d))⟩:=by
 induction m with
 |zero=>exactλ_ _ _=>dq
 |succ m S=>
  intro i d G A f;have G:((match a3 a.names i with|some (.str _)=>true|_=>false)&&Hm a.names (aB (i+1) m)):=G
  have g:i+1+m<=VN a.names:=by rw[Wl,Wm 1];exact A
  refine(?_:cS _ _ (I i::(aB (i+1) m).map I) _ _ ⟨_,W b (qE b a _ (match a3 a.names i with|some (.str s)=>wD a.names (aB (i+1) m) (cU d (.s s) (I i))|_=>wD a.names (aB (i+1) m) d))⟩)
  generalize X:a3 a.names i=o at G⊢;refine(TU (a4 G).1).elim λs q=>?_;subst q;exact cW rfl (M (jw J (a9 J (fx 0 rfl rfl)) (bw J J (jq (Wg (WD (Wx m)) A) X)) (tC 2 rfl rfl (dV (Wg (ho f) (Wb rfl))))) ba) rfl (S G g (Wf (Wh (Wy pW m) (WI (by rw[Wl,Wm 1]))) f))
def Ui:aY .inl 7 [.ref b.n,.ae a.names,I a.aG,.ae a.tw,.ae a.mY,.ae a.nR] (W b [some (.ins 7 [])]) .none (W b (qE b a [(20,.ref (b.n+1)),(21,.ref (b.n+2))] a.c0)):=by
 have f:=QW (b:=b) (a:=a) a.aG (i:=0) (d:=[]) (by induction a<;>rfl) (by induction a<;>exact Wb rfl) (by induction a<;>exact Wb rfl)
 rw[<-j4] at f;exact gM (G:=Bl b a) rfl rfl (M (fa J J (e9 0 rfl rfl)) (M (fa J J (e9 0 rfl rfl)) (M (fa J J (e9 0 rfl rfl)) (M (fa J J (e9 0 rfl rfl)) (M (fa J J (e9 0 rfl rfl)) (M (kG (P:=W b [some (.ins 7 (uu a)),some (.ae [] 0)]) (h5 du) J (e9 0 rfl rfl)) (M (kG (P:=W b (qE b a [(20,.ref (b.n+1))] [])) (mH oD) J (e9 0 rfl rfl)) (M (da (kH J (qO (lT (Wb rfl)))) rfl f rfl) ba))))))))
def Qh(G:V):YS:=[(33,G),(36,.ref 0),(37,.ref 1),(38,.ref 3),(39,.ref 4),(40,p1)]
def Uj:aY .ef 7 [cv a L c d,.ref 0,.ref 1,.ref 2,.ref 3,.ref 4,p1] b (.ref b.n) (W b (qE b a ((20,.ref 2)::(21,.ref (b.n+2))::Qh (cv a L c d)) a.c0)):=by
 have g:=λh=>rk a L c d h;have D:bE (pE.body.take 3) ⟨[(6,.ref b.n),(33,cv a L c d),(36,.ref 0),(37,.ref 1),(20,.ref 2),(38,.ref 3),(39,.ref 4),(40,p1)],W b [some (.ins 7 [])]⟩ .next ⟨[(6,.ref b.n),(33,cv a L c d),(36,.ref 0),(37,.ref 1),(20,.ref 2),(38,.ref 3),(39,.ref 4),(40,p1),(17,.ae a.tw),(18,.ae a.mY),(19,.ae a.nR)],W b [some (.ins 7 [])]⟩:=fD 29 λ_=>by induction a<;>kernel_rfl
 generalize cv a L c d=G at g D⊢;exact yJ rfl rfl rfl (gM (G:=[(6,.ref b.n),(33,G),(36,.ref 0),(37,.ref 1),(20,.ref 2),(38,.ref 3),(39,.ref 4),(40,p1),(17,.ae a.tw),(18,.ae a.mY),(19,.ae a.nR)]) rfl rfl (nJ 3 D (M (de (a:=.none) (LY rfl (cw (i:=0) _ rfl) rfl (aI (a9 J (g _).2.2.2) (aI (a9 J (g _).2.2.1) (aI J (aI J (aq J))))) Ui) rfl) (M (fa J J (e9 0 rfl rfl)) (M (fa J J (e9 0 rfl rfl)) (M (fa J J (e9 0 rfl rfl)) (M (fa J J (e9 0 rfl rfl)) (M (fa J J (e9 0 rfl rfl)) (M (fa J J (e9 0 rfl rfl)) (M (fa J J (e9 0 rfl rfl)) ba))))))))))
abbrev Lc(c:Nat×Nat×(Nat×Int)):V:=eH c.1 c.2.1 c.2.2
def hW(l:YU):Prop:=∃X:List (Nat×Nat×(Nat×Int)),l=X.map Lc
def hW.U(j:hW a')(o:hW c'):hW (U a' c'):=j.elim λu j=>o.elim λC o=>⟨Internal.U u C,by exact j▸o▸hY▸rfl⟩
def hW.jv(j:List (Nat×Int)):hW (j.map (eH a' c')):=⟨j.map λo=>(a',c',o),by rw[XE];rfl⟩
def tG{l:List α}(h:∀x,g (f x)=some (f x)):fY g (l.map f)=some (l.map f):=by
 induction l with|nil=>rfl|cons x r S=>exact a6 (h x) (a6 S rfl)
def CQ(g:List d1):∀{f:gb},hW f.ey->hW f.fN->hW (kD d c short g f).ey/\hW (kD d c short g f).fN:=by
 induction g with
 |nil=>exactλa b=>⟨a,b⟩
 |cons s r S=>
  intro f a b;have z:hW (ka d c short f s).ey/\hW (ka d c short f s).fN:=match s with
   |⟨_,_,_,_,_,[]⟩=>⟨a.U ⟨[],rfl⟩,b.U ⟨[],rfl⟩⟩
   |⟨_,_,_,_,_,_::_⟩=>⟨a.U (.jv _),b.U (.jv _)⟩
  exact S z.1 z.2
noncomputable def mL:gb:=⟨[],[],[],[],[]⟩
def fJ(E:C)(W:Nat->Nat->b')(p:Bool):gb:=kD E W p E.dS mL
def gm(E:C)(G:V)(f:gb):V:=.ins 7 false (U (uu E) [(20,.ae (f.d6.map I)),(21,.ah .S E.c0),(33,G),(36,.ae (f.gX.map λr=>.ae (r.map .int))),(37,.ae (f.gt.map λg=>.ah .I (D g))),(38,.ae f.ey),(39,.ae f.fN),(40,p1)])
def CA(h:hW l):dQ (cg (f+3)) l:=h.elim λX e=>e▸jL λ_=>rfl
def yQ(h:hD (cg f) l):cg (f+1) (.ins c r l):=h
def vb(E:C)(f:Nat):hD (cg (f+3)) (uu E)/\cg (f+3) (.ah .S E.c0)/\cg (f+5) (.ae (E.dS.map d1.v))/\cg (f+3) (.ah .T (ie E)):=by induction E<;>exact⟨by kernel_rfl,rfl,rfl,rfl⟩
def CD(c:hW f.ey)(s:hW f.fN)(v:cg (B+6) G):cg (B+7) (gm a G f):=
 yQ (BY (vb a (B+3)).1 (iQ (hh (jL λ_=>rfl)) (iQ (vb a (B+3)).2.1 (iQ v (iQ (hh (jL λr=>hh ((jL λ_=>rfl)))) (iQ (hh (jL λg=>u' ((yo λ_=>rfl)))) (iQ (hh (CA c)) (iQ (hh (CA s)) (iQ rfl rfl)))))))))
def ov(a:g x=some y)(b:gg g r=some t):gg g ((k,x)::r)=some ((k,y)::t):=a6 a (a6 b rfl)
def PV(e:gg g a=some a)(h:gg g b=some d):gg g (U a b)=some (U a d):=by
 induction b with|nil=>exact(Wc h)▸eG▸e|cons x b=>exact(jO h).elim λv z=>(jO z.2).elim λl y=>Wc y.2▸FK e z.1 y.1
def HU(x:hW l):fY (ct (k+1) h) l=some l:=x.elim λX e=>e▸tG λ_=>rfl
def yR(v:cg (B+6) G):cg (B+7) (hs a G):=yQ (iQ v (iQ (vb a (B+1)).2.2.1 rfl))
def OH:aY .pure 33 [hs a (fF a b G d),.ah .T (ie a),.bool short] h (gm a (fF a b G d) (fJ a (br a b G) short)) h:=by
 have z:=CQ (d:=a) (c:=br a b G) (short:=short) a.dS (f:=mL) ⟨[],rfl⟩ ⟨[],rfl⟩;refine(MI (X:=b) (G:=G) (d:=d) (p:=short) a.dS (f:=mL) (b:=[]) (Wn.mp (SW a)) (by induction a<;>exact⟨Wb rfl,Wb rfl,Wb rfl,Wb rfl,Wb rfl⟩)).elim λD k=>?_
 have N:dQ (cg 60) [hs a (fF a b G d),.ah .T (ie a),.bool short]:=cf (yR lE) (cf (vb a 57).2.2.2 rfl);refine kr N rfl rfl rfl (nJ 5 (b:=⟨lK (hs a (fF a b G d)) (.ah .T (ie a)) short,dP mL []⟩) (fD 19 λ_=>rfl) (M (da (c8 (a9 J rfl) rfl) rfl k rfl) (bG (cb (iA (aI (a9 J rfl) (aI J (aI J (aI J (aI J (aI J (aq J))))))) Uj))))) ((HV (cw (i:=0) _ rfl) (PV (rfl:_=_) (ov (qu (gF 2 rfl) (tG λ_=>rfl)) (ov (BE (cw (i:=2) _ rfl) (by induction a<;>kernel_rfl)) (ov ?_ (ov (qu (gF 0 rfl) (tG λ_=>rfl)) (ov (qu (gF 1 rfl) (tG λ_=>rfl)) (ov (qu (gF 3 rfl) (HU z.1)) (ov (qu (gF 4 rfl) (HU z.2)) (ov rfl rfl))))))))))) (CD z.1 z.2 lE)
 induction a<;>rfl
def C.fu(j:C)(o:Nat):Nat:=match Nat.blt o j.k with
 |true=>4+2*(j.R-j.k)+j.k+o
 |false=>4
def C.go(o:C)(j:Nat):Nat:=4+2*(o.R-o.k)+j
def C.wQ(j:C)(o:Nat):YU:=(qh (Nat.beq o j.k) (b1 j) (4+j.bC o)).map I
def Ge(E:C)(L:Nat->Int)(K:YT)(d:Int)(h:Z)(n:Nat):gG (λB=>(eF (n+20)).c .inl 91 [cv E L K d,dG E B] h=some (I (4+B),h)) (aB 0 E.aD)/\(eF (n+20)).c .inl 91 [cv E L K d,.str Zf] h=some (I (b1 E),h):=by induction E<;>(repeat' apply And.intro)<;>first|exact trivial|kernel_rfl
def Vj(E:C)(G:V)(h:Z)(n:Nat):gG (λi=>(eF (n+30)).c .inl 112 [hs E G,I 0,.ae (E.wQ i)] h=some (I (E.fu i),h)) (aB 0 E.R):=by induction E<;>(repeat' apply And.intro)<;>first|exact trivial|kernel_rfl
def Np(E:C)(G:V)(h:Z)(n:Nat):gG (λi=>gG (λB=>(eF (n+30)).c .inl 111 [hs E G,I (E.fu i),I (4+B)] h=some (I (E.go B),h)) (aB 0 E.k)) (aB 0 E.R):=by induction E<;>(repeat' apply And.intro)<;>first|exact trivial|kernel_rfl
def zv(E:C)(L:Nat->Int)(K:YT)(d:Int)(h:Z):ks (cv E L K d) h=some 18/\bM h (cv E L K d) 22=none:=by induction E<;>exact⟨rfl,rfl⟩
def pB(tI:hp m=22)(F:Nat.ble (dD.kY 91) (rx m))(e:au A 33=some (cv c L b d))(i:ao a ⟨A,h⟩ g h)(q:aY .inl 91 [cv c L b d,g] h (I f) h):ao (.aC (.F 33) m [a]) ⟨A,h⟩ (I f) h:=
 fH (J e) (zv c L b d h).1 (by rw[tI];exact(zv c L b d h).2) rfl (by rw[tI];rfl) F (aq i) q
def u2(P:B<a.aD):aY .inl 91 [cv a L b d,dG a B] h (I (4+B)) h:=fo 20 λn=>(Ge a L b d h n).1.lt P
def yK:aY .inl 91 [cv a L b d,.str Zf] h (I (b1 a)) h:=fo 20 λn=>(Ge a L b d h n).2
def Kg(A:i<a.R):aY .inl 112 [hs a G,I 0,.ae (a.wQ i)] h (I (a.fu i)) h:=fo 30 λn=>(Vj a G h n).lt A
def Ke(A:i<a.R)(P:B<a.k):aY .inl 111 [hs a G,I (a.fu i),I (4+B)] h (I (a.go B)) h:=fo 30 λn=>((Np a G h n).lt A).lt P
def jt(E:C):E.k<=E.aD/\E.k<=E.R/\E.R<=4/\E.k<=3:=by induction E<;>exact⟨Wb rfl,Wb rfl,Wb rfl,Wb rfl⟩
structure b8 where
 s:Nat
 t:Nat
 r:Nat
 c:Int
def b8.v(j:b8):V:=.ay [I j.s,I j.t,nA,.ay [I j.r],.int j.c]
def b8.jR(j:b8):V:=eH j.s j.r (j.t,j.c)
noncomputable def oh:b'->Bool
 |.dH=>true
 |_=>false
def sm(E:C)(i j:Nat):b'->Int
 |.gW=>-(.ofNat (i+1))
 |.iw=>lh
 |_=>.ofNat (E.go j)
def q8(E:C)(W:Nat->Nat->b')(c:Nat×Nat):b8:=⟨E.fu c.1,4+c.2,c.1+1,sm E c.1 c.2 (W c.1 c.2)⟩
def f5(E:C)(W:Nat->Nat->b')(b:Bool)(X:YW):List b8:=(X.filter λc=>hG (oh (W c.1 c.2)) b).map (q8 E W)
abbrev j9(E:C)(W:Nat->Nat->b')(b:Bool)(X:YW):YU:=(f5 E W b X).map b8.v
def qm:f5 c a b (U x y)=U (f5 c a b x) (f5 c a b y):=by unfold f5;rw[cQ,cQ,List.filter_append,XH]
def GY:j9 c a b (U x y)=U (j9 c a b x) (j9 c a b y):=by rw[j9,qm,<-hY]
def G0:VN (f5 c a b x)<=VN x:=by unfold f5;rw[c9,c5,c5];exact List.length_filter_le _ _
def j7(i:Nat)(l:YZ):YW:=l.map λj=>(i,j)
def VT(E:C)(O:YZ):YW:=
 O.rec [] λi _ S=>U (j7 i (aB 0 E.k)) S
def en(E:C)(K:Nat->Nat->b')(X:YW)(J:List (Ze O)):Z:=W Z.bj (some (.ae (j9 E K false X) 0)::some (.ae (j9 E K true X) 0)::J)
abbrev CT:S:=(cA (cm rb 1)).getLastD .eD
abbrev ky(E:C)(O:YZ)(G:List dC)(k g K:Nat)(d:Int):YS:=[(170,bN E O G k g K),(33,fF E O G d),(176,hs E (fF E O G d)),(175,.ae [.ref 0,.ref 1])]
abbrev ve(E:C)(O:YZ)(G:List dC)(k g K:Nat)(d:Int)(i:Nat)(H:YU):YS:=U (ky E O G k g K d) [(7,I i),(24,e4 E O i),(173,.ae H),(138,I (E.fu i))]
def mD(i:Nat):YT:=[(.s Zi,.int (0-(Int.ofNat i+1))),(.s Zo,.int lh)]
def Lx:gA .S (mD i) [hT w,I (a.go B)]=some (.int (sm a i B w)):=by
 induction w with|gW=>exact Wd (λz=>some (V.int z)) (Int.zero_sub _)|_=>rfl
noncomputable def JJ:Bool->Nat
 |true=>1
 |false=>0
def LN(n:oh (br a c G i B)=b)(m:VN X<900)(k:au A 175=some (.ae [.ref 0,.ref 1]))(K:ao h ⟨A,en a (br a c G) X d⟩ (I (JJ b)) (en a (br a c G) X d))(y:ao e ⟨A,en a (br a c G) X d⟩ (q8 a (br a c G) (i,B)).v (en a (br a c G) X d)):
  cF (.expr (.aC (.sub (.F 175) h) 12288 [e])) ⟨A,en a (br a c G) X d⟩ .next ⟨A,en a (br a c G) (U X [(i,B)]) d⟩:=by
 have f:∀b,eA (j9 a (br a c G) b X):=λb=>dV (by rw[j9,c9];exact Wf G0 (Wg m (Wb rfl)))
 have l:∀R,j9 a (br a c G) R [(i,B)]=match hG b R with|true=>[(q8 a (br a c G) (i,B)).v]|false=>[]:=λR=>by unfold j9 f5;rw[Xj];dsimp only;rw[n];induction b<;>induction R<;>rfl
 have v:∀(p:Nat){L w:List (Ze O)}{j:YU},a3 L p=some (some (.ae j 0))->eA j->dT L p (some (.ae (U j [(q8 a (br a c G) (i,B)).v]) 0))=w->iF gv (.ref p) (hp 12288) [(q8 a (br a c G) (i,B)).v] (W Z.bj L)=some (.none,W Z.bj w):=λp{L w j} e f z=>by have g:=cw (a:=Z.bj) L e;have s:=gR (a:=Z.bj) (x:=some (.ae (U j [(q8 a (br a c G) (i,B)).v]) 0)) L e;rw[show Z.bj.n+p=p from Wj p] at g s;exact(hq g f).trans (by rw[s,z])
 unfold en at*;rw[GY,GY,l,l];induction b with|true=>exact de (fW (bw (J k) K rfl) (cw (i:=1) _ rfl) (aq y) (cw (a:=Z.bj) (i:=1) _ rfl) (v 1 rfl (f true) (by rw[show hG true false=false from rfl,eG];rfl))) rfl|false=>exact de (a:=.none) (fW (bw (J k) K rfl) (cw (a:=Z.bj) (i:=0) _ rfl) (aq y) (cw (a:=Z.bj) (i:=0) _ rfl) (v 0 rfl (f false) (by rw[show hG false true=false from rfl,eG];rfl))) rfl
def LR(V:b.length=a.eB.length)(s:d0 a.aD G)(A:i<a.R)(P:B<a.k)(n:VN X<900):∃l d,bE (cA CT) ⟨U (ve a b G f g m e i H) [(166,dG a B)],en a (br a b G) X c⟩ .next ⟨U (ve a b G f g m e i H) ((166,dG a B)::l),en a (br a b G) (U X [(i,B)]) d⟩:=by have j:=Wg P (jt a).1;refine⟨[(30,hT (br a b G i B)),(22,I (4+B)),(32,.int (sm a i B (br a b G i B)))],U c [some (.ah .S (mD i) 0)],?_⟩;refine M (GX (d7 (aI (c7 (aI J (aI J (aq J))) (BJ V s A j)) (aq (pB rfl rfl rfl J (u2 j))))) rfl) ?_;have k:(en a (br a b G) X c).new (.ah .S (mD i) 0)=en a (br a b G) X (U c [some (.ah .S (mD i) 0)]):=(rl (B:=[some (.ah .S (mD i) 0)]) _);have x:(en a (br a b G) X (U c [some (.ah .S (mD i) 0)])).get (en a (br a b G) X c).n=some (.ah .S (mD i) 0):=k▸cw (a:=en a (br a b G) X c) (i:=0) [some (.ah .S (mD i) 0)] rfl;refine M (cI (q' (k▸mH ⟨9,λ_=>rfl⟩) x (aI J (aq (fH J rfl rfl rfl rfl rfl (aI J (aq J)) (Ke A P)))) x (tF x Lx))) ?_;generalize U c [some (.ah .S (mD i) 0)]=d;refine M (LN rfl n rfl ?_ (d7 (aI J (aI J (aI u (aI (d7 (aq (cV J u rfl))) (aq J))))))) ba;generalize en a (br a b G) X d=h;cases br a b G i B<;>exact eK 9 λ_=>rfl
def LQ(V:d.length=b.eB.length)(s:d0 b.aD G)(A:i<b.R)(m:Nat):∀{B:Nat}{X:YW}{c:List (Ze O)},B+m=b.k->VN X+m<900->∃f,cS [166] (cA CT) ((aB B m).map (dG b)) ⟨ve b d G h p q g i H,en b (br b d G) X c⟩ .next ⟨ve b d G h p q g i H,en b (br b d G) (U X (j7 i (aB B m))) f⟩:=by
 induction m with
 |zero=>exactλ{B X c} _ _=>⟨c,by rw[show j7 i (aB B 0)=[] from rfl,eG];exact dq⟩
 |succ m S=>
  intro B X c e l;refine(LR V s A (e▸WD (Wx m)) (ho l)).elim λa z=>z.elim λj z=>(S (B:=B+1) (X:=U X [(i,B)]) (c:=j) (by rw[<-e,Wl,Wm 1]) (ly l)).elim λL y=>⟨L,cW rfl z rfl ?_⟩
  rw[eJ] at y;exact y
def LP(V:b.length=a.eB.length)(s:d0 a.aD G)(A:i<a.R)(k:VN X+a.k<900):∃l h,bE (cA (cm rb 1)) ⟨U (ky a b G c g e d) [(7,I i),(24,e4 a b i)],en a (br a b G) X f⟩ .next ⟨U (ky a b G c g e d) ((7,I i)::(24,e4 a b i)::l),en a (br a b G) (U X (j7 i (aB 0 a.k))) h⟩:=by
 have v:∀{H},cF ((cA (cm rb 1)).headD .eD) ⟨U (ky a b G c g e d) [(7,I i),(24,e4 a b i)],en a (br a b G) X f⟩ .next ⟨U (ky a b G c g e d) [(7,I i),(24,e4 a b i),(173,.ae H)],en a (br a b G) X f⟩->ao (.comp false (.aC (.F 33) 12310 [.F 174]) [174] (.e (.F 173)) none) ⟨U (ky a b G c g e d) [(7,I i),(24,e4 a b i),(173,.ae H)],en a (br a b G) X f⟩ (.ae (a.wQ i)) (en a (br a b G) X f)->∃l h,bE (cA (cm rb 1)) ⟨U (ky a b G c g e d) [(7,I i),(24,e4 a b i)],en a (br a b G) X f⟩ .next ⟨U (ky a b G c g e d) ((7,I i)::(24,e4 a b i)::l),en a (br a b G) (U X (j7 i (aB 0 a.k))) h⟩:=λ{H} B O=>(LQ V s A a.k (Wj _) k).elim λh y=>⟨_,h,M B (M (dk (fH J rfl rfl rfl rfl rfl (aI u (aq O)) (Kg A))) (M (da (c8 (bw (J rfl) u rfl) (Wd some (A9 a))) rfl y rfl) ba))⟩
 have T:=pV (p:=0) A;unfold C.wQ e4 at v;unfold e4;generalize j:Nat.beq i a.k=N;induction N with|true=>rw[j] at v;exact v (dk (lG (bw J u rfl) rfl (fq (aI (bw J u rfl) (aq u))))) (h3 (c8 J rfl) rfl rfl (fX rfl (pB rfl rfl rfl J (u2 T)) (fX rfl (pB rfl rfl rfl J yK) gD)) rfl)|false=>rw[j] at v;exact v (dk (jS (bw J u rfl) rfl (fq (aI u (aI (bw J u rfl) (aq u)))))) (h3 (c8 J rfl) rfl rfl (fX rfl (pB rfl rfl rfl J yK) (fX rfl (pB rfl rfl rfl J (u2 T)) (fX rfl (pB rfl rfl rfl J yK) gD))) rfl)
def CI(r:YZ)(i j:Nat):Ze Bool:=Y (a3 r i) λp=>Y (a3 r j) λq=>match Nat.blt p q with
 |true=>some true
 |false=>match Nat.blt q p with
  |true=>some false
  |false=>none
def wV(r:YZ)(O:YZ):Ze YZ:=
 O.rec (some []) λi l S=>Y (a3 r i) λx=>Y S λl=>some (x::l)
def yO(n:Nat)(r:YZ):Bool:=match kM (CI r) (PySem.W.kas_sort (VN r))with
 |some p=>match wV r p.toList with
  |some l=>oj l (aB 0 n)
  |none=>false
 |none=>false
def w6(a b:Nat):YZ:=U (aB b a) (aB 0 b)
def KH:((aB 0 13).all λa=>(aB 0 4).all λb=>yO (a+b) (w6 a b)):=rfl
def OQ:∀{b:YZ},oj a b->a=b:=by
 induction a with
 |nil=>exactλ{b} h=>by induction b with
  |nil=>rfl
  |cons=>exact bb h
 |cons x a S=>exactλ{b} h=>by induction b with
  |nil=>exact bb h
  |cons y b=>
   have h:(match Nat.beq x y with|true=>oj a b|false=>false)=true:=h
   generalize G:Nat.beq x y=N;induction N with|true=>rw[G] at h;exact(We G)▸(S h)▸rfl|false=>rw[G] at h;exact bb h
def Oo(h:∀i B b,c i B=some b->d i B=some b)(t:PySem.W.KasT α):∀{r:α},kM c t=some r->kM d t=some r:=by
 induction t with
 |ret a=>exact id
 |ask i B k S=>
  intro r e;unfold kM at e⊢;generalize L:c i B=N;induction N with|none=>rw[L] at e;exact cB e|some b=>rw[L] at e;exact(h i B b L)▸S b e
def Ry:∀{m:YZ},wV r l=some m->t6 (r.map f) l=some (m.map f):=by
 induction l with|nil=>exactλh=>Wd (λl=>some (List.map f l)) (Wc h)|cons i l S=>exactλ{m} h=>(jO h).elim λx z=>(jO z.2).elim λG y=>Wc y.2▸a6 (kU r▸Wd (Option.map f) z.1) (a6 (S y.1) rfl)
section
variable{S:Nat->V}{n:Nat}
def Ts(d:∀p q,p<q->q<n->oS (S p) (S q)=some true/\oS (S q) (S p)=some false)(F:∀p∈r,p<n)(c:yO n r):Y (kM (λi B=>Y (a3 (r.map S) i) λx=>Y (a3 (r.map S) B) λy=>oS x y) (PySem.W.kas_sort (VN (r.map S)))) (λp=>t6 (r.map S) p.toList)=some ((aB 0 n).map S):=by
 unfold yO at c;rw[c9];generalize PySem.W.kas_sort (VN r)=t at c⊢;generalize R:kM (CI r) t=N;induction N with
 |none=>rw[R] at c;exact bb c
 |some p=>
  rw[R] at c;refine a6 (Oo (λi B b e=>?_) t R) ?_
  .refine(jO e).elim λx z=>(jO z.2).elim λy w=>a6 ((kU r).trans (Wd _ z.1)) (a6 ((kU r).trans (Wd _ w.1)) ?_)
   have L:=F y (rF r w.1);have w:=w.2;generalize O:Nat.blt x y=N;induction N with
   |true=>rw[O] at w;exact Wc w▸(d x y (dY O) L).1
   |false=>
    rw[O] at w;generalize g:Nat.blt y x=N;induction N with|true=>rw[g] at w;exact Wc w▸(d y x (dY g) (F x (rF r z.1))).2|false=>rw[g] at w;exact cB w
  .have c:(match wV r p.toList with|some l=>oj l (aB 0 n)|none=>false)=true:=c
   generalize V:wV r p.toList=N;induction N with|none=>rw[V] at c;exact bb c|some l=>rw[V] at c;exact OQ c▸Ry V
end
def b8.lt(j o:b8):Prop:=j.s<o.s\/(j.s=o.s/\j.t<o.t)
def lB(h:b<=a):Nat.blt a b=false:=W3.mpr λz=>Xk h (dY z)
def ed(h:a≠b):Nat.beq a b=false:=W3.mpr λz=>h (We z)
def HY{x y:b8}:oS x.v y.v=match Nat.beq x.s y.s with
 |true=>match Nat.beq x.t y.t with
  |true=>qw qv [nA,.ay [I x.r],.int x.c] [nA,.ay [I y.r],.int y.c]
  |false=>some (Nat.blt x.t y.t)
 |false=>some (Nat.blt x.s y.s):=by
 show(match some (Nat.beq x.s y.s)with|some true=>qw qv [I x.t,nA,.ay [I x.r],.int x.c] [I y.t,nA,.ay [I y.r],.int y.c]|some false=>some (Nat.blt x.s y.s)|none=>none)=_
 generalize Nat.beq x.s y.s=N;induction N with
 |false=>rfl
 |true=>
  show(match some (Nat.beq x.t y.t)with|some true=>qw qv [nA,.ay [I x.r],.int x.c] [nA,.ay [I y.r],.int y.c]|some false=>some (Nat.blt x.t y.t)|none=>none)=_
  cases Nat.beq x.t y.t<;>rfl
def Va{x y:b8}(h:x.lt y):oS x.v y.v=some true/\oS y.v x.v=some false:=by
 rw[HY,HY];refine h.elim (λz=>?_) λz=>?_
 .rw[ed (Wv z),ed (WZ z)]
  exact⟨Wd some (dE z),Wd some (lB (WK z))⟩
 .rw[z.1,WA,ed (Wv z.2),ed (WZ z.2)]
  exact⟨Wd some (dE z.2),Wd some (lB (WK z.2))⟩
def oQ(l:List b8)(p:Nat):b8:=match a3 l p with
 |some x=>x
 |none=>⟨0,0,0,0⟩
def Bq(M:List b8):∀{A B:List b8},(aB A.length M.length).map (oQ (A++(M++B)))=M:=by
 induction M with
 |nil=>exactλ{_ _}=>rfl
 |cons x M S=>
  intro A B;have e:∀A:List b8,oQ (A++(x::M++B)) A.length=x:=λA=>by
   induction A with|nil=>rfl|cons y A S=>exact S
  have z:=S (A:=A++[x]) (B:=B);rw[Xf,Wk] at z;exact(Wd (·::_) (e A)).trans (Wd (x::·) z)
def Us(h:l.Pairwise b8.lt):∀{p q:Nat},p<q->q<l.length->(oQ l p).lt (oQ l q):=by
 induction h with
 |nil=>exactλ_ h=>nomatch h
 |cons a h S=>
  intro p q V I;induction q with
  |zero=>nomatch V
  |succ q=>
   induction p with|zero=>have I:=Xl I;refine(m7 _ (c5▸I:q<VN _)).elim λy e=>?_;refine(?_:b8.lt _ (oQ _ q));unfold oQ;exact e▸a y (rF _ e)|succ p=>exact S (Xl V) (Xl I)
def Ju(h:A++B=[x]):B++A=[x]:=by
 induction A with
 |nil=>exact(WQ B).trans h
 |cons y r=>
  have z:=W5 h;have w:=List.append_eq_nil_iff.mp z.2;refine w.1▸w.2▸z.1▸?_
  rfl
def Hc{A B:List b8}(i:(B++A).Pairwise b8.lt)(E:A.length<13)(G:B.length<4):nB ((A++B).map b8.v) false h=some (.ae ((B++A).map b8.v),h):=by
 have V:(A++B).map b8.v=(w6 A.length B.length).map λp=>(oQ (B++A) p).v:=by unfold w6;have a:=Bq A (A:=B) (B:=[]);rw[WQ] at a;rw[cQ,XH,XH];exact congr (Wd _ (Wd (List.map b8.v) a.symm|>.trans XE)) ((Wd (List.map b8.v) (Bq B (A:=[]) (B:=A)).symm).trans XE)
 have c:(B++A).map b8.v=(aB 0 (A.length+B.length)).map λp=>(oQ (B++A) p).v:=by have a:=Bq (B++A) (A:=[]) (B:=[]);rw[WQ,Wk,Wm] at a;exact(Wd (List.map b8.v) a.symm).trans XE
 have F:=Ts (λp q h k=>Va (Us i h (by rw[Wk,Wm];exact k))) (λp m=>by unfold w6 at m;rw[cQ] at m;exact(WU.mp m).elim (λz=>Wm _ _▸(g6 _ z).2) λz=>Wg (g6 _ z).2 (by rw[Wj];exact Xi _ _)) (Wn.mp (Wn.mp KH _ (gE _ (Ww _) E)) _ (gE _ (Ww _) G))
 rw[<-V,<-c] at F;have f:(A++B).length<17:=by rw[Wk];exact X6 E (WK G)
 have S:(B++A).length<17:=by rw[Wk,Wm,<-Wk];exact f
 generalize W:A++B=L at F f⊢;unfold nB;rw[show Nat.blt (VN (L.map b8.v)) 64=true from dE (by rw[c9,c5];exact Wg f (Wb rfl))]
 induction L with
 |nil=>
  have z:=List.append_eq_nil_iff.mp W;rw[z.1,z.2]
  rfl
 |cons x L=>
  have b:(List.map b8.v (x::L)).all tf:=Wn.mpr λy m=>(WN.mp m).elim λz e=>e.2▸rfl;have v:Be (List.map b8.v (x::L))=some ((B++A).map b8.v):=by
   induction L with|cons y L=>exact F|nil=>exact Wd (λl=>some (List.map b8.v l)) (Ju W).symm
  exact fL rfl (fL b (a6 v (fL (dV (by rw[c9,c5];exact Wg S (Wb rfl))) rfl)))
def Kl(E:C)(c d:Nat×Nat):Bool:=Zx (Nat.blt (E.fu c.1) (E.fu d.1)||(Nat.beq (E.fu c.1) (E.fu d.1)&&Nat.blt c.2 d.2))
def Hi(E:C)(O:YW):Bool:=
 O.rec true λc r S=>r.all (Kl E c)&&S
def C.sh(j:C):YW:=U (VT j (aB j.k (j.R-j.k))) (VT j (aB 0 j.k))
abbrev f9(E:C)(W:Nat->Nat->b')(b:Bool):List b8:=f5 E W b E.sh
def SX(h:Hi a X):(f5 a e b X).Pairwise b8.lt:=by
 refine List.Pairwise.map _ (λ_ _ z=>z) (List.Pairwise.filter _ ?_);induction X with|nil=>exact .nil|cons c r S=>exact .cons (λd m=>(Xd.mp (Wn.mp (a4 h).1 d m)).imp dY λz=>⟨We (a4 z).1,Xr (dY (a4 z).2) 4⟩) (S (a4 h).2)
def qT(E:C):Hi E E.sh/\VN E.sh<13/\VN (VT E (aB 0 E.k))<13/\VN (VT E (aB E.k (E.R-E.k)))<4/\VT E (aB 0 E.R)=U (VT E (aB 0 E.k)) (VT E (aB E.k (E.R-E.k))):=by induction E<;>exact⟨by kernel_rfl,Wb rfl,Wb rfl,Wb rfl,rfl⟩
def uh(h:VN X<a):(f5 d c b X).length<a:=by exact c5▸Wf G0 h
def Ht:(f9 a c b).Pairwise b8.lt:=SX (qT a).1
def C6:nB (j9 a c b (VT a (aB 0 a.R))) false h=some (.ae ((f9 a c b).map b8.v),h):=by have z:=qT a;have s:=Ht (a:=a) (c:=c) (b:=b);rw[j9,z.2.2.2.2,qm,cQ];unfold f9 C.sh at*;rw[qm,cQ] at s⊢;exact Hc s (uh z.2.2.1) (uh z.2.2.2.1)
def TG:nB ((f9 a c b).map b8.v) false h=some (.ae ((f9 a c b).map b8.v),h):=by have z:=Hc (A:=f9 a c b) (B:=[]) (h:=h) Ht (uh (qT a).2.1) (Wx 3);rw[WQ] at z;exact z
def LO(V:c.length=b.eB.length)(s:d0 b.aD G)(m:Nat):∀{i:Nat}{X:YW}{d:List (Ze O)},i+m=b.R->VN X+4*m<800->∃f,cS [7,24] (cA (cm rb 1)) (mK ((aB i m).map (e4 b c)) (.ofNat i)) ⟨ky b c G h p q g,en b (br b c G) X d⟩ .next ⟨ky b c G h p q g,en b (br b c G) (U X (VT b (aB i m))) f⟩:=by
 induction m with
 |zero=>exactλ{i X d} _ _=>⟨d,by rw[show VT b (aB i 0)=[] from rfl,eG];exact dq⟩
 |succ m S=>
  intro i X d e l;have k:VN X+b.k<900:=Wf (Wt (Wh (jt b).2.2.2 (Wb rfl:3<=4)) _) (Wf (Wt (Nat.le_mul_of_pos_right 4 (Wx m)) _) (Wg l (Wb rfl)));have n:VN (U X (j7 i (aB 0 b.k)))+4*m<800:=by rw[iD,Wl];refine Wf (Wt ?_ _) l;rw[XK,Wm];exact Wt (by unfold j7;rw[c9,c5,oR];exact Wh (jt b).2.2.2 (Wb rfl)) _
  refine(LP V s (e▸WD (Wx m)) k).elim λa z=>z.elim λj z=>(S (i:=i+1) (d:=j) (by rw[<-e,Wl,Wm 1]) n).elim λL y=>⟨L,cW rfl z rfl ?_⟩
  have y:=eJ▸y;exact y
def He(e:h.get p=some (.ae a l))(g:nB a false h=some r):VY false .sorted [.ref p] h=some r:=a6 rfl (a6 (px e) g)
def CF{l:List b8}:cg (f+4) (.ae (l.map b8.v)):=hh (jL λ_=>rfl)
def OE(i:b.length=a.eB.length)(s:d0 a.aD G):aY .pure 130 [bN a b G c g e,fF a b G d,hs a (fF a b G d)] h (.ae [.ae ((f9 a (br a b G) false).map b8.v),.ae ((f9 a (br a b G) true).map b8.v)]) h:=by
 refine(LO (h:=c) (p:=g) (q:=e) (g:=d) (d:=[]) (X:=[]) i s a.R (i:=0) (Wj _) (Wf (Wh (WI (Wj _)) (WT 4 (jt a).2.2.1)) (Wb rfl))).elim λD f=>?_;have f:=(ni i)▸f;have j:∀{L:YS},eT [162] (.bq false .sorted [(.F 162)]) none (ky a b G c g e d) [.ref 0,.ref 1] (en a (br a b G) (VT a (aB 0 a.R)) D) [.ae ((f9 a (br a b G) false).map b8.v),.ae ((f9 a (br a b G) true).map b8.v)] (en a (br a b G) (VT a (aB 0 a.R)) D):=λ{L}=>fX rfl (d3 (aq J) (He (cw (a:=Z.bj) (i:=0) _ rfl) C6)) (fX rfl (d3 (aq J) (He (cw (a:=Z.bj) (i:=1) _ rfl) C6)) gD)
 exact kr (cf (vc i) (cf lE (cf (yR lE) rfl))) rfl rfl rfl (M (cI (P:=en a (br a b G) [] []) (fq (n8 (P:=W Z.bj [some (.ae [] 0)]) (h5 du) (aq (h5 du))))) (M (da (EF (bw J u rfl) rfl) rfl f rfl) (bG (cb (h3 (c8 J rfl) rfl rfl (j (L:=[])) rfl))))) rfl (hh (cf CF (cf CF rfl)))
noncomputable def qZ:List (Nat×Int)->List (Nat×Int)->Bool
 |[],[]=>true
 |a::r,b::s=>Nat.beq a.1 b.1&&(dr a.2 b.2&&qZ r s)
 |_,_=>false
def vd:∀{b:List (Nat×Int)},qZ a b->a=b:=by
 induction a with
 |nil=>exactλ{b} h=>by induction b with
  |nil=>rfl
  |cons=>exact bb h
 |cons x a S=>exactλ{b} h=>by induction b with|nil=>exact bb h|cons y b=>exact congr (Wd List.cons (Prod.ext (We (a4 h).1) (pN.mp (a4 (a4 h).2).1))) (S (a4 (a4 h).2).2)
def vn(E:C)(i:Nat)(w:Nat->b')(b:Bool)(l:YZ):List (Nat×Int):=(l.filter λj=>hG (oh (w (4+j))) b).map λj=>(4+j,sm E i j (w (4+j)))
def sl(E:C)(s:d1):Bool:=match s.i1 with
 |[]=>true
 |r::_=>match Nat.beq r (E.R+1)with
  |true=>qZ (f3 E.aG r (eM E) s.eN (hM .dH .dH .dH)).dR []&&qZ (qU E.aG s.q r (f3 E.aG r (eM E) s.eN (hM .dH .dH .dH))) []
  |false=>Nat.beq s.q (E.fu (r-1))&&(Nat.beq r (r-1+1)&&ji λa=>ji λb=>ji λc=>qZ (f3 E.aG r (eM E) s.eN (hM a b c)).dR (vn E (r-1) (hM a b c) false (aB 0 E.k))&&qZ (qU E.aG s.q r (f3 E.aG r (eM E) s.eN (hM a b c))) (vn E (r-1) (hM a b c) true (aB 0 E.k)))
def Kq(E:C):E.dS.all (sl E):=by induction E<;>kernel_rfl
def si(E:C)(s:d1):YW:=match s.i1 with
 |[]=>[]
 |r::_=>match Nat.beq r (E.R+1)with
  |true=>[]
  |false=>j7 (r-1) (aB 0 E.k)
def u1(E:C)(O:List d1):YW:=
 O.rec [] λs _ S=>U (si E s) S
section
variable{E:C}{X:Nat->Nat->b'}{b p:Bool}
def GZ(I:q=E.fu i)(F:r=i+1):(∀B∈l,X i B=w (4+B))->(vn E i w b l).map (eH q r)=(f5 E X b (j7 i l)).map b8.jR:=by
 subst I F;induction l with
 |nil=>exactλ_=>rfl
 |cons B l S=>
  intro k;have z:=S λB m=>k B (.tail _ m);unfold vn f5 j7 at z⊢;rw[WS,Xj,Xj,<-k B (.head _)];dsimp only;generalize hG (oh (X i B)) b=N;induction N with|true=>exact congr (Wd List.cons (Wd (λy=>eH (E.fu i) (i+1) (4+B,sm E i B y)) (k B (.head _)).symm)) z|false=>exact z
def BF:∀B∈aB 0 E.k,X i B=hM (X i 0) (X i 1) (X i 2) (4+B):=λB m=>by
 have h:=Wg (Wj E.k▸(g6 _ m).2) (jt E).2.2.2;exact match B,h with
 |0,_=>rfl
 |1,_=>rfl
 |2,_=>rfl
 |_+3,h=>absurd h (Xk (Xi 3 _))
abbrev yi(E:C)(X:Nat->Nat->b')(f P:gb)(a:YW):Prop:=P.fN=U f.fN ((f5 E X false a).map b8.jR)/\P.ey=U f.ey ((f5 E X true a).map b8.jR)
def TM(h:sl E ⟨q,s,g,T,A,r::m⟩):yi E X f (ka E X p f ⟨q,s,g,T,A,r::m⟩) (si E ⟨q,s,g,T,A,r::m⟩):=by
 unfold sl at h;unfold si ka eR;dsimp only at h⊢;generalize G:Nat.beq r (E.R+1)=N;induction N with|true=>have h:=G▸h;exact⟨Wd (λl=>U f.fN (List.map (eH q r) l)) (vd (a4 h).1),Wd (λl=>U f.ey (List.map (eH q r) l)) (vd (a4 h).2)⟩|false=>have h:=G▸h;have I:=We (a4 h).1;have F:=We (a4 (a4 h).2).1;have z:=a4 (mw (mw (mw (a4 (a4 h).2).2 (X (r-1) 0)) (X (r-1) 1)) (X (r-1) 2));exact⟨Wd (U f.fN) ((Wd (List.map (eH q r)) (vd z.1)).trans (GZ I F BF)),Wd (U f.ey) ((Wd (List.map (eH q r)) (vd z.2)).trans (GZ I F BF))⟩
def TL(s:d1)(h:sl E s):yi E X f (ka E X p f s) (si E s):=match s,h with
 |⟨_,_,_,_,_,[]⟩,_=>⟨rfl,rfl⟩
 |⟨_,_,_,_,_,_::_⟩,h=>TM h
def MS(g:List d1):∀{f:gb},(∀s∈g,sl E s=true)->yi E X f (kD E X p g f) (u1 E g):=by
 induction g with
 |nil=>exactλ{f} _=>⟨eG.symm,eG.symm⟩
 |cons s r S=>
  intro f h;have a:=S (f:=ka E X p f s) λs m=>h s (.tail _ m);have c:=TL (X:=X) (p:=p) (f:=f) s (h s (.head _));have e:∀b,(f5 E X b (u1 E (s::r))).map b8.jR=U ((f5 E X b (si E s)).map b8.jR) ((f5 E X b (u1 E r)).map b8.jR):=λb=>by
   rw[hY,<-qm]
   rfl
  exact⟨by rw[e,<-eJ,<-c.1];exact a.1,by rw[e,<-eJ,<-c.2];exact a.2⟩
def Kc(E:C):u1 E E.dS=E.sh:=by induction E<;>rfl
def A5:(fJ E X p).fN=(f9 E X false).map b8.jR/\(fJ E X p).ey=(f9 E X true).map b8.jR:=by have z:=MS (X:=X) (p:=p) (f:=mL) E.dS (Wn.mp (Kq E));rw[Kc] at z;exact z
def m2{A:YS}{n:Nat}{v:V}:au (VO A n v) n=some v:=by
 induction A with
 |nil=>show(match Nat.beq n n with|true=>some v|false=>none)=_;rw[WA]
 |cons x r S=>
  show au (match Nat.beq x.1 n with|true=>(x.1,v)::r|false=>x::VO r n v) n=_
  generalize G:Nat.beq x.1 n=N;induction N with
  |true=>show(match Nat.beq x.1 n with|true=>some v|false=>_)=_;rw[G]
  |false=>show(match Nat.beq x.1 n with|true=>_|false=>au (VO r n v) n)=_;exact G▸S
def UB(l:List b8):eT [127] (.aC (.F 127) 57352 []) none A (l.map b8.jR) h (l.map b8.v) h:=by
 induction l with|nil=>exact gD|cons x l S=>exact fX rfl (fH (J m2) rfl rfl rfl rfl rfl du (fo 9 λ_=>rfl)) S
end
section
variable{L R Q:bo O}{n m:Nat}{h F:Z}{X:Prop}{V:List (Ze O)}
def wU(P:dg L R Q n h):h.n=n:=by cases P;rfl
def OO(L R Q:bo O)(n:Nat)(o:Ze O):∃w d b,∀a c x,(eP a c x L R Q (n+2)).oi o=eP a c x w d b (n+3):=by
 have f:(n+2)/2=n/2+1:=Nat.add_div_right n (Wx 1);have u:∀a c x,(eP a c x L R Q (n+2)).oi o=⟨match Nat.beq ((n+2) % 2) 1 with
  |true=>.node (some (.ae (a.map .int) 0)) (match Nat.beq ((n+2)/2) 0 with
   |true=>.node o L R
   |false=>match Nat.beq ((n+2)/2 % 2) 1 with
    |true=>.node (some (.ae [.ref 0,.int c,.int x] 0)) (bo.a5 (n+1) L ((n+2)/2/2) o) R
    |false=>.node (some (.ae [.ref 0,.int c,.int x] 0)) L (bo.a5 (n+1) R ((n+2)/2/2-1) o)) Q
  |false=>.node (some (.ae (a.map .int) 0)) (.node (some (.ae [.ref 0,.int c,.int x] 0)) L R) (bo.a5 (n+2) Q ((n+2)/2-1) o),n+3⟩:=λ_ _ _=>rfl
 have u:=f▸u;generalize P:Nat.beq ((n+2) % 2) 1=N;induction N with
 |false=>have u:=P▸u;exact⟨_,_,_,u⟩
 |true=>
  have u:=P▸u;generalize e:Nat.beq ((n/2+1) % 2) 1=N;induction N with|true=>have u:=e▸u;exact⟨_,_,_,u⟩|false=>have u:=e▸u;exact⟨_,_,_,u⟩
def zx(V:List (Ze O)):∀{L R Q:bo O}{n:Nat},∃w g f A,∀e c x,W (eP e c x L R Q (n+2)) V=eP e c x w g f (A+2):=by
 induction V with|nil=>exactλ{L R Q n}=>⟨L,R,Q,n,λ_ _ _=>rfl⟩|cons o r S=>exactλ{L R Q n}=>(OO L R Q n o).elim λw z=>z.elim λg z=>z.elim λf z=>(S).elim λa y=>y.elim λb y=>y.elim λc y=>y.elim λd y=>⟨a,b,c,d,λe c x=>by refine(?_:W ((eP e c x L R Q (n+2)).oi o) r=_);rw[z,y]⟩
def yY(P:dg L R Q (n+2) F)(D:m<900)(k:∀d T,d<m+1->dg L R Q (n+2) T->aY .inl 125 [.ref 1,I (m+1)] (W F V) (I d) (W T V)->X):X:=by
 induction P with
 |mk O c x=>
 refine(zx V (L:=L) (R:=R) (Q:=Q) (n:=n)).elim λw z=>z.elim λb z=>z.elim λa z=>z.elim λA z=>sF (.mk (L:=w) (R:=b) (Q:=a) (n:=A+2) O c x) D λd S f i e=>?_;induction i with|mk H l s=>exact k d (eP H l s L R Q (n+2)) f (.mk H l s) (by rw[z,z];exact e)
def Gp(P:dg L R Q (n+2) F)(D:VN b<900)(k:∀a T,a∈y::b->dg L R Q (n+2) T->aY .inl 126 [.ref 1,.ae (y::b)] (W F V) a (W T V)->X):X:=by
 induction P with
 |mk O c x=>
 refine(zx V (L:=L) (R:=R) (Q:=Q) (n:=n)).elim λw z=>z.elim λg z=>z.elim λf z=>z.elim λh z=>rL (y:=y) (f:=b) (.mk (L:=w) (R:=g) (Q:=f) (n:=h+2) O c x) D λd a S A i e=>?_;induction i with|mk H l s=>exact k a (eP H l s L R Q (n+2)) (rF _ A) (.mk H l s) (by rw[z,z];exact e)
def wR(P:dg L R Q (n+2) F)(k:∀w b a A,dg w b a (A+2) (W F V)->X):X:=by
 induction P with|mk O c x=>exact(zx V).elim λw z=>z.elim λb z=>z.elim λa z=>z.elim λA z=>k w b a A (z O c x▸.mk O c x)
end
def fc(E:C):Y0->V
 |none=>pb
 |some j=>dG E j
def VR(E:C)(I:YX):YU:=I.map (fc E)
def uy(E:C):Y0->Prop
 |none=>True
 |some j=>j<E.aD
def dp(E:C)(I:YX):Prop:=∀o∈I,uy E o
def dp.U(u:dp a' c')(C:dp a' f'):dp a' (U c' f'):=λo j=>(WU.mp (cQ▸j)).elim (u o) (C o)
def dp.d9(j:uy c' a'):dp c' [a']:=λ_ o=>Ws.mp o▸j
def Ti(h:b∈a.hS):∃B,uy a (some B)/\b=fc a (some B):=by rw[A9] at h;exact(WN.mp h).elim λB z=>⟨B,Wg (Wj a.k▸(g6 _ z.1).2) (jt a).1,z.2.symm⟩
noncomputable def C.BX:C->Nat|.jK=>2|.ko=>3|_=>0
def Jm(E:C):(E.je=bX []/\E.R=E.k)\/(uy E (some E.BX)/\E.je=fc E (some E.BX)/\∀h,dx .cC E.je (bX []) h=some true):=by induction E<;>first|exact .inl ⟨rfl,rfl⟩|exact .inr ⟨Wb rfl,rfl,λ_=>rfl⟩
def df(E:C)(I:YX):Ze O:=some (.ae (VR E I) 0)
section
variable{E:C}{X:YZ}{G:List dC}{T g S n t:Nat}{L R Q:bo O}{F P:Z}{N:Prop}{H:YX}{D:Y0}{A:YS}
abbrev iN(W:V)(n:Nat):YS:=Zx [(160,.ref 1),(170,W),(157,.ref n)]
def r2(P:dg L R Q n F):(W F [df E H]).get n=some (.ae (VR E H) 0):=wU P▸cw (i:=0) [df E H] rfl
def BI(a:dg L R Q n F)(i:dg L R Q n P)(B:au A 157=some (.ref n))(eK:ao e ⟨A,W F [df E H]⟩ (fc E D) (W P [df E H]))(f:H.length<900):cF (.expr (.aC (.F 157) 8192 [e])) ⟨A,W F [df E H]⟩ .next ⟨A,W P [df E (U H [D])]⟩:=by
 have s:=gR (a:=P) (i:=0) (x:=df E (U H [D])) [df E H] rfl;have s:=(wU i)▸s;refine de (fW (J B) (r2 a) (aq eK) (r2 i) ((hq (r2 i) (dV (by unfold VR;rw[c9,c5];exact Wg f (Wb rfl)))).trans (Wd (λh=>some (V.none,h)) ?_))) rfl
 refine Eq.trans ?_ s;unfold df VR;refine hY▸?_
 rfl
def H9(A:dg L R Q (n+2) F)(Z:dp E H)(m:H.length<800)(k:∀P a,dg L R Q (n+2) P->dp E (U H a)->1<=a.length->a.length<=3->(t=0->a.length<=2)->bE (cA (cm pD 1)) ⟨U (iN (bN E X G T g S) (n+2)) [(180,I t)],W F [df E H]⟩ .next ⟨U (iN (bN E X G T g S) (n+2)) [(180,I t)],W P [df E (U H a)]⟩->N):N:=by
 have lt2:∀{D:Y0},(U H [D]).length<900:=λ{D}=>by exact cQ▸Wk▸Wg (XJ m 1) (Wb rfl)
 have O:∀{n},n<802->n<900:=λh=>Wg h (Wb rfl);have C:∀{b r o a},o=U H a->dg L R Q (n+2) b->dg L R Q (n+2) r->dp E o->a.length<=2->(t=0->a.length<=1)->bE ((cA (cm pD 1)).take 2) ⟨U (iN (bN E X G T g S) (n+2)) [(180,I t)],W F [df E H]⟩ .next ⟨U (iN (bN E X G T g S) (n+2)) [(180,I t)],W b [df E o]⟩->N:=λ{b r o a} e f q i l p x=>by
  subst e;refine k b (U a [none]) f (eJ▸i.U (.d9 trivial)) (by refine cQ▸Wk▸?_;exact Xi 1 _) (by exact cQ▸Wk▸WC l) (λz=>by exact cQ▸Wk▸WC (p z)) (nJ 2 x (M (eJ▸BI f f rfl u ?_) ba))
  exact cQ▸Wk▸O (Wg (X6 m l) (Wr _))
 have hL:∀{b a},dg L R Q (n+2) b->dp E (U H a)->a.length<=1->(t=0->a.length<=0)->cF ((cA (cm pD 1)).headD .eD) ⟨U (iN (bN E X G T g S) (n+2)) [(180,I t)],W F [df E H]⟩ .next ⟨U (iN (bN E X G T g S) (n+2)) [(180,I t)],W b [df E (U H a)]⟩->N:=λ{b a} f i l p s=>by
  refine(Jm E).elim (λz=>?_) λz=>?_
  .exact C rfl f f i (W8 l) (λz=>Wh (p z) (Ww 1)) (M s (M (cX (fV (ph (bF (bw J u rfl) u (by refine z.1▸?_;rfl)) rfl)) rfl) ba))
  .refine yY (V:=[df E (U H a)]) (m:=2) f (Wb rfl) λd r K q c=>?_
   have Y:∀{B},Nat.beq d 0=B->ao (.bool true [(.aw .cC (.sub (.F 170) (.lit (.int 1))) (.lit (.str (j [])))),(.aw .eq (.call .inl 125 [(.F 160),(.lit (.int 3))]) (.lit (.int 0)))]) ⟨U (iN (bN E X G T g S) (n+2)) [(180,I t)],W b [df E (U H a)]⟩ (.bool B) (W r [df E (U H a)]):=λe=>fV (jN (bF (bw J u rfl) u (z.2.2 _)) rfl (hZ (n7 (c7 (aI J (aq u)) c) u (Wd some e))));generalize K:Nat.beq d 0=c';induction c' with|false=>exact C rfl q q i (W8 l) (λz=>Wh (p z) (Ww 1)) (M s (M (jV (Y K) rfl ba) ba))|true=>exact C eJ q q (i.U (.d9 z.1)) (by exact cQ▸Wk▸WC l) (λz=>by exact cQ▸Wk▸WC (p z)) (M s (M (lP (Y K) rfl (M (BI q q rfl (z.2.1▸bw J u rfl) (by exact cQ▸Wk▸O (Wg (X6 m l) (WH _)))) ba)) ba))
 induction t with
 |zero=>exact hL (a:=[]) A (eG.symm▸Z) (Ww _) (λ_=>Wr _) (eG.symm▸cX (bF J u rfl) rfl)
 |succ t=>
  have a':∃y V,E.hS=y::V/\VN V<900:=by induction E<;>exact⟨_,_,rfl,Wb rfl⟩
  exact a'.elim λy z=>z.elim λV z=>Gp A z.2 λv b cK f c=>(Ti (z.1▸cK)).elim λe1 w=>hL f (Z.U (.d9 w.1)) (Wr _) nofun (lP (n7 J u rfl) rfl (M (BI A f rfl (w.2▸c7 (aI J (aq (bw (J rfl) u (z.1▸rfl)))) c) (O (WW (WW m)))) ba))
end
section
variable{E:C}{X:YZ}{G:List dC}{T g S n:Nat}{L R Q:bo O}{F:Z}{P:Prop}
def Vy(m:Nat):∀{t:Nat}{a:YX}{F:Z},dg L R Q (n+2) F->dp E a->a.length+3*m<700->(∀c b,dg L R Q (n+2) c->dp E (U a b)->b.length<=3*m->cS [180] (cA (cm pD 1)) ((aB t m).map I) ⟨iN (bN E X G T g S) (n+2),W F [df E a]⟩ .next ⟨iN (bN E X G T g S) (n+2),W c [df E (U a b)]⟩->P)->P:=by
 induction m with
 |zero=>exactλ{t a F} d e _ k=>k F [] d (eG.symm▸e) (Ww _) (eG.symm▸dq)
 |succ m j=>
  intro t a F d e l k;refine H9 d e (Wf (Wq _ _) (WJ l (Wb rfl))) λu b s h _ A _ x=>j s h ?_ λr o q i p f=>k r (U b o) q (eJ▸i) ?_ (eJ▸cW rfl x rfl f)
  .rw[cQ,Wk,Wl]
   exact Wf (Wt (Wh (Wy A _) (WI (by rw[XK,Wm]))) _) l
  .refine cQ▸Wk▸?_
   exact Wh (Xb A p) (WI (by rw[XK,Wm]))
def Uo{l:List α}:∀{n:Nat},mg (l.map f) n=(l.take n).map f:=by
 induction l with
 |nil=>exactλ{n}=>by induction n<;>rfl
 |cons x r S=>exactλ{n}=>by induction n with|zero=>rfl|succ n=>exact Wd (f x::·) S
def LL{l:List α}:∀{n:Nat},q7 (l.map f) n=(l.drop n).map f:=by
 induction l with
 |nil=>exactλ{n}=>by induction n<;>rfl
 |cons x r S=>exactλ{n}=>by induction n with|zero=>rfl|succ n=>exact S
def Jj:mB .add false (.int 1) (I m) h=some (I (m+1),h):=Wd (λi=>some (V.int i,h)) (YP 1 (.ofNat m))
def P5(h:a∈[V.int 2,.int 1,.int 2,.int 0]):∃n,n<=2/\a=I n:=
 (Wz.mp h).elim (λe=>⟨2,Wr 2,e⟩) λh=>(Wz.mp h).elim (λe=>⟨1,WH 1,e⟩) λh=>(Wz.mp h).elim (λe=>⟨2,Wr 2,e⟩) λh=>⟨0,Ww 2,Ws.mp h⟩
def Vw{h:Z}(g:h.get n=some (.ae (VR E a) 0))(f:a.length<400):cF (.bY (.F 157) (.a7 .add false (.gk false (.F 157) none (some (.F 7))) (.gk false (.F 157) (some (.a7 .add false (.F 7) (.lit (.int 1)))) none))) ⟨U (iN b n) [(7,I e)],h⟩ .next ⟨[(160,.ref 1),(170,b),(157,.ae (VR E (U (a.take e) (a.drop (e+1))))),(7,I e)],h⟩:=by refine cI (cV (zm J J (lW g)) (zo J (cV (d:=I (e+1)) J u rfl) (lW g)) ?_);refine(?_:bS (eA (U (mg (VR E a) e) (q7 (VR E a) (e+1)))) _=_);unfold VR;rw[Uo,LL,hY];refine fL (dV ?_) rfl;rw[c9,c5,cQ,Wk];refine Wf (Xb (List.length_take_le' e a) (?_:_<=a.length)) (Wg (Nat.add_lt_add f f) (Wb rfl));rw[Yi];exact W' _ _
def Vx{a:YX}(h:a.length<=8):(U (a.take e) (a.drop (e+1))).length<=8:=by
 refine Wh ?_ h;rw[cQ,Wk];refine Wh (Wt (?_:_<=(a.drop e).length) _) (WI (by rw[<-Wk,Yo]))
 rw[Yi,Yi];exact Nat.sub_le_sub_left (WH e) _
def OM(C:dg L R Q (n+2) F)(k:∀a w c b A i,dg w c b (A+2) i->dp E a->a.length<=8->aY .inl 134 [.ref 1,bN E X G T g S] F (.ae (VR E a)) i->P):P:=by
 refine Gp (V:=[df E []]) C (Wb rfl) λv fv e1 a' c'=>(P5 e1).elim λm z=>?_;have fp:=z.2;subst fp;refine H9 (t:=0) (X:=X) (G:=G) (T:=T) (g:=g) (S:=S) a' (H:=[]) (λ_ h=>nomatch h) (Wx _) λf' fi cK hk2 v1 _ Y x=>Vy (E:=E) (t:=1) (X:=X) (G:=G) (T:=T) (g:=g) (S:=S) m cK hk2 ?_ λs us P3 r e2 f=>?_
 .exact Wf (Xb (Y rfl) (WT 3 z.1)) (Wb rfl)
 generalize N:U (U [] fi) us=a at f r;have t:a.length<=8:=by exact N▸cQ▸Wk▸Xb (Y rfl) (Wh e2 (WT 3 z.1))
 have l1:1<=a.length:=by exact N▸cQ▸Wk▸Wh v1 (Wq _ _)
 have V:∀{q O},bE (pD.body.drop 2) ⟨iN (bN E X G T g S) (n+2),W s [df E a]⟩ q O->bE pD.body ⟨[(160,.ref 1),(170,bN E X G T g S)],F⟩ q O:=λ{q O} y=>M (a:=⟨iN (bN E X G T g S) (n+2),W F [df E []]⟩) ((wU C)▸cI (h5 du)) (M (da (d:=I 0::(aB 1 m).map I) (j4 (m+1) (i:=0)▸kH (b:=m+1) (s6 u (c7 (aI J (aq (fq (aI u (aI u (aI u (aq u))))))) c') Jj) (qO (Wf (WC z.1) (Wb rfl)))) rfl (cW rfl x rfl f) rfl) y)
 refine yY (V:=[df E a]) (m:=5) P3 (Wb rfl) λd l _ j yH=>?_;have H:∀{B},Nat.beq d 0=B->ao (.aw .eq (.call .inl 125 [(.F 160),(.lit (.int 6))]) (.lit (.int 0))) ⟨iN (bN E X G T g S) (n+2),W s [df E a]⟩ (.bool B) (W l [df E a]):=λe=>n7 (c7 (aI J (aq u)) yH) u (Wd some e);generalize K:Nat.beq d 0=fs;induction fs with
 |false=>
  refine wR (V:=[none]) j λw c b A p=>k a w c b A _ p r t (cH rfl rfl (V (M (jV (H K) rfl ba) (bG (cb (mI J ((sX (r2 j) (tG λo=>by induction o<;>rfl)).trans (Wd (λh=>some (_,h)) ?_))))))))
  exact(wU j)▸gR (a:=l) (i:=0) (x:=none) [df E a] rfl
 |true=>
  refine yY (V:=[df E a]) (m:=a.length-1) j (Wf (Wh (W' _ _) t) (Wb rfl)) λe Z _ D u0=>?_;rw[XW l1] at u0;have s1:cF (.bY (.F 7) (.call .inl 125 [(.F 160),(.bq false .len [(.F 157)])])) ⟨iN (bN E X G T g S) (n+2),W l [df E a]⟩ .next ⟨U (iN (bN E X G T g S) (n+2)) [(7,I e)],W Z [df E a]⟩:=
   cI (c7 (aI J (aq (d3 (b:=I a.length) (aq J) (a6 rfl (a6 (px (r2 j)) (by unfold VR;dsimp only;rw[c9,c5])))))) u0)
  exact wR (V:=[df E a]) D λw c b A p=>k _ w c b A _ p (λo h=>(WU.mp (cQ▸h)).elim (λh=>r o (List.mem_of_mem_take h)) λh=>r o (List.mem_of_mem_drop h)) (Vx t) (cH rfl rfl (V (M (lP (H K) rfl (M s1 (M (Vw (r2 D) (Wf t (Wb rfl))) ba))) (bG (cb (mI J rfl))))))
end
set_option genCtorIdx true in
inductive aV where
 |a
 |p(i:Nat)(t:aV)
 |f(i:Nat)(l r:aV)
namespace aV
noncomputable def v:aV->V
 |a=>pb
 |p j C=>.ay [I j,v C]
 |f j o u=>.ay [I j,v o,v u]
noncomputable def cq(j:C):aV->Prop
 |a=>True
 |p o M=>o=j.k/\j.k<j.R/\cq j M
 |f o u J=>o<j.k/\cq j u/\cq j J
noncomputable def dM:aV->Nat
 |a=>1
 |p _ u=>dM u+1
 |f _ j o=>max (dM j) (dM o)+1
end aV
noncomputable def kL:b'->Bool
 |.gW=>true
 |_=>false
noncomputable def zQ:b'->Bool
 |.nx=>true
 |.dH=>true
 |_=>false
noncomputable def ig(W:Nat->Nat->b')(i:Nat):aV->Bool
 |.a=>true
 |.p j t=>kL (W j i)&&ig W i t
 |.f j _ r=>kL (W j i)&&ig W i r
noncomputable def m8(W:Nat->Nat->b')(i:Nat):aV->Bool
 |.f j l _=>zQ (W i j)&&m8 W i l
 |_=>true
noncomputable def eE(W:Nat->Nat->b'):aV->Bool
 |.a=>true
 |.p i t=>m8 W i t&&eE W t
 |.f i l r=>ig W i l&&(eE W l&&(m8 W i r&&eE W r))
noncomputable def fC(E:C):aV->V
 |.a=>.ay [bX [69],.ay [pb,pb]]
 |.p i t=>.ay [bX [69],.ay [dG E (E.bC i),dG E (E.bC i)],fC E t]
 |.f i l r=>.ay [bX [69],fC E l,.ay [dG E (E.bC i),dG E (E.bC i)],fC E r]
noncomputable def z8:Nat->Nat
 |0=>132
 |k+1=>137+k
noncomputable def z9:Nat->Nat
 |0=>133
 |k+1=>150+k
def z':gG (λk=>dD.fK (z8 k)=some (fI (z8 (k+1)))/\dD.fK (z9 k)=some (iV (z9 (k+1)))) (aB 0 12):=by(repeat' apply And.intro)<;>first|exact trivial|kernel_rfl
section
variable{E:C}{O:YZ}{G:List dC}
abbrev oM(E:C):YU:=(aB 0 E.R).map λi=>dG E (E.bC i)
def QR(n:Nat):∀{i B:Nat},B<n->a3 ((aB i n).map g) B=some (g (i+B)):=by
 induction n with
 |zero=>exactλh=>nomatch h
 |succ n S=>exactλ{i B} h=>by induction B with|zero=>rfl|succ B=>exact(S (Xl h)).trans (by rw[Wl,Wm 1])
def zt(h:B<a):cZ (.ae ((aB 0 a).map g)) (I B) Z.bj=some (g B):=(jq (by rw[c9,c5,oR];exact h) (QR a h)).trans (by rw[Wj])
def vN(h:i<E.k):E.bC i=i:=We (Wn.mp (show((aB 0 E.k).all λi=>Nat.beq (E.bC i) i)=true by induction E<;>rfl) i (gE _ (Ww _) (by rw[Wj];exact h)))
noncomputable def sT:Bool->fE
 |true=>.next
 |false=>.ret (.bool false)
noncomputable def Hz:S->List S
 |.ite _ a _=>a
 |_=>[]
def qy:S:=((Hz (cm (fI 0) 2)).drop 1).headD .eD
def BH:S:=cm (fI 0) 4
abbrev hy(E:C)(W t:V)(u:V):YS:=[(170,W),(69,t),(163,.ae (oM E)),(179,u)]
variable(X:O.length=E.eB.length)(s:d0 E.aD G)
include X s in
def H7(k:i<E.R)(P:B<E.k)(j:au A 170=some (bN E O G d g e))(D:au A 163=some (.ae (oM E)))(a:ao c ⟨A,h⟩ (I i) h)(b:ao f ⟨A,h⟩ (I B) h):ao (.call .pure 129 [.F 170,.sub (.sub (.F 170) (.lit (.int 2))) c,.sub (.F 163) f]) ⟨A,h⟩ (hT (br E O G i B)) h:=by have R:=jt E;refine c7 (aI (J j) (aI (bw (bw (J j) u rfl) a ((Wd (λl=>cZ (.ae l) (I i) h) (ni X)).trans (zt k))) (aq (bw (J D) b ((zt (Wg P R.2.1)).trans (by rw[vN P])))))) (BJ (a:=d) (g:=g) (b:=e) (h:=h) X s k (Wg P R.1))
def GB(e:kL w=b):dx .cC (hT w) (bX [114,101,100,117,99,101]) h=some (!b):=by subst e;induction w<;>rfl
def G'(e:zQ w=b):dx .j0 (hT w) (.ay [bX [115,104,105,102,116],bX [110,111,110,101]]) h=some (!b):=by subst e;induction w<;>rfl
def w7(A:i<E.k):i<E.R:=Wg A (jt E).2.1
include X s in
def Se(A:i<E.k)(H:cZ r (.int 0) h=some (I i))(t:aV):t.cq E->∃L,jJ (nG qy) (cA qy) ⟨hy E (bN E O G b g a) r t.v,h⟩ (sT (ig (br E O G) i t)) ⟨hy E (bN E O G b g a) r L,h⟩:=by
 have VV:∀{t L:aV}{j:Nat},j<E.R->dx .cC t.v (bX [97]) h=some true->cZ t.v (.int (-1)) h=some L.v->cZ t.v (.int 0) h=some (I j)->ig (br E O G) i t=(kL (br E O G j i)&&ig (br E O G) i L)->
   (∃x,jJ (nG qy) (cA qy) ⟨hy E (bN E O G b g a) r L.v,h⟩ (sT (ig (br E O G) i L)) ⟨hy E (bN E O G b g a) r x,h⟩)->∃x,jJ (nG qy) (cA qy) ⟨hy E (bN E O G b g a) r t.v,h⟩ (sT (ig (br E O G) i t)) ⟨hy E (bN E O G b g a) r x,h⟩:=λ{t L j} P c p d e S=>by
  have f:ao (nG qy) ⟨hy E (bN E O G b g a) r t.v,h⟩ (.bool true) h:=bF J u c;have w:=H7 (e:=a) (c:=.sub (.F 179) (.lit (.int 0))) (f:=.sub (.F 69) (.lit (.int 0))) (A:=hy E (bN E O G b g a) r t.v) X s P A rfl rfl (bw J u d) (bw J u H);refine e▸?_;generalize F:kL (br E O G j i)=N;induction N with|false=>exact⟨_,H5 f rfl (bG (c1 (bF w u (GB F)) rfl (bG (cb u))))⟩|true=>exact S.elim λx k=>⟨x,uC f rfl (M (cX (bF w u (GB F)) rfl) (M (dk (bw J (hI u rfl) p)) ba)) k⟩
 induction t with|a=>exactλ_=>⟨_,qx (bF J u rfl) rfl⟩|p j L S=>exactλcq=>VV (by exact cq.1▸cq.2.1) rfl rfl rfl rfl (S cq.2.2)|f j l L _ S=>exactλcq=>VV (w7 cq.1) rfl rfl rfl rfl (S cq.2.2)
include X s in
def OU(A:i<E.R)(H:cZ r (.int 0) h=some (I i))(t:aV):t.cq E->∃L,jJ (nG BH) (cA BH) ⟨hy E (bN E O G b g a) r t.v,h⟩ (sT (m8 (br E O G) i t)) ⟨hy E (bN E O G b g a) r L,h⟩:=by
 induction t with
 |a=>exactλ_=>⟨_,qx (fV (ph (bF J u rfl) rfl)) rfl⟩
 |p B L S=>exactλ_=>⟨_,qx (fV (jN (bF J u rfl) rfl (hZ (bF (d3 (aq J) rfl) u rfl)))) rfl⟩
 |f B l L S _=>
  intro cq;have f:ao (nG BH) ⟨hy E (bN E O G b g a) r (aV.f B l L).v,h⟩ (.bool true) h:=fV (jN (bF J u rfl) rfl (hZ (bF (d3 (aq J) rfl) u rfl)));have w:=H7 (e:=a) (c:=.sub (.F 69) (.lit (.int 0))) (f:=.sub (.F 179) (.lit (.int 0))) (A:=hy E (bN E O G b g a) r (aV.f B l L).v) X s A cq.1 rfl rfl (bw J u H) (bw J u rfl);have D:ao (.ay [(.lit (.str Zk)),(.lit (.str Zj))]) ⟨hy E (bN E O G b g a) r (aV.f B l L).v,h⟩ (.ay [bX [115,104,105,102,116],bX [110,111,110,101]]) h:=d7 (aI u (aq u));unfold m8;generalize F:zQ (br E O G i B)=N;induction N with|false=>exact⟨_,H5 f rfl (bG (c1 (bF w D (G' F)) rfl (bG (cb u))))⟩|true=>exact(S cq.2.1).elim λx k=>⟨x,uC f rfl (M (cX (bF w D (G' F)) rfl) (M (dk (bw J u rfl)) ba)) k⟩
end
def Aa{A:YS}{B:α->YS}{a:YZ}{e:E}{l:List α}(b:∀x∈l,hH a (L x) ⟨A,h⟩=some ⟨B x,h⟩)(k:∀x∈l,ao e ⟨B x,h⟩ (t x) h):eT a e none A (l.map L) h (l.map t) h:=by
 induction l with|nil=>exact gD|cons x l S=>exact fX (b x (.head _)) (k x (.head _)) (S (λy m=>b y (.tail _ m)) λy m=>k y (.tail _ m))
section
variable{E:C}{O:YZ}{G:List dC}{X g T c f:Nat}
abbrev mr(E:C)(O:YZ)(G:List dC)(X g T:Nat):V:=bN E O G X g T
variable(S:O.length=E.eB.length)(s:d0 E.aD G)
include S in
def G6:cF (cm (fI c) 1) ⟨[(170,bN E O G X g T),(69,v)],h⟩ .next ⟨[(170,bN E O G X g T),(69,v),(163,.ae (oM E))],h⟩:=
 cI (h3 (c8 (d:=(aB 0 E.R).map (e4 E O)) (bw (J rfl) u rfl) (Wd some (ni S))) (dV (by rw[c9,c5,oR];exact Wf (jt E).2.2.1 (Wb rfl))) rfl (Aa (λ_ _=>rfl) λi _=>bw J u rfl) rfl)
def Hj(n:dx .eq v (bX [97]) h=some false):cF (cm (fI c) 0) ⟨[(170,bN E O G X g T),(69,v)],h⟩ .next ⟨[(170,bN E O G X g T),(69,v)],h⟩:=cX (bF J u n) rfl
include S s in
def Hl(f:i<E.R)(H:cZ r (.int 0) h=some (I i))(cq:t.cq E)(d:cZ r (.int (-1)) h=some t.v)(l:aY .inl c [mr E O G X g T,t.v] h (.bool b) h){L:V}(B:au A 69=some r)(j:VO A 179 t.v=hy E (bN E O G X g T) r t.v):∃a,bE ((fI c).body.drop 3) ⟨A,h⟩ (.ret (.bool (m8 (br E O G) i t&&b))) ⟨a,h⟩:=by
 have e:cF (cm (fI c) 3) ⟨A,h⟩ .next ⟨hy E (bN E O G X g T) r t.v,h⟩:=j▸dk (bw (J B) (hI u rfl) d);refine(OU (b:=X) (g:=g) (a:=T) S s f H t cq).elim λL k=>?_;generalize R:m8 (br E O G) i t=N;induction N with|false=>have k:=R▸k;exact⟨_,M e (bG (oJ k))⟩|true=>have k:=R▸k;exact⟨_,M e (M (oJ k) (bG (cb (c7 (aI J (aq (bw J (hI u rfl) d))) l))))⟩
include S s in
def TP(R:dD.fK f=some (fI c))(cq:(aV.p i t).cq E)(a:aY .inl c [mr E O G X g T,t.v] h (.bool (eE (br E O G) t)) h):aY .inl f [mr E O G X g T,(aV.p i t).v] h (.bool (eE (br E O G) (.p i t))) h:=
 (Hl (L:=.none) (A:=[(170,bN E O G X g T),(69,(aV.p i t).v),(163,.ae (oM E))]) S s (by rw[cq.1];exact cq.2.1) rfl cq.2.2 rfl a rfl rfl).elim λb k=>cH R rfl (M (Hj (c:=c) rfl) (M (G6 (c:=c) S) (M (cX (bF (d3 (aq J) rfl) u rfl) rfl) k)))
include S s in
def TO(R:dD.fK f=some (fI c))(cq:(aV.f i l r).cq E)(m:aY .inl c [mr E O G X g T,l.v] h (.bool (eE (br E O G) l)) h)(Q:aY .inl c [mr E O G X g T,r.v] h (.bool (eE (br E O G) r)) h):aY .inl f [mr E O G X g T,(aV.f i l r).v] h (.bool (eE (br E O G) (.f i l r))) h:=by
 have d:∀{v j},bE ((fI c).body.drop 2) ⟨[(170,bN E O G X g T),(69,(aV.f i l r).v),(163,.ae (oM E))],h⟩ (.ret v) ⟨j,h⟩->aY .inl f [mr E O G X g T,(aV.f i l r).v] h v h:=λk=>cH R rfl (M (Hj (c:=c) rfl) (M (G6 (c:=c) S) k));have w:ao (.aw .eq (.bq false .len [(.F 69)]) (.lit (.int 3))) ⟨[(170,bN E O G X g T),(69,(aV.f i l r).v),(163,.ae (oM E))],h⟩ (.bool true) h:=bF (d3 (aq J) rfl) u rfl;have x:cF (.bY (.F 179) (.sub (.F 69) (.lit (.int 1)))) ⟨[(170,bN E O G X g T),(69,(aV.f i l r).v),(163,.ae (oM E))],h⟩ .next ⟨hy E (bN E O G X g T) (aV.f i l r).v l.v,h⟩:=cI (A:=[(170,bN E O G X g T),(69,(aV.f i l r).v),(163,.ae (oM E))]) (bw J u rfl);refine(Se (b:=X) (g:=g) (a:=T) (r:=(aV.f i l r).v) (h:=h) S s cq.1 rfl l cq.2.1).elim λL a=>?_;show aY .inl f _ h (.bool (ig (br E O G) i l&&(eE (br E O G) l&&(m8 (br E O G) i r&&eE (br E O G) r)))) h;generalize F:ig (br E O G) i l=N;induction N with
 |false=>have a:=F▸a;exact d (bG (c1 w rfl (M x (bG (oJ a)))))
 |true=>
  have a:=F▸a;have b:ao (.c6 .not (.call .inl c [(.F 170),(.sub (.F 69) (.lit (.int 1)))])) ⟨hy E (bN E O G X g T) (aV.f i l r).v L,h⟩ (.bool (!(eE (br E O G) l))) h:=hI (c7 (aI J (aq (bw J u rfl))) m) rfl;generalize e:eE (br E O G) l=N;induction N with|false=>have b:=e▸b;exact d (bG (c1 w rfl (M x (M (oJ a) (bG (c1 b rfl (bG (cb u))))))))|true=>have b:=e▸b;exact(Hl (r:=(aV.f i l r).v) (L:=.none) (A:=hy E (bN E O G X g T) (aV.f i l r).v L) S s (w7 cq.1) rfl cq.2.2 rfl Q rfl rfl).elim λj k=>d (M (c1 w rfl (M x (M (oJ a) (M (cX b rfl) ba)))) k)
include S in
def GS(b:i<E.R)(B:au A 170=some (bN E O G X g T))(a:au A 69=some r)(H:cZ r (.int 0) h=some (I i)):ao (.sub (.sub (.sub (.F 170) (.lit (.int 2))) (.sub (.F 69) (.lit (.int 0)))) (.lit (.int 0))) ⟨A,h⟩ (dG E (E.bC i)) h:=
 bw (bw (bw (J B) u rfl) (bw (J a) u H) ((Wd (λl=>cZ (.ae l) (I i) h) (ni S)).trans (zt b))) u rfl
include S s in
def TQ(t:aV):∀{k:Nat},k+t.dM<=12->t.cq E->aY .inl (z8 k) [mr E O G X g T,t.v] h (.bool (eE (br E O G) t)) h/\aY .inl (z9 k) [mr E O G X g T,t.v] h (fC E t) h:=by
 have K:∀{k n},k+(n+1)<=12->k<12:=λz=>Wg (WD (Wx _)) z;have D:∀{k n},k+(n+1)<=12->k+1+n<=12:=λ{k n} z=>by rw[Wl,Wm 1];exact z
 induction t with|a=>exactλ{k} d _=>have z:=z'.lt (K d);⟨cH z.1 rfl (bG (c1 (bF J u rfl) rfl (bG (cb u)))),cH z.2 rfl (bG (c1 (bF J u rfl) rfl (bG (cb (d7 (aI u (aq (d7 (aI u (aq u))))))))))⟩|p i t a=>exactλ{k} d cq=>have z:=z'.lt (K d);have y:=a (D d) cq.2.2;⟨TP S s z.1 cq y.1,(cH z.2 rfl (M (cX (bF J u rfl) rfl) (M (dk (GS S (by rw[cq.1];exact cq.2.1) rfl rfl rfl)) (bG (c1 (bF (d3 (aq J) rfl) u rfl) rfl (bG (cb (d7 (aI u (aI (d7 (aI J (aq J))) (aq (c7 (aI J (aq (bw J u rfl))) y.2))))))))))))⟩|f i l r m Q=>exactλ{k} d cq=>have z:=z'.lt (K d);have x:=m (Wh (Wt (X8 _ _) _) (D d)) cq.2.1;have y:=Q (Wh (Wt (X5 _ _) _) (D d)) cq.2.2;⟨TO S s z.1 cq x.1 y.1,(cH z.2 rfl (M (cX (bF J u rfl) rfl) (M (dk (GS S (w7 cq.1) rfl rfl rfl)) (M (cX (bF (d3 (aq J) rfl) u rfl) rfl) (bG (cb (d7 (aI u (aI (c7 (aI J (aq (bw J u rfl))) x.2) (aI (d7 (aI J (aq J))) (aq (c7 (aI J (aq (bw J u rfl))) y.2))))))))))))⟩
end
def g4(E:C)(I:YX)(n i:Nat):Bool:=match a3 I n with
 |some (some j)=>Nat.beq j (E.bC i)
 |_=>false
def gn(I:YX)(n:Nat):Bool:=match a3 I n with
 |some none=>true
 |_=>false
noncomputable def gY{α:Type}(b:Bool)(l:List α):List α:=match b with
 |true=>l
 |false=>[]
section
variable(E:C)(I:YX)(T:Nat->Nat->List aV)
def nf(a m i:Nat):List aV:=gY (Nat.beq i E.k&&(g4 E I a i&&Nat.blt 1 m)) ((T (a+1) (m-1)).map (aV.p i))
def hR(a m i s:Nat):List aV:=gY (!(Nat.beq i E.k)&&g4 E I (a+s) i) ((T a s).flatMap λl=>(T (a+s+1) (m-s-1)).map (aV.f i l))
def hv(a m i:Nat):List aV:=nf E I T a m i++(aB 1 (m-2)).flatMap (hR E I T a m i)
def j8(a m:Nat):List aV:=gY (Nat.beq m 1&&gn I a) [aV.a]++(aB 0 E.R).flatMap (hv E I T a m)
end
def Bu(E:C)(I:YX)(O:Nat):Nat->Nat->List aV:=
 O.rec (λ_ _=>[]) λ_ S a m=>match m with
  |0=>[]
  |m+1=>j8 E I S a (m+1)
def cc(E:C)(I:YX)(a m:Nat):List aV:=Bu E I m a m
def u5(f:α->β->γ)(h:a=A)(k:b=c):f a b=f A c:=by rw[h,k]
def DF{l:List α}(h:∀x∈l,f x=g x):l.flatMap f=l.flatMap g:=by
 induction l with|nil=>rfl|cons x l S=>rw[Xm,Xm,h x (.head _),S λy m=>h y (.tail _ m)]
def xn(h:s∈aB 1 (m-2)):1<=s/\s+1<m:=have z:=g6 _ h;⟨z.1,by have p:0<m-2:=Nat.lt_of_add_lt_add_left (Wf z.1 z.2:1+0<_);have h:=z.2;have e:=XW (WK (Nat.lt_of_sub_pos p));rw[<-e,Wm 1] at*;exact XJ h 1⟩
def GL(h:∀a b,b<m+1->T a b=d a b):j8 e c T a (m+1)=j8 e c d a (m+1):=by
 refine Wd (gY (Nat.beq (m+1) 1&&gn c a) [aV.a]++·) (DF λi _=>?_);refine u5 (·++·) ?_ (DF λs f=>?_)
 .unfold nf
  rw[h _ (m+1-1) (Wu m)]
 .have z:=xn f
  unfold hR;rw[h a s (WE z.2),h _ (m+1-s-1) (Wf (W' _ _) (XT (Wx m) z.1))]
def UI(f:Nat):∀{g m a:Nat},m<=f->m<=g->Bu c d f a m=Bu c d g a m:=by
 induction f with
 |zero=>exactλ{g m a} h _=>by cases Nat.le_zero.mp h;induction g<;>rfl
 |succ f S=>exactλ{g m a} R i=>by induction m with
  |zero=>induction g<;>rfl
  |succ m=>induction g with|zero=>exact absurd i (Yr m)|succ g=>exact GL λb n X=>S (Wh (WV X) (Yf R)) (Wh (WV X) (Yf i))
def o7:cc b c a (m+1)=j8 b c (cc b c) a (m+1):=GL λ_ n X=>UI m (WV X) (Wr n)
noncomputable def cL(O:YZ):Nat:=
 O.rec 0 λx _ S=>x+S
def Hq{l:YZ}(h:∀x∈l,f x<=g x):cL (l.map f)<=cL (l.map g):=by
 induction l with|nil=>exact Wr _|cons x l S=>exact Xb (h x (.head _)) (S λy m=>h y (.tail _ m))
def me{l:YZ}(h:∀x∈l,f x=g x):cL (l.map f)=cL (l.map g):=by
 induction l with|nil=>rfl|cons x l S=>exact u5 (·+·) (h x (.head _)) (S λy m=>h y (.tail _ m))
def zV:(gY b l).length<=l.length:=by induction b<;>first|exact Wr _|exact Ww _
def wa{l:YZ}:(l.flatMap f).length=cL (l.map λx=>(f x).length):=by
 induction l with|nil=>rfl|cons x l S=>rw[Xm,Wk,S];rfl
def Fe{L M:List aV}{g:aV->aV->aV}:(L.flatMap λl=>M.map (g l)).length=L.length*M.length:=by
 induction L with|nil=>exact(Xt _).symm|cons x L S=>rw[Xm,Wk,S,WG,WL,Nat.add_mul,Nat.one_mul,Wm]
def JL:YZ:=Zx [0,1,1,4,10,37,121,451,1639]
def nP(m:Nat):Nat:=lO JL m
def yz(m:Nat):Nat:=cL ((aB 1 (m-2)).map λs=>nP s*nP (m-s-1))
def JK:((aB 1 8).all λm=>Nat.ble ((match Nat.beq m 1 with|true=>1|false=>0)+(nP (m-1)+3*yz m)) (nP m)):=rfl
def I6(m:Nat):∀{a:Nat},m<=8->(cc c d a m).length<=nP m:=by
 induction m using Nat.strongRecOn with
 |ind m S=>
  intro a q;induction m with
  |zero=>exact Wr 0
  |succ m=>
   have B:=λ{n b}(h:n<m+1)=>S n h (a:=b) (WK (Wg h q));rw[o7];unfold j8;rw[Wk,wa];refine Wh (Xb ?_ (Wh (Hq (g:=λi=>match Nat.beq i c.k with|true=>nP m|false=>yz (m+1)) λi _=>?_) ?_)) (Wb (Wn.mp JK (m+1) (gE _ (WC (Ww m)) (Wf q (Wu 8)))))
   .generalize Nat.beq (m+1) 1=N;induction N with|true=>exact zV|false=>exact Ww _
   .unfold hv nf
    rw[Wk,wa];generalize G:Nat.beq i c.k=N;induction N with
    |true=>
     have z:∀l:YZ,cL (l.map λx=>(hR c d (cc c d) a (m+1) i x).length)=0:=λl=>by
      induction l with|nil=>rfl|cons x l f=>exact u5 (·+·) (show(hR c d (cc c d) a (m+1) i x).length=0 by unfold hR;rw[G];rfl) f
     rw[z];exact Wh zV (by rw[WG];exact B (Wu m))
    |false=>refine(Wj _).symm▸Hq λs e=>?_;have w:=xn e;unfold hR;refine Wh zV ?_;rw[Fe];exact Nat.mul_le_mul (B (WE w.2)) (B (Wf (W' _ _) (XT (Wx m) w.1)))
   .rw[show m+1-1=m from rfl]
    generalize nP m=x;generalize yz (m+1)=y;cases c
    .show y+(y+0)<=_;omega
    .show y+(y+(x+0))<=_;omega
    .show y+(y+(x+0))<=_;omega
    .show y+(y+(y+0))<=_;omega
    .show y+(y+(y+(x+0)))<=_;omega
    .show y+(y+(y+(x+0)))<=_;omega
def jn(h:VN l<90000):eA l:=dE (Wg h (Wb rfl))
def mC(h:a<90000):Nat.blt a b0:=dE (Wg h (Wb rfl))
def md{a b:Nat}(l:b<=a):mB .sub false (I a) (I b) h=some (I (a-b),h):=Wd (λi=>some (V.int i,h)) (Int.ofNat_sub l).symm
def qI(p:ao a ⟨A,h⟩ (.bool x) h)(q:oZ true (b::G) ⟨A,h⟩ (.bool y) h):oZ true (a::b::G) ⟨A,h⟩ (.bool (x&&y)) h:=by
 induction x with|true=>exact jN p rfl q|false=>exact ph p rfl
def b4(T:YT):Z:=Zx ⟨.node (some (.ah .T T 0)) .nil .nil,1⟩
noncomputable def eu(l:List aV):YU:=l.map aV.v
def rq:VN (eu l)=l.length:=by unfold eu;rw[c5,WG]
def UT:U (eu a) (eu b)=eu (a++b):=by unfold eu;rw[cQ,XH]
def HG{R:List aV}:R.map (λt=>(g t).v)=eu (R.map g):=XE.symm
def r9(h:m<=8):(cc b c a m).length<9000:=
 Wf (I6 m h) (dY (Wn.mp (show((aB 0 9).all λm=>Nat.blt (nP m) 9000)=true by kernel_rfl) m (gE _ (Ww m) (Wf h (Wu 8)))))
abbrev Ca:List S:=cA (cm Dm 1)
abbrev uV:List S:=cA (Ca.headD .eD)
abbrev yy:List S:=cA ((uV.drop 1).headD .eD)
abbrev Cb:List S:=cA ((yy.drop 1).headD .eD)
abbrev JM:List S:=cA ((Hz (Cb.headD .eD)).headD .eD)
abbrev rZ(E:C)(b:YX)(W:V)(m a:Nat)(F:List aV):YS:=[(170,W),(157,.ae (VR E b)),(178,.ref 0),(152,I m),(7,I a),(12,.ae (eu F))]
abbrev qe(E:C)(b:YX)(W:V)(m a i:Nat)(r:V)(F:List aV):YS:=U (rZ E b W m a F) [(22,I i),(24,r)]
def zC(e:au A 178=some (.ref 0))(p:ao b ⟨A,b4 T⟩ (I a) (b4 T))(q:ao f ⟨A,b4 T⟩ (I c) (b4 T))(g:bL T (.t [.ofNat a,.ofNat c])=some (.ae (eu L))):ao (.sub (.F 178) (.ay [b,f])) ⟨A,b4 T⟩ (.ae (eu L)) (b4 T):=
 bw (J e) (d7 (aI p (aq q))) (lN rfl rfl g)
def BU(a:au A 12=some (.ae (eu acc)))(p:ao e ⟨A,h⟩ (.ae (eu r)) h)(l:(acc++r).length<9000)(f:VO A 12 (.ae (eu (acc++r)))=t):cF (.bY (.F 12) (.a7 .add false (.F 12) e)) ⟨A,h⟩ .next ⟨t,h⟩:=by rw[<-f,<-UT];rw[Wk] at l;exact dk (cV (J a) p ((fL (jn (by rw[iD];exact(by rw[rq,rq];exact Wg l (Wb rfl)))) rfl)))
def UG(g:bL T (.t [.ofNat (a+s+1),.ofNat (m-s-1)])=some (.ae (eu R)))(P:s+1<m)(Q:R.length<9000)(L:List aV):∀{b:List aV},(b++L.flatMap λl=>R.map (aV.f i l)).length<9000->
  cS [69] JM (eu L) ⟨U (qe d e c m a i r b) [(155,I s)],b4 T⟩ .next ⟨U (qe d e c m a i r (b++L.flatMap λl=>R.map (aV.f i l))) [(155,I s)],b4 T⟩:=by
 induction L with
 |nil=>exactλ{b} _=>by rw[List.flatMap_nil,WQ];exact dq
 |cons l L S=>
  intro b f;rw[Xm,<-Xf] at f⊢;have k:=Wf (by rw[Wk];exact Wq _ _) f
  refine cW rfl (M (BU rfl (h3 (c8 (zC rfl (cV (cV J J rfl) u rfl) (cV (cV J J (md (WK (WE P)))) u (md (Nat.le_sub_of_add_le (by rw[Wm];exact WK P)))) g) rfl) (jn (by rw[rq];exact Wg Q (Wb rfl))) rfl (HG▸Aa (λ_ _=>rfl) λt _=>d7 (aI J (aI J (aq J)))) rfl) k rfl) ba) rfl (S f)
def Uw(E:C):((aB 0 E.aD).all λB=> !(VP Zg (fz E B))&& !(VP (fz E B) Zg)):=by induction E<;>kernel_rfl
def HD(P:B<a.aD):VP Zg (fz a B)=false/\VP (fz a B) Zg=false:=
 have z:=a4 (Wn.mp (Uw a) B (gE _ (Ww _) (by rw[Wj];exact P)))
 ⟨XZ _▸z.1,XZ _▸z.2⟩
def HC(X:b<a.length):∃H,a3 a b=some H/\H∈a/\cZ (.ae (VR c a)) (I b) h=some (fc c H):=(m7 a (c5▸X)).elim λH e=>⟨H,e,rF a e,jq (by unfold VR;rw[c9,c5];exact X) ((kU a).trans (Wd _ e))⟩
def HB(R:dp a b)(X:c<b.length)(g:i<a.R)(e:au A 157=some (.ae (VR a b)))(p:ao d ⟨A,h⟩ (I c) h)(q:ao f ⟨A,h⟩ (dG a (a.bC i)) h):ao (.aw .eq (.sub (.F 157) d) f) ⟨A,h⟩ (.bool (g4 a b c i)) h:=
 (HC X).elim λo z=>bF (bw (J e) p z.2.2) q (by
  unfold g4;refine z.1▸?_;induction o with|none=>exact Wd some (HD (pV (p:=0) g)).1|some j=>exact Wd some (Ar (R _ z.2.1) (pV (p:=0) g)))
def Uv(R:dp d a)(X:b<a.length)(e:au A 157=some (.ae (VR d a)))(p:ao c ⟨A,h⟩ (I b) h):ao (.aw .eq (.sub (.F 157) c) (.lit (.str Zg))) ⟨A,h⟩ (.bool (gn a b)) h:=
 (HC X).elim λo z=>bF (bw (J e) p z.2.2) u (by
  unfold gn;refine z.1▸?_;induction o with|none=>rfl|some B=>exact Wd some (HD (R _ z.2.1)).2)
def tq(h:cJ a b):a=b:=match a,b,h with
 |.i _,.i _,h=>Wd _ (mU.mp h)
 |.s _,.s _,h=>Wd _ (k3.mp h)
 |.t _,.t _,h=>Wd _ (zI.mp h)
def tr(a:aE):cJ a a:=match a with
 |.i _=>mU.mpr rfl
 |.s _=>k3.mpr rfl
 |.t _=>zI.mpr rfl
def vg(d:YT):bL (cU d q v) p=match cJ q p with
 |true=>some v
 |false=>bL d p:=by
 induction d with
 |nil=>rfl
 |cons x r S=>
  induction x with
  |mk k w=>
  show bL (match cJ k q with|true=>(k,v)::r|false=>(k,w)::cU r q v) p=match cJ q p with|true=>some v|false=>(match cJ k p with|true=>some w|false=>bL r p)
  generalize R:cJ k q=N;induction N with
  |true=>
   have e:=tq R;subst e;show(match cJ k p with|true=>some v|false=>bL r p)=_
   cases cJ k p<;>rfl
  |false=>
   show(match cJ k p with|true=>some w|false=>bL (cU r q v) p)=_
   rw[S];generalize a:cJ k p=N;induction N with
   |false=>rfl
   |true=>have e:=tq a;subst e;exact(show cJ q k=false from W3.mpr λz=>by rw[tq z,tr] at R;nomatch R)▸rfl
def jc(E:C)(I:YX)(T:YT)(m a:Nat):Prop:=∀b n,0<n->(n<m\/(n=m/\b<a))->b+n<=I.length->bL T (.t [.ofNat b,.ofNat n])=some (.ae (eu (cc E I b n)))
def jc.a5(U:jc f' ws kvs c' a'):jc f' ws (cU kvs (.t [.ofNat a',.ofNat c']) (.ae (eu (cc f' ws a' c')))) c' (a'+1):=λC M Z Y o=>by
 rw[vg];generalize j:cJ (.t [.ofNat a',.ofNat c']) (.t [.ofNat C,.ofNat M])=fi;induction fi with
 |true=>
  have J:=Wd (λk=>match k with|.t o=>o|_=>[]) (tq j)
  have V:=XR (W5 J).1;have W:=XR (W5 (W5 J).2).1;subst V W
  rfl
 |false=>exact U C M Z (Y.imp id λu=>⟨u.1,(XF (WV u.2)).elim id λcK=>by rw[cK,u.1,tr] at j;nomatch j⟩) o
def jc.up(J:jc f' ws kvs a' c')(V:ws.length<c'+a'):jc f' ws kvs (a'+1) 0:=λo W U M C=>J o W U (M.elim (λj=>(XF (WV j)).imp id λu=>⟨u,Nat.lt_of_add_lt_add_right (Wf (u▸C) V)⟩) λj=>absurd j.2 (Xv o)) C
def TB(L:jc b d T m a)(R:dp b d)(q:m<=8)(D:a+m<=d.length)(A:i<b.R)(n:Nat):∀{s:Nat}{e:List aV},1<=s->s+n+1<=m\/n=0->(e++(aB s n).flatMap (hR b d (cc b d) a m i)).length<9000->
  cS [155] Cb ((aB s n).map I) ⟨qe b d f m a i (e4 b g i) e,b4 T⟩ .next ⟨qe b d f m a i (e4 b g i) (e++(aB s n).flatMap (hR b d (cc b d) a m i)),b4 T⟩:=by
 induction n with
 |zero=>exactλ{s e} _ _ _=>by rw[show(aB s 0).flatMap (hR b d (cc b d) a m i)=[] from rfl,WQ];exact dq
 |succ n S=>
  intro s e j X h;have X:=X.elim id λz=>nomatch z;have P:=Wg (XJ (WD (Wx n)) 1) X;have r:s+1+n+1<=m:=by exact(Wl s 1 n)▸(Wm 1 n)▸X
  rw[show(aB s (n+1)).flatMap (hR b d (cc b d) a m i)=hR b d (cc b d) a m i s++(aB (s+1) n).flatMap (hR b d (cc b d) a m i) from Xm,<-Xf] at h⊢;have k:=Wf (by rw[Wk];exact Wq _ _) h
  have H:=S (W8 j) (.inl r) h;have c:ao (.bool true [(.c6 .not (.sub (.F 24) (.lit (.int 1)))),(.aw .eq (.sub (.F 157) (.a7 .add false (.F 7) (.F 155))) (.sub (.F 24) (.lit (.int 0))))]) ⟨U (qe b d f m a i (e4 b g i) e) [(155,I s)],b4 T⟩ (.bool (!(Nat.beq i b.k)&&g4 b d (a+s) i)) (b4 T):=fV (qI (hI (bw J u rfl) rfl) (hZ (HB R (Wg (Xr (WE P) a) D) A rfl (cV J J rfl) (bw J u rfl))));unfold hR at k H⊢;cases dN: !(Nat.beq i b.k)&&g4 b d (a+s) i with
  |false=>rw[dN] at c k H;rw[show gY false ((cc b d a s).flatMap λl=>(cc b d (a+s+1) (m-s-1)).map (aV.f i l))=[] from rfl,WQ] at H⊢;exact cW rfl (M (cX c rfl) ba) rfl H
  |true=>
   rw[dN] at c k H;have N:m-s-1<m:=Wf (W' _ _) (XT (Wg (Wx _) (WK P)) j);have o:a+s+1+(m-s-1)<=d.length:=by rw[YD,Wl a s 1,Wl,Xn (WK P)];exact D
   exact cW rfl (M (c1 c rfl (M (da (c8 (zC rfl J J (L a s j (.inl (WE P)) (Wh (Wt (WK (WE P)) a) D))) rfl) rfl (UG (c:=f) (d:=b) (e:=d) (i:=i) (r:=e4 b g i) (L _ _ (Nat.sub_pos_of_lt (Nat.lt_sub_of_add_lt (by rw[Wm];exact P))) (.inl N) o) P (r9 (Wh (WK N) q)) (cc b d a s) (b:=e) k) rfl) ba)) ba) rfl H
def Sx(L:jc b d T m a)(R:dp b d)(q:m<=8)(P:1<=m)(D:a+m<=d.length)(n:Nat):∀{i:Nat}{f:List aV},i+n=b.R->(f++(aB i n).flatMap (hv b d (cc b d) a m)).length<9000->
  cS [22,24] yy (mK ((aB i n).map (e4 b h)) (.ofNat i)) ⟨rZ b d g m a f,b4 T⟩ .next ⟨rZ b d g m a (f++(aB i n).flatMap (hv b d (cc b d) a m)),b4 T⟩:=by
 induction n with
 |zero=>exactλ{i f} _ _=>by rw[show(aB i 0).flatMap (hv b d (cc b d) a m)=[] from rfl,WQ];exact dq
 |succ n S=>
  intro i f e j;have A:=e▸WD (Wx n);rw[show(aB i (n+1)).flatMap (hv b d (cc b d) a m)=hv b d (cc b d) a m i++(aB (i+1) n).flatMap (hv b d (cc b d) a m) from Xm,<-Xf] at j⊢;have H:=S (by rw[<-e,Wl,Wm 1]) j
  have k:=Wf (by rw[Wk];exact Wq _ _) j
  unfold hv at k H⊢;rw[<-Xf] at k H⊢;have l:iq (.range (some (.lit (.int 1))) (.a7 .sub false (.F 152) (.lit (.int 1)))) ⟨qe b d g m a i (e4 b h i) (f++nf b d (cc b d) a m i),b4 T⟩ ((aB 1 (m-2)).map I) .none (b4 T):=by rw[<-j4];exact zG u (cV J u (md P)) rfl (mC (Wf (Wh (W' m 1) q) (Wb rfl)))
  exact cW rfl (M ((by
   have j:=(Wf (by rw[Wk];exact Wq _ _) k)
   have c:ao (.bool true [(.sub (.F 24) (.lit (.int 1))),(.aw .eq (.sub (.F 157) (.F 7)) (.sub (.F 24) (.lit (.int 0)))),(.aw .gt (.F 152) (.lit (.int 1)))]) ⟨qe b d g m a i (e4 b h i) f,b4 T⟩ (.bool (Nat.beq i b.k&&(g4 b d a i&&Nat.blt 1 m))) (b4 T):=fV (qI (bw J u rfl) (qI (HB R (Wg (WD P) D) A rfl J (bw J u rfl)) (hZ (bF J u rfl))));unfold nf at j⊢;cases dN:Nat.beq i b.k&&(g4 b d a i&&Nat.blt 1 m)with
   |false=>have c:=dN▸c;rw[show gY false ((cc b d (a+1) (m-1)).map (aV.p i))=[] from rfl,WQ];exact cX c rfl
   |true=>
    rw[dN] at c j;have t:=L (a+1) (m-1) (Nat.sub_pos_of_lt (dY (a4 (a4 dN).2).2)) (.inl (XT P (Wx 0))) (by rw[Wl,Xn P];exact D)
    exact c1 c rfl (M (BU rfl (h3 (c8 (zC rfl (cV J u rfl) (cV J u (md P)) t) rfl) (jn (by rw[rq];exact Wg (r9 (Wh (W' _ _) q)) (Wb rfl))) rfl (HG▸Aa (λ_ _=>rfl) λt _=>d7 (aI J (aq J))) rfl) j rfl) ba))) (M (da l rfl (TB (f:=g) (g:=h) L R q D A (m-2) (Wr 1) (by lia) k) rfl) ba)) rfl H
section
variable{E:C}{O:YZ}{G:List dC}{k g X:Nat}{T:YX}{S:YT}{R:V}{i a s m n:Nat}{h:Z}
def Fg:VN (VR E T)=T.length:=by unfold VR;rw[c9,c5]
def uN(h:d+(n+1)<m)(l:b<=d+1):b+n<m:=Wf (Wy l n) (by rw[Wl,Wm 1];exact h)
abbrev pa(E:C)(T:YX)(R:V)(m:Nat):YS:=[(170,R),(157,.ae (VR E T)),(178,.ref 0),(152,I m)]
def JE(L:jc E T S m a)(V:O.length=E.eB.length)(R:dp E T)(q:m<=8)(P:1<=m)(D:a+m<=T.length)(b:VN S<900):∃l,bE uV ⟨U (pa E T (bN E O G k g X) m) [(7,I a)],b4 S⟩ .next ⟨U (pa E T (bN E O G k g X) m) ((7,I a)::l),b4 (cU S (.t [.ofNat a,.ofNat m]) (.ae (eu (cc E T a m))))⟩:=by
 have c:ao (.bool true [(.aw .eq (.F 152) (.lit (.int 1))),(.aw .eq (.sub (.F 157) (.F 7)) (.lit (.str Zg)))]) ⟨U (pa E T (bN E O G k g X) m) [(7,I a)],b4 S⟩ (.bool (Nat.beq m 1&&gn T a)) (b4 S):=fV (qI (bF J u rfl) (hZ (Uv R (Wg (WD P) D) rfl J)));have A:cF (uV.headD .eD) ⟨U (pa E T (bN E O G k g X) m) [(7,I a)],b4 S⟩ .next ⟨rZ E T (bN E O G k g X) m a (gY (Nat.beq m 1&&gn T a) [aV.a]),b4 S⟩:=by
  cases dN:Nat.beq m 1&&gn T a with
  |false=>rw[dN] at c;exact cI (jS c rfl (fq du))
  |true=>rw[dN] at c;exact cI (lG c rfl (fq (aq u)))
 have e:cc E T a m=j8 E T (cc E T) a m:=by
  induction m with
  |zero=>nomatch P
  |succ m=>exact o7
 have f:=Sx (g:=bN E O G k g X) (h:=O) L R q P D E.R (i:=0) (f:=gY (Nat.beq m 1&&gn T a) [aV.a]) (Wj _) (by have z:=r9 (b:=E) (c:=T) (a:=a) q;rw[e] at z;exact z)
 rw[<-ni V] at f;have f:cS [22,24] yy (mK (qj E O) 0) ⟨rZ E T (bN E O G k g X) m a (gY (Nat.beq m 1&&gn T a) [aV.a]),b4 S⟩ .next ⟨rZ E T (bN E O G k g X) m a (j8 E T (cc E T) a m),b4 S⟩:=f;rw[<-e] at f;exact⟨_,M A (M (da (EF (bw J u rfl) rfl) rfl f rfl) (M (jw J J (d7 (aI J (aq J))) ((rU (P:=.T) (y:=.t [.ofNat a,.ofNat m]) (T:=S) rfl rfl (dV (Wg b (Wb rfl)))).trans rfl)) ba))⟩
def JF(c:O.length=E.eB.length)(R:dp E T)(q:m<=8)(P:1<=m)(n:Nat):∀{a:Nat}{S:YT},a+n+m=T.length+1->jc E T S m a->VN S+n<800->∃b,cS [7] uV ((aB a n).map I) ⟨pa E T (bN E O G k g X) m,b4 S⟩ .next ⟨pa E T (bN E O G k g X) m,b4 b⟩/\jc E T b (m+1) 0/\VN b<=VN S+n:=by
 induction n with
 |zero=>exactλ{a S} e L _=>⟨S,dq,L.up (by exact(show a+m=T.length+1 from e)▸Wu _),Wr _⟩
 |succ n d=>
  intro a S e L l;have f:a+1+n+m=T.length+1:=by exact(Wl a 1 n)▸(Wm 1 n)▸e
  exact(JE L c R q P (WV (YG (XJ (Wg (Wu a) (Wq _ n)) m) f)) (Wf (Wq _ _) (Wg l (Wb rfl)))).elim λx z=>(d f L.a5 (uN l pW)).elim λb y=>⟨b,cW rfl z rfl y.1,y.2.1,Wh y.2.2 (by rw[Wm n 1,<-Wl];exact Wy pW n)⟩
abbrev wt(E:C)(T:YX)(R:V):YS:=[(170,R),(157,.ae (VR E T)),(178,.ref 0)]
def zZ(e:au A 157=some (.ae (VR E T))):ao (.bq false .len [(.F 157)]) ⟨A,h⟩ (I T.length) h:=d3 (aq (J e)) (Wd (λn=>some (I n,h)) (Fg))
def PT(a:O.length=E.eB.length)(R:dp E T)(q:T.length<=8)(n:Nat):∀{m:Nat}{S:YT},m+n=T.length+1->1<=m->jc E T S m 0->VN S+10*n<700->∃b,cS [152] Ca ((aB m n).map I) ⟨wt E T (bN E O G k g X),b4 S⟩ .next ⟨wt E T (bN E O G k g X),b4 b⟩/\jc E T b (T.length+1) 0:=by
 induction n with
 |zero=>exactλ{m S} e _ L _=>⟨S,dq,e▸L⟩
 |succ n c=>
  intro m S e P L l;have D:=WV (YG (WD (Wx n)) e);have d:T.length-m+1<=9:=WC (Wh (W' _ _) q);have f:∀{S},iq (.range none (.a7 .add false (.a7 .sub false (.bq false .len [(.F 157)]) (.F 152)) (.lit (.int 1)))) ⟨pa E T (bN E O G k g X) m,b4 S⟩ ((aB 0 (T.length-m+1)).map I) .none (b4 S):=λ{S}=>by rw[<-j4];exact kH (cV (cV (zZ rfl) J (md D)) u rfl) (mC (Wf d (Wb rfl)))
  exact(JF a R (Wh D q) P (T.length-m+1) (a:=0) (S:=S) (by rw[Wj,WY,XW D]) L (by lia)).elim λh z=>(c (m:=m+1) (by rw[<-e,Wl,Wm 1]) (W8 P) z.2.1 (by have:=z.2.2;lia)).elim λB y=>⟨B,cW rfl (M (da f rfl z.1 rfl) ba) rfl y.1,y.2⟩
end
def KO(t:aV):∀{B:Nat},cg (t.dM+1+B) t.v:=by
 have D:∀{a b B:Nat},a<=b->∃k,b+1+B=a+1+k:=λ{a b B} h=>(Nat.exists_eq_add_of_le h).elim λc e=>⟨c+B,by rw[e,WY a c 1,Wl]⟩
 induction t with|a=>exactλ{B}=>by rw[Wm];rfl|p i t S=>intro B;exact(show(aV.p i t).dM+1+B=t.dM+1+B+1 from WY (t.dM+1) 1 B)▸qX (cf (by rw[WY];rfl) (cf S rfl))|f i l r m Q=>intro B;exact(show(aV.f i l r).dM+1+B=max l.dM r.dM+1+B+1 from WY (max l.dM r.dM+1) 1 B)▸qX (cf (by rw[WY];rfl) (cf ((D (X8 l.dM r.dM)).elim λk e=>e▸m) (cf ((D (X5 l.dM r.dM)).elim λk e=>e▸Q) rfl)))
def rA(h:x∈gY b l):b=true/\x∈l:=by
 induction b with|true=>exact⟨rfl,h⟩|false=>exact es h
section
variable{E:C}{O:YZ}{G:List dC}{k g X:Nat}{V:YX}{h:Z}{S:Prop}{T:Nat->Nat->List aV}{a m:Nat}{t:aV}
def FO(b:t∈j8 E V T a m)(v:t=.a->m=1->gn V a->S)(G:∀L,t=.p E.k L->E.k<E.R->g4 E V a E.k->1<m->L∈T (a+1) (m-1)->S)
  (B:∀i l r s,t=.f i l r->i<E.k->1<=s->s+1<m->g4 E V (a+s) i->l∈T a s->r∈T (a+s+1) (m-s-1)->S):S:=by
 refine(WU.mp b).elim (λh=>?_) λh=>(Xg.mp h).elim λi z=>(WU.mp z.2).elim (λh=>?_) λh=>(Xg.mp h).elim λs w=>?_
 .have z:=rA h
  exact v (Ws.mp z.2) (We (a4 z.1).1) (a4 z.1).2
 .have y:=rA h
  have e:=We (a4 y.1).1;have A:=(g6 _ z.1).2;rw[Wj,e] at A;rw[e] at y;exact(WN.mp y.2).elim λL q=>G L q.2.symm A (a4 (a4 y.1).2).1 (dY (a4 (a4 y.1).2).2) q.1
 .have y:=rA w.2
  have ny:=xn w.1;have A:=(g6 _ z.1).2;rw[Wj] at A;have D:i≠E.k:=λe=>by have q:=(a4 y.1).1;rw[e,WA] at q;exact bb q
  exact(Xg.mp y.2).elim λl q=>(WN.mp q.2).elim λr f=>B i l r s f.2.symm (YH (WV (Wg A (by induction E<;>exact Wb rfl))) D) ny.1 ny.2 (a4 y.1).2 q.1 f.1
def uI(m:Nat):∀{a:Nat}{t:aV},t∈cc E V a m->t.dM<=m/\t.cq E:=by
 induction m using Nat.strongRecOn with
 |ind m S=>
  intro a t b;induction m with
  |zero=>exact es b
  |succ m=>
   rw[o7] at b;refine FO b (λe _ _=>e▸⟨WC (Ww _),trivial⟩) (λu e Q _ P H=>?_) λi l r s e A P N _ f F=>?_
   .have z:=S m (Wu m) H
    exact e▸⟨WC z.1,rfl,Q,z.2⟩
   .have z:=S s (WE N) f
    have y:=S (m+1-s-1) (Wf (W' _ _) (XT (Wx m) P)) F;exact e▸⟨WC (Nat.max_le.mpr ⟨Wh z.1 (WK (Xl N)),Wh y.1 (Nat.sub_le_sub_right (W' (m+1) s) 1)⟩),A,z.2,y.2⟩
def i7(E:C)(V:YX):List aV:=cc E V 0 V.length
def KP(T:∀t∈l,t.dM<=8):dQ (cg 59) (eu l):=B2 λx m=>(WN.mp m).elim λt z=>z.2▸by
 have e:(59:Nat)=t.dM+1+(58-t.dM):=(Wd (·+1) (Xn (Wh (T t z.1) (by decide):t.dM<=58))).symm.trans (WY t.dM (58-t.dM) 1)
 exact e▸KO t
def OK(a:O.length=E.eB.length)(R:dp E V)(q:V.length<=8):aY .pure 131 [bN E O G k g X,.ae (VR E V)] h (.ae (eu (i7 E V))) h:=by
 refine(PT (G:=G) (k:=k) (g:=g) (X:=X) a R q V.length (S:=[]) (Wm _ _) (Wr 1) (λb n x h=>absurd x (h.elim (λz=>Xk (WV z)) λz=>absurd z.2 (Xv b))) (Wf (Wh (WI (Wj _)) (WT 10 q)) (Wb rfl))).elim λT z=>?_;have e:iq (.range (some (.lit (.int 1))) (.a7 .add false (.bq false .len [(.F 157)]) (.lit (.int 1)))) ⟨wt E V (bN E O G k g X),b4 []⟩ ((aB 1 V.length).map I) .none (b4 []):=by rw[<-j4];exact zG u (cV (zZ rfl) u rfl) rfl (mC (Wf (WC q) (Wb rfl)))
 have c:ao (.aw .cC (.F 157) (.ae false [])) ⟨wt E V (bN E O G k g X),b4 T⟩ (.bool (j1 V)) (b4 T):=bF J (fq du) (by induction V<;>rfl)
 refine kr (P:=b4 T) (cf (vc a) (cf (hh (jL λo=>by induction o<;>rfl)) rfl)) rfl rfl rfl (M (cI (P:=b4 []) (mH oD)) (M (da e rfl z.1 rfl) (bG (cb (a:=.ae (eu (i7 E V))) ?_)))) rfl (hh (KP λt d=>Wh (uI _ d).1 q))
 induction V with|nil=>exact jS c rfl (fq du)|cons o r=>exact lG c rfl (bw J (d7 (aI u (aq (zZ rfl)))) (lN rfl rfl (z.2 0 (r.length+1) (Wx _) (.inl (Wu _)) (WI (Wj _)))))
end
def aW(x:YW)(g:Nat):Nat:=match au x g with
 |some v=>v
 |none=>0
noncomputable def ee(b:Bool)(n:Nat):Nat:=match b with
 |true=>n
 |false=>0
def xK(a:YZ)(k:Nat):Nat:=match a3 a k with
 |some v=>v
 |none=>0
def ep(a:YZ)(P s k:Nat):Bool:=Nat.blt k P&&Nat.beq (xK a k) s
def kK(a:YZ)(P:Nat)(C:Nat->Nat->Nat->Nat)(s k c g:Nat):Nat:=ee (ep a P s k&&Nat.beq (k+1) g) c+ee (Nat.ble k g&&Nat.ble g P) (c*C s k g)
def hz(a:YZ)(P:Nat)(C:Nat->Nat->Nat->Nat)(s:Nat)(f:Nat->Nat)(g:Nat):Nat:=cL ((aB 0 (P+1)).map λk=>kK a P C s k (f k) g)
def o5(a:YZ)(P:Nat)(C:Nat->Nat->Nat->Nat)(O:YZ):(Nat->Nat)->Prop:=
 O.rec (λ_=>True) λs _ S f=>(∀k,f k<jj)/\S (hz a P C s f)
def nj(a:YZ)(P:Nat)(C:Nat->Nat->Nat->Nat)(O:YZ):(Nat->Nat)->Nat->Nat:=
 O.rec (λf=>f) λs _ S f=>S (hz a P C s f)
inductive gr(P:Nat):YW->Prop where
 |nil:gr P []
 |cons {k v:Nat} {r:YW}:au r k=none->k<=P->gr P r->gr P ((k,v)::r)
section
variable{x r:YW}{k g v n P:Nat}
def FC:au (VO x k v) g=match Nat.beq k g with
 |true=>some v
 |false=>au x g:=by
 induction x with
 |nil=>rfl
 |cons e x S=>
  show au (match Nat.beq e.1 k with|true=>(e.1,v)::x|false=>e::VO x k v) g=match Nat.beq k g with|true=>some v|false=>(match Nat.beq e.1 g with|true=>some e.2|false=>au x g)
  generalize R:Nat.beq e.1 k=N;induction N with
  |true=>
   show(match Nat.beq e.1 g with|true=>some v|false=>au x g)=_
   rw[We R];cases Nat.beq k g<;>rfl
  |false=>
   show(match Nat.beq e.1 g with|true=>some e.2|false=>au (VO x k v) g)=_
   rw[S];generalize i:Nat.beq e.1 g=N;induction N with
   |false=>rfl
   |true=>rw[show Nat.beq k g=false from ed λz=>by rw[We i,z,WA] at R;nomatch R]
def C2:aW (VO x k (aW x k+v)) g=aW x g+ee (Nat.beq k g) v:=by
 unfold aW;refine FC▸?_;generalize R:Nat.beq k g=N;induction N with|true=>refine(We R)▸?_;rfl|false=>rfl
def gr.a5(o:gr P x)(M:k<=P):gr P (VO x k v):=by
 induction o with
 |nil=>exact .cons rfl M .nil
 |cons u J o U=>
  rename_i j V r
  show gr P (match Nat.beq j k with|true=>(j,v)::r|false=>(j,V)::VO r k v)
  generalize C:Nat.beq j k=Y;induction Y with
  |true=>exact .cons u J o
  |false=>exact .cons (by rw[FC,ed λW=>by rw[W,WA] at C;nomatch C];exact u) J U
def uq{l:YZ}(h:∀x∈l,f x=0):cL (l.map f)=0:=by
 induction l with|nil=>rfl|cons x l S=>exact u5 (·+·) (h x (.head _)) (S λy m=>h y (.tail _ m))
def T1{f g:Nat->Nat}{l:YZ}:cL (l.map λx=>f x+g x)=cL (l.map f)+cL (l.map g):=by
 induction l with|nil=>rfl|cons x l S=>show f x+g x+cL _=f x+cL _+(g x+cL _);rw[S,Nat.add_add_add_comm]
def Bj{j:Nat}(n:Nat):∀{i:Nat},i<=j->j<i+n->(∀x,x≠j->f x=0)->cL ((aB i n).map f)=f j:=by
 induction n with
 |zero=>exactλh k _=>absurd k (Xk h)
 |succ n S=>
  intro i h k z;show f i+cL ((aB (i+1) n).map f)=f j;refine(XF h).elim (λl=>?_) λe=>?_
  .rw[z i (Wv l),Wj]
   exact S l (by rw[X0];exact k) z
  .rw[e,uq λx m=>z x (WZ (Wg (Wu j) (g6 n m).1))]
   rfl
def C0(h:au r e.1=none):aW (e::r) B=aW r B+ee (Nat.beq e.1 B) e.2:=by
 unfold aW;show(match(match Nat.beq e.1 B with|true=>some e.2|false=>au r B)with|some v=>v|none=>0)=_
 generalize G:Nat.beq e.1 B=N;induction N with|true=>exact(We G)▸h▸(Wj _).symm|false=>rfl
def LB{F:Nat->Nat->Nat}(a:∀k,F k 0=0)(h:gr P r):cL (r.map λe=>F e.1 e.2)=cL ((aB 0 (P+1)).map λk=>F k (aW r k)):=by
 induction h with
 |nil=>exact(uq λk _=>a k).symm
 |cons e l h S=>
  rename_i k v r
  have z:∀j,F j (aW ((k,v)::r) j)=F j (aW r j)+ee (Nat.beq k j) (F k v):=λj=>by
   rw[C0 (e:=(k,v)) e];generalize G:Nat.beq k j=N;induction N with|true=>have f:=We G;subst f;refine(?_:F k (aW r k+v)=F k (aW r k)+F k v);rw[show aW r k=0 by unfold aW;rw[e],a,Wj,Wj]|false=>rfl
  rw[me λj _=>z j,T1,<-S,Bj (P+1) (Ww k) (by rw[Wj];exact Xq l) λj b=>by rw[ed (Ne.symm b)];rfl,WA,Wm]
  rfl
def CX(h:gr P r):∀e∈r,aW r e.1=e.2:=by
 induction h with
 |nil=>exactλ_ h=>es h
 |cons e l h S=>
  rename_i k v r
  intro x m;rw[C0 e];cases m with
  |head=>rw[show aW r k=0 by unfold aW;rw[e],WA];exact Wj v
  |tail _ m=>
   rw[S x m,show Nat.beq k x.1=false from ed λz=>?_]
   .rfl
   .have y:=S x m
    have q:=z4 (WN.mpr ⟨x,m,rfl⟩);exact q.elim λw q=>by rw[<-z,e] at q;exact cB q
end
def n'(c:Nat)(M:Nat->Nat)(O:YZ):YW->YW:=
 O.rec (λx=>x) λg _ S x=>S (match Nat.blt 0 (M g)with|true=>VO x g (aW x g+c*M g)|false=>x)
def pM(b:Bool)(k c:Nat)(x:YW):YW:=match b with
 |true=>VO x (k+1) (aW x (k+1)+c)
 |false=>x
def nz(a:YZ)(P:Nat)(C:Nat->Nat->Nat->Nat)(s:Nat)(O:YW):YW->YW:=
 O.rec (λx=>x) λe _ S x=>S (n' e.2 (C s e.1) (aB e.1 (P+1-e.1)) (pM (ep a P s e.1) e.1 e.2 x))
def Nl(n:Nat):∀{g:Nat}{x:YW}{B:Nat},aW (n' c r (aB g n) x) B=aW x B+ee (Nat.ble g B&&Nat.blt B (g+n)) (c*r B):=by
 induction n with
 |zero=>
   intro g x B;show aW x B=aW x B+ee (Nat.ble g B&&Nat.blt B g) _;rw[show(Nat.ble g B&&Nat.blt B g)=false from W3.mpr λz=>Xk (Wb (a4 z).1) (dY (a4 z).2)]
   rfl
 |succ n S=>
  intro g x B;have d9:aW (match Nat.blt 0 (r g)with|true=>VO x g (aW x g+c*r g)|false=>x) B=aW x B+ee (Nat.beq g B) (c*r g):=by
   generalize G:Nat.blt 0 (r g)=N;induction N with
   |true=>exact C2
   |false=>
    rw[show r g=0 from Nat.eq_zero_of_not_pos λz=>by rw[dE z] at G;nomatch G,YR]
    cases Nat.beq g B<;>rfl
  show aW (n' c r (aB (g+1) n) _) B=_;rw[S,d9,Wl];refine Wd (aW x B+·) ?_;generalize i:Nat.beq g B=N;induction N with
  |true=>
   have e:=We i;subst e;rw[show Nat.ble (g+1) g=false from W3.mpr λz=>Yu g (Wb z),show Nat.ble g g=true from Xe (Wr g),show Nat.blt g (g+(n+1))=true from dE (WD (Wx n))]
   rfl
  |false=>
   have D:g≠B:=λz=>by rw[z,WA] at i;nomatch i
   rw[show Nat.ble (g+1) B=Nat.ble g B from W7.mpr ⟨λz=>Xe (WX (Wb z)),λz=>Xe (YH (Wb z) D)⟩,show g+1+n=g+(n+1)by rw[Wl,Wm 1]]
   exact Wj _
def NM:aW (pM b k c x) B=aW x B+ee (b&&Nat.beq (k+1) B) c:=by
 induction b with|true=>exact C2|false=>rfl
def Tz(r:YW):∀{x:YW}{B:Nat},(∀e∈r,e.1<=P)->aW (nz a P X s r x) B=aW x B+cL (r.map λe=>kK a P X s e.1 e.2 B):=by
 induction r with
 |nil=>exactλ_=>rfl
 |cons e r S=>
  intro x B h;refine(?_:aW (nz a P X s r _) B=aW x B+(kK a P X s e.1 e.2 B+cL _));rw[S λy m=>h y (.tail _ m),Nl,NM,Xn (W8 (h e (.head _))),Wl,Wl];unfold kK;rw[<-Wl (ee (ep a P s e.1&&Nat.beq (e.1+1) B) e.2)]
  rfl
def Nk(l:YZ):∀{x:YW},(∀g∈l,g<=P)->gr P x->gr P (n' c r l x):=by
 induction l with
 |nil=>exactλ_ d=>d
 |cons g l S=>
  intro x h d;refine S (λy m=>h y (.tail _ m)) ?_;generalize Nat.blt 0 (r g)=N;induction N with|true=>exact d.a5 (h g (.head _))|false=>exact d
def Nm(l:YZ):∀{x:YW},VN (n' c r l x)<=VN x+l.length:=by
 induction l with
 |nil=>exact Wr _
 |cons g l S=>
  intro x;refine Wh S ?_;refine(?_:_+l.length<=VN x+(l.length+1));rw[Wm l.length 1,<-Wl];refine Wy ?_ _;generalize Nat.blt 0 (r g)=N;induction N with|true=>exact wc|false=>exact WH _
def NL(d:gr P x):gr P (pM (ep a P s k) k c x):=by
 generalize G:ep a P s k=N;induction N with|true=>exact d.a5 (dY (a4 G).1)|false=>exact d
def Eg:VN (pM b k c x)<=VN x+1:=by
 induction b with|true=>exact wc|false=>exact WH _
def Tx(r:YW):∀{x:YW},(∀e∈r,e.1<=P)->gr P x->gr P (nz a P X s r x):=by
 induction r with|nil=>exactλ_ d=>d|cons e r S=>exactλh d=>S (λy m=>h y (.tail _ m)) (Nk _ (λg m=>WV (by have z:=(g6 _ m).2;rw[Xn (W8 (h e (.head _)))] at z;exact z)) (NL d))
def Gl(h:P<11):VN (n' c r (aB k (P+1-k)) (pM (ep a P s k) k c x))<=VN x+12:=by refine Wh (Nm _) ?_;rw[oR];exact Wh (Xb Eg (Wh (W' _ _) h)) (WI (Wl ..))
def TA(r:YW)(h:P<11):∀{x:YW},VN (nz a P X s r x)<=VN x+12*VN r:=by
 induction r with|nil=>exact Wr _|cons e r S=>exactλ{x}=>Wh S (Wh (Wy (Gl h) _) (WI (by rw[Wl];show _=VN x+12*(VN r+1);rw[XK,Wm 12])))
def gr.le(j:gr c' f'):∀a'∈f',a'.1<=c':=by
 induction j with
 |nil=>exactλ_ j=>es j
 |cons _ C _ u=>exactλa' o=>by cases o with
  |head=>exact C
  |tail _ o=>exact u a' o
abbrev yB:List S:=cA (cm Dk 1)
abbrev yA:List S:=cA ((yB.drop 1).headD .eD)
abbrev B9:List S:=cA ((yA.drop 1).headD .eD)
abbrev e7(F:Z)(x:YW):Z:=W F [some (.ah .I (D x) 0)]
abbrev ix(R:V)(a:YZ)(b P:Nat)(T:YT)(p:Nat):YS:=Zx [(34,R),(157,.ae (a.map I)),(83,I b),(156,I P),(56,.ah .T T),(153,.ref p)]
section
variable{F:Z}{x r:YW}{A:YS}{K e:E}{k v p c s P b:Nat}{R:V}{a:YZ}{T:YT}{X:Nat->Nat->Nat->Nat}
def HP(B:au A 154=some (.ref F.n))(a:ao K ⟨A,e7 F x⟩ (I k) (e7 F x))(aD:ao e ⟨A,e7 F x⟩ (I v) (e7 F x))(f:VN x<90000):cF (.bY (.sub (.F 154) K) (.a7 .add false (.aC (.F 154) 3 [K,.lit (.int 0)]) e)) ⟨A,e7 F x⟩ .next ⟨A,e7 F (VO x k (aW x k+v))⟩:=by
 have g:(e7 F x).get F.n=some (.ah .I (D x) 0):=cw (i:=0) _ rfl;have L:gA .I (D x) [I k,.int 0]=some (I (aW x k)):=Wd some (by rw[lj];unfold aW;cases au x k<;>rfl)
 exact jw (cV (d:=I (aW x k+v)) (q' (J B) g (aI a (aq u)) g (tF g L)) aD rfl) (J B) a ((tC 0 rfl rfl (jn (by unfold D;rw[c9];exact f))).trans (by rw[uE];rfl))
def Qj(L:d<jj):mB .mul false (I d) (I m) h=some (I (d*m),h):=by
 refine(?_:Y (bS (Nat.blt d jj) (some (Int.ofNat d*Int.ofNat m))) (λz=>some (V.int z,h))=_);rw[dE L]
 rfl
variable(S:∀s k g,gA .T T [.ay [I s,I k,I g],.int 0]=some (I (X s k g)))
include S in
def Nj(t:F.get p=some (.ah .I (D r) 1))(h:p<F.n)(j:au r k=some c)(L:c<jj)(n:Nat):∀{g:Nat}{x:YW},VN x+n<90000->cS [104] B9 ((aB g n).map I) ⟨U (ix R a b P T p) [(46,I s),(154,.ref F.n),(155,I k)],e7 F x⟩ .next ⟨U (ix R a b P T p) [(46,I s),(154,.ref F.n),(155,I k)],e7 F (n' c (X s k) (aB g n) x)⟩:=by
 induction n with
 |zero=>exactλ_=>dq
 |succ n d=>
  intro g x f;have i:cF (B9.headD .eD) ⟨U (ix R a b P T p) [(46,I s),(154,.ref F.n),(155,I k),(104,I g)],e7 F x⟩ .next ⟨U (ix R a b P T p) [(46,I s),(154,.ref F.n),(155,I k),(104,I g),(152,I (X s k g))],e7 F x⟩:=cI (kA J rfl (aI (d7 (aI J (aI J (aq J)))) (aq u)) rfl (ou (S s k g)));have V:∀{B},Nat.blt 0 (X s k g)=B->ao (.aw .gt (.F 152) (.lit (.int 0))) ⟨U (ix R a b P T p) [(46,I s),(154,.ref F.n),(155,I k),(104,I g),(152,I (X s k g))],e7 F x⟩ (.bool B) (e7 F x):=λe=>e▸bF J u rfl;show cS _ _ (I g::(aB (g+1) n).map I) _ _ ⟨_,e7 F (n' c (X s k) (aB (g+1) n) (match Nat.blt 0 (X s k g)with|true=>VO x g (aW x g+c*X s k g)|false=>x))⟩
  generalize G:Nat.blt 0 (X s k g)=N;induction N with
  |false=>exact cW rfl (M i (M (cX (V G) rfl) ba)) rfl (d (WE f))
  |true=>
   have E:cZ (.ref p) (I k) (e7 F x)=some (I c):=lN ((pJ _ h).trans t) rfl (by rw[lj,j];rfl)
   exact cW rfl (M i (M (c1 (V G) rfl (M (HP rfl J (cV (bw J J E) J (Qj L)) (ho f)) ba)) ba)) rfl (d (uN f wc))
def NN(g:P<=a.length):ao (.bool true [(.aw .lt (.F 155) (.F 156)),(.aw .eq (.sub (.F 157) (.F 155)) (.F 46))]) ⟨U (ix R a b P T p) ((46,I s)::(154,.ref v)::(155,I k)::d),h⟩ (.bool (ep a P s k)) h:=by
 have c:ao (.aw .lt (.F 155) (.F 156)) ⟨U (ix R a b P T p) ((46,I s)::(154,.ref v)::(155,I k)::d),h⟩ (.bool (Nat.blt k P)) h:=bF J J rfl;unfold ep;generalize G:Nat.blt k P=N;induction N with
 |false=>rw[G] at c;exact fV (ph c rfl)
 |true=>
  rw[G] at c;have f:k<VN a:=by rw[c5];exact Wg (dY G) g
  exact(m7 a f).elim λw e=>fV (jN c rfl (hZ (bF (bw J J (jq (by rw[c9];exact f) ((kU a).trans (Wd _ e)))) J (by unfold xK;rw[e];rfl))))
include S in
def TC(t:F.get p=some (.ah .I (D r) 1))(V:p<F.n)(k:P<=a.length)(H:P<11)(q:YW):∀{x:YW},(∀e∈q,au r e.1=some e.2/\e.2<jj/\e.1<=P)->VN x+12*VN q<80000->cS [155] yA (q.map λe=>I e.1) ⟨U (ix R a b P T p) [(46,I s),(154,.ref F.n)],e7 F x⟩ .next ⟨U (ix R a b P T p) [(46,I s),(154,.ref F.n)],e7 F (nz a P X s q x)⟩:=by
 induction q with
 |nil=>exactλ_ _=>dq
 |cons e q i=>
  intro x h g;have z:=h e (.head _);have d:VN x+12+12*VN q<80000:=Wf (WI (by show _=VN x+12*(VN q+1);rw[XK,Wl,Wm 12])) g
  have f:∀{n},n<80000->n<90000:=λh=>Wg h (Wb rfl);have B:=ho d;have Q:=Nj (R:=R) (a:=a) (b:=b) (P:=P) (s:=s) S t V z.1 z.2.1 (P+1-e.1) (g:=e.1) (x:=pM (ep a P s e.1) e.1 e.2 x) (f (Wf (Xb Eg (Wh (W' _ _) H)) (Wf (WI (Wl ..)) B)));rw[<-j4] at Q;have c:=NN (R:=R) (b:=b) (T:=T) (p:=p) (s:=s) (k:=e.1) (v:=F.n) (h:=e7 F x) (d:=[]) k;have j:cF (yA.headD .eD) ⟨U (ix R a b P T p) [(46,I s),(154,.ref F.n),(155,I e.1)],e7 F x⟩ .next ⟨U (ix R a b P T p) [(46,I s),(154,.ref F.n),(155,I e.1)],e7 F (pM (ep a P s e.1) e.1 e.2 x)⟩:=by
   generalize G:ep a P s e.1=N;induction N with|false=>rw[G] at c;exact cX c rfl|true=>rw[G] at c;exact c1 c rfl (M (HP rfl (cV J u rfl) (bw J J (lN ((pJ _ V).trans t) rfl (by rw[lj,z.1];rfl))) (f (ho B))) ba)
  exact cW rfl (M j (M (da (zG J (cV J u rfl) (mC (Wf z.2.2 (WJ H (Wb rfl)))) (mC (Wf H (Wb rfl)))) rfl Q rfl) ba)) rfl (i (λy m=>h y (.tail _ m)) (Wf (Wy (Gl H) _) d))
end
section
variable{F:Z}{x r:YW}{p c s P b:Nat}{R:V}{a:YZ}{T:YT}{X:Nat->Nat->Nat->Nat}
variable(S:∀s k g,gA .T T [.ay [I s,I k,I g],.int 0]=some (I (X s k g)))
def NX:kK a P X s k 0 g=0:=by unfold kK;rw[Xt];cases(ep a P s k&&Nat.beq (k+1) g)<;>cases(Nat.ble k g&&Nat.ble g P)<;>rfl
def Hh(d:gr P r):aW (nz a P X s r [])=hz a P X s (aW r):=funext λj=>(Tz r d.le).trans ((Wj _).trans (LB (F:=λk c=>kK a P X s k c j) (λ_=>NX) d))
include S in
def Ud(t:F.get p=some (.ah .I (D r) 0))(V:p<F.n)(d:gr P r)(h:∀k,aW r k<jj)(g:P<=a.length)(H:P<11)(c:12*VN r<80000):
  ∃l f,bE yB ⟨U (ix R a b P T p) [(46,I s)],F⟩ .next ⟨U (ix R a b P T F.n) ((46,I s)::l),f⟩/\f.get F.n=some (.ah .I (D (nz a P X s r [])) 0)/\F.n<f.n:=by
 have x:(F.a5 p (some (.ah .I (D r) 1))).get p=some (.ah .I (D r) 1):=by rw[Z.mQ,if_pos rfl]
 have bc:dX (.ref p) (e7 F []) true=some (e7 (F.a5 p (some (.ah .I (D r) 1))) []):=(Ft ((pJ _ V).trans t)).trans (Wd some (zy _ V));have j:dX (.ref p) (e7 (F.a5 p (some (.ah .I (D r) 1))) (nz a P X s r [])) false=some (e7 ((F.a5 p (some (.ah .I (D r) 1))).a5 p (some (.ah .I (D r) 0))) (nz a P X s r [])):=(HM ((pJ (a:=F.a5 p (some (.ah .I (D r) 1))) _ V).trans x)).trans (Wd some (zy (a:=F.a5 p (some (.ah .I (D r) 1))) _ V));have i:xo (.ref p) (e7 F [])=some (r.map λe=>I e.1):=(a6 (su ((pJ _ V).trans t)) rfl).trans (Wd some (zS.trans XE));exact⟨_,_,M (cI (P:=e7 F []) (mH oD)) (M (da (c8 J i) bc (TC (R:=R) (b:=b) (s:=s) (F:=F.a5 p (some (.ah .I (D r) 1))) (r:=r) S x V g H r (x:=[]) (λe m=>⟨(z4 (WN.mpr ⟨e,m,rfl⟩)).elim λw q=>by have z:=CX d e m;unfold aW at z;rw[q] at z⊢;exact Wd some z,by rw[<-CX d e m];exact h _,d.le e m⟩) (by rw[show VN ([]:YW)=0 from rfl,Wj];exact c)) j) (M (dk J) ba)),cw (a:=(F.a5 p (some (.ah .I (D r) 1))).a5 p (some (.ah .I (D r) 0))) (i:=0) _ rfl,Wu _⟩
include S in
def Ue(k:P<=a.length)(H:P<11)(v:YZ):∀{F:Z}{p:Nat}{r:YW},F.get p=some (.ah .I (D r) 0)->p<F.n->gr P r->o5 a P X v (aW r)->12 ^ v.length*VN r<80000->
  ∃f t e,cS [46] yB (v.map I) ⟨ix R a b P T p,F⟩ .next ⟨ix R a b P T f,e⟩/\e.get f=some (.ah .I (D t) 0)/\aW t=nj a P X v (aW r):=by
 induction v with
 |nil=>exactλ{F p r} g _ _ _ _=>⟨p,r,F,dq,g,rfl⟩
 |cons s v m=>
  intro F p r g V d c j;have i:12 ^ v.length*(12*VN r)<80000:=Wf (WI (by rw[<-Nat.mul_assoc];rfl)) j
  refine(Ud (R:=R) (b:=b) (s:=s) S g V d c.1 k H (Wf (Nat.le_mul_of_pos_left _ (Nat.pow_pos (Wx 11))) i)).elim λl z=>z.elim λn z=>?_;have h:=c.2;rw[<-Hh d] at h;refine(m z.2.1 z.2.2 (Tx r d.le .nil) h (Wf (WT _ (Wh (TA r H) (WI (Wj _)))) i)).elim λf y=>y.elim λt y=>y.elim λe y=>⟨f,t,e,cW rfl z.1 rfl y.1,y.2.1,y.2.2.trans ?_⟩;rw[Hh d]
  rfl
include S in
def Vr(e:P<=a.length)(H:P<11)(G:b<=P)(i:d.length<=3)(f:o5 a P X d (aW [(b,1)]))(c:h.get q=some (.ah .T T 0))(x:∀{k h},gU (ct (k+1) h) T=some T)(fo:∀{k},lx (cg (k+1)) T):aY .nV 122 [kn d,.ae (a.map I),I b,I P,.ref q] h (I (nj a P X d (aW [(b,1)]) P)) h:=by
 refine(Ue (R:=kn d) (b:=b) S e H d (F:=⟨.node (some (.ah .I (D [(b,1)]) 0)) .nil .nil,1⟩) (p:=0) (r:=[(b,1)]) rfl (Wx 0) (.cons rfl G .nil) f (Wf (Nat.mul_le_mul_right _ (Nat.pow_le_pow_right (Wx 11) i)) (Wb rfl))).elim λp z=>z.elim λr z=>z.elim λg z=>?_;have L:gA .I (D r) [I P,.int 0]=some (I (aW r P)):=Wd some (by rw[lj];unfold aW;cases au r P<;>rfl)
 rw[z.2.2] at L;exact Co (a6 rfl (a6 (a6 rfl (a6 (a6 rfl (a6 (a6 rfl (a6 (a6 (BE c x) rfl) rfl)) rfl)) rfl)) rfl)) (kr (cf (qX u9) (cf (hh u9) (cf rfl (cf rfl (cf (u' fo) rfl))))) rfl rfl rfl (M (k5 9 λ_=>rfl) (M (da (c8 J rfl) rfl z.1 rfl) (bG (cb (q' J z.2.1 (aI J (aq u)) z.2.1 (tF z.2.1 L)))))) rfl rfl) rfl
end
def vW:ee x a<=a:=by induction x<;>first|exact Wr a|exact Ww a
def kI:ee x 0=0:=by induction x<;>rfl
def NV:ee x a*m=ee x (a*m):=by induction x<;>first|rfl|exact Xt m
def J6(h:b<a):Nat.ble a b=false:=W3.mpr λz=>Nat.not_le_of_lt h (Wb z)
def qM(h:a<=b):Nat.ble a b:=Xe h
def qq(K:∀k g,X s k g=0):hz a P X s f (B+1)=ee (ep a P s B) (f B):=by
 have e:∀k,kK a P X s k (f k) (B+1)=ee (ep a P s k&&Nat.beq k B) (f k):=λk=>by
  unfold kK;rw[K,YR,kI]
  rfl
 unfold hz;rw[me λk _=>e k]
 by_cases h:B<P+1
 .rw[Bj (P+1) (Ww B) (by rw[Wj];exact h) λk R=>by rw[ed R,W2];rfl,WA,Bool.and_true]
 .rw[uq λk m=>by rw[ed (Wv (Wg (by have z:=(g6 _ m).2;rw[Wj] at z;exact z) (X4 h))),W2];rfl]
  unfold ep;rw[lB (Wh (WH P) (X4 h))]
  rfl
def ux(K:∀k g,X s k g=0):hz a P X s f 0=0:=uq λk _=>by
 unfold kK;rw[K,YR,kI,show Nat.beq (k+1) 0=false from rfl,W2]
 rfl
def F8(O:∀k,ep a P s k=false):hz a P X s f g=cL ((aB 0 (P+1)).map λk=>ee (Nat.ble k g&&Nat.ble g P) (f k*X s k g)):=me λk _=>by unfold kK;rw[O];exact Wj _
def mG:aW [(b,1)] k=ee (Nat.beq b k) 1:=by
 show(match(match Nat.beq b k with|true=>some 1|false=>none)with|some v=>v|none=>0)=_
 cases Nat.beq b k<;>rfl
def Au(O:∀k,ep a P s k=false)(G:b<=P):hz a P X s (aW [(b,1)]) g=ee (Nat.ble b g&&Nat.ble g P) (X s b g):=by
 rw[F8 O,Bj (P+1) (Ww b) (by rw[Wj];exact Xq G) λk R=>by rw[mG,ed (Ne.symm R)];show ee _ (0*_)=0;rw[Xt];exact kI,mG,WA]
 exact Wd (ee _) (Nat.one_mul _)
def F7(O:∀k,ep a P s k=false)(x:f 0=0):hz a P X s f P=cL ((aB 0 P).map λB=>f (B+1)*X s (B+1) P):=by
 have E:∀(n i:Nat)(F:Nat->Nat),cL ((aB (i+1) n).map F)=cL ((aB i n).map λB=>F (B+1)):=λn=>by
  induction n with|zero=>exactλ_ _=>rfl|succ n S=>exactλi F=>Wd (F (i+1)+·) (S (i+1) F)
 rw[F8 O];refine(?_:ee _ (f 0*_)+cL ((aB 1 P).map _)=_);rw[x,Xt,kI,Wj,E P 0];exact me λB m=>by
  have z:=(g6 _ m).2;rw[Wj] at z;rw[qM z,qM (Wr P)]
  rfl
def Hp(m:Nat):∀{b i:Nat}{a:Nat->Nat},(∀B,B<i+b->a B=0)->cL ((aB i (b+m)).map a)=cL ((aB 0 m).map λt=>a (i+b+t)):=by
 have E:∀(b i:Nat)(a:Nat->Nat),cL ((aB i b).map a)=cL ((aB 0 b).map λt=>a (i+t)):=λb=>by
  induction b with|zero=>exactλ_ _=>rfl|succ b S=>intro i a;show a i+cL ((aB (i+1) b).map a)=a (i+0)+cL ((aB 1 b).map λt=>a (i+t));rw[S (i+1) a,S 1 λt=>a (i+t)];exact Wd (a i+·) (me λt _=>by rw[Wl])
 intro b;induction b with
 |zero=>exactλ{i a} _=>by rw[Wj];exact E m i a
 |succ b S=>
   intro i a h;rw[X0];show a i+cL ((aB (i+1) (b+m)).map a)=_;rw[h i (WD (Wx b)),Wj,S λB P=>h B (by rw[X0] at P;exact P)]
   exact me λt _=>by rw[X0 i b,Nat.add_succ i b]
def xD:Y0->Nat
 |none=>3
 |some j=>4+j
def c0(I:YX):YZ:=I.map xD
noncomputable def pU(I:YX)(m b k g:Nat):Bool:=Nat.ble k g&&(Nat.ble g I.length&&(Nat.blt (g-k) m||(Nat.beq (g-k) m&&Nat.blt k b)))
def dF(E:C)(I:YX)(m b s k g:Nat):Nat:=ee (Nat.beq s (b1 E)&&pU I m b k g) (cc E I k (g-k)).length
section
variable{E:C}{I:YX}{P s b c m i k n:Nat}
def xM:xK (c0 I) k=match a3 I k with
 |some o=>xD o
 |none=>0:=by
 unfold xK c0;rw[kU];cases a3 I k<;>rfl
def Eh:ep (c0 I) P (4+E.bC i) k=(Nat.blt k P&&g4 E I k i):=by
 unfold ep g4;refine xM▸Wd (Nat.blt k P&&·) ?_;generalize a3 I k=N;induction N with
 |none=>exact ed (Wv (Wg (Wx 3) (Wq _ _)))
 |some o=>induction o with|none=>exact ed (Wv (Wq 4 _))|some j=>exact uW
def NK:ep (c0 I) P 3 k=(Nat.blt k P&&gn I k):=by
 unfold ep gn;refine xM▸Wd (Nat.blt k P&&·) ?_;generalize a3 I k=N;induction N with
 |none=>rfl
 |some o=>induction o with|none=>rfl|some j=>exact ed (WZ (Wq 4 _))
def vQ(R:dp E I):ep (c0 I) P (b1 E) k=false:=by
 unfold ep;rw[xM,show Nat.beq (match a3 I k with|some o=>xD o|none=>0) (b1 E)=false from ed ?_,W2]
 have e:b1 E=4+E.aD+1:=rfl;generalize h:a3 I k=N;induction N with
 |none=>exactλz=>nomatch z
 |some o=>induction o with|none=>exact Wv (by rw[e,WY];exact Wg (Wb rfl:3<5) (Wq _ _))|some j=>exact Wv (by rw[e];exact WW (Xr (R _ (rF I h)) 4))
def NJ(H:P<=I.length):ep (c0 I) P 0 k=false:=by
 unfold ep;refine xM▸?_;generalize G:Nat.blt k P=N;induction N with
 |false=>rfl
 |true=>
  refine(m7 I (c5▸Wg (dY G) H)).elim λo z=>?_;refine z▸?_;induction o with|none=>rfl|some j=>exact ed (WZ (Wg (Wx 3) (Wq 4 j)))
def q3(h:s≠b1 E):dF E I m b s k g=0:=by unfold dF;refine(ed h)▸?_;rfl
def q2(h:k+n<=I.length)(l:n<m\/(n=m/\k<b)):dF E I m b (b1 E) k (k+n)=(cc E I k n).length:=by
 unfold dF pU;rw[WA,qM (Wq k n),qM h,XA];rw[show(Nat.blt n m||(Nat.beq n m&&Nat.blt k b))=true from Xd.mpr (l.imp dE λz=>by rw[z.1,WA,dE z.2];rfl)]
 rfl
def CO(q:I.length<=8):dF E I m b s k g<9000:=by
 unfold dF;cases dN:Nat.beq s (b1 E)&&pU I m b k g with
 |false=>exact Wx _
 |true=>exact r9 (Wh (W' _ _) (Wh (Wb (a4 (a4 (a4 dN).2).2).1) q))
def T3(n:Nat):∀{i:Nat},cL ((aB i (n+1)).map a)=cL ((aB i n).map a)+a (i+n):=by
 induction n with|zero=>exactλ{i}=>Wm _ _|succ n S=>intro i;refine(?_:a i+cL ((aB (i+1) (n+1)).map a)=a i+cL ((aB (i+1) n).map a)+a (i+(n+1)));rw[S,<-Wl,Wl i 1 n,Wm 1 n]
def L7(x:G 0=0)(P:∀t,t+1=m->G t=0):cL ((aB 0 m).map G)=cL ((aB 1 (m-2)).map G):=match m,P with
 |0,_=>rfl
 |1,_=>x
 |m+2,P=>by
  refine(?_:G 0+cL ((aB 1 (m+1)).map G)=cL ((aB 1 m).map G));rw[T3,x,P (1+m) (by rw[Wm 1]),Wj]
  rfl
def xi(A:i<E.R):4+E.bC i≠b1 E:=Wv (WW (Xr (pV (p:=0) A) 4))
abbrev VZ(E:C)(I:YX)(b m i t:Nat):Nat:=ee (g4 E I (b+t) i) ((cc E I b t).length*(cc E I (b+t+1) (m-t-1)).length)
def Vp(R:dp E I)(D:b+m<=I.length)(A:i<E.R)(G:Nat.beq i E.k=false):nj (c0 I) (b+m) (dF E I m c) [b1 E,4+E.bC i,b1 E] (aW [(b,1)]) (b+m)=(hv E I (cc E I) b m i).length:=by
 have O:∀k,ep (c0 I) (b+m) (b1 E) k=false:=λk=>vQ R;have K:∀k g,dF E I m c (4+E.bC i) k g=0:=λk g=>q3 (xi A);refine(?_:hz _ _ _ (b1 E) (hz _ _ _ (4+E.bC i) (hz _ _ _ (b1 E) (aW [(b,1)]))) _=_);rw[F7 O (ux K),me λj _=>Wd (·*_) ((qq K).trans (Wd (ee _) (Au O (Wq b m)))),<-Wj (b+m)];rw[show 0+(b+m)=b+m from Wj _,Hp m λj P=>by rw[J6 (Wj b▸P)];show ee _ 0*_=0;rw[kI,Xt]]
 have e:∀t∈aB 0 m,ee (ep (c0 I) (b+m) (4+E.bC i) (0+b+t)) (ee (Nat.ble b (0+b+t)&&Nat.ble (0+b+t) (b+m)) (dF E I m c (b1 E) b (0+b+t)))*dF E I m c (b1 E) (0+b+t+1) (b+m)=VZ E I b m i t:=λt V=>by
  have a:=(g6 _ V).2;rw[Wj] at a;have f:b+m=b+t+1+(m-t-1):=by rw[YD,Wl b t 1,Wl,Xn a]
  rw[Wj,Eh,dE (Xr a b),qM (Wq b t),qM (Wt (WK a) b),q2 (Wh (Wt (WK a) b) D) (.inl a)];rw[show dF E I m c (b1 E) (b+t+1) (b+m)=(cc E I (b+t+1) (m-t-1)).length from f▸q2 (f▸D) (.inl (by rw[YD];exact XT (Wf (Ww t) a) (Wx t)))]
  exact NV
 rw[me e,L7 (by unfold VZ;rw[show(cc E I b 0).length=0 from rfl,Xt];exact kI) λt V=>by unfold VZ;rw[<-V,XA,show(cc E I (b+t+1) (1-1)).length=0 from rfl,YR];exact kI]
 unfold hv nf;rw[G,Wk,wa];refine Eq.trans (me λt _=>?_) (Wj _).symm;unfold hR VZ;rw[G];generalize L:g4 E I (b+t) i=N;induction N with|true=>exact Fe.symm|false=>rfl
end
def Vq(R:dp a c)(D:b+m<=c.length)(Q:a.k<a.R):nj (c0 c) (b+m) (dF a c m d) [4+a.bC a.k,b1 a] (aW [(b,1)]) (b+m)=(hv a c (cc a c) b m a.k).length:=by
 have O:∀k,ep (c0 c) (b+m) (b1 a) k=false:=λk=>vQ R;have K:∀k g,dF a c m d (4+a.bC a.k) k g=0:=λk g=>q3 (xi Q);have f:(aB 1 (m-2)).flatMap (hR a c (cc a c) b m a.k)=[]:=by
  generalize aB 1 (m-2)=l;induction l with|nil=>rfl|cons x l S=>rw[Xm,S];unfold hR;rw[WA];rfl
 refine(?_:hz _ _ _ (b1 a) (hz _ _ _ (4+a.bC a.k) (aW [(b,1)])) _=_);rw[F7 O (ux K),me λj _=>Wd (·*_) (qq K),<-Wj (b+m)];rw[show 0+(b+m)=b+m from Wj _,Hp m λj P=>by rw[mG,ed (WZ (Wj b▸P))];show ee _ 0*_=0;rw[kI,Xt]]
 unfold hv nf;rw[f,WQ,WA];induction m with
 |zero=>cases g4 a c b a.k<;>rfl
 |succ m=>
  refine(?_:_+cL ((aB 1 m).map _)=_);rw[uq λt V=>by
   rw[mG,ed (Wv (by rw[Wj];exact WD (g6 _ V).1))]
   refine(?_:ee _ 0*_=0);rw[kI,Xt]]
  have e:b+(m+1)=b+1+m:=by rw[Wl,Wm 1]
  refine(?_:ee (ep (c0 c) (b+(m+1)) (4+a.bC a.k) (0+b+0)) (aW [(b,1)] (0+b+0))*dF a c (m+1) d (b1 a) (0+b+0+1) (b+(m+1))=_);rw[show 0+b+0=b from Wj b,Eh,dE (WD (Wx m)),mG,WA,show dF a c (m+1) d (b1 a) (b+1) (b+(m+1))=(cc a c (b+1) m).length from e▸q2 (e▸D) (.inl (Wu m))];generalize g4 a c b a.k=N;induction N with
  |false=>exact Xt _
  |true=>
   refine(?_:1*_=_);rw[Nat.one_mul];induction m with|zero=>rfl|succ m=>exact(WG _).symm
def Vo:nj (c0 a) (b+m) (dF c a m d) [3] (aW [(b,1)]) (b+m)=(gY (Nat.beq m 1&&gn a b) [aV.a]).length:=by
 have K:∀k g,dF c a m d 3 k g=0:=λk g=>q3 (Wv (Xq (Wh (WH 3) (Wq 4 c.aD))));show hz _ _ _ 3 (aW [(b,1)]) _=_
 match m,K with
 |0,K=>
  induction b with
  |zero=>exact ux K
  |succ b=>rw[show b+1+0=b+1 from rfl,qq K,mG,ed (Nat.succ_ne_self b)];exact kI
 |1,K=>rw[qq K,mG,WA,NK,dE (Wu b)];cases gn a b<;>rfl
 |m+2,K=>rw[show b+(m+2)=b+m+1+1 from rfl,qq K,mG,ed (Wv (Xq (Wq b m)))];exact kI
def Vn(D:P<=a.length):nj (c0 a) P (dF b a m c) [b1 b,0] f P=0:=by
 have K:∀k g,dF b a m c 0 k g=0:=λk g=>q3 (Wv (Wx _));refine(?_:hz _ _ _ 0 _ P=0);induction P with|zero=>exact ux K|succ e=>rw[qq K,NJ D];rfl
def I8:cc a c b m=j8 a c (cc a c) b m:=by
 induction m with
 |succ m=>exact o7
 |zero=>
  refine(?_:[]=[]++(aB 0 a.R).flatMap (hv a c (cc a c) b 0));rw[List.nil_append];generalize aB 0 a.R=l;induction l with
  |nil=>rfl
  |cons i l S=>rw[Xm,<-S];unfold hv nf;cases Nat.beq i a.k<;>cases g4 a c b i<;>rfl
def Sq:cL ((aB 0 a.R).map λi=>(hv a c (cc a c) b m i).length)+(gY (Nat.beq m 1&&gn c b) [aV.a]).length=(cc a c b m).length:=by rw[I8,j8,Wk,wa,Wm]
def wq(h:a<9000):a<jj:=Wg h (Wb rfl)
def sD:aW [(b,1)] k<jj:=by rw[mG];exact wq (Wf vW (Wb rfl))
def Hx(K:∀k g,X s k g=0)(h:∀k,f k<jj):hz a P X s f g<jj:=by
 induction g with|zero=>rw[ux K];exact wq (Wx _)|succ g=>rw[qq K];exact Wf vW (h g)
def Q9(R:dp a c)(q:c.length<=8)(G:b<=P)(i:s≠b1 a):o5 (c0 c) P (dF a c m d) [b1 a,s,b1 a] (aW [(b,1)]):=
 have z:∀k,hz (c0 c) P (dF a c m d) (b1 a) (aW [(b,1)]) k<jj:=λk=>by rw[Au (λk=>vQ R) G];exact wq (Wf vW (CO q))
 ⟨λ_=>sD,z,λ_=>Hx (λ_ _=>q3 i) z,trivial⟩
def Q8(i:s≠b1 a):o5 (c0 c) P (dF a c m d) [s,t] (aW [(b,1)]):=⟨λ_=>sD,λ_=>Hx (λ_ _=>q3 i) λ_=>sD,trivial⟩
def Q'(R:dp c a)(q:a.length<=8)(G:b<=P):o5 (c0 a) P (dF c a m d) [b1 c,0] (aW [(b,1)]):=⟨λ_=>sD,λk=>by rw[Au (λk=>vQ R) G];exact wq (Wf vW (CO q)),trivial⟩
def Q7:o5 (c0 a) P (dF d a m c) [s] (aW [(b,1)]):=⟨λ_=>sD,trivial⟩
noncomputable def Gs:Nat->Ze V
 |0=>none
 |n+1=>some (I (n+1))
def rC(T:YT):Bool:=Zx (T.all λe=>match e.2 with
 |.int _=>true
 |_=>false)
structure fQ(a:C)(c:YX)(T:YT)(m b:Nat):Prop where
 val:∀s k g,bL T (.t [.ofNat s,.ofNat k,.ofNat g])=Gs (dF a c m b s k g)
 tM:rC T=true
def F4{e:aE×V}(z:(match e.2 with|.int _=>true|_=>false)=true):∃k i,e=(k,.int i):=by
 induction e with
 |mk k v=>induction v using V.casesOn<;>first|exact⟨_,_,rfl⟩|exact bb z
def QD(m:rC T):gU (ct (k+1) h) T=some T:=by
 induction T with|nil=>rfl|cons e r S=>have z:=a4 m;exact(F4 z.1).elim λk y=>y.elim λi y=>y▸a6 rfl (a6 (S z.2) rfl)
def QB(m:rC T):lx (cg (k+1)) T:=by
 induction T with|nil=>rfl|cons e r S=>have z:=a4 m;exact(F4 z.1).elim λk y=>y.elim λi y=>y▸S z.2
def QC(m:rC T):rC (cU T q (.int B)):=by
 induction T with
 |nil=>rfl
 |cons e r S=>
  have z:=a4 m;induction e with
  |mk k v=>
  show rC (match cJ k q with|true=>(k,.int B)::r|false=>(k,v)::cU r q (.int B))=true
  generalize cJ k q=N;induction N with|true=>exact z.2|false=>exact WM.mpr ⟨z.1,S z.2⟩
def fQ.get(u:fQ f' ws kvs c' a')(o k j:Nat):gA .T kvs [.ay [I o,I k,I j],.int 0]=some (I (dF f' ws c' a' o k j)):=Wd some (by rw[u.val];cases dF f' ws c' a' o k j<;>rfl)
def CP(h:¬(s=b1 a/\k=b/\g=b+m)):dF a c m (b+1) s k g=dF a c m b s k g:=by
 unfold dF pU;generalize i:Nat.beq s (b1 a)=N;induction N with
 |false=>rfl
 |true=>generalize R:Nat.ble k g=N;induction N with
  |false=>rfl
  |true=>generalize G:Nat.beq (g-k) m=N;induction N with
   |false=>rfl
   |true=>
    have D:k≠b:=λz=>h ⟨(We i),z,by rw[<-z,<-(We G),Xn (Wb R)]⟩
    exact(show Nat.blt k (b+1)=Nat.blt k b from W7.mpr ⟨λz=>dE (YH (WV (dY z)) D),λz=>dE (WW (dY z))⟩)▸rfl
def fQ.a5(J:fQ f' ws kvs c' a')(hm:a'+c'<=ws.length)(Z:0<(cc f' ws a' c').length):fQ f' ws (cU kvs (.t [.ofNat (b1 f'),.ofNat a',.ofNat (a'+c')]) (I (cc f' ws a' c').length)) c' (a'+1):=⟨λU k M=>by
 rw[vg];generalize o:cJ (.t [.ofNat (b1 f'),.ofNat a',.ofNat (a'+c')]) (.t [.ofNat U,.ofNat k,.ofNat M])=C;induction C with
 |true=>
  have j:=Wd (λk=>match k with|.t fi=>fi|_=>[]) (tq o)
  have V:=XR (W5 j).1;have W:=XR (W5 (W5 j).2).1;have Y:=XR (W5 (W5 (W5 j).2).2).1;subst V W Y;rw[q2 hm (.inr ⟨rfl,Wu a'⟩)];generalize cK:(cc f' ws a' c').length=C;induction C with
  |zero=>exact absurd cK (WZ Z)
  |succ fl=>rfl
 |false=>rw[CP λu=>by rw[u.1,u.2.1,u.2.2,tr] at o;nomatch o];exact J.val U k M,QC J.tM⟩
def fQ.skip(o:fQ f' ws kvs c' a')(M:a'+c'<=ws.length)(J:(cc f' ws a' c').length=0):fQ f' ws kvs c' (a'+1):=⟨λC k u=>by
 by_cases j:C=b1 f'/\k=a'/\u=a'+c'
 .have v:=o.val C k u
  rw[j.1,j.2.1,j.2.2] at v⊢;rw[v,q2 M (.inr ⟨rfl,Wu a'⟩),J];unfold dF pU;rw[XA,lB (Wr c'),lB (Wr a'),W2,Bool.or_false,W2,W2,W2]
  rfl
 .rw[CP j];exact o.val C k u,o.tM⟩
def fQ.up(u:fQ f' ws kvs a' c')(W:ws.length<c'+a'):fQ f' ws kvs (a'+1) 0:=⟨λM k j=>by
 refine(u.val M k j).trans (Wd Gs ?_);unfold dF pU;cases hn:Nat.ble k j&&Nat.ble j ws.length with
 |false=>
  cases h1:Nat.ble k j with
  |false=>rfl
  |true=>rw[h1] at hn;rw[show Nat.ble j ws.length=false from hn];rfl
 |true=>have C:=a4 hn;have U:=Wb C.1;have V:=Wb C.2;rw[lB (Ww k),W2,Bool.or_false,show(Nat.blt (j-k) a'||(Nat.beq (j-k) a'&&Nat.blt k c'))=Nat.blt (j-k) (a'+1) from W7.mpr ⟨λo=>dE ((Xd.mp o).elim (λo=>WW (dY o)) λo=>Xq (WI (We (a4 o).1))),λo=>Xd.mpr ((XF (WV (dY o))).imp dE λJ=>by rw[J,WA];exact dE (by omega))⟩],u.tM⟩
def w8(E:C)(L:Nat->Int)(h:Z):gG (λi=>Y (cZ (.ae (E.i2 L)) (I (i+1)) h) (λR=>bM h R 34)=some (kn (qh (Nat.beq i E.k) (b1 E) (4+E.bC i)))) (aB 0 E.R)/\Y (cZ (.ae (E.i2 L)) (I (E.R+1)) h) (λR=>bM h R 34)=some (kn [3])/\Y (cZ (.ae (E.i2 L)) (I 0) h) (λR=>bM h R 34)=some (kn [b1 E,0]):=by induction E<;>(repeat' apply And.intro)<;>first|exact trivial|kernel_rfl
def GU(E:C)(L:Nat->Int)(K:YT)(d:Int)(h:Z)(n:Nat):(eF (n+20)).c .inl 92 [cv E L K d,I (b1 E)] h=some (.ae ((aB 1 (E.R+1)).map I),h)/\(eF (n+20)).c .inl 92 [cv E L K d,I E.aG] h=some (.ae [I 0],h):=by induction E<;>exact⟨by kernel_rfl,rfl⟩
abbrev B':List S:=cA (cm Dl 2)
abbrev B7:List S:=cA (B'.headD .eD)
abbrev sf:List S:=cA (B7.headD .eD)
abbrev yx:List S:=cA ((sf.drop 1).headD .eD)
abbrev nX(E:C)(a:YX)(G:V):YS:=[(33,G),(157,.ae ((c0 a).map I)),(150,.ae [I E.aG,I (b1 E)]),(56,.ref 0)]
abbrev jk(E:C)(a:YX)(G:V)(m b s F:Nat):YS:=U (nX E a G) [(105,I m),(83,I b),(46,I s),(152,I F)]
def xc(c:fQ d a T m b)(q:a.length<=8)(D:b+m<=a.length)(g:Y (cZ (.ae (d.i2 L)) (I r) (b4 T)) (λR=>bM (b4 T) R 34)=some (kn e))(i:e.length<=3)(j:o5 (c0 a) (b+m) (dF d a m b) e (aW [(b,1)])):
  bE yx ⟨U (jk d a (cv d L h f) m b s acc) [(24,I r)],b4 T⟩ .next ⟨U (jk d a (cv d L h f) m b s (acc+nj (c0 a) (b+m) (dF d a m b) e (aW [(b,1)]) (b+m))) [(24,I r)],b4 T⟩:=by
 have k:b+m<=(c0 a).length:=by unfold c0;rw[WG];exact D
 exact(jO g).elim λR z=>M (dk (cV J (c7 (aI (a9 (bw (a9 J (rk d L h f _).1) J z.1) z.2) (aI J (aI J (aI (cV J J rfl) (aq J))))) (Vr c.get k (Wf (Wh D q) (Wb rfl)) (Wq b m) i j rfl (QD c.tM) (QB c.tM))) rfl)) ba
def nH(E:C)(I:YX)(b m i:Nat):Nat:=(hv E I (cc E I) b m i).length
def Sv(c:fQ a d T m b)(R:dp a d)(q:d.length<=8)(D:b+m<=d.length)(A:i<a.R):bE yx ⟨U (jk a d (cv a L h f) m b s acc) [(24,I (i+1))],b4 T⟩ .next ⟨U (jk a d (cv a L h f) m b s (acc+nH a d b m i)) [(24,I (i+1))],b4 T⟩:=by
 have g:=(w8 a L (b4 T)).1.lt A;unfold nH;generalize G:Nat.beq i a.k=N;induction N with|true=>have e:=We G;subst e;rw[G] at g;have j:=xc (f:=f) (h:=h) (s:=s) (acc:=acc) c q D g (WH 2) (Q8 (xi A));rw[show nj (c0 d) (b+m) (dF a d m b) (qh true (b1 a) (4+a.bC a.k)) (aW [(b,1)]) (b+m)=_ from Vq R D A] at j;exact j|false=>rw[G] at g;have j:=xc (f:=f) (h:=h) (s:=s) (acc:=acc) c q D g (Wr 3) (Q9 R q (Wq b m) (xi A));rw[show nj (c0 d) (b+m) (dF a d m b) (qh false (b1 a) (4+a.bC i)) (aW [(b,1)]) (b+m)=_ from Vp R D A G] at j;exact j
def Sw(c:fQ a d T m b)(R:dp a d)(q:d.length<=8)(D:b+m<=d.length){s:Nat}(n:Nat):∀{i f:Nat},i+n=a.R->cS [24] yx ((aB (i+1) (n+1)).map I) ⟨jk a d (cv a L h g) m b s f,b4 T⟩ .next ⟨jk a d (cv a L h g) m b s (f+(cL ((aB i n).map (nH a d b m))+(gY (Nat.beq m 1&&gn d b) [aV.a]).length)),b4 T⟩:=by
 induction n with
 |zero=>intro i f e;have j:=xc (f:=g) (h:=h) (s:=s) (acc:=f) c q D (w8 a L (b4 T)).2.1 (Wb rfl) Q7;rw[Vo,<-show i=a.R from e] at j;refine(?_:cS _ _ [I (i+1)] _ _ ⟨jk a d (cv a L h g) m b s (f+(0+_)),_⟩);rw[Wj];exact cW rfl j rfl dq
 |succ n S=>
  intro i f e;have z:=S (i:=i+1) (f:=f+nH a d b m i) (by rw[<-e,Wl,Wm 1])
  rw[show f+nH a d b m i+(cL ((aB (i+1) n).map (nH a d b m))+(gY (Nat.beq m 1&&gn d b) [aV.a]).length)=f+(nH a d b m i+cL ((aB (i+1) n).map (nH a d b m))+(gY (Nat.beq m 1&&gn d b) [aV.a]).length)by rw[Wl,Wl]] at z
  exact cW rfl (Sv c R q D (e▸WD (Wx n))) rfl z
abbrev yI(E:C)(a:YX)(G:V)(m b:Nat):YS:=U (nX E a G) [(105,I m),(83,I b)]
def C9(q:aY .inl 92 [cv a L b d,I s] h v h)(e:au A 33=some (cv a L b d))(f:au A 46=some (I s)):ao (.aC (.F 33) 12421 [.F 46]) ⟨A,h⟩ v h:=fH (J e) (zv a L b d h).1 (by induction a<;>rfl) rfl rfl rfl (aq (J f)) q
def Uc(c:fQ a d T m b)(R:dp a d)(q:d.length<=8)(D:b+m<=d.length):bE sf ⟨U (yI a d (cv a L f e) m b) [(46,I a.aG)],b4 T⟩ .next ⟨jk a d (cv a L f e) m b a.aG 0,b4 T⟩:=by have j:=xc (f:=e) (h:=f) (s:=a.aG) (acc:=0) c q D (w8 a L (b4 T)).2.2 (WH 2) (Q' R q (Wq b m));rw[Vn D] at j;exact M (dk u) (M (da (c8 (C9 (fo 20 λn=>(GU a L f e (b4 T) n).2) rfl rfl) rfl) rfl (cW rfl j rfl dq) rfl) (M (cX (bF J u rfl) rfl) ba))
def Ub(c:fQ a d T m b)(R:dp a d)(q:d.length<=8)(D:b+m<=d.length)(j:VN T<900):∃i,bE sf ⟨U (yI a d (cv a L h g) m b) [(46,I (b1 a))],b4 T⟩ .next ⟨jk a d (cv a L h g) m b (b1 a) (cc a d b m).length,b4 i⟩/\fQ a d i m (b+1)/\VN i<=VN T+1:=by
 have f:=Sw (L:=L) (h:=h) (g:=g) (s:=b1 a) c R q D a.R (f:=0) (Wj _);rw[Wj 1,Wj (cL _+_),show cL ((aB 0 a.R).map (nH a d b m))+(gY (Nat.beq m 1&&gn d b) [aV.a]).length=(cc a d b m).length from Sq] at f;have V:∀{B},Nat.blt 0 (cc a d b m).length=B->ao (.aw .gt (.F 152) (.lit (.int 0))) ⟨jk a d (cv a L h g) m b (b1 a) (cc a d b m).length,b4 T⟩ (.bool B) (b4 T):=λe=>e▸bF J u rfl;have v:∀{i},cF ((sf.drop 2).headD .eD) ⟨jk a d (cv a L h g) m b (b1 a) (cc a d b m).length,b4 T⟩ .next ⟨jk a d (cv a L h g) m b (b1 a) (cc a d b m).length,b4 i⟩->bE sf ⟨U (yI a d (cv a L h g) m b) [(46,I (b1 a))],b4 T⟩ .next ⟨jk a d (cv a L h g) m b (b1 a) (cc a d b m).length,b4 i⟩:=λs=>M (dk u) (M (da (c8 (C9 (fo 20 λn=>(GU a L h g (b4 T) n).1) rfl rfl) rfl) rfl f rfl) (M s ba));generalize G:Nat.blt 0 (cc a d b m).length=N;induction N with
 |false=>exact⟨T,v (cX (V G) rfl),c.skip D (Nat.eq_zero_of_not_pos λz=>by rw[dE z] at G;nomatch G),WH _⟩
 |true=>exact⟨_,v (c1 (V G) rfl (M (jw J J (d7 (aI J (aI J (aq (cV J J rfl))))) ((rU rfl rfl (dV (Wg j (Wb rfl)))).trans rfl)) ba)),c.a5 D (dY G),pW⟩
def JP(R:dp d a)(q:a.length<=8)(n:Nat):∀{b:Nat}{T:YT},b+n+m=a.length+1->fQ d a T m b->VN T+n<800->∃i,cS [83] B7 ((aB b n).map I) ⟨U (nX d a (cv d L g f)) [(105,I m)],b4 T⟩ .next ⟨U (nX d a (cv d L g f)) [(105,I m)],b4 i⟩/\fQ d a i (m+1) 0/\VN i<=VN T+n:=by
 induction n with
 |zero=>exactλ{b T} e c _=>⟨T,dq,c.up (by rw[show b+m=a.length+1 from e];exact Wu _),Wr _⟩
 |succ n S=>
  intro b T e c l;have h:b+1+n+m=a.length+1:=by rw[Wl b 1 n,Wm 1 n];exact e
  have D:=WV (YG (XJ (Wg (Wu b) (Wq _ n)) m) h);exact(Ub c R q D (Wf (Wq _ _) (Wg l (Wb rfl)))).elim λv z=>(S h z.2.1 (uN l z.2.2)).elim λi y=>⟨i,cW rfl (M (da (c8 J rfl) rfl (cW rfl (Uc c R q D) rfl (cW rfl z.1 rfl dq)) rfl) ba) rfl y.1,y.2.1,Wh y.2.2 (by rw[Wm n 1,<-Wl];exact Wy z.2.2 n)⟩
def UZ(E:C)(L:Nat->Int)(K:YT)(d:Int):∀a,wN Dj.body [(33,cv E L K d)] (a+60)=some (.ae [I E.aG,I (b1 E)]):=λa=>by induction E<;>kernel_rfl
def z0(e:au A 157=some (.ae ((c0 a).map I))):ao (.bq false .len [(.F 157)]) ⟨A,h⟩ (I a.length) h:=d3 (aq (J e)) (Wd (λn=>some (I n,h)) (by unfold c0;rw[c9,c9,c5]))
def O0(R:dp b a)(q:a.length<=8)(n:Nat):∀{m:Nat}{T:YT},m+n=a.length+1->fQ b a T m 0->VN T+10*n<500->∃i,cS [105] B' ((aB m n).map I) ⟨nX b a (cv b L f d),b4 T⟩ .next ⟨nX b a (cv b L f d),b4 i⟩/\fQ b a i (a.length+1) 0:=by
 induction n with
 |zero=>exactλ{m T} e c _=>⟨T,dq,e▸c⟩
 |succ n S=>
  intro m T e c l;have D:=e▸Wq m (n+1);have lT:a.length+1-m<=9:=Wh (W' _ _) (WC q);have g:VN T+10+10*n<500:=Wf (WI (by rw[XK,Wl,Wm 10])) l
  have h:∀{G},iq (.range none (.a7 .sub false (.a7 .add false (.bq false .len [(.F 157)]) (.lit (.int 1))) (.F 105))) ⟨U (nX b a (cv b L f d)) [(105,I m)],b4 G⟩ ((aB 0 (a.length+1-m)).map I) .none (b4 G):=λ{G}=>by rw[<-j4];exact kH (cV (cV (z0 rfl) u rfl) J (md D)) (mC (Wf lT (Wb rfl)))
  exact(JP R q (a.length+1-m) (b:=0) (by rw[Wj,XW D]) c (Wf (Wt (Wh lT (WH 9)) _) (WJ (ho g) (Wb rfl)))).elim λG z=>(S (m:=m+1) (by rw[<-e,Wl,Wm 1]) z.2.1 (Wf (Wy (Wh z.2.2 (Wt (Wh lT (WH 9)) _)) _) g)).elim λB y=>⟨B,cW rfl (M (da h rfl z.1 rfl) ba) rfl y.1,y.2⟩
def Lm(c:dp a b)(q:b.length<=8):aY .pure 123 [cv a L (er G) d,.ae ((c0 b).map I)] h (I (i7 a b).length) h:=by
 have f:fQ a b [] 0 0:=⟨λs k g=>by
  unfold dF pU;rw[lB (Ww (g-k)),lB (Ww k),W2,Bool.or_false,W2,W2,W2]
  rfl,rfl⟩
 refine(O0 (L:=L) (f:=er G) (d:=d) c q (b.length+1) (Wj _) f (Wf (Wh (WI (Wj _)) (WT 10 (WC q))) (Wb rfl))).elim λT z=>?_;rw[<-j4] at z;have g:=z.2.get (b1 a) 0 (0+b.length);rw[q2 (WI (Wj _)) (.inl (Wu _)),Wj] at g;have B:aY .pure 121 [cv a L (er G) d] Z.bj (.ae [I a.aG,I (b1 a)]) Z.bj:=Cp (cf lE rfl) rfl rfl rfl (UZ a L (er G) d) rfl;have A:ao (.sub (.aS (.sub (.aS (.F 33) 31) (.lit (.int 0))) 34) (.lit (.int 0))) ⟨nX a b (cv a L (er G) d),b4 T⟩ (I (b1 a)) (b4 T):=(jO (w8 a L (b4 T)).2.2).elim λR y=>bw (a9 (bw (a9 J (rk a L (er G) d _).1) u y.1) y.2) u rfl;exact kr (cf lE (cf (hh u9) rfl)) rfl rfl rfl (M (dk (c7 (aq J) B)) (M (cI (mH oD)) (M (da (kH (cV (z0 rfl) u rfl) (mC (Wf (WC q) (Wb rfl)))) rfl z.1 rfl) (bG (cb (q' J rfl (aI (d7 (aI A (aI u (aq (z0 rfl))))) (aq u)) rfl (tF rfl g))))))) rfl rfl
structure gI where
 T:V
 aG:Nat
 N:Nat
 R:Nat
 X:Nat->Nat->Int
 D:Nat->Nat
 G:Nat->Int
 L:Nat->Nat
abbrev Bo:YZ:=Zx [26,14,105,35,28,29,110,98,75,94]
structure lq(b:gI)(E:Nat)(f:YU)(c:YT):Prop where
 cls:∀h,ks b.T h=some 7
 F6:∀h m,(Bo.any λx=>Nat.beq x m)->bM h b.T m=none
 names:∀h,bM h b.T 15=some (.ae f)
 Bp:∀h,bM h b.T 16=some (I b.aG)
 row:∀h q t,q<b.N->t<b.aG->Y (bM h b.T 36) (λe=>Y (cZ e (I q) h) λr=>cZ r (I t) h)=some (.int (b.X q t))
 d6:∀h q,q<b.N->Y (bM h b.T 20) (λp=>cZ p (I q) h)=some (I (b.D q))
 gt:∀h q,q<b.N->∃d,Y (bM h b.T 37) (λa=>cZ a (I q) h)=some (.ah .I d)/\gA .I d [I E,.int (-1)]=some (.int (b.G q))
 c0:∀h,bM h b.T 21=some (.ah .S c)
 left:∀h r,0<r->r<b.R->Y (bM h b.T 17) (λA=>cZ A (I r) h)=some (I E)
 mY:∀h r,r<b.R->Y (bM h b.T 18) (λA=>cZ A (I r) h)=some (I (b.L r))
 nR:∀h r,r<b.R->Y (bM h b.T 19) (λA=>cZ A (I r) h)=some (I 0)
 uv:3<b.aG/\b.aG<60
 Aq:b.aG<=VN f
section
variable{b:gI}{E:Nat}{f:YU}{R:YT}(K:lq b E f R){h:Z}{q t r:Nat}
def sd(e:Y (bM h T a) (λl=>cZ l (I d) h)=some v)(p:au A x=some T)(y:ao c ⟨A,h⟩ (I d) h):ao (.sub (.aS (.F x) a) c) ⟨A,h⟩ v h:=(jO e).elim λ_ z=>bw (a9 (J p) z.1) y z.2
include K
def y4(a:q<b.N)(V:t<b.aG):aY .inl 23 [b.T,I q,I t] h (.int (b.X q t)) h:=(jO (K.row h q t a V)).elim λQ z=>(jO z.2).elim λr y=>cH rfl rfl (bG (cb (bw (bw (a9 J z.1) J y.1) J y.2)))
def yW(a:q<b.N):aY .inl 14 [b.T,I q] h (I (b.D q)) h:=cH rfl rfl (bG (cb (sd (K.d6 h q a) rfl J)))
def Nq(a:q<b.N):aY .inl 24 [b.T,I q,I E] h (.int (b.G q)) h:=(K.gt h q a).elim λd z=>cH rfl rfl (bG (cb (kA (sd z.1 rfl J) rfl (aI J (aq (hI u rfl))) rfl (ou z.2))))
def OT(x:0<r)(F:r<b.R):aY .inl 9 [b.T,I r] h (I E) h:=cH rfl rfl (bG (cb (sd (K.left h r x F) rfl J)))
def O1(F:r<b.R):aY .inl 10 [b.T,I r] h (I (b.L r)) h:=cH rfl rfl (bG (cb (sd (K.mY h r F) rfl J)))
def JO(F:r<b.R):aY .inl 11 [b.T,I r] h (I 0) h:=cH rfl rfl (bG (cb (sd (K.nR h r F) rfl J)))
def i6(D:(Bo.any λx=>Nat.beq x (hp m)))(R:au Cn.kR (hp m)=some a)(F:Nat.ble (dD.kY a) (rx m))(p:ao e ⟨A,c⟩ b.T P)(u:gs G ⟨A,P⟩ i N)(g:aY .inl a (b.T::i) N v d):ao (.aC e m G) ⟨A,c⟩ v d:=
 fH p (K.cls _) (K.F6 _ _ D) rfl R F u g
noncomputable def mv(x:Int)(d:Nat):Int:=match dr x (-1048576)with
 |true=>0
 |false=>match dr x 0 with
  |true=>-(.ofNat d)
  |false=>x
def Jh(c:q<b.N)(V:t<b.aG):aY .inl 16 [b.T,I q,I t] h (.int (mv (b.X q t) (b.D q))) h:=by
 have i:cF (cm Dn 0) ⟨[(6,b.T),(25,I q),(26,I t)],h⟩ .next ⟨[(6,b.T),(25,I q),(26,I t),(8,.int (b.X q t))],h⟩:=cI (i6 K rfl rfl rfl J (aI J (aq J)) (y4 K c V));have p:∀{B},dr (b.X q t) (-1048576)=B->ao (.aw .eq (.F 8) (.d8 (.int (-1048576)))) ⟨[(6,b.T),(25,I q),(26,I t),(8,.int (b.X q t))],h⟩ (.bool B) h:=λe=>bF (J rfl) h4 (Wd some e);have r:∀{B},dr (b.X q t) 0=B->ao (.aw .eq (.F 8) (.lit (.int 0))) ⟨[(6,b.T),(25,I q),(26,I t),(8,.int (b.X q t))],h⟩ (.bool B) h:=λe=>bF (J rfl) u (Wd some e);unfold mv;generalize P:dr (b.X q t) (-1048576)=N;induction N with
 |true=>exact cH rfl rfl (M i (bG (c1 (p P) rfl (bG (cb u)))))
 |false=>
  generalize a:dr (b.X q t) 0=N;induction N with|true=>exact cH rfl rfl (M i (M (cX (p P) rfl) (bG (c1 (r a) rfl (bG (cb (hI (i6 K rfl rfl rfl J (aq J) (yW K c)) rfl)))))))|false=>exact cH rfl rfl (M i (M (cX (p P) rfl) (M (cX (r a) rfl) (bG (cb J)))))
def rD(X:Nat->Int)(O:YZ):Bool:=
 O.rec true λt _ S=>match dr (X t) 0 with
  |true=>S
  |false=>false
def Lj(a:q<b.N)(c:YZ):(∀t∈c,t<b.aG)->∃l,cS [26] (cA (cm Dp 1)) (c.map I) ⟨[(6,b.T),(25,I q)],h⟩ (sT (rD (b.X q) c)) ⟨l,h⟩/\(rD (b.X q) c=true->l=[(6,b.T),(25,I q)]):=by
 induction c with
 |nil=>exactλ_=>⟨_,dq,λ_=>rfl⟩
 |cons t c S=>
  intro V;have p:∀{B},dr (b.X q t) 0=B->ao (.aw .cC (.aC (.F 6) 4124 [(.F 25),(.F 26)]) (.lit (.int 0))) ⟨[(6,b.T),(25,I q),(26,I t)],h⟩ (.bool (!B)) h:=λe=>bF (i6 K rfl rfl rfl J (aI J (aq J)) (y4 K a (V t (.head _)))) u (Wd (λb=>some (!b)) e);unfold rD;dsimp only;generalize P:dr (b.X q t) 0=N;induction N with|false=>exact⟨_,Mw rfl (bG (c1 (p P) rfl (bG (cb u)))),λz=>bb z⟩|true=>exact(S λt m=>V t (.tail _ m)).elim λl z=>⟨l,cW rfl (M (cX (p P) rfl) ba) rfl z.1,z.2⟩
def sz(b:gI)(q:Nat):Bool:=match Nat.beq (b.D q) 0 with
 |true=>false
 |false=>rD (b.X q) (aB 0 b.aG)
def Lk(c:q<b.N):aY .inl 18 [b.T,I q] h (.bool (sz b q)) h:=by
 have p:∀{B},Nat.beq (b.D q) 0=B->ao (.aw .eq (.aC (.F 6) 4125 [(.F 25)]) (.lit (.int 0))) ⟨[(6,b.T),(25,I q)],h⟩ (.bool B) h:=λe=>bF (i6 K rfl rfl rfl J (aq J) (yW K c)) u (Wd some e);have d:iq (.range none (.aS (.F 6) 16)) ⟨[(6,b.T),(25,I q)],h⟩ ((aB 0 b.aG).map I) .none h:=by rw[<-j4];exact kH (a9 J (K.Bp _)) (mC (WJ K.uv.2 (Wb rfl)))
 unfold sz;generalize P:Nat.beq (b.D q) 0=N;induction N with
 |true=>exact cH rfl rfl (bG (c1 (p P) rfl (bG (cb u))))
 |false=>
  refine(Lj K (h:=h) c (aB 0 b.aG) λt m=>by have z:=(g6 _ m).2;rw[Wj] at z;exact z).elim λl f=>?_
  generalize a:rD (b.X q) (aB 0 b.aG)=N;induction N with|true=>rw[a] at f;exact cH rfl rfl (M (cX (p P) rfl) (M (da d rfl f.1 rfl) (bG (cb u))))|false=>rw[a] at f;exact cH rfl rfl (M (cX (p P) rfl) (bG (da d rfl f.1 rfl)))
end
section
variable{b:gI}{E:Nat}{f:YU}{R:YT}(K:lq b E f R)
include K
def Ms(j:q<b.N)(d:YZ):∀{a:YZ},(∀t∈d,t<b.aG)->(∀x∈a,x<b.aG)->a.length+d.length<800->∃c:YZ,cS [26] (cA (cm vp 1)) (d.map I) ⟨[(6,b.T),(25,I q),(12,.ref h.n)],W h [some (.ae (a.map I) 0)]⟩ .next ⟨[(6,b.T),(25,I q),(12,.ref h.n)],W h [some (.ae (c.map I) 0)]⟩/\(∀y∈c,y<b.aG)/\c.length<=a.length+d.length:=by
 induction d with
 |nil=>exactλ{a} _ B _=>⟨a,dq,B,Wr _⟩
 |cons t d S=>
  intro a V B f;have skip:∀{l},bE (cA (cm vp 1)) ⟨[(6,b.T),(25,I q),(12,.ref h.n),(26,I t)],W h [some (.ae (a.map I) 0)]⟩ .next ⟨(6,b.T)::(25,I q)::(12,.ref h.n)::l,W h [some (.ae (a.map I) 0)]⟩->∃c:YZ,cS [26] (cA (cm vp 1)) ((t::d).map I) ⟨[(6,b.T),(25,I q),(12,.ref h.n)],W h [some (.ae (a.map I) 0)]⟩ .next ⟨[(6,b.T),(25,I q),(12,.ref h.n)],W h [some (.ae (c.map I) 0)]⟩/\(∀y∈c,y<b.aG)/\c.length<=a.length+(d.length+1):=λk=>(S (λt m=>V t (.tail _ m)) B (WE f)).elim λc z=>⟨c,cW rfl k rfl z.1,z.2.1,W8 z.2.2⟩;have e:ao (.bool true [(.aw .cC (.F 26) (.d8 (.int 1))),(.aw .cC (.F 26) (.d8 (.int 2)))]) ⟨[(6,b.T),(25,I q),(12,.ref h.n),(26,I t)],W h [some (.ae (a.map I) 0)]⟩ (.bool (!(Nat.beq t 1)&& !(Nat.beq t 2))) (W h [some (.ae (a.map I) 0)]):=fV (qI (bF J h4 rfl) (hZ (bF J h4 rfl)));cases oa: !(Nat.beq t 1)&& !(Nat.beq t 2)with
  |false=>rw[oa] at e;exact skip (M (cX e rfl) ba)
  |true=>
   rw[oa] at e;have i:cF (.bY (.F 8) (.aC (.F 6) 4124 [(.F 25),(.F 26)])) ⟨[(6,b.T),(25,I q),(12,.ref h.n),(26,I t)],W h [some (.ae (a.map I) 0)]⟩ .next ⟨[(6,b.T),(25,I q),(12,.ref h.n),(26,I t),(8,.int (b.X q t))],W h [some (.ae (a.map I) 0)]⟩:=cI (i6 K rfl rfl rfl J (aI J (aq J)) (y4 K j (V t (.head _))));have gL:ao (.bool true [(.aw .cC (.F 8) (.lit (.int 0))),(.aw .cC (.F 8) (.d8 (.int (-1048576))))]) ⟨[(6,b.T),(25,I q),(12,.ref h.n),(26,I t),(8,.int (b.X q t))],W h [some (.ae (a.map I) 0)]⟩ (.bool (!(dr (b.X q t) 0)&& !(dr (b.X q t) (-1048576)))) (W h [some (.ae (a.map I) 0)]):=fV (qI (bF J u rfl) (hZ (bF J h4 rfl)));cases ob: !(dr (b.X q t) 0)&& !(dr (b.X q t) (-1048576))with
   |false=>rw[ob] at gL;exact skip (M (c1 e rfl (M i (M (cX gL rfl) ba))) ba)
   |true=>
    rw[ob] at gL;have g:=v9 (b:=h) (L:=[some (.ae (a.map I) 0)]) (A:=[(6,b.T),(25,I q),(12,.ref h.n),(26,I t),(8,.int (b.X q t))]) (m:=4096) 0 rfl (J (a:=12) rfl) rfl (J (a:=26) rfl) (dV (by rw[c9,c5];exact Wf (Wq _ _) (WJ f (Wb rfl))))
    rw[show U (a.map I) [I t]=(U a [t]).map I from hY (b:=[t])] at g;refine(S (λt m=>V t (.tail _ m)) (λx m=>(WU.mp (cQ▸m)).elim (B x) λz=>Ws.mp z▸V t (.head _)) (by rw[cQ,Wk,Wl,Wm [t].length];exact f)).elim λc z=>⟨c,cW rfl (M (c1 e rfl (M i (M (c1 gL rfl (M (de g rfl) ba)) ba))) ba) rfl z.1,z.2.1,Wh z.2.2 (WI (by rw[cQ,Wk,Wl,Wm [t].length];rfl))⟩
def Mr(c:q<b.N):∃a:YZ,aY .inl 17 [b.T,I q] h (.ref h.n) (W h [some (.ae (a.map I) 0)])/\(∀y∈a,y<b.aG)/\a.length<100:=by
 refine(Ms K (h:=h) c (aB 0 b.aG) (a:=[]) (λt m=>by have z:=(g6 _ m).2;rw[Wj] at z;exact z) (λ_ h=>nomatch h) (by rw[oR];exact Wf (WI (Wj _)) (WJ K.uv.2 (Wb rfl)))).elim λa z=>⟨a,?_,z.2.1,?_⟩
 .have f:=z.1
  rw[<-j4] at f;exact cH rfl rfl (M (cI (h5 du)) (M (da (kH (a9 J (K.Bp _)) (mC (WJ K.uv.2 (Wb rfl)))) rfl f rfl) (bG (cb J))))
 .refine Wf z.2.2 ?_
  rw[oR];exact Wf (WI (Wj _)) (WJ K.uv.2 (Wb rfl))
end
structure ke where
 ak:Nat
 fM:Nat
 eY:YT
 gh:YU
 iz:Nat
 j:YZ
 bg:YU
 bc:V
 aO:Nat
 gw:V
 val:V
def rB:V:=bX [109,111,114,101]
abbrev pk(T H:V)(d:ke):YS:=Zx [(74,T),(80,H),(81,I 5000),(82,.ref 1),(59,.ref d.ak),(72,.ref d.fM),(84,d.bc),(85,I d.iz),(86,d.gw),(77,d.val),(78,.ref 9),(47,.ref 10)]
def xU(p:Nat):Prop:=p≠0/\p≠1/\p≠6/\p≠9/\p≠10
def vy(h:11<=a):xU a:=
 have f:∀{k},k<11->a≠k:=λz=>WZ (Wg z h)
 ⟨f (Wb rfl),f (Wb rfl),f (Wb rfl),f (Wb rfl),f (Wb rfl)⟩
structure bW(h:Z)(T H:V)(a:YU)(d:ke):Prop where
 i:h.get 0=some (.ins 16 (pk T H d))
 l:h.get 1=some (.ah .I d.eY 0)
 t:h.get 6=some (.ins 15 [(79,.ae a),(7,I d.aO)])
 f:∃P,h.get 9=some (.ae P 0)/\VN P<100
 m:h.get 10=some (.ae d.gh 0)
 s:h.get d.ak=some (.ae (d.j.map I) 0)
 v:h.get d.fM=some (.ae d.bg 0)
 n:11<=h.n
 k6:d.ak<h.n
 la:d.fM<h.n
 mf:d.ak≠d.fM
 b6:xU d.ak
 c2:xU d.fM
section
variable{h:Z}{T H:V}{s:YU}{d:ke}
def kF:(h.a5 p x).get p=x:=(Z.mQ ..).trans (if_pos rfl)
def cE(e:p≠q):(h.a5 p x).get q=h.get q:=(Z.mQ ..).trans (if_neg e)
def Na(e:q<h.n):(h.new a).get q=h.get q:=(Z.vI h q (some a)).trans (if_neg (WZ e))
def D1:(h.new a).get h.n=some a:=(Z.vI h h.n (some a)).trans (if_pos rfl)
def bW.sA(j:bW h T H s d){bc o u:V}:bW (h.a5 0 (some (.ins 16 (pk T H {d with bc:=bc,gw:=o,val:=u,iz:=iz})))) T H s {d with bc:=bc,gw:=o,val:=u,iz:=iz}:=
 ⟨kF,(cE (by decide)).trans j.l,(cE (by decide)).trans j.t,j.f.imp λ_ C=>⟨(cE (by decide)).trans C.1,C.2⟩,(cE (by decide)).trans j.m,(cE j.b6.1.symm).trans j.s,(cE j.c2.1.symm).trans j.v,j.n,j.k6,j.la,j.mf,j.b6,j.c2⟩
def bW.S3(j:bW h T H s d):bW (h.a5 1 (some (.ah .I eY 0))) T H s {d with eY:=eY}:=
 ⟨(cE (by decide)).trans j.i,kF,(cE (by decide)).trans j.t,j.f.imp λ_ o=>⟨(cE (by decide)).trans o.1,o.2⟩,(cE (by decide)).trans j.m,(cE j.b6.2.1.symm).trans j.s,(cE j.c2.2.1.symm).trans j.v,j.n,j.k6,j.la,j.mf,j.b6,j.c2⟩
def bW.S8(j:bW h T H s d):bW (h.a5 6 (some (.ins 15 [(79,.ae s),(7,I a')]))) T H s {d with aO:=a'}:=
 ⟨(cE (by decide)).trans j.i,(cE (by decide)).trans j.l,kF,j.f.imp λ_ o=>⟨(cE (by decide)).trans o.1,o.2⟩,(cE (by decide)).trans j.m,(cE j.b6.2.2.1.symm).trans j.s,(cE j.c2.2.2.1.symm).trans j.v,j.n,j.k6,j.la,j.mf,j.b6,j.c2⟩
def bW.S4(j:bW h T H s d):bW (h.a5 10 (some (.ae a' 0))) T H s {d with gh:=a'}:=
 ⟨(cE (by decide)).trans j.i,(cE (by decide)).trans j.l,(cE (by decide)).trans j.t,j.f.imp λ_ o=>⟨(cE (by decide)).trans o.1,o.2⟩,kF,(cE j.b6.2.2.2.2.symm).trans j.s,(cE j.c2.2.2.2.2.symm).trans j.v,j.n,j.k6,j.la,j.mf,j.b6,j.c2⟩
def bW.G4(o:bW h T H s d){j:YZ}:bW (h.a5 d.ak (some (.ae (j.map I) 0))) T H s {d with j:=j}:=
 ⟨(cE o.b6.1).trans o.i,(cE o.b6.2.1).trans o.l,(cE o.b6.2.2.1).trans o.t,o.f.imp λ_ u=>⟨(cE o.b6.2.2.2.1).trans u.1,u.2⟩,(cE o.b6.2.2.2.2).trans o.m,kF,(cE o.mf).trans o.v,o.n,o.k6,o.la,o.mf,o.b6,o.c2⟩
def bW.G5(j:bW h T H s d):bW (h.a5 d.fM (some (.ae a' 0))) T H s {d with bg:=a'}:=
 ⟨(cE j.c2.1).trans j.i,(cE j.c2.2.1).trans j.l,(cE j.c2.2.2.1).trans j.t,j.f.imp λ_ o=>⟨(cE j.c2.2.2.2.1).trans o.1,o.2⟩,(cE j.c2.2.2.2.2).trans j.m,(cE j.mf.symm).trans j.s,kF,j.n,j.k6,j.la,j.mf,j.b6,j.c2⟩
def bW.ext(j:bW h T H s d)(C:∀a',a'<h.n->h'.get a'=h.get a')(J:h.n<=h'.n):bW h' T H s d:=
 have o:∀{a'},a'<11->h'.get a'=h.get a':=λu=>C _ (Wg u j.n)
 ⟨(o (by decide)).trans j.i,(o (by decide)).trans j.l,(o (by decide)).trans j.t,j.f.imp λ_ u=>⟨(o (by decide)).trans u.1,u.2⟩,(o (by decide)).trans j.m,(C _ j.k6).trans j.s,(C _ j.la).trans j.v,Wh j.n J,Wg j.k6 J,Wg j.la J,j.mf,j.b6,j.c2⟩
def bW.new(j:bW h T H s d):bW (h.new a') T H s d:=j.ext (λ_ o=>Na o) (WH _)
def bW.Qy(o:bW h T H s d):bW ((h.new (.ae a' 0)).a5 0 (some (.ins 16 (pk T H {d with fM:=h.n,bg:=a'})))) T H s {d with fM:=h.n,bg:=a'}:=
 have j:=o.new
 ⟨kF,(cE (by decide)).trans j.l,(cE (by decide)).trans j.t,j.f.imp λ_ u=>⟨(cE (by decide)).trans u.1,u.2⟩,(cE (by decide)).trans j.m,(cE o.b6.1.symm).trans j.s,(cE (vy o.n).1.symm).trans D1,j.n,j.k6,Wu _,Wv o.k6,o.b6,vy o.n⟩
def bW.Qw(u:bW h T H s d){j:YZ}:bW ((h.new (.ae (j.map I) 0)).a5 0 (some (.ins 16 (pk T H {d with ak:=h.n,j:=j})))) T H s {d with ak:=h.n,j:=j}:=
 have o:=u.new
 ⟨kF,(cE (by decide)).trans o.l,(cE (by decide)).trans o.t,o.f.imp λ_ C=>⟨(cE (by decide)).trans C.1,C.2⟩,(cE (by decide)).trans o.m,(cE (vy u.n).1.symm).trans D1,(cE u.c2.1.symm).trans o.v,o.n,Wu _,o.la,WZ u.la,vy u.n,u.c2⟩
def bW.at(o:bW h T H s d){j:Nat}{v:V}(u:au (pk T H d) j=some v):bM h (.ref 0) j=some v:=iW o.i u
def fU(K:bW P T H s a)(X:au (pk T H a) (hp m)=none)(R:au Cm.kR (hp m)=some f)(F:Nat.ble (dD.kY f) (rx m))(p:ao e ⟨A,x⟩ (.ref 0) P)(u:gs G ⟨A,P⟩ b N)(g:aY .inl f (.ref 0::b) N v t):ao (.aC e m G) ⟨A,x⟩ v t:=
 fH p (ku K.i) (kE K.i X) rfl R F u g
def QQ{O:YU}{v:V}:a3 (U O [v]) O.length=some v:=by
 induction O with|nil=>rfl|cons x r S=>exact S
def DY(e:h.get p=some (.ae (U a [v]) l)):cZ (.ref p) (.int (-1)) h=some v:=by
 refine zq e ?_;refine(?_:Y (match Nat.blt 0 (VN (U a [v]))with|true=>some (VN (U a [v])-(0+1))|false=>none) (λk=>a3 (U a [v]) k)=_)
 refine(show VN (U a [v])=a.length+1 by rw[iD,c5];rfl)▸?_
 exact QQ
end
def gC(b:gI)(q:Nat):Nat:=match sz b q with
 |true=>b.D q
 |false=>0
def kj(b:gI)(l:YT):Prop:=∀q v,bL l (.i (.ofNat q))=some v->v=I (gC b q)
section
variable{b:gI}{E:Nat}{f:YU}{R:YT}(B:lq b E f R)
def kj.a5(C:kj b c'):kj b (cU c' (.i (.ofNat a')) (I (gC b a'))):=λu v j=>by
 rw[vg] at j;generalize o:cJ (.i (.ofNat a')) (.i (.ofNat u))=J;induction J with|true=>rw[o] at j;exact(show a'=u from We o)▸(Wc j).symm|false=>rw[o] at j;exact C u v j
include B in
def Fx(K:bW h b.T H s d)(W:kj b d.eY)(i:VN d.eY<900)(g:q<b.N):
  ∃a G,aY .inl 71 [.ref 0,I q] h (I (gC b q)) a/\bW a b.T H s {d with eY:=G}/\kj b G/\VN G<=VN d.eY+1:=by
 have f:ao (.aw .j0 (.F 25) (.aS (.F 6) 82)) ⟨[(6,.ref 0),(25,I q)],h⟩ (.bool (!(VU (bL d.eY (.i (.ofNat q)))))) h:=bF J (a9 J (K.at rfl)) (a6 (EI K.l rfl) rfl);generalize T:bL d.eY (.i (.ofNat q))=N;induction N with
 |some v=>rw[T] at f;have e:=W q v T;subst e;exact⟨h,d.eY,cH rfl rfl (M (cX f rfl) (bG (cb (bw (a9 J (K.at rfl)) J (lN K.l rfl T))))),K,W,WH _⟩
 |none=>
  rw[T] at f;have p:=K.S3 (eY:=cU d.eY (.i (.ofNat q)) (I (gC b q)));have c:ao (.aC (.aS (.F 6) 74) 8286 [(.F 25)]) ⟨[(6,.ref 0),(25,I q)],h⟩ (.bool (sz b q)) h:=i6 B rfl rfl rfl (a9 J (K.at rfl)) (aq J) (Lk B g);have k:ao (.ite (.aC (.aS (.F 6) 74) 8286 [(.F 25)]) (.aC (.aS (.F 6) 74) 8221 [(.F 25)]) (.lit (.int 0))) ⟨[(6,.ref 0),(25,I q)],h⟩ (I (gC b q)) h:=by
   unfold gC;generalize L:sz b q=N;induction N with|true=>rw[L] at c;exact lG c rfl (i6 B rfl rfl rfl (a9 J (K.at rfl)) (aq J) (yW B g))|false=>rw[L] at c;exact jS c rfl u
  exact⟨_,_,cH rfl rfl (M (lP f rfl (M (jw k (a9 J (K.at rfl)) J (rU K.l rfl (dV (Wg i (Wb rfl))))) ba)) (bG (cb (bw (a9 J (p.at rfl)) J (lN p.l rfl (by rw[vg,tr])))))),p,W.a5,pW⟩
def Av(K:bW h T H s d)(D:VN d.gh<900):∃a,aY .inl 73 [.ref 0,A] h .none a/\bW a T H s {d with gh:=U d.gh [A]}/\a.n=h.n:=by have c:ao (.aw .mP (.bq false .len [(.aS (.F 6) 47)]) (.aS (.F 6) 81)) ⟨[(6,.ref 0),(95,A)],h⟩ (.bool false) h:=bF (d3 (aq (a9 J (K.at rfl))) (a6 rfl (a6 (px K.m) rfl))) (a9 J (K.at rfl)) (Wd (λb=>some (!b)) (dE (Wg D (Wb rfl:900<=5000))));exact⟨_,gM rfl rfl (M (cX c rfl) (M (de (fW (a9 J (K.at rfl)) K.m (aq J) K.m (hq K.m (dV (Wg D (Wb rfl))))) rfl) ba)),K.S4,rfl⟩
def MN(K:bW h T H s d):∃c,aY .inl 75 [.ref 0,a,v] h .none c/\bW c T H s {d with gw:=a,val:=v}:=
 have l:=K.sA (o:=a)
 ⟨_,gM rfl rfl (M (fa J J (k4 K.i rfl)) (M (fa J J (k4 l.i rfl)) ba)),l.sA (bc:=d.bc) (iz:=d.iz) (o:=a) (u:=v)⟩
def PB(K:bW h T H s d):∃a,aY .inl 70 [.ref 0,t] h .none a/\bW a T H s {d with bc:=t,iz:=d.iz+1}:=
 have l:=K.sA (bc:=t)
 ⟨_,gM rfl rfl (M (fa J J (k4 K.i rfl)) (M (fa (cV (d:=I (d.iz+1)) (a9 J (l.at rfl)) u rfl) J (k4 l.i rfl)) ba)),l.sA (bc:=t) (iz:=d.iz+1) (o:=d.gw) (u:=d.val)⟩
end
def vi:V:=.ins 4 false [(9,bX [36,101,110,100]),(10,bX []),(7,.none),(11,bX [])]
section
variable{b:gI}{E:Nat}{f:YU}{R:YT}(B:lq b E f R)
def GO(K:bW h T H s d):ao (.aw .mP (.aS (.F 6) 7) (.bq false .len [(.aS (.F 6) 79)])) ⟨[(6,.ref 6)],h⟩ (.bool (!(Nat.blt d.aO (VN s)))) h:=bF (a9 J (iW K.t rfl)) (d3 (aq (a9 J (iW K.t rfl))) rfl) rfl
def Qz(K:bW h T H s d)(E:VN s<=d.aO):aY .inl 62 [.ref 6] h vi h:=by have c:=GO K;rw[lB E] at c;exact cH rfl rfl (bG (c1 c rfl (bG (cb (iA (aI u (aI u (aq u))) (fo 9 λ_=>rfl))))))
def QA(K:bW h T H s d)(E:a3 s d.aO=some t)(m:d.aO<VN s)(R:∀h,bM h t 9=some e)(l:∀h,dx .cC e (bX [36,101,110,100]) h=some true):∃a,aY .inl 62 [.ref 6] h t a/\bW a T H s {d with aO:=d.aO+1}:=by have c:=GO K;rw[dE m] at c;exact⟨_,cH rfl rfl (M (cX c rfl) (M (cI (bw (a9 J (iW K.t rfl)) (a9 J (iW K.t rfl)) (jq m E))) (M (c1 (bF (a9 J (R _)) u (l _)) rfl (M (fa (cV (a9 J (iW K.t rfl)) u rfl) J (k4 K.t rfl)) ba)) (bG (cb J))))),K.S8⟩
include B in
def Ur(K:bW h b.T H s d)(e:∀h,bM h t 9=some c)(T:gA .S R [c,.int 2]=some (I a))(X:a≠1):aY .inl 72 [.ref 0,t] h (I a) h:=by have f:aY .inl 8 [b.T,c] h (I a) h:=cH rfl rfl (bG (cb (kA (a9 J (B.c0 _)) rfl (aI J (aq h4)) rfl (ou T))));exact cH rfl rfl (M (cI (i6 B rfl rfl rfl (a9 J (K.at rfl)) (aq (a9 J (e _))) f)) (bG (cb (jS (bF (J rfl) h4 (Wd some (ed X))) rfl J))))
end
def AN:dU (λi=>l9 i.e self [] ⟨A,h⟩ P) (P,h):=.val rfl
def j3(p:ao x ⟨A,h⟩ v b)(f:n5 P)(q:dU (λi=>l9 i.e self r ⟨A,b⟩ (VO P a v)) z):dU (λi=>l9 i.e self (.bY (.aS (.F self) a) x::r) ⟨A,h⟩ P) z:=by
 refine(?_:dU (λi=>match Nat.beq self self with|true=>Y (i.e x ⟨A,h⟩) λp=>bS (n5 P) (l9 i.e self r ⟨A,p.2⟩ (VO P a p.1))|false=>none) z)
 rw[WA];exact .Y p (.bR f q)
def gd(Q:YU):V:=Zx (.ins 11 false [(15,.ae Q)])
def lU(t a:V):V:=Zx (.ins 10 false [(23,a),(24,I 0),(63,.ae []),(67,t)])
def fA(r:Nat)(X:YU):V:=.ins 9 false [(23,bX [69]),(24,I r),(63,.ae X)]
def OR(R:∀h,bM h t 9=some a)(m:jr t=false)(E:jr a=false):aY .ef 10 [t] h (lU t a) h:=by
 have e:sa [(23,a),(24,I 0),(63,V.ae []),(67,t)]=false:=by
  refine(?_:(match jr a with|true=>true|false=>match jr t with|true=>true|false=>false)=false)
  rw[m,E]
 have k:aY .ef 10 [t] h (.ins 10 (sa [(23,a),(24,I 0),(63,V.ae []),(67,t)]) [(23,a),(24,I 0),(63,V.ae []),(67,t)]) h:=
  yL (self:=6) (d:=[67]) (A:=[(67,t)]) rfl rfl rfl rfl rfl rfl (j3 (a9 J (R _)) rfl (j3 u rfl (j3 (fq du) rfl (j3 J rfl AN))))
 rw[e] at k;exact k
def Td(K:bW h T (gd Q) s d)(c:d.bc=t)(R:∀h,bM h t 9=some a)(m:jr t=false)(E:jr a=false)(f:VN d.gh<900)(i:d.j.length<900)(A:VN d.bg<900):
  ∃b,aY .inl 78 [.ref 0,I g] h .none b/\bW b T (gd Q) s {d with gh:=U d.gh [.ay [bX [115,104,105,102,116],I g]],j:=U d.j [g],bg:=U d.bg [lU t a],bc:=.none}:=by
 have D:∀{n},n<900->n<1000:=λz=>Wg z (Wb rfl);refine(Av (A:=.ay [bX [115,104,105,102,116],I g]) K f).elim λP z=>?_;have l:=z.2.1;have p:=l.G4 (j:=U d.j [g]);have e:=p.G5 (a':=U d.bg [lU t a]);have O:=hq (x:=I g) l.s (dV (by rw[c9,c5];exact D i))
 rw[show U (d.j.map I) [I g]=(U d.j [g]).map I from hY (b:=[g])] at O;have j:aY .inl 49 [gd Q,t] (P.a5 d.ak (some (.ae ((U d.j [g]).map I) 0))) (lU t a) (P.a5 d.ak (some (.ae ((U d.j [g]).map I) 0))):=cH rfl rfl (bG (cb (iA (aq J) (OR R m E))));exact⟨_,gM rfl rfl (M (de (fU K rfl rfl rfl J (aq (d7 (aI u (aq J)))) z.1) rfl) (M (de (fW (a9 J (l.at rfl)) l.s (aq J) l.s O) rfl) (M (de (fW (a9 J (p.at rfl)) p.v (aq (fH (a9 J (p.at rfl)) rfl rfl rfl rfl rfl (aq (a9 J ((p.at rfl).trans (Wd some c)))) j)) p.v (hq p.v (dV (D A)))) rfl) (M (fa u J (k4 e.i rfl)) ba)))),e.sA (bc:=.none) (iz:=d.iz) (o:=d.gw) (u:=d.val)⟩
section
variable{b:gI}{E:Nat}{f:YU}{R:YT}(B:lq b E f R){h:Z}{s:YU}{d:ke}
def tu(K:bW h T H s d)(e:d.j=U a [q]):cZ (.ref d.ak) (.int (-1)) h=some (I q):=by have z:=K.s;rw[e,<-hY] at z;exact DY z
include B in
def Ni(K:bW h b.T H s d)(e:d.j=U c [q])(j:q<b.N)(m:0<r)(F:r<b.R)(i:b.G q=.ofNat g)(k:d.j.length<900)(A:VN d.bg<900):
  ∃a,aY .inl 81 [.ref 0,I r,v] h .none a/\bW a b.T H s {d with j:=U d.j [g],bg:=U d.bg [v]}:=by
 have D:∀{n},n<900->n<1000:=λz=>Wg z (Wb rfl);have p:=K.G4 (j:=U d.j [g]);have O:=hq (x:=I g) K.s (dV (by rw[c9,c5];exact D k))
 rw[show U (d.j.map I) [I g]=(U d.j [g]).map I from hY (b:=[g])] at O;have f:=Nq B (h:=h) j;rw[i] at f;exact⟨_,gM rfl rfl (M (cI (i6 B rfl rfl rfl (a9 J (K.at rfl)) (aI (bw (a9 J (K.at rfl)) (hI u rfl) (tu K e)) (aq (i6 B rfl rfl rfl (a9 J (K.at rfl)) (aq J) (OT B m F)))) f)) (M (cX (bF J u rfl) rfl) (M (de (fW (a9 J (K.at rfl)) K.s (aq J) K.s O) rfl) (M (de (fW (a9 J (p.at rfl)) p.v (aq J) p.v (hq p.v (dV (D A)))) rfl) ba)))),p.G5 (a':=U d.bg [v])⟩
def Jg(K:bW h T (gd Q) s d)(X:∀h,cZ (.ae Q) (I r) h=some (bX [69])):aY .inl 80 [.ref 0,I r,.ae args] h (fA r args) h:=by have a:aY .inl 50 [gd Q,I r,.ae args,.none] h (fA r args) h:=cH rfl rfl (M (cI (bw (a9 J rfl) J (X _))) (M (cX (kA J rfl (aq u) rfl rfl) rfl) (bG (cb (iA (aI J (aI J (aq J))) (fo 9 λ_=>rfl))))));exact cH rfl rfl (bG (cb (fH (a9 J (K.at rfl)) rfl rfl rfl rfl rfl (aI J (aI J (aq u))) a)))
def Bn:mg (U a c) a.length=a:=by
 induction a with
 |nil=>induction c<;>rfl
 |cons x a S=>exact Wd (x::·) S
def C5:q7 (U a c) a.length=c:=by
 induction a with
 |nil=>induction c<;>rfl
 |cons x a S=>exact S
def HZ(K:bW h T H s d)(e:au A 6=some (.ref 0))(f:d.bg.length=a):ao (.bq false .len [(.aS (.F 6) 72)]) ⟨A,h⟩ (I a) h:=d3 (aq (a9 (J e) (K.at rfl))) (a6 rfl (a6 (px K.v) (by rw[<-f,<-c5])))
include B in
def R6(K:bW h b.T (gd Q) s d)(G:d.j=U (U a [q]) fZ)(aD:d.bg=U H args)(x:a.length=H.length)(E:args.length=b.L r)(O:q<b.N)(R:0<r)(F:r<b.R)(A:b.G q=.ofNat g)(X:∀h,cZ (.ae Q) (I r) h=some (bX [69]))(C:VN d.gh<900)(o:d.j.length<800)(T:d.bg.length<800):
  ∃c L e i,aY .inl 79 [.ref 0,I r] h .none c/\bW c b.T (gd Q) s {d with gh:=L,ak:=e,fM:=i,j:=U (U a [q]) [g],bg:=U H [fA r args]}/\VN L<=VN d.gh+1:=by
 have D:∀{n},n<800->n<900:=λz=>Wg z (Wb rfl);refine(Av (A:=.ay [bX [114,101,100,117,99,101],I r]) K C).elim λP z=>?_;have l:=z.2.1;have p:=l.Qy (a':=H);have j:=p.Qw (j:=U a [q]);have f:d.bg.length=H.length+b.L r:=by rw[aD,cQ,Wk,E]
 have S:(U a [q]).length<800:=by rw[G,cQ,Wk] at o;exact Wf (Wq _ _) o
 have N:VN H<800:=by rw[c5];exact Wf (by rw[f];exact Wq _ _) T
 refine(Ni B (v:=fA r args) j rfl O R F A (D S) (D N)).elim λv y=>?_;have t:d4 (.ref d.fM) P=some (U H args):=by rw[<-aD];exact lW l.v
 have m:=lW p.s;rw[show d.j.map I=U ((U a [q]).map I) (fZ.map I) from by rw[G,hY]] at m
 have k:=C8 (A:=[(6,.ref 0),(24,I r),(105,I (b.L r)),(106,I H.length),(77,fA r args),(108,I H.length)]) (a:=.aS (.F 6) 72) (b:=.F 108) (a9 J (l.at rfl)) J t;rw[Bn] at k;have w:=C8 (A:=[(6,.ref 0),(24,I r),(105,I (b.L r)),(106,I H.length),(77,fA r args),(108,I H.length)]) (a:=.aS (.F 6) 59) (b:=.a7 .add false (.F 108) (.lit (.int 1))) (c:=H.length+1) (a9 J (p.at rfl)) (cV J u rfl) m;rw[show H.length+1=((U a [q]).map I).length by rw[WG,cQ,Wk,x];rfl,Bn] at w
 refine⟨v,_,_,_,gM (G:=[(6,.ref 0),(24,I r),(105,I (b.L r)),(106,I H.length),(77,fA r args),(108,I H.length)]) rfl rfl (M (de (fU K rfl rfl rfl J (aq (d7 (aI u (aq J)))) z.1) rfl) (M (cI (a:=105) (A:=[(6,.ref 0),(24,I r)]) (i6 B rfl rfl rfl (a9 J (l.at rfl)) (aq J) (O1 B F))) ?_)),y.2,by show VN (U d.gh _)<=_;rw[iD];exact Wr _⟩
 refine M (dk (cV (cV (HZ l rfl f) J (md (Xi _ _))) (i6 B rfl rfl rfl (a9 J (l.at rfl)) (aq J) (JO B F)) ((md (Ww _)).trans (by rw[Nat.sub_zero,Ya])))) ?_
 refine M (dk (fU l rfl rfl rfl J (aI J (aq (zo (a9 J (l.at rfl)) J t))) (by rw[C5];exact Jg l X))) ?_
 exact M (dk (cV (HZ l rfl f) J ((md (Xi _ _)).trans (by rw[Ya])))) (M (kG k J (k4 l.new.i rfl)) (M (kG w J (k4 p.new.i rfl)) (M (de (fU j rfl rfl rfl J (aI J (aq J)) y.1) rfl) ba)))
end
section
variable{b:gI}{E:Nat}{f:YU}{R:YT}(B:lq b E f R){h:Z}{s:YU}{d:ke}{Q:YU}{H T:V}{X:YZ}{q:Nat}{S:V}
include B in
def F2(K:bW h b.T H s d)(W:kj b d.eY)(f:VN d.eY<900)(e:d.j=U X [q])(I:q<b.N)(c:d.bc=.none):
  ∃a G,aY .inl 69 [.ref 0] h (.bool (Nat.beq (gC b q) 0)) a/\bW a b.T H s {d with eY:=G}/\kj b G/\VN G<=VN d.eY+1:=
 (Fx B K W f I).elim λP z=>z.elim λi z=>⟨P,i,cH rfl rfl (bG (cb (fV (jN (bF (a9 J ((K.at rfl).trans (Wd some c))) u rfl) rfl (hZ (n7 (fU K rfl rfl rfl J (aq (bw (a9 J (K.at rfl)) (hI u rfl) (tu K e))) z.1) u rfl)))))),z.2⟩
def Qs(K:bW h T H s d)(a:d.bc=S)(X:dx .is S .none h=some false):aY .inl 69 [.ref 0] h (.bool false) h:=
 cH rfl rfl (bG (cb (fV (ph (bF (a9 J ((K.at rfl).trans (Wd some a))) u X) rfl))))
abbrev Bf(q l:Nat):YS:=Zx [(6,.ref 0),(25,I q),(82,I l)]
include B in
def Hk(K:bW h b.T H s d)(W:kj b d.eY)(f:VN d.eY<900)(e:d.j=U X [q])(I:q<b.N):
  ∃a G,bW a b.T H s {d with eY:=G}/\kj b G/\VN G<=VN d.eY+1/\∀{i c},bE (pF.body.drop 2) ⟨Bf q (gC b q),a⟩ i c->bE pF.body ⟨[(6,.ref 0)],h⟩ i c:=
 (Fx B K W f I).elim λP z=>z.elim λg z=>⟨P,g,z.2.1,z.2.2.1,z.2.2.2,λk=>M (dk (bw (a9 J (K.at rfl)) (hI u rfl) (tu K e))) (M (cI (fU K rfl rfl rfl J (aq J) z.1)) k)⟩
end
structure ml(h:Z)(T H:V)(d:ke):Prop where
 i:h.get 0=some (.ins 16 (pk T H d))
 f:∃P,h.get 9=some (.ae P 0)
 m:∃y,h.get 10=some (.ae y 0)
def bW.z(j:bW h' c' a' s' f'):ml h' c' a' f':=⟨j.i,j.f.imp λ_ o=>o.1,_,j.m⟩
section
variable{b:gI}{E:Nat}{f:YU}{R:YT}(B:lq b E f R){h:Z}{s:YU}
include B in
def Qr(K:bW h b.T H s d)(E:YZ):(∀y∈E,y<b.aG)->∃a,eT [22] (.sub (.aS (.aS (.F 6) 74) 15) (.F 22)) none [(6,.ref 0)] (E.map I) h a h:=by
 induction E with|nil=>exactλ_=>⟨[],gD⟩|cons y E S=>exactλL=>(S λz m=>L z (.tail _ m)).elim λa k=>(m7 f (Wg (L y (.head _)) B.Aq)).elim λv e=>⟨v::a,fX rfl (bw (a9 (a9 J (K.at rfl)) (B.names _)) J (jq (Wg (L y (.head _)) B.Aq) e)) k⟩
def D7(K:bW h T H s d):bW (W h [some a]) T H s d:=K.ext (λ_ L=>pJ [some a] L) (WH _)
include B in
def Uq(K:bW h b.T H s d)(e:d.j=U i [q])(k:q<b.N):∃g,aY .inl 83 [.ref 0] h .none g/\ml g b.T H d:=by
 refine(Mr B (h:=h) k).elim λE z=>?_;have l:=D7 (a:=.ae (E.map I) 0) K;have j:aY .inl 82 [.ref 0] h (.ref h.n) (W h [some (.ae (E.map I) 0)]):=cH rfl rfl (bG (cb (i6 B rfl rfl rfl (a9 J (K.at rfl)) (aq (bw (a9 J (K.at rfl)) (hI u rfl) (tu K e))) z.1)));refine(Qr B (D7 (a:=.ae (E.map I) 1) K) E z.2.1).elim λf m=>l.f.elim λP y=>?_;have n:cF (cm Dw 0) ⟨[(6,.ref 0)],h⟩ .next ⟨[(6,.ref 0),(15,.ae f)],W h [some (.ae (E.map I) 0)]⟩:=
  cI (a:=15) (A:=[(6,.ref 0)]) (s7 (c8 (fU K rfl rfl rfl J du j) (uj (cw (i:=0) _ rfl))) (jn (by rw[c9,c5];exact WJ z.2.2 (Wb rfl))) (pS 0 rfl) m (pT 0 rfl))
 have mk:∀a c z x,∃v,aY .ef 13 [a,c,z,x] (W h [some (.ae (E.map I) 0)]) v (W h [some (.ae (E.map I) 0)]):=λa c z x=>⟨_,yL (i:=56) (a:=Du) rfl rfl rfl rfl rfl rfl (j3 J rfl (j3 J rfl (j3 J rfl (j3 J rfl AN))))⟩;refine(mk d.bc (I q) (.ae f) (.int (Int.ofNat d.iz-1))).elim λL mk=>⟨_,gM rfl rfl (M n (M (de (fW (a9 J (l.at rfl)) y.1 (aq (iA (aI (a9 J (l.at rfl)) (aI (bw (a9 J (l.at rfl)) (hI u rfl) (tu l e)) (aI J (aq (cV (a9 J (l.at rfl)) u rfl))))) mk)) y.1 (hq y.1 (dV (WJ y.2 (Wb rfl))))) rfl) ba)),(cE (by decide)).trans l.i,⟨_,kF⟩,⟨_,(cE (by decide)).trans l.m⟩⟩
end
def yn:V:=bX [97,98,111,114,116,101,100]
def uJ:V:=bX [97,99,99,101,112,116,101,100]
structure nO(b:YT)(t a:V)(n:Nat):Prop where
 k:∀h,bM h t 9=some a
 d:gA .S b [a,.int 2]=some (I n)
 Qn:n≠1
 is:∀h,dx .is t .none h=some false
structure fh(b:gI)(e f:YU)(w:Nat)(j:YZ)(c:YU)(bc:V)(a:Nat)(h:Z)(d:ke):Prop where
 K:bW h b.T (gd e) f d
 L:kj b d.eY
 l:VN d.eY+w<700
 m:VN d.gh+w<700
 s:j.length+w<700
 v:c.length+w<700
 x:(d.gw=rB/\d.aO=a)/\d.j=j/\d.bg=c/\d.bc=bc
def pZ(e:x+(w+1)<700):x+w<700:=WE e
def m4(e:x+(w+1)<700)(z:y<=x+1):y+w<700:=Wf (Wy z w) (by rw[Wl,Wm 1];exact e)
def m3(e:x+w<700):x<900:=Wf (Wq _ _) (WJ e (Wb rfl))
def FI(e:x+w<700):x<800:=Wf (Wq _ _) (WJ e (Wb rfl))
abbrev gx:List S:=cA (cm zc 1)
abbrev eh:YS:=Zx [(6,.ref 0),(89,.ref 6)]
abbrev gH(b:gI)(Q s:YU)(w:Nat)(j:YZ)(D:YU)(bc:V)(a:Nat)(h:Z):Prop:=∃d,fh b Q s w j D bc a h d
section
variable{b:gI}{E:Nat}{f:YU}{R:YT}(B:lq b E f R){h:Z}{s Q:YU}{w a q:Nat}{I X:YZ}{D:YU}{T:V}{d:ke}
def fh.vA(j:fh b Q s (w+1) I D T a h d)(o:bW h' b.T (gd Q) s a')(u:kj b a'.eY)(C:VN a'.eY<=VN d.eY+1)(J:VN a'.gh<=VN d.gh+1)(M:(a'.gw=rB/\a'.aO=a)/\a'.j=I/\a'.bg=D/\a'.bc=T):fh b Q s w I D T a h' a':=
 ⟨o,u,m4 j.l C,m4 j.m J,pZ j.s,pZ j.v,M⟩
include B
def MC(K:bW h b.T H s d)(e:d.j=U X [q])(I:q<b.N):∃c,aY .inl 84 [.ref 0,v] h .none c/\ml c b.T H {d with gw:=yn,val:=.none}:=
 (Uq B K e I).elim λP z=>
  have g:=z.2.i
  ⟨_,gM rfl rfl (M (de (fU K rfl rfl rfl J du z.1) rfl) (M (de (fH J (ku g) (kE g rfl) rfl rfl rfl (aI u (aq u)) (gM rfl rfl (M (fa J J (k4 g rfl)) (M (fa J J (k4 kF rfl)) ba)))) rfl) ba)),
   kF,z.2.f.imp λ_ z=>(cE (by decide)).trans ((cE (by decide)).trans z),z.2.m.imp λ_ z=>(cE (by decide)).trans ((cE (by decide)).trans z)⟩
def MD(G:fh b Q s (w+1) (U X [q]) D .none a h d)(I:q<b.N)(x:gC b q=0)
  (H:∀{h d},bW h b.T (gd Q) s d->d.aO=a->∃c,aY .inl 62 [.ref 6] h t c/\bW c b.T (gd Q) s {d with aO:=A}):
  ∃c g,(∀{i e},bE (gx.drop 1) ⟨eh,c⟩ i e->bE gx ⟨eh,h⟩ i e)/\fh b Q s w (U X [q]) D t A c g:=
 (F2 B G.K G.L (m3 G.l) G.x.2.1 I G.x.2.2.2).elim λP z=>z.elim λl z=>by have p:=z.1;rw[x] at p;refine(H z.2.1 G.x.1.2).elim λN y=>(PB (t:=t) y.2).elim λf u=>?_;have j:fh b Q s w (U X [q]) D t A f _:=⟨u.2,z.2.2.1,m4 G.l z.2.2.2,pZ G.m,pZ G.s,pZ G.v,⟨G.x.1.1,rfl⟩,G.x.2.1,G.x.2.2.1,rfl⟩;exact⟨f,_,λk=>M (lP (fU G.K rfl rfl rfl J du p) rfl (M (de (fU z.2.1 rfl rfl rfl J (aq (fH J (ku z.2.1.t) (kE z.2.1.t rfl) rfl rfl rfl du y.1)) u.1) rfl) ba)) k,j⟩
def ME(G:fh b Q s (w+1) (U X [q]) D .none a h d)(I:q<b.N)(x:gC b q≠0):
  ∃c g,(∀{i e},bE (gx.drop 1) ⟨eh,c⟩ i e->bE gx ⟨eh,h⟩ i e)/\fh b Q s w (U X [q]) D .none a c g:=
 (F2 B G.K G.L (m3 G.l) G.x.2.1 I G.x.2.2.2).elim λP z=>z.elim λf z=>by have p:=z.1;rw[ed x] at p;exact⟨P,_,λk=>M (jV (fU G.K rfl rfl rfl J du p) rfl ba) k,G.vA z.2.1 z.2.2.1 z.2.2.2 (WH _) G.x⟩
omit B in
def DA(G:fh b Q s (w+1) I D t a h d)(X:dx .is t .none h=some false):(∀{i c},bE (gx.drop 1) ⟨eh,h⟩ i c->bE gx ⟨eh,h⟩ i c)/\fh b Q s w I D t a h d:=
 ⟨λk=>M (cX (fU G.K rfl rfl rfl J du (Qs G.K G.x.2.2.2 X)) rfl) k,G.vA G.K G.L (WH _) (WH _) G.x⟩
end
def dW:(U x [z]).length=x.length+1:=by rw[cQ,Wk];rfl
def Fb:(U x [z]).length<=(U x y).length+1:=by rw[dW,cQ,Wk];exact WC (Wq _ _)
section
variable{b:gI}{E:Nat}{f:YU}{R:YT}(B:lq b E f R){h:Z}{s Q:YU}{w a q n r g p:Nat}{X D e:YZ}{T H S:YU}{t P v O:V}
abbrev Jf(q n:Nat)(x:Int):YS:=Zx [(6,.ref 0),(25,I q),(82,I 0),(26,I n),(98,.int x)]
def TN(K:bW h b.T (gd Q) s d)(a:∀{i c},bE (pF.body.drop 2) ⟨Bf q (gC b q),l⟩ i c->bE pF.body ⟨[(6,.ref 0)],h⟩ i c)(k:bE (pF.body.drop 2) ⟨Bf q (gC b q),l⟩ .next ⟨A,N⟩):bE (gx.drop 1) ⟨eh,h⟩ .next ⟨eh,N⟩:=
 M (de (fU K rfl rfl rfl J du (gM rfl rfl (a k))) rfl) ba
include B
def xu(G:fh b Q s (w+1) (U X [q]) T t a h d)(I:q<b.N)(x:gC b q=0)(e:nO R t P n)(g:n<b.aG):
  ∃c i,(∀{N:Z}{A:YS},cF (cm pF 5) ⟨Jf q n (mv (b.X q n) (b.D q)),c⟩ .next ⟨A,N⟩->bE (gx.drop 1) ⟨eh,h⟩ .next ⟨eh,N⟩)/\fh b Q s w (U X [q]) T t a c i:=
 (Hk B G.K G.L (m3 G.l) G.x.2.1 I).elim λf z=>z.elim λj z=>by have b6:=λ{N:Z}{A:YS}=>TN (N:=N) (A:=A) G.K z.2.2.2;rw[x] at b6;exact⟨f,_,λk=>b6 (M (cX (bF J u rfl) rfl) (M (cI (fU z.1 rfl rfl rfl J (aq (a9 J ((z.1.at rfl).trans (Wd some G.x.2.2.2)))) (Ur B z.1 e.k e.d e.Qn))) (M (cI (i6 B rfl rfl rfl (a9 J (z.1.at rfl)) (aI J (aq J)) (Jh B I g))) (M k ba)))),G.vA z.1 z.2.1 z.2.2.1 (WH _) G.x⟩
def US(G:fh b Q s (w+2) (U X [q]) T t a h d)(I:q<b.N)(x:gC b q=0)(f:nO R t P n)(j:n<b.aG)(m:jr t=false)(k:jr P=false)(E:mv (b.X q n) (b.D q)=.ofNat (g+1))(i:Nat.beq (g+1) 1048576=false):
  ∃c,bE (gx.drop 1) ⟨eh,h⟩ .next ⟨eh,c⟩/\gH b Q s w (U (U X [q]) [g+1]) (U T [lU t P]) .none a c:=
 (xu B G I x f j).elim λo z=>z.elim λl z=>by have e:=z.2;have O:=λ{N A}=>@z.1 N A;rw[E] at O;refine(Td e.K e.x.2.2.2 f.k m k (m3 e.m) (by rw[e.x.2.1];exact m3 e.s) (by rw[c5,e.x.2.2.1];exact m3 e.v)).elim λN y=>⟨N,O (jV (bF (J rfl) h4 (Wd some i)) rfl (M (lP (bF J u rfl) rfl (M (de (fU e.K rfl rfl rfl J (aq J) y.1) rfl) ba)) ba)),_,⟨y.2,e.L,pZ e.l,m4 e.m (WI iD),m4 e.s (WI dW),m4 e.v (WI dW),e.x.1,Wd (U · [g+1]) e.x.2.1,Wd (U · [lU t P]) e.x.2.2.1,rfl⟩⟩
def UO(G:fh b Q s (w+2) (U X [q]) (U H [v]) t a h d)(I:q<b.N)(x:gC b q=0)(T:nO R t P n)(g:n<b.aG)(E:mv (b.X q n) (b.D q)=1048576):
  ∃i c,bE (gx.drop 1) ⟨eh,h⟩ .next ⟨eh,i⟩/\ml i b.T (gd Q) c/\c.gw=uJ/\c.val=v:=
 (xu B G I x T g).elim λj z=>z.elim λl z=>by
  have e:=z.2;have O:=λ{N A}=>@z.1 N A;rw[E] at O;refine(Av e.K (m3 e.m)).elim λN y=>(MN y.2.1).elim λf L=>⟨f,_,O (lP (bF J h4 rfl) rfl (M (de (fU e.K rfl rfl rfl J (aq (d7 (aq u))) y.1) rfl) (M (de (fU y.2.1 rfl rfl rfl J (aI u (aq (bw (a9 J (y.2.1.at rfl)) (hI u rfl) ?_))) L.1) rfl) ba))),L.2.z,rfl,rfl⟩;have p:=y.2.1.v;rw[show({l with gh:=U l.gh [.ay [bX [97,99,99,101,112,116]]]}:ke).bg=U H [v] from e.x.2.2.1] at p
  exact DY p
def UP(G:fh b Q s (w+2) (U X [q]) T t a h d)(I:q<b.N)(x:gC b q=0)(f:nO R t P n)(g:n<b.aG)(E:mv (b.X q n) (b.D q)=0):
  ∃i c,bE (gx.drop 1) ⟨eh,h⟩ .next ⟨eh,i⟩/\ml i b.T (gd Q) c/\c.gw=yn/\c.val=.none:=
 (xu B G I x f g).elim λj z=>z.elim λl z=>by have e:=z.2;have O:=λ{N A}=>@z.1 N A;rw[E] at O;exact(MC B e.K e.x.2.1 I).elim λN y=>⟨N,_,O (jV (bF J h4 rfl) rfl (M (jV (bF J u rfl) rfl (M (jV (fV (ph (bF J u rfl) rfl)) rfl (M (de (fU e.K rfl rfl rfl J (aq J) y.1) rfl) ba)) ba)) ba)),y.2,rfl,rfl⟩
def GC(G:fh b Q s (w+1) (U (U D [p]) e) (U H S) O a h d)(f:D.length=H.length)(k:S.length=b.L r)(K:p<b.N)(m:0<r)(F:r<b.R)(v:b.G p=.ofNat g)(L:∀h,cZ (.ae Q) (I r) h=some (bX [69])):
  ∃c,aY .inl 79 [.ref 0,I r] h .none c/\gH b Q s w (U (U D [p]) [g]) (U H [fA r S]) O a c:=by
 exact(R6 B G.K G.x.2.1 G.x.2.2.1 f k K m F v L (m3 G.m) (by rw[G.x.2.1];exact FI G.s) (by rw[G.x.2.2.1];exact FI G.v)).elim λN z=>z.elim λy z=>z.elim λi z=>z.elim λfM z=>⟨N,z.1,_,⟨z.2.1,G.L,pZ G.l,m4 G.m z.2.2,m4 G.s Fb,m4 G.v Fb,G.x.1,rfl,rfl,G.x.2.2.2⟩⟩
def UR(G:fh b Q s (w+2) (U X [q]) (U H S) t a h d)(o:q<b.N)(x:gC b q=0)(T:nO R t P n)(l:n<b.aG)(E:mv (b.X q n) (b.D q)=-(.ofNat (r+1)))
  (m:U X [q]=U (U D [p]) e)(j:D.length=H.length)(k:S.length=b.L (r+1))(K:p<b.N)(F:r+1<b.R)(v:b.G p=.ofNat g)(L:∀h,cZ (.ae Q) (I (r+1)) h=some (bX [69])):
  ∃c,bE (gx.drop 1) ⟨eh,h⟩ .next ⟨eh,c⟩/\gH b Q s w (U (U D [p]) [g]) (U H [fA (r+1) S]) t a c:=
 (xu B G o x T l).elim λi z=>z.elim λW z=>by have f:=z.2;have O:=λ{N C}=>@z.1 N C;rw[E] at O;rw[m] at f;have A:aY .inl 77 [.ref 0,I n] i (.bool true) i:=cH rfl rfl (bG (cb u));exact(GC B f j k K (Wx _) F v L).elim λN y=>⟨N,O (jV (bF J h4 rfl) rfl (M (jV (bF J u rfl) rfl (M (lP (fV (jN (bF J u rfl) rfl (hZ (fU f.K rfl rfl rfl J (aq J) A)))) rfl (M (de (fU f.K rfl rfl rfl J (aq (cV u J (by show some (V.int (0- -(Int.ofNat (r+1))),_)=_;rw[Int.sub_neg,Int.zero_add]))) y.1) rfl) ba)) ba)) ba)),y.2⟩
def UQ(G:fh b Q s (w+2) (U X [q]) (U H S) O a h d)(n:q<b.N)(x:gC b q=r+1)
  (m:U X [q]=U (U D [p]) e)(j:D.length=H.length)(k:S.length=b.L (r+1))(K:p<b.N)(F:r+1<b.R)(v:b.G p=.ofNat g)(L:∀h,cZ (.ae Q) (I (r+1)) h=some (bX [69])):
  ∃c,bE (gx.drop 1) ⟨eh,h⟩ .next ⟨eh,c⟩/\gH b Q s w (U (U D [p]) [g]) (U H [fA (r+1) S]) O a c:=
 (Hk B G.K G.L (m3 G.l) G.x.2.1 n).elim λP z=>z.elim λt z=>by have l:=λ{i o}=>@z.2.2.2 i o;rw[x] at l;have f:=G.vA z.1 z.2.1 z.2.2.1 (WH _) G.x;rw[m] at f;exact(GC B f j k K (Wx _) F v L).elim λN y=>⟨N,M (de (fU G.K rfl rfl rfl J du (cH rfl rfl (l (bG (lP (bF J u rfl) rfl (M (de (fU z.1 rfl rfl rfl J (aq J) y.1) rfl) (bG (.val rfl)))))))) rfl) ba,y.2⟩
end
def oI(E:C)(w:Nat->b')(p:Bool)(s:d1):Y1:=match s.i1 with
 |[]=>uc (gO p 0) (k1 (i4 E.aG 0 s.eN) (i3 E.aG))
 |r::_=>uc (gO p r) (kZ r E.aG (f3 E.aG r (eM E) s.eN w))
def pz(p:Bool)(s:d1):Nat:=match s.i1 with
 |[]=>gO p 0
 |r::_=>gO p r
def nF(E:C)(W:Nat->Nat->b')(s:d1):Nat->b':=match s.i1 with
 |[]=>λ_=>.dH
 |r::_=>eR W E.R r
def uD(l:Y1)(t:Nat):Int:=match a3 l t with
 |some i=>i
 |none=>0
def vG(E:C)(s:d1):Int:=match au (eV E.aG s.eN []) (b1 E)with
 |some n=>.ofNat n
 |none=>-1
def e5(E:C)(q:Nat):d1:=match a3 E.dS q with
 |some s=>s
 |none=>⟨0,[],0,[],[],[]⟩
def om(E:C)(r:Nat):Nat:=match a3 E.mY r with
 |some (.int (.ofNat n))=>n
 |_=>0
def Hv(E:C)(T:V)(w:Nat->Nat->b')(p:Bool):gI where
 T:=T
 aG:=E.aG
 N:=E.dS.length
 R:=E.R+2
 X:=λq t=>uD (oI E (w q) p (e5 E q)) t
 D:=λq=>pz p (e5 E q)
 G:=λq=>vG E (e5 E q)
 L:=om E
section
variable{E:C}{X:Nat->Nat->b'}{p:Bool}
def zf(g:List d1):∀{f:gb},(kD E X p g f).gX=U f.gX (g.map λs=>oI E (nF E X s) p s)/\(kD E X p g f).d6=U f.d6 (g.map (pz p))/\(kD E X p g f).gt=U f.gt (g.map λs=>eV E.aG s.eN []):=by
 induction g with
 |nil=>exactλ{f}=>⟨eG.symm,eG.symm,eG.symm⟩
 |cons s g S=>
  intro f;have z:=S (f:=ka E X p f s);have e:(ka E X p f s).gX=U f.gX [oI E (nF E X s) p s]/\(ka E X p f s).d6=U f.d6 [pz p s]/\(ka E X p f s).gt=U f.gt [eV E.aG s.eN []]:=match s with
   |⟨_,_,_,_,_,[]⟩=>⟨rfl,rfl,rfl⟩
   |⟨_,_,_,_,_,_::_⟩=>⟨rfl,rfl,rfl⟩
  rw[e.1,e.2.1,e.2.2,eJ,eJ,eJ] at z;exact z
def SV(I:q<E.dS.length):a3 E.dS q=some (e5 E q):=(m7 E.dS (by rw[c5];exact I)).elim λs e=>by unfold e5;rw[e]
def GN(s:d1):VN (oI E w p s)=E.aG:=by
 have e:∀{d l},VN (uc d l)=VN l:=λ{d l}=>by
  induction d with|zero=>rfl|succ d=>exact c9
 match s with
 |⟨_,_,_,_,_,[]⟩=>exact e.trans AX
 |⟨_,_,_,_,_,_::_⟩=>exact e.trans xa
def zr(a:q<E.dS.length):cZ (.ae ((E.dS.map f).map g)) (I q) h=some (g (f (e5 E q))):=by rw[XE];exact jq (by rw[c9,c5];exact a) ((kU _).trans (Wd (Option.map _) (SV a)))
def Uh(E:C)(G:V)(f:gb)(h:Z):gG (λm=>bM h (gm E G f) m=none) Bo:=by(repeat' apply And.intro)<;>first|rfl|trivial
def OS(E:C):gG (λr=>a3 E.tw r=some (I (b1 E))) (aB 1 (E.R+1)):=by induction E<;>(repeat' apply And.intro)<;>first|rfl|trivial
def Fh(E:C):gG (λr=>a3 E.mY r=some (I (om E r))/\a3 E.nR r=some (I 0)) (aB 0 (E.R+2)):=by induction E<;>(repeat' apply And.intro)<;>first|rfl|trivial
def Gb{l:List α}:∀{i:Nat},a3 l i=some v->i<VN l:=by
 induction l with
 |nil=>exactλe=>cB e
 |cons x l S=>
  intro i e;induction i with|zero=>exact Wx _|succ i=>exact Yl (S e)
def vH(e:a3 l r=some v):cZ (.ae l) (I r) h=some v:=jq (Gb e) e
def qp(E:C)(G:V)(X:Nat->Nat->b')(p:Bool):lq (Hv E (gm E G (fJ E X p)) (λq=>nF E X (e5 E q)) p) (b1 E) E.names E.c0 where
 cls:=λ_=>rfl
 F6:=λh m z=>(Yk.mp z).elim λx y=>by have e:=(Uh E G (fJ E X p) h).at y.1;rw[We y.2] at e;exact e
 names:=λ_=>rfl
 Bp:=λ_=>rfl
 row:=λh q t a b=>by
  have b:=b;refine a6 (a:=.ae (((E.dS.map λs=>oI E (nF E X s) p s)).map λr=>.ae (r.map .int))) ?_ (a6 (zr a) ?_)
  .show some (V.ae ((kD E X p E.dS mL).gX.map λr=>.ae (r.map .int)))=_;rw[(zf E.dS).1]
   rfl
  .refine(m7 (oI E (nF E X (e5 E q)) p (e5 E q)) (by rw[GN];exact b)).elim λi e=>?_
   show _=some (V.int (uD _ t));unfold uD;rw[e];exact jq (by rw[c9,GN];exact b) ((kU _).trans (Wd (Option.map _) e))
 d6:=λh q a=>by
  refine a6 (a:=.ae ((E.dS.map (pz p)).map I)) ?_ (zr a);show some (V.ae ((kD E X p E.dS mL).d6.map I))=_;rw[(zf (E:=E) (X:=X) (p:=p) E.dS (f:=mL)).2.1]
  rfl
 gt:=λh q a=>by
  refine⟨D (eV E.aG (e5 E q).eN []),a6 (a:=.ae ((E.dS.map λs=>eV E.aG s.eN []).map λg=>.ah .I (D g))) ?_ (zr a),Eq.trans (Wd (λo=>some (rK (V.int (-1)) o)) (lj (l:=eV E.aG (e5 E q).eN []) (a:=b1 E))) ?_⟩
  .show some (V.ae ((kD E X p E.dS mL).gt.map λg=>.ah .I (D g)))=_;rw[(zf E.dS).2.2]
   rfl
  .show _=some (V.int (vG E (e5 E q)))
   unfold vG;cases au (eV E.aG (e5 E q).eN []) (b1 E)<;>rfl
 c0:=λ_=>rfl
 left:=λh r c F=>a6 rfl (vH ((OS E).at (gE _ c (by rw[Wm 1];exact F))))
 mY:=λh r F=>a6 rfl (vH ((Fh E).lt F).1)
 nR:=λh r F=>a6 rfl (vH ((Fh E).lt F).2)
 uv:=by show 3<E.aG/\E.aG<60;induction E<;>exact⟨Wb rfl,Wb rfl⟩
 Aq:=by show E.aG<=VN E.names;induction E<;>exact Wb rfl
end
def Pw(E:C)(w:Nat->b')(p:Bool)(s:d1):Nat:=match(match Nat.beq (pz p s) 0 with|true=>false|false=>rD (uD (oI E w p s)) (aB 0 E.aG))with
 |true=>pz p s
 |false=>0
def pO(E:C)(n:Nat):Bool:=Nat.ble 4 n&&Nat.blt n (4+E.k)
noncomputable def jX(E:C):Bool:=Nat.blt E.k E.R
def sN(E:C)(n:Nat):Int:=match Nat.beq n 3 with
 |true=>1
 |false=>match jX E&&Nat.beq n (4+E.bC E.k)with
  |true=>2
  |false=>0
def sM(E:C)(p:Bool)(n:Nat):Int:=match Nat.beq n 0||pO E n with
 |true=>-(.ofNat (E.R+1))
 |false=>-(.ofNat (gO p (E.R+1)))
def vm(E:C)(n:Nat):Int:=match Nat.beq n 0 with
 |true=>1048576
 |false=>match pO E n with
  |true=>.ofNat (E.go (n-4))
  |false=>0
noncomputable def H6(r s:Int):b'->Int
 |.gW=>r
 |.iw=>0
 |_=>s
def n4(E:C)(p:Bool)(i:Nat)(w:Nat->b')(n:Nat):Int:=match Nat.beq n 0 with
 |true=>-(.ofNat (i+1))
 |false=>match pO E n with
  |true=>H6 (-(.ofNat (i+1))) (.ofNat (E.go (n-4))) (w n)
  |false=>-(.ofNat (gO p (i+1)))
def B0(E:C)(w:Nat->b'):Bool:=(aB 0 E.k).all λj=>kL (w (4+j))
def oq(E:C)(p:Bool)(w:Nat->b')(i:Nat):Nat:=match p&&B0 E w with
 |true=>i+1
 |false=>0
def C.mN(o:C)(j:Nat):Nat:=match j with
 |0=>2+(o.R-o.k)
 |_=>match Nat.blt j 4 with
  |true=>4
  |false=>j+o.k
def qV(E:C)(s:d1)(w:Nat->b')(p:Bool)(e:Nat->Int)(z:Nat):Bool:=((aB 0 E.aG).all λn=>dr (mv (uD (oI E w p s) n) (pz p s)) (e n))&&Nat.beq (Pw E w p s) z
def rO(s:d1)(r:Nat):Bool:=Zx (match s.i1 with
 |[]=>Nat.beq r 0
 |x::_=>Nat.beq x r&&Nat.blt 0 r)
def r'(g:Bool->Bool):Bool:=Zx (g true&&g false)
def QM:Nat->b':=hM .dH .dH .dH
def KG(E:C)(q:Nat):Bool:=rO (e5 E q) 0&&(dr (vG E (e5 E q)) (.ofNat (E.mN q))&&(Nat.blt q E.dS.length&&r' λb=>qV E (e5 E q) (λ_=>.dH) b (sN E) 0))
def KC(E:C)(q:Nat):Bool:=rO (e5 E q) 0&&(Nat.blt q E.dS.length&&r' λb=>qV E (e5 E q) (λ_=>.dH) b (vm E) 0)
def Ky(E:C):Bool:=rO (e5 E 1) (E.R+1)&&(Nat.blt 1 E.dS.length&&r' λb=>qV E (e5 E 1) QM b (sM E b) (gO b (E.R+1)))
def KD(E:C)(i:Nat):Bool:=rO (e5 E (E.fu i)) (i+1)&&(Nat.blt (E.fu i) E.dS.length&&r' λb=>ji λx=>ji λy=>ji λz=>qV E (e5 E (E.fu i)) (hM x y z) b (n4 E b i (hM x y z)) (oq E b (hM x y z) i))
def C.os(j:C):YZ:=0::U (match jX j with|true=>[2]|false=>[]) ((aB 0 j.k).map j.go)
def Kz(E:C):Bool:=E.os.all (KG E)&&(KC E (2+(E.R-E.k))&&(Ky E&&(aB 0 E.R).all (KD E)))
def u6(E:C):Kz E:=by induction E<;>kernel_rfl
abbrev o8(E:C)(T:V)(W:Nat->Nat->b')(p:Bool):gI:=Hv E T (λq=>nF E W (e5 E q)) p
abbrev ll(b:gI)(q l:Nat)(e:Nat->Int):Prop:=q<b.N/\gC b q=l/\∀n,n<b.aG->mv (b.X q n) (b.D q)=e n
section
variable{E:C}{T:V}{X:Nat->Nat->b'}{p:Bool}{q n r i B:Nat}
def uL(h:r' g)(b:Bool):g b:=match b with
 |true=>(a4 h).1
 |false=>(a4 h).2
def u7(I:Nat.blt q E.dS.length)(h:qV E (e5 E q) w p e z)(k:nF E X (e5 E q)=w):ll (o8 E T X p) q z e:=by subst k;exact⟨dY I,We (a4 h).2,λn a=>pN.mp (Wn.mp (a4 h).1 n (gE _ (Ww _) (by rw[Wj];exact a)))⟩
def Gy(h:rO s 0):nF E X s=λ_=>.dH:=match s,h with
 |⟨_,_,_,_,_,[]⟩,_=>rfl
 |⟨_,_,_,_,_,_::_⟩,h=>bb (a4 h).2
def Gz(h:rO s (r+1)):nF E X s=eR X E.R (r+1):=match s,h with
 |⟨_,_,_,_,_,[]⟩,h=>bb h
 |⟨_,_,_,_,_,x::_⟩,h=>Wd (eR X E.R) (We (a4 h).1)
variable(E T X p)
def vx(h:q∈E.os):ll (o8 E T X p) q 0 (sN E)/\(o8 E T X p).G q=.ofNat (E.mN q):=
 have c:=a4 (Wn.mp (a4 (u6 E)).1 q h);have d:=a4 c.2;have e:=a4 d.2
 ⟨u7 e.1 (uL e.2 p) (Gy c.1),pN.mp d.1⟩
def My:ll (o8 E T X p) (2+(E.R-E.k)) 0 (vm E):=
 have c:=a4 (a4 (a4 (u6 E)).2).1;have e:=a4 c.2
 u7 e.1 (uL e.2 p) (Gy c.1)
def Mx:ll (o8 E T X p) 1 (gO p (E.R+1)) (sM E p):=
 have c:=a4 (a4 (a4 (a4 (u6 E)).2).2).1;have e:=a4 c.2
 u7 e.1 (uL e.2 p) ((Gz c.1).trans (by unfold eR;rw[WA];rfl))
def Mz(A:i<E.R):ll (o8 E T X p) (E.fu i) (oq E p (eR X E.R (i+1)) i) (n4 E p i (eR X E.R (i+1))):=
 have c:=a4 (Wn.mp (a4 (a4 (a4 (u6 E)).2).2).2 i (gE _ (Ww _) (by rw[Wj];exact A)))
 have e:=a4 c.2
 u7 e.1 (H3 (P:=λw=>qV E (e5 E (E.fu i)) w p (n4 E p i w) (oq E p w i)) (uL e.2 p)) (Gz c.1)
variable{E T X p}
def H2(A:i<E.R)(P:B<E.k):eR X E.R (i+1) (4+B)=X i B:=by unfold eR;refine(ed λe=>Wv A (XC e))▸?_;exact(BF B (gE _ (Ww _) (by rw[Wj];exact P))).symm
end
set_option genCtorIdx true in
inductive Fr where
 |P
 |I(l:aV)(B:Nat)
def xB:Y0->Nat
 |none=>3
 |some j=>4+j
def g5(E:C)(o:Y0):V:=.ins 4 false [(9,fc E o),(10,fc E o),(7,.none),(11,fc E o)]
def eC(E:C)(o:Y0):V:=lU (g5 E o) (fc E o)
namespace Fr
def et(o:C):Fr->Nat
 |P=>o.k
 |I _ j=>j
def iS(J:C):Fr->aV->aV
 |P,o=>.p J.k o
 |I u j,o=>.f j u o
def ok(o:C):Fr->Prop
 |P=>o.k<o.R
 |I _ j=>j<o.k
def n:Fr->Nat
 |P=>2
 |I _ _=>3
end Fr
noncomputable def dZ(E:C):aV->V
 |.a=>fA (E.R+1) [eC E none]
 |.p i t=>fA (i+1) [eC E (some (E.bC i)),dZ E t]
 |.f i l r=>fA (i+1) [dZ E l,eC E (some i),dZ E r]
def oy(E:C):List Fr->Nat
 |[]=>0
 |.P::_=>2
 |.I _ j::_=>E.go j
noncomputable def ih(E:C):List Fr->YZ
 |[]=>[0]
 |.P::P=>U (ih E P) [2]
 |.I _ j::P=>U (U (ih E P) [E.mN (oy E P)]) [E.go j]
noncomputable def ik(E:C):List Fr->YU
 |[]=>[]
 |.P::P=>U (ik E P) [eC E (some (E.bC E.k))]
 |.I l j::P=>U (U (ik E P) [dZ E l]) [eC E (some j)]
noncomputable def fB(E:C)(W:Nat->Nat->b'):List Fr->aV->Y0->Ze (List Fr×aV)
 |[],t,_=>some ([],t)
 |f::P,t,none=>fB E W P (f.iS E t) none
 |f::P,t,some j=>match W (f.et E) j with
  |.gW=>fB E W P (f.iS E t) (some j)
  |.iw=>none
  |_=>some (f::P,t)
def p'(f:List Fr->Ze aV)(j:Nat):Ze (List Fr×aV)->Ze aV
 |some (P,t)=>f (.I t j::P)
 |none=>none
noncomputable def xk:Ze (List Fr×aV)->Ze aV
 |some (_,t)=>some t
 |none=>none
noncomputable def VS(E:C)(W:Nat->Nat->b'):YX->Ze aV->List Fr->Ze aV
 |[],none,_=>none
 |[],some t,P=>xk (fB E W P t none)
 |none::c,none,P=>VS E W c (some .a) P
 |some j::c,none,P=>match jX E&&Nat.beq j (E.bC E.k)with
  |true=>VS E W c none (.P::P)
  |false=>none
 |none::_,some _,_=>none
 |some j::c,some t,P=>match Nat.blt j E.k with
  |true=>p' (VS E W c none) j (fB E W P t (some j))
  |false=>none
section
variable{E:C}
def xp(P:List Fr):∃a,ih E P=U a [oy E P]/\a.length=(ik E P).length:=by
 induction P with
 |nil=>exact⟨[],rfl,rfl⟩
 |cons f P S=>exact S.elim λs z=>match f with
  |.P=>⟨ih E P,rfl,by show _=(U (ik E P) [_]).length;rw[z.1,dW,dW,z.2]⟩
  |.I t j=>⟨U (ih E P) [E.mN (oy E P)],rfl,by show _=(U (U (ik E P) [_]) [_]).length;rw[z.1,dW,dW,dW,dW,z.2]⟩
def wH(h:∀f∈P,f.ok E):oy E P∈E.os:=match P,h with
 |[],_=>.head _
 |.P::P,h=>by
  have e:jX E:=dE (h _ (.head _):E.k<E.R);show 2∈0::U (match jX E with|true=>[2]|false=>[]) _
  refine e▸cQ▸?_;exact .tail _ (Xa _ (.head _))
 |.I t j::P,h=>by show E.go j∈0::U _ ((aB 0 E.k).map E.go);refine cQ▸?_;exact .tail _ (WR _ (WN.mpr ⟨j,gE _ (Ww _) (by rw[Wj];exact h _ (.head _)),rfl⟩))
def vE{f:Fr}(h:f.ok E):f.et E<E.R:=match f,h with
 |.P,h=>h
 |.I _ _,h=>Wg h (jt E).2.1
def vD(E:C):gG (λB=>E.mN (E.go B)=E.fu B/\om E (B+1)=3) (aB 0 E.k)/\E.fu E.k=4/\om E (E.R+1)=1:=by induction E<;>(repeat' apply And.intro)<;>first|rfl|trivial
def MU(h:E.k<E.R):om E (E.k+1)=2:=by induction E<;>first|rfl|exact absurd h (Xk (Wb rfl))
def M0(h:f.ok E):E.mN (oy E (f::P))=E.fu (f.et E):=match f,h with
 |.P,_=>(vD E).2.1.symm
 |.I _ _,h=>((vD E).1.lt h).1
def Fd{f:Fr}(h:f.ok E):om E (f.et E+1)=f.n:=match f,h with
 |.P,h=>MU h
 |.I _ _,h=>((vD E).1.lt h).2
def R0(h:f.ok E):∃e a,U (ih E (f::P)) [E.fu (f.et E)]=U (ih E P) e/\U (ik E (f::P)) [dZ E t]=U (ik E P) a/\a.length=om E (f.et E+1)/\fA (f.et E+1) a=dZ E (f.iS E t):=match f,h with
 |.P,h=>⟨[2,E.fu E.k],[eC E (some (E.bC E.k)),dZ E t],eJ,eJ,(Fd h).symm,rfl⟩
 |.I l j,h=>⟨[E.mN (oy E P),E.go j,E.fu j],[dZ E l,eC E (some j),dZ E t],eJ.trans eJ,eJ.trans eJ,(Fd h).symm,rfl⟩
def Bs(E:C):gG (λB=>gA .S E.c0 [dG E B,.int 2]=some (I (4+B))) (aB 0 E.aD)/\gA .S E.c0 [pb,.int 2]=some (I 3)/\gA .S E.c0 [bX [36,101,110,100],.int 2]=some (I 0):=by induction E<;>(repeat' apply And.intro)<;>first|exact trivial|kernel_rfl
def Uy(E:C)(h:Z):gG (λB=>dx .cC (dG E B) (bX [36,101,110,100]) h=some true) (aB 0 E.aD):=by induction E<;>(repeat' apply And.intro)<;>first|exact trivial|kernel_rfl
def Ux(h:uy E H):nO E.c0 (g5 E H) (fc E H) (xB H)/\(∀h,dx .cC (fc E H) (bX [36,101,110,100]) h=some true)/\xB H<E.aG/\jr (g5 E H)=false/\jr (fc E H)=false:=match H,h with
 |none,_=>⟨⟨λ_=>rfl,(Bs E).2.1,by decide,λ_=>rfl⟩,λ_=>rfl,Wg (by decide) (WK (nD E).1),rfl,rfl⟩
 |some j,h=>⟨⟨λ_=>rfl,(Bs E).1.lt h,by show 4+j≠1;lia,λ_=>rfl⟩,λN=>(Uy E N).lt h,Xr h 4,rfl,rfl⟩
def L6(E:C):nO E.c0 vi (bX [36,101,110,100]) 0:=⟨λ_=>rfl,(Bs E).2.2,by decide,λ_=>rfl⟩
def eL(E:C):YU:=bX [36,97,99,99,101,112,116]::j6 [bX [69]] (E.R+1)
def Pq(E:C):gG (λr=>a3 (eL E) r=some (bX [69])) (aB 1 (E.R+1)):=by induction E<;>(repeat' apply And.intro)<;>first|rfl|trivial
def Fp(F:r<=E.R):∀h,cZ (.ae (eL E)) (I (r+1)) h=some (bX [69]):=λ_=>vH ((Pq E).at (gE _ (WC (Ww _)) (by rw[Wm 1];exact Yl (Xq F))))
end
abbrev B8:E:=nG (cm zc 1)
def yd(E:C)(r:Ze aV)(d:ke):Prop:=match r with
 |some t=>d.gw=uJ/\d.val=dZ E t
 |none=>d.gw=yn/\d.val=.none
def fg(E:C)(T:V)(r:Ze aV)(h:Z):Prop:=∃S g,jJ B8 gx ⟨eh,h⟩ .next ⟨eh,S⟩/\ml S T (gd (eL E)) g/\yd E r g
structure ki(d:C)(s:YU)(bc:V)(a:Nat)(c b:V)(n A:Nat):Prop where
 T:nO d.c0 c b n
 n:n<d.aG
 r:jr c=false/\jr b=false
 x:(bc=c/\a=A)\/(bc=.none/\((a3 s a=some c/\A=a+1/\∀h,dx .cC b (bX [36,101,110,100]) h=some true)\/(c=vi/\VN s<=a/\A=a)))
abbrev dw(E:C)(G:V)(W:Nat->Nat->b')(p:Bool):gI:=o8 E (gm E G (fJ E W p)) W p
section
variable{E:C}{G:V}{X:Nat->Nat->b'}{p:Bool}{h P:Z}{s:YU}{w a A n q:Nat}{T I:YZ}{S:YU}{R c Q:V}
def CR(K:ml h b H d)(e:dx .eq d.gw rB h=some B):ao B8 ⟨eh,h⟩ (.bool B) h:=bF (a9 J (iW K.i rfl)) u e
def vh(D:fh b (eL E) s w I S R a h d)(e:b.T=f)(x:bE gx ⟨eh,h⟩ .next ⟨eh,P⟩)(z:fg E f r P):fg E f r h:=
 z.elim λc z=>z.elim λg z=>⟨c,g,uC (CR D.K.z (by rw[D.x.1.1];rfl)) rfl x z.1,z.2⟩
def C1(D:fh b (eL E) s w I S R a h d)(e:b.T=f)(x:bE gx ⟨eh,h⟩ .next ⟨eh,P⟩)(Z:ml P f (gd (eL E)) g)(o:yd E r g):fg E f r h:=
 vh D e x ⟨P,g,qx (CR Z (by
  induction r with|none=>refine o.1▸?_;rfl|some t=>refine o.1▸?_;rfl)) rfl,Z,o⟩
def vz(D:fh (dw E G X p) (eL E) s (w+1) (U T [q]) S R a h d)(I:q<(dw E G X p).N)(x:gC (dw E G X p) q=0)(L:ki E s R a c Q n A):
  ∃b g,(∀{i f},bE (gx.drop 1) ⟨eh,b⟩ i f->bE gx ⟨eh,h⟩ i f)/\fh (dw E G X p) (eL E) s w (U T [q]) S c A b g:=by
 refine L.x.elim (λz=>?_) λz=>?_
 .have D:=D
  rw[z.1,z.2] at D;exact⟨h,d,DA D (L.T.is h)⟩
 .have D:=D
  rw[z.1] at D;refine MD (qp E G X p) D I x λ{h d} K e=>z.2.elim (λy=>?_) λy=>?_
  .have k:=QA K (e▸y.1) (e▸Gb y.1) L.T.k y.2.2
   rw[e] at k;exact y.2.1▸k
  .refine y.1▸y.2.2▸?_
   subst e;exact⟨h,Qz K y.2.1,K⟩
def r1(D:gH (dw E G X p) (eL E) s (w+3) (U T [q]) S R a h)(F:ll (dw E G X p) q 0 e)(L:ki E s R a c Q n A)(b:e n=0):fg E (dw E G X p).T none h:=
 D.elim λd D=>(vz D F.1 F.2.1 L).elim λP z=>z.elim λl z=>(UP (qp E G X p) z.2 F.1 F.2.1 L.T L.n ((F.2.2 n L.n).trans b)).elim λN y=>y.elim λf y=>C1 D rfl (z.1 y.1) y.2.1 y.2.2
def UN(D:gH (dw E G X p) (eL E) s (w+3) (U T [q]) (U H [dZ E t]) R a h)(F:ll (dw E G X p) q 0 e)(L:ki E s R a c Q n A)(b:e n=1048576):fg E (dw E G X p).T (some t) h:=
 D.elim λd D=>(vz D F.1 F.2.1 L).elim λP z=>z.elim λl z=>(UO (qp E G X p) z.2 F.1 F.2.1 L.T L.n ((F.2.2 n L.n).trans b)).elim λN y=>y.elim λf y=>C1 D rfl (z.1 y.1) y.2.1 y.2.2
def Bv(D:gH (dw E G X p) (eL E) s (w+3) (U T [q]) S R a h)(F:ll (dw E G X p) q 0 e)(L:ki E s R a c Q n A)(f:e n=.ofNat (g+1))(i:g<1000)
  (k:∀b,gH (dw E G X p) (eL E) s w (U (U T [q]) [g+1]) (U S [lU c Q]) .none A b->fg E (dw E G X p).T r b):fg E (dw E G X p).T r h:=
 D.elim λd D=>(vz D F.1 F.2.1 L).elim λP z=>z.elim λl z=>(US (qp E G X p) z.2 F.1 F.2.1 L.T L.n L.r.1 L.r.2 ((F.2.2 n L.n).trans f) (ed (Wv (Wf i (Wb rfl))))).elim λN y=>vh D rfl (z.1 y.1) (k N y.2)
def HF(D:gH (dw E G X p) (eL E) s (w+3) (U T [q]) (U H args) R a h)(F:ll (dw E G X p) q l e)(L:ki E s R a c Q n A)
  (V:l=i+1\/(l=0/\e n=-(.ofNat (i+1))))(v:U T [q]=U (U B [b]) fZ)(K:B.length=H.length)(M:args.length=om E (i+1))(O:b<(dw E G X p).N)(u:i<=E.R)(I:(dw E G X p).G b=.ofNat g)
  (k:∀t x f,gH (dw E G X p) (eL E) s w (U (U B [b]) [g]) (U H [fA (i+1) args]) x f t->ki E s x f c Q n A->fg E (dw E G X p).T r t):fg E (dw E G X p).T r h:=by
 have J:=Yl (Xq u);refine D.elim λd D=>V.elim (λj=>?_) λj=>?_
 .subst j
  have m:∃P o,(∀{C S},bE (gx.drop 1) ⟨eh,P⟩ C S->bE gx ⟨eh,h⟩ C S)/\fh (dw E G X p) (eL E) s (w+2) (U T [q]) (U H args) R a P o:=L.x.elim (λz=>⟨h,d,DA D (by exact z.1▸L.T.is h)⟩) λz=>by have D:=D;rw[z.1] at D;exact z.1▸ME (qp E G X p) D F.1 (by exact F.2.1▸X1 i)
  exact m.elim λP m=>m.elim λo m=>(UQ (qp E G X p) m.2 F.1 F.2.1 v K M O J I (Fp u)).elim λN y=>vh D rfl (m.1 y.1) (k N R a y.2 L)
 .have F:=F
  rw[j.1] at F;exact(vz D F.1 F.2.1 L).elim λP z=>z.elim λo z=>(UR (qp E G X p) z.2 F.1 F.2.1 L.T L.n ((F.2.2 n L.n).trans j.2) v K M O J I (Fp u)).elim λN y=>vh D rfl (z.1 y.1) (k N c A y.2 ⟨L.T,L.n,L.r,.inl ⟨rfl,rfl⟩⟩)
end
set_option genCtorIdx true in
inductive xZ where
 |h7
 |nu(B:Nat)
 |hc
def w5(E:C)(W:Nat->Nat->b')(F:List Fr->Ze aV):xZ->List Fr->aV->Ze aV
 |.h7,P,t=>xk (fB E W P t none)
 |.nu j,P,t=>p' F j (fB E W P t (some j))
 |.hc,_,_=>none
def xY(E:C)(c a:V)(n:Nat):xZ->Prop
 |.h7=>n=0
 |.nu j=>n=4+j/\j<E.k/\lU c a=eC E (some j)
 |.hc=>Nat.beq n 0=false/\pO E n=false
def tk(h:B<a.k):pO a (4+B)/\Nat.beq (4+B) 0=false:=by
 refine⟨?_,ed (WZ (Wg (Wx 3) (Wq 4 B)))⟩;unfold pO;rw[Xe (Wq 4 B),dE (Xr h 4)]
 rfl
def ET(h:kL w):w=.gW:=by induction w<;>first|rfl|exact bb h
def Ho:4+B-4=B:=XA 4 B
abbrev tb(E:C)(j:Nat):Nat:=3+2*(E.R-E.k)+j
def zu:a.go B=tb a B+1:=by unfold C.go tb;lia
def Nh(h:B<a.k):tb a B<1000:=have z:=jt a;Wf (Xb (Wt (WT 2 (Wh (W' _ _) z.2.2.1)) 3) (WK (Wg h z.2.2.2))) (by decide:3+2*4+3<1000)
def Mp(h:B<a.k):n4 a b i w (4+B)=H6 (-(.ofNat (i+1))) (.ofNat (tb a B+1)) (w (4+B)):=by unfold n4;exact((tk h).1)▸((tk h).2)▸Ho▸zu▸rfl
def Dh(h:Nat.beq n 0=false/\pO a n=false):n4 a b i w n=-(.ofNat (gO b (i+1))):=by unfold n4;rw[h.1,h.2]
def Pu:(oq a b w i=i+1/\∀B,B<a.k->kL (w (4+B))=true)\/oq a b w i=0:=by
 unfold oq;cases e:b&&B0 a w with
 |true=>exact .inl ⟨rfl,λB P=>Wn.mp (a4 e).2 B (gE _ (Ww _) (by rw[Wj];exact P))⟩
 |false=>exact .inr rfl
def gH.le{j:YZ}{bc:V}{u:Nat}{C:Z}(D:gH c' ln f' a' j h' bc u C)(M:w'<=a'):gH c' ln f' w' j h' bc u C:=
 have o:∀{J},J+a'<700->J+w'<700:=λU=>Wf (Wt M _) U
 D.imp λ_ D=>⟨D.K,D.L,o D.l,o D.m,o D.s,o D.v,D.x⟩
abbrev iP(E:C)(P:List Fr):Prop:=∀f∈P,Fr.ok E f
def iP.cons{j:Fr}{o:List Fr}(J:j.ok a')(k:iP a' o):iP a' (j::o):=λC M=>(Wz.mp M).elim (λu=>u▸J) (k C)
abbrev xT(E:C)(G:V)(W:Nat->Nat->b')(p:Bool)(s:YU)(A e:Nat)(F:List Fr->Ze aV)(K:xZ):Prop:=
 ∀j,K=.nu j->∀a S,iP E a->gH (dw E G W p) (eL E) s (e+3*a.length) (ih E a) (ik E a) .none A S->fg E (dw E G W p).T (F a) S
def G7{bc:V}{a j q:Nat}{i:Nat->Int}(k:j<b.k)(T:lU c g=eC b (some j))(l:xT b G d short s A e f (.nu j))(ok:iP b P)(I:q=b.mN (oy b P))
  (D:gH (dw b G d short) (eL b) s (e+3*P.length+6) (U (ih b P) [q]) (U (ik b P) [dZ b t]) bc a h)(X:ll (dw b G d short) q 0 i)(L:ki b s bc a c g n A)(E:i n=.ofNat (tb b j+1)):fg b (dw b G d short).T (f (.I t j::P)) h:=
 Bv D X L E (Nh k) λS x=>l j rfl (.I t j::P) S (iP.cons k ok) (by rw[<-zu,T,I] at x;exact x)
def Tp(k:xY b c q n i)(v:xT b G d short p A e l i)(P:List Fr):
  ∀{t:aV}{h:Z}{bc:V}{a:Nat},iP b P->gH (dw b G d short) (eL b) p (e+3*P.length+6) (U (ih b P) [b.mN (oy b P)]) (U (ik b P) [dZ b t]) bc a h->ki b p bc a c q n A->fg b (dw b G d short).T (w5 b d l i P t) h:=by
 induction P with
 |nil=>
  intro t h bc a ok D L;have X:=My b (gm b G (fJ b d short)) d short;induction i with
  |h7=>have k:=k;subst k;exact UN D X L rfl
  |hc=>exact r1 D X L (by unfold vm;rw[k.1,k.2])
  |nu j=>exact G7 k.2.1 k.2.2 v ok rfl D X L (by exact k.1▸(by unfold vm;rw[(tk k.2.1).1,(tk k.2.1).2,Ho,zu]))
 |cons f P S=>
  intro t h bc a ok D L;have u:=ok f (.head _);have E:iP b P:=λg m=>ok g (.tail _ m);have y:=M0 (P:=P) u;rw[y] at D;have X:=Mz b (gm b G (fJ b d short)) d short (vE u);have o:(oq b short (eR d b.R (f.et b+1)) (f.et b)=f.et b+1\/(oq b short (eR d b.R (f.et b+1)) (f.et b)=0/\n4 b short (f.et b) (eR d b.R (f.et b+1)) n=-(.ofNat (f.et b+1))))->fg b (dw b G d short).T (w5 b d l i P (f.iS b t)) h:=λJ=>(R0 u).elim λW z=>z.elim λM z=>(xp P).elim λY s=>by rw[z.2.1] at D;have O:=vx b (gm b G (fJ b d short)) d short (wH E);exact HF D X L J (by rw[z.1,s.1]) s.2 z.2.2.1 O.1.1 (WK (vE u)) O.2 λQ T R x H=>S E (by rw[z.2.2.2,<-s.1] at x;exact x) H
  refine(Pu (a:=b) (b:=short) (w:=eR d b.R (f.et b+1)) (i:=f.et b)).elim (λC=>?_) λB=>?_
  .have r:=o (.inl C.1)
   induction i with
   |h7=>exact r
   |hc=>exact r
   |nu j=>
    have w:=C.2 j k.2.1;rw[H2 (vE u) k.2.1] at w;show fg _ _ (p' l j (match d (f.et b) j with|.gW=>fB b d P (f.iS b t) (some j)|.iw=>none|_=>some (f::P,t))) _
    rw[ET w];exact r
  .have o:=λz=>o (.inr ⟨B,z⟩)
   rw[B] at X;induction i with
   |h7=>have k:=k;subst k;exact o rfl
   |hc=>
    rw[Dh k] at o;induction short with
    |true=>exact o rfl
    |false=>exact r1 D X L (Dh k)
   |nu j=>
    have I:=Mp (i:=f.et b) (b:=short) (w:=eR d b.R (f.et b+1)) k.2.1;rw[<-k.1,k.1,H2 (vE u) k.2.1,<-k.1] at I;show fg _ _ (p' l j (match d (f.et b) j with|.gW=>fB b d P (f.iS b t) (some j)|.iw=>none|_=>some (f::P,t))) _
    have F:=G7 k.2.1 k.2.2 v ok y.symm D X L;generalize K:d (f.et b) j=N;induction N<;>rw[K] at I
    .exact o I
    .exact F I
    .exact r1 D X L I
    .exact F I
def Gd{a c:List α}:a3 (U a (x::c)) a.length=some x:=by
 induction a with|nil=>rfl|cons y a S=>exact S
def Fo(R:dp a (U pre (H::c))):ki a ((U pre (H::c)).map (g5 a)) .none pre.length (g5 a H) (fc a H) (xB H) (pre.length+1):=
 have z:=Ux (R H (by rw[cQ];exact WR _ (.head _)))
 ⟨z.1,z.2.2.1,z.2.2.2,.inr ⟨rfl,.inl ⟨(kU _).trans (Wd (Option.map _) Gd),rfl,z.2.1⟩⟩⟩
def Fn:ki a ((U pre []).map (g5 a)) .none pre.length vi (bX [36,101,110,100]) 0 pre.length:=
 ⟨L6 a,WJ (Wx 4) (nD a).1,⟨rfl,rfl⟩,.inr ⟨rfl,.inr ⟨rfl,by rw[c5,WG,eG];exact Wr _,rfl⟩⟩⟩
abbrev qB(E:C)(G:V)(W:Nat->Nat->b')(p:Bool)(I:YX)(m:Nat)(j:YZ)(D:YU)(a:Nat)(h:Z):Prop:=gH (dw E G W p) (eL E) (I.map (g5 E)) m j D .none a h
def A'(k:xY b c l n f)(p:xT b G d short (i.map (g5 b)) A e g f)(ok:iP b P)(D:qB b G d short i (e+3*P.length+9) (U (ih b P) [1]) (U (ik b P) [eC b none]) a h)(L:ki b (i.map (g5 b)) .none a c l n A):fg b (dw b G d short).T (w5 b d g f P .a) h:=by
 have X:=Mx b (gm b G (fJ b d short)) d short;have O:=vx b (gm b G (fJ b d short)) d short (wH ok);have m:(gO short (b.R+1)=b.R+1\/(gO short (b.R+1)=0/\sM b short n=-(.ofNat (b.R+1))))->fg b (dw b G d short).T (w5 b d g f P .a) h:=λE=>(xp P).elim λq s=>HF D X L E (by rw[s.1]) s.2 (vD b).2.2.symm O.1.1 (Wr _) O.2 λN T R o x=>Tp k p P ok (by rw[<-s.1] at o;exact o) x
 induction short with
 |true=>exact m (.inl rfl)
 |false=>
  induction f with|h7=>exact m (.inr ⟨rfl,by rw[show n=0 from k];rfl⟩)|nu j=>exact m (.inr ⟨rfl,by unfold sM;rw[k.1,(tk k.2.1).1,Bool.or_true]⟩)|hc=>exact r1 D X L (by unfold sM;rw[k.1,k.2];rfl)
abbrev yh(E:C)(G:V)(W:Nat->Nat->b')(p:Bool)(c:YX):Prop:=∀l P h,dp E (U l c)->iP E P->qB E G W p (U l c) (9*c.length+3*P.length+3) (ih E P) (ik E P) l.length h->fg E (dw E G W p).T (VS E W c none P) h
abbrev BQ(E:C)(G:V)(W:Nat->Nat->b')(p:Bool)(c:YX):Prop:=∀l P h,dp E (U l c)->iP E P->qB E G W p (U l c) (9*c.length+3*P.length+9) (U (ih E P) [1]) (U (ik E P) [eC E none]) l.length h->fg E (dw E G W p).T (VS E W c (some .a) P) h
def my:U a (x::b)=U (U a [x]) b:=(eJ (b:=[x])).symm
def Mq:sN a (4+B)=match jX a&&Nat.beq B (a.bC a.k)with|true=>2|false=>0:=by unfold sN;rw[show Nat.beq (4+B) 3=false from ed (by lia),uW]<;>rfl
def Tn(P:List Fr)(ok:iP a P)(g:BQ a G d short c)(k:yh a G d short c)(l:YX)(h:Z)(R:dp a (U l (H::c)))(D:qB a G d short (U l (H::c)) (9*c.length+9+3*P.length+3) (ih a P) (ik a P) l.length h):fg a (dw a G d short).T (VS a d (H::c) none P) h:=by
 refine(xp (E:=a) P).elim λf s=>?_;have O:=(vx a (gm a G (fJ a d short)) d short (wH ok)).1;have L:=Fo R;rw[s.1] at D;have D:=gH.le (w':=9*c.length+3*P.length+9+3) D (by lia)
 induction H with
 |none=>refine Bv D O L rfl (Wx _) λS x=>?_;rw[<-s.1,my,<-dW] at x;rw[my] at R;exact g (U l [none]) P S R ok x
 |some j=>
  have I:=Mq (a:=a) (B:=j);show fg _ _ (match jX a&&Nat.beq j (a.bC a.k)with|true=>VS a d c none (.P::P)|false=>none) h
  cases dN:jX a&&Nat.beq j (a.bC a.k)with
  |false=>rw[dN] at I;exact r1 D O L I
  |true=>rw[dN] at I;have b:=a4 dN;have e:=We b.2;subst e;refine Bv D O L I (Wb rfl) λS x=>?_;rw[<-s.1,my,<-dW] at x;rw[my] at R;exact k (U l [some (a.bC a.k)]) (.P::P) S R (iP.cons (dY b.1) ok) (x.le (by show 9*c.length+3*(P.length+1)+3<=_;lia))
def To(P:List Fr)(ok:iP a P)(m:yh a G b short c)(l:YX)(h:Z)(R:dp a (U l (H::c)))(D:qB a G b short (U l (H::c)) (9*c.length+9+3*P.length+9) (U (ih a P) [1]) (U (ik a P) [eC a none]) l.length h):fg a (dw a G b short).T (VS a b (H::c) (some .a) P) h:=by
 have L:=Fo R;have D:=gH.le (w':=9*c.length+3+3*P.length+9) D (by lia)
 have g:xY a (g5 a H) (fc a H) (xB H) .hc->fg a (dw a G b short).T none h:=λO=>A' (g:=λ_=>none) O (λ_ e=>nomatch e) ok D L;induction H with
 |none=>exact g ⟨rfl,rfl⟩
 |some j=>
  show fg _ _ (match Nat.blt j a.k with|true=>p' (VS a b c none) j (fB a b P .a (some j))|false=>none) h
  generalize d:Nat.blt j a.k=N;induction N with
  |true=>refine A' (f:=.nu j) ⟨rfl,dY d,rfl⟩ (λi K k t n f=>?_) ok D L;rw[my,<-dW] at f;rw[my] at R;exact m (U l [some j]) k t R n (f.le (by lia))
  |false=>exact g ⟨ed (by show 4+j≠0;lia),by show(Nat.ble 4 (4+j)&&Nat.blt (4+j) (4+a.k))=false;rw[show Nat.blt (4+j) (4+a.k)=false from lB (Wt (X4 λz=>by rw[dE z] at d;nomatch d) 4),W2]⟩
def Tj(c:YX):yh a G b short c/\BQ a G b short c:=by
 induction c with
 |nil=>
  refine⟨λl P h R ok D=>(xp (E:=a) P).elim λd s=>?_,λl P h R ok D=>?_⟩
  .rw[s.1] at D
   exact r1 (w:=3*P.length) (D.le (by rw[XG];lia)) (vx a (gm a G (fJ a b short)) b short (wH ok)).1 Fn (by unfold sN;rw[show Nat.beq 0 (4+a.bC a.k)=false from ed (by lia),W2])
  .exact A' (f:=.h7) (g:=λ_=>none) (e:=0) (Eq.refl 0) (λ_ e=>nomatch e) ok (D.le (by rw[XG];lia)) Fn
 |cons o c S=>exact⟨λl P h R ok D=>Tn P ok S.2 S.1 l h R D,λl P h R ok D=>To P ok S.1 l h R D⟩
def oa(T:V)(Q:YU):Z:=(((eF 40).c .ef 16 [T,gd Q] Z.bj).getD default).2
def ob(T:V)(Q s:YU):Z:=(((eF 40).c .ef 15 [.ae s] (oa T Q)).getD default).2
def h9(T:V)(Q s:YU):Z:=(((eF 40).c .inl 64 [.ref 0] (ob T Q s)).getD default).2
def CS:ke:=⟨7,8,[],[],0,[0],[],.none,0,rB,.none⟩
def NC:aY .inl 64 [.ref 0] (ob T Q s) .none (h9 T Q s):=fo 40 λ_=>by kernel_rfl
def Nz:∃P,(oa T Q).get 0=some (.ins 16 P)/\au P 87=none/\au P 112=none:=⟨[(74,T),(80,gd Q),(81,I 5000),(82,.ref 1),(59,.ref 2),(72,.ref 3),(84,.none),(85,I 0),(86,rB),(77,.none),(78,.ref 4),(47,.ref 5)],by kernel_rfl,rfl,rfl⟩
def NA:∃P,(ob T Q s).get 0=some (.ins 16 P)/\au P 83=none:=⟨[(74,T),(80,gd Q),(81,I 5000),(82,.ref 1),(59,.ref 2),(72,.ref 3),(84,.none),(85,I 0),(86,rB),(77,.none),(78,.ref 4),(47,.ref 5)],by kernel_rfl,rfl⟩
def zw:(h9 T Q s).n=11:=by kernel_rfl
def NB:bW (h9 T Q s) T (gd Q) s CS where
 i:=by kernel_rfl
 l:=by kernel_rfl
 t:=by kernel_rfl
 f:=⟨[],by kernel_rfl,Wb rfl⟩
 m:=by kernel_rfl
 s:=by kernel_rfl
 v:=by kernel_rfl
 n:=by rw[zw];exact Wr _
 k6:=by rw[zw];exact Wb rfl
 la:=by rw[zw];exact Wb rfl
 mf:=by decide
 b6:=⟨by decide,by decide,by decide,by decide,by decide⟩
 c2:=⟨by decide,by decide,by decide,by decide,by decide⟩
def Rl(K:ml h T H d)(e:dx .eq d.gw uJ h=some B):∃g,aY .inl 65 [.ref 0] h g h/\bM h g 77=some d.val:=
 K.f.elim λP f=>K.m.elim λy m=>
  have mk:∀a b c x,∃k,aY .ef 14 [a,b,c,x] h (.ins 14 k [(76,a),(77,b),(78,c),(47,x)]) h:=λa b c x=>⟨_,yL rfl rfl rfl rfl rfl rfl (j3 J rfl (j3 J rfl (j3 J rfl (j3 J rfl AN))))⟩
  (mk (.bool B) d.val (.ae P) (.ae y)).elim λk mk=>⟨_,cH rfl rfl (bG (cb (iA (aI (bF (a9 J (iW K.i rfl)) u e) (aI (a9 J (iW K.i rfl)) (aI (d3 (aq (a9 J (iW K.i rfl))) (a6 rfl (a6 (lW f) rfl))) (aq (d3 (aq (a9 J (iW K.i rfl))) (a6 rfl (a6 (lW m) rfl))))))) mk))),rfl⟩
def l8(E:C):Ze aV->V
 |some t=>dZ E t
 |none=>.none
def Qq:aY .inl 52 [gm a G f] h (.ae (eL a)) h:=fo 30 λn=>by induction a<;>kernel_rfl
def U9:ct 12 h (l8 a r)=some (l8 a r):=match r with
 |none=>rfl
 |some .a=>rfl
 |some (.p _ _)=>rfl
 |some (.f _ _ _)=>rfl
def Rm(o:yd a r d):d.val=l8 a r/\∃B,dx .eq d.gw uJ h=some B:=match r,o with
 |none,o=>⟨o.2,false,by rw[o.1];rfl⟩
 |some _,o=>⟨o.2,true,by rw[o.1];rfl⟩
def Rv(R:dp a b)(t:b.length<=8)(j:cg 60 (gm a G (fJ a c short)))(k:cg 60 (l8 a (VS a c b none []))):
  aY .pure 85 [gm a G (fJ a c short),.ae (b.map (g5 a))] h (l8 a (VS a c b none [])) h:=by
 have D:qB a G c short (U [] b) (9*b.length+3*0+3) (ih a []) (ik a []) 0 (h9 (gm a G (fJ a c short)) (eL a) (b.map (g5 a))):=
  have l:∀{x},x<=1->x+(9*b.length+3*0+3)<700:=λz=>Wf (Xb z (Wy (WT 9 t) 3)) (Wb rfl)
  ⟨CS,NB,λq v e=>(nomatch e),l (Ww _),l (Ww _),l (Wr _),l (Ww _),⟨rfl,rfl⟩,rfl,rfl,rfl⟩
 refine((Tj b).1 [] [] _ R (λ_ m=>nomatch m) D).elim λf z=>z.elim λA z=>?_;have i:=Rm (h:=f) z.2.2;refine i.2.elim λB s=>(Rl z.2.1 s).elim λo y=>?_;refine(Nz (T:=gm a G (fJ a c short)) (Q:=eL a)).elim λC d=>(NA (T:=gm a G (fJ a c short)) (Q:=eL a) (s:=b.map (g5 a))).elim λkC p=>?_;have w:aY .inl 67 [.ref 0,.ref 6] (ob (gm a G (fJ a c short)) (eL a) (b.map (g5 a))) o f:=cH rfl rfl (M (de (fH J (ku p.1) (kE p.1 p.2) rfl rfl rfl du NC) rfl) (M (oJ z.1) (bG (cb (fH J (ku z.2.1.i) (kE z.2.1.i rfl) rfl rfl rfl du y.1)))));have r:aY .inl 66 [.ref 0,.ae (b.map (g5 a))] (oa (gm a G (fJ a c short)) (eL a)) o f:=cH rfl rfl (bG (cb (fH J (ku d.1) (kE d.1 d.2.1) rfl rfl rfl (aq (iA (aq J) (fo 40 λ_=>by kernel_rfl))) w)))
 have u:aY .ef 11 [.ae (eL a)] Z.bj (gd (eL a)) Z.bj:=fo 9 λn=>by kernel_rfl
 have g:=y.2;rw[i.1] at g;exact kr (P:=f) (cf j (cf (hh (jL λo=>by induction o<;>rfl)) rfl)) rfl rfl rfl (bG (cb (a9 (fH (iA (aI J (aq (iA (aq (c7 (aq J) Qq)) u))) (fo 40 λ_=>by kernel_rfl)) (ku d.1) (kE d.1 d.2.2) rfl rfl rfl (aq J) r) g))) U9 k
noncomputable def fe(E:C):aV->YX->YX
 |.a,r=>none::r
 |.p i t,r=>some (E.bC i)::fe E t r
 |.f i l u,r=>fe E l (some i::fe E u r)
noncomputable def rV:aV->List Fr->List Fr
 |.a,P=>P
 |.p _ t,P=>rV t (.P::P)
 |.f i l r,P=>rV r (.I l i::P)
noncomputable def lb(E:C):List Fr->YX->YX
 |[],r=>r
 |.P::P,r=>lb E P (some (E.bC E.k)::r)
 |.I l j::P,r=>lb E P (fe E l (some j::r))
def dn(E:C)(W:Nat->Nat->b')(t:aV):List Fr->Bool
 |[]=>true
 |f::_=>m8 W (f.et E) t
noncomputable def kf(E:C)(W:Nat->Nat->b'):List Fr->Prop
 |[]=>True
 |.P::P=>E.k<E.R/\kf E W P
 |.I l j::P=>(j<E.k/\l.cq E/\eE W l/\ig W j l/\dn E W (.f j l .a) P=true)/\kf E W P
def jM(x:a=true)(y:b=true):(a&&b):=by rw[x,y];rfl
def GD(h:kL (b (f.et a) B)):fB a b (f::P) t (some B)=fB a b P (f.iS a t) (some B):=by
 refine(?_:(match b (f.et a) B with|.gW=>fB a b P (f.iS a t) (some B)|.iw=>none|_=>some (f::P,t))=_)
 exact(ET h)▸rfl
def R4(t:aV):∀{P:List Fr},t.cq b->ig a B t->fB b a (rV t P) .a (some B)=fB b a P t (some B):=by
 induction t with|a=>exactλ_ _=>rfl|p i t S=>exactλ{P} w o=>(S w.2.2 (a4 o).2).trans ((GD (w.1▸(a4 o).1:kL (a b.k B)=true)).trans (by refine w.1▸?_;rfl))|f i l r _ S=>exactλ{P} w o=>(S w.2.2 (a4 o).2).trans (GD (a4 o).1)
def R1(t:aV):∀{P:List Fr},t.cq a->fB a b (rV t P) .a none=fB a b P t none:=by
 induction t with|a=>exactλ_=>rfl|p i t S=>exactλ{P} w=>(S w.2.2).trans (by refine w.1▸?_;rfl)|f i l r _ S=>exactλ{P} w=>S w.2.2
def R5(h:dn a b (.f B t L) P):fB a b P t (some B)=some (P,t):=match P,h with
 |[],_=>rfl
 |f::P,h=>by
  have h:=(a4 h).1;show(match b (f.et a) B with|.gW=>fB a b P (f.iS a t) (some B)|.iw=>none|_=>some (f::P,t))=_
  generalize e:b (f.et a) B=N;induction N<;>first|rfl|(rw[e] at h;exact bb h)
def Ln(h:dn b a (.f B l r) P):dn b a l P:=match P,h with
 |[],_=>rfl
 |_::_,h=>(a4 h).2
def SK(t:aV):∀{P:List Fr}{y:YX},t.cq a->eE b t->dn a b t P->VS a b (fe a t y) none P=VS a b y (some .a) (rV t P):=by
 induction t with
 |a=>exactλ_ _ _=>rfl
 |p i t S=>
  intro P y w s c;have s:=a4 s;rw[w.1] at s;rw[w.1];show(match jX a&&Nat.beq (a.bC a.k) (a.bC a.k)with|true=>VS a b (fe a t y) none (.P::P)|false=>none)=_
  rw[show jX a=true from dE w.2.1,WA];exact S w.2.2 s.2 s.1
 |f i l r m Q=>
  intro P y w s c;have s:=a4 s;have K:=a4 s.2;have I:=a4 K.2;refine(m w.2.1 K.1 (Ln c)).trans ?_;show(match Nat.blt i a.k with|true=>p' (λd=>VS a b (fe a r y) none d) i (fB a b (rV l P) .a (some i))|false=>none)=_
  rw[dE w.1,R4 l w.2.1 s.1,R5 c];exact Q w.2.2 I.2 I.1
def SG(w:t.cq a)(s:eE b t):VS a b (fe a t []) none []=some t:=(SK t w s rfl).trans (Wd xk (R1 t w))
def Ci(g:kf a b (f::P))(w:t.cq a)(s:eE b t)(c:dn a b t (f::P)):
  kf a b P/\(f.iS a t).cq a/\eE b (f.iS a t)/\dn a b (f.iS a t) P/\∀r,lb a P (fe a (f.iS a t) r)=lb a (f::P) (fe a t r):=match f,g with
 |.P,g=>⟨g.2,⟨rfl,g.1,w⟩,jM c s,by induction P<;>rfl,λ_=>rfl⟩
 |.I l j,g=>⟨g.2,⟨g.1.1,g.1.2.1,w⟩,jM g.1.2.2.2.1 (jM g.1.2.2.1 (jM c s)),match P,g.1.2.2.2.2 with
  |[],_=>rfl
  |_::_,z=>z,λ_=>rfl⟩
abbrev yf(E:C)(W:Nat->Nat->b')(u:aV)(r:YX):Prop:=u.cq E/\eE W u/\fe E u []=r
def R2(P:List Fr):∀{t:aV},kf a b P->t.cq a->eE b t->dn a b t P->xk (fB a b P t none)=some L->yf a b L (lb a P (fe a t [])):=by
 induction P with|nil=>exactλ{t} _ w s _ e=>Wc e▸⟨w,s,rfl⟩|cons f P S=>exactλ{t} g w s c e=>have z:=Ci g w s c;z.2.2.2.2 []▸S z.1 z.2.1 z.2.2.1 z.2.2.2.1 e
def R3(P:List Fr):∀{t:aV},kf a b P->t.cq a->eE b t->dn a b t P->ig b B t->fB a b P t (some B)=some (d,L)->kf a b d/\(L.cq a/\eE b L/\ig b B L/\dn a b (.f B L .a) d=true)/\∀r,lb a d (fe a L r)=lb a P (fe a t r):=by
 have S:∀{P:List Fr}{t:aV},kf a b P->t.cq a->eE b t->ig b B t->dn a b (.f B t .a) P->some (P,t)=some (d,L)->kf a b d/\(L.cq a/\eE b L/\ig b B L/\dn a b (.f B L .a) d=true)/\∀r,lb a d (fe a L r)=lb a P (fe a t r):=λ{P t} g w s o c e=>by
  cases e
  exact⟨g,⟨w,s,o,c⟩,λ_=>rfl⟩
 induction P with
 |nil=>exactλ{t} g w s c o e=>S g w s o rfl e
 |cons f P h=>
  intro t g w s c o e
  replace e:(match b (f.et a) B with|.gW=>fB a b P (f.iS a t) (some B)|.iw=>none|_=>some (f::P,t))=some (d,L):=e
  generalize k:b (f.et a) B=N;induction N with
  |gW=>
   rw[k] at e;have z:=Ci g w s c;have Q:kL (b (f.et a) B):=by refine k▸?_;rfl
   have y:=h z.1 z.2.1 z.2.2.1 z.2.2.2.1 (match f,Q with
    |.P,Q=>jM Q o
    |.I l i,Q=>jM Q o) e
   exact⟨y.1,y.2.1,λr=>(y.2.2 r).trans (z.2.2.2.2 r)⟩
  |iw=>rw[k] at e;exact cB e
  |nx=>rw[k] at e;exact S g w s o (jM (by refine k▸?_;rfl) c) e
  |dH=>rw[k] at e;exact S g w s o (jM (by refine k▸?_;rfl) c) e
def H8:aV.cq a .a:=trivial
def Sy(c:YX):(∀P,kf a b P->VS a b c none P=some L->yf a b L (lb a P c))/\∀P,kf a b P->VS a b c (some .a) P=some L->yf a b L (lb a P (none::c)):=by
 have i:∀P,dn a b .a P:=λP=>by induction P<;>rfl
 induction c with
 |nil=>exact⟨λP _ e=>(cB e),λP g e=>R2 P g H8 rfl (i P) e⟩
 |cons o c S=>exact match o with
  |none=>⟨λP g e=>S.2 P g e,λP g e=>cB e⟩
  |some j=>by
   refine⟨λP g e=>?_,λP g e=>?_⟩
   .replace e:(match jX a&&Nat.beq j (a.bC a.k)with|true=>VS a b c none (.P::P)|false=>none)=some L:=e
    cases dN:jX a&&Nat.beq j (a.bC a.k)with
    |false=>rw[dN] at e;exact cB e
    |true=>rw[dN] at e;exact(We (a4 dN).2)▸S.1 (.P::P) ⟨dY (a4 dN).1,g⟩ e
   .replace e:(match Nat.blt j a.k with|true=>p' (VS a b c none) j (fB a b P .a (some j))|false=>none)=some L:=e
    cases hj:Nat.blt j a.k with
    |false=>rw[hj] at e;exact cB e
    |true=>
     rw[hj] at e;cases hr:fB a b P .a (some j)with
     |none=>rw[hr] at e;exact cB e
     |some p=>rw[hr] at e;have z:=R3 P g H8 rfl (i P) rfl hr;have y:=S.1 (.I p.2 j::p.1) ⟨⟨dY hj,z.2.1⟩,z.1⟩ e;exact⟨y.1,y.2.1,y.2.2.trans (z.2.2 (some j::c))⟩
noncomputable def cx:aV->Nat
 |.a=>1
 |.p _ t=>cx t+1
 |.f _ l r=>cx l+1+cx r
noncomputable def At(E:C)(I:YX)(a:Nat):aV->Prop
 |.a=>a3 I a=some none
 |.p i t=>a3 I a=some (some (E.bC i))/\At E I (a+1) t
 |.f i l r=>At E I a l/\a3 I (a+cx l)=some (some i)/\At E I (a+cx l+1) r
def yZ{I:YX}:∀{a:Nat},a3 I a=some x->I.drop a=x::I.drop (a+1):=by
 induction I with
 |nil=>exactλe=>cB e
 |cons w I S=>
  intro a e;induction a with|zero=>exact Wd (·::_) (Wc e)|succ a=>exact S e
def Aw{I:YX}:∀{a:Nat},x::r=I.drop a->a3 I a=some x/\r=I.drop (a+1):=by
 induction I with
 |nil=>intro a e;induction a<;>nomatch e
 |cons w I S=>
  intro a e;induction a with|zero=>exact⟨Wd some (W5 e).1.symm,(W5 e).2⟩|succ a=>exact S e
def JG(t:aV):∀{a:Nat},At b c a t->fe b t (c.drop (a+cx t))=c.drop a:=by
 induction t with
 |a=>exactλh=>(yZ h).symm
 |p i t S=>intro a h;have z:=S h.2;rw[Wl,Wm 1] at z;exact(Wd (some (b.bC i)::·) z).trans (yZ h.1).symm
 |f i l r m Q=>
  intro a h;have z:=Q h.2.2;rw[show a+cx l+1+cx r=a+cx (.f i l r) from by show _=a+(cx l+1+cx r);lia] at z
  refine(?_:fe b l (some i::fe b r _)=_);rw[z,<-yZ h.2.1];exact m h.1
def VI(t:aV):∀{a:Nat}{r:YX},fe c t r=b.drop a->At c b a t/\r=b.drop (a+cx t):=by
 induction t with|a=>exactλe=>Aw e|p i t S=>exactλ{a r} e=>have z:=Aw e;have y:=S z.2;⟨⟨z.1,y.1⟩,by rw[y.2,Wl,Wm 1];rfl⟩|f i l u m Q=>exactλ{a r} e=>have z:=m e;have y:=Aw z.2;have x:=Q y.2;⟨⟨z.1,y.1,x.1⟩,by rw[x.2];exact Wd b.drop (by show a+cx l+1+cx u=a+(cx l+1+cx u);lia)⟩
def xC:g4 b a n i=true↔a3 a n=some (some (b.bC i)):=by
 unfold g4;exact match a3 a n with
 |none=>⟨λh=>(nomatch h),λh=>(nomatch h)⟩
 |some none=>⟨λh=>(nomatch h),λh=>(nomatch h)⟩
 |some (some j)=>⟨λh=>by rw[We h],λh=>by cases h;exact WA _⟩
def HA:gn a n=true↔a3 a n=some none:=by
 unfold gn;exact match a3 a n with
 |none=>⟨λh=>(nomatch h),λh=>(nomatch h)⟩
 |some none=>⟨λ_=>rfl,λ_=>rfl⟩
 |some (some j)=>⟨λh=>(nomatch h),λh=>(nomatch h)⟩
def mj(t:aV):0<cx t:=match t with
 |.a=>Nat.one_pos
 |.p _ _=>Wx _
 |.f _ _ _=>Wg (Wx _) (Wq _ _)
def yj(m:Nat):∀{a:Nat}{t:aV},t∈cc b c a m->cx t=m/\At b c a t:=by
 induction m using Nat.strongRecOn with
 |ind m S=>
  intro a t V;induction m with
  |zero=>exact es V
  |succ m=>
   rw[o7] at V;refine FO V (λe h N=>e▸⟨h.symm,HA.mp N⟩) (λu e Q N P H=>?_) λi l r s e A P N f g F=>?_
   .have z:=S m (Wu m) H
    exact e▸⟨Wd (·+1) z.1,xC.mp N,z.2⟩
   .have z:=S s (WE N) g
    have y:=S (m+1-s-1) (Wf (W' _ _) (XT (Wx m) P)) F;have d:=xC.mp f;rw[vN A,<-z.1] at d;have n:=y.2;rw[<-z.1] at n;exact e▸⟨by show cx l+1+cx r=_;rw[z.1,y.1,YD];exact Xn (WK N),z.2,d,n⟩
def A6(h:b=true)(m:x∈l):x∈gY b l:=by rw[h];exact m
def yk(m:Nat)(e:cx r=m)(h:r∈j8 b c (cc b c) a m):r∈cc b c a m:=by
 induction m with|zero=>exact absurd e (WZ (mj r))|succ m=>rw[o7];exact h
def TX{a b:Nat}:a+1+b-a-1=b:=by rw[YD,XA]
def PJ{a b:Nat}(h:0<b):a<1+(a+1+b-2):=by
 induction b with|zero=>exact absurd h (Xu 0)|succ b=>rw[Wm 1];exact Xq (show a<=a+1+b-1 from (WY a 1 b).symm▸Wq a b)
def PZ(t:aV):∀{a:Nat},t.cq b->At b c a t->t∈cc b c a (cx t):=by
 induction t with|a=>exactλ_ h=>yk 1 rfl (Xa _ (A6 (jM rfl (HA.mpr h)) (.head _)))|p i u S=>intro a w h;have N:=h.1;rw[w.1] at N⊢;refine yk (cx u+1) rfl (WR _ (Xg.mpr ⟨b.k,gE _ (Ww _) (by rw[Wj];exact w.2.1),Xa _ (A6 (jM (WA _) (jM (xC.mpr N) (dE (Yl (mj u))))) (WN.mpr ⟨u,S w.2.2 h.2,rfl⟩))⟩))|f i l r m Q=>intro a w h;have K:=mj r;have e:cx l+1+cx r-cx l-1=cx r:=TX;refine yk (cx l+1+cx r) rfl (WR _ (Xg.mpr ⟨i,gE _ (Ww _) (by rw[Wj];exact w7 w.1),WR _ (Xg.mpr ⟨cx l,gE _ (mj l) (PJ K),A6 (jM (by rw[ed (Wv w.1)];rfl) (xC.mpr (by rw[vN w.1];exact h.2.1))) (Xg.mpr ⟨l,m w.2.1 h.1,WN.mpr ⟨r,by rw[e];exact Q w.2.2 h.2.2,rfl⟩⟩)⟩)⟩))
def Ak{α β:Type}{l:List α}{f:α->List β}(P:∀a∈l,(f a).Nodup)(N:l.Pairwise λa b=>∀x∈f a,∀y∈f b,x≠y):(l.flatMap f).Nodup:=List.pairwise_flatMap.mpr ⟨P,N⟩
def Al{l:List α}{f:α->List β}(k:β->α)(R:∀a x,x∈f a->k x=a)(n:l.Nodup):l.Pairwise λa b=>∀x∈f a,∀y∈f b,x≠y:=n.imp λ{a b} n x B y L e=>n ((R a x B).symm.trans ((Wd k e).trans (R b y L)))
def Am(h:l.Nodup):(gY b l).Nodup:=match b with
 |true=>h
 |false=>.nil
def FY{l:List α}(h:l.Nodup)(R:∀x y,f x=f y->x=y):(l.map f).Nodup:=List.pairwise_map.mpr (h.imp λ{x y} n e=>n (R _ _ e))
def FZ(n:Nat):∀{i:Nat},(aB i n).Nodup:=by
 induction n with|zero=>exact .nil|succ n S=>exactλ{i}=>Xc.mpr ⟨λm=>absurd (g6 _ m).1 (Yu i),S⟩
noncomputable def te:aV->Nat
 |.a=>0
 |.p i _=>i+1
 |.f i _ _=>i+1
noncomputable def wh:aV->aV
 |.f _ l _=>l
 |_=>.a
noncomputable def GR:aV->aV
 |.f _ _ r=>r
 |.p _ t=>t
 |_=>.a
noncomputable def zP:aV->Bool
 |.p _ _=>true
 |_=>false
def GK(h:x∈nf b c T a m i):te x=i+1/\zP x:=(WN.mp (rA h).2).elim λu z=>z.2▸⟨rfl,rfl⟩
def AW(h:x∈hR b c T a m i s):te x=i+1/\zP x=false/\wh x∈T a s:=(Xg.mp (rA h).2).elim λl z=>(WN.mp z.2).elim λr y=>y.2▸⟨rfl,rfl,z.1⟩
def GJ(h:x∈hv b c T a m i):te x=i+1:=(WU.mp h).elim (λh=>(GK h).1) λh=>(Xg.mp h).elim λs z=>(AW z.2).1
def Sr(R:∀b n,n<m+1->(T b n).Nodup)(f:∀s t,t∈T a s->cx t=s):(j8 c d T a (m+1)).Nodup:=by
 refine YL.mpr ⟨Am (List.pairwise_singleton _ _),Ak (λi _=>?_) (Al (λx=>te x-1) (λ_ _ B=>Wd (·-1) (GJ B)) (FZ _)),λx B y L e=>?_⟩
 .refine YL.mpr ⟨Am (FY (R _ _ (Wu m)) λx y e=>Wd GR e),Ak (λs g=>?_) (Al (λx=>cx (wh x)) (λ_ _ B=>f _ _ (AW B).2.2) (FZ _)),λx B y L e=>(Xg.mp L).elim λs z=>Bool.noConfusion ((GK B).2.symm.trans ((Wd zP e).trans (AW z.2).2.1))⟩
  have ny:=xn g;exact Am (Ak (λl _=>FY (R _ _ (Wf (W' _ _) (XT (Wx m) ny.1))) λx y e=>Wd GR e) (Al wh (λ_ _ B=>(WN.mp B).elim λr z=>Wd wh z.2.symm) (R a s (WE ny.2))))
 .rw[Ws.mp (rA B).2] at e
  exact(Xg.mp L).elim λi z=>Nat.noConfusion ((Wd te e).trans (GJ z.2))
def I7(m:Nat):∀{a:Nat},(cc c d a m).Nodup:=by
 induction m using Nat.strongRecOn with
 |ind m S=>
  intro a;induction m with|zero=>exact .nil|succ m=>rw[o7];exact Sr (λb n X=>S n X) λs t h=>(yj s h).1
def VJ(t:aV):∀{r:YX},(fe a t r).length=cx t+r.length:=by
 induction t with|a=>exactλ{r}=>Wm _ _|p i t S=>exactλ{r}=>(Wd (·+1) S).trans (WY ..)|f i l u m b=>exactλ{r}=>by rw[show fe a (.f i l u) r=fe a l (some i::fe a u r) from rfl,m,WL,b];show _=cx l+1+cx u+r.length;lia
def A0(h:VS b c a none []=some t):t∈i7 b a/\eE c t:=by
 have z:=(Sy a).1 [] trivial h;have y:fe b t []=a:=z.2.2;have m:=PZ t z.1 (VI (a:=0) t y).1;have e:cx t=a.length:=by rw[<-y,VJ];rfl
 rw[e] at m;exact⟨m,z.2.1⟩
def P0(h:t∈i7 b c)(s:eE a t):VS b a c none []=some t:=by have z:=yj _ h;have y:=JG t z.2;rw[Wj,z.1,List.drop_length] at y;have r:=SG (uI _ h).2 s;rw[y] at r;exact r
noncomputable def rJ{α:Type}:Ze α->List α
 |some t=>[t]
 |none=>[]
def Rb(D:l.Nodup)(a:∀t∈l,H=some t)(d:∀t,H=some t->t∈l):l=rJ H:=by
 induction l with
 |nil=>induction H with
  |none=>rfl
  |some t=>nomatch d t rfl
 |cons t l=>
  rw[a t (.head _)];induction l with|nil=>rfl|cons u l=>exact absurd (Wc ((a t (.head _)).symm.trans (a u (.tail _ (.head _))))) ((XD.mp D).1 _ (.head _))
def Sd:(i7 c a).filter (eE b)=rJ (VS c b a none []):=
 Rb ((I7 a.length).sublist List.filter_sublist) (λ_ h=>P0 (Yw.mp h).1 (Yw.mp h).2) λ_ h=>Yw.mpr (A0 h)
def va(h:4<=f):cg f (eC a H):=match f,h with
 |0,h=>nomatch h
 |1,h=>absurd h (by decide)
 |2,h=>absurd h (by decide)
 |3,h=>absurd h (by decide)
 |_+4,_=>by induction H<;>rfl
def yS(h:dQ (cg (g+1)) X):cg (g+3) (fA r X):=yQ (iQ rfl (iQ rfl (iQ (hh h) rfl)))
def BA(h:n+3<=f):∃g,f=g+3/\n<=g:=⟨f-3,(XW (Wh (Xi 3 n) h)).symm,Nat.le_sub_of_add_le h⟩
def yT(t:aV):∀{f:Nat},3*t.dM+3<=f->cg f (dZ a t):=by
 induction t with
 |a=>exactλ{f} h=>(BA h).elim λg z=>z.1▸yS (cf (va (WC z.2)) rfl)
 |p i t S=>exactλ{f} h=>(BA h).elim λg z=>z.1▸yS (cf (va (WC (Wh (Xi 3 _) z.2))) (cf (S (W8 z.2)) rfl))
 |f i l r m Q=>exactλ{f} h=>(BA h).elim λg z=>
  have D:∀{d},d<=max l.dM r.dM->3*d+3<=g+1:=λy=>W8 (Wh (Wy (WT 3 y) 3) z.2)
  (z.1▸yS (cf (m (D (X8 _ _))) (cf (va (WC (Wh (Xi 3 _) z.2))) (cf (Q (D (X5 _ _))) rfl))))
def KN(h:b.length<=8):cg 60 (l8 a (VS a c b none [])):=by
 generalize F:VS a c b none []=N;induction N with|none=>rfl|some t=>exact yT t (Wh (Wy (WT 3 (Wh (uI _ (A0 F).1).1 h)) 3) (Wb rfl))
abbrev QZ:List S:=cA (cm zb 2)
abbrev Gg:E:=nG (cm zb 2)
def oF(o s:YU):Z:=Zx ⟨.node (some (.ae o 0)) (.node (some (.ae s 0)) .nil .nil) .nil,2⟩
abbrev tV(v:V):YS:=Zx [(69,v),(12,.ref 0),(70,.ref 1)]
noncomputable def ng(E:C):aV->YU->YU
 |.a,o=>U (U o [dZ E .a]) [eC E none]
 |.p i t,o=>U (ng E t (U o [dZ E (.p i t)])) [eC E (some (E.bC i))]
 |.f i l r,o=>ng E l (U (ng E r (U o [dZ E (.f i l r)])) [eC E (some i)])
noncomputable def kX(E:C):aV->YU->YU
 |.a,r=>eC E none::dZ E .a::r
 |.p i t,r=>eC E (some (E.bC i))::kX E t (dZ E (.p i t)::r)
 |.f i l u,r=>kX E l (eC E (some i)::kX E u (dZ E (.f i l u)::r))
def qg(l:List α):∀{a:List α},gj (U l [x]) a=x::gj l a:=by
 induction l with|nil=>exact rfl|cons y l S=>exact S
def RB(t:aV):∀{H:YU},gj (ng a t H) []=kX a t (gj H []):=by
 induction t with|a=>exactλ{H}=>(qg _).trans (Wd (_::·) (qg _))|p i t S=>exactλ{H}=>(qg _).trans (Wd (_::·) (S.trans (Wd (kX a t) (qg _))))|f i l r m Q=>exactλ{H}=>m.trans (Wd (kX a l) ((qg _).trans (Wd (_::·) (Q.trans (Wd (kX a r) (qg _))))))
def AY(t:aV):∀{H:YU},(ng a t H).length=H.length+2*cx t:=by
 induction t with|a=>exactλ{H}=>by show(U (U H _) _).length=_;rw[dW,dW];rfl|p i t S=>exactλ{H}=>by show(U (ng a t _) _).length=H.length+2*(cx t+1);rw[dW,S,dW];lia|f i l r m Q=>exactλ{H}=>by show(ng a l _).length=H.length+2*(cx l+1+cx r);rw[m,dW,Q,dW];lia
def Sb(O:YU):gj (gj O []) []=O:=by
 have r:∀(l a:YU),gj l a=l.reverse++a:=λl=>by
  induction l with|nil=>exactλ_=>rfl|cons y l S=>exactλa=>(S (y::a)).trans (by rw[Xy,Xf];rfl)
 rw[r,r,WQ,WQ,List.reverse_reverse]
def RE:iF gv (.ref 1) 2 [] (oF H (U a [x]))=some (x,oF H a):=by
 have e:w0 (U a [x]) []=some (x,a):=by unfold w0;rw[qg];refine(?_:some (x,gj (gj a []) [])=_);rw[Sb]
 exact a6 e (by kernel_rfl)
def RM(X:YU):∀{s:YU},s.length+X.length<900->cS [71] [.expr (.aC (.F 70) 0 [.F 71])] X ⟨U (tV L) [(65,v)],oF H s⟩ .next ⟨U (tV L) [(65,v)],oF H (U s X)⟩:=by
 induction X with
 |nil=>exactλ{s} _=>by rw[eG];exact dq
 |cons c X S=>
  intro s f;have k:=S (s:=U s [c]) (by rw[dW,Wl,Wm 1];exact f)
  rw[eJ] at k;exact cW rfl (M (de (fW (J rfl) rfl (aq J) rfl (hq rfl (dV (by rw[c5];exact Wf (Wq _ _) (WJ f (Wb rfl)))))) rfl) ba) rfl k
def jE(l:YU):Prop:=∀x∈l,∀h,ct 11 h x=some x
def pI(x:jE a)(y:jE b):jE (U a b):=λz m=>(WU.mp (cQ▸m)).elim (x z) (y z)
def vF(h:jE l):jE (dZ a t::l):=λx m=>(Wz.mp m).elim (λe=>e▸λh=>by induction t<;>rfl) (h x)
def zh(h:jE l):jE (eC a c::l):=λx m=>(Wz.mp m).elim (λe=>e▸λh=>by induction c<;>rfl) (h x)
def mM:jE []:=λ_ m=>es m
def PW{l:YU}(h:∀x∈l,g x=some x):fY g l=some l:=by
 induction l with|nil=>rfl|cons x l S=>exact a6 (h x (.head _)) (a6 (S λy m=>h y (.tail _ m)) rfl)
def Gh(A:jE s):ao Gg ⟨tV L,oF H s⟩ (.bool (Nat.blt 0 (VN s))) (oF H s):=
 bF (J rfl) (fq du) (a6 (a6 (PW λx m=>A x m _) rfl) (by induction s<;>rfl))
abbrev o6(u:V)(w o s:YU):Prop:=jJ Gg QZ ⟨tV u,oF o s⟩ .next ⟨tV u,oF w []⟩
def w2(A:jE (U s [v]))(a:∀h,bM h v 63=some (.ae X))(P:H.length<900)(N:s.length+X.length<900)(k:o6 L w (U H [v]) (U s X)):o6 L w H (U s [v]):=by
 have c:=Gh (L:=L) (H:=H) A;rw[show Nat.blt 0 (VN (U s [v]))=true from by induction s<;>rfl] at c
 exact uC c rfl (M (cI (fW J rfl du rfl RE)) (M (de (fW (J rfl) rfl (aq J) rfl (hq rfl (dV (by rw[c5];exact WJ P (Wb rfl))))) rfl) (M (da (c8 (a9 J (a _)) rfl) rfl (RM X N) rfl) ba))) k
def AM(A:jE s)(P:H.length<900)(N:s.length<900)(k:o6 L w (U H [eC a c]) s):o6 L w H (U s [eC a c]):=
 w2 (pI A (zh mM)) (λ_=>rfl) P N (by rw[eG];exact k)
def ot{a n m:Nat}(h:a+n<m):a<m:=Wf (Wq _ _) h
def RP(t:aV):∀{H s:YU},jE s->H.length+2*cx t<900->s.length+2*cx t<900->o6 L w (ng a t H) s->o6 L w H (U s [dZ a t]):=by
 induction t with
 |a=>exactλ{H s} A P N k=>w2 (X:=[eC a none]) (pI A (vF mM)) (λ_=>rfl) (ot P) (WE N) (AM A (by rw[dW];exact WE P) (ot N) k)
 |p i t S=>
  intro H s A P N k;have p:=mj t;have P:H.length+2*(cx t+1)<900:=P;have N:s.length+2*(cx t+1)<900:=N;refine w2 (pI A (vF mM)) (λ_=>rfl) (ot P) (by show s.length+2<900;lia) ?_
  rw[my (a:=s)];exact S (pI A (zh mM)) (by rw[dW];lia) (by rw[dW];lia) (AM A (by rw[AY,dW];lia) (ot N) k)
 |f i l r m Q=>
  intro H s A P N k;have p:=mj l;have q:=mj r;have P:H.length+2*(cx l+1+cx r)<900:=P;have N:s.length+2*(cx l+1+cx r)<900:=N;refine w2 (X:=[dZ a l,eC a (some i),dZ a r]) (pI A (vF mM)) (λ_=>rfl) (ot P) (by show s.length+3<900;lia) ?_
  rw[my (a:=s),my (a:=U s _)];have b:=pI A (vF (a:=a) (t:=l) mM);exact Q (pI b (zh mM)) (by rw[dW];lia) (by rw[dW,dW];lia) (AM b (by rw[AY,dW];lia) (by rw[dW];lia) (m A (by rw[dW,AY,dW];lia) (by lia) k))
def KJ(t:aV):∀{r:YU},t.dM<=8->dQ (cg 59) r->dQ (cg 59) (kX a t r):=by
 have eu:∀{t:aV},t.dM<=8->cg 59 (dZ a t):=λz=>yT _ (Wh (Wy (WT 3 z) 3) (Wb rfl));have b:∀{c},cg 59 (eC a c):=va (Wb rfl);induction t with|a=>exactλT F=>cf b (cf (eu T) F)|p i t S=>exactλT F=>cf b (S (WX T) (cf (eu T) F))|f i l r m Q=>exactλT F=>m (Wh (X8 _ _) (WX T)) (cf b (Q (Wh (X5 _ _) (WX T)) (cf (eu T) F)))
def RI(T:t.dM<=8)(L:cx t<=8):aY .pure 47 [dZ a t] h (.ae (kX a t [])) h:=by have lT:0+2*cx t<900:=Wf (Wt (WT 2 L) 0) (Wb rfl);have k:o6 (dZ a t) (ng a t []) [] [dZ a t]:=RP t mM lT lT (qx (Gh mM) rfl);exact kr (cf (yT t (Wh (Wy (WT 3 T) 3) (Wb rfl))) rfl) rfl rfl rfl (M (cI (h5 du)) (M (cI (h5 (aq J))) (M (oJ k) (bG (cb (LX J rfl)))))) (by rw[RB];rfl) (hh (KJ t T rfl))
section
variable{E:C}{X T v x:V}{F:Z}{R:List (Ze O)}{D A Q P:YU}{c:Y0}
abbrev Hw(X:V)(p:Nat):YS:=Zx [(6,X),(64,.ref p)]
abbrev Lo:List S:=cA (cm Ds 1)
abbrev uw(F:Z)(R:List (Ze O))(D:YU):Z:=W F (U R [some (.ae D 0)])
abbrev o9(F:Z)(X T:V)(P D:YU):Prop:=∀R,∃a,cS [65] Lo P ⟨Hw X (F.n+R.length),uw F R D⟩ .next ⟨Hw X (F.n+a.length),uw F a [T]⟩
def S5(l:List α):dT (U l [y]) l.length z=U l [z]:=by
 induction l with|nil=>rfl|cons u l S=>exact Wd (u::·) S
def tO:a3 (U R [z]) R.length=some z:=Gd
def Bw(L:D.length<900)(k:o9 F X T P (U D [.ay [fc E c,fc E c]])):o9 F X T (eC E c::P) D:=λR=>by
 have d:∀h,aY .inl 4 [g5 E c] h (.ay [fc E c,fc E c]) h:=λh=>cH rfl rfl (bG (cb (d7 (aI (a9 J rfl) (aq (a9 J rfl))))));have b:∀h,aY .inl 45 [eC E c] h (.bool true) h:=λh=>cH rfl rfl (bG (cb u));have a:=v9 (A:=[(6,X),(64,.ref (F.n+R.length)),(65,eC E c)]) (m:=4096) R.length rfl (J (a:=64) rfl) tO (fH (m:=4104) (a9 (a:=67) (J (a:=65) (b:=eC E c) rfl) rfl) rfl rfl rfl rfl rfl du (d _)) (dV (by rw[c5];exact WJ L (Wb rfl)))
 rw[S5] at a;exact(k R).imp λ_ f=>cW rfl (M (c1 (fH J rfl rfl rfl rfl rfl du (b _)) rfl (M (de a rfl) ba)) ba) rfl f
def Jk(a:j1 b)(l:1+VN b<900):mB .add false (.ay [x]) (.ay b) h=some (.ay (x::b),h):=a6 (a6 rfl (fL rfl (fL a (fL (jn (show VN b+1<90000 by rw[Wm];exact WJ l (Wb rfl))) rfl)))) rfl
def ND:(W F L).new H=W F (U L [some H]):=rl L (B:=[some H])
def Bx(c:j1 A)(oa:Q.length=A.length)(L:D.length+A.length<800)(k:o9 F X T P (U D [.ay (bX [69]::A)])):o9 F X T (fA r Q::P) (U D A):=λR=>by
 have b:∀h,aY .inl 37 [fA r Q] h (.bool false) h:=λh=>cH rfl rfl (bG (cb u));have g:d4 (.ref (F.n+R.length)) (uw F R (U D A))=some (U D A):=lW (cw _ tO);have i:D.length+1<900:=by lia
 have G:1+A.length<900:=by lia
 have O:=zm (A:=[(6,X),(64,.ref (F.n+R.length)),(65,fA r Q),(68,I D.length)]) (a:=.F 64) (b:=.F 68) J J g;have a:=zo (A:=[(6,X),(64,.ref (F.n+R.length)),(65,fA r Q),(68,I D.length)]) (a:=.F 64) (b:=.F 68) J J g;rw[Bn] at O;rw[C5] at a;have d:cF (.bY (.F 68) (.a7 .sub false (.bq false .len [(.F 64)]) (.bq false .len [(.aS (.F 65) 63)]))) ⟨[(6,X),(64,.ref (F.n+R.length)),(65,fA r Q)],uw F R (U D A)⟩ .next ⟨[(6,X),(64,.ref (F.n+R.length)),(65,fA r Q),(68,I D.length)],uw F R (U D A)⟩:=
  dk (A:=[(6,X),(64,.ref (F.n+R.length)),(65,fA r Q)]) (b:=I D.length) (cV (d:=I D.length) (x:=I (D.length+A.length)) (y:=I A.length) (d3 (aq J) (a6 rfl (a6 (px (cw _ tO)) (by show some (V.int (Int.ofNat (VN (U D A))),_)=_;rw[iD,c5,c5])))) (d3 (aq (a9 (b:=.ae Q) J rfl)) (by rw[<-oa,<-c5];rfl)) ((md (Xi _ _)).trans (by rw[Ya])))
 have K:=cI (a:=64) (s6 (c:=.add) (B:=true) O (fq (aq (cV (c:=.add) (B:=false) (d7 (aq (a9 (a:=23) (b:=bX [69]) (J (a:=65) (b:=fA r Q) rfl) rfl))) (d3 (a:=.tuple) (B:=false) (b:=.ay A) (aq a) rfl) (Jk c (by rw[c5];exact G))))) ((fL (jn (by rw[iD];exact WJ (by rw[c5];exact i) (Wb rfl))) rfl)))
 rw[ND,D8] at K;exact(k (U R [some (.ae (U D A) 0)])).imp λ_ f=>cW rfl (M (xd (fH J rfl rfl rfl rfl rfl du (b _)) rfl (M d (M K ba))) ba) rfl f
def UU(t:aV):∀{P D:YU},t.cq E->D.length+cx t<790->o9 F X T P (U D [fC E t])->o9 F X T (kX E t P) D:=by
 induction t with
 |a=>exactλ{P D} _ L k=>Bw (WJ (ot L) (Wb rfl)) (Bx rfl rfl (WJ L (Wb rfl)) k)
 |p i t S=>
  intro P D w L k;have p:=mj t;have L:D.length+(cx t+1)<790:=L;refine Bw (by lia) (S w.2.2 (by rw[dW];lia) ?_)
  rw[eJ];exact Bx rfl rfl (by show D.length+2<800;lia) k
 |f i l r m Q=>
  intro P D w L k;have p:=mj l;have q:=mj r;have L:D.length+(cx l+1+cx r)<790:=L;refine m w.2.1 (by lia) (Bw (by rw[dW];lia) (Q w.2.2 (by rw[dW,dW];lia) ?_))
  rw[eJ,eJ];refine Bx (A:=[fC E l,.ay [fc E (some i),fc E (some i)],fC E r]) rfl rfl (by show D.length+3<800;lia) ?_
  have e:V.ay (bX [69]::[fC E l,.ay [fc E (some i),fc E (some i)],fC E r])=fC E (.f i l r):=by
   refine(?_:_=V.ay [bX [69],fC E l,.ay [dG E (E.bC i),dG E (E.bC i)],fC E r]);rw[vN w.1]
   rfl
  rw[e];exact k
def UA(w:t.cq E)(T:t.dM<=8)(L:cx t<=8):∃R,aY .inl 39 [dZ E t] F (fC E t) (W F R):=by have k:o9 F (dZ E t) (fC E t) (kX E t []) []:=UU t w (Wf (Wh (WI (Wj _)) L) (Wb rfl)) λR=>⟨R,dq⟩;exact(k []).elim λR f=>⟨_,cH rfl rfl (M (cI (h5 du)) (M (da (c8 (c7 (aq J) (RI T L)) rfl) rfl f rfl) (bG (cb (bw J u (zq (cw _ tO) rfl))))))⟩
end
def kW(O:Nat):V->Bool:=
 O.rec (λ_=>false) λ_ S v=>match v with
  |.none=>true
  |.bool _=>true
  |.int _=>true
  |.str _=>true
  |.ay l=>dQ S l
  |.ae l=>dQ S l
  |_=>false
def B1{l:YU}(h:dQ g l):∀x∈l,g x:=by
 induction l with
 |nil=>exactλy m=>nomatch m
 |cons x l S=>
  have z:(match g x with|true=>dQ g l|false=>false)=true:=h
  generalize B:g x=N;induction N with|false=>rw[B] at z;exact bb z|true=>rw[B] at z;exactλy m=>(Wz.mp m).elim (λe=>e▸B) (S z y)
def HS{l:YU}(h:∀x∈l,g x x=some true):nE g l l=some true:=by
 induction l with|nil=>rfl|cons x l S=>exact a6 (h x (.head _)) (a6 (S λy m=>h y (.tail _ m)) rfl)
def HR(f:Nat):∀{v:V},kW f v->gq f v v=some true:=by
 induction f with
 |zero=>exactλh=>bb h
 |succ f S=>exactλ{v} h=>match v,h with
  |.none,_=>rfl
  |.bool b,_=>Wd some ((by induction b<;>rfl))
  |.int i,_=>Wd some (pN.mpr rfl)
  |.str s,_=>Wd some (tr (.s s))
  |.ay l,h=>HS λx m=>S (B1 h x m)
  |.ae l,h=>a6 rfl (show(match Nat.beq (VN l) (VN l)with|true=>nE (gq f) l l|false=>some false)=_ by rw[WA];exact HS λx m=>S (B1 h x m))
def V0(p:kW 20 (.ae l)):dx .eq (.ae l) (.ae l) h=some true:=a6 rfl (a6 rfl (HR 20 p))
def F0(p:kW 20 (.ae l)):dx .cC (.ae l) (.ae l) h=some false:=show Y (gq 20 (.ae l) (.ae l)) (λr=>some (!r))=_ from a6 (HR 20 p) rfl
def RA(t:aV):∀{f:Nat},t.dM+2<=f->kW f (fC a t):=by
 have D:∀{n f},n+1+2<=f->∃g,f=g+3/\n+2<=g+2:=λ{n f} h=>(Nat.exists_eq_add_of_le h).elim λk e=>⟨n+k,e.trans (WY n 3 k),Wy (Wq n k) 2⟩;induction t with|a=>exactλ{f} h=>(D h).elim λg z=>z.1▸rfl|p i t S=>exactλ{f} h=>(D h).elim λg z=>z.1▸(cf rfl (cf rfl (cf (S z.2) rfl)):dQ (kW (g+2)) [bX [69],.ay [dG a (a.bC i),dG a (a.bC i)],fC a t]=true)|f i l r m Q=>exactλ{f} h=>(D h).elim λg z=>z.1▸(cf rfl (cf (m (Wh (Wy (X8 _ _) 2) z.2)) (cf rfl (cf (Q (Wh (Wy (X5 _ _) 2) z.2)) rfl))):dQ (kW (g+2)) [bX [69],fC a l,.ay [dG a (a.bC i),dG a (a.bC i)],fC a r]=true)
abbrev AU(E:C)(W:Nat->Nat->b')(l:List aV):YU:=(l.filter (eE W)).map (fC E)
def Sf(V:b.length=a.eB.length)(s:d0 a.aD G)(e:∀v,au (VO A 69 v) 170=some (bN a b G d g f))(l:List aV):(∀t∈l,t.dM<=8/\t.cq a)->eT [69] (.call .inl 133 [.F 170,.F 69]) (some (.call .inl 132 [.F 170,.F 69])) A (eu l) h (AU a (br a b G) l) h:=by
 induction l with
 |nil=>exactλ_=>gD
 |cons t l S=>
  intro n;have k:=S λu m=>n u (.tail _ m);have w:=n t (.head _);have z:=TQ (X:=d) (g:=g) (T:=f) (h:=h) V s t (k:=0) (by rw[Wj];exact Wh w.1 (Wb rfl)) w.2
  have j:gs [.F 170,.F 69] ⟨VO A 69 t.v,h⟩ [bN a b G d g f,t.v] h:=aI (J (e _)) (aq (J m2));have c:=c7 j z.1;unfold AU at k⊢;generalize i:eE (br a b G) t=N;induction N with|true=>rw[i] at c;rw[Xj,i];exact Ac rfl c rfl (c7 j z.2) k|false=>rw[i] at c;rw[Xj,i];exact Ab rfl c rfl k
def QU(E:C)(L:Nat->Int)(K:YT)(d:Int)(h:Z):aY .inl 91 [cv E L K d,pb] h (I 3) h:=fo 20 λn=>by induction E<;>kernel_rfl
def QX(e:∀v,au (VO A 9 v) 33=some (fF a b G d))(c:YX):dp a c->eT [9] (.aC (.F 33) 57366 [.F 9]) none A (VR a c) h ((c0 c).map I) h:=by
 induction c with
 |nil=>exactλ_=>gD
 |cons o c S=>
  intro R;have n:aY .inl 91 [fF a b G d,fc a o] h (I (xD o)) h:=match o,R o (.head _)with
   |none,_=>QU a _ _ _ h
   |some j,P=>u2 P
  exact fX rfl (pB rfl rfl (e _) (J m2) n) (S λj m=>R j (.tail _ m))
def Uz(I:YX):eT [9] (.new 4 [.F 9,.F 9,.lit .none]) none A (VR a I) h (I.map (g5 a)) h:=by
 induction I with
 |nil=>exact gD
 |cons o I S=>
  have mk:aY .ef 4 [fc a o,fc a o,.none] h (g5 a o) h:=fo 9 λn=>by induction o<;>kernel_rfl
  exact fX rfl (iA (aI (J m2) (aI (J m2) (aq u))) mk) S
section
variable{E:C}{X:YZ}{G:List dC}{T g P n t:Nat}{d:Int}{p:Bool}{N:YX}{F h:Z}{A:YS}{L R Q:bo O}{H:Prop}{r:Ze aV}
abbrev Gw:List S:=cA (cm rd 13)
abbrev ur(E:C)(X:YZ)(G:List dC)(d:Int)(p:Bool):V:=gm E (fF E X G d) (fJ E (br E X G) p)
abbrev pR(E:C)(X:YZ)(G:List dC)(T g P:Nat)(d:Int)(p:Bool)(a I t y v H b N:V):YS:=[(159,a),(160,.ref 1),(170,bN E X G T g P),(181,I),(182,t),(152,y),(33,fF E X G d),(176,v),(13,H),(50,b),(74,ur E X G d p),(175,N)]
def CE:cg 60 (ur E X G d p):=have c:=CQ E.dS ⟨[],rfl⟩ ⟨[],rfl⟩;CD c.1 c.2 lE
def MK(a:∀t,r=some t->t.dM<=8/\t.cq E/\cx t<=8)(d:au A 184=some (l8 E r))(b:au A 34=some (.ae ((rJ r).map (fC E)))):∃cz,ao (.aw .cC (.ae false [(.ite (.aw .mW (.F 184) (.lit .none)) (.aC (.F 184) 57352 []) (.lit .none))]) (.ite (.aw .cC (.F 34) (.ae false [])) (.F 34) (.ae false [(.lit .none)]))) ⟨A,F⟩ (.bool false) (W F cz):=by
 induction r with
 |none=>exact⟨[],bF (fq (aq (jS (bF (J d) u rfl) rfl u))) (jS (bF (J b) (fq du) rfl) rfl (fq (aq u))) rfl⟩
 |some t=>
  have z:=a t rfl;have e:dx .mW (dZ E t) .none F=some true:=by induction t<;>rfl
  have fo:ks (dZ E t) F=some 9/\bM F (dZ E t) 8=none:=by induction t<;>exact⟨rfl,rfl⟩
  exact(UA z.2.1 z.1 z.2.2).imp λcz c=>n7 (fq (aq (lG (bF (J d) u e) rfl (fH (J d) fo.1 fo.2 rfl rfl rfl du c)))) (DV (n7 (J b) (fq du) rfl) rfl (J b)) (F0 (show dQ (kW 19) [fC E t]=true from cf (RA t (Wh (Wy z.1 2) (Wb rfl))) rfl))
def OX(b:au A 34=some (.ae ((rJ r).map (fC E)))):ao (.aw .gt (.bq false .len [(.F 34)]) (.lit (.int 1))) ⟨A,h⟩ (.bool false) h:=by induction r<;>exact bF (d3 (aq (J b)) rfl) u rfl
def Vs(V:X.length=E.eB.length)(fl:d0 E.aD G)(O:dg L R Q (n+2) F)(k:∀l x a' B c' w,dg x a' B (c'+2) w->bE Gw ⟨U (pR E X G T g P d p a b c y f i q s) [(180,v)],F⟩ .next ⟨U (pR E X G T g P d p a b c y f i q s) ((180,v)::l),w⟩->H):H:=by
 refine OM (E:=E) (X:=X) (G:=G) (T:=T) (g:=g) (S:=P) O λN L1 fv Q1 f' h S o j e2=>?_;have e1:aY .pure 131 [bN E X G T g P,.ae (VR E N)] h (.ae (eu (i7 E N))) h:=OK V o j;have A:∀t∈i7 E N,t.dM<=8/\t.cq E:=λt m=>have z:=uI _ m;⟨Wh z.1 j,z.2⟩;have fs:(i7 E N).length<90000:=WJ (r9 (a:=0) j) (Wb rfl);have lZ:VN (VR E N)<90000:=by exact Fg▸Wf j (Wb rfl)
 have u:=Sf (A:=U (pR E X G T g P d p a b c y f i q s) [(180,v),(157,.ae (VR E N)),(183,.ae (eu (i7 E N)))]) (h:=h) V fl (λ_=>rfl) (i7 E N) A;unfold AU at u;rw[Sd] at u;have D:∀t,VS E (br E X G) N none []=some t->t.dM<=8/\t.cq E/\cx t<=8:=λt e=>have m:=(A0 e).1;⟨(A t m).1,(A t m).2,(yj _ m).1▸j⟩;have C:aY .pure 85 [ur E X G d p,.ae (N.map (g5 E))] h (l8 E (VS E (br E X G) N none [])) h:=Rv o j CE (KN j);have cK:aY .pure 123 [fF E X G d,.ae ((c0 N).map I)] h (I (i7 E N).length) h:=Lm o j;generalize VS E (br E X G) N none []=r at u D C;refine(MK (F:=h) (A:=U (pR E X G T g P d p a b c y f i q s) [(180,v),(157,.ae (VR E N)),(183,.ae (eu (i7 E N))),(34,.ae ((rJ r).map (fC E))),(184,l8 E r)]) D rfl rfl).elim λcz fi=>?_;refine wR (V:=cz) S λK Z Y fp W=>k [(157,.ae (VR E N)),(183,.ae (eu (i7 E N))),(34,.ae ((rJ r).map (fC E))),(184,l8 E r)] K Z Y fp _ W ?_;refine M (cI (c7 (aI J (aq J)) e2)) (M (cI (c7 (aI J (aq J)) e1)) (M (cI (h3 (c8 J rfl) (jn (by refine rq▸?_;exact fs)) rfl u rfl)) ?_))
 refine M (cX (fV (jN (OX rfl) rfl (hZ (bF (c7 (aI J (aq (h3 (c8 J rfl) (jn lZ) rfl (QX (λ_=>rfl) N o) rfl))) cK) (d3 (aq (J rfl)) (Wd (λn=>some (I n,h)) (rq))) (show some (!(Nat.beq _ _))=_ by rw[WA];rfl))))) rfl) ?_
 exact M (cI (c7 (aI J (aq (h3 (c8 J rfl) (jn lZ) rfl (Uz N) rfl))) C)) (M (jV fi rfl ba) ba)
def Vt(o:X.length=E.eB.length)(k:d0 E.aD G)(D:YU):∀{L R Q:bo O}{n:Nat}{F:Z},dg L R Q (n+2) F->∃a,cS [180] Gw D ⟨pR E X G T g P d p b c e y i m q s,F⟩ .next ⟨pR E X G T g P d p b c e y i m q s,a⟩:=by
 induction D with|nil=>exactλ{_ _ _ _ F} _=>⟨F,dq⟩|cons v D S=>exactλ{_ _ _ _ F} h=>Vs o k h λl w t r A a j x=>(S j).imp λ_ f=>cW rfl x rfl f
end
def Rx(l:Y1):∃a:Y1,eT [158] (.a7 .add false (.a7 .mul false (.lit (.int 2)) (.bq false .abs [(.bq false .int [(.F 158)])])) (.bq false .int [(.aw .lt (.F 158) (.lit (.int 0)))])) none A (l.map V.int) h (a.map .int) h:=by
 induction l with|nil=>exact⟨[],gD⟩|cons i l S=>exact S.elim λa k=>⟨_::a,fX rfl (cV (cV u (d3 (aq (d3 (aq (J m2)) rfl)) rfl) rfl) (d3 (aq (bF (J m2) u rfl)) rfl) rfl) k⟩
def Up{l:List α}:∀{n:Nat},l.length<=n->mg l n=l:=by
 induction l with
 |nil=>exactλ{n} _=>by induction n<;>rfl
 |cons x l S=>
  intro n h;induction n with|zero=>exact absurd h (Yr _)|succ n=>exact Wd (x::·) (S (Yf h))
def Rw{l:Y1}(f:l.length<=63):∃a,aY .inl 124 [.hu (l.map V.int)] Z.bj (.ref 1) a/\dg .nil .nil .nil 2 a:=
 (Rx l).elim λI k=>by
  have A:ao (.gk false (.F 159) none (some (.lit (.int 63)))) ⟨[(159,.hu (l.map V.int))],Z.bj⟩ (.ae (mg (l.map V.int) 63)) Z.bj:=.step (.Y J (.cp rfl (.Y u (.cp (c':=l.map V.int) rfl (.val rfl)))));rw[Up (by rw[WG];exact f)] at A
  have e:(Z.bj.new (.ae (I.map V.int) 0)).new (.ae [.ref 0,.int 0,.int 0] 0)=eP I 0 0 .nil .nil .nil 2:=by kernel_rfl
  exact⟨_,cH rfl rfl (bG (cb (h5 (a:=[.ref 0,.int 0,.int 0]) (n8 (LW (c8 A rfl) (jn (by rw[c9,c5];exact Wf f (Wb rfl))) rfl k rfl) (aI u (aq u)))))),by rw[e];exact .mk I 0 0⟩
section
variable{E:C}{O:YZ}{G:List dC}{X g T i:Nat}{h:Z}{A:YS}
def nY(E:C)(W:Nat->Nat->b')(i:Nat):Nat:=((aB 0 E.k).filter λj=>hG (oh (W i j)) true).length
def QO(V:O.length=E.eB.length)(s:d0 E.aD G)(d:i<E.R)(e:∀v,au (VO A 166 v) 170=some (bN E O G X g T)/\au (VO A 166 v) 24=some (e4 E O i))(a:YZ):(∀B∈a,B<E.aD)->
  eT [166] (.F 166) (some (.aw .eq (.call .pure 129 [(.F 170),(.F 24),(.F 166)]) (.lit (.str Zj)))) A (a.map (dG E)) h ((a.filter λB=>hG (oh (br E O G i B)) true).map (dG E)) h:=by
 induction a with
 |nil=>exactλ_=>gD
 |cons B a S=>
  intro P;have k:=S λx m=>P x (.tail _ m);have c:ao (.aw .eq (.call .pure 129 [(.F 170),(.F 24),(.F 166)]) (.lit (.str Zj))) ⟨VO A 166 (dG E B),h⟩ (.bool (hG (oh (br E O G i B)) true)) h:=
   bF (c7 (aI (J (e _).1) (aI (J (e _).2) (aq (J m2)))) (BJ V s d (P B (.head _)))) u (by cases br E O G i B<;>rfl)
  refine Xj▸?_;generalize b:hG (oh (br E O G i B)) true=N;induction N with|true=>rw[b] at c;exact Ac rfl c rfl (J m2) k|false=>rw[b] at c;exact Ab rfl c rfl k
def Th:eA E.hS:=by induction E<;>rfl
def PU(c:O.length=E.eB.length)(s:d0 E.aD G)(e:∀L v,au (VO (VO A 24 L) 166 v) 170=some (bN E O G X g T)/\au (VO (VO A 24 L) 166 v) 24=some L)(f:∀L,au (VO A 24 L) 170=some (bN E O G X g T))(b:YZ):(∀i∈b,i<E.R)->
  eT [24] (.bq false .len [(.comp false (.F 166) [166] (.e (.sub (.F 170) (.lit (.int 0)))) (some (.aw .eq (.call .pure 129 [(.F 170),(.F 24),(.F 166)]) (.lit (.str Zj)))))]) none A (b.map (e4 E O)) h (b.map λi=>I (nY E (br E O G) i)) h:=by
 induction b with
 |nil=>exactλ_=>gD
 |cons i b S=>
  intro a;have P:=QO (h:=h) c s (a i (.head _)) (e _) (aB 0 E.k) λB m=>(Wg (by have z:=(g6 _ m).2;rw[Wj] at z;exact z) (jt E).1)
  rw[<-A9] at P;exact fX rfl (d3 (aq (h3 (c8 (bw (J (f _)) u rfl) rfl) Th rfl P rfl)) (by show some (V.int (Int.ofNat (VN _)),_)=_;rw[c9,c5];rfl)) (S λx m=>a x (.tail _ m))
def TY(b:YZ):∀{a:Nat},rY (b.map λi=>I (f i)) (.ofNat a)=some (.ofNat (a+cL (b.map f))):=by
 induction b with|nil=>exact rfl|cons i b S=>exactλ{a}=>(S).trans (Wd (λn=>some (Int.ofNat n)) (Wl ..))
def SY(b:YZ):(f5 E a true (VT E b)).length=cL (b.map (nY E a)):=by
 induction b with
 |nil=>rfl
 |cons i b S=>
  refine(?_:(f5 E a true (U (j7 i (aB 0 E.k)) (VT E b))).length=nY E a i+cL (b.map (nY E a)));rw[qm,cQ,Wk,S];unfold f5 j7 nY;rw[WG,List.filter_map,WG]
  rfl
def Ug:(f9 E a true).length=cL ((aB 0 E.R).map (nY E a)):=by rw[<-SY,(qT E).2.2.2.2,qm,cQ,Wk];refine(?_:(f5 E a true (U (VT E (aB E.k (E.R-E.k))) (VT E (aB 0 E.k)))).length=_);rw[qm,cQ,Wk,Wm]
def Ah(m:V)(q:Nat)(O:YZ):YT->YT:=
 O.rec (λd=>d) λr _ S d=>S (cU d (.t [.ofNat q,.ofNat r]) m)
def FV(m:V)(O:List d1):YT->YT:=
 O.rec (λd=>d) λs _ S d=>S (Ah m s.q s.i1 d)
def Ai(O:List d1):Nat:=Zx (O.rec 0 λs _ S=>s.i1.length+S)
def Ag(E:C):FV (I (eM E)) E.dS []=ie E/\gU (ct 11 Z.bj) (ie E)=some (ie E)/\Ai E.dS<900:=by induction E<;>exact⟨rfl,rfl,Wb rfl⟩
abbrev EZ:List S:=cA (cm rd 8)
abbrev Ol:List S:=cA (EZ.headD .eD)
abbrev v5(T a t y v H X N:V)(m p:Nat):YS:=Zx [(159,T),(160,a),(170,t),(181,y),(182,v),(152,H),(33,X),(176,N),(13,I m),(50,.ref p)]
section
variable{S R t y v H Q N:V}{m:Nat}{s:d1}
def Qf(b:YZ):∀{d:YT},VN d+b.length<900->cS [22] Ol (b.map I) ⟨U (v5 S R t y v H Q N m a.n) [(127,s.v)],W a [some (.ah .T d 0)]⟩ .next ⟨U (v5 S R t y v H Q N m a.n) [(127,s.v)],W a [some (.ah .T (Ah (I m) s.q b d) 0)]⟩/\VN (Ah (I m) s.q b d)<=VN d+b.length:=by
 induction b with|nil=>exactλ_=>⟨dq,Wr _⟩|cons r b c=>intro d f;have f:=f;have z:=c (d:=cU d (.t [.ofNat s.q,.ofNat r]) (I m)) (uN f pW);exact⟨cW rfl (M (D5 J J (d7 (aI (a9 J rfl) (aq J))) (tC 0 rfl rfl (dV (WJ (ot f) (Wb rfl))))) ba) rfl z.1,Wh z.2 (by rw[WL,Wm b.length,<-Wl];exact Wy pW _)⟩
def Qg(g:List d1):∀{d:YT},VN d+Ai g<900->cS [127] EZ (g.map d1.v) ⟨v5 S R t y v H Q N m a.n,W a [some (.ah .T d 0)]⟩ .next ⟨v5 S R t y v H Q N m a.n,W a [some (.ah .T (FV (I m) g d) 0)]⟩:=by
 induction g with|nil=>exactλ_=>dq|cons s g b=>intro d f;have f:VN d+(s.i1.length+Ai g)<900:=f;rw[<-Wl] at f;have z:=Qf (a:=a) (S:=S) (R:=R) (t:=t) (y:=y) (v:=v) (H:=H) (Q:=Q) (N:=N) (m:=m) (s:=s) s.i1 (ot f);exact cW rfl (M (da (c8 (a9 J rfl) rfl) rfl z.1 rfl) ba) rfl (b (Wf (Wy z.2 _) f))
end
def PY(E:C)(L:Nat->Int)(K:YT)(d:Int)(O:YZ)(G:List dC)(X g T:Nat)(h:Z)(a b y v H N:V):ao (match cm rd 6 with|.bY _ e=>e|_=>.lit .none) ⟨[(159,a),(160,b),(170,bN E O G X g T),(181,y),(182,v),(152,H),(33,cv E L K d),(176,N)],h⟩ (I (eM E)) h:=eK 40 λn=>by induction E<;>kernel_rfl
end
def O6(l:List b8):tx (l.map b8.jR)=some l.length:=by
 induction l with|nil=>rfl|cons x l S=>exact a6 S rfl
def Nr(E:C)(L:Nat->Int)(K:YT)(d:Int):bM Z.bj (cv E L K d) 113=some (.int d):=by induction E<;>rfl
def Ss(l:List Y1):kW 20 (.ae (l.map λr=>.ae (r.map .int))):=show dQ (kW 19) (l.map λr=>V.ae (r.map .int))=true from jL λr=>show dQ (kW 18) (r.map V.int)=true from jL λ_=>rfl
def MW(e:h.get p=some (.ah k a 0))(g:gU (ct 11 Z.bj) a=some a):sW (.ref p) h=some (.ah k a,h.a5 p none):=by
 refine(?_:(match h.get p with|some (O.ae a 0)=>Y (fY (ct 11 Z.bj) a) λl=>some (V.ae l,h.hk p)|some (O.ah k T 0)=>Y (gU (ct 11 Z.bj) T) λl=>some (V.ah k l,h.hk p)|_=>none)=_)
 exact e▸a6 g rfl
def O5(e:(f9 a (br a b G) true).length=r)(D:m<3):wg (ur a b G (.ofNat (r+m)) short)=some (.bool (Nat.beq m 0)):=by
 have i:=e▸uh (qT a).2.1;have p:VN ((f9 a (br a b G) true).map b8.jR)=r:=by rw[c9,c5,e]
 have S:=O6 (f9 a (br a b G) true);rw[e] at S;have c:Nat.beq r (r+m)=Nat.beq m 0:=by
  induction m with|zero=>exact WA r|succ m=>exact ed (Wv (WD (Wx m)))
 refine a6 rfl (a6 ?_ (a6 (a:=r+m) ?_ (a6 S ?_)))
 .rw[<-(A5).2];rfl
 .rw[Nr];rfl
 .rw[p,WA,c]
  refine fL rfl (fL (dE (WJ i (Wb rfl))) (fL (dE (by lia)) ?_))
  generalize Nat.beq m 0=N;induction N with|false=>rfl|true=>exact a6 rfl (fL (by rw[V0 (Ss _)];rfl) rfl)
def Hb(e:au A 74=some T)(g:bM h T n=some (.ae ((f9 a (br a c G) b).map b8.jR))):
  ao (.bq false .sorted [(.comp false (.aC (.F 127) 57352 []) [127] (.e (.aS (.F 74) n)) none)]) ⟨A,h⟩ (.ae ((f9 a (br a c G) b).map b8.v)) h:=
 d3 (aq (h3 (c8 (a9 (J e) g) rfl) (jn (by rw[c9,c5];exact WJ (uh (qT a).2.1) (Wb rfl))) rfl (UB _) rfl)) (a6 rfl (a6 rfl TG))
def F1{l:List b8}:dx .cC (.ae (l.map b8.v)) (.ae (l.map b8.v)) h=some false:=F0 (jL λ_=>rfl:dQ (kW 19) _=true)
abbrev E9(T W I t:V):YS:=Zx [(159,T),(160,.ref 1),(170,W),(181,I),(182,t)]
def OJ(j:d.length=a.eB.length)(s:d0 a.aD G)(D:m<3)(P:dg L R Q (k+2) h):∃l p,bE (rd.body.drop 3) ⟨E9 T (bN a d G e g f) (.bool b) (I m),h⟩ (.ret (.bool true)) ⟨l,p⟩:=by
 have B:=PU (A:=E9 T (bN a d G e g f) (.bool b) (I m)) (h:=h) j s (λ_ _=>⟨rfl,rfl⟩) (λ_=>rfl) (aB 0 a.R) λi z=>by have y:=(g6 _ z).2;rw[Wj] at y;exact y
 rw[<-ni j] at B;have o:=Ug (E:=a) (a:=br a d G);have n:=TY (f:=nY a (br a d G)) (aB 0 a.R) (a:=0);rw[Wj] at n;generalize cL ((aB 0 a.R).map (nY a (br a d G)))=r at o n;have A:VN (qj a d)<90000:=by rw[ni j];exact(by rw[c9,c5,oR];exact Wf (jt a).2.2.1 (Wb rfl))
 have w:aY .pure 120 [fF a d G (.ofNat (r+m))] h (hs a (fF a d G (.ofNat (r+m)))) h:=Cp (cf lE rfl) rfl rfl rfl (Kb a _ _ _) (yR lE);have F:(W h [some (.ah .T (ie a) 0)]).a5 h.n none=W h [none]:=gR (a:=h) (i:=0) _ rfl;have q:=λ{E H K N O X S:V}=>Qg (a:=h) (S:=T) (R:=E) (t:=H) (y:=K) (v:=N) (H:=O) (Q:=X) (N:=S) (m:=eM a) a.dS (d:=[]) (Wf (WI (Wj _)) (Ag a).2.2);rw[(Ag a).1] at q;refine wR (V:=[none]) P λU Z Y a' t=>?_;have C:aY .pure 135 [ur a d G (.ofNat (r+m)) b] (W h [none]) (.bool (Nat.beq m 0)) (W h [none]):=Kf (cf CE rfl) (O5 o D);have v:∀c:Bool,dx .cC (.bool c) (.bool c) (W h [none])=some false:=λc=>by induction c<;>rfl
 refine(Vt (b:=T) (c:=.bool b) (e:=I m) (y:=I r) (i:=hs a (fF a d G (.ofNat (r+m)))) (m:=I (eM a)) (q:=.ref h.n) (s:=.ae [.ae ((f9 a (br a d G) false).map b8.v),.ae ((f9 a (br a d G) true).map b8.v)]) (d:=.ofNat (r+m)) (p:=b) (T:=e) (g:=g) (P:=f) j s (i0 0 3) t).elim λx sP=>?_;exact⟨pR a d G e g f (.ofNat (r+m)) b T (.bool b) (I m) (I r) (hs a (fF a d G (.ofNat (r+m)))) (I (eM a)) (.ref h.n) (.ae [.ae ((f9 a (br a d G) false).map b8.v),.ae ((f9 a (br a d G) true).map b8.v)]),x,M (dk (d3 (aq (h3 (c8 (bw J u rfl) rfl) (jn A) rfl B rfl)) (a6 rfl (a6 rfl (a6 n rfl))))) (M (dk (c7 (aI J (aq (cV J J rfl))) (OI j s))) (M (dk (c7 (aq J) w)) (M (dk (PY a _ _ _ d G e g f h ..)) (M (cI (mH oD)) (M (da (c8 (a9 J rfl) rfl) rfl q rfl) (M (cI (c7 (aI J (n8 (mI J ((MW (h:=W h [some (.ah .T (ie a) 0)]) (p:=h.n) (cw (a:=h) (i:=0) _ rfl) (Ag a).2.1).trans (Wd (λh=>some (V.ah .T (ie a),h)) F))) (aq J))) OH)) (M (dk (c7 (aI J (aI J (aq J))) (OE j s))) (M (cX (fV (jN (bF (Hb rfl ((rfl:_=some (V.ae (fJ a (br a d G) b).fN)).trans (by rw[A5.1]))) (bw J u rfl) F1) rfl (hZ (bF (c7 (aq J) C) (bF J u rfl) (v _))))) rfl) (M (cX (bF (Hb rfl ((rfl:_=some (V.ae (fJ a (br a d G) b).ey)).trans (by rw[A5.2]))) (bw J u rfl) F1) rfl) (M (da (kH u rfl) rfl sP rfl) (bG (cb u))))))))))))⟩
def OF{l:Y1}(f:l.length<=63):∃a,aY .inl 136 [.hu (l.map V.int)] Z.bj (.bool true) a:=
 (Rw f).elim λP z=>Vz z.2 λE O G k h K L R Q n N b s q p=>sF q (Wb rfl) λd t T I r=>sF I (Wb rfl) λm e D c w=>(OJ b s D c).elim λg y=>y.elim λx y=>⟨x,cH rfl rfl (M (cI (c7 (aq J) z.1)) (M (cI (c7 (aq J) p)) (M (GX (d7 (n8 (n7 (c7 (aI J (aq u)) r) u rfl) (aq (c7 (aI J (aq u)) w)))) rfl) y)))⟩
def OB:uH:=λ_ f=>(OF f).elim λS z=>z.elim λk z=>⟨k,S,by have y:=z 1;rw[Wm] at y;exact y⟩
end Mine.Internal
theorem PySem.Challenge.cw_nn0422_01_holds : PySem.Challenge.rw_nn0422_01.Holds :=
 Mine.Internal.jZ Mine.Internal.OB
end
