import PyProof.Rows.All
import KE.KSortAsk
import Wide.All
import OpenK.AllK
import Wide.FinOn
import PyProof.EqKinds
import PyProof.NeKinds
import KE.KSuper
import KE.KPar
import KE.KRevSl
import KE.KSortTup
import KE.KDictSum
import KE.KRevIter
import PyProof.IsiH_list
import PyProof.AttrMiss
import KE.KDictOf
import PyProof.ExcInit
import PyProof.ExcClass3
import PyProof.ExcBaseAll.Exception
import PyProof.InstStore
import PyProof.InstStoreFacts
import PyProof.CallStr
import PyProof.StrBlock
import PySem.Challenge.RW_nn0422_01
set_option Elab.async false
set_option maxRecDepth 100000
set_option bootstrap.genMatcherCode false
set_option genInjectivity false
set_option genSizeOf false
set_option genCtorIdx false
set_option backward.match.sparseCases false
set_option linter.all false
set_option compiler.extract_closed false
noncomputable section
open PySem
namespace Mine.Internal
abbrev WY:=@Nat.le_of_ble_eq_true
abbrev WZ:=@Option.some.inj
abbrev W0:=@congrArg
abbrev W2:=@Nat.eq_of_beq_eq_true
abbrev W3:=@Nat.lt_of_le_of_lt
abbrev W4:=@Nat.lt_of_lt_of_le
abbrev W5:=@Nat.le_trans
abbrev W6:=@wpAny_bind
abbrev W7:=@Nat.zero_add
abbrev W8:=@List.length_append
abbrev W9:=@Nat.add_assoc
abbrev Xa:=@Nat.add_comm
abbrev Xb:=@List.all_eq_true
abbrev Xc:=@wpAny_pure
abbrev Xd:=@Nat.le_add_right
abbrev Xe:=@Nat.le_refl
abbrev Xf:=@List.mem_singleton
abbrev Xg:=@Nat.add_le_add_left
abbrev Xh:=@Nat.lt_succ_self
abbrev Xi:=@Nat.ne_of_lt
abbrev Xj:=@Nat.zero_le
abbrev Xk:=@Nat.succ_pos
abbrev Xl:=@Nat.add_le_add_right
abbrev Xm:=@List.mem_cons
abbrev Xn:=@Nat.beq_refl
abbrev Xo:=@List.size_toArray
abbrev Xp:=@Nat.succ_le_succ
abbrev Xq:=@Nat.lt_add_of_pos_right
abbrev Xr:=@Nat.lt_of_succ_lt
abbrev Xs:=@List.length_map
abbrev Xt:=@Nat.le_succ
abbrev Xu:=@Nat.le_of_eq
abbrev Xv:=@Nat.lt_trans
abbrev Xw:=@Nat.le_of_lt
abbrev Xx:=@List.length_cons
abbrev Xy:=@Bool.and_eq_true_iff
abbrev Xz:=@List.mem_map
abbrev XA:=@Heap.lt_size
abbrev XB:=@List.append_nil
abbrev XC:=@List.mem_append_right
abbrev XD:=@List.map_cons
abbrev XE:=@Nat.mul_le_mul_left
abbrev XF:=@List.mem_append
abbrev XG:=@Nat.le_of_lt_succ
abbrev XH:=@Nat.lt_succ_of_lt
abbrev XI:=@Nat.le_of_succ_le
abbrev XJ:=@Nat.add_right_comm
abbrev XK:=@Nat.ne_of_gt
abbrev XM:=@wpAny_execs_cons
abbrev XN:=@Bool.and_false
abbrev XO:=@Bool.eq_false_iff
abbrev XP:=@Int.natCast_nonneg
abbrev XQ:=@List.cons.inj
abbrev XR:=@wpAny_mono
abbrev XS:=@Bool.eq_iff_iff
abbrev XT:=@Nat.le_succ_of_le
abbrev XU:=@Nat.div_add_mod
abbrev XW:=@Nat.sub_le
abbrev XX:=@List.mem_append_left
abbrev XY:=@Nat.add_le_add
abbrev XZ:=@List.nodup_cons
abbrev X0:=@Bool.or_eq_true_iff
abbrev X1:=@Nat.ble_eq_true_of_le
abbrev X4:=@List.append_assoc
abbrev X5:=@List.mem_flatMap
abbrev X6:=@Int.negSucc_lt_zero
abbrev X7:=@Nat.le_add_left
abbrev X8:=@List.filter_cons
abbrev X9:=@Nat.not_lt_of_le
abbrev Ya:=@Nat.lt_of_succ_lt_succ
abbrev Yb:=@List.flatMap_cons
abbrev Yc:=@Nat.add_sub_cancel'
abbrev Yd:=@wpAny_holding
abbrev Ye:=@wpAny_loadPart_at
abbrev Yf:=@Nat.lt_succ_of_le
abbrev Yg:=@Nat.add_lt_add_left
abbrev Yh:=@Prod.mk.inj
abbrev Yi:=@Nat.zero_mul
abbrev Yj:=@Nat.lt_irrefl
abbrev Yk:=@Nat.not_lt_zero
abbrev Yl:=@wpAny_execs_nil
abbrev Ym:=@congrFun
abbrev Yn:=@List.reverse_cons
abbrev Yo:=@List.all_cons
abbrev Yp:=@Nat.add_sub_cancel_left
abbrev Yq:=@List.lookup_cons
abbrev Yr:=@Nat.succ.inj
abbrev Ys:=@List.pairwise_cons
abbrev Yt:=@List.map_map
abbrev Yu:=@Nat.lt_or_eq_of_le
abbrev Yv:=@List.length_nil
abbrev Yw:=@List.map_append
abbrev Yx:=@wpAny_standAt
abbrev Yy:=@Nat.add_lt_add_right
abbrev Yz:=@Nat.mul_succ
abbrev YA:=@Int.ofNat_lt
abbrev YB:=@Option.isSome_iff_exists
abbrev YC:=@wpAny_Call_NameR
abbrev YD:=@Bool.not_eq_true
abbrev YE:=@wpAny_call_entry
abbrev YF:=@Int.ofNat.inj
abbrev YG:=@List.mem_filterMap
abbrev YH:=@Nat.sub_lt
abbrev YI:=@List.of_mem_zip
abbrev YJ:=@Nat.sub_add_cancel
abbrev YK:=@Nat.le_of_add_right_le
abbrev YL:=@wpAny_truthy_bool
abbrev YM:=@Bool.not_eq_true'
abbrev YN:=@Nat.succ_add
abbrev YO:=@Nat.succ_ne_zero
abbrev YP:=@Nat.le_of_not_lt
abbrev YQ:=@Nat.le_max_right
abbrev YR:=@Nat.add_lt_add_of_lt_of_le
abbrev YS:=@wpAny_isSubtype_exc
abbrev YT:=@Nat.le_max_left
abbrev YU:=@Nat.succ_add_eq_add_succ
abbrev YV:=@Nat.add_sub_cancel
abbrev YW:=@Int.negSucc_eq
abbrev YX:=@wpAny_call
abbrev YY:=@Heap.size_push
abbrev YZ:=@Option.map_eq_some_iff
abbrev Y0:=@Nat.le_of_succ_le_succ
abbrev Y1:=@List.any_cons
abbrev Y2:=@wpAny_newList
abbrev Y3:=@List.length_drop
abbrev Y4:=@Heap.size_update
abbrev Y5:=@List.any_eq_true
abbrev Y6:=@Nat.succ_lt_succ
abbrev Y7:=@List.length_singleton
abbrev Y8:=@List.contains_iff_mem
abbrev Y9:=@List.take_append_drop
abbrev Y':=@List.eraseIdxIfInBounds_toArray
abbrev Za:=@wpAny_loadName_local
abbrev Zb:=@Nat.not_succ_le_zero
abbrev Zc:=@codeAny_builtin
abbrev Zd:=@codeAny_of_tree
abbrev Ze:=@Nat.not_succ_le_self
abbrev Zf:=@codeAny_call_builtin
abbrev Zg:=@List.mem_filter
abbrev Zh:=@wpAny_loadName_cell
abbrev Zi:=@wpAny_loadName_free
abbrev Zj:=@List.length_reverse
abbrev Zk:=@List.drop_drop
abbrev Zl:=@Int.ofNat_zero
abbrev Zm:=@List.forIn_nil
abbrev Zn:=@Nat.sub_sub
abbrev Zo:=@Nat.pos_of_ne_zero
abbrev Zp:=@wpAny_Constant_str
abbrev Zq:=@Nat.lt_of_lt_of_eq
abbrev Zr:=@Nat.lt_of_le_of_ne
abbrev Zs:=@wpAny_newObj_type
abbrev Zt:=@wpAny_pyIter_list
abbrev Zu:=@wpAny_Return_some
abbrev Zv:=@List.nodup_append
abbrev Zw:=@Int.not_lt
abbrev Zx:=@Int.lt_trans
abbrev Zy:=@Int.le_trans
abbrev Zz:=@Int.add_comm
abbrev ZA:=@Int.add_zero
abbrev ZC:=@Nat.mul_zero
noncomputable abbrev aai{α:Type}(a:α):=a
noncomputable abbrev aah(s:PySem.Shared):=s.heap.objs.size
noncomputable abbrev aag:PySem.Obj:={cls:=.type "dict",data:=.dict #[]}
abbrev aaf(X:PySem.Program)(w:PySem.World)(A:PySem.Around)(V:PySem.Env)(R:PySem.Result->PySem.Shared->Prop):=PySem.notedBy (PySem.model X w) A V λe a=>R (.error e) a
abbrev ZG:=PySem.Value->PySem.Shared->Prop
abbrev ZH:=List (Nat×Nat)
abbrev ZI:=List (Option Nat)
abbrev ZJ:=List PySem.Value
abbrev ZK:=List Nat
abbrev ZL:=Option Nat
abbrev ZM:=List Int
abbrev ZN:=PySem.Shared->Prop
abbrev ZO:=PySem.Value
abbrev ZP:=PySem.Addr
abbrev ZQ:=PySem.Heap
abbrev ZR:=PySem.NameKind
abbrev ZS:=PySem.World
abbrev ZT:=PySem.Params
abbrev ZU:=PySem.Expr
abbrev ZV:=PySem.Str
abbrev ZW:=PySem.Shared
abbrev ZX:=PySem.Around
abbrev ZY:=PySem.Scope
abbrev ZZ:=PySem.Stmt
abbrev Z0(α:Type):=Option α
set_option genCtorIdx true in
inductive eU where|I|S|T
 deriving DecidableEq
inductive aE where
 |i(n:Int)
 |s(x:ZV)
 |t(l:ZM)
set_option genCtorIdx true in
inductive V where
 |none
 |bool(b:Bool)
 |int(i:Int)
 |str(s:ZV)
 |ay(a:List V)
 |ae(a:List V)
 |ah(d:eU)(T:List (aE×V))
 |ins(c:Nat)(r:Bool)(P:List (Nat×V))
 |ref(p:Nat)
 |hy(a:List V)
 deriving Inhabited
abbrev ZD:=List (Nat×V)
abbrev ZE:=List (aE×V)
abbrev ZF:=List V
inductive O where
 |ae(b:ZF)(gV:Nat)
 |ah(a:eU)(T:ZE)(gV:Nat)
 |ins(c:Nat)(P:ZD)
 deriving Inhabited
inductive bo(α:Type) where
 |nil
 |node(a:Option α)(l r:bo α)
 deriving Inhabited
namespace bo
noncomputable def get{α:Type}:bo α->Nat->Option α
 |.nil,_=>none
 |.node C o u,j=>match Nat.beq j 0 with
  |true=>C
  |false=>match Nat.beq (j % 2) 1 with
   |true=>o.get (j/2)
   |false=>u.get (j/2-1)
def a5{α:Type}(U:Nat):bo α->Nat->Option α->bo α:=
 U.rec (λt _ _=>t) λ_ u t j o=>match t with
  |.nil=>match Nat.beq j 0 with
   |true=>.node o .nil .nil
   |false=>match Nat.beq (j % 2) 1 with
    |true=>.node none (u .nil (j/2) o) .nil
    |false=>.node none .nil (u .nil (j/2-1) o)
  |.node M C J=>match Nat.beq j 0 with
   |true=>.node o C J
   |false=>match Nat.beq (j % 2) 1 with
    |true=>.node M (u C (j/2) o) J
    |false=>.node M C (u J (j/2-1) o)
end bo
structure Z where
 t:bo O
 n:Nat
 deriving Inhabited
noncomputable def Z.get(j:Z)(o:Nat):Option O:=j.t.get o
def Z.set(j:Z)(u:Nat)(o:O):Z:=⟨j.t.a5 (u+1) u (some o),j.n⟩
def Z.new(j:Z)(o:O):Z:=⟨j.t.a5 (j.n+1) j.n (some o),j.n+1⟩
def Z.ho(j:Z)(o:Nat):Z:=⟨j.t.a5 (o+1) o none,j.n⟩
noncomputable def Z.bj:Z:=⟨.nil,0⟩
structure bD where
 aj:ZD
 h:Z
 deriving Inhabited
set_option genCtorIdx true in
inductive qz where|add|sub|mul|fdiv|tI|jz|uh|kq|nU
set_option genCtorIdx true in
inductive r2 where|eq|cC|lt|gt|mP|is|mW|kK|j1
set_option genCtorIdx true in
inductive yl where|neg|not|ag
set_option genCtorIdx true in
inductive jE where|inl|pure|nV|eg
inductive qA where|len|rW|sorted|abs|int|str|tuple|list|dict(a:eU)
mutual
inductive E where
 |lit(h:V)
 |d9(h:V)
 |F(n:Nat)
 |aS(e:E)(a:Nat)
 |a7(d:qz)(m:Bool)(a b:E)
 |c6(d:yl)(a:E)
 |aw(d:r2)(a b:E)
 |kx(q:r2)(r:r2)(a b c:E)
 |bool(and:Bool)(G:List E)
 |ite(t a b:E)
 |ay(G:List E)
 |ae(m:Bool)(G:List E)
 |ah(g:eU)(l w:List E)
 |sub(e i:E)
 |gn(m:Bool)(e:E)(p A:Option E)
 |oH(m:Bool)(e:E)
 |call(g:jE)(f:Nat)(G:List E)
 |bI(e:E)
 |new(c:Nat)(G:List E)
 |aC(e:E)(m:Nat)(G:List E)
 |bq(m:Bool)(b:qA)(G:List E)
 |comp(m:Bool)(elt:E)(s:ZK)(T:dw)(cond:Option E)
 |k'(c self f:Nat)(G:List E)
inductive dw where
 |e(e:E)
 |range(a:Option E)(A:E)
 |jn(e:E)
 |rO(e:E)
end
inductive o' where
 |F(n:Nat)
 |aS(e:E)(a:Nat)
 |sub(e i:E)
 |ay(f:ZK)
inductive S where
 |bY(t:o')(e:E)
 |pe(n:Nat)(c:qz)(e:E)
 |expr(e:E)
 |ret(e:Option E)
 |ite(t:E)(a b:List S)
 |iq(t:E)(b:List S)
 |b5(d:ZK)(T:dw)(b:List S)
 |eF
 |hk
structure cy where
 ak:ZK
 d7:ZF
 body:List S
structure ja where
 init:ZL
 qf:Bool
 kS:ZH
set_option genCtorIdx true in
inductive fG where
 |next
 |ret(a:V)
 deriving Inhabited
noncomputable def Y{α β:Type}(x:Z0 α)(f:α->Z0 β):Z0 β:=match x with
 |some a=>f a
 |none=>none
noncomputable def bS{α:Type}(b:Bool)(x:Z0 α):Z0 α:=match b with
 |true=>x
 |false=>none
def au{α:Type}(O:List (Nat×α)):Nat->Z0 α:=
 O.rec (λ_=>none) λm _ S n=>match Nat.beq m.1 n with
  |true=>some m.2
  |false=>S n
def Wy{α:Type}(O:List (Nat×α)):Nat->α->List (Nat×α):=
 O.rec (λn x=>[(n,x)]) λm r S n x=>match Nat.beq m.1 n with
  |true=>(m.1,x)::r
  |false=>m::S n x
noncomputable def oj:ZK->ZK->Bool
 |[],[]=>true
 |a::r,b::s=>match Nat.beq a b with
  |true=>oj r s
  |false=>false
 |_,_=>false
def Wz(a b:ZV):Bool:=oj a.cps.toList b.cps.toList
def dr(a b:Int):Bool:=aai (match a,b with
 |.ofNat m,.ofNat n=>Nat.beq m n
 |.negSucc m,.negSucc n=>Nat.beq m n
 |_,_=>false)
def gh(a b:Int):Bool:=aai (match a,b with
 |.ofNat m,.ofNat n=>Nat.blt m n
 |.ofNat _,.negSucc _=>false
 |.negSucc _,.ofNat _=>true
 |.negSucc m,.negSucc n=>Nat.blt n m)
noncomputable def vW:ZM->ZM->Bool
 |[],[]=>true
 |a::r,b::s=>match dr a b with
  |true=>vW r s
  |false=>false
 |_,_=>false
def cJ(a b:aE):Bool:=match a,b with
 |.i m,.i n=>dr m n
 |.s x,.s y=>Wz x y
 |.t l,.t r=>vW l r
 |_,_=>false
noncomputable def fR:ZF->Z0 ZM
 |[]=>some []
 |.int i::r=>match fR r with
  |some l=>some (i::l)
  |none=>none
 |_=>none
def fQ(k:eU)(v:V):Z0 aE:=match k,v with
 |.I,.int i=>some (.i i)
 |.S,.str s=>some (.s s)
 |.T,.ay O=>match fR O with
  |some l=>some (.t l)
  |none=>none
 |_,_=>none
def bL{α:Type}(O:List (aE×α)):aE->Z0 α:=
 O.rec (λ_=>none) λm _ S n=>match cJ m.1 n with
  |true=>some m.2
  |false=>S n
def cU{α:Type}(O:List (aE×α)):aE->α->List (aE×α):=
 O.rec (λn x=>[(n,x)]) λm r S n x=>match cJ m.1 n with
  |true=>(m.1,x)::r
  |false=>m::S n x
def gR{α:Type}(O:List (aE×α)):aE->List (aE×α):=
 O.rec (λ_=>[]) λm r S n=>match cJ m.1 n with
  |true=>r
  |false=>m::S n
noncomputable def nE(g:V->V->Z0 Bool):ZF->ZF->Z0 Bool
 |[],[]=>some true
 |a::r,b::s=>Y (g a b) λx=>Y (nE g r s) λy=>some (match x with|true=>y|false=>false)
 |_,_=>some false
noncomputable def fq:V->Z0 Int
 |.int i=>some i
 |_=>none
noncomputable def lA:V->ZL
 |.int (.ofNat n)=>some n
 |_=>none
noncomputable def uQ:V->Z0 ZV
 |.str x=>some x
 |_=>none
noncomputable def B2:V->Z0 Bool
 |.bool b=>some b
 |_=>none
noncomputable def yu:V->Z0 ZF
 |.ay l=>some l
 |_=>none
noncomputable def yr:V->Z0 ZF
 |.ae l=>some l
 |_=>none
noncomputable def iE:V->Bool
 |.none=>true
 |_=>false
noncomputable def yt:V->ZL
 |.ref p=>some p
 |_=>none
noncomputable def d'{α:Type}:List α->Z0 α
 |[x]=>some x
 |_=>none
noncomputable def el{α:Type}:List α->Z0 (α×α)
 |[x,y]=>some (x,y)
 |_=>none
def iO(a b:V):Z0 Bool:=match a with
 |.int a=>Y (fq b) λb=>some (dr a b)
 |.str a=>Y (uQ b) λb=>some (Wz a b)
 |_=>none
noncomputable def Wx{α:Type}(O:List α):Nat:=
 O.rec 0 λ_ _ S=>S+1
noncomputable def hI(a b:Bool):Bool:=match a with
 |true=>b
 |false=>match b with|true=>false|false=>true
def gs(O:Nat):V->V->Z0 Bool:=
 O.rec (λ_ _=>none) λ_ S a b=>match a with
  |.none=>bS (iE b) (some true)
  |.bool a=>Y (B2 b) λb=>some (hI a b)
  |.int a=>Y (fq b) λb=>some (dr a b)
  |.str a=>match b with
   |.str b=>some (Wz a b)
   |.ay _=>some false
   |_=>none
  |.ay a=>match b with
   |.ay b=>nE S a b
   |.str _=>some false
   |_=>none
  |.ae a=>Y (yr b) λb=>match Nat.beq (Wx a) (Wx b)with
   |true=>nE S a b
   |false=>some false
  |_=>none
noncomputable def qw(g:V->V->Z0 Bool):ZF->ZF->Z0 Bool
 |[],[]=>some false
 |[],_::_=>some true
 |_::_,[]=>some false
 |a::r,b::s=>match iO a b with
  |some true=>qw g r s
  |some false=>g a b
  |none=>none
def qv(a b:V):Z0 Bool:=Y (fq a) λa=>Y (fq b) λb=>some (gh a b)
def oS(a b:V):Z0 Bool:=match a with
 |.int a=>Y (fq b) λb=>some (gh a b)
 |.ay a=>Y (yu b) λb=>qw qv a b
 |_=>none
def mV(x:Int)(O:ZM):ZM:=
 O.rec ([x]) λy r S=>match gh y x with
  |true=>y::S
  |false=>x::y::r
def oP(O:ZM):ZM:=
 O.rec [] λx _ S=>mV x S
noncomputable def rX:ZF->Int->Z0 Int
 |[],a=>some a
 |.int i::r,a=>rX r (a+i)
 |_,_=>none
noncomputable def kW(k:eU):ZF->ZE->Z0 ZE
 |[],d=>some d
 |.ay [a,b]::r,d=>match fQ k a with
  |some x=>kW k r (cU d x b)
  |none=>none
 |_,_=>none
def wt(x:V)(O:ZF):Z0 Bool:=
 O.rec (some false) λy _ S=>Y (iO y x) λa=>Y S λb=>some (match a with|true=>true|false=>b)
def vU(x:V)(O:ZF):Nat->ZL:=
 O.rec (λ_=>none) λy r S i=>Y (iO y x) λa=>match a with
  |true=>Y (wt x r) λ_=>some i
  |false=>S (i+1)
noncomputable def i2(L:Int):Nat->ZF
 |0=>[]
 |n+1=>.int L::i2 (L+1) n
def mK(O:ZF):Int->ZF:=aai (O.rec (λ_=>[]) λx _ S i=>.ay [.int i,x]::S (i+1))
def AB(k:aE):V:=aai (match k with
 |.i n=>.int n
 |.s x=>.str x
 |.t l=>.ay (l.map .int))
def ie(O:ZE):ZF:=
 O.rec [] λm _ S=>AB m.1::S
noncomputable def a3{α:Type}(O:List α):Nat->Z0 α:=
 O.rec (λ_=>none) λx _ S i=>match i with
  |0=>some x
  |i+1=>S i
noncomputable def dU{α:Type}(O:List α):Nat->α->List α:=
 O.rec (λ_ _=>[]) λx r S i y=>match i with
  |0=>y::r
  |i+1=>x::S i y
noncomputable def U{α:Type}(O:List α):List α->List α:=
 O.rec (λb=>b) λx _ S b=>x::S b
noncomputable def mg{α:Type}(O:List α):Nat->List α:=
 O.rec (λ_=>[]) λx _ S i=>match i with
  |0=>[]
  |i+1=>x::S i
noncomputable def q6{α:Type}(O:List α):Nat->List α:=
 O.rec (λ_=>[]) λx r S i=>match i with
  |0=>x::r
  |i+1=>S i
noncomputable def gm{α:Type}(O:List α):List α->List α:=
 O.rec (λb=>b) λx _ S b=>S (x::b)
def j7{α:Type}(l:List α)(O:Nat):List α:=
 O.rec [] λ_ S=>U l S
def wV(i:Int)(n:Nat):ZL:=aai (match i with
 |.ofNat m=>match Nat.blt m n with|true=>some m|false=>none
 |.negSucc m=>match Nat.blt m n with|true=>some (n-(m+1))|false=>none)
noncomputable def b0:Nat:=100000
def eC{α:Type}(l:List α):Bool:=Nat.blt (Wx l) b0
def n5{α:Type}(l:List α):Bool:=Nat.blt (Wx l) 800
def d5(v:V)(h:Z):Z0 ZF:=match v with
 |.ae O=>some O
 |.ref p=>match h.get p with
  |some (.ae O _)=>some O
  |_=>none
 |_=>none
def rr(v:V)(h:Z):Z0 ZF:=match v with
 |.hy O=>some O
 |v=>d5 v h
set_option genCtorIdx true in
inductive iQ where
 |D(b:eU)(c:ZE)
 |L(a:ZF)
 |T(a:ZF)
def gB(v:V)(h:Z):Z0 iQ:=match v with
 |.ah k T=>some (.D k T)
 |.ae O=>some (.L O)
 |.ay O=>some (.T O)
 |.ref p=>match h.get p with
  |some (.ae O _)=>some (.L O)
  |some (.ah k T _)=>some (.D k T)
  |_=>none
 |_=>none
noncomputable def j2{α:Type}:List α->Bool
 |[]=>false
 |_::_=>true
def wD(i:Int):Bool:=aai (match i with
 |.ofNat n=>match n with|0=>false|_+1=>true
 |.negSucc _=>true)
def WA(v:V)(h:Z):Z0 Bool:=match v with
 |.bool b=>some b
 |.int i=>some (wD i)
 |v=>Y (d5 v h) λO=>some (j2 O)
noncomputable def f3(g:V->Z0 V):ZF->Z0 ZF
 |[]=>some []
 |x::r=>Y (g x) λa=>Y (f3 g r) λl=>some (a::l)
noncomputable def gW(g:V->Z0 V):ZE->Z0 ZE
 |[]=>some []
 |(k,x)::r=>Y (g x) λa=>Y (gW g r) λl=>some ((k,a)::l)
def gi(g:V->Z0 V)(O:ZD):Z0 ZD:=
 O.rec (some []) λm _ S=>Y (g m.2) λa=>Y S λl=>some ((m.1,a)::l)
def ct(a:Nat):Z->V->Z0 V:=
 a.rec (λ_ _=>none) λ_ S h v=>match v with
  |.ref p=>match h.get p with
   |some (.ae O _)=>Y (f3 (S h) O) λl=>some (.ae l)
   |some (.ah k T _)=>Y (gW (S h) T) λl=>some (.ah k l)
   |some (.ins c P)=>Y (gi (S h) P) λl=>some (.ins c false l)
   |none=>none
  |.ins c true P=>Y (gi (S h) P) λl=>some (.ins c false l)
  |v=>some v
def dR(g:V->Bool)(O:ZF):Bool:=aai (O.rec true λx _ S=>match g x with|true=>S|false=>false)
def ly(g:V->Bool)(O:ZE):Bool:=aai (O.rec true λm _ S=>match g m.2 with|true=>S|false=>false)
def hG(g:V->Bool)(O:ZD):Bool:=aai (O.rec true λm _ S=>match g m.2 with|true=>S|false=>false)
noncomputable def cg:Nat->V->Bool
 |0,_=>false
 |f+1,v=>match v with
  |.ref _=>false
  |.hy _=>false
  |.ay O=>dR (cg f) O
  |.ae O=>dR (cg f) O
  |.ah _ T=>ly (cg f) T
  |.ins _ _ P=>hG (cg f) P
  |_=>true
structure qG where
 fM:Nat->Z0 cy
 cls:Nat->Z0 ja
 kZ:Nat->Nat
 j3:Nat->ZF->Z0 V
structure ll where
 e:E->bD->Z0 (V×Z)
 x:List S->bD->Z0 (fG×bD)
 w:E->List S->bD->Z0 (fG×bD)
 c:jE->Nat->ZF->Z->Z0 (V×Z)
def h8(e:E->bD->Z0 (V×Z))(O:List E):bD->Z0 (ZF×Z):=
 O.rec (λs=>some ([],s.h)) λa _ S s=>Y (e a s) λp=>Y (S ⟨s.aj,p.2⟩) λq=>some (p.1::q.1,q.2)
def bM(h:Z)(v:V)(a:Nat):Z0 V:=match v with
 |.ins _ _ P=>au P a
 |.ref p=>match h.get p with
  |some (.ins _ P)=>au P a
  |_=>none
 |_=>none
def dj(m:Bool)(O:ZF)(h:Z):V×Z:=aai (match m with
 |true=>(.ref h.n,h.new (.ae O 0))
 |false=>(.ae O,h))
def jl:Nat:=aai 18446744073709551616
def EN(F:qz)(x y:Int):Z0 Int:=match F with
 |.add=>some (x+y)
 |.sub=>some (x-y)
 |.mul=>match x with
  |.ofNat a=>bS (Nat.blt a jl) (some (x*y))
  |_=>none
 |.fdiv=>match y with
  |.ofNat (n+1)=>bS (Nat.blt n 1000000) (some (Int.fdiv x (.ofNat (n+1))))
  |_=>none
 |.tI=>match y with
  |.ofNat (n+1)=>some (Int.fmod x (.ofNat (n+1)))
  |_=>none
 |.jz=>match x,y with
  |.ofNat a,.ofNat b=>bS (Nat.ble b 64) (bS (Nat.blt a jl) (some (.ofNat (Nat.shiftLeft a b))))
  |_,_=>none
 |.uh=>match x,y with
  |.ofNat a,.ofNat b=>bS (Nat.ble b 64) (some (.ofNat (Nat.shiftRight a b)))
  |_,_=>none
 |.kq=>match x,y with
  |.ofNat a,.ofNat b=>some (.ofNat (Nat.land a b))
  |.ofNat a,.negSucc b=>some (.ofNat (a-Nat.land a b))
  |_,_=>none
 |.nU=>match x,y with
  |.ofNat a,.ofNat b=>some (.ofNat (Nat.lor a b))
  |_,_=>none
def Jh(x:ZF)(b:V):Z0 ZF:=Y (yu b) λy=>bS (j2 x) (bS (j2 y) (bS (eC (U x y)) (some (U x y))))
def Gj(x:ZF):Z0 V:=Y (d' x) λy=>match y with
 |.int i=>some (.int i)
 |.bool b=>some (.bool b)
 |_=>none
def mulL(x:ZF)(b:V):Z0 ZF:=Y (lA b) λn=>bS (Nat.blt n b0) (Y (Gj x) λy=>some (j7 [y] n))
def FE(F:qz)(m:Bool)(x:ZF)(b:V)(h:Z):Z0 (V×Z):=match F with
 |.add=>Y (d5 b h) λy=>bS (eC (U x y)) (some (dj m (U x y) h))
 |.mul=>Y (mulL x b) λz=>some (dj m z h)
 |_=>none
def mB(F:qz)(m:Bool)(a b:V)(h:Z):Z0 (V×Z):=match a with
 |.int x=>Y (fq b) λy=>Y (EN F x y) λz=>some (.int z,h)
 |.ay x=>match F with
  |.add=>Y (Jh x b) λz=>some (.ay z,h)
  |_=>none
 |a=>Y (d5 a h) λx=>FE F m x b h
def xI(F:yl)(a:V)(h:Z):Z0 V:=match F with
 |.neg=>Y (fq a) λi=>some (.int (-i))
 |.ag=>Y (fq a) λi=>some (.int (-i-1))
 |.not=>Y (WA a h) λb=>some (.bool (!b))
def la(v:V)(h:Z):Z0 V:=match v with
 |.ref _=>ct 12 h v
 |v=>some v
noncomputable def WE{α:Type}:Z0 α->Bool
 |some _=>true
 |none=>false
def zI(a b:V)(h:Z):Z0 Bool:=Y (gB b h) λc=>match c with
 |.D k T=>Y (fQ k a) λx=>some (WE (bL T x))
 |.L O=>wt a O
 |.T O=>wt a O
def dy(F:r2)(a b:V)(h:Z):Z0 Bool:=match F with
 |.is=>bS (iE b) (some (iE a))
 |.mW=>bS (iE b) (some (!iE a))
 |.eq=>Y (la a h) λa=>Y (la b h) λb=>gs 20 a b
 |.cC=>Y (la a h) λa=>Y (la b h) λb=>Y (gs 20 a b) λr=>some (!r)
 |.kK=>zI a b h
 |.j1=>Y (zI a b h) λr=>some (!r)
 |.lt=>Y (fq a) λx=>Y (fq b) λy=>some (gh x y)
 |.gt=>Y (fq a) λx=>Y (fq b) λy=>some (gh y x)
 |.mP=>Y (fq a) λx=>Y (fq b) λy=>some (!(gh x y))
def vT(O:ZF)(i:V):Z0 V:=Y (fq i) λn=>Y (wV n (Wx O)) λk=>a3 O k
def cZ(v i:V)(h:Z):Z0 V:=Y (gB v h) λc=>match c with
 |.D k T=>Y (fQ k i) λx=>bL T x
 |.L O=>vT O i
 |.T O=>vT O i
def WG(v:V)(h:Z):Z0 (Nat×O):=Y (yt v) λp=>Y (h.get p) λo=>match o with
 |.ae a 0=>some (p,.ae a 0)
 |.ah k T 0=>some (p,.ah k T 0)
 |.ins c P=>some (p,.ins c P)
 |_=>none
def nt(v i x:V)(h:Z):Z0 Z:=Y (WG v h) λq=>match q.2 with
 |.ah k T _=>Y (fQ k i) λy=>bS (eC T) (some (h.set q.1 (.ah k (cU T y x) 0)))
 |.ae O _=>Y (lA i) λk=>bS (Nat.blt k (Wx O)) (some (h.set q.1 (.ae (dU O k x) 0)))
 |.ins _ _=>none
def rR(v:V)(a:Nat)(x:V)(h:Z):Z0 Z:=Y (WG v h) λq=>match q.2 with
 |.ins c P=>bS (n5 P) (some (h.set q.1 (.ins c (Wy P a x))))
 |_=>none
noncomputable def jQ:ZK->ZF->ZD
 |n::r,v::s=>(n,v)::jQ r s
 |_,_=>[]
def lI(K:cy)(O:ZK)(D:ZF):Z0 ZD:=bS (Nat.beq (Wx D+Wx K.d7) (Wx O)) (some (jQ O (U D K.d7)))
noncomputable def gL:ZK->ZF->ZD->Z0 ZD
 |[],[],l=>some l
 |n::r,v::s,l=>gL r s (Wy l n v)
 |_,_,_=>none
def uX(d:ZK)(v:V)(s:bD):Z0 bD:=match d with
 |[n]=>some ⟨Wy s.aj n v,s.h⟩
 |f=>match v with
  |.ay O=>Y (gL f O s.aj) λl=>some ⟨l,s.h⟩
  |_=>none
noncomputable def xg:V->Z0 ZF
 |.ay O=>some O
 |.ae O=>some O
 |_=>none
def hJ(d:ZK)(v:V)(s:bD):Z0 bD:=match d with
 |[n]=>some ⟨Wy s.aj n v,s.h⟩
 |f=>Y (xg v) λO=>Y (gL f O s.aj) λl=>some ⟨l,s.h⟩
def dY(v:V)(h:Z)(D:Bool):Z0 Z:=match v with
 |.ref p=>match h.get p with
  |some (.ae O l)=>match D,l with
   |true,l=>some (h.set p (.ae O (l+1)))
   |false,l+1=>some (h.set p (.ae O l))
   |_,_=>none
  |some (.ah k O l)=>match D,l with
   |true,l=>some (h.set p (.ah k O (l+1)))
   |false,l+1=>some (h.set p (.ah k O l))
   |_,_=>none
  |_=>none
 |_=>some h
def xl(e:E->bD->Z0 (V×Z))(T:dw)(s:bD):Z0 (ZF×V×Z):=match T with
 |.e a=>Y (e a s) λp=>Y (gB p.1 p.2) λc=>match c with
  |.D k d=>match k with
   |.T=>none
   |_=>some (ie d,p.1,p.2)
  |.L O=>some (O,p.1,p.2)
  |.T O=>some (O,p.1,p.2)
 |.range L A=>match L with
  |none=>Y (e A s) λp=>Y (lA p.1) λn=>bS (Nat.blt n b0) (some (i2 0 n,.none,p.2))
  |some L=>Y (e L s) λp=>Y (e A ⟨s.aj,p.2⟩) λq=>Y (lA p.1) λa=>bS (Nat.blt a b0) (Y (fq q.1) λb=>match b with
   |.ofNat b=>bS (Nat.blt b b0) (some (i2 (.ofNat a) (b-a),.none,q.2))
   |.negSucc b=>bS (Nat.blt b b0) (some ([],.none,q.2)))
 |.jn a=>Y (e a s) λp=>Y (d5 p.1 p.2) λO=>some (mK O 0,p.1,p.2)
 |.rO a=>Y (e a s) λp=>Y (d5 p.1 p.2) λO=>some (gm O [],p.1,p.2)
noncomputable def i'{α:Type}(O:List α):List α->List α:=
 O.rec (λ_=>[]) λ_ _ S r=>match r with
  |[]=>[]
  |x::r=>x::S r
def rg(x:List S->bD->Z0 (fG×bD))(d:ZK)(b:List S)(O:ZF):bD->Z0 (fG×bD):=
 O.rec (λs=>some (.next,s)) λv _ a s=>Y (hJ d v s) λc=>Y (x b c) λp=>match p.1 with
  |.next=>a ⟨i' s.aj p.2.aj,p.2.h⟩
  |.ret w=>some (.ret w,p.2)
def sv(e:E->bD->Z0 (V×Z))(d:ZK)(l:E)(B:Z0 E)(r:ZD)(O:ZF):Z->Z0 (ZF×Z):=
 O.rec (λh=>some ([],h)) λv _ S h=>Y (hJ d v ⟨r,h⟩) λs=>match B with
  |none=>Y (e l s) λp=>Y (S p.2) λq=>some (p.1::q.1,q.2)
  |some c=>Y (e c s) λt=>Y (WA t.1 t.2) λb=>match b with
   |true=>Y (e l ⟨s.aj,t.2⟩) λp=>Y (S p.2) λq=>some (p.1::q.1,q.2)
   |false=>S t.2
noncomputable def l9(e:E->bD->Z0 (V×Z))(self:Nat):List S->bD->ZD->Z0 (ZD×Z)
 |[],s,P=>some (P,s.h)
 |.bY (.aS (.F n) a) x::r,s,P=>match Nat.beq n self with
  |true=>Y (e x s) λp=>bS (n5 P) (l9 e self r ⟨s.aj,p.2⟩ (Wy P a p.1))
  |false=>none
 |_,_,_=>none
noncomputable def jt:V->Bool
 |.ref _=>true
 |_=>false
def r'(O:ZD):Bool:=
 O.rec false λm _ S=>match jt m.2 with|true=>true|false=>S
noncomputable def pj(e:E->bD->Z0 (V×Z))(and:Bool):List E->bD->Z0 (V×Z)
 |[],_=>none
 |[a],s=>e a s
 |a::r,s=>Y (e a s) λp=>Y (WA p.1 p.2) λb=>match hI and b with
  |true=>pj e and r ⟨s.aj,p.2⟩
  |false=>some p
noncomputable def t2(e:E->bD->Z0 (V×Z))(k:eU):List E->List E->bD->ZE->Z0 (ZE×Z)
 |[],[],s,d=>some (d,s.h)
 |a::r,b::t,s,d=>Y (e a s) λp=>Y (e b ⟨s.aj,p.2⟩) λq=>Y (fQ k p.1) λx=>t2 e k r t ⟨s.aj,q.2⟩ (cU d x q.1)
 |_,_,_,_=>none
noncomputable def kN{α:Type}(c:Nat->Nat->Z0 Bool):PySem.W.KasT α->Z0 α
 |.ret a=>some a
 |.ask i j k=>match c i j with
  |some b=>kN c (k b)
  |none=>none
def t5(O:ZF)(a:ZK):Z0 ZF:=
 a.rec (some []) λi _ S=>Y (a3 O i) λx=>Y S λl=>some (x::l)
noncomputable def te:V->Bool
 |.ay (.int _::_)=>true
 |_=>false
def Bd(O:ZF):Z0 ZF:=match O with
 |[_]=>some O
 |_=>Y (kN (λi j=>Y (a3 O i) λx=>Y (a3 O j) λy=>oS x y) (PySem.W.kas_sort (Wx O))) λp=>t5 O p.toList
def nB(O:ZF)(m:Bool)(h:Z):Z0 (V×Z):=bS (Nat.blt (Wx O) 64)<|match fR O with
 |some l=>some (dj m ((oP l).map .int) h)
 |none=>bS (O.all te) (Y (Bd O) λl=>bS (eC l) (some (dj m l h)))
noncomputable def tQ:eU->Bool
 |.T=>false
 |_=>true
noncomputable def zM:eU->Bool
 |.I=>true
 |_=>false
noncomputable def tl:V->Bool
 |.ref _=>true
 |_=>false
def WJ(m:Bool)(b:qA)(D:ZF)(h:Z):Z0 (V×Z):=Y (d' D) λv=>match b with
 |.len=>Y (gB v h) λc=>match c with
  |.D k l=>bS (tl v) (bS (tQ k) (some (.int (.ofNat (Wx l)),h)))
  |.L l=>some (.int (.ofNat (Wx l)),h)
  |.T l=>some (.int (.ofNat (Wx l)),h)
 |.rW=>Y (d5 v h) λl=>Y (rX l 0) λn=>some (.int n,h)
 |.sorted=>Y (gB v h) λc=>match c with
  |.D k l=>bS (tl v) (bS (zM k) (nB (ie l) m h))
  |.L l=>nB l m h
  |.T l=>Y (fR l) λ_=>nB l m h
 |.abs=>Y (fq v) λi=>some (.int (.ofNat i.natAbs),h)
 |.int=>match v with
  |.int i=>some (.int i,h)
  |.bool b=>some (.int (match b with|true=>1|false=>0),h)
  |_=>none
 |.str=>none
 |.tuple=>Y (d5 v h) λl=>some (.ay l,h)
 |.list=>Y (d5 v h) λl=>some (dj m l h)
 |.dict k=>bS (tQ k)<|Y (d5 v h) λl=>Y (kW k l []) λd=>some (.ref h.n,h.new (.ah k d 0))
structure km where
 append:Nat
 lJ:Nat
 f5:Nat
 get:Nat
 iD:Nat
 rV:Nat
noncomputable def rM:ZK->ZK->Bool
 |[],_=>true
 |a::r,b::s=>match Nat.beq a b with|true=>rM r s|false=>false
 |_,_=>false
noncomputable def rJ{α:Type}(d:α):Z0 α->α
 |some v=>v
 |none=>d
def gC(k:eU)(T:ZE)(D:ZF):Z0 V:=match D with
 |[]=>none
 |x::r=>Y (fQ k x) λy=>match r with
  |[]=>some (rJ .none (bL T y))
  |d::t=>match t with
   |[]=>some (rJ d (bL T y))
   |_::_=>none
def Ae(N:km)(v:V)(m:Nat)(D:ZF)(h:Z):Z0 V:=match v with
 |.str x=>bS (Nat.beq m N.rV) (Y (d' D) λy=>Y (uQ y) λy=>some (.bool (rM y.cps.toList x.cps.toList)))
 |v=>Y (gB v h) λc=>match c with
  |.D k T=>bS (Nat.beq m N.get) (gC k T D)
  |.L O=>bS (!tl v) (bS (Nat.beq m N.iD) (Y (d' D) λx=>Y (vU x O 0) λi=>some (.int (.ofNat i))))
  |.T _=>none
def wZ(O:ZF)(D:ZF):Z0 (V×ZF):=match D with
 |[]=>match gm O []with
  |x::r=>some (x,gm r [])
  |[]=>none
 |x::t=>match t with
  |[]=>Y (lA x) λn=>match n with
   |0=>match O with
    |x::r=>some (x,r)
    |[]=>none
   |_+1=>none
  |_::_=>none
def wu(N:km)(p:Nat)(O:ZF)(m:Nat)(D:ZF)(h:Z):Z0 (V×Z):=match Nat.beq m N.append with
 |true=>Y (d' D) λx=>bS (eC O) (some (.none,h.set p (.ae (U O [x]) 0)))
 |false=>match Nat.beq m N.lJ with
  |true=>Y (d' D) λx=>Y (d5 x h) λl=>bS (eC (U O l)) (some (.none,h.set p (.ae (U O l) 0)))
  |false=>bS (Nat.beq m N.f5) (Y (wZ O D) λr=>some (r.1,h.set p (.ae r.2 0)))
def tm(N:km)(v:V)(m:Nat)(h:Z):Z0 (Nat×O):=match Nat.beq m N.get with
 |true=>none
 |false=>WG v h
def iH(N:km)(v:V)(m:Nat)(D:ZF)(h:Z):Z0 (V×Z):=match tm N v m h with
 |some q=>match q.2 with
  |.ae O _=>wu N q.1 O m D h
  |.ah k T _=>bS (Nat.beq m N.f5) (bS (zM k) (Y (d' D) λx=>Y (fq x) λn=>Y (bL T (.i n)) λw=>some (w,h.set q.1 (.ah .I (gR T (.i n)) 0))))
  |.ins _ _=>none
 |none=>Y (Ae N v m D h) λw=>some (w,h)
def iN(v:V)(h:Z):Nat:=match v with
 |.str _=>3
 |.ae _=>1
 |.ah _ _=>2
 |.ref p=>match h.get p with
  |some (.ae _ _)=>1
  |some (.ah _ _ _)=>2
  |_=>0
 |_=>0
def ku(v:V)(h:Z):ZL:=match v with
 |.ins c _ _=>some c
 |.ref p=>match h.get p with
  |some (.ins c _)=>some c
  |_=>none
 |_=>none
def sV(v:V)(h:Z):Z0 (V×Z):=match v with
 |.ref p=>match h.get p with
  |some (.ae O 0)=>Y (f3 (ct 11 Z.bj) O) λl=>some (.ae l,h.ho p)
  |some (.ah k T 0)=>Y (gW (ct 11 Z.bj) T) λl=>some (.ah k l,h.ho p)
  |_=>none
 |v=>some (v,h)
noncomputable def ql:V->Bool
 |.none=>true|.bool _=>true|.int _=>true|.str _=>true
 |_=>false
def k9(d:ll)(I:S)(s:bD):Z0 (fG×bD):=match I with
 |.eF=>some (.next,s)
 |.hk=>none
 |.bY t e=>match t with
  |.F n=>Y (d.e e s) λp=>some (.next,⟨Wy s.aj n p.1,p.2⟩)
  |.aS o a=>Y (d.e e s) λp=>Y (d.e o ⟨s.aj,p.2⟩) λq=>Y (rR q.1 a p.1 q.2) λh=>some (.next,⟨s.aj,h⟩)
  |.sub o i=>Y (d.e e s) λp=>Y (d.e o ⟨s.aj,p.2⟩) λq=>Y (d.e i ⟨s.aj,q.2⟩) λr=>Y (nt q.1 r.1 p.1 r.2) λh=>some (.next,⟨s.aj,h⟩)
  |.ay f=>Y (d.e e s) λp=>Y (uX f p.1 ⟨s.aj,p.2⟩) λs=>some (.next,s)
 |.pe n F e=>match F with
  |.add=>Y (au s.aj n) λv=>Y (fq v) λx=>Y (d.e e s) λp=>Y (fq p.1) λy=>some (.next,⟨Wy s.aj n (.int (x+y)),p.2⟩)
  |_=>none
 |.expr e=>Y (d.e e s) λp=>bS (ql p.1) (some (.next,⟨s.aj,p.2⟩))
 |.ret e=>match e with
  |none=>some (.ret .none,s)
  |some e=>Y (d.e e s) λp=>some (.ret p.1,⟨s.aj,p.2⟩)
 |.ite t a b=>Y (d.e t s) λp=>Y (WA p.1 p.2) λc=>match c with
  |true=>d.x a ⟨s.aj,p.2⟩
  |false=>d.x b ⟨s.aj,p.2⟩
 |.iq t b=>d.w t b s
 |.b5 g T b=>Y (xl d.e T s) λp=>Y (dY p.2.1 p.2.2 true) λh=>Y (rg d.x g b p.1 ⟨s.aj,h⟩) λq=>Y (dY p.2.1 q.2.h false) λh=>some (q.1,⟨q.2.aj,h⟩)
def ht(m:Nat):Nat:=aai (m % 4096)
def rv(m:Nat):Nat:=aai (m/4096)
def Mx(P:qG)(N:km)(S:ll)(e:E)(s:bD):Z0 (V×Z):=match e with
 |.lit v=>some (v,s.h)
 |.d9 v=>some (v,s.h)
 |.F n=>Y (au s.aj n) λv=>some (v,s.h)
 |.aS e a=>Y (S.e e s) λp=>Y (bM p.2 p.1 a) λv=>some (v,p.2)
 |.a7 F m a b=>Y (S.e a s) λp=>Y (S.e b ⟨s.aj,p.2⟩) λq=>mB F m p.1 q.1 q.2
 |.c6 F a=>Y (S.e a s) λp=>Y (xI F p.1 p.2) λv=>some (v,p.2)
 |.aw F a b=>Y (S.e a s) λp=>Y (S.e b ⟨s.aj,p.2⟩) λq=>Y (dy F p.1 q.1 q.2) λr=>some (.bool r,q.2)
 |.kx K g a b c=>Y (S.e a s) λp=>Y (S.e b ⟨s.aj,p.2⟩) λq=>Y (dy K p.1 q.1 q.2) λr=>match r with
  |true=>Y (S.e c ⟨s.aj,q.2⟩) λt=>Y (dy g q.1 t.1 t.2) λr=>some (.bool r,t.2)
  |false=>some (.bool false,q.2)
 |.bool and G=>pj S.e and G s
 |.ite t a b=>Y (S.e t s) λp=>Y (WA p.1 p.2) λc=>match c with
  |true=>S.e a ⟨s.aj,p.2⟩
  |false=>S.e b ⟨s.aj,p.2⟩
 |.ay G=>Y (h8 S.e G s) λp=>some (.ay p.1,p.2)
 |.ae m G=>Y (h8 S.e G s) λp=>some (dj m p.1 p.2)
 |.ah k R D=>Y (t2 S.e k R D s []) λp=>some (.ref p.2.n,p.2.new (.ah k p.1 0))
 |.sub e i=>Y (S.e e s) λp=>Y (S.e i ⟨s.aj,p.2⟩) λq=>Y (cZ p.1 q.1 q.2) λv=>some (v,q.2)
 |.gn m e L A=>Y (S.e e s) λp=>match L with
  |some a=>match A with
   |none=>Y (S.e a ⟨s.aj,p.2⟩) λq=>Y (rr p.1 q.2) λO=>Y (lA q.1) λn=>some (dj m (q6 O n) q.2)
   |some _=>none
  |none=>Y A λb=>Y (S.e b ⟨s.aj,p.2⟩) λq=>Y (rr p.1 q.2) λO=>Y (lA q.1) λn=>some (dj m (mg O n) q.2)
 |.oH m e=>Y (S.e e s) λp=>Y (rr p.1 p.2) λO=>some (dj m (gm O []) p.2)
 |.call k f G=>Y (h8 S.e G s) λp=>S.c k f p.1 p.2
 |.bI e=>Y (S.e e s) λp=>sV p.1 p.2
 |.new c G=>Y (h8 S.e G s) λp=>S.c .eg c p.1 p.2
 |.aC e m G=>Y (S.e e s) λp=>match ku p.1 p.2 with
  |some c=>match bM p.2 p.1 (ht m)with
   |none=>Y (P.cls c) λk=>Y (au k.kS (ht m)) λf=>bS (Nat.ble (P.kZ f) (rv m)) (Y (h8 S.e G ⟨s.aj,p.2⟩) λq=>S.c .inl f (p.1::q.1) q.2)
   |some _=>none
  |none=>Y (h8 S.e G ⟨s.aj,p.2⟩) λq=>bS (Nat.beq (iN p.1 p.2) (iN p.1 q.2)) (iH N p.1 (ht m) q.1 q.2)
 |.bq m b G=>Y (h8 S.e G s) λp=>WJ m b p.1 p.2
 |.comp m l j T B=>Y (xl S.e T s) λp=>bS (eC p.1) (Y (dY p.2.1 p.2.2 true) λh=>Y (sv S.e j l B s.aj p.1 h) λq=>Y (dY p.2.1 q.2 false) λh=>some (dj m q.1 h))
 |.k' c q f G=>Y (au s.aj q) λv=>Y (yt v) λp=>Y (s.h.get p) λo=>match o with
  |.ins d _=>bS (Nat.beq c d) (Y (h8 S.e G s) λr=>S.c .inl f (v::r.1) r.2)
  |_=>none
def t9(x:Z0 (fG×bD)):Z0 (V×Z):=Y x λq=>match q.1 with
 |.next=>some (.none,q.2.h)
 |.ret v=>some (v,q.2.h)
def WH(P:qG)(N:km)(S:ll):ll where
 e:=Mx P N S
 x:=λb s=>match b with
  |[]=>some (.next,s)
  |j::r=>Y (k9 S j s) λp=>match p.1 with
    |.next=>S.x r p.2
    |.ret v=>some (.ret v,p.2)
 w:=λt b s=>Y (S.e t s) λp=>Y (WA p.1 p.2) λc=>match c with
  |true=>Y (S.x b ⟨s.aj,p.2⟩) λq=>match q.1 with
   |.next=>S.w t b ⟨i' s.aj q.2.aj,q.2.h⟩
   |.ret v=>some (.ret v,q.2)
  |false=>some (.next,⟨s.aj,p.2⟩)
 c:=λk f D h=>match k with
  |.inl=>Y (P.fM f) λK=>Y (lI K K.ak D) λl=>t9 (S.x K.body ⟨l,h⟩)
  |.pure=>bS (dR (cg 60) D) (match P.j3 f D with
   |some r=>some (r,h)
   |none=>Y (P.fM f) λK=>Y (lI K K.ak D) λl=>Y (t9 (S.x K.body ⟨l,Z.bj⟩)) λq=>Y (ct 12 q.2 q.1) λw=>bS (cg 60 w) (some (w,h)))
  |.nV=>Y (f3 (ct 12 h) D) λD=>Y (S.c .pure f D Z.bj) λq=>bS (ql q.1) (some (q.1,h))
  |.eg=>Y (P.cls f) λk=>match k.init with
   |none=>bS k.qf (match D with
    |[]=>some (.ins f false [],h)
    |_::_=>none)
   |some i=>match k.qf with
    |true=>Y (P.fM i) λK=>match K.ak with
     |self::O=>Y (lI K O D) λl=>Y (l9 S.e self K.body ⟨l,h⟩ []) λq=>some (.ins f (r' q.1) q.1,q.2)
     |[]=>none
    |false=>Y (S.c .inl i (.ref h.n::D) (h.new (.ins f []))) λq=>bS (iE q.1) (some (.ref h.n,q.2))
def vl:ll:=aai ⟨λ_ _=>none,λ_ _=>none,λ_ _ _=>none,λ_ _ _ _=>none⟩
noncomputable def aD(P:qG)(N:km):Nat->ll
 |0=>vl
 |n+1=>WH P N (aD P N n)
noncomputable def j(l:ZK):ZV:=⟨⟨l⟩⟩
abbrev Z1:=j [69]
abbrev Z2:=j [97]
abbrev Z3:=j [115,104,105,102,116,47,114,101,100,117,99,101]
abbrev Z4:=j [114,101,100,117,99,101]
abbrev Z5:=j [110,111,110,101]
abbrev Z6:=j [115,104,105,102,116]
abbrev Z7:=j [108,101,102,116]
abbrev Z8:=j [114,105,103,104,116]
abbrev Z9:=j [110,111,110,97,115,115,111,99]
abbrev Z':=j [98,97,114]
abbrev aaa:=j [39,33,39]
abbrev aab:=j [112,114,101,99,101,100,101,110,99,101]
abbrev aac:=j [36,97,99,99,101,112,116]
def ai(i:Int):E:=aai (.lit (.int i))
def aU(n:Nat):E:=aai (.aS (.F 6) n)
def aQ(n:Nat)(e:E):S:=aai (.bY (.F n) e)
def bu(n:Nat)(e:E):S:=aai (.bY (.aS (.F 6) n) e)
noncomputable def bA{α:Type}(v:α)(l r:bo α):bo α:=.node (some v) l r
noncomputable def b9{α:Type}(v:α):bo α:=.node (some v) .nil .nil
def Rj:List String:=aai ["append","extend","pop","get","index","startswith","self","at","told","kind","text","worth","found","mask","left","names","terminal_count","lefts","lengths","befores","defaults","numbers","number","name","rule","state","terminal","nonterminal","explicit","default","way","rules","chosen","grammar","right","before","rows","gotos","conflicts","settled","mode","levels","level_of","own","other","shifts","symbol","moves","looks","reductions","masks","barred","look","settle_one","row","pair","counts","best","automaton","states","maker","settle_levels","with_defaults","children","done","node","is_leaf","token","start","tree","line","child","values","control","tables","expected","accepted","value","faults","tokens","handler","most","lone","begin","looked","count","answer","pull","needs","source","next_token","step","outcome","lone_rule","is_consistent","move","reduce","terminal_of","action","note","finish","shift","is_established","fail","goal","length","first","act","kept","go_on","goto","tell_fault","parse","expect","by_left","offsets","owners","item_count","dot","item","known","lacking","users","queue","missing","symbol_count","middle","one","kernel","items","firsts","after","wanted","rules_of","added","rule_of","dot_of","ordered","here","symbols","closer","close","behind","number_of","expand","built","nullables","solid","others","is_terminal","order","placed","many","reach","later","spot","end","word","cell","script","pen","digit","some","signs","ahead","every","sign","prec","sides","lines","world","made","is_ahead","parts","part","due","machine","walk","held","under","turn","is_short","more","trees","taken","conflict","what"]
def lK:cy:=⟨[6],[],[.ite (.aw .is (aU 7) (.lit .none)) [.ret (some (.ay [(ai 0),(ai 0)]))] [],.ret (some (.aC (aU 7) 4104 []))]⟩
def sP:cy:=aai ⟨[6,9,10,7,11],[.none],[bu 9 (.F 9),bu 10 (.F 10),bu 7 (.F 7),bu 11 (.ite (.aw .is (.F 11) (.lit .none)) (.F 10) (.F 11))]⟩
def Ds:cy:=aai ⟨[6],[],[.ret (some (.ay [(aU 9),(aU 10)]))]⟩
def vu:cy:=⟨[13],[],[aQ 12 (.ae true []),aQ 7 (ai 0),aQ 14 (.F 13),.iq (.aw .gt (.F 14) (ai 0)) [.ite (.aw .eq (.a7 .kq false (.F 14) (ai 1)) (ai 1)) [.expr (.aC (.F 12) 0 [(.F 7)])] [],aQ 14 (.a7 .uh false (.F 14) (ai 1)),aQ 7 (.a7 .add false (.F 7) (ai 1))],.ret (some (.F 12))]⟩
def Du:cy:=aai ⟨[6,15,16,17,18,19],[],[bu 15 (.F 15),bu 16 (.F 16),bu 17 (.F 17),bu 18 (.F 18),bu 19 (.F 19),bu 20 (.ae true []),bu 21 (.ah .S [] []),.b5 [22] (.range none (.F 16)) [.bY (.sub (aU 21) (.sub (.F 15) (.F 22))) (.F 22)]]⟩
def sO:cy:=aai ⟨[6,25,26],[],[.hk]⟩
def y5:cy:=aai ⟨[6,25],[],[.ret (some (.sub (aU 20) (.F 25)))]⟩
def y6:cy:=aai ⟨[6,25,27],[],[.hk]⟩
def Dm:cy:=⟨[6,25,26],[],[aQ 8 (.aC (.F 6) 4124 [(.F 25),(.F 26)]),.ite (.aw .eq (.F 8) (.d9 (.int (-1048576)))) [.ret (some (ai 0))] [],.ite (.aw .eq (.F 8) (ai 0)) [.ret (some (.c6 .neg (.aC (.F 6) 4125 [(.F 25)])))] [],.ret (some (.F 8))]⟩
def vp:cy:=⟨[6,25],[],[aQ 12 (.ae true []),.b5 [26] (.range none (aU 16)) [.ite (.bool true [(.aw .cC (.F 26) (.d9 (.int 1))),(.aw .cC (.F 26) (.d9 (.int 2)))]) [aQ 8 (.aC (.F 6) 4124 [(.F 25),(.F 26)]),.ite (.bool true [(.aw .cC (.F 8) (ai 0)),(.aw .cC (.F 8) (.d9 (.int (-1048576))))]) [.expr (.aC (.F 12) 4096 [(.F 26)])] []] []],.ret (some (.F 12))]⟩
def Dn:cy:=⟨[6,25],[],[.ite (.aw .eq (.aC (.F 6) 4125 [(.F 25)]) (ai 0)) [.ret (some (.lit (.bool false)))] [],.b5 [26] (.range none (aU 16)) [.ite (.aw .cC (.aC (.F 6) 4124 [(.F 25),(.F 26)]) (ai 0)) [.ret (some (.lit (.bool false)))] []],.ret (some (.lit (.bool true)))]⟩
def pE:cy:=aai ⟨[6,33,36,37,20,38,39,40],[],[aQ 17 (.comp false (.aS (.F 24) 14) [24] (.e (.aS (.F 33) 31)) none),aQ 18 (.comp false (.bq false .len [(.aS (.F 24) 34)]) [24] (.e (.aS (.F 33) 31)) none),aQ 19 (.comp false (.aS (.F 24) 35) [24] (.e (.aS (.F 33) 31)) none),.expr (.k' 7 6 7 [(.aS (.F 33) 15),(.aS (.F 33) 16),(.F 17),(.F 18),(.F 19)]),bu 33 (.F 33),bu 36 (.F 36),bu 37 (.F 37),bu 20 (.F 20),bu 38 (.F 38),bu 39 (.F 39),bu 40 (.F 40)]⟩
def vr:cy:=⟨[33,24,26],[],[aQ 43 (.aC (.aS (.F 33) 41) 3 [(.aS (.sub (.aS (.F 33) 31) (.F 24)) 42)]),aQ 44 (.aC (.aS (.F 33) 41) 3 [(.F 26)]),.ite (.bool false [(.aw .is (.F 43) (.lit .none)),(.aw .is (.F 44) (.lit .none))]) [.ret (some (.lit .none))] [],.ite (.aw .gt (.sub (.F 43) (ai 0)) (.sub (.F 44) (ai 0))) [.ret (some (.lit (.str Z4)))] [],.ite (.aw .lt (.sub (.F 43) (ai 0)) (.sub (.F 44) (ai 0))) [.ret (some (.lit (.str Z6)))] [],.ite (.aw .eq (.sub (.F 44) (ai 1)) (.lit (.str Z7))) [.ret (some (.lit (.str Z4)))] [],.ite (.aw .eq (.sub (.F 44) (ai 1)) (.lit (.str Z8))) [.ret (some (.lit (.str Z6)))] [],.ite (.aw .eq (.sub (.F 44) (ai 1)) (.lit (.str Z9))) [.ret (some (.lit (.str Z')))] [],.ret (some (.lit .none))]⟩
def vs:cy:=⟨[6,33,25,50],[],[bu 33 (.F 33),bu 22 (.aS (.F 25) 22),bu 45 (.ah .I [] []),bu 37 (.ah .I [] []),.b5 [46] (.e (.aS (.F 25) 47)) [.ite (.aw .eq (.F 46) (.d9 (.int 0))) [.bY (.sub (aU 45) (.F 46)) (.d9 (.int 1048576))] [.ite (.aw .lt (.F 46) (.aS (.F 33) 16)) [.bY (.sub (aU 45) (.F 46)) (.sub (.aS (.F 25) 47) (.F 46))] [.bY (.sub (aU 37) (.F 46)) (.sub (.aS (.F 25) 47) (.F 46))]]],bu 48 (.ae true []),.b5 [24] (.e (.aS (.F 25) 49)) [.expr (.aC (aU 48) 0 [(.ae true [(.F 24),(.aC (.F 50) 3 [(.ay [(.aS (.F 25) 22),(.F 24)]),(ai 0)])])])],bu 51 (ai 0),bu 39 (.ae true [])]⟩
def y7:cy:=⟨[6],[],[.b5 [52] (.e (aU 48)) [.b5 [26] (.e (.call .pure 6 [(.sub (.F 52) (ai 1))])) [aQ 30 (.lit .none),.ite (.aw .kK (.F 26) (aU 45)) [aQ 30 (.call .inl 25 [(aU 33),(.sub (.F 52) (ai 0)),(.F 26)])] [],.ite (.aw .mW (.F 30) (.lit .none)) [.expr (.aC (.F 6) 12341 [(.F 52),(.F 26),(.F 30)])] []]]]⟩
def y8:cy:=⟨[6,52,26,30],[],[aQ 32 (.sub (aU 45) (.F 26)),.ite (.aw .eq (.F 30) (.lit (.str Z4))) [aQ 32 (.c6 .neg (.sub (.F 52) (ai 0)))] [],.ite (.aw .eq (.F 30) (.lit (.str Z'))) [aQ 32 (.d9 (.int (-1048576))),bu 51 (.a7 .nU false (aU 51) (.a7 .jz false (ai 1) (.F 26)))] [],.ite (.aw .cC (.F 30) (.lit (.str Z4))) [.bY (.sub (.F 52) (ai 1)) (.a7 .kq false (.sub (.F 52) (ai 1)) (.c6 .ag (.a7 .jz false (ai 1) (.F 26))))] [],.ite (.aw .cC (.F 30) (.lit (.str Z6))) [.expr (.aC (aU 45) 8194 [(.F 26)])] [],.expr (.aC (aU 39) 8192 [(.new 6 [(aU 22),(.F 26),(.lit (.str Z3)),(.ay [(.sub (.F 52) (ai 0))]),(.F 32)])])]⟩
def y9:cy:=⟨[6],[],[aQ 54 (.a7 .mul true (.ae false [(ai 0)]) (.aS (aU 33) 16)),.b5 [52] (.rO (aU 48)) [.b5 [26] (.e (.call .pure 6 [(.sub (.F 52) (ai 1))])) [.bY (.sub (.F 54) (.F 26)) (.c6 .neg (.sub (.F 52) (ai 0)))]],.b5 [26] (.e (aU 45)) [.bY (.sub (.F 54) (.F 26)) (.sub (aU 45) (.F 26))],.b5 [26] (.e (.call .pure 6 [(aU 51)])) [.bY (.sub (.F 54) (.F 26)) (.d9 (.int (-1048576)))],.ret (some (.bI (.F 54)))]⟩
def Dp:cy:=⟨[6,54],[],[aQ 12 (.ae true []),.b5 [26] (.range none (.aS (aU 33) 16)) [aQ 31 (.comp false (.sub (.F 52) (ai 0)) [52] (.e (aU 48)) (some (.a7 .kq false (.sub (.F 52) (ai 1)) (.a7 .jz false (ai 1) (.F 26))))),.ite (.bool true [(.F 31),(.aw .kK (.F 26) (aU 45))]) [.expr (.aC (.F 12) 8192 [(.new 6 [(aU 22),(.F 26),(.lit (.str Z3)),(.bq false .tuple [(.F 31)]),(.sub (.F 54) (.F 26))])])] [],.b5 [44] (.e (.gn false (.F 31) (some (ai 1)) none)) [aQ 55 (.ay [(.sub (.F 31) (ai 0)),(.F 44)]),.expr (.aC (.F 12) 8192 [(.new 6 [(aU 22),(.F 26),(.lit (.str (j [114,101,100,117,99,101,47,114,101,100,117,99,101]))),(.F 55),(.sub (.F 54) (.F 26))])])]],.ret (some (.bI (.F 12)))]⟩
def y':cy:=⟨[54],[],[.ite (.aw .gt (.sub (.F 54) (.d9 (.int 1))) (ai 0)) [.ret (some (ai 0))] [],aQ 56 (.ah .I [] []),.b5 [22] (.e (.F 54)) [.ite (.kx .lt .lt (.d9 (.int (-1048576))) (.F 22) (ai 0)) [.bY (.sub (.F 56) (.c6 .neg (.F 22))) (.a7 .add false (.aC (.F 56) 3 [(.c6 .neg (.F 22)),(ai 0)]) (ai 1))] []],aQ 57 (ai 0),.b5 [24] (.e (.bq false .sorted [(.F 56)])) [.ite (.bool false [(.aw .eq (.F 57) (ai 0)),(.aw .gt (.sub (.F 56) (.F 24)) (.sub (.F 56) (.F 57)))]) [aQ 57 (.F 24)] []],.ret (some (.F 57))]⟩
def sQ:cy:=⟨[58,50,62,40],[(.str (j [108,97,108,114]))],[aQ 36 (.ae true []),aQ 37 (.ae true []),aQ 20 (.ae true []),aQ 38 (.ae true []),aQ 39 (.ae true []),.b5 [25] (.e (.aS (.F 58) 59)) [aQ 60 (.new 8 [(.aS (.F 58) 33),(.F 25),(.F 50)]),.expr (.aC (.F 60) 16445 []),aQ 54 (.aC (.F 60) 16438 []),.expr (.aC (.F 38) 16385 [(.aC (.F 60) 16422 [(.F 54)])]),.expr (.aC (.F 39) 16385 [(.aS (.F 60) 39)]),aQ 24 (ai 0),.ite (.F 62) [aQ 24 (.call .nV 31 [(.F 54)])] [],.ite (.aw .cC (.F 24) (ai 0)) [aQ 54 (.call .inl 32 [(.F 54),(.F 24)])] [],.expr (.aC (.F 36) 16384 [(.F 54)]),.expr (.aC (.F 37) 16384 [(.bI (.aS (.F 60) 37))]),.expr (.aC (.F 20) 16384 [(.F 24)])],.ret (some (.new 7 [(.aS (.F 58) 33),(.F 36),(.F 37),(.F 20),(.F 38),(.F 39),(.F 40)]))]⟩
def Dr:cy:=⟨[6],[],[aQ 64 (.ae true []),.b5 [65] (.e (.call .pure 47 [(.F 6)])) [.ite (.aC (.F 65) 4162 []) [.expr (.aC (.F 64) 4096 [(.aC (.aS (.F 65) 67) 4104 [])])] [aQ 68 (.a7 .sub false (.bq false .len [(.F 64)]) (.bq false .len [(.aS (.F 65) 63)])),aQ 64 (.a7 .add true (.gn false (.F 64) none (some (.F 68))) (.ae false [(.a7 .add false (.ay [(.aS (.F 65) 23)]) (.bq false .tuple [(.gn false (.F 64) (some (.F 68)) none)]))]))]],.ret (some (.sub (.F 64) (ai 0)))]⟩
def vt:cy:=aai ⟨[6],[],[.ret (some (.lit (.bool true)))]⟩
def za:cy:=aai ⟨[69],[],[aQ 12 (.ae true []),aQ 70 (.ae true [(.F 69)]),.iq (.aw .cC (.F 70) (.ae false [])) [aQ 65 (.aC (.F 70) 2 []),.expr (.aC (.F 12) 0 [(.F 65)]),.b5 [71] (.e (.aS (.F 65) 63)) [.expr (.aC (.F 70) 0 [(.F 71)])]],.ret (some (.oH false (.F 12)))]⟩
def Dt:cy:=aai ⟨[6,67,25,75,4],[],[bu 67 (.F 67),bu 25 (.F 25),bu 75 (.F 75),bu 4 (.F 4)]⟩
def zb:cy:=⟨[6,89],[],[.expr (.aC (.F 6) 24659 []),.iq (.aw .eq (aU 86) (.lit (.str (j [109,111,114,101])))) [.ite (.aC (.F 6) 24664 []) [.expr (.aC (.F 6) 24628 [(.aC (.F 89) 24666 [])])] [],.expr (.aC (.F 6) 24667 [])],.ret (some (.aC (.F 6) 24668 []))]⟩
def pF:cy:=⟨[6],[],[aQ 25 (.sub (aU 59) (.c6 .neg (ai 1))),aQ 82 (.aC (.F 6) 20573 [(.F 25)]),.ite (.aw .gt (.F 82) (ai 0)) [.expr (.aC (.F 6) 20576 [(.F 82)]),.ret none] [],aQ 26 (.aC (.F 6) 20577 [(aU 84)]),aQ 98 (.aC (aU 74) 20578 [(.F 25),(.F 26)]),.ite (.aw .eq (.F 98) (.d9 (.int 1048576))) [.expr (.aC (.F 6) 20579 [(.ay [(.lit (.str (j [97,99,99,101,112,116])))])]),.expr (.aC (.F 6) 20580 [(.lit (.str (j [97,99,99,101,112,116,101,100]))),(.sub (aU 72) (.c6 .neg (ai 1)))])] [.ite (.aw .gt (.F 98) (ai 0)) [.expr (.aC (.F 6) 20581 [(.F 98)])] [.ite (.bool true [(.aw .lt (.F 98) (ai 0)),(.aC (.F 6) 20582 [(.F 26)])]) [.expr (.aC (.F 6) 20576 [(.a7 .sub false (ai 0) (.F 98))])] [.expr (.aC (.F 6) 20583 [(.F 26)])]]]]⟩
def Dv:cy:=⟨[6],[],[aQ 15 (.comp false (.sub (.aS (aU 74) 15) (.F 22)) [22] (.e (.aC (.F 6) 12363 [])) none),.expr (.aC (aU 78) 12288 [(.new 13 [(aU 84),(.sub (aU 59) (.c6 .neg (ai 1))),(.F 15),(.a7 .sub false (aU 85) (ai 1))])])]⟩
def Dh:cy:=aai ⟨[33],[],[.ret (some (.aC (.new 22 [(.F 33)]) 24721 []))]⟩
def Di:cy:=⟨[33],[],[aQ 146 (.call .inl 98 [(.F 33)]),aQ 88 (.ah .I [] []),.b5 [46] (.range (some (.aS (.F 33) 16)) (.aC (.F 33) 8317 [])) [.bY (.sub (.F 88) (.F 46)) (.ah .I [] [])],.b5 [24] (.e (.aS (.F 33) 31)) [aQ 147 (.comp false (.F 46) [46] (.e (.aS (.F 24) 34)) (some (.c6 .not (.sub (.F 146) (.F 46))))),.b5 [46] (.e (.aS (.F 24) 34)) [aQ 148 (.ite (.sub (.F 146) (.F 46)) (.bq false .len [(.F 147)]) (.a7 .sub false (.bq false .len [(.F 147)]) (ai 1))),.ite (.bool true [(.aw .eq (.F 148) (ai 0)),(.c6 .not (.aC (.F 33) 8341 [(.F 46)]))]) [.bY (.sub (.sub (.F 88) (.aS (.F 24) 14)) (.F 46)) (.lit (.bool true))] []]],aQ 150 (.ae true []),aQ 151 (.ah .I [] []),.iq (.aw .lt (.bq false .len [(.F 150)]) (.bq false .len [(.F 88)])) [aQ 152 (.bq false .len [(.F 150)]),.b5 [46] (.e (.F 88)) [.ite (.bool true [(.aw .j1 (.F 46) (.F 151)),(.aw .eq (.comp false (.F 127) [127] (.e (.sub (.F 88) (.F 46))) (some (.aw .j1 (.F 127) (.F 151)))) (.ae false []))]) [.bY (.sub (.F 151) (.F 46)) (.lit (.bool true)),.expr (.aC (.F 150) 8192 [(.F 46)])] []],.ite (.aw .eq (.bq false .len [(.F 150)]) (.F 152)) [.hk] []],.ret (some (.F 150))]⟩
def Dj:cy:=⟨[34,157,83,156,56],[],[aQ 153 (.ah .I [(.F 83)] [(ai 1)]),.b5 [46] (.e (.F 34)) [aQ 154 (.ah .I [] []),.b5 [155] (.e (.F 153)) [.ite (.bool true [(.aw .lt (.F 155) (.F 156)),(.aw .eq (.sub (.F 157) (.F 155)) (.F 46))]) [.bY (.sub (.F 154) (.a7 .add false (.F 155) (ai 1))) (.a7 .add false (.aC (.F 154) 3 [(.a7 .add false (.F 155) (ai 1)),(ai 0)]) (.sub (.F 153) (.F 155)))] [],.b5 [104] (.range (some (.F 155)) (.a7 .add false (.F 156) (ai 1))) [aQ 152 (.aC (.F 56) 3 [(.ay [(.F 46),(.F 155),(.F 104)]),(ai 0)]),.ite (.aw .gt (.F 152) (ai 0)) [.bY (.sub (.F 154) (.F 104)) (.a7 .add false (.aC (.F 154) 3 [(.F 104),(ai 0)]) (.a7 .mul false (.sub (.F 153) (.F 155)) (.F 152)))] []]],aQ 153 (.F 154)],.ret (some (.aC (.F 153) 3 [(.F 156),(ai 0)]))]⟩
def Dk:cy:=⟨[33,157],[],[aQ 150 (.call .pure 121 [(.F 33)]),aQ 56 (.ah .T [] []),.b5 [105] (.range none (.a7 .add false (.bq false .len [(.F 157)]) (ai 1))) [.b5 [83] (.range none (.a7 .sub false (.a7 .add false (.bq false .len [(.F 157)]) (ai 1)) (.F 105))) [.b5 [46] (.e (.F 150)) [aQ 152 (ai 0),.b5 [24] (.e (.aC (.F 33) 12421 [(.F 46)])) [aQ 152 (.a7 .add false (.F 152) (.call .nV 122 [(.aS (.sub (.aS (.F 33) 31) (.F 24)) 34),(.F 157),(.F 83),(.a7 .add false (.F 83) (.F 105)),(.F 56)]))],.ite (.aw .gt (.F 152) (ai 0)) [.bY (.sub (.F 56) (.ay [(.F 46),(.F 83),(.a7 .add false (.F 83) (.F 105))])) (.F 152)] []]]],.ret (some (.aC (.F 56) 12291 [(.ay [(.sub (.aS (.sub (.aS (.F 33) 31) (ai 0)) 34) (ai 0)),(ai 0),(.bq false .len [(.F 157)])]),(ai 0)]))]⟩
def y4:cy:=⟨[160,152],[],[.bY (.sub (.F 160) (ai 1)) (.a7 .add false (.sub (.F 160) (ai 1)) (ai 1)),.ite (.bool true [(.aw .eq (.sub (.F 160) (ai 2)) (ai 0)),(.aw .cC (.sub (.F 160) (ai 0)) (.ae false []))]) [.bY (.sub (.F 160) (ai 2)) (.aC (.sub (.F 160) (ai 0)) 2 [(ai 0)])] [],aQ 161 (.a7 .tI false (.bq false .int [(.sub (.F 160) (ai 2))]) (.F 152)),.bY (.sub (.F 160) (ai 2)) (.a7 .fdiv false (.bq false .int [(.sub (.F 160) (ai 2))]) (.F 152)),.ret (some (.a7 .tI false (.a7 .add false (.F 161) (.sub (.F 160) (ai 1))) (.F 152)))]⟩
def jo:cy:=⟨[160],[],[aQ 163 (.gn false (.ae false [(.lit (.str (j [39,43,39]))),(.lit (.str (j [39,42,39]))),(.lit (.str (j [39,60,39])))]) none (some (.a7 .add false (ai 2) (.call .inl 125 [(.F 160),(ai 2)])))),aQ 164 (.call .inl 126 [(.F 160),(.ae false [(.lit (.str aaa)),(.sub (.F 163) (ai 0)),(.lit (.str aaa)),(.lit (.str (j [])))])]),aQ 165 (.a7 .add false (.F 163) (.ite (.aw .eq (.F 164) (.lit (.str aaa))) (.ae false [(.F 164)]) (.ae false []))),aQ 31 (.ae true []),.b5 [166] (.e (.a7 .add false (.F 163) (.ite (.aw .cC (.F 164) (.lit (.str (j [])))) (.ae false [(.F 164)]) (.ae false [])))) [aQ 167 (.call .inl 126 [(.F 160),(.ae false [(.lit .none),(.lit .none),(.lit .none),(.sub (.F 165) (ai 0)),(.sub (.F 165) (.c6 .neg (ai 1)))])]),.expr (.aC (.F 31) 8192 [(.ae false [(.F 166),(.aw .eq (.bq false .len [(.F 31)]) (.bq false .len [(.F 163)])),(.F 167)])])],aQ 168 (.comp false (.call .inl 126 [(.F 160),(.ae false [(.lit (.str Z7)),(.lit (.str Z8)),(.lit (.str Z9)),(.lit (.str Z7)),(.lit (.str aab))])]) [70] (.range none (ai 3)) none),aQ 169 (.ah .S [] []),.b5 [166] (.e (.F 165)) [aQ 70 (.call .inl 126 [(.F 160),(.ae false [(ai 0),(ai 1),(ai 2),(ai 0),(ai 1),(ai 3)])]),.ite (.aw .lt (.F 70) (ai 3)) [.bY (.sub (.F 169) (.F 166)) (.ay [(.F 70),(.sub (.F 168) (.F 70))])] []],.ret (some (.ay [(.F 163),(.F 164),(.bI (.F 31)),(.bI (.F 169)),(.F 168)]))]⟩
def sN:cy:=⟨[170,113],[],[.bY (.ay [163,164,31,169,168]) (.F 170),aQ 15 (.a7 .add false (.a7 .add false (.a7 .add false (.ae false [(.lit (.str (j [36,101,110,100]))),(.lit (.str (j [101,114,114,111,114]))),(.lit (.str (j [36,117,110,100,101,102,105,110,101,100]))),(.lit (.str Z2))]) (.F 163)) (.ite (.aw .eq (.F 164) (.lit (.str aaa))) (.ae false [(.lit (.str aaa))]) (.ae false []))) (.ae false [(.lit (.str aac)),(.lit (.str Z1))])),aQ 22 (.bq false (.dict .S) [(.comp false (.ay [(.F 23),(.F 7)]) [7,23] (.jn (.F 15)) none)]),aQ 171 (.ae true [(.new 17 [(ai 0),(.sub (.F 22) (.lit (.str aac))),(.ay [(.sub (.F 22) (.lit (.str Z1))),(ai 0)]),(ai 0)])]),.b5 [166,172,167] (.e (.F 31)) [aQ 173 (.ite (.F 172) (.ae false [(.F 166),(.lit (.str Z1))]) (.ae false [(.lit (.str Z1)),(.F 166),(.lit (.str Z1))])),aQ 34 (.bq false .tuple [(.comp false (.sub (.F 22) (.F 174)) [174] (.e (.F 173)) none)]),.expr (.aC (.F 171) 8192 [(.new 17 [(.bq false .len [(.F 171)]),(.sub (.F 22) (.lit (.str Z1))),(.F 34),(.sub (.F 22) (.ite (.aw .is (.F 167) (.lit .none)) (.F 166) (.F 167)))])])],.expr (.aC (.F 171) 8192 [(.new 17 [(.bq false .len [(.F 171)]),(.sub (.F 22) (.lit (.str Z1))),(.ay [(ai 3)]),(ai 3)])]),aQ 41 (.bq false (.dict .I) [(.comp false (.ay [(.sub (.F 22) (.F 166)),(.ay [(.a7 .add false (.sub (.sub (.F 169) (.F 166)) (ai 0)) (ai 1)),(.sub (.sub (.F 169) (.F 166)) (ai 1))])]) [166] (.e (.F 169)) none)]),.ret (some (.new 18 [(.F 15),(.sub (.F 22) (.lit (.str aac))),(.F 171),(.F 41),(.F 113),(.sub (.F 22) (.lit (.str Z1)))]))]⟩
def vo:cy:=⟨[170,24,166],[],[aQ 169 (.sub (.F 170) (ai 3)),aQ 43 (.aC (.F 169) 3 [(.ite (.aw .is (.sub (.F 24) (ai 2)) (.lit .none)) (.sub (.F 24) (ai 0)) (.sub (.F 24) (ai 2)))]),aQ 44 (.aC (.F 169) 3 [(.F 166)]),.ite (.bool false [(.aw .is (.F 43) (.lit .none)),(.aw .is (.F 44) (.lit .none))]) [.ret (some (.lit (.str Z5)))] [],.ite (.aw .cC (.sub (.F 43) (ai 0)) (.sub (.F 44) (ai 0))) [.ret (some (.ite (.aw .gt (.sub (.F 43) (ai 0)) (.sub (.F 44) (ai 0))) (.lit (.str Z4)) (.lit (.str Z6))))] [],.ret (some (.sub (.ah .S [(.lit (.str Z7)),(.lit (.str Z8)),(.lit (.str Z9)),(.lit (.str aab))] [(.lit (.str Z4)),(.lit (.str Z6)),(.lit (.str Z')),(.lit (.str Z5))]) (.sub (.F 44) (ai 1))))]⟩
def ra:cy:=⟨[170,33,176],[],[aQ 175 (.ae false [(.ae true []),(.ae true [])]),.b5 [7,24] (.jn (.sub (.F 170) (ai 2))) [aQ 173 (.ite (.sub (.F 24) (ai 1)) (.ae false [(.sub (.F 24) (ai 0)),(.lit (.str Z1))]) (.ae false [(.lit (.str Z1)),(.sub (.F 24) (ai 0)),(.lit (.str Z1))])),aQ 138 (.aC (.F 176) 12465 [(ai 0),(.comp false (.aC (.F 33) 12310 [(.F 174)]) [174] (.e (.F 173)) none)]),.b5 [166] (.e (.sub (.F 170) (ai 0))) [.bY (.ay [30,22]) (.ay [(.call .pure 129 [(.F 170),(.F 24),(.F 166)]),(.aC (.F 33) 12310 [(.F 166)])]),aQ 32 (.aC (.ah .S [(.lit (.str Z4)),(.lit (.str Z'))] [(.a7 .sub false (ai 0) (.a7 .add false (.F 7) (ai 1))),(.d9 (.int (-1048576)))]) 12291 [(.F 30),(.aC (.F 176) 12398 [(.F 138),(.F 22)])]),.expr (.aC (.sub (.F 175) (.bq false .int [(.aw .eq (.F 30) (.lit (.str Z5)))])) 12288 [(.ay [(.F 138),(.F 22),(.lit (.str Z3)),(.ay [(.a7 .add false (.F 7) (ai 1))]),(.F 32)])])]],.ret (some (.comp false (.bq false .sorted [(.F 162)]) [162] (.e (.F 175)) none))]⟩
def Dl:cy:=⟨[170,157],[],[aQ 178 (.ah .T [] []),.b5 [152] (.range (some (ai 1)) (.a7 .add false (.bq false .len [(.F 157)]) (ai 1))) [.b5 [7] (.range none (.a7 .add false (.a7 .sub false (.bq false .len [(.F 157)]) (.F 152)) (ai 1))) [aQ 12 (.ite (.bool true [(.aw .eq (.F 152) (ai 1)),(.aw .eq (.sub (.F 157) (.F 7)) (.lit (.str Z2)))]) (.ae false [(.lit (.str Z2))]) (.ae false [])),.b5 [22,24] (.jn (.sub (.F 170) (ai 2))) [.ite (.bool true [(.sub (.F 24) (ai 1)),(.aw .eq (.sub (.F 157) (.F 7)) (.sub (.F 24) (ai 0))),(.aw .gt (.F 152) (ai 1))]) [aQ 12 (.a7 .add false (.F 12) (.comp false (.ay [(.F 22),(.F 69)]) [69] (.e (.sub (.F 178) (.ay [(.a7 .add false (.F 7) (ai 1)),(.a7 .sub false (.F 152) (ai 1))]))) none))] [],.b5 [155] (.range (some (ai 1)) (.a7 .sub false (.F 152) (ai 1))) [.ite (.bool true [(.c6 .not (.sub (.F 24) (ai 1))),(.aw .eq (.sub (.F 157) (.a7 .add false (.F 7) (.F 155))) (.sub (.F 24) (ai 0)))]) [.b5 [69] (.e (.sub (.F 178) (.ay [(.F 7),(.F 155)]))) [aQ 12 (.a7 .add false (.F 12) (.comp false (.ay [(.F 22),(.F 69),(.F 142)]) [142] (.e (.sub (.F 178) (.ay [(.a7 .add false (.a7 .add false (.F 7) (.F 155)) (ai 1)),(.a7 .sub false (.a7 .sub false (.F 152) (.F 155)) (ai 1))]))) none))]] []]],.bY (.sub (.F 178) (.ay [(.F 7),(.F 152)])) (.F 12)]],.ret (some (.ite (.aw .cC (.F 157) (.ae false [])) (.sub (.F 178) (.ay [(ai 0),(.bq false .len [(.F 157)])])) (.ae false [])))]⟩
def fK(c:Nat):cy:=⟨[170,69],[],[.ite (.aw .eq (.F 69) (.lit (.str Z2))) [.ret (some (.lit (.bool true)))] [],aQ 163 (.comp false (.sub (.F 24) (ai 0)) [24] (.e (.sub (.F 170) (ai 2))) none),.ite (.aw .eq (.bq false .len [(.F 69)]) (ai 3)) [aQ 179 (.sub (.F 69) (ai 1)),.iq (.aw .cC (.F 179) (.lit (.str Z2))) [.ite (.aw .cC (.call .pure 129 [(.F 170),(.sub (.sub (.F 170) (ai 2)) (.sub (.F 179) (ai 0))),(.sub (.F 163) (.sub (.F 69) (ai 0)))]) (.lit (.str Z4))) [.ret (some (.lit (.bool false)))] [],aQ 179 (.sub (.F 179) (.c6 .neg (ai 1)))],.ite (.c6 .not (.call .inl c [(.F 170),(.sub (.F 69) (ai 1))])) [.ret (some (.lit (.bool false)))] []] [],aQ 179 (.sub (.F 69) (.c6 .neg (ai 1))),.iq (.bool true [(.aw .cC (.F 179) (.lit (.str Z2))),(.aw .eq (.bq false .len [(.F 179)]) (ai 3))]) [.ite (.aw .j1 (.call .pure 129 [(.F 170),(.sub (.sub (.F 170) (ai 2)) (.sub (.F 69) (ai 0))),(.sub (.F 163) (.sub (.F 179) (ai 0)))]) (.ay [(.lit (.str Z6)),(.lit (.str Z5))])) [.ret (some (.lit (.bool false)))] [],aQ 179 (.sub (.F 179) (ai 1))],.ret (some (.call .inl c [(.F 170),(.sub (.F 69) (.c6 .neg (ai 1)))]))]⟩
def iX(c:Nat):cy:=⟨[170,69],[],[.ite (.aw .eq (.F 69) (.lit (.str Z2))) [.ret (some (.ay [(.lit (.str Z1)),(.ay [(.lit (.str Z2)),(.lit (.str Z2))])]))] [],aQ 166 (.sub (.sub (.sub (.F 170) (ai 2)) (.sub (.F 69) (ai 0))) (ai 0)),.ite (.aw .eq (.bq false .len [(.F 69)]) (ai 2)) [.ret (some (.ay [(.lit (.str Z1)),(.ay [(.F 166),(.F 166)]),(.call .inl c [(.F 170),(.sub (.F 69) (ai 1))])]))] [],.ret (some (.ay [(.lit (.str Z1)),(.call .inl c [(.F 170),(.sub (.F 69) (ai 1))]),(.ay [(.F 166),(.F 166)]),(.call .inl c [(.F 170),(.sub (.F 69) (ai 2))])]))]⟩
def pD:cy:=⟨[160,170],[],[aQ 157 (.ae true []),.b5 [180] (.range none (.a7 .add false (ai 1) (.call .inl 126 [(.F 160),(.ae false [(ai 2),(ai 1),(ai 2),(ai 0)])]))) [.ite (.aw .gt (.F 180) (ai 0)) [.expr (.aC (.F 157) 8192 [(.call .inl 126 [(.F 160),(.sub (.F 170) (ai 0))])])] [],.ite (.bool true [(.aw .cC (.sub (.F 170) (ai 1)) (.lit (.str (j [])))),(.aw .eq (.call .inl 125 [(.F 160),(ai 3)]) (ai 0))]) [.expr (.aC (.F 157) 8192 [(.sub (.F 170) (ai 1))])] [],.expr (.aC (.F 157) 8192 [(.lit (.str Z2))])],.ite (.aw .eq (.call .inl 125 [(.F 160),(ai 6)]) (ai 0)) [aQ 7 (.call .inl 125 [(.F 160),(.bq false .len [(.F 157)])]),aQ 157 (.a7 .add false (.gn false (.F 157) none (some (.F 7))) (.gn false (.F 157) (some (.a7 .add false (.F 7) (ai 1))) none))] [],.ret (some (.bI (.F 157)))]⟩
def rb:cy:=⟨[159],[],[aQ 160 (.call .inl 124 [(.F 159)]),aQ 170 (.call .inl 127 [(.F 160)]),.bY (.ay [181,182]) (.ay [(.aw .eq (.call .inl 125 [(.F 160),(ai 2)]) (ai 0)),(.call .inl 125 [(.F 160),(ai 3)])]),aQ 152 (.bq false .rW [(.comp false (.bq false .len [(.comp false (.F 166) [166] (.e (.sub (.F 170) (ai 0))) (some (.aw .eq (.call .pure 129 [(.F 170),(.F 24),(.F 166)]) (.lit (.str Z5)))))]) [24] (.e (.sub (.F 170) (ai 2))) none)]),aQ 33 (.call .pure 128 [(.F 170),(.a7 .add false (.F 152) (.F 182))]),aQ 176 (.call .pure 120 [(.F 33)]),aQ 13 (.a7 .add false (ai 1) (.bq false .rW [(.comp false (.a7 .jz false (ai 1) (.aC (.F 33) 57366 [(.F 166)])) [166] (.e (.sub (.F 170) (ai 0))) none)])),aQ 50 (.ah .T [] []),.b5 [127] (.e (.aS (.F 176) 59)) [.b5 [22] (.e (.aS (.F 127) 49)) [.bY (.sub (.F 50) (.ay [(.aS (.F 127) 22),(.F 22)])) (.F 13)]],aQ 74 (.call .pure 33 [(.F 176),(.bI (.F 50)),(.F 181)]),aQ 175 (.call .pure 130 [(.F 170),(.F 33),(.F 176)]),.ite (.bool false [(.aw .cC (.bq false .sorted [(.comp false (.aC (.F 127) 57352 []) [127] (.e (.aS (.F 74) 39)) none)]) (.sub (.F 175) (ai 0))),(.aw .cC (.call .pure 135 [(.F 74)]) (.aw .eq (.F 182) (ai 0)))]) [.ret (some (.lit (.bool false)))] [],.ite (.aw .cC (.bq false .sorted [(.comp false (.aC (.F 127) 57352 []) [127] (.e (.aS (.F 74) 38)) none)]) (.sub (.F 175) (ai 1))) [.ret (some (.lit (.bool false)))] [],.b5 [180] (.range none (ai 3)) [aQ 157 (.call .inl 134 [(.F 160),(.F 170)]),aQ 183 (.call .pure 131 [(.F 170),(.F 157)]),aQ 34 (.comp false (.call .inl 133 [(.F 170),(.F 69)]) [69] (.e (.F 183)) (some (.call .inl 132 [(.F 170),(.F 69)]))),.ite (.bool false [(.aw .gt (.bq false .len [(.F 34)]) (ai 1)),(.aw .cC (.call .pure 123 [(.F 33),(.comp false (.aC (.F 33) 57366 [(.F 9)]) [9] (.e (.F 157)) none)]) (.bq false .len [(.F 183)]))]) [.ret (some (.lit (.bool false)))] [],aQ 184 (.call .pure 85 [(.F 74),(.comp false (.new 4 [(.F 9),(.F 9),(.lit .none)]) [9] (.e (.F 157)) none)]),.ite (.aw .cC (.ae false [(.ite (.aw .mW (.F 184) (.lit .none)) (.aC (.F 184) 57352 []) (.lit .none))]) (.ite (.aw .cC (.F 34) (.ae false [])) (.F 34) (.ae false [(.lit .none)]))) [.ret (some (.lit (.bool false)))] []],.ret (some (.lit (.bool true)))]⟩
def Dq:cy:=⟨[74],[],[aQ 45 (ai 0),.b5 [185] (.e (.aS (.F 74) 38)) [.ite (.aw .eq (.aS (.F 185) 30) (.lit (.str Z3))) [.pe 45 .add (ai 1)] []],.ret (some (.ay [(.F 45),(.a7 .sub false (.bq false .len [(.aS (.F 74) 38)]) (.F 45))]))]⟩
def yG:ja:=aai ⟨(some 3),true,[(8,4)]⟩
def u0:ja:=aai ⟨(some 7),false,[(26,8),(14,9),(105,10),(35,11),(28,13),(29,14),(110,15),(98,16),(75,17),(94,18)]⟩
def qS:ja:=aai ⟨(some 19),true,[(8,20)]⟩
def Ck:ja:=aai ⟨(some 21),false,[(26,8),(14,9),(105,10),(35,11),(28,23),(29,14),(110,24),(98,16),(75,17),(94,18)]⟩
def Cj:ja:=aai ⟨(some 63),false,[(83,64),(92,65),(112,66),(87,67),(88,69),(52,70),(93,71),(97,72),(99,73),(100,75),(91,76),(102,77),(101,78),(96,79),(107,80),(109,81),(75,82),(111,83),(103,84)]⟩
def rf:bo cy:=(.node none (.node none (bA sP (bA Du (bA y6 (bA y' (bA ⟨[6,74,80,81],[(.int 5000)],[bu 74 (.F 74),bu 80 (.ite (.aw .is (.F 80) (.lit .none)) (.new 12 []) (.F 80)),bu 81 (.F 81),bu 82 (.ah .I [] []),.expr (.aC (.F 6) 4179 [])]⟩ (b9 jo) .nil) (bA ⟨[6,119],[],[.ret (some (.a7 .sub false (.F 119) (.sub (aU 115) (.sub (aU 116) (.F 119)))))]⟩ (b9 (iX 160)) .nil)) (bA za (bA ⟨[6,24],[],[.expr (.aC (.F 6) 16483 [(.ay [(.lit (.str Z4)),(.F 24)])]),aQ 105 (.aC (aU 74) 16489 [(.F 24)]),aQ 106 (.a7 .sub false (.a7 .sub false (.bq false .len [(aU 72)]) (.F 105)) (.aC (aU 74) 16419 [(.F 24)])),aQ 77 (.aC (.F 6) 16491 [(.F 24),(.gn false (aU 72) (some (.F 106)) none)]),aQ 108 (.a7 .sub false (.bq false .len [(aU 72)]) (.F 105)),bu 72 (.gn true (aU 72) none (some (.F 108))),bu 59 (.gn true (aU 59) none (some (.a7 .add false (.F 108) (ai 1)))),.expr (.aC (.F 6) 16493 [(.F 24),(.F 77)])]⟩ (b9 (fK 144)) .nil) (b9 ⟨[6,25,46],[],[.ret (some (.aC (.sub (aU 59) (.F 25)) 4206 [(.F 46)]))]⟩))) (bA ⟨[6,25,26],[],[.ret (some (.sub (.sub (aU 36) (.F 25)) (.F 26)))]⟩ (bA Dr (bA ⟨[6,25],[],[.ite (.aw .j1 (.F 25) (aU 82)) [.bY (.sub (aU 82) (.F 25)) (.ite (.aC (aU 74) 8286 [(.F 25)]) (.aC (aU 74) 8221 [(.F 25)]) (ai 0))] [],.ret (some (.sub (aU 82) (.F 25)))]⟩ (b9 ⟨[74],[],[.hk]⟩) .nil) (b9 ⟨[6,33],[],[bu 33 (.F 33),aQ 36 (.a7 .mul true (.ae false [(ai 0)]) (.aC (.F 33) 4221 [])),.b5 [24] (.e (.aS (.F 33) 31)) [.ite (.aw .gt (.bq false .len [(.aS (.F 24) 34)]) (ai 0)) [.bY (.sub (.F 36) (.aS (.F 24) 14)) (.a7 .nU false (.sub (.F 36) (.aS (.F 24) 14)) (.a7 .jz false (ai 1) (.sub (.aS (.F 24) 34) (ai 0))))] []],bu 130 (.call .pure 99 [(.bI (.F 36))])]⟩)) (.node none (bA ⟨[6,15,16,31,41,113,68],[],[bu 15 (.F 15),bu 16 (.F 16),bu 31 (.F 31),bu 41 (.F 41),bu 113 (.F 113),bu 68 (.F 68),bu 114 (.comp true (.ae true []) [23] (.e (aU 15)) none),bu 115 (.ae true []),bu 116 (.ae true []),.b5 [24] (.e (aU 31)) [.expr (.aC (.sub (aU 114) (.aS (.F 24) 14)) 0 [(.aS (.F 24) 22)]),.expr (.aC (aU 115) 0 [(.bq false .len [(aU 116)])]),.expr (.aC (aU 116) 1 [(.a7 .mul false (.ae false [(.aS (.F 24) 22)]) (.a7 .add false (.bq false .len [(.aS (.F 24) 34)]) (ai 1)))])],bu 117 (.bq false .len [(aU 116)])]⟩ (b9 (iX 152)) .nil) (b9 ⟨[6],[],[.expr (.aC (.F 6) 20623 [(.ay [(.aC (aU 33) 20599 [(ai 0),(ai 0)])]),(.d9 (.int (-1)))]),aQ 7 (ai 0),.iq (.aw .lt (.F 7) (.bq false .len [(aU 59)])) [.expr (.aC (.F 6) 20624 [(.sub (aU 59) (.F 7))]),aQ 7 (.a7 .add false (.F 7) (ai 1))],.ret (some (.new 21 [(aU 33),(aU 59)]))]⟩)))) (bA ⟨[6,24],[],[.ret (some (.sub (aU 19) (.F 24)))]⟩ (bA ⟨[6,25,26,30,31,32],[],[bu 25 (.F 25),bu 26 (.F 26),bu 30 (.F 30),bu 31 (.F 31),bu 32 (.F 32)]⟩ (.node none (bA zb (b9 Dl) .nil) (b9 ⟨[36],[],[aQ 12 (.bq true .list [(.F 36)]),.b5 [126] (.range none (.bq false .len [(.F 12)])) [.b5 [127] (.range none (.bq false .len [(.F 12)])) [.ite (.aw .eq (.a7 .kq false (.a7 .uh false (.sub (.F 12) (.F 127)) (.F 126)) (ai 1)) (ai 1)) [.bY (.sub (.F 12) (.F 127)) (.a7 .nU false (.sub (.F 12) (.F 127)) (.sub (.F 12) (.F 126)))] []]],.ret (some (.F 12))]⟩)) (.node none (bA Dv (b9 (fK 148)) .nil) (.node none .nil .nil))) (bA y7 (.node none (bA ⟨[6,86,77],[],[bu 86 (.F 86),bu 77 (.F 77)]⟩ (b9 (fK 140)) .nil) (b9 ⟨[33,119],[],[.ret (some (.aC (.F 33) 4215 [(.aC (.F 33) 4231 [(.F 119)]),(.a7 .add false (.aC (.F 33) 4232 [(.F 119)]) (ai 1))]))]⟩)) (bA ⟨[6,76,77,78,47],[],[bu 76 (.F 76),bu 77 (.F 77),bu 78 (.F 78),bu 47 (.F 47)]⟩ (bA ⟨[6,23],[],[.ret (some (.ite (.aw .kK (.F 23) (aU 15)) (.aC (aU 15) 4 [(.F 23)]) (.c6 .neg (ai 1))))]⟩ (b9 (iX 156)) .nil) (b9 Dk))))) (.node none (bA ⟨[6,24],[],[.ret (some (.sub (aU 17) (.F 24)))]⟩ (bA vp (bA sQ (bA ⟨[6],[],[.ret (some (.new 14 [(.aw .eq (aU 86) (.lit (.str (j [97,99,99,101,112,116,101,100])))),(aU 77),(.bq false .list [(aU 78)]),(.bq false .list [(aU 47)])]))]⟩ (b9 vo) .nil) (bA ⟨[33,120],[],[aQ 12 (.bq true .list [(.F 120)]),aQ 121 (.ae true []),aQ 122 (.comp true (.ae true []) [46] (.e (.F 12)) none),aQ 123 (.ae true []),.b5 [24] (.e (.aS (.F 33) 31)) [aQ 124 (ai 0),.b5 [46] (.e (.aS (.F 24) 34)) [.ite (.c6 .not (.sub (.F 12) (.F 46))) [aQ 124 (.a7 .add false (.F 124) (ai 1)),.expr (.aC (.sub (.F 122) (.F 46)) 0 [(.aS (.F 24) 22)])] []],.expr (.aC (.F 121) 0 [(.F 124)])],.b5 [24] (.e (.aS (.F 33) 31)) [.ite (.bool true [(.aw .eq (.sub (.F 121) (.aS (.F 24) 22)) (ai 0)),(.c6 .not (.sub (.F 12) (.aS (.F 24) 14)))]) [.bY (.sub (.F 12) (.aS (.F 24) 14)) (.lit (.bool true)),.expr (.aC (.F 123) 0 [(.aS (.F 24) 14)])] []],aQ 7 (ai 0),.iq (.aw .lt (.F 7) (.bq false .len [(.F 123)])) [.b5 [22] (.e (.sub (.F 122) (.sub (.F 123) (.F 7)))) [.bY (.sub (.F 121) (.F 22)) (.a7 .sub false (.sub (.F 121) (.F 22)) (ai 1)),aQ 14 (.aS (.sub (.aS (.F 33) 31) (.F 22)) 14),.ite (.bool true [(.aw .eq (.sub (.F 121) (.F 22)) (ai 0)),(.c6 .not (.sub (.F 12) (.F 14)))]) [.bY (.sub (.F 12) (.F 14)) (.lit (.bool true)),.expr (.aC (.F 123) 0 [(.F 14)])] []],aQ 7 (.a7 .add false (.F 7) (ai 1))],.ret (some (.F 12))]⟩ (b9 (iX 162)) .nil)) (bA ⟨[6,67],[],[.ret (some (.new 10 [(.F 67)]))]⟩ (bA ⟨[6,24,77],[],[aQ 104 (.aC (aU 74) 4206 [(.sub (aU 59) (.c6 .neg (ai 1))),(.aC (aU 74) 4110 [(.F 24)])]),.ite (.aw .lt (.F 104) (ai 0)) [.hk] [],.expr (.aC (aU 59) 4096 [(.F 104)]),.expr (.aC (aU 72) 4096 [(.F 77)])]⟩ (b9 (fK 146)) .nil) (.node none .nil .nil))) (bA vr (.node none (bA ⟨[6,95],[],[.ite (.aw .mP (.bq false .len [(aU 47)]) (aU 81)) [.hk] [],.expr (.aC (aU 47) 0 [(.F 95)])]⟩ (b9 (fK 138)) .nil) (b9 ⟨[6,128],[],[aQ 12 (.ae true []),.b5 [46] (.e (.call .pure 6 [(.aC (.F 6) 8324 [(.F 128)])])) [.b5 [22] (.e (.aC (aU 33) 8325 [(.F 46)])) [aQ 119 (.aC (aU 33) 8311 [(.F 22),(ai 0)]),.ite (.aw .j1 (.F 119) (.F 128)) [.expr (.aC (.F 12) 8192 [(.F 119)])] []]],.ret (some (.bq false .sorted [(.F 12)]))]⟩)) (bA ⟨[6],[],[.ret (some (.ay [(.aS (aU 67) 9),(aU 25),(.bq false .list [(aU 75)])]))]⟩ (bA ⟨[6,46],[],[.ret (some (.aw .lt (.F 46) (aU 16)))]⟩ (b9 (iX 154)) .nil) (b9 Di)))) (bA sO (bA pE (bA ⟨[6],[],[.ret (some (.lit (.bool false)))]⟩ (bA ⟨[6],[],[.ret (some (.bool true [(.aw .is (aU 84) (.lit .none)),(.aw .eq (.aC (.F 6) 12381 [(.sub (aU 59) (.c6 .neg (ai 1)))]) (ai 0))]))]⟩ (b9 (iX 150)) .nil) (b9 ⟨[6,46],[],[.ret (some (.aC (aU 47) 3 [(.F 46),(.d9 (.int (-1)))]))]⟩)) (bA ⟨[6,67],[],[.ret (some (.aS (.F 67) 11))]⟩ (bA ⟨[74,79],[],[.ret (some (.aS (.aC (.new 16 [(.F 74),(.new 11 [(.call .inl 52 [(.F 74)])])]) 32880 [(.F 79)]) 77))]⟩ (.node none .nil .nil) .nil) (b9 ⟨[6,128,46],[],[.ite (.aw .j1 (.F 128) (aU 21)) [.bY (.sub (aU 21) (.F 128)) (.bq false .len [(aU 59)]),.expr (.aC (aU 59) 8192 [(.new 19 [(.bq false .len [(aU 59)]),(.F 128),(.F 46)])])] [],.ret (some (.sub (aU 21) (.F 128)))]⟩))) (bA y9 (bA vt (bA ⟨[6,26],[],[.ret (some (.lit (.bool true)))]⟩ (b9 (fK 142)) .nil) (b9 ⟨[33,129],[],[aQ 12 (.ae true []),.b5 [119] (.e (.F 129)) [.ite (.bool true [(.aw .lt (.aC (.F 33) 4227 [(.F 119)]) (ai 0)),(.aw .cC (.aC (.F 33) 4231 [(.F 119)]) (ai 0))]) [.expr (.aC (.F 12) 4096 [(.aC (.F 33) 4231 [(.F 119)])])] []],.ret (some (.bq false .sorted [(.F 12)]))]⟩)) (bA ⟨[6,79],[],[bu 79 (.F 79),bu 7 (ai 0)]⟩ (bA ⟨[6,24,118],[],[.ret (some (.a7 .add false (.sub (aU 115) (.F 24)) (.F 118)))]⟩ (b9 (iX 158)) .nil) (b9 y4)))))) (bA lK (bA Ds (bA ⟨[6,23],[],[.ret (some (.aC (aU 21) 3 [(.F 23),(.d9 (.int 2))]))]⟩ (bA Dm (bA ⟨[54,24],[],[.ret (some (.comp false (.ite (.aw .eq (.F 22) (.c6 .neg (.F 24))) (ai 0) (.F 22)) [22] (.e (.F 54)) none))]⟩ (bA ⟨[6],[],[bu 59 (.ae true [(ai 0)]),bu 72 (.ae true []),bu 84 (.lit .none),bu 85 (ai 0),bu 86 (.lit (.str (j [109,111,114,101]))),bu 77 (.lit .none),bu 78 (.ae true []),bu 47 (.ae true [])]⟩ (b9 sN) .nil) (bA ⟨[6,119],[],[aQ 34 (.aS (.sub (aU 31) (.sub (aU 116) (.F 119))) 34),aQ 118 (.a7 .sub false (.F 119) (.sub (aU 115) (.sub (aU 116) (.F 119)))),.ret (some (.ite (.aw .lt (.F 118) (.bq false .len [(.F 34)])) (.sub (.F 34) (.F 118)) (.c6 .neg (ai 1))))]⟩ (b9 (iX 161)) .nil)) (bA ⟨[6,15],[],[bu 15 (.F 15)]⟩ (bA ⟨[6,24,72],[],[.ret (some (.aC (aU 80) 12384 [(.F 24),(.F 72),(.lit .none)]))]⟩ (b9 (fK 145)) .nil) (b9 ⟨[6,25,139],[],[aQ 138 (.F 25),.b5 [46] (.e (.F 139)) [.ite (.aw .eq (.F 138) (.d9 (.int (-1)))) [.ret (some (.d9 (.int (-1))))] [],aQ 138 (.aC (.F 6) 8302 [(.F 138),(.F 46)])],.ret (some (.F 138))]⟩))) (bA ⟨[6,25,27],[],[.ret (some (.aC (.sub (aU 37) (.F 25)) 3 [(.F 27),(.c6 .neg (ai 1))]))]⟩ (.node none (bA ⟨[6,67],[],[aQ 22 (.aC (aU 74) 4122 [(.aS (.F 67) 9)]),.ret (some (.ite (.aw .eq (.F 22) (.d9 (.int 1))) (.d9 (.int 2)) (.F 22)))]⟩ (b9 rb) .nil) (b9 ⟨[6,128],[],[aQ 13 (ai 0),.b5 [119] (.e (.F 128)) [aQ 46 (.aC (aU 33) 4227 [(.F 119)]),.ite (.aw .mP (.F 46) (ai 0)) [aQ 13 (.a7 .nU false (.a7 .nU false (.F 13) (.a7 .jz false (ai 1) (.F 46))) (.sub (aU 130) (.F 46)))] []],.ret (some (.F 13))]⟩)) (bA Dt (bA ⟨[6],[],[.ret (some (.bq false .len [(aU 15)]))]⟩ (b9 (iX 153)) .nil) (b9 Dh)))) (.node none (bA ⟨[6],[],[.ret (some (.ay [(aU 25),(aU 26),(aU 30),(aU 31),(aU 32)]))]⟩ (bA ⟨[6,23,24,63],[],[bu 23 (.F 23),bu 24 (.F 24),bu 63 (.bq false .list [(.F 63)])]⟩ (.node none (b9 (fK 137)) .nil) (b9 ⟨[6,22,128,46],[],[bu 22 (.F 22),bu 128 (.F 128),bu 46 (.F 46),bu 129 (.ae false []),bu 47 (.ah .I [] []),bu 49 (.ae false [])]⟩)) (bA ⟨[74],[],[.ret (some (.comp false (.sub (.aS (.F 74) 15) (.F 14)) [14] (.e (.aS (.F 74) 17)) none))]⟩ (bA ⟨[6,26],[],[.expr (.aC (.F 6) 16495 []),.expr (.aC (.F 6) 16484 [(.lit (.str (j [97,98,111,114,116,101,100]))),(.lit .none)])]⟩ (b9 (fK 149)) .nil) (b9 ⟨[6,33],[],[bu 33 (.F 33),bu 140 (.new 20 [(.F 33)]),bu 59 (.ae true []),bu 21 (.ah .T [] [])]⟩))) (bA y8 (bA ⟨[6,67],[],[bu 23 (.aS (.F 67) 9),bu 24 (ai 0),bu 63 (.ae false []),bu 67 (.F 67)]⟩ (bA pF (b9 (fK 141)) .nil) (b9 ⟨[33,129],[],[aQ 12 (.ah .I [] []),.b5 [119] (.e (.F 129)) [aQ 46 (.aC (.F 33) 8323 [(.F 119)]),.ite (.aw .mP (.F 46) (ai 0)) [.ite (.aw .j1 (.F 46) (.F 12)) [.bY (.sub (.F 12) (.F 46)) (.ae true [])] [],.expr (.aC (.sub (.F 12) (.F 46)) 8192 [(.call .inl 107 [(.F 33),(.F 119)])])] []],aQ 137 (.ah .I [] []),.b5 [46] (.e (.bq false .sorted [(.F 12)])) [.bY (.sub (.F 137) (.F 46)) (.bq false .tuple [(.bq false .sorted [(.sub (.F 12) (.F 46))])])],.ret (some (.F 137))]⟩)) (.node none (bA ⟨[6,46],[],[.ret (some (.bq false .list [(.sub (aU 114) (.F 46))]))]⟩ (b9 (iX 157)) .nil) (b9 ⟨[159],[],[.ret (some (.ae true [(.comp true (.a7 .add false (.a7 .mul false (ai 2) (.bq false .abs [(.bq false .int [(.F 158)])])) (.bq false .int [(.aw .lt (.F 158) (ai 0))])) [158] (.e (.gn false (.F 159) none (some (ai 63)))) none),(ai 0),(ai 0)]))]⟩))))) (bA vu (bA ⟨[6,24],[],[.ret (some (.sub (aU 18) (.F 24)))]⟩ (bA Dn (bA Dq (bA ⟨[6,79],[],[.ret (some (.aC (.F 6) 28759 [(.new 15 [(.F 79)])]))]⟩ (b9 ra) .nil) (bA ⟨[33],[],[.ret (some (.call .inl 97 [(.F 33),(.a7 .mul false (.ae false [(.lit (.bool false))]) (.aC (.F 33) 4221 []))]))]⟩ (.node none .nil .nil) .nil)) (bA ⟨[6,24,72,73],[],[aQ 23 (.sub (aU 15) (.F 24)),.ite (.aC (.F 23) 8197 [(.lit (.str (j [36,64])))]) [.ret (some (.new 9 [(.F 23),(.F 24),(.ae false [])]))] [],.ret (some (.new 9 [(.F 23),(.F 24),(.F 72)]))]⟩ (bA ⟨[6],[],[.ret (some (.aC (aU 74) 8267 [(.sub (aU 59) (.c6 .neg (ai 1)))]))]⟩ (b9 (fK 147)) .nil) (.node none .nil .nil))) (bA vs (.node none (.node none (b9 (fK 139)) .nil) (b9 ⟨[6,128],[],[.ret (some (.a7 .add false (.bq false .sorted [(.F 128)]) (.aC (.F 6) 12422 [(.F 128)])))]⟩)) (.node none (.node none (b9 (iX 155)) .nil) (b9 Dj)))) (bA y5 (.node none (.node none (bA ⟨[6,67],[],[bu 84 (.F 67),bu 85 (.a7 .add false (aU 85) (ai 1))]⟩ (b9 pD) .nil) (b9 ⟨[6],[],[.ite (.aw .eq (aU 49) (.ae false [])) [.ret (some (.lit (.bool true)))] [],.ret (some (.bool true [(.aw .eq (.bq false .len [(aU 49)]) (ai 1)),(.aw .eq (aU 47) (.ah .S [] []))]))]⟩)) (bA ⟨[6,24,72,73],[],[.ret (some (.ite (.aw .gt (.bq false .len [(.F 72)]) (ai 0)) (.sub (.F 72) (ai 0)) (.lit .none)))]⟩ (bA ⟨[6,22,14,34,42,98,70,35],[.none,(.int 0),(.int 0)],[bu 22 (.F 22),bu 14 (.F 14),bu 34 (.F 34),bu 42 (.F 42),bu 98 (.F 98),bu 70 (.F 70),bu 35 (.F 35)]⟩ (b9 (iX 151)) .nil) (b9 ⟨[6,25],[],[.bY (.aS (.F 25) 129) (.aC (aU 140) 16525 [(.aS (.F 25) 128)]),.bY (.aS (.F 25) 49) (.call .inl 109 [(aU 33),(.aS (.F 25) 129)]),aQ 142 (.call .inl 108 [(aU 33),(.aS (.F 25) 129)]),.b5 [46] (.e (.F 142)) [.bY (.sub (.aS (.F 25) 47) (.F 46)) (.aC (.F 6) 16527 [(.sub (.F 142) (.F 46)),(.F 46)])]]⟩))) (bA Dp (.node none (bA ⟨[6,104],[],[.expr (.aC (.F 6) 12387 [(.ay [(.lit (.str Z6)),(.F 104)])]),.expr (.aC (aU 59) 12288 [(.F 104)]),.expr (.aC (aU 72) 12288 [(.aC (aU 80) 12389 [(aU 84)])]),bu 84 (.lit .none)]⟩ (b9 (fK 143)) .nil) (b9 ⟨[6,33,59],[],[bu 33 (.F 33),bu 59 (.F 59)]⟩)) (bA ⟨[6],[],[.ite (.aw .mP (aU 7) (.bq false .len [(aU 79)])) [.ret (some (.new 4 [(.lit (.str (j [36,101,110,100]))),(.lit (.str (j []))),(.lit .none)]))] [],aQ 67 (.sub (aU 79) (aU 7)),.ite (.aw .cC (.aS (.F 67) 9) (.lit (.str (j [36,101,110,100])))) [bu 7 (.a7 .add false (aU 7) (ai 1))] [],.ret (some (.F 67))]⟩ (bA ⟨[6,119],[],[.ret (some (.sub (aU 116) (.F 119)))]⟩ (b9 (iX 159)) .nil) (b9 ⟨[160,162],[],[.ret (some (.sub (.F 162) (.call .inl 125 [(.F 160),(.bq false .len [(.F 162)])])))]⟩)))))))
def SV:ZK:=aai [0,0,2,1,1,0,1,1,1,1,1,1,0,1,1,1,2,2,2,1,1,2,0,1,1,1,1,4,3,2,3,1,1,5,1,2,1,1,0,2,0,0,0,0,1,1,0,1,1,3,3,0,1,1,1,0,1,1,0,1,0,1,3,2,1,3,8,7,0,4,1,3,2,1,0,1,6,1,4,5,4,2,3,4,5,9,1,1,1,1,0,1,1,1,1,1,1,1,2,1,1,1,1,2,2,3,4,2,3,2,1,2,3,0,0,0,4,3,5,6,7,3,1,4,1,1,2,3,3,1,4,1,14,13,3,14,15,13,12,11,10,9,8,7,6,5,4,3,2,0,12,11,10,9,8,7,6,5,4,3,2,1,0]
def vv(i:Nat):Nat:=match a3 SV i with|some r=>r|none=>0
def Mz:ZH:=aai [(137,132),(138,132),(139,132),(140,132),(141,132),(142,132),(143,132),(144,132),(145,132),(146,132),(147,132),(148,132),(149,132),(150,133),(151,133),(152,133),(153,133),(154,133),(155,133),(156,133),(157,133),(158,133),(159,133),(160,133),(161,133),(162,133)]
def n0:bo ja:=(.node none (.node none (.node none (bA Ck (b9 ⟨(some 61),false,[(90,62)]⟩) .nil) (bA ⟨(some 48),true,[(101,49),(96,50)]⟩ (b9 ⟨(some 100),false,[(110,101),(94,102)]⟩) .nil)) (bA u0 (bA ⟨(some 36),true,[(66,37),(8,39)]⟩ (b9 ⟨(some 86),true,[]⟩) .nil) (bA ⟨(some 56),true,[(8,57)]⟩ (b9 ⟨(some 110),true,[(110,111),(177,112)]⟩) .nil))) (.node none (bA yG (bA ⟨(some 26),false,[(61,27),(53,28),(54,29),(38,30)]⟩ (b9 Cj) .nil) (bA ⟨none,true,[(101,53),(96,54)]⟩ (b9 ⟨(some 103),false,[(132,104),(134,105),(141,106)]⟩) .nil)) (bA qS (bA ⟨(some 44),true,[(66,45),(8,39)]⟩ (b9 ⟨(some 87),false,[(125,88),(149,89),(22,91),(133,92),(119,93),(135,94),(136,95),(131,96)]⟩) .nil) (bA ⟨(some 59),true,[]⟩ (b9 ⟨(some 116),false,[(143,117),(144,118),(145,119)]⟩) .nil))))
def gx:km:=aai ⟨0,1,2,3,4,5⟩
def tw(O:ZF):ZL:=
 O.rec (some 0) λc _ S=>Y (Y (bM Z.bj c 30) uQ) λs=>Y S λk=>some (match Wz s Z3 with|true=>k+1|false=>k)
noncomputable def OT:Z0 Bool->Bool
 |some b=>b
 |none=>false
def we(t:V):Z0 V:=Y (bM Z.bj t 33) λg=>Y (Y (bM Z.bj t 38) yr) λX=>Y (Y (bM Z.bj g 113) lA) λn=>Y (tw X) λk=>bS (Nat.beq k (Wx X)) (bS (Nat.blt k 64) (bS (Nat.blt n 64) (match Nat.beq k n with
 |true=>Y (bM Z.bj t 36) λr=>bS (OT (dy .eq r r Z.bj)) (some (.bool true))
 |false=>some (.bool false))))
def tZ(f:Nat)(D:ZF):Z0 V:=match Nat.beq f 135 with
 |true=>Y (d' D) we
 |false=>none
def dE:qG:=⟨rf.get,n0.get,vv,tZ⟩
end Mine.Internal
end
namespace Mine.Internal
noncomputable def bo.dA{α:Type}:bo α->Z0 α×bo α×bo α
 |.nil=>(none,.nil,.nil)
 |.node u j o=>(u,j,o)
def bo.vI(o:bo α)(j:Nat):o.get j=match Nat.beq j 0 with
  |true=>o.dA.1
  |false=>match Nat.beq (j % 2) 1 with
   |true=>o.dA.2.1.get (j/2)
   |false=>o.dA.2.2.get (j/2-1):=by
 induction o with
 |node=>rfl
 |nil=>
  generalize Nat.beq j 0=u;induction u with
  |true=>rfl
  |false=>cases Nat.beq (j % 2) 1<;>rfl
def bo.t7(u:Z0 α)(C:Nat)(j:bo α)(o:Nat):bo.a5 (C+1) j o u=match Nat.beq o 0 with
  |true=>.node u j.dA.2.1 j.dA.2.2
  |false=>match Nat.beq (o % 2) 1 with
   |true=>.node j.dA.1 (bo.a5 C j.dA.2.1 (o/2) u) j.dA.2.2
   |false=>.node j.dA.1 j.dA.2.1 (bo.a5 C j.dA.2.2 (o/2-1) u):=by
 induction j<;>rfl
def iT(h:Nat.beq a b=false):a≠b:=λe=>by rw[e,Xn] at h;nomatch h
def sH(h:i % 2≠1):i % 2=0:=(Nat.mod_two_eq_zero_or_one i).resolve_right h
def vL(h:i<f+1)(n:i≠0):i/2<f:=W4 (Nat.div_lt_self (Zo n) (Xe 2)) (XG h)
def bo.mQ(cK:Z0 α)(V:Nat):∀(f':bo α)(c' a':Nat),c'<V->(bo.a5 V f' c' cK).get a'=if c'=a' then cK else f'.get a':=by
 induction V with
 |zero=>exactλ_ _ _ W=>absurd W (Yk _)
 |succ V Z=>
  intro f' c' a' W;rw[bo.t7,bo.vI f' a'];generalize u:Nat.beq c' 0=o;induction o with
  |true=>
   have u:=W2 u;rw[bo.vI];generalize M:Nat.beq a' 0=o;induction o with
   |true=>exact(if_pos (u.trans (W2 M).symm)).symm
   |false=>exact(if_neg λj=>iT M (j.symm.trans u)).symm
  |false=>
   have u:=iT u;generalize C:Nat.beq (c' % 2) 1=o;induction o with
   |true=>
    have C:=W2 C;rw[bo.vI];generalize M:Nat.beq a' 0=o;induction o with
    |true=>exact(if_neg λj=>u (j.trans (W2 M))).symm
    |false=>generalize J:Nat.beq (a' % 2) 1=o;induction o with
     |false=>exact(if_neg (λj:c'=a'=>iT J (by rw[<-j];exact C))).symm
     |true=>
      refine(Z f'.dA.2.1 (c'/2) (a'/2) (vL W u)).trans ?_
      by_cases j:c'=a'
      .rw[j,if_pos rfl,if_pos rfl]
      .rw[if_neg j,if_neg λY=>j (by rw[<-XU c' 2,<-XU a' 2,Y,C,W2 J])]
   |false=>
    have C:=sH (iT C);rw[bo.vI];generalize M:Nat.beq a' 0=o;induction o with
    |true=>exact(if_neg λj=>u (j.trans (W2 M))).symm
    |false=>generalize J:Nat.beq (a' % 2) 1=o;induction o with
     |true=>exact(if_neg (λj:c'=a'=>by rw[j,W2 J] at C;nomatch C)).symm
     |false=>
      have J:=sH (iT J);have pos:∀{U:Nat},U≠0->U % 2=0->0<U/2:=λ{U} e2 e1=>Zo λfi=>e2 (by rw[<-XU U 2,fi,e1])
      refine(Z f'.dA.2.2 (c'/2-1) (a'/2-1) (W3 (XW _ _) (vL W u))).trans ?_
      by_cases j:c'=a'
      .rw[j,if_pos rfl,if_pos rfl]
      .rw[if_neg j,if_neg λY=>j (by rw[<-XU c' 2,<-XU a' 2,Nat.sub_one_cancel (pos u C) (pos (iT M) J) Y,C,J])]
def Z.mR(u:Z)(C j:Nat)(o:O):(u.set C o).get j=if C=j then some o else u.get j:=bo.mQ _ _ _ _ _ (Xh _)
def Z.DY(o:Z)(u j:Nat):(o.ho u).get j=if u=j then none else o.get j:=bo.mQ _ _ _ _ _ (Xh _)
def Z.s9(j:Z)(u:Nat)(o:O):(j.new o).get u=if j.n=u then some o else j.get u:=bo.mQ _ _ _ _ _ (Xh _)
def bb{C:Prop}(h:false=true):C:=nomatch h
def tK{C:Prop}(h:true=false):C:=nomatch h
def cB{C:Prop}(h:none=some x):C:=nomatch h
def QX{C:Prop}(h:some x=none):C:=nomatch h
def eu{C:Prop}(h:x∈[]):C:=nomatch h
end Mine.Internal
noncomputable section
open PySem PySem.W PySem.Calls PyProof.Rows
namespace Mine.Internal
structure hc where
 p:Program
 FD:List ZV
 rx:ExcName->Z0 ZO
 FQ:ZV->Z0 ZO
 FL:ZV->Z0 ZO
structure cn where
 prog:Program
 w:ZS
 K:Frag
 az:Nat->ZV
 cP:Nat->ZP
 di:Nat->ZP
 jV:ZV->Z0 ZO
 i1:Nat
 l3:Nat
 P:qG
 N:km
 T:hc
structure jH where
 a0:ZP->Prop
 aO:Nat->Z0 ZP
 aX:Nat->ZP
structure aL where
 G:jH
 s:ZW
abbrev aL.h(j:aL):ZQ:=j.s.heap
def jH.bI(j:jH)(u:ZP->Prop):jH:=aai ({j with a0:=λo=>j.a0 o\/u o})
def jH.a5(o:jH)(u:Nat)(J C:ZP):jH:=aai ({o with aO:=λj=>if j=u then some J else o.aO j,aX:=λj=>if j=u then C else o.aX j})
noncomputable def bc:O->Nat
 |.ae _ l=>l
 |.ah _ _ l=>l
 |.ins _ _=>0
def cT(V:Z)(p:Nat):Prop:=∃o,V.get p=some o
def qF(V:Z)(p:Nat):Prop:=∃o,V.get p=some o/\bc o=0
def qF.e'(u:qF a' c'):cT a' c':=u.elim λo j=>⟨o,j.1⟩
def ns{α:Type}{x:α}{C:Prop}(e:none=some x):C:=cB e
def cj{h:ZQ}{a:ZP}{o:Obj}{C:Prop}(e:h.get? a=some o)(f:h.get? a=none):C:=ns (f.symm.trans e)
def ez(X:cn)(w:aL):eU->ZP->List (aE×ZO)->Prop
 |.I,a,G=>∃O:List (Int×ZO),w.h.DictOf (intKind X.prog X.w) a O/\G=O.map λp=>(aE.i p.1,p.2)
 |.S,a,G=>∃O:List (ZV×ZO),w.h.DictOf (strKind X.prog X.w) a O/\G=O.map λp=>(aE.s p.1,p.2)
 |.T,a,G=>∃O:List (ZM×ZP×ZO),w.h.DictOfH (tupleKind (intKind X.prog X.w)) a O/\G=O.map (λx=>(aE.t x.1,x.2.2))/\∀x∈O,w.G.a0 x.2.1
def ir(h:ZQ)(d:ZP)(G:List DictEntry):Prop:=∃n,h.get? d=some (dictOf G n)
mutual
inductive o(X:cn)(w:aL):V->ZO->Prop
 |none:o X w .none .none
 |bool {b:Bool}:o X w (.bool b) (.bool b)
 |int {i:Int} {t:Tok}:o X w (.int i) (.int i t)
 |str {s:ZV} {t:Tok}:o X w (.str s) (.str s t)
 |ay {f:ZF} {e:ZJ} {a:ZP}:w.G.a0 a->w.h.IsTuple a e.toArray->e.length<=b0->aK X w f e->o X w (.ay f) (.ref a)
 |ae {f:ZF} {e:ZJ} {a:ZP}:w.G.a0 a->w.h.PlainList a e.toArray->e.length<=b0->aK X w f e->o X w (.ae f) (.ref a)
 |ah {g:eU} {T:ZE} {G:List (aE×ZO)} {a:ZP}:w.G.a0 a->(a==sysModules)=false->ez X w g a G->G.length<=b0->b2 X w T G->o X w (.ah g T) (.ref a)
 |ins {c:Nat} {r:Bool} {P:ZD} {G:List DictEntry} {a d:ZP}:c<X.i1->w.G.a0 a->w.G.a0 d->w.h.get? a=some (instObj (X.cP c) d)->ir w.h d G->dB X w P G->o X w (.ins c r P) (.ref a)
 |ref {p:Nat} {a:ZP}:w.G.aO p=some a->o X w (.ref p) (.ref a)
 |hy {f:ZF} {e:ZJ} {a:ZP}:w.G.a0 a->w.h.IsList a e.toArray->e.length<=b0->aK X w f e->o X w (.hy f) (.ref a)
inductive aK(X:cn)(w:aL):ZF->ZJ->Prop
 |nil:aK X w [] []
 |cons {x:V} {a:ZO} {c:ZF} {b:ZJ}:o X w x a->aK X w c b->aK X w (x::c) (a::b)
inductive b2(X:cn)(w:aL):ZE->List (aE×ZO)->Prop
 |nil:b2 X w [] []
 |cons {a:aE} {x:V} {b:ZO} {d:ZE} {c:List (aE×ZO)}:o X w x b->b2 X w d c->b2 X w ((a,x)::d) ((a,b)::c)
inductive dB(X:cn)(w:aL):ZD->List DictEntry->Prop
 |nil:dB X w [] []
 |cons {a:Nat} {i:Int} {t:Tok} {x:V} {b:ZO} {d:ZD} {c:List DictEntry}:o X w x b->dB X w d c->dB X w ((a,x)::d) (⟨i,.str (X.az a) t,b⟩::c)
end
section
variable{X:cn}{w:aL}{v:ZO}{p:ZO->Prop}
def IQ(X:cn)(w:aL)(p:ZO->Prop)(u:ZO):V->Prop
 |.none=>p .none->p u
 |.bool b=>p (.bool b)->p u
 |.int i=>(∀t,p (.int i t))->p u
 |.str s=>(∀t,p (.str s t))->p u
 |.ay O=>(∀a D,w.G.a0 a->w.h.IsTuple a D.toArray->D.length<=b0->aK X w O D->p (.ref a))->p u
 |.ae O=>(∀a D,w.G.a0 a->w.h.PlainList a D.toArray->D.length<=b0->aK X w O D->p (.ref a))->p u
 |.ah d T=>(∀a G,w.G.a0 a->(a==sysModules)=false->ez X w d a G->G.length<=b0->b2 X w T G->p (.ref a))->p u
 |.ins c _ P=>(∀a d G,c<X.i1->w.G.a0 a->w.G.a0 d->w.h.get? a=some (instObj (X.cP c) d)->ir w.h d G->dB X w P G->p (.ref a))->p u
 |.ref q=>(∀a,w.G.aO q=some a->p (.ref a))->p u
 |.hy _=>True
def o.ag(W:o X w a' v):IQ X w p v a':=
 o.casesOn W (λj=>j) (λj=>j) (λj=>j _) (λj=>j _) (λu C J M j=>j _ _ u C J M) (λu C J M j=>j _ _ u C J M) (λu C J M U j=>j _ _ u C J M U) (λu C J M U V j=>j _ _ _ u C J M U V) (λu j=>j _ u) (λ_ _ _ _=>trivial)
def o.l4(u:o X w .none v)(j:p .none):p v:=o.ag u j
def o.kr(u:o X w (.bool a') v)(j:p (.bool a')):p v:=o.ag u j
def o.dt(u:o X w (.int a') v)(j:∀c',p (.int a' c')):p v:=o.ag u j
def o.gb(u:o X w (.str a') v)(j:∀c',p (.str a' c')):p v:=o.ag u j
def o.gr(u:o X w (.ay c') v)(j:∀a' D,w.G.a0 a'->w.h.IsTuple a' D.toArray->D.length<=b0->aK X w c' D->p (.ref a')):p v:=o.ag u j
def o.ig(u:o X w (.ae c') v)(j:∀a' D,w.G.a0 a'->w.h.PlainList a' D.toArray->D.length<=b0->aK X w c' D->p (.ref a')):p v:=o.ag u j
def o.yU(u:o X w (.ah f' kvs) v)(j:∀a' c',w.G.a0 a'->(a'==sysModules)=false->ez X w f' a' c'->c'.length<=b0->b2 X w kvs c'->p (.ref a')):p v:=o.ag u j
def o.mV(u:o X w (.ins f' s' fs) v)(j:∀a' c' h',f'<X.i1->w.G.a0 a'->w.G.a0 c'->w.h.get? a'=some (instObj (X.cP f') c')->ir w.h c' h'->dB X w fs h'->p (.ref a')):p v:=o.ag u j
def o.w2(u:o X w (.ref q) v)(j:∀a',w.G.aO q=some a'->p (.ref a')):p v:=o.ag u j
variable{D:ZJ}{q:ZJ->Prop}
def IS(X:cn)(w:aL)(q:ZJ->Prop)(D:ZJ):ZF->Prop
 |[]=>q []->q D
 |x::O=>(∀v D,o X w x v->aK X w O D->q (v::D))->q D
def aK.ag(C:aK X w a' D):IS X w q D a':=aK.casesOn C (λj=>j) (λo u j=>j _ _ o u)
def aK.eh(o:aK X w [] D)(j:q []):q D:=aK.ag o j
def aK.dM(u:aK X w (a'::c') D)(j:∀v D,o X w a' v->aK X w c' D->q (v::D)):q D:=aK.ag u j
def IP(X:cn)(w:aL)(q:List (aE×ZO)->Prop)(D:List (aE×ZO)):ZE->Prop
 |[]=>q []->q D
 |x::O=>(∀v D,o X w x.2 v->b2 X w O D->q ((x.1,v)::D))->q D
def b2.ag{q:List (aE×ZO)->Prop}{D:List (aE×ZO)}(C:b2 X w a' D):IP X w q D a':=b2.casesOn C (λj=>j) (λo u j=>j _ _ o u)
def b2.eh{q:List (aE×ZO)->Prop}{D:List (aE×ZO)}(o:b2 X w [] D)(j:q []):q D:=b2.ag o j
def b2.dM{q:List (aE×ZO)->Prop}{D:List (aE×ZO)}(u:b2 X w (a'::c') D)(j:∀v D,o X w a'.2 v->b2 X w c' D->q ((a'.1,v)::D)):q D:=b2.ag u j
def aK.hR(M:aK X w [a'] D)(C:∀v,o X w a' v->q [v]):q D:=M.dM λv _ j u=>aK.eh (q:=λJ=>q (v::J)) u (C v j)
end
def fT(X:cn)(w:aL)(p:Nat):O->Prop
 |.ae b _=>w.G.aO p=some (w.G.aX p)/\∃D:ZJ,w.h.PlainList (w.G.aX p) D.toArray/\D.length<=b0/\aK X w b D
 |.ah k T _=>w.G.aO p=some (w.G.aX p)/\(w.G.aX p==sysModules)=false/\∃G,ez X w k (w.G.aX p) G/\G.length<=b0/\b2 X w T G
 |.ins c P=>c<X.i1/\∃a G,w.G.aO p=some a/\w.G.a0 a/\w.h.get? a=some (instObj (X.cP c) (w.G.aX p))/\ir w.h (w.G.aX p) G/\G.length<=900/\dB X w P G
structure bB(X:cn)(b:Z)(w:aL):Prop where
 slot:∀p H,b.get p=some H->fT X w p H
 inj:∀p q,cT b p->cT b q->w.G.aX p=w.G.aX q->p=q
 bI:∀a,w.G.a0 a->(∃H,w.h.get? a=some H)/\∀p,cT b p->w.G.aX p≠a
 gM:∀p a,w.G.aO p=some a->p<b.n
structure cG(c:Z)(w:aL)(d:Z)(B:aL)(g:ZP->Prop):Prop where
 a0:∀a,w.G.a0 a->B.G.a0 a
 aO:∀p a,w.G.aO p=some a->B.G.aO p=some a
 aX:∀p a,w.G.aO p=some a->B.G.aX p=w.G.aX p
 keep:∀b H,w.h.get? b=some H->¬g b->(∀p,qF c p->w.G.aX p≠b)->B.h.get? b=some H
 er:∀b H,w.h.get? b=some H->∃r,B.h.get? b=some r
 new:∀p,cT d p->(cT c p/\B.G.aX p=w.G.aX p)\/w.h.get? (B.G.aX p)=none
 gV:∀p H r,c.get p=some H->d.get p=some r->bc r=bc H
 n:c.n<=d.n
 jU:∀a,B.G.a0 a->w.G.a0 a\/w.h.get? a=none\/∃p,cT c p/\w.G.aX p=a
section
variable{X:cn}{P O r N:Z}{w w' v h:aL}{g d:ZP->Prop}
def CV{K:Type} [DecidableEq K]{w:ZS}{r:KeyKind prog w K}{h:ZQ}{a:ZP}{T:List (K×ZO)}(d:h.DictOf r a T):∃H,h.get? a=some H:=d.imp λ_ d=>d.elim λ_ d=>d.elim λ_ d=>d.1
def ez.has{o:eU}{u:List (aE×ZO)}(j:ez X w o a' u):∃c',w.h.get? a'=some c':=by
 induction o with|I=>exact j.elim λ_ j=>CV j.1|S=>exact j.elim λ_ j=>CV j.1|T=>exact j.elim λ_ j=>(have j:=j.1;j.imp λ_ j=>j.elim λ_ j=>j.elim λ_ j=>j.1)
def fT.has(j:fT X w c' f'):(∃a',w.G.aO c'=some a')/\∃h',w.h.get? (w.G.aX c')=some h':=by
 induction f' with|ae U o=>exact⟨⟨_,j.1⟩,j.2.elim λ_ j=>j.1.elim λ_ j=>⟨_,j⟩⟩|ah J M o=>exact⟨⟨_,j.1⟩,j.2.2.elim λ_ j=>j.1.has⟩|ins u C=>exact j.2.elim λa' j=>j.elim λ_ j=>⟨⟨a',j.1⟩,j.2.2.2.1.elim λ_ j=>⟨_,j⟩⟩
def bB.has(j:bB X P w)(C:cT P a'):(∃c',w.G.aO a'=some c')/\∃f',w.h.get? (w.G.aX a')=some f':=C.elim λo u=>(j.slot a' o u).has
def bB.lt(j:bB X P w)(C:cT P a'):a'<P.n:=(j.has C).1.elim λo u=>j.gM a' o u
def bB.er(j:bB X P w)(o:cT P c'):∃a',w.h.get? (w.G.aX c')=some a':=(j.has o).2
def bB.kT(o:bB X P w){j:ZP}(u:w.h.get? j=none)(C:cT P a')(M:w.G.aX a'=j):False:=(o.er C).elim λ_ J=>cj (M▸J) u
def cG.refl(P:Z)(w:aL)(g:ZP->Prop):cG P w P w g:=
 ⟨λ_ j=>j,λ_ _ j=>j,λ_ _ _=>rfl,λ_ _ u _ _=>u,λ_ o u=>⟨o,u⟩,λ_ M=>.inl ⟨M,rfl⟩,λ_ o U C J=>W0 bc (WZ (J.symm.trans C)),Xe _,λ_ j=>.inl j⟩
def cG.iZ(u:cG P w O w' g){j:ZP}(C:w'.h.get? j=none):w.h.get? j=none:=by
 generalize M:w.h.get? j=U;induction U with|none=>rfl|some o=>exact(u.er j o M).elim λ_ J=>cj J C
def cG.alive(C:bB X P w)(j:cG P w r v g)(J:cG r v N h d)(U:cT P a')(Z:cT N a'):cT r a':=
 (J.new a' Z).elim (·.1) λV=>(C.has U).1.elim λu M=>(C.has U).2.elim λo W=>(j.er _ _ W).elim λo₁ Y=>cj (o:=o₁) (by exact(J.aX a' u (j.aO a' u M))▸(j.aX a' u M)▸Y) V
def cG.trans(c':bB X P w)(u:cG P w r v g)(b:cG r v N h g):cG P w N h g where
 a0 J e1:=b.a0 J (u.a0 J e1)
 aO j W C:=b.aO j W (u.aO j W C)
 aX j W C:=(b.aX j W (u.aO j W C)).trans (u.aX j W C)
 keep J o C cK hm:=b.keep J o (u.keep J o C cK hm) cK λj Y a'=>Y.elim λo₁ Y=>(u.new j ⟨o₁,Y.1⟩).elim
  (λV=>V.1.elim λo₀ e₀=>hm j ⟨o₀,e₀,(u.gV j _ _ e₀ Y.1).symm.trans Y.2⟩ (V.2.symm.trans a')) λM=>cj C (a'▸M)
 er J o C:=(u.er J o C).elim λo₁ Z=>b.er J o₁ Z
 new j V:=(b.new j V).elim (λl₁=>(u.new j l₁.1).elim (λl₀=>.inl ⟨l₀.1,l₁.2.trans l₀.2⟩) λM=>.inr (by exact l₁.2▸M)) λM=>.inr (u.iZ M)
 gV j o o₂ C e₂:=(cG.alive c' u b ⟨o,C⟩ ⟨o₂,e₂⟩).elim λ_ Z=>(b.gV j _ _ Z e₂).trans (u.gV j _ _ C Z)
 n:=W5 u.n b.n
 jU J M:=(b.jU J M).elim (u.jU J) λU=>.inr (U.elim (λU=>.inl (u.iZ U)) λU=>U.elim λj U=>(u.new j U.1).elim (λV=>.inr ⟨j,V.1,V.2.symm.trans U.2⟩) λM=>.inl (by exact U.2▸M))
def cG.xM(j:cG P w O w' g)(M:∀a',g a'->d a'):cG P w O w' d:=
 {j with keep:=λa' o u J C=>j.keep a' o u (λU=>J (M a' U)) C}
def cG.mi(J:bB X P w)(M:cG P w r v g)(U:cG r v N h d)(j:∀a',d a'->g a'\/w.h.get? a'=none):cG P w N h g:=
 let u:=(M.xM (d:=λa'=>g a'\/w.h.get? a'=none) λ_ j=>.inl j).trans J (U.xM j)
 {u with keep:=λa' o C W V=>u.keep a' o C (λj=>j.elim W λj=>cj C j) V}
structure cM(w w':aL):Prop where
 a0:∀a,w.G.a0 a->w'.G.a0 a
 aO:∀p a,w.G.aO p=some a->w'.G.aO p=some a
 keep:∀a H,w.G.a0 a->w.h.get? a=some H->w'.h.get? a=some H
def cM.refl(w:aL):cM w w:=⟨λ_ j=>j,λ_ _ j=>j,λ_ _ _ j=>j⟩
def cM.trans(u:cM w v)(b:cM v h):cM w h:=⟨λj C=>b.a0 j (u.a0 j C),λM j J=>b.aO M j (u.aO M j J),λj o C J=>b.keep j o (u.a0 j C) (u.keep j o C J)⟩
def zQ{h S:ZQ}(x:h.IsTuple a items)(e:∀H,h.get? a=some H->S.get? a=some H):S.IsTuple a items:=let⟨H,s,r⟩:=x;⟨H,e _ s,r⟩
def q5{K:Type} [DecidableEq K]{m:Program}{w:ZS}{r:KeyKind m w K}{h S:ZQ}{a:ZP}{T:List (K×ZO)}(x:h.DictOf r a T)(e:∀H,h.get? a=some H->S.get? a=some H):S.DictOf r a T:=
 x.imp λ_ x=>x.imp λ_ x=>x.imp λ_ x=>⟨e _ x.1,x.2⟩
def LD{K:Type} [DecidableEq K]{w:ZS}{r:KeyKind prog w K}{h S:ZQ}{a:ZP}{T:List (List K×ZP×ZO)}(x:h.DictOfH (tupleKind r) a T)(e:∀H,h.get? a=some H->S.get? a=some H)(k:∀y∈T,∀H,h.get? y.2.1=some H->S.get? y.2.1=some H):S.DictOfH (tupleKind r) a T:=
 x.imp λ_ x=>x.imp λ_ x=>x.imp λ_ x=>⟨e _ x.1,x.2.1,x.2.2.1,x.2.2.2.1,λy L=>(have x:=(x.2.2.2.2.1 y L);x.imp λ_ x=>x.imp λ_ x=>x.imp λ_ x=>⟨(k y L) _ x.1,x.2⟩),x.2.2.2.2.2⟩
def ez.ext{J:eU}{V:List (aE×ZO)}(M:ez X w J a' V)(E:cM w w')(u:∀c',w.h.get? a'=some c'->w'.h.get? a'=some c'):ez X w' J a' V:=by
 induction J with|I=>exact M.elim λo j=>⟨o,q5 j.1 u,j.2⟩|S=>exact M.elim λo j=>⟨o,q5 j.1 u,j.2⟩|T=>exact M.elim λo j=>⟨o,LD j.1 u λU C c' W=>E.keep _ _ (j.2.2 U C) W,j.2.1,λU C=>E.a0 _ (j.2.2 U C)⟩
def ir.at(u:ir s' a' f')(j:∀c',s'.get? a'=some c'->h'.get? a'=some c'):ir h' a' f':=u.elim λo C=>⟨o,j _ C⟩
def o.ext(E:cM w w'){Z:V}(J:o X w Z a'):o X w' Z a':=
 J.rec
  .none .bool .int .str (λj U u _ J=>.ay (E.a0 _ j) (zQ U λM C=>E.keep _ M j C) u J) (λj U u _ J=>.ae (E.a0 _ j) (U.at λM C=>E.keep _ M j C) u J)
  (λj c' U u _ J=>.ah (E.a0 _ j) c' (U.ext E λM C=>E.keep _ M j C) u J) (λlc j Y U cK _ J=>.ins lc (E.a0 _ j) (E.a0 _ Y) (E.keep _ _ j U) (cK.at λM C=>E.keep _ M Y C) J)
  (λC=>.ref (E.aO _ _ C)) (λj U u _ J=>.hy (E.a0 _ j) (U.at λM C=>E.keep _ M j C) u J) .nil (λ_ _ W u=>.cons W u) .nil (λ_ _ W u=>.cons W u) .nil (λ_ _ W u=>.cons W u)
def aK.map(j:∀c' a',o X w c' a'->o X w' c' a')(J:aK X w c' a'):aK X w' c' a':=
 J.rec (motive_1:=λ_ _ _=>True) (motive_3:=λ_ _ _=>True) (motive_4:=λ_ _ _=>True)
  ⟨⟩ ⟨⟩ ⟨⟩ ⟨⟩ (λ_ _ _ _ _=>⟨⟩) (λ_ _ _ _ _=>⟨⟩) (λ_ _ _ _ _ _=>⟨⟩) (λ_ _ _ _ _ _ _=>⟨⟩) (λ_=>⟨⟩) (λ_ _ _ _ _=>⟨⟩) .nil (λu _ _ C=>.cons (j _ _ u) C) ⟨⟩ (λ_ _ _ _=>⟨⟩) ⟨⟩ (λ_ _ _ _=>⟨⟩)
def b2.map(j:∀c' a',o X w c' a'->o X w' c' a')(J:b2 X w c' a'):b2 X w' c' a':=
 J.rec (motive_1:=λ_ _ _=>True) (motive_2:=λ_ _ _=>True) (motive_4:=λ_ _ _=>True)
  ⟨⟩ ⟨⟩ ⟨⟩ ⟨⟩ (λ_ _ _ _ _=>⟨⟩) (λ_ _ _ _ _=>⟨⟩) (λ_ _ _ _ _ _=>⟨⟩) (λ_ _ _ _ _ _ _=>⟨⟩) (λ_=>⟨⟩) (λ_ _ _ _ _=>⟨⟩) ⟨⟩ (λ_ _ _ _=>⟨⟩) .nil (λu _ _ C=>.cons (j _ _ u) C) ⟨⟩ (λ_ _ _ _=>⟨⟩)
def dB.map(j:∀c' a',o X w c' a'->o X w' c' a')(J:dB X w c' a'):dB X w' c' a':=
 J.rec (motive_1:=λ_ _ _=>True) (motive_2:=λ_ _ _=>True) (motive_3:=λ_ _ _=>True) (motive_4:=λc' a' _=>dB X w' c' a')
  ⟨⟩ ⟨⟩ ⟨⟩ ⟨⟩ (λ_ _ _ _ _=>⟨⟩) (λ_ _ _ _ _=>⟨⟩) (λ_ _ _ _ _ _=>⟨⟩) (λ_ _ _ _ _ _ _=>⟨⟩) (λ_=>⟨⟩) (λ_ _ _ _ _=>⟨⟩) ⟨⟩ (λ_ _ _ _=>⟨⟩) ⟨⟩ (λ_ _ _ _=>⟨⟩) .nil (λu _ _ C=>.cons (j _ _ u) C)
def aK.ext(E:cM w w')(j:aK X w c' a'):aK X w' c' a':=j.map λ_ _=>o.ext E
def b2.ext(E:cM w w')(j:b2 X w c' a'):b2 X w' c' a':=j.map λ_ _=>o.ext E
def dB.ext(E:cM w w')(j:dB X w c' a'):dB X w' c' a':=j.map λ_ _=>o.ext E
def cG.ext(C:bB X P w)(j:cG P w O w' g)(U:∀a',g a'->¬w.G.a0 a'):cM w w':=
 ⟨j.a0,j.aO,λa' o u J=>j.keep a' o J (λW=>U a' W u) λV M=>(C.bI a' u).2 V M.e'⟩
def fT.ext(j:fT X w c' a')(E:cM w w')(o:w'.G.aX c'=w.G.aX c')(C:∀a',w.h.get? (w.G.aX c')=some a'->w'.h.get? (w.G.aX c')=some a'):fT X w' c' a':=by
 induction a' with|ae xs M=>exact⟨o▸E.aO _ _ j.1,j.2.elim λU j=>⟨U,o▸j.1.at C,j.2.1,j.2.2.ext E⟩⟩|ah Y Z M=>exact⟨o▸E.aO _ _ j.1,o▸j.2.1,j.2.2.elim λu j=>⟨u,o▸j.1.ext E C,j.2.1,j.2.2.ext E⟩⟩|ins V W=>exact⟨j.1,j.2.elim λJ j=>j.elim λu j=>⟨J,u,E.aO _ _ j.1,E.a0 _ j.2.1,o▸E.keep _ _ j.2.1 j.2.2.1,o▸j.2.2.2.1.at C,j.2.2.2.2.1,j.2.2.2.2.2.ext E⟩⟩
end
def m6:¬cT (Z.mk .nil a) q:=λh=>h.elim λ_ e=>ns e
def c3(h S:ZQ):Prop:=∀b o,h.get? b=some o->S.get? b=some o
def c3.refl(j:ZQ):c3 j j:=λ_ _ o=>o
def c3.trans(C:c3 a' b)(J:c3 b c'):c3 a' c':=λj o u=>J j o (C j o u)
def c3.push(j:ZQ)(o:Obj):c3 j (j.push o):=λ_ _ u=>Heap.get?_push_of_some _ u
structure gw(l:ZP)(h a:ZQ):Prop where
 keep:∀b H,b≠l->h.get? b=some H->a.get? b=some H
 has:∃H,a.get? l=some H
def gw.Gi(o:c3 c' h')(C:∃a',c'.get? f'=some a'):gw f' c' h':=⟨λu a' _ j=>o u a' j,C.elim λa' j=>⟨a',o f' a' j⟩⟩
def gw.er(j:gw s' f' h'):∀a' c',f'.get? a'=some c'->∃w',h'.get? a'=some w':=λa' c' o=>if q:a'=s' then q▸j.has else⟨c',j.keep a' c' q o⟩
def hp(h:ZQ):h.get? h.objs.size=none:=by
 generalize e:h.get? h.objs.size=N;induction N with|none=>rfl|some o=>exact absurd (XA e) (Yj _)
structure cY(l:ZP)(a:Z)(w:aL):Prop where
 a0:¬w.G.a0 l
 aX:∀p,cT a p->w.G.aX p≠l
def aA{C:Prop}(e:Y x f=some b)(k:∀a,x=some a->f a=some b->C):C:=by
 induction x with|none=>exact ns e|some a=>exact k a rfl e
def bK{C:Prop}(e:Y x f=some r)(k:∀a b,x=some (a,b)->f (a,b)=some r->C):C:=aA e λp=>k p.1 p.2
def bR{C:Prop}(e:bS b x=some r)(k:b=true->x=some r->C):C:=by
 induction b with|true=>exact k rfl e|false=>exact ns e
def b6{p:α->Prop}(e:some a=some c)(k:p a):p c:=WZ e▸k
def bz{α β:Type}{a c:α}{b d:β}{p:α->β->Prop}(e:some (a,b)=some (c,d))(k:p a b):p c d:=b6 (p:=λq=>p q.1 q.2) e k
section
variable{X:cn}{T R:Z}{w B:aL}
def bB.D3(u:bB X T w)(own:cY h' T w)(C:gw h' w.h B.h)(W:B.G.aO=w.G.aO)(J:B.G.aX=w.G.aX)(Z:∀a',w.G.a0 a'->B.G.a0 a')(Y:∀f',B.G.a0 f'->w.G.a0 f'\/(w.h.get? f'=none/\∃c',B.h.get? f'=some c')):
  bB X T B/\cG T w T B (·=h'):=by
 have E:cM w B:=⟨Z,λ_ _ U=>by exact W▸U,λa' c' o j=>C.keep a' c' (λV=>own.a0 (V▸o)) j⟩
 refine⟨⟨λM c' j=>(u.slot M c' j).ext E (by rw[J]) λU ex=>C.keep _ U (own.aX M ⟨c',j⟩) ex,by exact J▸u.inj,λa' o=>?_,by exact W▸u.gM⟩,Z,E.aO,λ_ _ _=>by rw[J],λf' c' j V _=>C.keep f' c' V j,C.er,λM h'=>.inl ⟨h',by rw[J]⟩,
  λM c' e1 j cK=>W0 bc (WZ (cK.symm.trans j)),Xe _,λa' o=>(Y a' o).imp id λo=>.inl o.1⟩
 exact J▸(Y a' o).elim (λo=>(u.bI a' o).imp (λj=>j.elim (C.er a')) id) λo=>⟨o.2,λM h' j=>u.kT o.1 h' j⟩
def bB.bV(j:bB X T w)(own:cY c' T w)(C:gw c' w.h s'.heap)(u:∀a',F a'->w.h.get? a'=none/\∃f',s'.heap.get? a'=some f'):bB X T ⟨w.G.bI F,s'⟩/\cG T w T ⟨w.G.bI F,s'⟩ (·=c'):=
 j.D3 own C rfl rfl (λ_=>.inl) λa' o=>o.imp id (u a')
def bB.keep(j:bB X T w)(u:cY a' T w)(o:gw a' w.h s'.heap):bB X T ⟨w.G,s'⟩/\cG T w T ⟨w.G,s'⟩ (·=a'):=j.D3 u o rfl rfl (λ_=>id) λ_=>.inl
def lY(l:cT (T.new H) p):p=T.n\/cT T p:=l.elim λr e=>by
 rw[Z.s9] at e
 by_cases q:T.n=p
 .exact .inl q.symm
 .rw[if_neg q] at e;exact .inr ⟨r,e⟩
def qd{G:jH}(h:p≠b):(G.a5 b c a).aO p=G.aO p/\(G.a5 b c a).aX p=G.aX p:=⟨if_neg h,if_neg h⟩
def ea{G:jH}:(G.a5 b c a).aO b=some c/\(G.a5 b c a).aX b=a:=⟨if_pos rfl,if_pos rfl⟩
def bB.wz(j:bB X T w)(o:w.G.aO a'=some c'):a'≠T.n:=Xi (j.gM a' c' o)
def bB.Ao{o:O}(M:bB X T w)(own:cY c' T w)(Y:gw c' w.h s'.heap)(hF:∀a',h' a'->w.h.get? a'=none/\∃o,s'.heap.get? a'=some o)(cK:w.h.get? f'=none)(na:¬h' f')
  (S:cM w ⟨(w.G.bI h').a5 T.n w' f',s'⟩->fT X ⟨(w.G.bI h').a5 T.n w' f',s'⟩ T.n o):bB X (T.new o) ⟨(w.G.bI h').a5 T.n w' f',s'⟩/\cG T w (T.new o) ⟨(w.G.bI h').a5 T.n w' f',s'⟩ (·=c'):=by
 have ltl:∀j,cT T j->j≠T.n:=λj c'=>Xi (M.lt c');have E:cM w ⟨(w.G.bI h').a5 T.n w' f',s'⟩:=⟨λ_ V=>.inl V,λj a' V=>(qd (M.wz V)).1.trans V,λf' o C u=>Y.keep f' o (λJ=>own.a0 (J▸C)) u⟩;have W:∀j,cT T j->((w.G.bI h').a5 T.n w' f').aX j=w.G.aX j:=λj c'=>(qd (ltl j c')).2;have ne:∀j,cT T j->w.G.aX j≠f':=λj c' u=>M.kT cK c' u;refine⟨⟨λj fi u=>?_,λj U fl fp u=>?_,λa' C=>?_,λj a' u=>?_⟩,λ_ V=>.inl V,E.aO,λj a' u=>(qd (M.wz u)).2,λa' o u J _=>Y.keep a' o J u,Y.er,λj c'=>?_,λj o₁ o₂ u e2=>?_,Xt _,λa' C=>C.imp id λC=>.inl (hF a' C).1⟩
 .rw[Z.s9] at u
  by_cases U:T.n=j
  .rw[if_pos U] at u;exact U▸WZ u▸S E
  .rw[if_neg U] at u
   exact(M.slot j fi u).ext E (W j ⟨_,u⟩) λV ex=>Y.keep _ V (own.aX j ⟨fi,u⟩) ex
 .rcases lY fl with rfl|lp'<;>rcases lY fp with rfl|lq'
  .rfl
  .exact absurd (ea.2.symm.trans (u.trans (W U lq'))).symm (ne U lq')
  .exact absurd ((W j lp').symm.trans (u.trans ea.2)) (ne j lp')
  .exact M.inj j U lp' lq' ((W j lp').symm.trans (u.trans (W U lq')))
 .refine⟨C.elim (λC=>(M.bI a' C).1.elim (Y.er a')) λC=>(hF a' C).2,λj c' J=>?_⟩
  rcases lY c' with rfl|e1
  .have J:=ea.2.symm.trans J
   subst J;exact C.elim (λC=>(M.bI f' C).1.elim λ_ u=>cj u cK) na
  .have J:=(W j e1).symm.trans J
   exact C.elim (λC=>(M.bI a' C).2 j e1 J) λC=>M.kT (hF a' C).1 e1 J
 .have u:(if j=T.n then some w' else w.G.aO j)=some a':=u
  by_cases U:j=T.n
  .exact U▸Xh _
  .rw[if_neg U] at u;exact XH (M.gM j a' u)
 .exact(lY c').elim (λJ=>.inr (by subst J;exact(W0 w.h.get? ea.2).trans cK)) λc'=>.inl ⟨c',W j c'⟩
 .rw[Z.s9,if_neg (Ne.symm (ltl j ⟨o₁,u⟩)),u] at e2
  exact W0 bc (WZ e2).symm
def kO(G:T.get p=some a):cT (T.set p H) q↔cT T q:=by
 unfold cT;rw[Z.mR]
 by_cases z:p=q
 .exact(if_pos z)▸⟨λ_=>⟨a,z▸G⟩,λ_=>⟨H,rfl⟩⟩
 .rw[if_neg z]
def bB.update(M:bB X T w)(own:cY h' T w)(J:T.get f'=some o₀)(l₀:bc o₀=0)(lo:bc w'=0)(W:∀c' a',c'≠w.G.aX f'->c'≠h'->w.h.get? c'=some a'->s'.heap.get? c'=some a')(e2:∃a',s'.heap.get? h'=some a')
  (S:cM w ⟨w.G,s'⟩->fT X ⟨w.G,s'⟩ f' w'):bB X (T.set f' w') ⟨w.G,s'⟩/\cG T w (T.set f' w') ⟨w.G,s'⟩ (·=h'):=by
 have e1:cT T f':=⟨o₀,J⟩;have E:cM w ⟨w.G,s'⟩:=⟨λ_ a'=>a',λ_ _ a'=>a',λC a' U j=>W C a' (Ne.symm ((M.bI C U).2 f' e1)) (λo=>own.a0 (o▸U)) j⟩;have S:=S E;have dom:∀c' a',w.h.get? c'=some a'->∃x',s'.heap.get? c'=some x':=λc' a' j=>if o:c'=w.G.aX f' then o▸S.has.2 else if Y:c'=h' then Y▸e2 else⟨a',W c' a' o Y j⟩
 refine⟨⟨λu cK j=>?_,λC c' fi fl j=>M.inj C c' ((kO J).mp fi) ((kO J).mp fl) j,λC U=>(M.bI C U).imp (λa'=>a'.elim (dom C)) λu c' h'=>u c' ((kO J).mp h'),M.gM⟩,λ_ a'=>a',λ_ _ a'=>a',λ_ _ _=>rfl,λc' a' j o fp=>W c' a' (Ne.symm (fp f' ⟨o₀,J,l₀⟩)) o j,dom,
  λu h'=>.inl ⟨(kO J).mp h',rfl⟩,λu o₁ o₂ j V=>(by
   rw[Z.mR] at V
   by_cases o:f'=u
   .subst o;rw[if_pos rfl] at V;exact(WZ V)▸(WZ (J.symm.trans j))▸(lo.trans l₀.symm)
   .rw[if_neg o] at V;exact W0 bc (WZ (V.symm.trans j))),Xe _,λC U=>.inl U⟩
 rw[Z.mR] at j
 by_cases o:f'=u
 .rw[if_pos o] at j;exact o▸WZ j▸S
 .rw[if_neg o] at j
  exact(M.slot u cK j).ext E rfl λa' ex=>W _ a' (λY=>o (M.inj f' u e1 ⟨cK,j⟩ Y.symm)) (own.aX u ⟨cK,j⟩) ex
def bB.SJ(o:bB X T w)(C:T.get a'=some o₀)(S:fT X w a' o₀->fT X w a' c'):bB X (T.set a' c') w:=by
 refine⟨λV e1 j=>?_,λu J Y cK j=>o.inj u J ((kO C).mp Y) ((kO C).mp cK) j,λu U=>⟨(o.bI u U).1,λJ W=>(o.bI u U).2 J ((kO C).mp W)⟩,o.gM⟩;rw[Z.mR] at j
 by_cases M:a'=V
 .rw[if_pos M] at j;exact M▸WZ j▸S (o.slot _ _ C)
 .rw[if_neg M] at j;exact o.slot V e1 j
def ru{p q:Nat}(l:cT (T.ho p) q):cT T q/\q≠p:=l.elim λo e=>by
 rw[Z.DY] at e
 by_cases z:p=q
 .rw[if_pos z] at e;exact ns e
 .rw[if_neg z] at e;exact⟨⟨o,e⟩,Ne.symm z⟩
def DZ(e:(T.ho p).get q=some H):T.get q=some H:=by
 rw[Z.DY] at e
 by_cases z:p=q
 .rw[if_pos z] at e;exact ns e
 .rw[if_neg z] at e;exact e
def bB.M3(C:bB X T w)(Y:T.get c'=some o₀):bB X (T.ho c') ⟨w.G.bI λa'=>a'=w.G.aX c',w.s⟩/\cG T w (T.ho c') ⟨w.G.bI λa'=>a'=w.G.aX c',w.s⟩ Ex:=by
 have U:cT T c':=⟨o₀,Y⟩;have E:cM w ⟨w.G.bI λa'=>a'=w.G.aX c',w.s⟩:=⟨λ_ o=>.inl o,λ_ _ o=>o,λJ o j u=>u⟩;refine⟨⟨λV e1 u=>(C.slot V e1 (DZ u)).ext E rfl λ_ o=>o,λJ a' Z cK u=>C.inj J a' (ru Z).1 (ru cK).1 u,λJ j=>?_,C.gM⟩,λ_ o=>.inl o,λ_ _ o=>o,λ_ _ _=>rfl,λa' o u _ _=>u,λa' o u=>⟨o,u⟩,
  λV M=>.inl ⟨(ru M).1,rfl⟩,λV o₁ o₂ u W=>W0 bc (WZ ((DZ W).symm.trans u)),Xe _,λJ j=>j.imp id λj=>.inr ⟨c',U,j.symm⟩⟩
 exact j.elim (λj=>⟨(C.bI J j).1,λa' M=>(C.bI J j).2 a' (ru M).1⟩) λj=>by have j:=j;subst j;exact⟨C.er U,λa' M e2=>(ru M).2 (C.inj a' c' (ru M).1 U e2)⟩
def bB.none(u:bB X T w):bB X ⟨.nil,T.n⟩ w:=
 ⟨λC o M=>ns M,λC _ j=>absurd j m6,λJ U=>⟨(u.bI J U).1,λC j=>absurd j m6⟩,u.gM⟩
def jH.done(j:jH)(T:Z):jH:=aai (j.bI λu=>∃o,cT T o/\j.aX o=u)
noncomputable def aL.done(w:aL)(T:Z):aL:=⟨w.G.done T,w.s⟩
def cM.done(w:aL)(T:Z):cM w (w.done T):=⟨λ_ j=>.inl j,λ_ _ j=>j,λ_ _ _ o=>o⟩
def bB.Fh(u:bB X T w):bB X ⟨.nil,T.n⟩ (w.done T):=
 ⟨λJ o V=>ns V,λJ _ C=>absurd C m6,λU j=>⟨j.elim (λj=>(u.bI U j).1) λj=>j.elim λW M=>M.2▸u.er M.1,λJ C=>absurd C m6⟩,u.gM⟩
def AQ(H:∀x y c,g x=some y->o X w x c->o X B y c):∀{b f:ZF}{d:ZJ},f3 g b=some f->aK X w b d->aK X B f d:=λ{b}=>by
 induction b with|nil=>exactλe r=>b6 (p:=λy=>aK X B y _) e (r.eh .nil)|cons x b S=>exactλe r=>aA e λa I e=>aA e λl A e=>b6 (p:=λy=>aK X B y _) e (r.dM λc d m E=>.cons (H _ _ _ I m) (S A E))
def GF(H:∀x y d,g x=some y->o X w x d->o X B y d):∀{c:ZE}{b:List (aE×ZO)},gW g f=some c->b2 X w f b->b2 X B c b:=by
 induction f with|nil=>exactλ{c b} e r=>r.eh (b6 (p:=λy=>b2 X B y []) e .nil)|cons x f S=>exactλ{c b} e r=>r.dM (q:=λb=>b2 X B c b) λd b m E=>aA e λa I e=>aA e λl A e=>b6 (p:=λy=>b2 X B y _) e (.cons (H _ _ _ I m) (S A E))
def GG(H:∀x y c,g x=some y->o X w x c->o X B y c)(e:gi g f=some b)(r:dB X w f d):dB X B b d:=
 dB.rec (motive_1:=λ_ _ _=>True) (motive_2:=λ_ _ _=>True) (motive_3:=λ_ _ _=>True) trivial trivial trivial trivial (λ_ _ _ _ _=>trivial) (λ_ _ _ _ _=>trivial) (λ_ _ _ _ _ _=>trivial) (λ_ _ _ _ _ _ _=>trivial) (λ_=>trivial) (λ_ _ _ _ _=>trivial) trivial (λ_ _ _ _=>trivial) trivial (λ_ _ _ _=>trivial)
  (λb e=>b6 (p:=λy=>dB X B y _) e .nil) (λm _ _ S b e=>aA e λa I e=>aA e λl A e=>b6 (p:=λy=>dB X B y _) e (.cons (H _ _ _ I m) (S l A))) r b e
def ez.up(u:ez X w f' a' c')(E:cM w B)(o:B.h=w.h):ez X B f' a' c':=u.ext E λ_ j=>o▸j
def w3(R:bB X T w):∀(f:Nat)(x y:V)(g:ZO),ct f T x=some y->o X w x g->o X (w.done T) y g:=λf=>by
 have E:=cM.done w T;induction f with
 |zero=>exactλ_ _ _ e=>ns e
 |succ f H=>
  intro x y g e r;have self:∀p i,T.get p=some i->(w.done T).G.a0 (w.G.aX p):=λp i e=>.inr ⟨p,⟨i,e⟩,rfl⟩;have h:some x=some y->o X (w.done T) y g:=λe=>b6 (p:=λy=>o X (w.done T) y g) e (r.ext E);induction x using V.casesOn with
  |ref p=>
   have e:(match T.get p with
    |some (.ae O _)=>Y (f3 (ct f T) O) λl=>some (V.ae l)
    |some (.ah k m _)=>Y (gW (ct f T) m) λl=>some (.ah k l)
    |some (.ins c P)=>Y (gi (ct f T) P) λl=>some (.ins c false l)
    |.none=>.none)=some y:=e
   generalize s:T.get p=B;induction B with
   |none=>rw[s] at e;exact ns e
   |some i=>
    rw[s] at e;have S:=R.slot p i s;have j:=self p i s;have aD:∀a,w.G.aO p=some a->g=.ref a:=λa t=>r.w2 (p:=λg=>g=.ref a) λb u=>W0 Value.ref (WZ (u.symm.trans t));induction i with
    |ae O l=>exact aA e λl A e=>b6 (p:=λy=>o X (w.done T) y g) e (S.2.elim λD z=>aD _ S.1▸.ae j z.1 z.2.1 (AQ H A z.2.2))
    |ah k m l=>exact aA e λl A e=>b6 (p:=λy=>o X (w.done T) y g) e (S.2.2.elim λG z=>aD _ S.1▸.ah j S.2.1 (z.1.up E rfl) z.2.1 (GF H A z.2.2))
    |ins c P=>exact aA e λl A e=>b6 (p:=λy=>o X (w.done T) y g) e (S.2.elim λa z=>z.elim λG z=>aD _ z.1▸.ins S.1 (E.a0 _ z.2.1) j z.2.2.1 z.2.2.2.1 (GG H A z.2.2.2.2.2))
  |ins c b P=>
   induction b with
   |true=>exact aA e λl A e=>b6 (p:=λy=>o X (w.done T) y g) e (r.mV λa d G I n lK q N v=>.ins I (E.a0 _ n) (E.a0 _ lK) q N (GG H A v))
   |false=>exact h e
  |hy=>exact h e
  |none=>exact h e
  |bool=>exact h e
  |int=>exact h e
  |str=>exact h e
  |ay=>exact h e
  |ae=>exact h e
  |ah=>exact h e
end
structure ed where
 g:ZQ
 L:ZP
 hS:List Env
 base:ZQ
 Ia:ZX
 bx:Env
 dz:ZP->Prop
structure cu where
 X:cn
 f:ed
 af:Env
 A:ZX
noncomputable abbrev aae(c:cu):=model c.X.prog c.X.w
abbrev aad(c:cu){α:Type}:=wpAny (α:=α) (aae c) c.A
structure hZ(X:cn)(f:ed):Prop where
 B:Below f.Ia f.base f.hS f.g
 K:X.K.In f.g
 T:Top X.T.p X.T.FD X.T.rx X.T.FQ X.T.FL f.g
 lW:f.bx.frame=some f.L
 kind:f.bx.scope.kind=.function
noncomputable def Bs:Nat:=624
structure d6(f:ed)(A:ZX)(a:Nat):Prop where
 frames:A.frames=some (f.bx::f.hS)
 bC:A.handled=none
 depth:A.depth*20+a<=18000
 units:A.units+8*a<=9000
 rq:f.hS.length*20+a<=Bs
def d6.jw{C:ed}{u:ZX}{M J:Nat}(j:d6 C u M)(o:J<=M):d6 C u J:=⟨j.frames,j.bC,W5 (Xg o _) j.depth,W5 (Xg (XE _ o) _) j.units,W5 (Xg o _) j.rq⟩
def Oz(a n:Nat):a+1+8*n<=a+8*(n+1):=by rw[Yz,W9,Xa 1];exact Xg (Xg (by decide) _) _
def d6.in1{u:ed}{o:ZX}{C:Nat}(j:d6 u o (C+1)):d6 u o.in1 C:=⟨j.frames,j.bC,W5 (Xt _) j.depth,W5 (Oz _ _) j.units,W5 (Xt _) j.rq⟩
structure aP(c:cu)(b:Z)(w:aL):Prop where
 aM:∃m,Fr c.f.g c.f.L w.h m
 aH:bB c.X b w
 own:cY c.f.L b w
 new:∀p,cT b p->c.f.g.get? (w.G.aX p)=none
 dz:∀a,c.f.dz a->(∃H,w.h.get? a=some H)/\a≠c.f.L/\cY a b w/\c.f.g.get? a=none
def iw(f:ed)(b:ZP):Prop:=b=f.L
def hh(f:ed)(b:ZP):Prop:=b=f.L\/f.dz b
def fm(w B:aL):Prop:=∃h s,B.s={w.s with heap:=h,toks:=s}
def fm.refl(j:aL):fm j j:=⟨_,_,rfl⟩
def fm.trans{u b C:aL}(j:fm u b)(o:fm b C):fm u C:=j.elim λ_ j=>j.elim λ_ j=>o.elim λJ o=>o.elim λM o=>⟨J,M,by rw[o,j]⟩
structure aT(c:cu)(b:Z)(w:aL)(a:Z)(B:aL):Prop where
 aH:bB c.X a B
 step:cG b w a B (iw c.f)
 aM:∀m,Fr c.f.g c.f.L w.h m->Fr c.f.g c.f.L B.h m
 dd:fm w B
structure cO(c:cu)(b:Z)(w:aL)(a:Z)(B:aL):Prop where
 aH:bB c.X a B
 step:cG b w a B (hh c.f)
 aM:∃m,Fr c.f.g c.f.L B.h m
 dd:fm w B
def aP.jX(u:aP c' h' f'):∃a',f'.h.get? c'.f.L=some a':=u.aM.elim λ_ o=>o.ns.elim λa' j=>j.elim λ_ j=>j.elim λ_ j=>⟨a',j.1⟩
def cY.step{o:ZP}(O:cY o c' a')(M:∃f',a'.h.get? o=some f')(S:cG c' a' hp' w' Ex):cY o hp' w':=
 M.elim λ_ J=>⟨λC=>(S.jU o C).elim O.a0 λj=>j.elim (cj J) λj=>j.elim λu j=>O.aX u j.1 j.2,λu U C=>(S.new u U).elim (λj=>O.aX u j.1 (j.2.symm.trans C)) λj=>cj J (C▸j)⟩
def aP.step(j:aP a' c' h')(J:∃f',Fr a'.f.g a'.f.L w'.h f')(W:bB a'.X hp' w')(S:cG c' h' hp' w' Ex):aP a' hp' w':=
 ⟨J,W,j.own.step j.jX S,λU Y=>(S.new U Y).elim (λC=>C.2▸j.new U C.1) λC=>by
  generalize M:a'.f.g.get? (w'.G.aX U)=cK;induction cK with
  |none=>rfl
  |some o=>exact j.aM.elim λ_ J=>cj (J.keep _ _ M) C,
  λV o=>have u:=j.dz V o;⟨u.1.elim λZ M=>S.er V Z M,u.2.1,u.2.2.1.step u.1 S,u.2.2.2⟩⟩
def aP.aF(o:aP a' c' f')(j:aT a' c' f' hp' w'):aP a' hp' w':=o.step (o.aM.elim λu C=>⟨u,j.aM u C⟩) j.aH j.step
def aP.b7(o:aP a' c' f')(j:cO a' c' f' hp' w'):aP a' hp' w':=o.step j.aM j.aH j.step
def aP.ext(j:aP c' f' a')(o:aT c' f' a' hp' w'):cM a' w':=o.step.ext j.aH λ_ u=>u▸j.own.a0
def aP.q'(o:aP c' f' a')(u:cO c' f' a' hp' w'):cM a' w':=u.step.ext o.aH λC j=>j.elim (λj=>j▸o.own.a0) λj=>(o.dz C j).2.2.1.a0
def aT.refl(o:bB f'.X a' c'):aT f' a' c' a' c':=⟨o,.refl ..,λ_ j=>j,.refl _⟩
def aT.trans(C:aP a' c' f')(j:aT a' c' f' hp₁ w₁)(b:aT a' hp₁ w₁ hp₂ w₂):aT a' c' f' hp₂ w₂:=⟨b.aH,j.step.trans C.aH b.step,λo u=>b.aM o (j.aM o u),j.dd.trans b.dd⟩
def cO.trans(o:aP a' c' f')(j:cO a' c' f' hp₁ w₁)(b:cO a' hp₁ w₁ hp₂ w₂):cO a' c' f' hp₂ w₂:=⟨b.aH,j.step.trans o.aH b.step,b.aM,j.dd.trans b.dd⟩
def aT.b7(C:aP a' c' f')(j:aT a' c' f' hp' w'):cO a' c' f' hp' w':=⟨j.aH,j.step.xM λ_=>.inl,C.aM.elim λo u=>⟨o,j.aM o u⟩,j.dd⟩
def bP{α:Type}(c:cu)(t:Sem α)(V:Z)(w:aL)(b:Z)(P:aL->α->Prop):Prop:=
 ∀(Q:α->ZN)(E:ZG),(∀B a,aT c V w b B->P B a->Q a B.s)->aad c t Q E w.s
def aR(c:cu)(t:Sem ZO)(a:Z)(w:aL)(E:Z)(v:V):Prop:=bP c t a w E λB g=>o c.X B v g
def c4{α:Type}(c:cu)(t:Sem α)(V:Z)(w:aL)(E:Z)(b:α):Prop:=bP c t V w E λ_ R=>R=b
def aL.a8(j:aL)(o:Tok):aL:=aai ⟨j.G,{j.s with toks:=o}⟩
def aL.ab(j:aL)(o:ZQ)(u:Tok):aL:=aai ⟨j.G,{j.s with heap:=o,toks:=u}⟩
def cM.a8(o:aL)(u:Tok):cM o (o.a8 u):=⟨λ_ j=>j,λ_ _ j=>j,λ_ _ _ j=>j⟩
def bP.bind{u:α->Sem β}{j:aL->β->Prop}(C:aP a' f' h')(U:bP a' w' f' h' hp₁ s')(V:∀w₁ c',aT a' f' h' hp₁ w₁->s' w₁ c'->bP a' (u c') hp₁ w₁ hp₂ j):bP a' (w'>>=u) f' h' hp₂ j:=λJ E Z=>W6 (U _ E λw₁ c' o W=>V w₁ c' o W J E λw₂ cK M Y=>Z w₂ cK (o.trans C M) Y)
def bP.pure{j:α}(o:aP h' c' a')(u:f' a' j):bP h' (pure j) c' a' c' f':=λ_ _ C=>Xc (C a' j (.refl o.aH) u)
def bP.jw{j:aL->α->Prop}(C:bP c' x' f' h' hp₁ s')(J:∀w' a',aT c' f' h' hp₁ w'->s' w' a'->j w' a'):bP c' x' f' h' hp₁ j:=λu E U=>C u E λw' a' o M=>U w' a' o (J w' a' o M)
def aT.gU{j:ZW}(o:aP a' f' c')(J:gw a'.f.L c'.h j.heap)(C:∀h',Fr a'.f.g a'.f.L c'.h h'->Fr a'.f.g a'.f.L j.heap h')(M:fm c' ⟨c'.G,j⟩):aT a' f' c' f' ⟨c'.G,j⟩:=have u:=o.aH.keep (s':=j) o.own J;⟨u.1,u.2,C,M⟩
def aT.a8(j:aP f' a' c')(u:Tok):aT f' a' c' a' (c'.a8 u):=.gU j (.Gi (.refl _) j.jX) (λ_ o=>o) ⟨_,_,rfl⟩
def bP.toks(j:aP h' w' c')(o:∀(f':α->ZN)(E:ZG),(∀s' a',x' (c'.a8 a') s'->f' s' (c'.a8 a').s)->wpAny (model h'.X.prog h'.X.w) h'.A F' f' E c'.s):bP h' F' w' c' w' x':=λf' E C=>o f' E λs' a' u=>C (c'.a8 a') s' (.a8 j a') u
def aR.toks{j:Sem ZO}{u:V}(C:aP c' w' a')(J:∀(h':ZG)(E:ZG),(∀s' f',o c'.X a' u s'->h' s' (a'.a8 f').s)->wpAny (model c'.X.prog c'.X.w) c'.A j h' E a'.s):aR c' j w' a' w' u:=λh' E U=>J h' E λs' f' M=>U (a'.a8 f') s' (.a8 C f') (M.ext (.a8 a' f'))
def c4.toks{j:α}(o:aP c' s' h')(u:∀(a':α->ZN)(E:ZG),(∀f',a' j (h'.a8 f').s)->wpAny (model c'.X.prog c'.X.w) c'.A w' a' E h'.s):c4 c' w' s' h' s' j:=λa' E C=>u a' E λf'=>C (h'.a8 f') j (.a8 o f') rfl
def c4.bind{o:α}{u:α->Sem β}{j:aL->β->Prop}(C:aP a' c' f')(M:c4 a' h' c' f' hp₁ o)(V:∀w₁,aT a' c' f' hp₁ w₁->bP a' (u o) hp₁ w₁ hp₂ j):bP a' (h'>>=u) c' f' hp₂ j:=bP.bind C M λw₁ W J U=>U▸V w₁ J
def bP.d'{u:Sem β}{J:α->Sem β}{o:aL->β->Prop}(M:aP a' s' f')(j:bP a' x' s' f' hp₁ w')(V:∀w₁ h',aT a' s' f' hp₁ w₁->w' w₁ h'->bP a' (J h') hp₁ w₁ hp₂ o)
  (rule:∀(c':β->ZN)(E:ZG),wpAny (model a'.X.prog a'.X.w) a'.A x' (λj s₁=>wpAny (model a'.X.prog a'.X.w) a'.A (J j) c' E s₁) E f'.s->wpAny (model a'.X.prog a'.X.w) a'.A u c' E f'.s):bP a' u s' f' hp₂ o:=λc' E Z=>
 rule c' E (j _ E λw₁ h' C W=>V w₁ h' C W c' E λw₂ cK U Y=>Z w₂ cK (C.trans M U) Y)
def bP.el{Z:Sem γ}{u:Sem β}{W:α->γ->Sem β}{U:aL->γ->Prop}{M:aL->β->Prop}(o:aP a' w' h')(C:bP a' F' w' h' hp₁ x')(J:∀w₁ c',aT a' w' h' hp₁ w₁->x' w₁ c'->bP a' Z hp₁ w₁ hp₂ U)
  (e1:∀w₁ w₂ c' s',aP a' hp₁ w₁->x' w₁ c'->aT a' hp₁ w₁ hp₂ w₂->U w₂ s'->bP a' (W c' s') hp₂ w₂ hp₃ M)
  (rule:∀(f':β->ZN)(E:ZG),wpAny (model a'.X.prog a'.X.w) a'.A F' (λC s₁=>wpAny (model a'.X.prog a'.X.w) a'.A Z (λJ s₂=>wpAny (model a'.X.prog a'.X.w) a'.A (W C J) f' E s₂) E s₁) E h'.s->wpAny (model a'.X.prog a'.X.w) a'.A u f' E h'.s):bP a' u w' h' hp₃ M:=λf' E fl=>
 rule f' E (C _ E λw₁ c' j Y=>J w₁ c' j Y _ E λw₂ s' V e2=>e1 w₁ w₂ c' s' (o.aF j) Y V e2 f' E λw₃ fp cK fi=>fl w₃ fp (j.trans o (V.trans (o.aF j) cK)) fi)
def eW:ZV:=aai ("__class__")
def fh(d:Env)(h:ZQ)(x:ZV)(v:ZO):Prop:=
 (d.kindOf x=some .local/\∃m,h.Ns d.locals m/\m x=some v)\/(x≠eW/\(d.kindOf x=some .cell\/d.kindOf x=some .free)/\∃c,d.cells.lookup x=some c/\h.IsCell c (some v))
noncomputable def i0(V:ZV->Z0 ZR)(s:ZV):Bool:=match V s with|some .local=>true|some .cell=>true|some .free=>true|_=>false
structure fI(X:cn)(w:aL)(af:Env)(A:ZD):Prop where
 get:∀n a,i0 af.kindOf (X.az n)->au A n=some a->∃g,fh af w.h (X.az n) g/\o X w a g
 ns:∃m,w.h.Ns af.locals m
 cell:∀x c,x≠eW->af.cells.lookup x=some c->∃a,w.h.IsCell c a
structure jb(f:ed)(af:Env):Prop where
 kind:af.scope.kind=.function
 ia:af.globals=mainGlobals
 blt:af.builtins=builtinsNs
 F:af.locals=f.L\/f.dz af.locals
 cell:∀x c,x≠eW->af.cells.lookup x=some c->f.dz c
 inj:∀x y c,af.cells.lookup x=some c->af.cells.lookup y=some c->x=y
 apart:∀x c,af.cells.lookup x=some c->c≠af.locals
 has:∀x,af.kindOf x=some .cell->∃c,af.cells.lookup x=some c
def kU{h:ZQ}{a:ZP}{m d:ZV->Z0 ZO}(x:h.Ns a m)(y:h.Ns a d):m=d:=by exact x.elim λo x=>x.elim λG x=>x.elim λS x=>y.elim λr y=>y.elim λs y=>y.elim λb y=>by have e:=WZ (x.1.symm.trans y.1);subst e;have e:=Data.dict.inj (x.2.1.symm.trans y.2.1);have e:=e.1;subst e;exact funext λk=>(x.2.2.2 k).symm.trans (y.2.2.2 k)
def aP.xq(u:aP a' f' c')(J:aT a' f' c' hp' w')(j:ZP)(o:Obj)(C:a'.f.dz j)(M:c'.h.get? j=some o):w'.h.get? j=some o:=J.step.keep j o M (u.dz j C).2.1 λV U=>(u.dz j C).2.2.1.aX V U.e'
def jb.ns(O:jb a'.f af)(J:aP a' f' c')(M:aT a' f' c' hp' w'){U:ZV->Z0 ZO}(j:c'.h.Ns af.locals U):w'.h.Ns af.locals U:=
 O.F.elim (λu=>J.aM.elim λ_ C=>by rw[u] at j⊢;exact kU C.ns j▸(M.aM _ C).ns) λu=>j.at' λo V=>J.xq M _ o u V
def jb.EO(O:jb a'.f af)(J:aP a' h' c')(M:aT a' h' c' hp' w'){j:ZP}{C:Z0 ZO}(V:f'≠eW)(U:af.cells.lookup f'=some j)(u:c'.h.IsCell j C):w'.h.IsCell j C:=u.elim λo u=>⟨o,J.xq M j o (O.cell f' j V U) u.1,u.2⟩
def fh.aF(j:fh af c'.h s' h')(O:jb a'.f af)(u:aP a' f' c')(C:aT a' f' c' hp' w'):fh af w'.h s' h':=
 j.imp (λj=>j.imp id λj=>j.elim λM j=>⟨M,O.ns u C j.1,j.2⟩) λj=>⟨j.1,j.2.1,j.2.2.elim λJ o=>⟨J,o.1,O.EO u C j.1 o.1 o.2⟩⟩
def fI.aF(V:fI a'.X c' af h')(O:jb a'.f af)(j:aP a' f' c')(o:aT a' f' c' hp' w'):fI a'.X w' af h':=
 ⟨λJ M Y u=>(V.get J M Y u).elim λcK C=>⟨cK,C.1.aF O j o,C.2.ext (j.ext o)⟩,V.ns.elim λZ J=>⟨Z,O.ns j o J⟩,λe1 W U u=>(V.cell e1 W U u).elim λM C=>⟨M,O.EO j o U u C⟩⟩
def z1{n:Nat}{v:V}{X:Pos}(I:aP c d w)(O:jb c.f c.af)(V:fI c.X w c.af A)(h:i0 c.af.kindOf (c.X.az n))(e:au A n=some v)(T:(c.X.az n==("__debug__":ZV))=false)(L:(c.X.az n==("__classdict__":ZV))=false):
  aR c (eval (.Name (c.X.az n) X) c.af) d w d v:=
 (V.get n v h e).elim λf z=>aR.toks I λQ E q=>wpAny_Name (z.1.elim (λb=>b.2.elim λm g=>Za O.kind b.1 g.1 g.2 (q f w.s.toks z.2))
  λb=>b.2.2.elim λa g=>b.2.1.elim (λk=>Zh O.kind k g.1 g.2 (q f w.s.toks z.2)) λk=>Zi O.kind k g.1 g.2 (q f w.s.toks z.2) L) T
end Mine.Internal
end
noncomputable section
open PySem PySem.W PySem.Calls PyProof.Rows PySem.SeqAt
namespace Mine.Internal
noncomputable def oA:qz->Operator
 |.add=>.Add|.sub=>.Sub|.mul=>.Mult|.fdiv=>.FloorDiv|.tI=>.Mod|.jz=>.LShift|.uh=>.RShift|.kq=>.BitAnd|.nU=>.BitOr
def fV(h:Nat.blt a b):a<b:=WY h
def nT(h:Nat.ble a b):a<=b:=WY h
def yB(a:Nat):Builtin.bitNot (Int.ofNat a)=.negSucc a:=by show -(a:Int)-1=_;rw[YW,Int.neg_add,Int.sub_eq_add_neg]
def uZ(a:Nat):Builtin.bitNot (.negSucc a)=Int.ofNat a:=by show -(Int.negSucc a)-1=_;rw[YW,Int.neg_neg,Int.add_sub_cancel];rfl
def J1(a b:Nat):Builtin.bitAnd (.ofNat a) (.negSucc b)=.ofNat (a-Nat.land a b):=by unfold Builtin.bitAnd;rw[decide_eq_true (show(0:Int)<=Int.ofNat a from XP a),decide_eq_false (show¬(0:Int)<=Int.negSucc b from Int.not_le.mpr (X6 b)),uZ];exact(Int.ofNat_sub Nat.and_le_left).symm
def J2(a b:Nat):Builtin.bitOr (.ofNat a) (.ofNat b)=.ofNat (Nat.lor a b):=by unfold Builtin.bitOr;rw[yB,yB];unfold Builtin.bitAnd;rw[decide_eq_false (Int.not_le.mpr (X6 a):¬(0:Int)<=Int.negSucc a),decide_eq_false (Int.not_le.mpr (X6 b):¬(0:Int)<=Int.negSucc b),uZ,uZ];refine(?_:Builtin.bitNot (Builtin.bitNot (Int.ofNat (Nat.lor a b)))=_);rw[yB,uZ]
def lR(I:aP c a w)(e:some r=some z)(k:∀(Q:ZG)(E:ZG),(∀t s,Q (.int r t) (w.a8 s).s)->aad c t Q E w.s):aR c t a w a (.int z):=b6 (p:=λz=>aR c t a w a (.int z)) e ((aR.toks I λQ E q=>k Q E λ_ _=>q _ _ .int))
def Gu(n:Nat):(Int.ofNat (n+1))≠0:=λh=>nomatch h
def TQ(a b:Nat):Int.ofNat a*2 ^ (Int.ofNat b).toNat=Int.ofNat (a.shiftLeft b):=by refine(?_:(a:Int)*2 ^ b=((a<<<b:Nat):Int));rw[Nat.shiftLeft_eq,Int.natCast_mul,Int.natCast_pow];rfl
def TR(a b:Nat):(Int.ofNat a).fdiv (2 ^ (Int.ofNat b).toNat)=Int.ofNat (a.shiftRight b):=by refine(?_:Int.fdiv (a:Int) (2 ^ b)=((a>>>b:Nat):Int));rw[Nat.shiftRight_eq_div_pow,Int.fdiv_eq_ediv_of_nonneg _ (Int.pow_nonneg (by decide)),Int.natCast_ediv,Int.natCast_pow];rfl
def OM(I:aP c d w)(e:EN f x y=some z):aR c (binaryOp (oA f) (.int x t) (.int y L)) d w d (.int z):=by
 have g:=λ{P:Prop}(e:none=some z)=>(ns e:P);induction f with
 |add=>exact lR I e λQ E q=>add_int (q _ _)
 |sub=>exact lR I e λQ E q=>sub_int (q _ _)
 |mul=>
  induction x with
  |negSucc a=>exact g e
  |ofNat a=>exact bR e λh e=>lR I e λQ E q=>mul_int (q _ _) (.of_left (intBits_le_64 (Int.lt_of_lt_of_le (by decide) (XP a)) ((YA.mpr (fV h)))))
 |fdiv=>induction y with
  |negSucc=>exact g e
  |ofNat n=>induction n with
   |zero=>exact g e
   |succ n=>exact bR e λh e=>lR I e λQ E q=>floordiv_int (Gu n) (q _ _) (.inl (PyProof.noPylong_small (W3 (Nat.succ_le_of_lt (fV h)) (by decide))))
 |tI=>induction y with
  |negSucc=>exact g e
  |ofNat n=>induction n with
   |zero=>exact g e
   |succ n=>exact lR I e λQ E q=>mod_int' (Gu n) (q _ _)
 |jz=>induction x with
  |negSucc=>exact g e
  |ofNat a=>induction y with
   |negSucc=>exact g e
   |ofNat b=>exact bR e λh e=>bR e λS e=>lR I e λQ E q=>lshift_int_small (XP b) (Int.ofNat_le.mpr (W5 (nT h) (by decide))) (W4 (fV S) (by decide)) (by rw[TQ];exact q _ _)
 |uh=>induction x with
  |negSucc=>exact g e
  |ofNat a=>induction y with
   |negSucc=>exact g e
   |ofNat b=>exact bR e λh e=>lR I e λQ E q=>rshift_int (XP b) (by rw[TR];exact q _ _)
 |kq=>induction x with
  |negSucc=>exact g e
  |ofNat a=>induction y with
   |negSucc=>exact lR I e λQ E q=>and_int (by rw[J1];exact q _ _)
   |ofNat b=>exact lR I e λQ E q=>and_int (q _ _)
 |nU=>induction x with
  |negSucc=>exact g e
  |ofNat a=>induction y with|negSucc=>exact g e|ofNat b=>exact lR I e λQ E q=>or_int (by rw[J2];exact q _ _)
def p3(a b:Nat):Nat.beq a b=(a==b):=by rw[XS,beq_iff_eq,Nat.beq_eq]
def Pp:∀a b:ZK,oj a b=(a==b):=λa=>by
 induction a with
 |nil=>intro b;induction b<;>rfl
 |cons a r S=>
  intro b;induction b with
  |nil=>rfl
  |cons b s=>
   rw[List.cons_beq_cons];refine(?_:(match Nat.beq a b with|true=>oj r s|false=>false)=_)
   rw[p3,S s];cases a==b<;>rfl
def oL(a b:ZV):Wz a b=(a==b):=(Pp _ _).trans (str_beq a b)
def k4:Wz a b=true↔a=b:=by rw[oL,beq_iff_eq]
def mU:dr a b=true↔a=b:=by
 induction a with
 |ofNat a=>induction b with
  |ofNat b=>exact⟨λh=>W0 Int.ofNat (W2 h),λh=>YF h▸Xn a⟩
  |negSucc b=>exact⟨λh=>(nomatch h),λh=>(nomatch h)⟩
 |negSucc a=>induction b with
  |ofNat b=>exact⟨λh=>(nomatch h),λh=>(nomatch h)⟩
  |negSucc b=>exact⟨λh=>W0 Int.negSucc (W2 h),λh=>Int.negSucc.inj h▸Xn a⟩
def zG(a b:Int):dr a b=(a==b):=by rw[XS,mU,beq_iff_eq]
def dP(l:List α):Wx l=l.length:=by
 induction l with|nil=>rfl|cons _ r S=>exact W0 Nat.succ S
def pH(h:eC l):l.length<b0:=dP l▸fV h
def hg(a b:List α):U a b=a++b:=by
 induction a with|nil=>rfl|cons x r S=>exact W0 (x::·) S
def aK.length(j:aK f' h' c' a'):c'.length=a'.length:=by
 induction c' generalizing a' with|nil=>exact j.eh (q:=λa'=>_=a'.length) rfl|cons J c' u=>exact j.dM (q:=λa'=>_=a'.length) λC a' _ o=>W0 Nat.succ (u o)
def aK.get(J:aK s' w' h' a'){j:Nat}(C:a'[j]?=some f'):∃c',h'[j]?=some c'/\o s' w' c' f':=by
 induction h' generalizing a' j with
 |nil=>exact J.eh (q:=λa'=>a'[j]?=some f'->_) ns C
 |cons c' h' V=>exact J.dM (q:=λa'=>a'[j]?=some f'->_) (λu a' M U C=>by
  induction j with|zero=>exact⟨c',rfl,WZ C▸M⟩|succ j=>exact V U C) C
def aK.lN(V:aK h' s' f' c'){j:Nat}(C:f'[j]?=some w'):∃a',c'[j]?=some a'/\o h' s' w' a':=by
 induction f' generalizing c' j with
 |nil=>exact ns C
 |cons W f' U=>
  refine V.dM (q:=λc'=>∃a',c'[j]?=some a'/\o h' s' w' a') λu c' J M=>?_;induction j with|zero=>exact⟨u,rfl,WZ C▸J⟩|succ j=>exact U M C
def aK.append(j:aK c' f' h' a')(u:aK c' f' ys us):aK c' f' (h'++ys) (a'++us):=by
 induction h' generalizing a' with|nil=>exact j.eh (q:=λa'=>aK c' f' _ (a'++us)) u|cons U h' J=>exact j.dM (q:=λa'=>aK c' f' _ (a'++us)) λM a' o C=>.cons o (J C)
def Vg{h:ZQ}{x y:ZJ}(p:h.IsTuple a x.toArray)(q:h.IsTuple a y.toArray):x=y:=p.elim λo p=>q.elim λr q=>by have e:=WZ (p.1.symm.trans q.1);subst e;exact p.2.2.elim λn p=>q.2.2.elim λm q=>W0 Array.toList (Data.seq.inj (p.symm.trans q)).1
def Fj{h:ZQ}{x y:ZJ}(p:h.PlainList a x.toArray)(q:h.PlainList a y.toArray):x=y:=p.elim λn p=>q.elim λm q=>W0 Array.toList (Data.seq.inj (W0 Obj.data (WZ (p.symm.trans q)))).1
inductive lu(f:Nat):V->V->Bool->Prop
 |none:lu f .none .none true
 |bool {a b:Bool}:lu f (.bool a) (.bool b) (hI a b)
 |int {a b:Int}:lu f (.int a) (.int b) (dr a b)
 |str {a b:ZV}:lu f (.str a) (.str b) (Wz a b)
 |j {a:ZV} {b:ZF}:lu f (.str a) (.ay b) false
 |b7 {a:ZF} {b:ZV}:lu f (.ay a) (.str b) false
 |ay {a b:ZF} {r:Bool}:nE (gs f) a b=some r->lu f (.ay a) (.ay b) r
 |len {a b:ZF}:Nat.beq (Wx a) (Wx b)=false->lu f (.ae a) (.ae b) false
 |ae {a b:ZF} {r:Bool}:Nat.beq (Wx a) (Wx b)->nE (gs f) a b=some r->lu f (.ae a) (.ae b) r
def vX(h:iE a):a=.none:=by induction a using V.casesOn<;>first|rfl|exact bb h
def hH(h:fq a=some i):a=.int i:=by induction a using V.casesOn<;>first|exact W0 V.int (WZ h)|exact ns h
def Jx(h:B2 a=some i):a=.bool i:=by induction a using V.casesOn<;>first|exact W0 V.bool (WZ h)|exact ns h
def uR(h:uQ a=some i):a=.str i:=by induction a using V.casesOn<;>first|exact W0 V.str (WZ h)|exact ns h
def Jy(h:yu a=some i):a=.ay i:=by induction a using V.casesOn<;>first|exact W0 V.ay (WZ h)|exact ns h
def B3(h:yr a=some i):a=.ae i:=by induction a using V.casesOn<;>first|exact W0 V.ae (WZ h)|exact ns h
def uP(h:yt a=some i):a=.ref i:=by induction a using V.casesOn<;>first|exact W0 V.ref (WZ h)|exact ns h
def pd(h:lA a=some i):a=.int (.ofNat i):=by
 induction a using V.casesOn with
 |int j=>induction j with
  |ofNat n=>exact W0 (λn=>V.int (.ofNat n)) (WZ h)
  |negSucc=>exact ns h
 |_=>exact ns h
def BC(e:gs (f+1) a b=some r):lu f a b r:=by
 induction a using V.casesOn with
 |none=>exact bR e λh e=>by rw[vX h];exact WZ e▸.none
 |bool a=>exact aA e λy h e=>Jx h▸WZ e▸.bool
 |int a=>exact aA e λy h e=>hH h▸WZ e▸.int
 |str a=>induction b using V.casesOn with
  |str b=>exact WZ e▸.str
  |ay b=>exact WZ e▸.j
  |_=>exact ns e
 |ay a=>induction b using V.casesOn with
  |ay b=>exact .ay e
  |str b=>exact WZ e▸.b7
  |_=>exact ns e
 |ae a=>
  refine aA e λy h e=>B3 h▸?_;have e:=e;generalize q:Nat.beq (Wx a) (Wx y)=N;induction N with
  |true=>rw[q] at e;exact .ae q e
  |false=>rw[q] at e;exact WZ e▸.len q
 |_=>exact ns e
def sG(f:Nat)(O E:ZF)(j:Nat):Bool:=match O[j]?,E[j]? with|some x,some y=>(gs f x y).getD false|_,_=>false
def Sx(n:Nat)(p:Nat->Bool):(List.range (n+1)).all p=(p 0&&(List.range n).all λB=>p (B+1)):=by rw[List.range_succ_eq_map,Yo,List.all_map];rfl
def JR(x y:α)(O E:List α):((x::O).length==(y::E).length)=(O.length==E.length):=by rw[XS,beq_iff_eq,beq_iff_eq];exact⟨Yr,W0 Nat.succ⟩
def HS(e:nE (gs f) g c=some r):(∀(B:Nat) x y,g[B]?=some x->c[B]?=some y->∃b,gs f x y=some b)/\r=((List.range (min g.length c.length)).all (sG f g c)&&g.length==c.length):=by
 induction g generalizing c r with
 |nil=>induction c with
  |nil=>exact⟨λB x y a=>ns a,WZ e▸rfl⟩
  |cons y c=>exact⟨λB x y a=>ns a,WZ e▸rfl⟩
 |cons x g S=>induction c with
  |nil=>exact⟨λB x y _ a=>ns a,WZ e▸rfl⟩
  |cons y c=>
   refine aA e λb s e=>aA e λd T e=>(S T).elim λk h=>⟨λB u v a q=>?_,?_⟩
   .induction B with|zero=>exact⟨b,WZ a▸WZ q▸s⟩|succ B=>exact k B u v a q
   .have e:r=(b&&d):=(WZ e).symm.trans (by induction b<;>rfl)
    rw[e,h,JR,Xx,Xx,Nat.succ_min_succ,Sx,show sG f (x::g) (y::c) 0=b from W0 (Option.getD · false) s,Bool.and_assoc]
    rfl
def o.Vh{C:Prop}(V:o h' f' (.ay s') (.ref c'))(U:∀a',f'.h.IsTuple c' a'.toArray->aK h' f' s' a'->C):C:=
 V.gr (p:=λu=>u=.ref c'->C) (λ_ a' _ M _ j J=>U a' (Value.ref.inj J▸M) j) rfl
def o.FG{C:Prop}(V:o h' f' (.ae s') (.ref c'))(U:∀a',f'.h.PlainList c' a'.toArray->aK h' f' s' a'->C):C:=
 V.ig (p:=λu=>u=.ref c'->C) (λ_ a' _ M _ j J=>U a' (Value.ref.inj J▸M) j) rfl
def o.OK(C:o h' s' (.int c') (.int a' f')):a'=c':=C.dt (p:=λu=>u=.int a' f'->a'=c') (λ_ j=>(Value.int.inj j).1.symm) rfl
def o.Us(C:o h' s' (.str c') (.str a' f')):a'=c':=C.gb (p:=λu=>u=.str a' f'->a'=c') (λ_ j=>(Value.str.inj j).1.symm) rfl
def o.J'(C:o f' h' (.bool c') (.bool a')):a'=c':=C.kr (p:=λu=>u=.bool a'->a'=c') (λj=>(Value.bool.inj j).symm) rfl
def o.HD{C:Prop}(J:o f' s' (.ay h') (.str a' c')):C:=J.gr (p:=λu=>u=.str a' c'->C) (λ_ _ _ _ _ _ j=>Value.noConfusion j) rfl
def JP(a:Bool):hI a a:=by induction a<;>rfl
def Vw(f:Nat):∀{x y:V}{g:ZO}{r:Bool},gs f x y=some r->o X w x g->o X w y g->r=true:=by
 induction f with
 |zero=>exactλe=>ns e
 |succ f t=>
  have m:∀(O E:ZF)(D:ZJ)(r:Bool),nE (gs f) O E=some r->aK X w O D->aK X w E D->r=true:=λO=>by
   induction O with
   |nil=>exactλE D r e a=>a.eh (q:=λD=>aK X w E D->r=true) λb=>by cases b;exact(WZ e).symm
   |cons x O u=>
    intro E D r e a;refine a.dM (q:=λD=>aK X w E D->r=true) λg D k R b=>?_;cases b with
    |cons n s=>refine aA e λc F e=>aA e λd T e=>?_;have e:=(WZ e).symm;rw[t F k n] at e;exact e.trans (u _ _ _ T R s)
  intro x y g r e p q;cases BC e with
  |none=>rfl
  |bool=>exact p.kr (p:=λg=>o X w _ g->_) (λq=>q.J'▸JP _) q
  |int=>exact p.dt (p:=λg=>o X w _ g->_) (λ_ q=>mU.mpr q.OK) q
  |str=>exact p.gb (p:=λg=>o X w _ g->_) (λ_ q=>k4.mpr q.Us) q
  |j=>exact p.gb (p:=λg=>o X w _ g->_) (λ_ q=>q.HD) q
  |b7=>exact q.gb (p:=λg=>o X w _ g->_) (λ_ q=>q.HD) p
  |ay e=>exact p.gr (p:=λg=>o X w (.ay _) g->r=true) (λa D _ h _ H q=>q.Vh λj S l=>m _ _ _ _ e H (Vg h S▸l)) q
  |len i=>exact p.ig (p:=λg=>o X w (.ae _) g->false=true) (λa D _ h _ H q=>q.FG λj S l=>by rw[dP,dP,H.length,l.length,Fj h S,Xn] at i;exact i.symm) q
  |ae _ e=>exact p.ig (p:=λg=>o X w (.ae _) g->r=true) (λa D _ h _ H q=>q.FG λj S l=>m _ _ _ _ e H (Fj h S▸l)) q
def vk(S:∀{x y:V}{g L:ZO}{r:Bool},gs f x y=some r->o X w x g->o X w y L->EqAt A w.s g L r)
  (k:∀(B:Nat) x y,a[B]?=some x->c[B]?=some y->∃b,gs f x y=some b)(p:aK X w a h)(q:aK X w c d):
  ∀B(P:B<h.toArray.size)(N:B<d.toArray.size),EqAt A w.s h.toArray[B] d.toArray[B] (sG f a c B):=λB P N=>
 (p.get (List.getElem?_eq_getElem P)).elim λx i=>(q.get (List.getElem?_eq_getElem N)).elim λy n=>(k B x y i.1 n.1).elim λb s=>by
  have e:sG f a c B=b:=by unfold sG;exact i.1▸n.1▸W0 (Option.getD · false) s
  exact e▸S s i.2 n.2
def Cb(a b:Bool):hI a b=(a==b):=by induction a<;>induction b<;>rfl
def AN(g:∀{x y:V}{a L:ZO}{r:Bool},gs f x y=some r->o X w x a->o X w y L->EqAt A.in1 w.s a L r)(H:A.units<cLine)(e:gs (f+1) x y=some r)(p:o X w x a)(q:o X w y L):RcAt A w.s a L r/\RcNeAt A w.s a L (!r):=by
 cases BC e with
 |none=>exact p.l4 (p:=λa=>RcAt A w.s a L true/\RcNeAt A w.s a L false) (q.l4 (p:=λL=>RcAt A w.s _ L true/\RcNeAt A w.s _ L false) ⟨.none_none,.none_none⟩)
 |bool=>exact p.kr (p:=λa=>RcAt A w.s a L _/\RcNeAt A w.s a L _) (q.kr (p:=λL=>RcAt A w.s _ L _/\RcNeAt A w.s _ L _) (by rw[Cb];exact⟨.bool_bool _ _,.bool_bool _ _⟩))
 |int=>exact p.dt (p:=λa=>RcAt A w.s a L _/\RcNeAt A w.s a L _) λ_=>q.dt (p:=λL=>RcAt A w.s _ L _/\RcNeAt A w.s _ L _) λ_=>by rw[zG];exact⟨.int_int _ _ _ _,.int_int _ _ _ _⟩
 |str=>exact p.gb (p:=λa=>RcAt A w.s a L _/\RcNeAt A w.s a L _) λ_=>q.gb (p:=λL=>RcAt A w.s _ L _/\RcNeAt A w.s _ L _) λ_=>by rw[oL];exact⟨.str_str _ _ _ _,.str_str _ _ _ _⟩
 |j=>exact p.gb (p:=λa=>RcAt A w.s a L _/\RcNeAt A w.s a L _) λ_=>q.gr (p:=λL=>RcAt A w.s _ L _/\RcNeAt A w.s _ L _) λ_ _ _ h _ _=>⟨.str_tuple _ _ h H,.str_tuple _ _ h H⟩
 |b7=>exact p.gr (p:=λa=>RcAt A w.s a L _/\RcNeAt A w.s a L _) λ_ _ _ h _ _=>q.gb (p:=λL=>RcAt A w.s _ L _/\RcNeAt A w.s _ L _) λ_=>⟨.tuple_str _ _ h H,.tuple_str _ _ h H⟩
 |ay e=>exact p.gr (p:=λa=>RcAt A w.s a L _/\RcNeAt A w.s a L _) λ_ _ _ h _ c=>q.gr (p:=λL=>RcAt A w.s _ L _/\RcNeAt A w.s _ L _) λ_ _ _ S _ d=>(by refine(HS e).elim λk e=>?_;rw[c.length,d.length] at e;subst e;exact⟨.tuples h S H (vk g k c d),.tuples h S H (vk g k c d)⟩)
 |len b=>exact p.ig (p:=λa=>RcAt A w.s a L _/\RcNeAt A w.s a L _) λ_ _ _ h _ c=>q.ig (p:=λL=>RcAt A w.s _ L _/\RcNeAt A w.s _ L _) λ_ _ _ S _ d=>(by rw[dP,dP,c.length,d.length,p3] at b;exact⟨.lists_lengths h.isList S.isList (W0 not b) H,.lists_lengths h.isList S.isList (W0 not b) H⟩)
 |ae b e=>exact p.ig (p:=λa=>RcAt A w.s a L _/\RcNeAt A w.s a L _) λ_ _ _ h _ c=>q.ig (p:=λL=>RcAt A w.s _ L _/\RcNeAt A w.s _ L _) λ_ _ _ S _ d=>(by refine(HS e).elim λk e=>?_;have b:=W2 b;rw[dP,dP,c.length,d.length] at b;rw[c.length,d.length,b,Nat.min_self,beq_self_eq_true,Bool.and_true,<-b] at e;subst e;exact⟨.lists h.isList S.isList b H (vk g k c d),.lists h.isList S.isList b H (vk g k c d)⟩)
def yZ(e:gs f x y=some r)(p:o X w x (.ref a))(q:o X w y (.ref b))(c:RcAt A w.s (.ref a) (.ref b) r):EqAt A w.s (.ref a) (.ref b) r:=by
 by_cases m:a=b
 .subst m;exact Vw f e p q▸.same _
 .exact .of_refs m c
def Me(f:Nat):∀{A:ZX}{x y:V}{a L:ZO}{r:Bool},A.units+f<cLine->gs f x y=some r->o X w x a->o X w y L->EqAt A w.s a L r:=by
 induction f with
 |zero=>exactλ_ e=>ns e
 |succ f S=>
  intro A x y a L r H e p q;have d:=W3 (Xd _ _) H;have c:=(AN (λe p q=>S (by show A.units+1+f<_;rw[W9,Xa 1];exact H) e p q) d e p q).1
  generalize BC e=N;induction N with|none=>exact p.l4 (p:=λa=>EqAt A w.s a L true) (q.l4 (p:=λL=>EqAt A w.s _ L true) (.same _))|bool=>exact p.kr (p:=λa=>EqAt A w.s a L _) (q.kr (p:=λL=>EqAt A w.s _ L _) (by rw[Cb];exact .bool_bool _ _))|int=>exact p.dt (p:=λa=>EqAt A w.s a L _) λ_=>q.dt (p:=λL=>EqAt A w.s _ L _) λ_=>by rw[zG];exact .int_int _ _ _ _|str=>exact p.gb (p:=λa=>EqAt A w.s a L _) λ_=>q.gb (p:=λL=>EqAt A w.s _ L _) λ_=>by rw[oL];exact .str_str _ _ _ _|j=>exact p.gb (p:=λa=>EqAt A w.s a L _) λ_=>q.gr (p:=λL=>EqAt A w.s _ L _) λ_ _ _ h _ _=>.str_tuple _ _ h d|b7=>exact p.gr (p:=λa=>EqAt A w.s a L _) λ_ _ _ h _ _=>q.gb (p:=λL=>EqAt A w.s _ L _) λ_=>.tuple_str _ _ h d|ay=>exact p.gr (p:=λa=>o X w _ a->RcAt A w.s a L _->EqAt A w.s a L _) (λ_ _ _ _ _ _ p=>q.gr (p:=λL=>o X w _ L->RcAt A w.s _ L _->EqAt A w.s _ L _) (λ_ _ _ _ _ _ q c=>yZ e p q c) q) p c|len=>exact p.ig (p:=λa=>o X w _ a->RcAt A w.s a L _->EqAt A w.s a L _) (λ_ _ _ _ _ _ p=>q.ig (p:=λL=>o X w _ L->RcAt A w.s _ L _->EqAt A w.s _ L _) (λ_ _ _ _ _ _ q c=>yZ e p q c) q) p c|ae=>exact p.ig (p:=λa=>o X w _ a->RcAt A w.s a L _->EqAt A w.s a L _) (λ_ _ _ _ _ _ p=>q.ig (p:=λL=>o X w _ L->RcAt A w.s _ L _->EqAt A w.s _ L _) (λ_ _ _ _ _ _ q c=>yZ e p q c) q) p c
def jA(l:Nat)(h:l<=b0):l<=sizeLine:=W5 h (by decide)
def pP(a b:Int):cJ (.i a) (.i b)=decide (a=b):=by rw[XS,decide_eq_true_iff];exact mU
def tr(a b:ZV):cJ (.s a) (.s b)=decide (a=b):=by rw[XS,decide_eq_true_iff];exact k4
def zH:∀{b:ZM},vW a b=true↔a=b:=by
 induction a with
 |nil=>intro b;induction b with
  |nil=>exact⟨λ_=>rfl,λ_=>rfl⟩
  |cons=>exact⟨λh=>(nomatch h),λh=>(nomatch h)⟩
 |cons x r S=>intro b;induction b with
  |nil=>exact⟨λh=>(nomatch h),λh=>(nomatch h)⟩
  |cons y s=>
   show(match dr x y with|true=>vW r s|false=>false)=true↔_
   generalize h:dr x y=N;induction N with
   |true=>exact⟨λz=>congr (W0 List.cons (mU.mp h)) (S.mp z),λz=>S.mpr (XQ z).2⟩
   |false=>exact⟨λz=>(nomatch z),λz=>(nomatch h.symm.trans (mU.mpr (XQ z).1))⟩
def v7(a b:ZM):cJ (.t a) (.t b)=decide (a=b):=by rw[XS,decide_eq_true_iff];exact zH
def b2.length(j:b2 f' h' c' a'):c'.length=a'.length:=by
 induction c' generalizing a' with|nil=>exact j.eh (q:=λa'=>_=a'.length) rfl|cons M c' u=>exact j.dM (q:=λa'=>_=a'.length) λJ a' C o=>W0 Nat.succ (u o)
def b2.au(J:b2 s' w' h' f')(j:aE):(∃a' c',bL h' j=some a'/\bL f' j=some c'/\o s' w' a' c')\/(bL h' j=none/\bL f' j=none):=by
 induction h' generalizing f' with
 |nil=>exact J.eh (q:=λf'=>(∃a' c',bL [] j=some a'/\bL f' j=some c'/\o s' w' a' c')\/(bL ([]:ZE) j=none/\bL f' j=none)) (.inr ⟨rfl,rfl⟩)
 |cons a' h' W=>
  refine J.dM (q:=λf'=>(∃C c',bL (a'::h') j=some C/\bL f' j=some c'/\o s' w' C c')\/(bL (a'::h') j=none/\bL f' j=none)) λc' f' M U=>?_;show(∃C u,(match cJ a'.1 j with|true=>some a'.2|false=>bL h' j)=some C/\(match cJ a'.1 j with|true=>some c'|false=>bL f' j)=some u/\o s' w' C u)\/((match cJ a'.1 j with|true=>some a'.2|false=>bL h' j)=none/\(match cJ a'.1 j with|true=>some c'|false=>bL f' j)=none)
  generalize cJ a'.1 j=Y;induction Y with|true=>exact .inl ⟨a'.2,c',rfl,rfl,M⟩|false=>exact W U
def b2.aO(u:b2 f' w s' h')(j:bL s' c'=some x):∃a',bL h' c'=some a'/\o f' w x a':=
 (u.au c').elim (λh=>h.elim λC h=>h.elim λa' h=>⟨a',h.2.1,WZ (h.1.symm.trans j)▸h.2.2⟩) λh=>ns (h.1.symm.trans j)
def b2.a5(J:b2 c' h' s' a')(j:aE)(M:o c' h' w' f'):b2 c' h' (cU s' j w') (cU a' j f'):=by
 induction s' generalizing a' with
 |nil=>exact J.eh (q:=λa'=>b2 c' h' _ (cU a' j f')) (.cons M .nil)
 |cons C s' V=>
  refine J.dM (q:=λa'=>b2 c' h' _ (cU a' j f')) λu a' U J=>?_;show b2 c' h' (match cJ C.1 j with|true=>(C.1,w')::s'|false=>C::cU s' j w') (match cJ C.1 j with|true=>(C.1,f')::a'|false=>(C.1,u)::cU a' j f')
  generalize cJ C.1 j=W;induction W with|true=>exact .cons M J|false=>exact .cons U (V J)
def b2.ho(o:b2 f' h' c' a')(j:aE):b2 f' h' (gR c' j) (gR a' j):=by
 induction c' generalizing a' with
 |nil=>exact o.eh (q:=λa'=>b2 f' h' _ (gR a' j)) .nil
 |cons C c' M=>
  refine o.dM (q:=λa'=>b2 f' h' _ (gR a' j)) λu a' J o=>?_;show b2 f' h' (match cJ C.1 j with|true=>c'|false=>C::gR c' j) (match cJ C.1 j with|true=>a'|false=>(C.1,u)::gR a' j)
  generalize cJ C.1 j=U;induction U with|true=>exact o|false=>exact .cons J (M o)
section
variable{α β K:Type} [DecidableEq K](c:K->aE)(k:K)
def CY{k n:aE}:bL ((k,a)::r) n=match cJ k n with|true=>some a|false=>bL r n:=rfl
def C2{k n:aE}:cU ((k,a)::r) n x=match cJ k n with|true=>(k,x)::r|false=>(k,a)::cU r n x:=rfl
def Lw{k n:aE}:gR ((k,a)::r) n=match cJ k n with|true=>r|false=>(k,a)::gR r n:=rfl
def pA(L:∀a b,cJ (c a) (c b)=decide (a=b))(O:List (K×ZO)):bL (O.map λp=>(c p.1,p.2)) (c k)=valueAt O k:=by
 induction O with
 |nil=>rfl
 |cons x r S=>unfold valueAt at S⊢;rw[XD,List.find?_cons,CY,L,S];cases decide (x.1=k)<;>rfl
def yW(L:∀a b,cJ (c a) (c b)=decide (a=b))(O:List (K×ZP×ZO)):bL (O.map λx=>(c x.1,x.2.2)) (c k)=(atKey O k).map (·.2):=by
 induction O with
 |nil=>rfl
 |cons x r S=>unfold atKey at S⊢;rw[XD,List.find?_cons,CY,L,S];cases decide (x.1=k)<;>rfl
def sD(L:∀a b,cJ (c a) (c b)=decide (a=b))(v:ZO)(O:List (K×ZO))(X:(O.map (·.1)).Nodup):cU (O.map λp=>(c p.1,p.2)) (c k) v=(stored O k v).map λp=>(c p.1,p.2):=by
 induction O with
 |nil=>rfl
 |cons x r S=>
  rw[XD,XZ] at X;have S:=S X.2;unfold stored at S⊢;rw[XD,C2,L,Y1]
  by_cases e:x.1=k
  .rw[decide_eq_true e,Bool.true_or,if_pos rfl,XD,<-e,map_store_of_not_mem r x.1 v X.1,if_pos rfl];rfl
  .rw[decide_eq_false e,Bool.false_or]
   show(c x.1,x.2)::cU _ _ _=_;rw[S,XD,if_neg e];cases List.any r λp=>decide (p.1=k)<;>rfl
def Ly(L:∀a b,cJ (c a) (c b)=decide (a=b))(O:List (K×ZO))(X:(O.map (·.1)).Nodup):gR (O.map λp=>(c p.1,p.2)) (c k)=(without O k).map λp=>(c p.1,p.2):=by
 induction O with
 |nil=>rfl
 |cons x r S=>
  rw[XD,XZ] at X;rw[XD,Lw,L]
  by_cases e:x.1=k
  .rw[decide_eq_true e,show without (x::r) k=without r k from by unfold without;rw[X8,decide_eq_false (not_not_intro e)];rfl,without_of_not_mem r k (e▸X.1)]
  .exact(decide_eq_false e)▸(show without (x::r) k=x::without r k from by unfold without;rw[X8,decide_eq_true e];rfl)▸XD▸(S X.2)▸rfl
def LM(L:∀a b,cJ (c a) (c b)=decide (a=b))(b:ZP)(v:ZO)(O:List (K×ZP×ZO))(X:(O.map (·.1)).Nodup):cU (O.map λx=>(c x.1,x.2.2)) (c k) v=(storedH O k b v).map λx=>(c x.1,x.2.2):=by
 induction O with
 |nil=>rfl
 |cons x r S=>
  rw[XD,XZ] at X;have S:=S X.2;unfold storedH atKey at S⊢;rw[XD,C2,L,List.find?_cons]
  by_cases e:x.1=k
  .rw[decide_eq_true e]
   show _=((if true=true then(x::r).map (putAt k v)else _).map _:List _)
   rw[if_pos rfl,XD,<-e,map_putAt_of_not_mem r x.1 v X.1];show _=(c (putAt x.1 v x).1,(putAt x.1 v x).2.2)::_;unfold putAt;exact(if_pos rfl)▸rfl
  .rw[decide_eq_false e]
   show(c x.1,x.2.2)::cU _ _ _=_;rw[S];have z:putAt k v x=x:=if_neg e;generalize List.find? (λx=>decide (x.1=k)) r=N;induction N with|none=>rfl|some y=>show _=((if true=true then(x::r).map (putAt k v)else _).map _:List _);rw[if_pos rfl,XD,z];rfl
end
def o3(X:cn)(w:aL):eU->aE->ZO->Prop
 |.I,.i n,v=>∃t,v=.int n t
 |.S,.s x,v=>∃t,v=.str x t
 |.T,.t l,v=>∃a,v=.ref a/\w.G.a0 a/\IsTupleKey (intKind X.prog X.w) w.h l a
 |_,_,_=>False
def OV{O:ZF}(e:fR O=some l)(r:aK X w O c):PySem.ItemsAre (intKind X.prog X.w) l c:=by
 induction O generalizing l c with
 |nil=>exact WZ e▸r.eh .nil
 |cons x O S=>
  refine r.dM λv c a b=>?_;induction x using V.casesOn with
  |int i=>
   have e:(match fR O with|some l=>some (i::l)|none=>none)=some l:=e
   generalize A:fR O=N;induction N with
   |none=>rw[A] at e;exact ns e
   |some G=>rw[A] at e;exact WZ e▸a.dt (p:=λv=>PySem.ItemsAre (intKind X.prog X.w) (i::G) (v::c)) λ_=>.cons (intKind_is ..) (S A b)
  |_=>exact ns e
def pQ{k:eU}(e:fQ k b=some key)(r:o X w b g):o3 X w k key g:=by
 induction k with
 |I=>induction b using V.casesOn with
  |int i=>exact WZ e▸r.dt λt=>⟨t,rfl⟩
  |_=>exact ns e
 |S=>induction b using V.casesOn with
  |str i=>exact WZ e▸r.gb (p:=λb=>o3 X w .S _ b) λt=>⟨t,rfl⟩
  |_=>exact ns e
 |T=>induction b using V.casesOn with
  |ay O=>
   have e:(match fR O with|some l=>some (aE.t l)|none=>none)=some key:=e
   generalize A:fR O=N;induction N with
   |none=>rw[A] at e;exact ns e
   |some l=>rw[A] at e;exact WZ e▸r.gr (p:=λb=>o3 X w .T _ b) λa D f t _ r=>t.elim λH t=>t.2.2.elim λn T=>⟨a,rfl,f,H,_,n,t.1,t.2.1,T,OV A r⟩
  |_=>exact ns e
section
variable{c:cu}{V:Z}
def ez.typeIs(j:ez h' f' c' a' s'):f'.s.TypeIs (.ref a') "dict":=by
 induction c' with|I=>exact j.elim λ_ j=>j.1.typeIs|S=>exact j.elim λ_ j=>j.1.typeIs|T=>exact j.elim λ_ j=>j.1.typeIs
def Vs{α β:Type}{t:Sem α}{g:α->β}{Q:β->ZN}{E:ZG}{s:ZW}(h:wpAny r A (t>>=λx=>Pure.pure (g x)) Q E s):wpAny r A t (λx a=>Q (g x) a) E s:=λΓ p b=>by have:=h Γ p b;rw[Sem.wp_bind'] at this;exact this
def c4.qr(u:aP c V c')(M:∀(f':ZG)(E:ZG),(∀a',f' (.bool h') (c'.a8 a').s)->aad c (w'>>=λx'=>Pure.pure (Value.bool x')) f' E c'.s):c4 c w' V c' V h':=λf' E U=>XR (Vs (g:=Value.bool) (M (λW o=>W=.bool h'/\∃a',o=(c'.a8 a').s) E λa'=>⟨rfl,a',rfl⟩)) (λC o j=>j.2.elim λa' J=>J▸U (c'.a8 a') C (.a8 u a') (Value.bool.inj j.1)) λ_ _ Y=>Y
def Lp(I:aP c V w)(H:c.A.units+1<cLine)(d:ez c.X w e a G)(i:(a==sysModules)=false)(m:o3 c.X w e key f):
  c4 c (contains (.ref a) f) V w V (WE (bL G key)):=by
 refine c4.qr I λQ E q=>?_;have p:∀{α:Type}{x:Z0 α},WE x=x.isSome:=λ{_ x}=>by induction x<;>rfl
 rw[p] at q;induction e with
 |I=>induction key with
  |i n=>refine d.elim λO d=>m.elim λt aD=>?_;rw[d.2,pA aE.i n pP] at q;exact aD▸wpAny_in_of (intKind_is c.X.prog c.X.w _ t) i d.1.mapOf (q _)
  |_=>exact m.elim
 |S=>induction key with
  |s n=>refine d.elim λO d=>m.elim λt aD=>?_;rw[d.2,pA aE.s n tr] at q;exact aD▸wpAny_in_of (strKind_is c.X.prog c.X.w _ t) i d.1.mapOf (q _)
  |_=>exact m.elim
 |T=>induction key with|t l=>refine d.elim λO d=>m.elim λb aD=>?_;rw[d.2.1,yW aE.t l v7,Option.isSome_map] at q;exact aD.1▸wpAny_in_heap (tupleKind_room_in1 H) aD.2.2 i d.1 (q _)|_=>exact m.elim
def Nf(I:aP c V w)(H:c.A.units+1<cLine)(d:ez c.X w f a G)(m:o3 c.X w f key g)(e:bL G key=some L):c4 c (getItem (.ref a) g) V w V L:=by
 refine c4.toks I λQ E q=>?_;induction f with
 |I=>induction key with
  |i n=>refine d.elim λO d=>m.elim λt aD=>?_;rw[d.2,pA aE.i n pP] at e;exact aD▸wpAny_getItem_of (intKind_is c.X.prog c.X.w _ t) d.1.mapOf e (q _)
  |_=>exact m.elim
 |S=>induction key with
  |s n=>refine d.elim λO d=>m.elim λt aD=>?_;rw[d.2,pA aE.s n tr] at e;exact aD▸wpAny_getItem_of (strKind_is c.X.prog c.X.w _ t) d.1.mapOf e (q _)
  |_=>exact m.elim
 |T=>induction key with|t l=>refine d.elim λO d=>m.elim λb aD=>?_;rw[d.2.1,yW aE.t l v7] at e;exact(YZ.mp e).elim λp V=>aD.1▸wpAny_getItem_heap (tupleKind_room_in1 H) aD.2.2 d.1 V.1 (V.2▸q _)|_=>exact m.elim
end
def r3(X:cn)(w:aL)(a:ZP):iQ->Prop
 |.D k T=>(a==sysModules)=false/\∃G,ez X w k a G/\G.length<=b0/\b2 X w T G
 |.L O=>∃D:ZJ,w.h.PlainList a D.toArray/\D.length<=b0/\aK X w O D
 |.T O=>∃D:ZJ,w.h.IsTuple a D.toArray/\D.length<=b0/\aK X w O D
def oO(R:bB X b w){p:Nat}{q:ZO->Prop}(e:b.get p=some H)(r:o X w (.ref p) c)(k:∀a,w.G.aO p=some a->fT X w p H->q (.ref a)):q c:=r.w2 λa E=>k a E (R.slot p H e)
def ky{v:V}(R:bB X b w)(e:gB v b=some y)(r:o X w v g):∃a,g=.ref a/\r3 X w a y:=by
 induction v using V.casesOn with
 |ah k T=>exact WZ e▸r.yU (p:=λv=>∃a,v=.ref a/\r3 X w a (.D k T)) λa G _ P N t c=>⟨a,rfl,P,G,N,t,c⟩
 |ae O=>exact WZ e▸r.ig (p:=λv=>∃a,v=.ref a/\r3 X w a (.L O)) λa D _ P N t=>⟨a,rfl,D,P,N,t⟩
 |ay O=>exact WZ e▸r.gr (p:=λv=>∃a,v=.ref a/\r3 X w a (.T O)) λa D _ P N t=>⟨a,rfl,D,P,N,t⟩
 |ref p=>
  have e:(match b.get p with
   |some (.ae O _)=>some (iQ.L O)
   |some (.ah k T _)=>some (.D k T)
   |_=>none)=some y:=e
  generalize s:b.get p=d;induction d with
  |none=>rw[s] at e;exact ns e
  |some H=>
   rw[s] at e;refine oO R (q:=λv=>∃a,v=.ref a/\r3 X w a y) s r λa E S=>⟨a,rfl,?_⟩;induction H with
   |ae O l=>exact WZ e▸(WZ (S.1.symm.trans E)▸S.2)
   |ah k T l=>exact WZ e▸(WZ (S.1.symm.trans E)▸S.2)
   |ins=>exact ns e
 |_=>exact ns e
def su{v:V}(e:d5 v b=some a):gB v b=some (.L a):=by
 induction v using V.casesOn with
 |ae=>exact W0 (λl=>some (iQ.L l)) (WZ e)
 |ref p=>
  have e:(match b.get p with|some (.ae a _)=>some a|_=>none)=some a:=e
  show(match b.get p with
   |some (.ae a _)=>some (iQ.L a)
   |some (.ah k T _)=>some (.D k T)
   |_=>none)=_
  generalize s:b.get p=N;induction N with
  |none=>rw[s] at e;exact ns e
  |some o=>rw[s] at e;induction o with
   |ae=>exact W0 (λl=>some (iQ.L l)) (WZ e)
   |_=>exact ns e
 |_=>exact ns e
def mZ{v:V}{p:ZO->Prop}(R:bB X c w)(e:d5 v c=some d)(r:o X w v g)(k:∀a b,w.h.PlainList a b.toArray->b.length<=b0->aK X w d b->p (.ref a)):p g:=
 (ky R (su e) r).elim λa h=>h.1▸h.2.elim λb h=>k a b h.1 h.2.1 h.2.2
def HN(R:bB X a w)(e:la b a=some L)(r:o X w b g):o X (w.done a) L g:=by
 induction b using V.casesOn with|ref p=>exact w3 R 12 (.ref p) L g e r|_=>exact WZ e▸r.ext (.done ..)
def Ro(r:aK X w b a):(!a.toArray.isEmpty)=j2 b:=by
 induction b with|nil=>exact r.eh (q:=λa=>(!a.toArray.isEmpty)=_) rfl|cons=>exact r.dM (q:=λa=>(!a.toArray.isEmpty)=_) λ_ _ _ _=>rfl
def RA(i:Int):(i != 0)=wD i:=by
 induction i with
 |ofNat n=>induction n<;>rfl
 |negSucc n=>rfl
def xE(I:aP c f w)(e:WA h f=some b)(r:o c.X w h g):c4 c (PySem.truthy g) f w f b:=by
 have l:(Y (d5 h f) λO=>some (j2 O))=some b->c4 c (PySem.truthy g) f w f b:=λe=>aA e λO j e=>mZ (p:=λg=>c4 c (PySem.truthy g) f w f b) I.aH j r λa D k X F=>c4.toks I λQ E q=>wpAny_truthy_list k.isList (by exact Xo▸(Int.lt_of_le_of_lt (Int.ofNat_le.mpr X) (by decide))) (by exact(Ro F)▸(WZ e)▸q _)
 induction h using V.casesOn with|bool d=>exact WZ e▸r.kr (p:=λg=>c4 c (PySem.truthy g) f w f d) (c4.toks I λQ E q=>YL (q w.s.toks))|int i=>exact WZ e▸r.dt (p:=λg=>c4 c (PySem.truthy g) f w f (wD i)) λt=>c4.toks I λQ E q=>truthy_int (RA i▸q w.s.toks)|_=>exact l e
noncomputable def ps:r2->CmpOp
 |.eq=>.Eq|.cC=>.NotEq|.lt=>.Lt|.gt=>.Gt|.mP=>.GtE|.is=>.Is|.mW=>.IsNot|.kK=>.In|.j1=>.NotIn
def BB(e:iO x y=some b)(p:o X w x a)(q:o X w y L):EqAt A w.s a L b:=by
 induction x using V.casesOn with|int i=>exact aA e λj h e=>WZ e▸p.dt (p:=λa=>EqAt A w.s a L _) λ_=>(hH h▸q).dt (p:=λL=>EqAt A w.s _ L _) λ_=>by rw[zG];exact .int_int _ _ _ _|str i=>exact aA e λj h e=>WZ e▸p.gb (p:=λa=>EqAt A w.s a L _) λ_=>(uR h▸q).gb (p:=λL=>EqAt A w.s _ L _) λ_=>by rw[oL];exact .str_str _ _ _ _|_=>exact ns e
def p0(e:wt x a=some b):(∀y∈a,∃c,iO y x=some c)/\b=a.any (λy=>(iO y x).getD false):=by
 induction a generalizing b with
 |nil=>exact⟨λy L=>(eu L),(WZ e).symm⟩
 |cons y r S=>refine aA e λc F e=>aA e λd T e=>⟨λz f=>(Xm.mp f).elim (λq=>⟨c,q▸F⟩) ((S T).1 z),?_⟩;refine Y1▸F▸((S T).2)▸(WZ e)▸?_;induction c<;>rfl
def mb(x:V)(v:ZO):Bool:=match x,v with
 |.int a,.int b _=>dr b a
 |.str a,.str b _=>Wz b a
 |_,_=>false
def xf(e:iO y x=some b)(r:o X w y a):mb x a=b:=by
 induction y using V.casesOn with|int i=>exact aA e λj h e=>hH h▸r.dt (p:=λa=>mb (.int j) a=b) λ_=>WZ e|str i=>exact aA e λj h e=>uR h▸r.gb (p:=λa=>mb (.str j) a=b) λ_=>WZ e|_=>exact ns e
def B1(k:∀y∈d,∃c,iO y x=some c)(r:aK X w d b):d.any (λy=>(iO y x).getD false)=b.toArray.any (mb x):=by
 rw[List.any_toArray];induction d generalizing b with|nil=>exact r.eh (q:=λb=>_=b.any (mb x)) rfl|cons y d S=>refine r.dM (q:=λb=>_=b.any (mb x)) λv b a r=>(k y (.head _)).elim λc F=>?_;rw[Y1,Y1,F,S (λy L=>k y (.tail _ L)) r,xf F a];rfl
def Ad(k:∀y∈b,∃c,iO y x=some c)(p:o X w x d)(q:aK X w b a):∀y,y∈a.toArray->EqAt A w.s y d (mb x y):=λy L=>(List.mem_iff_getElem?.mp (List.mem_toArray.mp L)).elim λj P=>(q.get P).elim λz h=>(k z (List.mem_of_getElem? h.1)).elim λc F=>by exact(xf F h.2)▸BB F h.2 p
def OS(r:b2 X w b a)(n:aE):WE (bL a n)=WE (bL b n):=(r.au n).elim (λh=>h.elim λx h=>h.elim λv h=>by refine h.1▸h.2.1▸?_;rfl) λh=>by refine h.1▸h.2▸?_;rfl
def EI(I:aP c f w)(H:c.A.units+30<cLine)(e:zI a b f=some r)(p:o c.X w a B)(q:o c.X w b i):c4 c (contains i B) f w f r:=
 aA e λy F e=>(ky I.aH F q).elim λd h=>h.1▸by
  have h:=h.2;induction y with|D k T=>exact aA e λA s e=>h.2.elim λG N=>WZ e▸OS N.2.2 A▸Lp I (W3 (Xg (by decide) _) H) N.1 h.1 (pQ s p)|L O=>exact h.elim λD h=>(p0 e).2▸B1 (p0 e).1 h.2.2▸c4.qr I λQ E z=>in_listAt (mb a) h.1.isList (Ad (p0 e).1 p h.2.2) (z w.s.toks)|T O=>exact h.elim λD h=>(p0 e).2▸B1 (p0 e).1 h.2.2▸c4.qr I λQ E z=>in_tupleAt (mb a) h.1 (Ad (p0 e).1 p h.2.2) (z w.s.toks)
def F2{a b:Nat}:Int.negSucc a<Int.negSucc b↔b<a:=by rw[YW,YW];exact Int.neg_lt_neg_iff.trans (YA.trans Nat.add_lt_add_iff_right)
def ti(a b:Int):gh a b=decide (a<b):=by
 rw[XS,decide_eq_true_iff];induction a with
 |ofNat a=>induction b with
  |ofNat b=>exact⟨λh=>YA.mpr (fV h),λh=>X1 (YA.mp h)⟩
  |negSucc b=>exact⟨λh=>(bb h),λh=>absurd (Zx h (X6 b)) (Zw.mpr (XP a))⟩
 |negSucc a=>induction b with|ofNat b=>exact⟨λ_=>Int.lt_of_lt_of_le (X6 a) (XP b),λ_=>rfl⟩|negSucc b=>exact⟨λh=>F2.mpr (fV h),λh=>X1 (F2.mp h)⟩
def zK{f:Int->Int->Bool}{t:ZO->ZO->Sem ZO}(I:aP c d w)(e:(Y (fq a) λx=>Y (fq b) λy=>some (f x y))=some r)(p:o c.X w a B)(q:o c.X w b i)
  (k:∀(x y:Int)(L g:Tok)(Q:ZG)(E:ZG),Q (.bool (f x y)) w.s->aad c (t (.int x L) (.int y g)) Q E w.s):c4 c (t B i) d w d (.bool r):=
 aA e λx h e=>aA e λy j e=>WZ e▸(hH h▸p).dt (p:=λB=>c4 c (t B i) d w d _) λL=>(hH j▸q).dt (p:=λi=>c4 c (t _ i) d w d _) λg=>c4.toks I λQ E z=>k x y L g Q E (z w.s.toks)
def ER(p:o X w a L):(L==.none)=iE a:=o.casesOn p rfl rfl rfl rfl (λ_ _ _ _=>rfl) (λ_ _ _ _=>rfl) (λ_ _ _ _ _=>rfl) (λ_ _ _ _ _ _=>rfl) (λ_=>rfl) (λ_ _ _ _=>rfl)
def Gw{t:V->V->Z0 Bool}(I:aP c f w)(e:(Y (la a f) λa=>Y (la b f) λb=>t a b)=some r)(p:o c.X w a B)(q:o c.X w b i){C:Prop}
 (k:∀A d,t A d=some r->o c.X (w.done f) A B->o c.X (w.done f) d i->C):C:=aA e λA g e=>aA e λd s e=>k A d e (HN I.aH g p) (HN I.aH s q)
def pv(I:aP c d w)(H:c.A.units+30<cLine)(e:dy f a b d=some r)(p:o c.X w a B)(q:o c.X w b i):c4 c (compareOp (ps f) B i) d w d (.bool r):=by
 have g:=W3 (Xd _ _) H;have S:∀{x y:V}{v u:ZO}{r:Bool},gs 19 x y=some r->o c.X (w.done d) x v->o c.X (w.done d) y u->EqAt c.A.in1 w.s v u r:=λe p q=>Me (w:=w.done d) 19 (by show c.A.units+1+19<_;exact W3 (by rw[W9];exact Xg (by decide) _) H) e p q
 induction f with|is=>exact bR e λh e=>(vX h▸q).l4 (p:=λi=>c4 c (compareOp .Is B i) d w d (.bool r)) (c4.toks I λQ E z=>is_none_gen (by exact(ER p)▸(WZ e)▸z w.s.toks))|mW=>exact bR e λh e=>(vX h▸q).l4 (p:=λi=>c4 c (compareOp .IsNot B i) d w d (.bool r)) (c4.toks I λQ E z=>isnot_none_gen (by exact(ER p)▸(WZ e)▸z w.s.toks))|eq=>exact Gw I e p q λA R e p q=>c4.toks I λQ E k=>(AN S g e p q).1 _ _ E Q (k w.s.toks)|cC=>exact Gw I e p q λA R e p q=>aA e λt e j=>WZ j▸c4.toks I λQ E k=>(AN S g e p q).2 _ _ E Q (k w.s.toks)|kK=>exact c4.bind I (EI I H e p q) λl T=>bP.pure (I.aF T) rfl|j1=>exact aA e λt m e=>WZ e▸c4.bind I (EI I H m p q) λl T=>bP.pure (I.aF T) rfl|lt=>exact zK I e p q λx y u v Q E z=>lt_int (ti x y▸z)|gt=>exact zK I e p q λx y u v Q E z=>gt_int (by have z:=z;rw[ti] at z;exact z)|mP=>exact zK I e p q λx y u v Q E z=>ge_int (by have z:=z;rw[ti,show(!(decide (x<y)))=decide (y<=x) from by rw[XS,YM,decide_eq_false_iff_not,decide_eq_true_iff];exact Zw] at z;exact z)
end Mine.Internal
end
noncomputable section
open PySem PySem.W PySem.Calls PyProof.Rows
namespace Mine.Internal
noncomputable def ia(V:ZV->Z0 ZR)(s:ZV):Bool:=match V s with|some .globalImplicit=>true|_=>false
def l0(V:ZV->Z0 ZR)(s:ZV):Bool:=aai (match V s with|some .local=>true|some .cell=>true|_=>false)
def l6(s:ZV):Bool:= !(Wz s "__debug__")&& !(Wz s "__classdict__")
noncomputable def UQ:ZU->Nat
 |.BoolOp ..=>0
 |.NamedExpr ..=>1
 |.BinOp ..=>2
 |.UnaryOp ..=>3
 |.Lambda ..=>4
 |.IfExp ..=>5
 |.Dict ..=>6
 |.Set ..=>7
 |.ListComp ..=>8
 |.SetComp ..=>9
 |.DictComp ..=>10
 |.GeneratorExp ..=>11
 |.Await ..=>12
 |.Yield ..=>13
 |.YieldFrom ..=>14
 |.Compare ..=>15
 |.Call ..=>16
 |.FormattedValue ..=>17
 |.JoinedStr ..=>18
 |.Constant ..=>19
 |.Attribute ..=>20
 |.Subscript ..=>21
 |.Starred ..=>22
 |.Name ..=>23
 |.List ..=>24
 |.Tuple ..=>25
 |.Slice ..=>26
def ju(n:Nat)(x:ZU):Bool:=Nat.beq (UQ x) n
def tP(x:ZU):Bool:= !(ju 26 x)
def e5(x:ZU):Bool:= !(ju 22 x)
def p6(x:ZU):Bool:= !(ju 7 x)
def vZ(x:ZU):Bool:=ju 25 x
def rD(x:ZU):Bool:= !(ju 8 x)&&(!(ju 9 x)&& !(ju 10 x))
noncomputable def By:yl->UnaryOp
 |.neg=>.USub|.not=>.Not|.ag=>.Invert
noncomputable def sf:Bool->BoolOp
 |true=>.And|false=>.Or
noncomputable def qK:qA->ZV
 |.len=>"len"|.rW=>"sum"|.sorted=>"sorted"|.abs=>"abs"|.int=>"int"|.str=>"str"|.tuple=>"tuple"|.list=>"list"|.dict _=>"dict"
noncomputable def qL:qA->ZO
 |.len=>.builtin "len"|.rW=>.builtin "sum"|.sorted=>.builtin "sorted"|.abs=>.builtin "abs"|.int=>.type "int"|.str=>.type "str"|.tuple=>.type "tuple"|.list=>.type "list"|.dict _=>.type "dict"
noncomputable def vY(v:Z0 ZO)(a:ZP):Bool:=match v with|some (.ref b)=>Nat.beq b a|_=>false
def ET(h:vY b a):b=some (.ref a):=by
 unfold vY at h
 split at h
 .rw[W2 h]
 .cases h
noncomputable def j6(V:ZV->Z0 ZR)(f:List (ZV×ZR)):List (ZV×ZR):=f.map λ(n,k)=>match k with
 |.free=>(match V n with|some .cell=>(n,.cell)|_=>(n,.free))
 |k=>(n,k)
def kQ{α:Type}(O:List (ZV×α)):ZV->Z0 α:=
 O.rec (λ_=>none) λm _ S s=>match Wz m.1 s with|true=>some m.2|false=>S s
def Qa(s:ZV)(l:List (ZV×α)):kQ l s=l.lookup s:=by
 induction l with
 |nil=>rfl
 |cons x r S=>
  refine(?_:(match Wz x.1 s with|true=>some x.2|false=>kQ r s)=_)
  rw[Yq,S,oL,show(s==x.1)=(x.1==s) from Bool.beq_comm];cases x.1==s<;>rfl
def p5(O:List ZV):Bool:=
 O.rec true λx r S=>(r.all λy=> !(Wz x y))&&S
def oK(V:ZV->Z0 ZR)(E:ZY):Bool:=
 (match E.kind with|.function=>true|_=>false)&&(!E.isGenerator&&(!E.isCoroutine&&(p5 (E.names.map (·.1))&&
 E.names.all λx=> !(Wz x.1 "__class__")&&match x.2 with
  |.free=>(match V x.1 with|some .cell=>true|_=>false)
  |.local=>true
  |.cell=>true
  |.globalImplicit=>true
  |_=>false)))
noncomputable def il:E->Bool
 |.bI _=>false
 |_=>true
noncomputable def Rq:jE->Bool
 |.eg=>false
 |_=>true
def tX(X:cn)(d:ZK)(ns:List (ZV×ZR)):Bool:=ns.all λx=>match x.2 with
 |.local|.cell=>Wz x.1 ".0"||d.any λq=>Wz (X.az q) x.1
 |.free=> !(d.any λq=>Wz (X.az q) x.1)
 |_=>true
noncomputable def xk{α:Type}:Z0 α->List α
 |some x=>[x]
 |none=>[]
structure Jc where
 zS:List ZU
 k:Nat
 az:ZV
 nr:Z0 ZY
def xO:ZU->Jc
 |.BoolOp _ O _=>⟨O,0,"",none⟩
 |.BinOp a _ b _=>⟨[a,b],0,"",none⟩
 |.UnaryOp _ a _=>⟨[a],0,"",none⟩
 |.IfExp t a b _=>⟨[t,a,b],0,"",none⟩
 |.Dict R D _=>⟨(R.filterMap id)++D,0,"",none⟩
 |.ListComp e [g] E _=>⟨e::g.target::g.iter::g.ifs,0,"",some E⟩
 |.Compare a _ d _=>⟨a::d,0,"",none⟩
 |.Call f O _ _=>⟨f::O,0,"",none⟩
 |.Constant _ k _=>⟨[],k,"",none⟩
 |.Attribute a _ _=>⟨[a],0,"",none⟩
 |.Subscript a b _=>⟨[a,b],0,"",none⟩
 |.Name s _=>⟨[],0,s,none⟩
 |.List O _=>⟨O,0,"",none⟩
 |.Tuple O k _=>⟨O,k,"",none⟩
 |.Slice a b c _=>⟨xk a++(xk b++xk c),0,"",none⟩
 |_=>⟨[],0,"",none⟩
def cR(x:ZU):List ZU:=(xO x).zS
def lS(x:ZU):Nat:=(xO x).k
def hP(x:ZU):ZV:=(xO x).az
def ma(x:ZU):Z0 ZY:=(xO x).nr
def p7(o:ZU):Bool:= !(ju 16 o)|| !(Wz (hP (match cR o with|f::_=>f|[]=>o)) "super")
noncomputable def ck:ZU:=.Name "" default
def ax(x:ZU)(i:Nat):ZU:=match a3 (cR x) i with|some y=>y|none=>ck
noncomputable def cD{α β γ:Type}(d:β)(f:α->β->γ):List α->List β->List γ
 |[],_=>[]
 |a::r,[]=>f a d::cD d f r []
 |a::r,b::s=>f a b::cD d f r s
noncomputable def Fl:V->Const
 |.bool b=>.bool b
 |.int i=>.int i
 |.str s=>.str s
 |_=>.none
noncomputable def OQ:V->Bool
 |.none=>true
 |.bool _=>true
 |.int _=>true
 |.str _=>true
 |_=>false
def EP:V->Z0 ZO->Bool
 |.int i,some (.int j _)=>dr i j
 |.str a,some (.str b _)=>Wz a b
 |_,_=>false
def g5(X:cn)(d:ZK)(x:ZU):ZU:=match d with
 |[n]=>.Name (X.az n) x.pos
 |ns=>.Tuple (cD ck (λn y=>.Name (X.az n) y.pos) ns (cR x)) (lS x) x.pos
def oz(X:cn)(V:ZV->Z0 ZR)(d:ZK):Bool:=j2 d&&d.all λn=>l0 V (X.az n)
noncomputable def eQ{α β:Type}(d:β)(f:α->β->Bool):List α->List β->Bool
 |[],_=>true
 |a::r,[]=>f a d&&eQ d f r []
 |a::r,b::s=>f a b&&eQ d f r s
def Kh(X:cn)(k f:Nat):Bool:=aai (Nat.ble (39*X.P.kZ f+59) k)
def An(X:cn)(k c:Nat):Bool:=match Y (X.P.cls c) λq=>q.init with
 |some i=>Nat.ble (39*X.P.kZ i+79) k
 |none=>true
def tM(V:ZV->Z0 ZR)(x:ZU):ZV->Z0 ZR:=match ma x with
 |some E=>kQ (j6 V E.names)
 |none=>λ_=>none
mutual
noncomputable def aJ(X:cn):Nat->E->ZU->ZU
 |0,_,x=>x
 |k+1,e,x=>match e with
  |.bI a=>aJ X k a x
  |.lit v=>.Constant (Fl v) (lS x) x.pos
  |.d9 _=>.Name (hP x) x.pos
  |.F n=>.Name (X.az n) x.pos
  |.aS a n=>.Attribute (aJ X k a (ax x 0)) (X.az n) x.pos
  |.a7 F _ a b=>.BinOp (aJ X k a (ax x 0)) (oA F) (aJ X k b (ax x 1)) x.pos
  |.c6 F a=>.UnaryOp (By F) (aJ X k a (ax x 0)) x.pos
  |.aw F a b=>.Compare (aJ X k a (ax x 0)) [ps F] [aJ X k b (ax x 1)] x.pos
  |.kx K d a b c=>.Compare (aJ X k a (ax x 0)) [ps K,ps d] [aJ X k b (ax x 1),aJ X k c (ax x 2)] x.pos
  |.bool and G=>.BoolOp (sf and) (cD ck (aJ X k) G (cR x)) x.pos
  |.ite t a b=>.IfExp (aJ X k t (ax x 0)) (aJ X k a (ax x 1)) (aJ X k b (ax x 2)) x.pos
  |.ay G=>.Tuple (cD ck (aJ X k) G (cR x)) (lS x) x.pos
  |.ae _ G=>.List (cD ck (aJ X k) G (cR x)) x.pos
  |.ah _ R D=>.Dict ((cD ck (aJ X k) R (cR x)).map some) (cD ck (aJ X k) D ((cR x).drop R.length)) x.pos
  |.sub a i=>.Subscript (aJ X k a (ax x 0)) (aJ X k i (ax x 1)) x.pos
  |.gn _ a L A=>.Subscript (aJ X k a (ax x 0)) (.Slice (L.map λe=>aJ X k e (ax (ax x 1) 0)) (A.map λe=>aJ X k e (ax (ax x 1) 0)) none (ax x 1).pos) x.pos
  |.oH _ a=>.Subscript (aJ X k a (ax x 0)) (.Slice none none (some (.UnaryOp .USub (.Constant (.int 1) (lS (ax (ax (ax x 1) 0) 0)) (ax (ax (ax x 1) 0) 0).pos) (ax (ax x 1) 0).pos)) (ax x 1).pos) x.pos
  |.call _ _ G=>.Call (.Name (hP (ax x 0)) (ax x 0).pos) (cD ck (aJ X k) G (cR x).tail) [] x.pos
  |.new _ G=>.Call (.Name (hP (ax x 0)) (ax x 0).pos) (cD ck (aJ X k) G (cR x).tail) [] x.pos
  |.aC a n G=>.Call (.Attribute (aJ X k a (ax (ax x 0) 0)) (X.az (ht n)) (ax x 0).pos) (cD ck (aJ X k) G (cR x).tail) [] x.pos
  |.bq _ b G=>.Call (.Name (qK b) (ax x 0).pos) (cD ck (aJ X k) G (cR x).tail) [] x.pos
  |.comp _ l g T B=>match ma x with
   |some f=>.ListComp (aJ X k l (ax x 0)) [⟨g5 X g (ax x 1),mh X k T (ax x 2),(B.map λe=>aJ X k e (ax x 3)).toList,0⟩] f x.pos
   |none=>x
  |.k' ..=>x
noncomputable def mh(X:cn):Nat->dw->ZU->ZU
 |0,_,x=>x
 |k+1,T,x=>match T with
  |.e a=>aJ X k a x
  |.range L A=>match L with
   |none=>.Call (.Name "range" (ax x 0).pos) [aJ X k A (ax x 1)] [] x.pos
   |some L=>.Call (.Name "range" (ax x 0).pos) [aJ X k L (ax x 1),aJ X k A (ax x 2)] [] x.pos
  |.jn a=>.Call (.Name "enumerate" (ax x 0).pos) [aJ X k a (ax x 1)] [] x.pos
  |.rO a=>.Call (.Name "reversed" (ax x 0).pos) [aJ X k a (ax x 1)] [] x.pos
end
def sU(T:dw)(d:ZK):Bool:=aai (match T with
 |.jn _=>(match d with|_::_::_=>true|_=>false)
 |_=>true)
def DI(h:sU (.jn a) d):∃x y r,d=x::y::r:=by
 induction d with
 |nil=>nomatch h
 |cons x l=>induction l with
  |nil=>nomatch h
  |cons y r=>exact⟨_,_,_,rfl⟩
mutual
noncomputable def bQ(X:cn):Nat->(ZV->Z0 ZR)->E->ZU->Bool
 |0,_,_,_=>false
 |k+1,V,e,x=>match e with
  |.bI a=>bQ X k V a x
  |.lit v=>OQ v
  |.d9 v=>l6 (hP x)&&(ia V (hP x)&&EP v (X.jV (hP x)))
  |.F n=>l6 (X.az n)&&i0 V (X.az n)
  |.aS a n=>Nat.blt n X.l3&&(p7 (aJ X k a (ax x 0))&&bQ X k V a (ax x 0))
  |.a7 _ _ a b=>bQ X k V a (ax x 0)&&bQ X k V b (ax x 1)
  |.c6 _ a=>il a&&bQ X k V a (ax x 0)
  |.aw _ a b=>bQ X k V a (ax x 0)&&(bQ X k V b (ax x 1)&&p6 (aJ X k b (ax x 1)))
  |.kx _ _ a b c=>bQ X k V a (ax x 0)&&(bQ X k V b (ax x 1)&&(bQ X k V c (ax x 2)&&p6 (aJ X k c (ax x 2))))
  |.bool _ G=>G.all il&&eQ ck (bQ X k V) G (cR x)
  |.ite t a b=>il t&&(il a&&(il b&&(bQ X k V t (ax x 0)&&(bQ X k V a (ax x 1)&&bQ X k V b (ax x 2)))))
  |.ay G=>Nat.ble (Wx G) 64&&((cD ck (aJ X k) G (cR x)).all e5&&eQ ck (bQ X k V) G (cR x))
  |.ae _ G=>Nat.ble (Wx G) 64&&((cD ck (aJ X k) G (cR x)).all e5&&eQ ck (bQ X k V) G (cR x))
  |.ah m R D=>(tQ m|| !(j2 R))&&(Nat.ble (Wx R) 15&&(Nat.beq (Wx R) (Wx D)&&(eQ ck (bQ X k V) R (cR x)&&eQ ck (bQ X k V) D ((cR x).drop R.length))))
  |.sub a i=>tP (aJ X k i (ax x 1))&&(bQ X k V a (ax x 0)&&bQ X k V i (ax x 1))
  |.gn _ a L A=>bQ X k V a (ax x 0)&&(match L with|some p=>bQ X k V p (ax (ax x 1) 0)&& !(WE A)|none=>match A with|some p=>bQ X k V p (ax (ax x 1) 0)|none=>false)
  |.oH _ a=>bQ X k V a (ax x 0)
  |.call h f G=>Rq h&&(Kh X k f&&(l6 (hP (ax x 0))&&(ia V (hP (ax x 0))&&(vY (X.jV (hP (ax x 0))) (X.di f)&&(Nat.ble (Wx G) 20&&((cD ck (aJ X k) G (cR x).tail).all e5&&eQ ck (bQ X k V) G (cR x).tail))))))
  |.new c G=>Nat.blt c X.i1&&(An X k c&&(l6 (hP (ax x 0))&&(ia V (hP (ax x 0))&&(vY (X.jV (hP (ax x 0))) (X.cP c)&&(Nat.ble (Wx G) 20&&((cD ck (aJ X k) G (cR x).tail).all e5&&eQ ck (bQ X k V) G (cR x).tail))))))
  |.aC a n G=>Nat.blt (ht n) X.l3&&(Nat.ble (39*rv n+59) k&&(p7 (aJ X k a (ax (ax x 0) 0))&&(Nat.beq (ax x 0).pos.endLine x.pos.line&&(Nat.ble (Wx G) 20&&((cD ck (aJ X k) G (cR x).tail).all e5&&(bQ X k V a (ax (ax x 0) 0)&&eQ ck (bQ X k V) G (cR x).tail))))))
  |.bq _ b G=>ia V (qK b)&&(Nat.ble (Wx G) 20&&((cD ck (aJ X k) G (cR x).tail).all e5&&eQ ck (bQ X k V) G (cR x).tail))
  |.comp _ l d T B=>(match ma x with
   |some g=>oK V g&&tX X d g.names
   |none=>false)&&(sU T d&&(rG X k V T (ax x 2)&&(oz X (tM V x) d&&(bQ X k (tM V x) l (ax x 0)&&(match B with
   |some c=>il c&&bQ X k (tM V x) c (ax x 3)
   |none=>true)))))
  |.k' ..=>false
noncomputable def rG(X:cn):Nat->(ZV->Z0 ZR)->dw->ZU->Bool
 |0,_,_,_=>false
 |k+1,V,T,x=>match T with
  |.e a=>bQ X k V a x
  |.range L A=>ia V "range"&&(match L with
   |none=>e5 (aJ X k A (ax x 1))&&bQ X k V A (ax x 1)
   |some L=>e5 (aJ X k L (ax x 1))&&(e5 (aJ X k A (ax x 2))&&(bQ X k V L (ax x 1)&&bQ X k V A (ax x 2))))
  |.jn a=>ia V "enumerate"&&(e5 (aJ X k a (ax x 1))&&bQ X k V a (ax x 1))
  |.rO a=>ia V "reversed"&&(e5 (aJ X k a (ax x 1))&&bQ X k V a (ax x 1))
end
noncomputable def i7(V:ZV->Z0 ZR)(c:List ZU):List ZV:=c.filterMap λ
 |.Name id X=>if V id==some .local&&X.line==(c.head?.map (·.pos.line)).getD 0 then some id else none
 |_=>none
noncomputable def ON:E->Bool
 |.comp ..=>true
 |_=>false
def Bj(V:ZV->Z0 ZR)(G:List ZU)(v:ZU):Bool:=match vZ v with
 |true=>Nat.beq (Wx (cR v)) (Wx G)&&((Nat.beq (Wx G) 2||Nat.beq (Wx G) 3)&&((cR v).all e5&&(Nat.beq (Wx (i7 V G)) (Wx G)&&(p5 (i7 V G)&&(!((cR v).all (foldedForSure 8))&& !((cR v).all (constantsAlone 8)))))))
 |false=> !(ju 24 v)
structure IT where
 zS:List ZU
 a:List ZZ
 b:List ZZ
def ny:ZZ->IT
 |.Return v _=>⟨xk v,[],[]⟩
 |.Assign c v _=>⟨v::c,[],[]⟩
 |.AugAssign t _ v _=>⟨[v,t],[],[]⟩
 |.For t i b _ _=>⟨[t,i],b,[]⟩
 |.While t b _ _=>⟨[t],b,[]⟩
 |.If t a b _=>⟨[t],a,b⟩
 |.Expr v _=>⟨[v],[],[]⟩
 |_=>⟨[],[],[]⟩
def mz(y:ZZ):List ZZ:=(ny y).a
def Ca(y:ZZ):List ZZ:=(ny y).b
def bZ(y:ZZ)(i:Nat):ZU:=match a3 (ny y).zS i with|some y=>y|none=>ck
def iI:ZZ:=aai (.Pass default)
def U1(X:cn)(k:Nat)(t:o')(x:ZU):ZU:=match t with
 |.F n=>.Name (X.az n) x.pos
 |.aS o a=>.Attribute (aJ X k o (ax x 0)) (X.az a) x.pos
 |.sub o i=>.Subscript (aJ X k o (ax x 0)) (aJ X k i (ax x 1)) x.pos
 |.ay ns=>.Tuple (cD ck (λn y=>.Name (X.az n) y.pos) ns (cR x)) (lS x) x.pos
def ke(X:cn)(O:Nat):S->ZZ->ZZ:=
 O.rec (λ_ y=>y) λk c j y=>match j with
  |.hk=>y
  |.eF=>.Pass y.pos
  |.bY t e=>.Assign [U1 X k t (bZ y 1)] (aJ X k e (bZ y 0)) y.pos
  |.pe n F e=>.AugAssign (.Name (X.az n) (bZ y 1).pos) (oA F) (aJ X k e (bZ y 0)) y.pos
  |.expr e=>.Expr (aJ X k e (bZ y 0)) y.pos
  |.ret e=>.Return (e.map λe=>aJ X k e (bZ y 0)) y.pos
  |.ite t a b=>.If (aJ X k t (bZ y 0)) (cD iI c a (mz y)) (cD iI c b (Ca y)) y.pos
  |.iq t b=>.While (aJ X k t (bZ y 0)) (cD iI c b (mz y)) [] y.pos
  |.b5 d T b=>.For (g5 X d (bZ y 0)) (mh X k T (bZ y 1)) (cD iI c b (mz y)) [] y.pos
def AF(X:cn)(k:Nat)(V:ZV->Z0 ZR)(e:E)(v:ZU)(t:o')(x:ZU):Bool:=match t with
 |.F n=>l0 V (X.az n)&&(rD v||ON e)
 |.aS o a=>Nat.blt a X.l3&&bQ X k V o (ax x 0)
 |.sub o i=>tP (aJ X k i (ax x 1))&&(bQ X k V o (ax x 0)&&bQ X k V i (ax x 1))
 |.ay ns=>(match ns with|_::_::_=>true|_=>false)&&(rD v&&((ns.all λn=>l0 V (X.az n))&&Bj V (cD ck (λn y=>Expr.Name (X.az n) y.pos) ns (cR x)) v))
def m9(X:cn)(O:Nat):(ZV->Z0 ZR)->S->ZZ->Bool:=
 O.rec (λ_ _ _=>false) λk c V j y=>match j with
  |.hk=>true
  |.eF=>true
  |.bY t e=>bQ X k V e (bZ y 0)&&AF X k V e (aJ X k e (bZ y 0)) t (bZ y 1)
  |.pe n _ e=>l6 (X.az n)&&(l0 V (X.az n)&&bQ X k V e (bZ y 0))
  |.expr e=>rD (aJ X k e (bZ y 0))&&bQ X k V e (bZ y 0)
  |.ret e=>match e with
   |none=>true
   |some e=>bQ X k V e (bZ y 0)
  |.ite t a b=>il t&&(bQ X k V t (bZ y 0)&&(eQ iI (c V) a (mz y)&&eQ iI (c V) b (Ca y)))
  |.iq t b=>il t&&(bQ X k V t (bZ y 0)&&eQ iI (c V) b (mz y))
  |.b5 d T b=>sU T d&&(oz X V d&&(rG X k V T (bZ y 1)&&eQ iI (c V) b (mz y)))
end Mine.Internal
end
noncomputable section
open PySem PySem.W PySem.Calls PyProof.Rows PySem.SeqAt
namespace Mine.Internal
noncomputable def uU(K:Frag)(C:ZP)(l:ZV):Bool:=match findIn K (.ref C) l with
 |none=>false
 |some none=>true
 |some (some a)=>match specialIn K a "__get__" with
  |none=>false
  |some none=>true
  |some (some _)=>match takesIn K a with
   |some b=> !b
   |none=>false
def MQ{K:Frag}(e:hasDictIn K X)(E:uU K X name)(f:lookIn name c=some (some d)):findObj K X (some c) name=some (.value d):=by
 obtain⟨l,L,T⟩:=any_some e;unfold findObj;have s:PySem.W.ownOf l (some c) name=some (some d):=by unfold PySem.W.ownOf;rw[if_pos T];exact f
 unfold uU at E;rw[L,Option.bind_some];generalize q:findIn K (.ref X) name=N;induction N with
 |none=>have E:=q▸E;exact bb E
 |some o=>
  have E:=q▸E;induction o with
  |none=>simp [s]
  |some a=>
   have E:(match specialIn K a "__get__" with|none=>false|some none=>true|some (some _)=>match takesIn K a with|some b=> !b|none=>false)=true:=E
   generalize g:specialIn K a "__get__"=N;induction N with
   |none=>have E:=g▸E;exact bb E
   |some o=>
    induction o with
    |none=>simp [g,s]
    |some h=>
     have E:=g▸E;have E:(match takesIn K a with|some b=> !b|none=>false)=true:=E
     generalize t:takesIn K a=N;induction N with
     |none=>have E:=t▸E;exact bb E
     |some b=>have E:=t▸E;induction b with|true=>exact bb E|false=>simp [g,t,s]
structure BK(X:cn)(c:Nat):Prop where
 DV:findIn X.K (.ref (X.cP c)) "__getattribute__"=some (some (.builtin "object.__getattribute__"))
 gt:findIn X.K (.ref (X.cP c)) "__getattr__"=some none
 Tp:findIn X.K (.ref (X.cP c)) "__setattr__"=some (some (.builtin "object.__setattr__"))
 dict:hasDictIn X.K (X.cP c)=true
 RX:plainOver X.K (X.cP c)=true
 JG:∀a,a<X.l3->uU X.K (X.cP c) (X.az a)=true
 US:∀a,a<X.l3->takerIn X.K (X.cP c) (X.az a)=some none
 Ac:makesIn X.K (X.cP c)=true
structure lq(X:cn):Prop where
 inj:∀a b,X.az a=X.az b->a=b
 cls:∀c,c<X.i1->BK X c
 LK:∀a,X.az a≠".0"
 eW:∀a,X.az a≠Internal.eW
def qN:List ZV:=aai ["len","sum","sorted","abs","int","str","tuple","list","dict","range","enumerate","reversed","Exception"]
structure BP(X:cn):Prop where
 jV:∀x a,X.jV x=some a->nsIn X.K mainGlobals x=some (some a)
 blt:∀x:ZV,x∈qN->nsIn X.K mainGlobals x=some none
structure kn(X:cn):Prop where
 append:X.az X.N.append="append"
 lJ:X.az X.N.lJ="extend"
 f5:X.az X.N.f5="pop"
 get:X.az X.N.get="get"
 iD:X.az X.N.iD="index"
 rV:X.az X.N.rV="startswith"
structure xR(X:cn)(c:Nat)(a:ja):Prop where
 lt:c<X.i1
 keep:keepIn X.K (.ref (X.cP c))=true
 init:match a.init with
  |none=>findIn X.K (.ref (X.cP c)) "__init__"=some (some (.builtin "object.__init__"))
  |some i=>findIn X.K (.ref (X.cP c)) "__init__"=some (some (.ref (X.di i)))/\isFn X.K (.ref (X.di i))=true
 aC:∀m i,au a.kS m=some i->findIn X.K (.ref (X.cP c)) (X.az m)=some (some (.ref (X.di i)))/\isFn X.K (.ref (X.di i))/\m<X.l3
noncomputable def cN(X:cn)(B:Nat):Nat:=39*X.P.kZ B+39
abbrev ic(E:ZY)(x:ZV):Z0 ZR:=aai (E.names.lookup x)
abbrev kc(X:cn)(k:Nat)(b:List S)(E:List ZZ):List ZZ:=cD iI (ke X k) b E
abbrev l5(X:cn)(k:Nat)(V:ZV->Z0 ZR)(b:List S)(E:List ZZ):Bool:=eQ iI (m9 X k V) b E
structure qC where
 (name qual:ZV)(params:Arguments)(body:List ZZ)(scope:ZY)(q4 ro doc rL mE qZ wH:ZO)(qH tV:Z0 ZP)(wK:Array (Z0 ZO))(iW:ZJ)
structure xU(X:cn)(B:Nat)(a:ZK)(b:ZF)(N:qC):Prop where
 fy:X.K.lookup (X.di B)=some ⟨N.wH,N.tV,.func (fnOf N.name N.qual N.params N.body N.scope N.q4 N.ro N.doc N.rL N.qH N.mE N.qZ),N.wK⟩
 tb:codeIn X.K N.mE N.qual=true
 dO:∀(S:Setting)(eS:ZJ),eS.length+N.iW.length=a.length->peek X.K S (bindArgs (fnOf N.name N.qual N.params N.body N.scope N.q4 N.ro N.doc N.rL N.qH N.mE N.qZ) ⟨eS,[]⟩)=some ((a.map X.az).zip (eS++N.iW))
 rl:∀w,aK X w b N.iW
 Eh:(a.all λp=>ic N.scope (X.az p)==some .local||ic N.scope (X.az p)==some .cell)=true
 En:((cellsFrom 0 N.scope.names []).map (·.1)).Nodup
 th:a.Nodup
 tc:N.scope.isCoroutine=false
 tf:N.scope.isGenerator=false
 hq:N.scope.kind=.function
 keep:keepIn X.K (.ref (X.di B))=true
 Ww:isFn X.K (.ref (X.di B))=true
structure o1(X:cn)(B:Nat)(a:cy)(N:qC):Prop where
 H:xU X B a.ak a.d7 N
 tg:l5 X (cN X B) (ic N.scope) a.body N.body=true
 EB:kc X (cN X B) a.body N.body=N.body
def IM(X:cn):Prop:=∀B,((∃K,X.P.fM B=some K)\/∃D r,X.P.j3 B D=some r)->keepIn X.K (.ref (X.di B))=true
structure r7 where
 (name qual:ZV)(params:Arguments)(body:List ZZ)(scope:ZY)(q4 ro doc rL qZ wH Cp Cw:ZO)(qH tV Cs Cx:Z0 ZP)(wK Cq CM:Array (Z0 ZO))(lE jR:ZP)(bg:Array ZO)(file:ZV)(Hx:Tok)(sa:Arg)(c self kC:Nat)(Cr:ClassData)
 (pre post:List S)(qc m':List ZZ)(av:List E)(jC:ZU)(bt:List ZU)(bp bk bf oC wN:Pos)
structure nL(X:cn)(B:Nat)(a:cy)(N:r7):Prop where
 fy:X.K.lookup (X.di B)=some ⟨N.wH,N.tV,.func (ksFn N.name N.qual N.params N.body N.scope N.q4 N.ro N.doc N.rL N.qH (.ref N.lE) N.qZ N.jR),N.wK⟩
 tb:codeIn X.K (.ref N.lE) N.qual=true
 dO:∀(S:Setting)(eS:ZJ),eS.length=a.ak.length->peek X.K S (bindArgs (ksFn N.name N.qual N.params N.body N.scope N.q4 N.ro N.doc N.rL N.qH (.ref N.lE) N.qZ N.jR) ⟨eS,[]⟩)=some ((a.ak.map X.az).zip eS)
 rl:a.d7=[]
 Em:(a.ak.all λp=>N.scope.names.lookup (X.az p)==some .local)=true
 zz:∀x∈N.scope.names,x.2≠.cell
 th:a.ak.Nodup
 tc:N.scope.isCoroutine=false
 tf:N.scope.isGenerator=false
 hq:N.scope.kind=.function
 D8:a.body=N.pre++.expr (.k' N.c N.self N.kC N.av)::N.post
 D9:N.body=N.qc++.Expr (.Call (.Attribute (.Call (.Name "super" N.bp) [] [] N.bk) "__init__" N.bf) (N.jC::N.bt) [] N.oC) N.wN::N.m'
 Er:l5 X (cN X B) (ic N.scope) N.pre N.qc=true
 Es:kc X (cN X B) N.pre N.qc=N.qc
 Ek:N.qc.length=N.pre.length
 Eo:l5 X (cN X B) (ic N.scope) N.post N.m'=true
 Ep:kc X (cN X B) N.post N.m'=N.m'
 Ea:eQ ck (bQ X (cN X B) (ic N.scope)) N.av (N.jC::N.bt)=true
 zC:cD ck (aJ X (cN X B)) N.av (N.jC::N.bt)=N.jC::N.bt
 Et:cN X N.kC+20<=cN X B
 vS:(N.jC::N.bt).all e5=true
 El:(N.bf.endLine==N.oC.line)=true
 Ej:(N.jC::N.bt).length<=20
 Ed:(N.params.posonlyargs++N.params.args).head?=some N.sa
 zD:X.az N.self=N.sa.arg
 zE:N.scope.names.lookup N.sa.arg=some .local
 D':X.K.lookup N.lE=some ⟨N.Cp,N.Cs,.fields N.bg,N.Cq⟩
 ED:N.bg[2]?=some (.str N.file N.Hx)
 Eb:((X.prog.main.file:ZV)==N.file)=true
 zy:X.K.lookup N.jR=some ⟨N.Cw,N.Cx,.cell (some (.ref (X.cP N.c))),N.CM⟩
 D5:clsIn X.K (X.cP N.c)=some N.Cr
 Eu:mroIn X.K (X.cP N.c) (.ref (X.cP N.c))=some true
 Ew:nsIn X.K mainGlobals "super"=some none
 Ei:N.scope.names.lookup ("super":ZV)=some .globalImplicit
 vQ:N.scope.names.lookup ("__class__":ZV)=some .free
 EC:(X.prog.main.scope.names.lookup ("super":ZV)).isSome=false
 EA:nsIn X.K cStatics "thirdparty.any"=some none
 tg:ks_superIn X.K (X.cP N.c) (X.cP N.c) "__init__"=some (some (.ref (X.di N.kC)))
 Ez:typeIn X.K (.ref (X.di N.kC))=some (.type "function")
 Ec:fnIn X.K (X.di N.kC)=true
def fo(c:cu)(t:Code)(a:Z)(w:aL)(E:Z)(v:V):Prop:=
 ∀(R:Result->ZN),(∀B g,aT c a w E B->o c.X B v g->R (.ok (.ret g)) B.s)->codeAny (aae c) c.A t R w.s
def yb(X:cn):Prop:=∀(f:ed)(d:Env)(A:ZX)(B:Nat)(D:ZF)(r:V)(a:Z)(w:aL)(t:ZJ),X.P.j3 B D=some r->hZ X f->d6 f A (cN X B+20)->aP ⟨X,f,d,A⟩ a w->aK X w D t->fo ⟨X,f,d,A⟩ (.call (.ref (X.di B)) ⟨t,[]⟩) a w a r
structure g9(X:cn):Prop where
 az:lq X
 rZ:BP X
 aC:kn X
 cls:∀c a,X.P.cls c=some a->xR X c a
 keep:IM X
 E2:∀c a g i,X.P.cls c=some a->au a.kS g=some i->keepIn X.K (.ref (X.di i))=true
 Gz:∀c a i,X.P.cls c=some a->a.init=some i->a.qf->∀b,X.P.fM i=some b->(∃N,o1 X i b N)
 fM:∀B b,X.P.fM B=some b->(∃N,o1 X B b N)\/(∃N,nL X B b N)
 j3:yb X
structure bJ(c:cu)(b:Nat)(A:ZD)(a:Z)(w:aL):Prop where
 ok:g9 c.X
 aM:hZ c.X c.f
 dK:d6 c.f c.A b
 bU:jb c.f c.af
 ag:aP c a w
 dc:fI c.X w c.af A
def bT(n:Nat)(e:E):Prop:=∀(c:cu)(A:ZD)(a:Z)(v:V)(b:Z)(k:Nat)(x:ZU)(w:aL),(aD c.X.P c.X.N n).e e ⟨A,a⟩=some (v,b)->bQ c.X (k+1) c.af.kindOf e x->bJ c (k+1) A a w->
 aR c (eval (aJ c.X (k+1) e x) c.af) a w b v
def Gt(n:Nat)(e:E):Prop:=∀(c:cu)(A:ZD)(a:Z)(v:V)(d:Z)(b:Bool)(k:Nat)(x:ZU)(w:aL),il e->(aD c.X.P c.X.N n).e e ⟨A,a⟩=some (v,d)->WA v d=some b->bQ c.X (k+1) c.af.kindOf e x->bJ c (k+1) A a w->
 c4 c (isTrue (aJ c.X (k+1) e x) c.af (eval (aJ c.X (k+1) e x) c.af)) a w d b
def bJ.aF(C:bJ a' f' h' c' s')(j:aT a' c' s' hp' w'):bJ a' f' h' hp' w':=⟨C.ok,C.aM,C.dK,C.bU,C.ag.aF j,C.dc.aF C.bU C.ag j⟩
def bJ.le(C:bJ a' h' s' c' w')(j:f'<=h'):bJ a' f' s' c' w':=⟨C.ok,C.aM,C.dK.jw j,C.bU,C.ag,C.dc⟩
def bJ.aW(C:bJ c' (a'+1) h' f' s'):bJ c' a' h' f' s':=C.le (Xt a')
def bJ.lT(C:bJ a' h' s' f' c'):a'.X.K.In c'.h:=C.ag.aM.elim λ_ j=>C.aM.K.keeps j.keep
def bJ.units(C:bJ a' f' h' c' s'):a'.A.units+30<cLine:=W3 (Xl (W5 (Xd _ _) C.dK.units) 30) (by decide)
def bT.aO(j:bT s' a')(h:(aD c.X.P c.X.N s').e a' ⟨f',c'⟩=some (h',hp'))(o:bQ c.X k c.af.kindOf a' x)(C:bJ c k f' c' w):aR c (eval (aJ c.X k a' x) c.af) c' w hp' h':=by
 induction k with|zero=>exact bb o|succ k=>exact j c f' c' h' hp' k x w h o C
def Gt.aO(j:Gt s' a')(J:il a')(h:(aD c.X.P c.X.N s').e a' ⟨f',c'⟩=some (h',hp'))(u:WA h' hp'=some b)(o:bQ c.X k c.af.kindOf a' x)(C:bJ c k f' c' w):c4 c (isTrue (aJ c.X k a' x) c.af (eval (aJ c.X k a' x) c.af)) c' w hp' b:=by
 induction k with|zero=>exact bb o|succ k=>exact j c f' c' h' hp' b k x w J h u o C
def aN(h:(a&&b)):a=true:=(Xy.mp h).1
def ar(h:(a&&b)):b=true:=(Xy.mp h).2
def WI(h:(!a)):a=false:=by induction a with|true=>exact bb h|false=>rfl
def n9(h:ia a s):a s=some .globalImplicit:=by
 have h:(match a s with|some .globalImplicit=>true|_=>false)=true:=h
 generalize q:a s=N;induction N with
 |none=>have h:=q▸h;exact bb h
 |some z=>have h:=q▸h;induction z<;>first|rfl|exact bb h
def rH(h:l6 s):(s==("__debug__":ZV))=false:=oL s _▸WI (aN h)
def wI(h:l6 s):(s==("__classdict__":ZV))=false:=oL s _▸WI (ar h)
def Ir:bT (b+1) (.lit a):=λc A f u d k x w e o C=>by
 refine bz (p:=λu d=>aR c (eval (.Constant (Fl a) (lS x) x.pos) c.af) f w d u) e ?_;induction a using V.casesOn with|none=>exact aR.toks C.ag λQ E q=>wpAny_Constant_none (q _ w.s.toks .none)|bool=>exact aR.toks C.ag λQ E q=>wpAny_Constant_bool (q _ w.s.toks .bool)|int=>exact aR.toks C.ag λQ E q=>wpAny_Constant_int (q _ _ .int)|str=>exact aR.toks C.ag λQ E q=>Zp (q _ _ .str)|_=>exact bb o
def It:bT (b+1) (.F a):=λc A V u E k x w e o C=>aA e λv aD e=>bz (p:=λu E=>aR c (eval (.Name (c.X.az a) x.pos) c.af) V w E u) e (z1 C.ag C.bU C.dc (ar o) aD (rH (aN o)) (wI (aN o)))
def Nj(C:bJ c d A a w)(R:c.af.kindOf s=some .globalImplicit)(g:c.X.jV s=some L)(T:(s==("__debug__":ZV))=false)(p:o c.X w b L):aR c (eval (.Name s pos) c.af) a w a b:=
 aR.toks C.ag λQ E q=>C.ag.aM.elim λm F=>Name_function_global C.bU.kind R (loadGlobal_global (by rw[C.bU.ia];exact C.aM.T.g.keeps F.keep) (mg_of C.aM.K C.aM.T.g (C.ok.rZ.jV s L g)) (q _ w.s.toks p)) T
def vJ(C:bJ c b A a w)(R:c.af.kindOf s=some .globalImplicit)(g:c.X.jV s=some L)(T:(s==("__debug__":ZV))=false):c4 c (eval (.Name s pos) c.af) a w a L:=
 c4.toks C.ag λQ E q=>C.ag.aM.elim λm F=>Name_function_global C.bU.kind R (loadGlobal_global (by rw[C.bU.ia];exact C.aM.T.g.keeps F.keep) (mg_of C.aM.K C.aM.T.g (C.ok.rZ.jV s L g)) (q w.s.toks)) T
def yE(C:bJ c b A a w)(R:c.af.kindOf s=some .globalImplicit)(B:s∈qN)(d:bootBuiltins s=some L)(T:(s==("__debug__":ZV))=false)(X:s≠"__name__"):c4 c (eval (.Name s pos) c.af) a w a L:=
 c4.toks C.ag λQ E q=>C.ag.aM.elim λm F=>Name_function_global C.bU.kind R (loadGlobal_builtin (by rw[C.bU.ia];exact C.aM.T.g.keeps F.keep) (mg_none_of C.aM.K C.aM.T.g (C.ok.rZ.blt s B)) (by rw[C.bU.blt];exact C.aM.T.b.keeps F.keep) ((C.aM.T.builtins s X).trans d) (q w.s.toks)) T
def OP(h:EP a g):∃L,g=some L/\o X w a L:=by
 induction g with
 |none=>induction a using V.casesOn<;>exact bb h
 |some L=>induction a using V.casesOn with
  |int i=>induction L with
   |int j t=>exact⟨_,rfl,mU.mp h▸.int⟩
   |_=>exact bb h
  |str i=>induction L with
   |str j t=>exact⟨_,rfl,k4.mp h▸.str⟩
   |_=>exact bb h
  |_=>exact bb h
def Ip:bT (a+1) (.d9 b):=λc A V u E k x w e o C=>bz (p:=λu E=>aR c (eval (.Name (hP x) x.pos) c.af) V w E u) e
 ((OP (ar (ar o))).elim λu h=>Nj C (n9 (aN (ar o))) h.1 (rH (aN o)) h.2)
noncomputable def jh(g:ZQ)(L:ZP)(h:ZQ):List (ZP×Obj):=(List.range h.objs.size).filterMap λa=>if a=L then none else match g.get? a with|some _=>none|none=>(h.get? a).map λo=>(a,o)
def ji:(a,H)∈jh g L h↔h.get? a=some H/\a≠L/\g.get? a=none:=by
 unfold jh;rw[YG]
 constructor
 .rintro ⟨b,_,e⟩
  by_cases G:b=L
  .rw[if_pos G] at e;exact ns e
  .rw[if_neg G] at e
   generalize i:g.get? b=N;induction N with|some x=>rw[i] at e;exact ns e|none=>rw[i] at e;exact(YZ.mp e).elim λr h=>(Yh h.2).1▸(Yh h.2).2▸⟨h.1,G,i⟩
 .intro h
  refine⟨a,List.mem_range.mpr (XA h.1),?_⟩;rw[if_neg h.2.1,h.2.2,h.1];rfl
def jj:News g L h (jh g L h):=λp V=>ji.mp V
def gw.AD(U:Fr c' a' f' w')(J:Fr c' a' h' x')(V:News c' a' h' news)(W:∀s'∈jh c' a' f',s'∈news):gw a' f' h':=by
 refine⟨λu o Y M=>?_,J.ns.elim λo j=>j.elim λ_ j=>j.elim λ_ j=>⟨o,j.1⟩⟩;generalize C:c'.get? u=cK;induction cK with|some Z=>exact WZ ((U.keep u Z C).symm.trans M)▸J.keep u _ C|none=>exact(V _ (W _ (ji.mpr ⟨M,Y,C⟩))).1
def Fr.Gh(j:Fr c' a' f' s')(C:c3 f' h'):Fr c' a' h' s':=⟨j.ns.keeps C,λu o J=>C u o (j.keep u o J),j.above⟩
def Ht:∀p∈l,p∈a::l:=λ_=>.tail _
section
variable{c:cu}{X:Z}{w:aL}{S:ZQ}{t:Tok}
def aP.all(j:aP c X w)(o:c3 w.h S):gw c.f.L w.h S:=.Gi o j.jX
def aT.all(j:aP c X w)(o:c3 w.h S):aT c X w X (w.ab S t):=.gU j (j.all o) (λ_ u=>Fr.Gh u o) ⟨_,_,rfl⟩
structure iv(c:cu)(w:aL)(S:ZQ):Prop where
 aM:∀m,Fr c.f.g c.f.L w.h m->Fr c.f.g c.f.L S m
 gU:gw c.f.L w.h S
def iv.all(u:aP c X w)(j:c3 w.h S):iv c w S:=⟨λ_ o=>Fr.Gh o j,u.all j⟩
def iv.jx(j:Fr c.f.g c.f.L w.h a')(o:Fr c.f.g c.f.L S a')(C:News c.f.g c.f.L S news)(J:∀c'∈jh c.f.g c.f.L w.h,c'∈news):iv c w S:=⟨λM u=>kU u.ns j.ns▸o,.AD j o C J⟩
def tG(I:aP c X w)(N:iv c w S)(i:w.h.get? a=none)(g:S.PlainList a d.toArray)(j:d.length<=b0)(r:aK c.X w f d)(h:Bool):
  ∃B,B.s=(w.ab S t).s/\aT c X w (dj h f X).2 B/\o c.X B (dj h f X).1 (.ref a):=by
 induction h with
 |false=>
  have e:=I.aH.bV (s':=(w.ab S t).s) I.own N.gU λb x=>by exact(show b=a from x)▸⟨i,g.elim λH y=>⟨_,y⟩⟩
  exact⟨⟨w.G.bI λb=>b=a,(w.ab S t).s⟩,rfl,⟨e.1,e.2,N.aM,⟨_,_,rfl⟩⟩,.ae (.inr rfl) g j (r.ext (e.2.ext I.aH λ_ x=>x▸I.own.a0))⟩
 |true=>have e:=I.aH.Ao (h':=λ_=>False) (o:=.ae f 0) (s':=(w.ab S t).s) I.own N.gU (λ_ x=>x.elim) i (λx=>x) λE=>⟨ea.1.trans (W0 some ea.2.symm),d,ea.2.symm▸g,j,r.ext E⟩;exact⟨⟨(w.G.bI λ_=>False).a5 X.n a a,(w.ab S t).s⟩,rfl,⟨e.1,e.2,N.aM,⟨_,_,rfl⟩⟩,.ref ea.1⟩
def Pn(I:aP c X w)(N:iv c w S)(E:w.h.get? a=none)(g:S.IsTuple a d.toArray)(h:d.length<=b0)(r:aK c.X w f d):∃B,B.s=(w.ab S t).s/\aT c X w X B/\o c.X B (.ay f) (.ref a):=by
 have e:=I.aH.bV (s':=(w.ab S t).s) I.own N.gU λb x=>by exact(show b=a from x)▸⟨E,g.elim λH y=>⟨H,y.1⟩⟩
 exact⟨⟨w.G.bI λb=>b=a,(w.ab S t).s⟩,rfl,⟨e.1,e.2,N.aM,⟨_,_,rfl⟩⟩,.ay (.inr rfl) g h (r.ext (e.2.ext I.aH λ_ x=>x▸I.own.a0))⟩
def E9(I:aP c X w)(N:iv c w S)(d:w.h.get? a=none)(h:(a==sysModules)=false)(f:∀B,cM w B->B.h=S->ez c.X B P a G)(g:G.length<=b0)(r:b2 c.X w b G):
  ∃B,B.s=(w.ab S t).s/\aT c X w (X.new (.ah P b 0)) B/\o c.X B (.ref X.n) (.ref a):=by
 have e:=I.aH.Ao (h':=λ_=>False) (o:=.ah P b 0) (s':=(w.ab S t).s) I.own N.gU (λ_ x=>x.elim) d (λx=>x) λE=>⟨ea.1.trans (W0 some ea.2.symm),ea.2.symm▸h,G,ea.2.symm▸f _ E rfl,g,r.ext E⟩;exact⟨⟨(w.G.bI λ_=>False).a5 X.n a a,(w.ab S t).s⟩,rfl,⟨e.1,e.2,N.aM,⟨_,_,rfl⟩⟩,.ref ea.1⟩
def bP.tu(u:aP c X w)(U:h'.length<=b0)(Y:aK c.X w s' h')(j:Bool)
  (V:∀(a':ZG)(E:ZG),(∀S f' c',iv c w S->w.h.get? c'=none->S.PlainList c' h'.toArray->a' (.ref c') (w.ab S f').s)->aad c x' a' E w.s):aR c x' X w (dj j s' X).2 (dj j s' X).1:=λa' E W=>
 V a' E λS f' c' C J M=>(tG u C J M U Y j).elim λZ o=>o.1▸W Z _ o.2.1 o.2.2
def bP.zT(o:aP c X w)(M:h'.length<=b0)(W:aK c.X w x' h')
  (U:∀(a':ZG)(E:ZG),(∀S f' c',iv c w S->w.h.get? c'=none->S.IsTuple c' h'.toArray->a' (.ref c') (w.ab S f').s)->aad c s' a' E w.s):aR c s' X w X (.ay x'):=λa' E V=>
 U a' E λS f' c' u C J=>(Pn o u C J M W).elim λY j=>j.1▸V Y _ j.2.1 j.2.2
def wY(h:ZQ)(D:Array ZO):(h.push {cls:=.type "list",data:=.seq D}).PlainList h.objs.size D:=⟨_,Heap.get?_push_size _ rfl⟩
def EV(h:ZQ)(D:Array ZO):(h.push {cls:=.type "tuple",data:=.seq D}).IsTuple h.objs.size D:=⟨_,Heap.get?_push_size _ rfl,rfl,_,rfl⟩
def mc{D:ZJ}(X:D.length<=b0):D.toArray.size<=sizeLine:=by exact Xo▸jA _ X
def Q5(I:aP c X w)(d:a.length<=b0)(r:aK c.X w b a)(g:Bool):aR c (newList a) X w (dj g b X).2 (dj g b X).1:=
 bP.tu I d r g λQ E q=>Zs (q _ w.s.toks _ (.all I (c3.push _ _)) (hp _) (wY _ _)) (mc d)
def Q8(I:aP c X w)(d:a.length<=b0)(r:aK c.X w b a):aR c (newTuple a) X w X (.ay b):=
 bP.zT I d r λQ E q=>Zs (q _ w.s.toks _ (.all I (c3.push _ _)) (hp _) (EV _ _)) (mc d)
def SM(x:α)(n:Nat):j7 [x] n=List.replicate n x:=by
 induction n with|zero=>rfl|succ n S=>exact W0 (x::·) S
def SO(r:o a w x b)(n:Nat):aK a w (List.replicate n x) (List.replicate n b):=by
 induction n with|zero=>exact .nil|succ n S=>exact .cons r S
def qa(h:d' l=some x):l=[x]:=by
 induction l with
 |nil=>exact ns h
 |cons a r=>induction r with|nil=>exact W0 (λx=>[x]) (WZ h)|cons=>exact ns h
def RL(h:Gj l=some x):l=[x]:=aA h λy L h=>qa L▸by
 induction y using V.casesOn with|int=>exact W0 (λx=>[x]) (WZ h)|bool=>exact W0 (λx=>[x]) (WZ h)|_=>exact ns h
def QR{E:ZG}(f:w.h.PlainList l a.toArray)(e:-(2 ^ 63:Int)<=x)(d:x<2 ^ 63)(b:a.length*x.toNat<=2 ^ 24)
  (h:Q (.ref (aah w.s)) {w.s with heap:=w.s.heap.push {cls:=.type "list",data:=.seq (List.replicate x.toNat a).flatten.toArray}}):aad c (binaryOp .Mult (.ref l) (.int x L)) Q E w.s:=by
 refine(f).elim λk s=>?_;have g:a.toArray.size*x.toNat<=2 ^ 24:=by simpa using b
 refine wpAny_binaryOp_repeat_ref (by decide) ⟨_,s,rfl⟩ (λO=>typeIs_int O x L) noFill_list_mul F.fills_int_mul F.slot_int_rmul repeat_list F.slot_int_index.lookup
  (call_meets F.slot_int_rmul (typeIs_int w.s x L) F.entry_int_rmul (F.args_int_rmul_2 _ _) (lm_int_rmul_list_any x L l a.toArray k none #[])
   ⟨s,rfl,⟨_,s,rfl⟩,call_meets F.slot_list_mul ⟨_,s,rfl⟩ F.entry_list_mul (F.args_list_mul_2 _ _)
    (lm_list_mul_any l a.toArray k none #[] x L (by simp [Builtin.List.listFitsIndex];lia) (by lia) (by simp [Builtin.List.listTooLong,sizeLine];lia))
    ⟨s,?_⟩⟩)
 rw[listMul_foldl_if];exact h
def MS(n:Nat)(a:ZO):(List.replicate (Int.ofNat n).toNat [a]).flatten=List.replicate n a:=by simp
def QU{E:ZG}(I:aP c X w)(f:w.h.PlainList l [b].toArray)(d:a<b0)
  (h:∀S,iv c w S->S.PlainList (aah w.s) (List.replicate a b).toArray->Q (.ref (aah w.s)) {w.s with heap:=S}):aad c (binaryOp .Mult (.ref l) (.int (.ofNat a) L)) Q E w.s:=
 QR f (Zy (by decide) (XP a)) (Zx (YA.mpr d) (by decide)) (by show 1*a<=2 ^ 24;rw[Nat.one_mul];exact W5 (Xw d) (by decide)) (by rw[MS];exact h _ (.all I (c3.push _ _)) (wY _ _))
def QT(I:aP c X w)(f:w.h.PlainList l b.toArray)(F:aK c.X w [y] b)(q:o c.X w (.int (.ofNat a)) i)(d:a<b0):aR c (binaryOp .Mult (.ref l) i) X w (dj g (j7 [y] a) X).2 (dj g (j7 [y] a) X).1:=by rw[SM];exact q.dt (p:=λi=>aR c (binaryOp .Mult _ i) X w _ _) λt=>F.hR (q:=λb=>w.h.PlainList l b.toArray->aR c (binaryOp .Mult _ _) X w _ _) (λe h f=>bP.tu I (by rw[List.length_replicate];exact Xw d) (SO h a) g λQ E k=>QU I f d λS N O=>k S w.s.toks _ N (hp _) O) f
def Fi(I:aP c X w)(e:(Y (d5 a X) λx=>FE g h x b X)=some (f,d))(p:o c.X w a B)(q:o c.X w b i):aR c (binaryOp (oA g) B i) X w d f:=by
 refine aA e λx u e=>mZ (p:=λB=>aR c (binaryOp (oA g) B i) X w d f) I.aH u p λl D s t r=>?_;induction g with
 |add=>
  refine aA e λy v e=>bR e λR e=>mZ (p:=λi=>aR c (binaryOp .Add _ i) X w d f) I.aH v q λJ C O H P=>?_;have A:(D++C).length<=b0:=by rw[W8,<-r.length,<-P.length,<-W8,<-hg];exact Xw (pH R)
  exact bz (p:=λf d=>aR c (binaryOp .Add _ _) X w d f) e (bP.tu I A (hg x y▸r.append P) h λQ E k=>I.aM.elim λm F=>add_lists F jj s.isList O.isList (λS T N=>k S w.s.toks _ (.jx F T N Ht) (hp _) ⟨_,(N _ (.head _)).1⟩) (by have:=jA _ A;rw[W8] at this;exact this))
 |mul=>exact aA e λz j e=>aA j λn t j=>bR j λG j=>aA j λy L j=>bz (p:=λf d=>aR c (binaryOp .Mult _ _) X w d f) e (WZ j▸QT I s (RL L▸r) (pd t▸q) (fV G))
 |_=>exact ns e
def Ve(I:aP c X w)(P:j2 x)(f:j2 y)(R:eC (U x y))(K:w.h.IsTuple l a.toArray)(s:w.h.IsTuple G d.toArray)(b:aK c.X w x a)(e:aK c.X w y d):aR c (binaryOp .Add (.ref l) (.ref G)) X w X (.ay (U x y)):=by
 have A:(a++d).length<=b0:=by rw[W8,<-b.length,<-e.length,<-W8,<-hg];exact Xw (pH R)
 rw[hg];refine bP.zT I A (b.append e) λQ E k=>I.aM.elim λm F=>?_;induction x with
 |nil=>exact bb P
 |cons j x=>induction y with
  |nil=>exact bb f
  |cons n y=>cases b with
   |cons g h=>cases e with
    |cons O i=>exact add_tuples F jj K s (λz=>nomatch z) (λ_ z=>nomatch z) (λ_ _ S T N=>k S w.s.toks _ (.jx F T N Ht) (hp _) ⟨_,(N _ (.head _)).1,rfl,_,rfl⟩) (by have:=jA _ A;rw[W8] at this;exact this)
def J0(I:aP c X w)(e:mB g h a b X=some (f,d))(p:o c.X w a B)(q:o c.X w b i):aR c (binaryOp (oA g) B i) X w d f:=by
 induction a using V.casesOn with
 |int x=>exact aA e λy L e=>aA e λz j e=>bz (p:=λf d=>aR c _ X w d f) e (p.dt (p:=λB=>aR c (binaryOp (oA g) B i) X w X (.int z)) λt=>(hH L▸q).dt (p:=λi=>aR c (binaryOp (oA g) _ i) X w X (.int z)) λu=>OM I j)
 |ay x=>
  induction g with
  |add=>exact aA e λz j e=>aA j λy L j=>bR j λP j=>bR j λN j=>bR j λR j=>bz (p:=λf d=>aR c _ X w d f) e (p.gr (p:=λB=>aR c (binaryOp .Add B i) X w X (.ay z)) λl D _ K S m=>(Jy L▸q).gr (p:=λi=>aR c (binaryOp .Add _ i) X w X (.ay z)) λG k _ s A E=>WZ j▸Ve I P N R K s m E)
  |_=>exact ns e
 |none=>exact ns e
 |bool=>exact ns e
 |str=>exact ns e
 |ah=>exact ns e
 |ins=>exact ns e
 |hy=>exact ns e
 |ae x=>exact Fi (a:=.ae x) (b:=b) (h:=h) I e p q
 |ref x=>exact Fi (a:=.ref x) (b:=b) (h:=h) I e p q
end
section
variable{c:cu}{k n:Nat}{A:ZD}
def Ig(m:bT n a)(j:bT n b):bT (n+1) (.a7 d g a b):=λc A V v q k x w e o C=>bK e λu P O e=>bK e λR N i e=>bP.el C.ag (m.aO O (aN o) C.aW) (λS T l f=>j.aO i (ar o) (C.aW.aF l)) (λS s T I p f h K=>J0 (p.aF h) e (f.ext (p.ext h)) K) λQ E=>wpAny_BinOp
def Vv(I:aP c d w)(e:xI f a d=some g)(p:o c.X w a B):aR c (unaryOp (By f) B) d w d g:=by
 induction f with|neg=>exact aA e λi A e=>b6 e ((hH A▸p).dt (p:=λB=>aR c (unaryOp .USub B) d w d _) λt=>aR.toks I λQ E q=>neg_int (q _ _ .int))|ag=>exact aA e λi A e=>b6 e ((hH A▸p).dt (p:=λB=>aR c (unaryOp .Invert B) d w d _) λt=>aR.toks I λQ E q=>invert_int (q _ _ .int))|not=>exact aA e λb s e=>b6 e λQ E q=>not_value (xE I s p _ E λS x T h=>q S _ T (h▸.bool))
def IC(m:bT n a):bT (n+1) (.c6 b a):=λc A V v d k x w e o C=>
 bK e λu P O e=>aA e λr f e=>bz (p:=λv d=>aR c (eval (.UnaryOp (By b) (aJ c.X k a (ax x 0)) x.pos) c.af) V w d v) e
  (bP.d' C.ag (m.aO O (ar o) C.aW) (λS T l g=>Vv (C.ag.aF l) f g) λQ E=>wpAny_UnaryOp)
def wB(h:p6 r):behindInMarks a r=false:=by induction r using Expr.casesOn<;>first|exact(rfl:false=false)|exact bb h
def Ij(m:bT n a)(q:bT n b):bT (n+1) (.aw d a b):=λc A V v g k x w e o C=>
 bK e λu P O e=>bK e λR N j e=>aA e λr D e=>bz (p:=λv g=>aR c (eval (.Compare (aJ c.X k a (ax x 0)) [ps d] [aJ c.X k b (ax x 1)] x.pos) c.af) V w g v) e
  (bP.el C.ag (m.aO O (aN o) C.aW) (λS T l i=>q.aO j (aN (ar o)) (C.aW.aF l)) (λS s T t p i f K=>bP.jw (pv (p.aF f) C.units D (i.ext (p.ext f)) K) λI y _ z=>z▸.bool) λQ E h=>wpAny_Compare1 h (wB (ar (ar o))))
def I9(m:bT n a)(j:bT n b):Gt (n+1) (.aw d a b):=λc A V v f y k x w _ e B o C=>
 bK e λu P O e=>bK e λR N g e=>aA e λr D e=>bz (p:=λv f=>WA v f=some y->c4 c (isTrue (.Compare (aJ c.X k a (ax x 0)) [ps d] [aJ c.X k b (ax x 1)] x.pos) c.af (eval (.Compare (aJ c.X k a (ax x 0)) [ps d] [aJ c.X k b (ax x 1)] x.pos) c.af)) V w f y) e
  (λB=>b6 B λQ E q=>wpAny_isTrue_Compare1 (m.aO O (aN o) C.aW _ E λS T l s=>j.aO g (aN (ar o)) (C.aW.aF l) _ E λt F h K=>
   have p:=C.ag.aF l
   pv (p.aF h) C.units D (s.ext (p.ext h)) K _ E λI G i z=>z▸YL (q I r (l.trans C.ag (h.trans p i)) rfl)) (wB (ar (ar o)))) B
def EU(W:lq X)(a b:Nat)(t:Tok):(Value.str (X.az a) t).isStr (X.az b)=Nat.beq a b:=by refine(?_:(X.az a==X.az b)=_);rw[p3,XS,beq_iff_eq,beq_iff_eq];exact⟨W.inj a b,λe=>e▸rfl⟩
def Ng(W:lq X):getL (X.az a) (⟨i,.str (X.az b) t,d⟩::G)=match Nat.beq b a with|true=>some (some d)|false=>getL (X.az a) G:=by unfold getL;rw[Y1,List.find?_cons,EU W];cases Nat.beq b a<;>rfl
def dB.zc(W:lq c')(C:dB c' s' fs f')(j:Nat):(∃a' h',au fs j=some a'/\getL (c'.az j) f'=some (some h')/\o c' s' a' h')\/(au fs j=none/\getL (c'.az j) f'=some none):=by
 induction fs generalizing f' with
 |nil=>cases C;exact .inr ⟨rfl,rfl⟩
 |cons e1 fs M=>cases C with
  |cons C U=>
   rename_i J Z cK a' h' f'
   rw[Ng W];show(∃V u,(match Nat.beq J j with|true=>some a'|false=>au fs j)=some V/\_)\/((match Nat.beq J j with|true=>some a'|false=>au fs j)=none/\_)
   generalize Nat.beq J j=Y;induction Y with|true=>exact .inl ⟨a',h',rfl,rfl,C⟩|false=>exact M U
def o.NM(j:o c' f' h' a'):handedIn a':=o.casesOn j rfl rfl rfl rfl (λ_ _ _ _=>rfl) (λ_ _ _ _=>rfl) (λ_ _ _ _ _=>rfl) (λ_ _ _ _ _ _=>rfl) (λ_=>rfl) (λ_ _ _ _=>rfl)
def QY(h:p7 H)(e:H=.Call f [] [] pos):(hP f != ("super":ZV)):=by subst e;have h:(!(true)|| !(Wz (hP f) "super")):=h;rw[oL] at h;exact h
def uT(h:p7 H):attributeBase H aS af whole=whole:=by
 have r:whole=whole:=rfl;induction H using Expr.casesOn with
 |Call f I a X=>induction f using Expr.casesOn with
  |Name id p=>induction I with
   |nil=>induction a with
    |nil=>have z:(id != ("super":ZV)):=QY h rfl;unfold attributeBase;dsimp only;rw[z];rfl
    |cons=>exact r
   |cons=>exact r
  |_=>exact r
 |_=>exact r
def r6(X:cn)(w:aL)(c:Nat)(P:ZD)(a:ZP):Prop:=c<X.i1/\∃d G,w.h.get? a=some (instObj (X.cP c) d)/\ir w.h d G/\dB X w P G
def zJ(v:V)(h:Z):Z0 (Nat×ZD):=match v with
 |.ins c _ P=>some (c,P)
 |.ref p=>match h.get p with
  |some (.ins c P)=>some (c,P)
  |_=>none
 |_=>none
def Nc(e:bM d f a=some L):∃c P,zJ f d=some (c,P)/\au P a=some L:=by
 induction f using V.casesOn with
 |ins c b P=>exact⟨c,P,rfl,e⟩
 |ref p=>
  have e:(match d.get p with|some (.ins _ P)=>au P a|_=>none)=some L:=e
  refine(?_:∃c P,(match d.get p with|some (.ins c P)=>some (c,P)|_=>none)=some (c,P)/\_)
  generalize s:d.get p=N;induction N with
  |none=>rw[s] at e;exact ns e
  |some o=>rw[s] at e;induction o with
   |ins c P=>exact⟨c,P,rfl,e⟩
   |_=>exact ns e
 |_=>exact ns e
def EK(R:bB X f w)(e:zJ h f=some (d,P))(r:o X w h g):∃a,g=.ref a/\r6 X w d P a:=by
 induction h using V.casesOn with
 |ins l b O=>exact bz (p:=λd P=>∃a,g=.ref a/\r6 X w d P a) e (r.mV (p:=λg=>∃a,g=.ref a/\r6 X w l O a) λa d G I _ _ i N j=>⟨a,rfl,I,d,G,i,N,j⟩)
 |ref p=>
  have e:(match f.get p with|some (.ins c P)=>some (c,P)|_=>none)=some (d,P):=e
  generalize s:f.get p=k;induction k with
  |none=>rw[s] at e;exact ns e
  |some H=>
   rw[s] at e;induction H with
   |ins l O=>exact bz (p:=λd P=>∃a,g=.ref a/\r6 X w d P a) e (oO R (q:=λg=>∃a,g=.ref a/\r6 X w l O a) s r λa E S=>S.2.elim λA z=>z.elim λG z=>⟨a,rfl,S.1,_,G,WZ (z.1.symm.trans E)▸z.2.2.1,z.2.2.2.1,z.2.2.2.2.2⟩)
   |_=>exact ns e
 |_=>exact ns e
def DW(C:bJ c k A b w)(j:a<c.X.l3)(e:bM b L a=some g)(p:o c.X w L B):aR c (getAttr B (c.X.az a) i) b w b g:=
 (Nc e).elim λd z=>z.elim λP z=>(EK C.ag.aH z.1 p).elim λx h=>h.1▸h.2.2.elim λy N=>N.elim λG N=>(N.2.2.zc C.ok.az a).elim (λf=>f.elim λs f=>f.elim λm f=>by have K:=C.ok.az.cls d h.2.1;have r:=WZ (f.1.symm.trans z.2)▸f.2.2;exact N.2.1.elim λl T=>aR.toks C.ag λQ E q=>get_value C.lT ⟨N.1,rfl,rfl,T⟩ K.DV (MQ K.dict (K.JG a j) (by rw[lookIn_dict];exact f.2.1)) r.NM (q _ _ r)) λf=>ns (f.1.symm.trans z.2)
def Ic(m:bT n a):bT (n+1) (.aS a b):=λc A V v d k x w e o C=>
 bK e λu P O e=>aA e λr f e=>bz (p:=λv d=>aR c (eval (.Attribute (aJ c.X k a (ax x 0)) (c.X.az b) x.pos) c.af) V w d v) e
  (bP.d' C.ag (m.aO O (ar (ar o)) C.aW) (λS T l g=>DW (C.aF l) (fV (aN o)) f g) λQ E h=>Attribute_any_ h (by
   show(do let o<-attributeBase _ _ c.af (eval _ c.af);_)=_
   rw[uT (aN (ar o))]))
def VC(m:Nat)(f:Nat)(x:V):ct f Z.bj x=ct f ⟨.nil,m⟩ x:=by
 induction f generalizing x with
 |zero=>rfl
 |succ f S=>
  have e:ct f Z.bj=ct f ⟨.nil,m⟩:=funext S;induction x using V.casesOn with
  |ref=>rfl
  |ins c b P=>induction b with
   |true=>show(Y (gi (ct f Z.bj) P) λl=>some (V.ins c false l))=_;rw[e];rfl
   |false=>rfl
  |_=>rfl
def DN(R:bB c.X d w)(e:ct 11 Z.bj x=some y)(r:o c.X w x f):o c.X ⟨w.G.bI λb=>b=w.G.aX p,w.s⟩ y f:=
 have E:cM (w.done ⟨.nil,d.n⟩) ⟨w.G.bI λb=>b=w.G.aX p,w.s⟩:=⟨λa g=>g.elim Or.inl λh=>h.elim λq z=>absurd z.1 m6,λ_ _ q=>q,λ_ _ _ q=>q⟩
 (w3 R.none 11 x y f (VC d.n 11 x▸e) r).ext E
def M5(t:aP c i m)(T:aT c i m h w)(e:sV L h=some (g,f))(p:o c.X w L d):∃B,B.s=w.s/\aT c i m f B/\o c.X B g d:=by
 have u:some (L,h)=some (g,f)->∃B,B.s=w.s/\aT c i m f B/\o c.X B g d:=λe=>bz (p:=λg f=>∃B,B.s=w.s/\aT c i m f B/\o c.X B g d) e ⟨w,rfl,T,p⟩;induction L using V.casesOn with
 |ref q=>
  have e:(match h.get q with
   |some (.ae O 0)=>Y (f3 (ct 11 Z.bj) O) λl=>some (V.ae l,h.ho q)
   |some (.ah k n 0)=>Y (gW (ct 11 Z.bj) n) λl=>some (.ah k l,h.ho q)
   |_=>none)=some (g,f):=e
  generalize s:h.get q=N;induction N with
  |none=>rw[s] at e;exact ns e
  |some H=>
   rw[s] at e;have z:=T.aH.M3 (Ex:=iw c.f) s;have j:∀{X:V},o c.X ⟨w.G.bI λb=>b=w.G.aX q,w.s⟩ X d->∃B,B.s=w.s/\aT c i m (h.ho q) B/\o c.X B X d:=λr=>⟨⟨w.G.bI λb=>b=w.G.aX q,w.s⟩,rfl,⟨z.1,T.step.trans t.aH z.2,T.aM,T.dd⟩,r⟩;induction H with
   |ae O l=>induction l with
    |zero=>exact aA e λl A e=>bz (p:=λg f=>∃B,B.s=w.s/\aT c i m f B/\o c.X B g d) e (j (oO T.aH (q:=λd=>o c.X _ (.ae l) d) s p λa E S=>WZ (S.1.symm.trans E)▸S.2.elim λD S=>.ae (.inr rfl) S.1 S.2.1 (AQ (λ_ _ _=>DN T.aH) A S.2.2)))
    |succ=>exact ns e
   |ah P n l=>induction l with
    |zero=>exact aA e λl A e=>bz (p:=λg f=>∃B,B.s=w.s/\aT c i m f B/\o c.X B g d) e (j (oO T.aH (q:=λd=>o c.X _ (.ah P l) d) s p λa E S=>WZ (S.1.symm.trans E)▸S.2.2.elim λG z=>.ah (.inr rfl) S.2.1 (z.1.up ⟨λ_ x=>Or.inl x,λ_ _ x=>x,λ_ _ _ x=>x⟩ rfl) z.2.1 (GF (λ_ _ _=>DN T.aH) A z.2.2)))
    |succ=>exact ns e
   |ins=>exact ns e
 |_=>exact u e
def Io(m:bT n a):bT (n+1) (.bI a):=λc A V v b k x w e o C=>bK e λu P O e=>λQ E q=>m.aO O o C.aW Q E λS T l g=>(M5 C.ag l e g).elim λB z=>z.1▸q B T z.2.1 z.2.2
end
def tS(l:List α)(i:Nat):a3 l i=l[i]?:=by
 induction l generalizing i with
 |nil=>rfl
 |cons a r S=>induction i with|zero=>rfl|succ i=>exact S i
def LO(l:List α)(i:Nat):q6 l i=l.drop i:=by
 induction l generalizing i with
 |nil=>induction i<;>rfl
 |cons a r S=>induction i with|zero=>rfl|succ i=>exact S i
def UT(l:List α)(i:Nat):mg l i=l.take i:=by
 induction l generalizing i with
 |nil=>induction i<;>rfl
 |cons a r S=>induction i with|zero=>rfl|succ i=>exact W0 (a::·) (S i)
def AR(l b:List α):gm l b=l.reverse++b:=by
 induction l generalizing b with|nil=>rfl|cons a r S=>show gm r (a::b)=_;rw[S,Yn,X4];rfl
def aK.drop(j:Nat)(o:aK c' f' h' a'):aK c' f' (h'.drop j) (a'.drop j):=by
 induction j generalizing h' a' with
 |zero=>exact o
 |succ j C=>induction h' with|nil=>exact o.eh (q:=λa'=>aK c' f' _ (a'.drop (j+1))) .nil|cons=>exact o.dM (q:=λa'=>aK c' f' _ (a'.drop (j+1))) λ_ _ _ u=>C u
def aK.take(j:Nat)(o:aK c' f' h' a'):aK c' f' (h'.take j) (a'.take j):=by
 induction j generalizing h' a' with
 |zero=>exact .nil
 |succ j J=>induction h' with|nil=>exact o.eh (q:=λa'=>aK c' f' _ (a'.take (j+1))) .nil|cons=>exact o.dM (q:=λa'=>aK c' f' _ (a'.take (j+1))) λ_ _ u C=>.cons u (J C)
def aK.reverse(j:aK c' f' h' a'):aK c' f' h'.reverse a'.reverse:=by
 induction h' generalizing a' with|nil=>exact j.eh (q:=λa'=>aK c' f' _ a'.reverse) .nil|cons J h' C=>exact j.dM (q:=λa'=>aK c' f' _ a'.reverse) λ_ _ o u=>by rw[Yn,Yn];exact(C u).append (.cons o .nil)
def xp(h:e5 e):starEach (e::r) af=(false,eval e af)::starEach r af:=by induction e using Expr.casesOn<;>first|rfl|exact bb h
def Mi:∀{s:bD}{b:ZF}{h:Z},h8 e G s=some (b,h)->b.length=G.length:=by
 induction G with|nil=>exactλq=>bz (p:=λb _=>b.length=0) q rfl|cons a r S=>exactλq=>bK q λu P O q=>bK q λd N f q=>bz (p:=λb _=>b.length=_) q (W0 Nat.succ (S f))
section
variable{c:cu}{k n:Nat}{A:ZD}{X S:Z}{w:aL}
def hQ(h:eQ d f (a::r) b):f a (b.headD d)/\eQ d f r b.tail:=by
 induction b with|nil=>exact⟨aN h,ar h⟩|cons=>exact⟨aN h,ar h⟩
def hX:cD d f (a::r) b=f a (b.headD d)::cD d f r b.tail:=by induction b<;>rfl
def y0(m:∀e,bT n e)(G:List E):∀(d:List ZU)(X:Z)(b:ZF)(S:Z)(w:aL),h8 (aD c.X.P c.X.N n).e G ⟨A,X⟩=some (b,S)->eQ ck (bQ c.X k c.af.kindOf) G d->(cD ck (aJ c.X k) G d).all e5->bJ c k A X w->
  bP c (spliced (backTo pos (starEach (cD ck (aJ c.X k) G d) c.af))) X w S λB t=>aK c.X B b t:=by
 induction G with|nil=>exactλd X b S w e _ _ C=>bz (p:=λb S=>bP c _ X w S λB t=>aK c.X B b t) e (bP.toks C.ag λQ E q=>spliced_nil (q _ w.s.toks .nil))|cons a r g=>intro d X b S w e o s C;have s:=Yo▸hX▸s;rw[hX,xp (aN s)];exact bK e λu P O e=>bK e λj N f e=>bz (p:=λb S=>bP c _ X w S λB t=>aK c.X B b t) e λQ E q=>spliced_cons ((m a).aO O (hQ o).1 C _ E λp T l i=>g d.tail P j N p f (hQ o).2 (ar s) (C.aF l) _ E λv t h K=>q v _ (l.trans C.ag h) (.cons (i.ext ((C.ag.aF l).ext h)) K))
def Fb(f:Nat.ble (Wx G) 64)(O:h8 e G s=some (a,h))(p:aK c.X w a eS):eS.length<=b0:=by rw[<-p.length,Mi O,<-dP];exact W5 (nT f) (by decide)
def IB(m:∀e,bT n e):bT (n+1) (.ay G):=λc A X v S k x w e o C=>
 bK e λd P O e=>bz (p:=λv S=>aR c (eval (.Tuple (cD ck (aJ c.X k) G (cR x)) (lS x) x.pos) c.af) X w S v) e
  (bP.d' C.ag (y0 m G _ _ _ _ _ O (ar (ar o)) (aN (ar o)) C.aW) (λa D l g=>Q8 (C.ag.aF l) (Fb (aN o) O g) g) λQ E h=>Tuple_ h)
def Iu(m:∀e,bT n e):bT (n+1) (.ae g G):=λc A X v S k x w e o C=>
 bK e λd P O e=>bz (p:=λv S=>aR c (eval (.List (cD ck (aJ c.X k) G (cR x)) x.pos) c.af) X w S v) e
  (bP.d' C.ag (y0 m G _ _ _ _ _ O (ar (ar o)) (aN (ar o)) C.aW) (λb D l a=>Q5 (C.ag.aF l) (Fb (aN o) O a) a g) λQ E h=>List_ h)
def xu{o i:ZO}{m id:String}{t:ZJ}{Q:ZG}{E:ZG}(R:s.TypeIs o m)
  (f:typeLookup (.type m) "__getitem__"=pure (some (.builtin id)))(c:subscripted slice false o i=operate t (getItem o i))(h:wpAny (model prog b) a (getItem o i) Q E s):wpAny (model prog b) a (subscriptTail value slice o i) Q E s:=by
 unfold subscriptTail;refine W6 ?_;rw[getitemInPython_of_ne R.not_modules];refine W6 (wpAny_specialOf R f ?_);have S:wpAny (model prog b) a (subscripted slice false o i) (λr p=>wpAny (model prog b) a (letTemporaryGo value o r>>=λ_=>pure r) Q E p) E s:=by rw[c];exact wpAny_operating (XR h (λr p G=>W6 (wpAny_letTemporaryGo (Xc G))) λ_ _ x=>x)
 first
  |exact Xc (W6 S)
  |exact W6 (Xc (W6 S))
  |exact W6 S
def Bh(h:tP slice):subscripted slice false H i=operate [H,i] (getItem H i):=by induction slice using Expr.casesOn<;>first|exact(rfl:operate [H,i] (getItem H i)=operate [H,i] (getItem H i))|exact bb h
def Q4{m n k:Nat}(q:m<n)(e:n-(m+1)=k):Int.negSucc m=(k:Int)-n:=by subst e;rw[Int.ofNat_sub q,Int.sub_sub,Zz,<-Int.sub_sub,Int.sub_self,Int.zero_sub];rfl
def Gp(h:wV i n=some k):(i=(k:Int)/\k<n)\/(i<0/\i=(k:Int)-n/\k<n):=by
 induction i with
 |ofNat m=>
  have h:(match Nat.blt m n with|true=>some m|false=>none)=some k:=h
  generalize q:Nat.blt m n=N;induction N with
  |true=>have h:=q▸h;exact .inl (WZ h▸⟨rfl,fV q⟩)
  |false=>have h:=q▸h;exact ns h
 |negSucc m=>
  have h:(match Nat.blt m n with|true=>some (n-(m+1))|false=>none)=some k:=h
  generalize q:Nat.blt m n=N;induction N with|true=>have h:=q▸h;exact .inr ⟨X6 m,Q4 (fV q) (WZ h),WZ h▸YH (W3 (Xj m) (fV q)) (Xk m)⟩|false=>have h:=q▸h;exact ns h
def G0(h:k<n):seqIndex? (k:Int) n=some k:=by unfold seqIndex?;simp [(Zw.mpr (XP k)),(YA.mpr h)]
def Ox(h:wV i n=some k)(X:n<=b0):-(2 ^ 63:Int)<=i/\i<2 ^ 63/\seqIndex? i n=some k:=by
 have f:b0<2 ^ 62:=by decide
 rcases Gp h with⟨rfl,z⟩|⟨a,rfl,z⟩
 .exact⟨by lia,by lia,G0 z⟩
 .refine⟨by lia,by lia,?_⟩
  rw[MeetsSeq.seqIndex_neg a (by lia)]
  congr 1;lia
def o.FW{u:ZO->Prop}(C:lA h'=some a')(j:o s' w h' f')(k:∀c',u (.int (.ofNat a') c')):u f':=by have j:=(pd C)▸j;exact j.dt k
def PQ{D:ZJ}{t:Tok}{u:ZO}{Q:ZG}{E:ZG}(f:w.h.PlainList a D.toArray)(A:D.length<=b0)(b:wV B D.length=some m)(H:D[m]?=some u)(X:tP slice)(y:Q u w.s):aad c (subscriptTail value slice (.ref a) (.int B t)) Q E w.s:=by
 have S:b0<2 ^ 62:=by decide
 refine xu f.isList.typeIs list_getitem_lookup (Bh X) ?_;rcases Gp b with⟨rfl,z⟩|⟨d,rfl,z⟩
 .exact wpAny_getItem_list f.isList (XP m) (by lia) (by rw[Int.toNat_natCast];exact(List.getElem?_toArray ..).trans H) y
 .refine wpAny_getItem_list_neg f.isList d (by rw[Xo];lia) (by lia) ?_ y
  rw[Xo,show((m:Int)-(D.length:Int)+(D.length:Int)).toNat=m by lia]
  exact(List.getElem?_toArray ..).trans H
def Nd(I:aP c X w)(k:tP slice)(H:c.A.units+30<cLine)(e:cZ L i X=some g)(p:o c.X w L l)(q:o c.X w i f):aR c (subscriptTail value slice l f) X w X g:=by
 refine aA e λr F e=>(ky I.aH F p).elim λa h=>h.1▸?_;have h:=h.2;induction r with|D V T=>exact aA e λA s e=>h.2.elim λG d=>(d.2.2.aO e).elim λL z=>λQ E y=>xu d.1.typeIs (slot_dict_getitem.lookup) (Bh k) (Nf I (W3 (Xg (by decide) _) H) d.1 (pQ s q) z.1 Q E λS x n u=>y S x n (u▸z.2.ext (I.ext n)))|L O=>exact aA e λj P e=>aA e λm D e=>h.elim λv h=>(h.2.2.lN (tS O m▸e)).elim λL z=>(hH P▸q).dt (p:=λf=>aR c (subscriptTail value slice (.ref a) f) X w X g) λt=>aR.toks I λQ E y=>PQ h.1 h.2.1 (h.2.2.length▸dP O▸D) z.1 k (y L w.s.toks z.2)|T O=>exact aA e λj P e=>aA e λm D e=>h.elim λv h=>(h.2.2.lN (tS O m▸e)).elim λL z=>(hH P▸q).dt (p:=λf=>aR c (subscriptTail value slice (.ref a) f) X w X g) λt=>aR.toks I λQ E y=>(by have b:=Ox (h.2.2.length▸dP O▸D) h.2.1;exact xu h.1.typeIs PyProof.Rows.slot_tuple_getitem.lookup (Bh k) (getItem_tuple h.1 b.1 b.2.1 (by rw[Xo];exact b.2.2) ((List.getElem?_toArray ..).trans z.1) (y L w.s.toks z.2)))
def IA(m:bT n a)(b:bT n i):bT (n+1) (.sub a i):=λc A X v S k x w e o C=>
 bK e λu P O e=>bK e λR N f e=>aA e λr D e=>bz (p:=λv S=>aR c (eval (.Subscript (aJ c.X k a (ax x 0)) (aJ c.X k i (ax x 1)) x.pos) c.af) X w S v) e
  (bP.el C.ag (m.aO O (aN (ar o)) C.aW) (λd T l g=>b.aO f (ar (ar o)) (C.aW.aF l)) (λd s T I p g h K=>Nd (p.aF h) (aN o) C.units D (g.ext (p.ext h)) K) λQ E=>Subscript_)
def PO{p:ZO->Prop}(R:bB f X w)(e:rr L X=some d)(r:o f w L g)(k:∀a b,w.h.IsList a b.toArray->b.length<=b0->aK f w d b->p (.ref a)):p g:=by
 have F:d5 L X=some d->p g:=λe=>mZ R e r λa b h n q=>k a b h.isList n q;induction L using V.casesOn with|hy E=>exact b6 (p:=λd=>(∀a b,w.h.IsList a b.toArray->b.length<=b0->aK f w d b->p (.ref a))->p g) e (λk=>by cases r with|hy _ h n q=>exact k _ _ h n q) k|_=>exact F e
def A'{G z D:ZO}{j A y:Z0 Int}{f:ZF}{r:ZJ->ZJ}{g:Bool}(I:aP c X w)(e:rr L X=some d)(p:o c.X w L b)(K:IsPart G j)(M:IsPart z A)(O:IsPart D y)(x:y≠some 0)
  (B:∀l:ZJ,slicePick l.toArray j A y=(r l).toArray)(s:∀l:ZJ,(r l).length<=l.length)(J:∀{w:aL}{D:ZJ},aK c.X w d D->aK c.X w f (r D))(C:∀(H i:ZO),∃t,subscripted slice false H i=operate t (getItem H i)):
  aR c (newFields "slice" [G,z,D]>>=λi=>subscriptTail value slice b i) X w (dj g f X).2 (dj g f X).1:=
 PO (p:=λb=>aR c (newFields "slice" [G,z,D]>>=λi=>subscriptTail value slice b i) X w _ _) I.aH e p λa P n h F=>λQ E q=>W6 (Zs (by have T:=aT.all (t:=w.s.toks) I (c3.push w.s.heap {cls:=.type "slice",data:=.fields #[G,z,D]});have S:=n.push {cls:=.type "slice",data:=.fields #[G,z,D]};refine(C (.ref a) (.ref (aah w.s))).elim λt u=>bP.tu (I.aF T) (W5 (s P) h) (J (F.ext (I.ext T))) g (λQ E k=>?_) Q E λR v m N=>q R v (T.trans I m) N;refine xu S.typeIs list_getitem_lookup u ?_;refine wpAny_getItem_list_slice S (Heap.IsSliceOf.new ..) K M O x ?_ (mc h);rw[B];exact k _ w.s.toks _ (.all (I.aF T) (c3.push _ _)) (hp _) (wY _ _)))
def Am{E:ZG}{l u c:ZO}{k:ZO->Sem ZO}(q:wpAny (model prog b) a (newFields "slice" [l,u,c]>>=k) Q E s):
  wpAny (model prog b) a (k (.ref (aah s))) Q E {s with heap:=s.heap.push {cls:=.type "slice",data:=.fields #[l,u,c]}}:=λΓ p d=>by
 have:=q Γ p d;rw[Sem.wp_bind'] at this;exact this
def G7{L A:Z0 ZU}(o i:ZO):∃t,subscripted (.Slice L A none l) false o i=operate t (getItem o i):=⟨_,rfl⟩
def bP.aO{o:α->ZN}{E:ZG}(j:bP c c' hp1 w1 S a')(u:aP c X w)(C:aT c X w hp1 w1)(U:∀w' j,aT c X w S w'->a' w' j->o j w'.s):aad c c' o E w1.s:=j o E λV x J M=>U V x (C.trans u J) M
def Iz{B:Bool}{L g:Z0 E}(m:∀e,bT n e):bT (n+1) (.gn B a L g):=λc A X v S k x w e H C=>by
 refine bK e λu J z e=>?_;induction L with
 |some i=>induction g with
  |some=>exact ns e
  |none=>refine bK e λR N f e=>aA e λO D e=>aA e λj P e=>bz (p:=λv S=>aR c (eval (.Subscript (aJ c.X k a (ax x 0)) (.Slice (some (aJ c.X k i (ax (ax x 1) 0))) none none (ax x 1).pos) x.pos) c.af) X w S v) e λQ E q=>Subscript_ ((m a).aO z (aN H) C.aW _ E λF T b s=>?_);refine wpAny_Slice ((m i).aO f (aN (ar H)) (C.aW.aF b) _ E λG I h K=>?_);have p:=C.ag.aF b;refine(o.FW (u:=λy=>∃t,y=.int (.ofNat j) t) P K λt=>⟨t,rfl⟩).elim λt d=>?_;subst d;refine Xc (Xc (Am ?_));exact bP.aO (A' (p.aF h) D (s.ext (p.ext h)) (.int _ _) .none .none cB (λl=>slicePick_from' _ _) (λl=>by rw[Y3];exact XW ..) (λr=>LO O j▸r.drop j) G7) C.ag (b.trans C.ag h) q
 |none=>induction g with|none=>exact ns e|some i=>refine bK e λR N f e=>aA e λO D e=>aA e λj P e=>bz (p:=λv S=>aR c (eval (.Subscript (aJ c.X k a (ax x 0)) (.Slice none (some (aJ c.X k i (ax (ax x 1) 0))) none (ax x 1).pos) x.pos) c.af) X w S v) e λQ E q=>Subscript_ ((m a).aO z (aN H) C.aW _ E λF T b s=>?_);refine wpAny_Slice (Xc ((m i).aO f (ar H) (C.aW.aF b) _ E λG I h K=>?_));have p:=C.ag.aF b;refine(o.FW (u:=λy=>∃t,y=.int (.ofNat j) t) P K λt=>⟨t,rfl⟩).elim λt d=>?_;subst d;refine Xc (Am ?_);exact bP.aO (A' (p.aF h) D (s.ext (p.ext h)) .none (.int _ _) .none cB (λl=>slicePick_upto' _ _) (λl=>by rw[List.length_take];exact Nat.min_le_right ..) (λr=>UT O j▸r.take j) G7) C.ag (b.trans C.ag h) q
def Iy(m:bT n a):bT (n+1) (.oH g a):=λc A X v S k x w e o C=>by refine bK e λu P O e=>aA e λh D e=>bz (p:=λv S=>aR c (eval (aJ c.X (k+1) (.oH g a) x) c.af) X w S v) e λQ E q=>Subscript_ (m.aO O o C.aW _ E λd T b f=>?_);have p:=C.ag.aF b;refine wpAny_Slice (Xc (Xc (wpAny_UnaryOp (wpAny_Constant_int (neg_int (Am ?_))))));exact bP.aO (w1:=d.a8 _) (A' (f:=gm h []) (r:=λl=>l.reverse) (p.aF (.a8 p _)) D (f.ext (.a8 d _)) .none .none (.int _ _) nofun (λl=>krv_pick _) (λl=>by rw[Zj];exact Xe _) (λr=>by rw[AR,XB];exact r.reverse) λo i=>⟨_,rfl⟩) C.ag (b.trans C.ag (.a8 p _)) q
end
def AI(x:ZU):Bool:=match ju 3 x with
 |true=>(match x with|.UnaryOp .Not _ _=>false|_=>true)
 |false=> !(ju 0 x)&&(!(ju 5 x)&& !(ju 15 x))
def OU(h:AI x):isTrue x af whole=(do let a<-whole;standAt x.pos;holding [a] (PySem.truthy a)):=by
 induction x using Expr.casesOn with
 |UnaryOp F y p=>induction F<;>first|exact bb h|rfl
 |_=>first|exact bb h|rfl
def yk(i:bT f e)(B:∀(X:cn)(a:Nat)(d:ZV->Z0 ZR)(x:ZU),bQ X (a+1) d e x->AI (aJ X (a+1) e x)):Gt f e:=λc A V v g b a x w _ e p o C=>bP.d' C.ag (i c A V v g a x w e o C) (λS T l j=>xE (C.ag.aF l) p j) λQ E h=>wpAny_isTrue_value h (OU (B _ _ _ _ o))
def Jb(m:Gt f a):Gt (f+1) (.c6 .not a):=λc A V v h b k x w _ e p o C=>bK e λu P O e=>aA e λr g e=>aA g λd s g=>bz (p:=λv h=>WA v h=some b->c4 c (isTrue (aJ c.X (k+1) (.c6 .not a) x) c.af (eval (aJ c.X (k+1) (.c6 .not a) x) c.af)) V w h b) e (λp=>by have g:=WZ g;subst g;exact b6 p λQ E q=>wpAny_isTrue_Not (m.aO (aN o) O s (ar o) C.aW _ E λS T l i=>i▸q S _ l rfl)) p
def Iq(m:∀e,bT f e)(N:∀e,Gt f e):bT (f+1) (.ite t a b):=λc A V v i k x w e o C=>
 bK e λu P O e=>aA e λd g e=>λQ E q=>wpAny_IfExp ((N t).aO (aN o) O g (aN (ar (ar (ar o)))) C.aW _ E λS T l h=>by
  subst h;induction T with|true=>exact bP.aO ((m a).aO e (aN (ar (ar (ar (ar o))))) (C.aW.aF l)) C.ag l q|false=>exact bP.aO ((m b).aO e (ar (ar (ar (ar (ar o))))) (C.aW.aF l)) C.ag l q)
def Ja(N:∀e,Gt f e):Gt (f+1) (.ite t a b):=λc A V v i r k x w _ e p o C=>
 bK e λu P O e=>aA e λd g e=>λQ E q=>isTrue_IfExp ((N t).aO (aN o) O g (aN (ar (ar (ar o)))) C.aW _ E λS T l h=>by
  subst h;induction T with|true=>exact bP.aO ((N a).aO (aN (ar o)) e p (aN (ar (ar (ar (ar o))))) (C.aW.aF l)) C.ag l q|false=>exact bP.aO ((N b).aO (aN (ar (ar o))) e p (ar (ar (ar (ar (ar o))))) (C.aW.aF l)) C.ag l q)
def J8(t:∀e,bT m e){and:Bool}(G:List E):∀(i:List ZU)(h:Z)(g:V)(f:Z)(w:aL),pj (aD c.X.P c.X.N m).e and G ⟨A,h⟩=some (g,f)->eQ ck (bQ c.X l c.af.kindOf) G i->bJ c l A h w->
  aR c (eval (.BoolOp (sf and) (cD ck (aJ c.X l) G i) pos) c.af) h w f g:=by
 induction G with
 |nil=>exactλi h g f w e=>ns e
 |cons a r S=>
  intro i h g f w e H C;rw[hX];induction r with
  |nil=>exactλQ E q=>BoolOp_one ((t a).aO e (hQ H).1 C Q E q)
  |cons b r=>
   have e:=e;rw[hX];refine bK e λu P O e=>aA e λd v e=>λQ E q=>?_;have z:=trivial;have y:∀(s:aL),aT c h w P s->pj (aD c.X.P c.X.N m).e and (b::r) ⟨A,P⟩=some (g,f)->aad c (eval (.BoolOp (sf and) (cD ck (aJ c.X l) (b::r) i.tail) pos) c.af) Q E s.s:=λs T e=>bP.aO (S i.tail P g f s e (hQ H).2 (C.aF T)) C.ag T q;rw[hX] at y;induction and with
   |true=>
    refine BoolOp_and ((t a).aO O (hQ H).1 C _ E λx p j n=>xE (C.ag.aF j) v n _ E λs I k K=>?_);subst K;induction I with
    |true=>exact y s (j.trans C.ag k) e
    |false=>exact bz (p:=λg f=>(∀B a,aT c h w f B->o c.X B g a->Q a B.s)->Q p s.s) e (λq=>q s p (j.trans C.ag k) (n.ext ((C.ag.aF j).ext k))) q
   |false=>
    refine BoolOp_or ((t a).aO O (hQ H).1 C _ E λx p j n=>xE (C.ag.aF j) v n _ E λs I k K=>?_);subst K;induction I with|false=>exact y s (j.trans C.ag k) e|true=>exact bz (p:=λg f=>(∀B a,aT c h w f B->o c.X B g a->Q a B.s)->Q p s.s) e (λq=>q s p (j.trans C.ag k) (n.ext ((C.ag.aF j).ext k))) q
def Ih(m:∀e,bT a e){and:Bool}:bT (a+1) (.bool and G):=λc A V v E k x w e o C=>J8 m G _ _ _ _ _ e (ar o) C.aW
def J9(N:∀e,Gt m e){and:Bool}(G:List E):∀(i:List ZU)(h:Z)(g:V)(f:Z)(b:Bool)(w:aL),pj (aD c.X.P c.X.N m).e and G ⟨A,h⟩=some (g,f)->WA g f=some b->G.all il->eQ ck (bQ c.X l c.af.kindOf) G i->bJ c l A h w->
  c4 c (isTrue (.BoolOp (sf and) (cD ck (aJ c.X l) G i) pos) c.af whole) h w f b:=by
 induction G with
 |nil=>exactλi h g f b w e=>ns e
 |cons a r x=>
  intro i h g f b w e p s o C;refine hX▸?_;rw[Yo] at s;induction r with
  |nil=>
   intro Q E q;induction and with
   |true=>
    refine isTrue_and ((N a).aO (aN s) e p (hQ o).1 C _ E λS n j k=>?_);subst k;induction n with
    |true=>exact isTrue_and_nil (q S _ j rfl)
    |false=>exact q S _ j rfl
   |false=>
    refine isTrue_or ((N a).aO (aN s) e p (hQ o).1 C _ E λS n j k=>?_);subst k;induction n with
    |false=>exact isTrue_or_nil (q S _ j rfl)
    |true=>exact q S _ j rfl
  |cons d r=>
   have e:=e;refine bK e λu P O e=>aA e λz t e=>λQ E q=>?_;have y:∀(v:aL),aT c h w P v->pj (aD c.X.P c.X.N m).e and (d::r) ⟨A,P⟩=some (g,f)->aad c (isTrue (.BoolOp (sf and) (cD ck (aJ c.X l) (d::r) i.tail) pos) c.af whole) Q E v.s:=λv T e=>bP.aO (x i.tail P g f b v e p (ar s) (hQ o).2 (C.aF T)) C.ag T q;induction and with
   |true=>
    refine isTrue_and ((N a).aO (aN s) O t (hQ o).1 C _ E λS n j k=>?_);subst k;induction n with
    |true=>exact y S j e
    |false=>exact bz (p:=λg f=>WA g f=some b->(∀B a,aT c h w f B->a=b->Q a B.s)->Q false S.s) e (λp q=>q S false j (WZ (t.symm.trans p))) p q
   |false=>
    refine isTrue_or ((N a).aO (aN s) O t (hQ o).1 C _ E λS n j k=>?_);subst k;induction n with|false=>exact y S j e|true=>exact bz (p:=λg f=>WA g f=some b->(∀B a,aT c h w f B->a=b->Q a B.s)->Q true S.s) e (λp q=>q S true j (WZ (t.symm.trans p))) p q
def I8(N:∀e,Gt a e){and:Bool}:Gt (a+1) (.bool and G):=λc A V v E b k x w _ e p o C=>J9 N G _ _ _ _ _ _ e p (aN o) (ar o) C.aW
def Ik(n:∀e,bT f e):bT (f+1) (.kx g h a b d):=λc T V v m k x w e H C=>by
 refine bK e λu P O e=>bK e λW R A e=>aA e λr D e=>λQ E q=>Compare_chain ((n a).aO O (aN H) C.aW _ E λY x1 l L=>?_) (wB (ar (ar (ar H))));refine chain_link ((n b).aO A (aN (ar H)) (C.aW.aF l) _ E λZ x2 s K=>?_);have i:=(C.ag.aF l).aF s;refine pv i C.units D (L.ext ((C.ag.aF l).ext s)) K _ E λI z j y=>?_;subst y;have p:=l.trans C.ag (s.trans (C.ag.aF l) j);refine YL ?_;induction r with|false=>exact bz (p:=λv m=>(∀B a,aT c V w m B->o c.X B v a->Q a B.s)->Q _ I.s) e (λq=>q I _ p .bool) q|true=>exact bK e λX S F e=>aA e λU J e=>chain_last ((n d).aO F (aN (ar (ar H))) (C.aW.aF p) _ E λa' x4 t M=>pv ((i.aF j).aF t) C.units J ((K.ext (i.ext j)).ext ((i.aF j).ext t)) M Q E λG z N y=>bz (p:=λv m=>(∀B a,aT c V w m B->o c.X B v a->Q a B.s)->Q z G.s) e (λq=>q G _ (p.trans C.ag (t.trans (i.aF j) N)) (y▸.bool)) q)
def I'(n:∀e,bT f e):Gt (f+1) (.kx g h a b d):=λc W V v i y k x w _ e p o C=>by
 refine bK e λu S O e=>bK e λX T D e=>aA e λr F e=>λQ E q=>isTrue_chain ((n a).aO O (aN o) C.aW _ E λZ x1 l M=>?_) (wB (ar (ar (ar o))));refine test_link ((n b).aO D (aN (ar o)) (C.aW.aF l) _ E λa' x2 s K=>?_);have B:=(C.ag.aF l).aF s;refine pv B C.units F (M.ext ((C.ag.aF l).ext s)) K _ E λI z j A=>?_;subst A;have H:=l.trans C.ag (s.trans (C.ag.aF l) j);refine YL ?_;induction r with|false=>exact bz (p:=λv i=>WA v i=some y->(∀m a,aT c V w i m->a=y->Q a m.s)->Q false I.s) e (λp q=>q I _ H (WZ p)) p q|true=>exact bK e λY U J e=>aA e λR L e=>test_last ((n d).aO J (aN (ar (ar o))) (C.aW.aF H) _ E λcK x4 t P=>pv ((B.aF j).aF t) C.units L ((K.ext (B.ext j)).ext ((B.aF j).ext t)) P _ E λG z N A=>A▸YL (bz (p:=λv i=>WA v i=some y->(∀m a,aT c V w i m->a=y->Q a m.s)->Q R G.s) e (λp q=>q G _ (H.trans C.ag (t.trans (B.aF j) N)) (WZ p)) p q))
def Cu(f:List (ZV×ZR)):∀(b:Nat)(c:List (ZV×ZP))(x:ZV)(a:ZP),(x,a)∈cellsFrom b f c->(x,a)∈c\/b<=a:=by
 induction f with
 |nil=>exactλ_ _ _ _ h=>.inl h
 |cons y r S=>
  intro b c x a h;have h:(x,a)∈if(y.2==NameKind.cell)=true then cellsFrom (b+1) r ((y.1,b)::c)else cellsFrom b r c:=h
  by_cases q:(y.2==NameKind.cell)=true
  .rw[if_pos q] at h
   refine(S (b+1) _ x a h).elim (λh=>?_) λh=>.inr (XI h);cases h with
   |head=>exact .inr (Xe _)
   |tail _ h=>exact .inl h
  .rw[if_neg q] at h
   exact S b c x a h
def Ct(f:List (ZV×ZR)):∀(a:Nat)(b:List (ZV×ZP)),b.Pairwise (λp q=>p.2≠q.2)->(∀p∈b,p.2<a)->(cellsFrom a f b).Pairwise λp q=>p.2≠q.2:=by
 induction f with
 |nil=>exactλ_ _ h _=>h
 |cons y r S=>
  intro a b h l;show List.Pairwise _ (if(y.2==NameKind.cell)=true then cellsFrom (a+1) r ((y.1,a)::b)else cellsFrom a r b)
  by_cases q:(y.2==NameKind.cell)=true
  .rw[if_pos q]
   refine S (a+1) _ (.cons (λp V=>XK (l p V)) h) λp V=>?_;cases V with
   |head=>exact Xh _
   |tail _ V=>exact XH (l p V)
  .rw[if_neg q]
   exact S a b h l
def yL{l:List (ZV×ZP)}(h:l.Pairwise λp q=>p.2≠q.2)(P:(x,c)∈l)(N:(y,c)∈l):x=y:=by
 induction l with
 |nil=>cases P
 |cons p r S=>
  rw[Ys] at h;cases P with
  |head=>cases N with
   |head=>rfl
   |tail _ N=>exact(h.1 (y,c) N rfl).elim
  |tail _ P=>cases N with
   |head=>exact(h.1 (x,c) P rfl).elim
   |tail _ N=>exact S h.2 P N
def pn:∀{P:List (ZP×Obj)},CellsAre b l P->(x,a)∈l->∃H,(a,H)∈P/\H.data=.cell (b x):=by
 induction l with
 |nil=>exactλ_ h=>eu h
 |cons p r S=>
  intro P c h;cases c with
  |cons d r=>
   cases h with
   |head=>exact⟨_,.head _,d⟩
   |tail _ h=>exact(S r h).elim λH z=>⟨H,.tail _ z.1,z.2⟩
def hM{α β:Type} [BEq α] [LawfulBEq α]{x:α}{v:β}{l:List (α×β)}(h:l.lookup x=some v):(x,v)∈l:=by
 induction l with
 |nil=>exact ns h
 |cons p r S=>
  rw[Yq] at h;cases q:x==p.1 with
  |true=>rw[q] at h;exact eq_of_beq q▸WZ h▸.head _
  |false=>rw[q] at h;exact .tail _ (S h)
def JX:∀{m:ZV->Z0 ZO},(∀p∈l,p.1≠y)->bindL a l m y=m y:=by
 induction l with
 |nil=>exactλ_=>rfl
 |cons p r S=>
  intro m h;unfold bindL;rw[S λp V=>h p (.tail _ V)]
  split
  .exact if_neg (Ne.symm (h _ (.head _)))
  .rfl
def JW:∀{m:ZV->Z0 ZO},(∀p∈l,p.1≠y)->bindC a l m y=m y:=by
 induction l with
 |nil=>exactλ_=>rfl
 |cons p r S=>
  intro m h;unfold bindC;rw[S λp V=>h p (.tail _ V)]
  split
  .rfl
  .exact if_neg (Ne.symm (h _ (.head _)))
def Cd(k:c x=some .local):∀{m:ZV->Z0 ZO},(x,d)∈l->l.Pairwise (λa b=>a.1≠b.1)->bindL c l m x=some d:=by
 induction l with
 |nil=>exactλh=>eu h
 |cons p r S=>
  intro m h D;rw[Ys] at D;unfold bindL;cases h with
  |head=>rw[JX λp V=>Ne.symm (D.1 p V),if_pos k];exact if_pos rfl
  |tail _ h=>exact S h D.2
def Cc(k:c x=some .cell):∀{m:ZV->Z0 ZO},(x,d)∈l->l.Pairwise (λa b=>a.1≠b.1)->bindC c l m x=some d:=by
 induction l with
 |nil=>exactλh=>eu h
 |cons p r S=>
  intro m h D;rw[Ys] at D;unfold bindC;cases h with
  |head=>rw[JW λp V=>Ne.symm (D.1 p V),k];exact if_pos rfl
  |tail _ h=>exact S h D.2
def jF(c:cu)(w:aL)(A:ZD):fG->Flow->Prop
 |.next,r=>r=.next/\fI c.X w c.af A
 |.ret v,r=>∃g,r=.ret g/\o c.X w v g
def ha(c:cu)(t:Sem Flow)(V:Z)(w:aL)(G:bD)(i:fG):Prop:=
 ∀(Q:Flow->ZN)(E:ZG),(∀B r,cO c V w G.h B->jF c B G.aj i r->Q r B.s)->aad c t Q E w.s
def o2(n:Nat)(b:List S):Prop:=∀(c:cu)(j:bD)(i:fG)(G:bD)(k:Nat)(E:List ZZ)(w:aL),(aD c.X.P c.X.N n).x b j=some (i,G)->l5 c.X k c.af.kindOf b E->bJ c k j.aj j.h w->ha c (execs (kc c.X k b E) c.af) j.h w G i
def uY:∀{c:ZF}{t:ZJ}{q:Nat}{f:V},aK X w c t->au (jQ d c) q=some f->∃g,(X.az q,g)∈(d.map X.az).zip t/\o X w f g:=by
 induction d with
 |nil=>exactλ_ e=>by cases ‹ZF›<;>exact ns e
 |cons p d S=>
  intro c t q f r e;induction c with
  |nil=>exact ns e
  |cons x c=>
   refine r.dM (q:=λt=>∃g,(X.az q,g)∈(X.az p::d.map X.az).zip t/\o X w f g) λu i a b=>?_;have e:(match Nat.beq p q with|true=>some x|false=>au (jQ d c) q)=some f:=e
   generalize h:Nat.beq p q=N;induction N with|true=>rw[h] at e;exact⟨u,W2 h▸.head _,WZ e▸a⟩|false=>rw[h] at e;exact(S b e).elim λg z=>⟨g,.tail _ z.1,z.2⟩
def BJ(W:lq X){O:ZK}:∀(t:ZJ),O.Nodup->((O.map X.az).zip t).Pairwise λa b=>a.1≠b.1:=by
 induction O with
 |nil=>exactλ_ _=>.nil
 |cons p O S=>
  intro t D;rw[XZ] at D;induction t with|nil=>exact .nil|cons v t=>exact .cons (λq I z=>(Xz.mp (YI I).1).elim λa E=>D.1 (W.inj _ _ (E.2.trans z.symm)▸E.1)) (S t D.2)
def d6.EL(j:d6 h' a' (c'+20))(o:f'.bx::f'.hS=af::h'.bx::h'.hS):d6 f' (a'.deeper af) c':=by
 refine⟨?_,j.bC,?_,?_,?_⟩
 .show a'.frames.map _=_
  rw[j.frames,o];rfl
 .show(a'.depth+1)*20+c'<=18000
  rw[Nat.succ_mul,W9,Xa 20];exact j.depth
 .show a'.units+3+8*c'<=9000
  refine W5 ?_ j.units;rw[Nat.mul_add,W9,Xa 3];exact Xg (Xg (by decide) _) _
 .rw[(XQ o).2,Xx,Nat.succ_mul,W9,Xa 20];exact j.rq
def d6.lt(j:d6 c' a' f'):a'.depth<1000:=Nat.lt_of_mul_lt_mul_right (W3 (W5 (Xd _ _) j.depth) (by decide))
def DM(F:Fr f L h m)(r:Fr f L g m)(T:Fr g w P d)(t:∀p∈jh f L h,p.1<w):∀b,w<=b->h.get? b=none:=λb l=>by
 generalize e:h.get? b=N;induction N with
 |none=>rfl
 |some o=>
  refine absurd l (Nat.not_le_of_lt ?_)
  by_cases n:b=L
  .exact n▸r.ns.elim λa x=>x.elim λ_ x=>x.elim λ_ x=>W4 (XA x.1) T.above
  .generalize i:f.get? b=N;induction N with|some a=>exact W4 (XA (r.keep b _ i)) T.above|none=>exact t _ (ji.mpr ⟨e,n,i⟩)
set_option backward.match.sparseCases true in
def Ki{w:ZS}{I:List Env}{L:ZP}{m c' cK:ZV->Z0 ZO}{v:Env}{C:List (ZP×Obj)}{K:Frag}{p:Program}{loose:List ZV}{mean:ExcName->Z0 ZO}
  {R:Result->ZN}{name u:ZV}{params:Arguments}{E:List ZZ}{S:ZY}{W a' Z pm k U fv:ZO}{O od:Z0 ZP}{osl:Array (Z0 ZO)}{f:ZP}{M:Args}{jQ:List (ZV×ZO)}
  (B:Below Q base I G)(F:Fr G L s.heap m)(J:K.In G)(N:News G L s.heap C)(T:Top p loose mean c' cK G)(fi:A.frames=some (v::I))(hf:v.frame=some L)(hke:v.scope.kind=.function)
  (fs:K.lookup f=some ⟨fv,od,.func (fnOf name u params E S W a' Z pm O k U),osl⟩)(hcd:codeIn K k u)(hroom:A.depth<recursionLimit)
  (hbind:BindsTo s (fnOf name u params E S W a' Z pm O k U) M jQ)(hkind:(jQ.all λy=>S.names.lookup y.1==some .local||S.names.lookup y.1==some .cell))
  (hnd:((cellsFrom 0 S.names []).map (·.1)).Nodup)
  (h:∀g a i t P,Fr G L g m->Fr g a i (bindL (envOfC u S a f k).kindOf jQ λ_=>none)->News g a i (P++C)->
   CellsAre (bindC (envOfC u S a f k).kindOf jQ λ_=>none) (cellsFrom (a+1) S.names []) P->Below A base (v::I) g->K.In g->Top p loose mean c' cK g->(∀p∈C,p.1<a)->(∀l d,LeaveK G L m g R l d->R (.ok (.ret l)) d)->
   wpAny (model prog w) (A.deeper (envOfC u S a f k)) (execs E (envOfC u S a f k)) (λH d=>R (.ok (.ret (match H with|.ret l=>l|_=>.none))) d)
    (λe d=>wpAny (model prog w) (A.deeper (envOfC u S a f k)) (leaving (envOfC u S a f k) e) (λ_ r=>R (.error e) r) (λz r=>R (.error z) r) d) {s with heap:=i,toks:=t})
  (hco:S.isCoroutine=false)(hgen:S.isGenerator=false)(fp:S.kind=.function):codeAny (model prog w) A (.call (.ref f) M) R s:=by
 obtain⟨e2,e1,j,lv⟩:=groundX B F N fi hf hke;have X:=J.keeps F.keep;refine codeAny_call_function hroom (X _ _ fs) rfl hco hgen rfl (codeRec_of X hcd) (hbind _ _ _ _ ?_);refine wpAny_newFunctionEnv_cells fp (kindsX hkind _) λenv' he d x=>?_;subst he;refine⟨(T.nolimit.keeps F.keep).keeps x.toInCall.keep,codeAny_func ?_⟩;obtain⟨i,t,rfl,_⟩:=x.done;have hk₁:=x.toInCall.keep;obtain⟨P,D,Y⟩:=Cl.news (Xe _) λn c hm=>⟨x.cell n c (lookup_of_mem_nodup (cellsFrom_names S.names 0 ((aah s)+1) [] [] rfl▸hnd) hm),x.above n c hm⟩;refine h _ (aah s) i t P e2 ⟨x.toInCall.ns,λb o e=>hk₁ b o (of_hideAll _ e),Xu (hideAll_size _ _)⟩ (λp V=>?_) Y e1 (J.keeps j) (T.keeps j) (λp V=>XA (N p V).1) lv;rcases XF.mp V with V|V
 .refine⟨(D p V).1,(D p V).2.1,?_⟩
  generalize q:(hideAll s.heap (C.map (·.1))).get? p.1=f';induction f' with|none=>rfl|some o=>exact cj (of_hideAll _ q) (D p V).2.2
 .exact⟨hk₁ _ _ (N p V).1,Xi (XA (N p V).1),hideAll_none _ (List.mem_map_of_mem V)⟩
set_option backward.match.sparseCases true in
def vj{fs:ZF}{u:ZJ}{dE:aL->ZO->Prop}(R:Result->ZN)(O:g9 c.X){j:qC}(F:xU c.X B r fs j)(K:hZ c.X c.f)(fp:d6 c.f c.A (cN c.X B+20))(I:aP c f w)(hlen:u.length+fs.length=r.length)
  (h':∀T,aK c.X w fs T->∀q d,au l q=some d->∃L,(c.X.az q,L)∈(r.map c.X.az).zip (u++T)/\o c.X w d L)
  (body:∀(P:ed)(t:aL),P.bx=envOfC j.qual j.scope P.L (c.X.di B) j.mE->P.hS=c.f.bx::c.f.hS->bJ ⟨c.X,P,P.bx,c.A.deeper P.bx⟩ (cN c.X B) l f t->aT c f w f t->gw c.f.L w.h t.h->(∀b,hh P b->w.h.get? b=none)->(∀b H,w.h.get? b=some H->b≠c.f.L->c.f.g.get? b=none->P.g.get? b=none)->
   (∀p x d,a3 r p=some x->(u++j.iW)[p]?=some d->fh P.bx t.h (c.X.az x) d)->
   ∀(Q:Flow->ZN)(E:ZG),(∀s i d,(∃m,Fr P.g P.L s.h m)->fm t s->(match i with|.ret d=>d|_=>.none)=d->dE s d->Q i s.s)->(∀i A,R (.ok (.ret (match i with|.ret d=>d|_=>.none))) A->Q i A)->(∀e A,wpAny (aae c) (c.A.deeper P.bx) (leaving P.bx e) (λ_ N=>R (.error e) N) (λX N=>R (.error X) N) A->E e A)->wpAny (aae c) (c.A.deeper P.bx) (execs j.body P.bx) Q E t.s)
  (q:∀s d,(∀m,Fr c.f.g c.f.L w.h m->Fr c.f.g c.f.L s.h m)->fm w s->dE s d->R (.ok (.ret d)) s.s):codeAny (aae c) c.A (.call (.ref (c.X.di B)) ⟨u,[]⟩) R w.s:=by
 refine(I.aM).elim λm D=>?_;have rdf:=F.rl w;have hlen:u.length+j.iW.length=r.length:=by rw[<-rdf.length];exact hlen
 have hkind':(((r.map c.X.az).zip (u++j.iW)).all λy=>j.scope.names.lookup y.1==some .local||j.scope.names.lookup y.1==some .cell):=
  Xb.mpr λy kd=>(Xz.mp (YI kd).1).elim λa z=>z.2▸Xb.mp F.Eh a z.1
 refine Ki (K:=c.X.K) K.B D K.K jj K.T fp.frames K.lW K.kind F.fy F.tb fp.lt (kp_binds (K.K.keeps D.keep) λS=>F.dO S u hlen) hkind' F.En (λg k U c' cells C v W Y hr h2 o' lt lv=>?_) F.tc F.tf F.hq;have hi:gw c.f.L w.h U:=by
  refine⟨λb H n e=>?_,C.ns.elim λH x=>x.elim λ_ x=>x.elim λ_ x=>⟨H,v.keep _ _ x.1⟩⟩;generalize fv:c.f.g.get? b=k0;induction k0 with|some kz=>exact WZ ((D.keep b kz fv).symm.trans e)▸v.keep b _ (C.keep b _ fv)|none=>exact(W _ (XC _ (ji.mpr ⟨e,n,fv⟩))).1
 have fresh:=DM D C v λp f=>lt p f;have owge:∀x a,(x,a)∈cellsFrom (k+1) j.scope.names []->k<a:=λx a cK=>(Cu _ _ _ _ _ cK).elim (λz=>(nomatch z)) id;have T0:aT c f w f (w.ab U c'):=.gU I hi (λkk G=>kU G.ns D.ns▸⟨C.ns.keeps v.keep,λb H e=>v.keep _ _ (C.keep b H e),C.above⟩) ⟨_,_,rfl⟩;have own:∀a,k<=a->cY a f (w.ab U c'):=λa l=>⟨λz=>(I.aH.bI a z).1.elim λ_ e=>cj e (fresh a l),λp Z z=>I.aH.kT (fresh a l) Z z⟩
 let P:ed:=⟨g,k,c.f.bx::c.f.hS,c.f.base,c.A,envOfC j.qual j.scope k (c.X.di B) j.mE,λa=>∃x,(x,a)∈cellsFrom (k+1) j.scope.names []⟩
 have nw:∀b H,w.h.get? b=some H->b≠c.f.L->c.f.g.get? b=none->g.get? b=none:=λb H e n z=>(W _ (XC _ (ji.mpr ⟨e,n,z⟩))).2.2;have h1:aP ⟨c.X,P,envOfC j.qual j.scope k (c.X.di B) j.mE,c.A.deeper (envOfC j.qual j.scope k (c.X.di B) j.mE)⟩ f (w.ab U c'):=by refine⟨⟨_,v⟩,T0.aH,own _ (Xe _),λp Z=>(I.aH.er Z).elim λH e=>nw _ H e (I.own.aX p Z) (I.new p Z),λa z=>z.elim λx cK=>(pn Y cK).elim λH M=>?_⟩;have z:=W _ (XX _ M.1);exact⟨⟨H,z.1⟩,z.2.1,own a (Xw (owge x a cK)),z.2.2⟩
 have hj:=BJ O.az (u++j.iW) F.th;have bnd:∀x d,(x,d)∈(r.map c.X.az).zip (u++j.iW)->fh (envOfC j.qual j.scope k (c.X.di B) j.mE) U x d:=λx d M=>by refine(X0.mp (Xb.mp hkind' _ M)).elim (λq=>.inl ⟨eq_of_beq q,_,v.ns,Cd (eq_of_beq q) M hj⟩) λq=>?_;have q:j.scope.names.lookup x=some .cell:=eq_of_beq q;exact(YB.mp (cellsFrom_some _ _ _ (.inl q):(List.lookup x (cellsFrom (k+1) j.scope.names [])).isSome=true)).elim λJ a'=>(pn Y (hM a')).elim λH z=>.inr ⟨(Xz.mp (YI M).1).elim λa z=>z.2▸O.az.eW a,.inl q,J,a',H,(W _ (XX _ z.1)).1,by rw[z.2,Cc q M hj]⟩
 refine body P (w.ab U c') rfl rfl
  ⟨O,⟨hr,h2,o',rfl,F.hq⟩,fp.EL rfl,⟨F.hq,rfl,rfl,.inl rfl,λx J _ e=>⟨x,hM e⟩,λx y J e1 e2=>yL (Ct j.scope.names (k+1) [] .nil λ_ h=>(nomatch h)) (hM e1) (hM e2),λx J e=>XK (owge x J (hM e)),λx e=>YB.mp (cellsFrom_some _ _ _ (.inl e))⟩,h1,
   ⟨λq d _ e=>(h' j.iW rdf q d e).elim λL z=>⟨L,bnd _ _ z.1,z.2.ext (I.ext T0)⟩,⟨_,v.ns⟩,λx J _ a'=>(pn Y (hM a')).elim λH z=>⟨_,H,(W _ (XX _ z.1)).1,z.2⟩⟩⟩
  T0 hi (λb z=>z.elim (λz=>fresh b (Xu z.symm)) λz=>z.elim λx z=>fresh b (Xw (owge x b z))) nw (λp x d e1 e2=>bnd _ _ ?_) _ _ (λs i d Fr' bc aD p=>?_) (λ_ _ z=>z) λ_ _ z=>z
 .rw[tS] at e1
  refine List.mem_iff_getElem?.mpr ⟨p,?_⟩;rw[List.getElem?_zip_eq_some];exact⟨by rw[List.getElem?_map,e1];rfl,e2⟩
 .exact lv _ _ (Fr'.elim λm'' Fr'=>⟨k,m'',jh g k s.h,Fr',jj,λhF _=>by subst aD;exact q s _ (λkk G=>kU G.ns D.ns▸hF) (.trans ⟨_,_,rfl⟩ bc) p⟩)
set_option backward.match.sparseCases true in
def C9{dE:aL->ZO->Prop}(O:g9 c.X){N:qC}(F:o1 c.X B d N)(v:hZ c.X c.f)(k:d6 c.f c.A (cN c.X B+20))(I:aP c h w)(D:eS.length+d.d7.length=d.ak.length)
  (G:∀A,aK c.X w d.d7 A->∀q a,au l q=some a->∃r,(c.X.az q,r)∈(d.ak.map c.X.az).zip (eS++A)/\o c.X w a r)
  (t:∀(P:ed)(f:Env)(g:List ZZ)(y:ZX)(e:aL),kc c.X (cN c.X B) d.body g=g->l5 c.X (cN c.X B) f.kindOf d.body g->bJ ⟨c.X,P,f,y⟩ (cN c.X B) l h e->aT c h w h e->(∀b,hh P b->w.h.get? b=none)->(∀b H,w.h.get? b=some H->b≠c.f.L->c.f.g.get? b=none->P.g.get? b=none)->
   (∀p x a,a3 d.ak p=some x->eS[p]?=some a->fh f e.h (c.X.az x) a)->
   ∀(Q:Flow->ZN)(E:ZG),(∀s i a,(∃m,Fr P.g P.L s.h m)->fm e s->(match i with|.ret a=>a|_=>.none)=a->dE s a->Q i s.s)->wpAny (aae c) y (execs g f) Q E e.s)
  (R:Result->ZN)(q:∀s a,(∀m,Fr c.f.g c.f.L w.h m->Fr c.f.g c.f.L s.h m)->fm w s->dE s a->R (.ok (.ret a)) s.s):codeAny (aae c) c.A (.call (.ref (c.X.di B)) ⟨eS,[]⟩) R w.s:=
 vj R O F.H v k I D G (λP e u _ C T _ z J b Q E x _ _=>t P P.bx N.body _ e F.EB (by rw[u];exact F.tg) C T z J (λp x a n j=>b p x a n (by rw[List.getElem?_append_left (List.getElem?_eq_some_iff.mp j).1];exact j)) Q E x) q
def nM(n:Nat)(B:Nat):Prop:=∀(c:cu)(k:jE)(D:ZF)(a:Z)(v:V)(E:Z)(w:aL)(t:ZJ),k≠.eg->(aD c.X.P c.X.N n).c k B D a=some (v,E)->g9 c.X->hZ c.X c.f->d6 c.f c.A (cN c.X B+20)->aP c a w->aK c.X w D t->
 fo c (.call (.ref (c.X.di B)) ⟨t,[]⟩) a w E v
section
variable{c:cu}{k n:Nat}{A:ZD}
def fo.call(o:fo c (.call fv ⟨eS,[]⟩) a' f' hp' c'):aR c (call fv eS []) a' f' hp' c':=λU E C=>YX (o _ λM J j u=>C M J j u)
def aL.bare(j:aL):aL:=⟨{j.G with aO:=λ_=>none},j.s⟩
def aL.mT(J j:aL)(C:Z):aL:=aai ⟨{J.G with a0:=λo=>j.G.a0 o\/∃u,cT C u/\j.G.aX u=o},j.s⟩
def ow:¬cT Z.bj p:=m6
def cY.bj(j:¬c'.G.a0 a'):cY a' Z.bj c':=⟨j,λ_ o=>absurd o ow⟩
def aP.bj(C:aP c h' f')(cK:w'.s=f'.s)(na:∀c',w'.G.aO c'=none)(W:∀a',w'.G.a0 a'->f'.G.a0 a'\/∃c',cT h' c'/\f'.G.aX c'=a'):aP c Z.bj w':=by
 have V:w'.h=f'.h:=W0 Shared.heap cK;have Y:∀a',cY a' h' f'->cY a' Z.bj w':=λa' o=>.bj λu=>(W a' u).elim o.a0 λj=>j.elim λc' j=>o.aX c' j.1 j.2;exact⟨V▸C.aM,⟨λc' o M=>ns M,λc' _ J=>absurd J ow,λa' U=>⟨V▸(W a' U).elim (λU=>(C.aH.bI a' U).1) λj=>j.elim λc' j=>j.2▸C.aH.er j.1,λc' J=>absurd J ow⟩,λc' a' M=>ns ((na c').symm.trans M)⟩,Y _ C.own,λc' J=>absurd J ow,
  λa' o=>have u:=C.dz a' o;⟨V▸u.1,u.2.1,Y a' u.2.2.1,u.2.2.2⟩⟩
def aP.bare(j:aP c c' a'):aP c Z.bj a'.bare:=j.bj rfl (λ_=>rfl) λ_=>.inl
def aP.Fh(j:aP c a' c'):aP c Z.bj (c'.done a').bare:=j.bj rfl (λ_=>rfl) λ_=>id
def aT.mT(V:aP c c' a')(M:aT c Z.bj a'.bare hp' w'):aT c c' a' c' (a'.mT w' hp'):=by
 have e1:∀W o,a'.h.get? W=some o->¬iw c.f W->w'.h.get? W=some o:=λW o C cK=>M.step.keep W o C cK λJ fl=>absurd fl.e' ow;have fresh:∀J,cT hp' J->a'.h.get? (w'.G.aX J)=.none:=λJ Y=>(M.step.new J Y).elim (λU=>absurd U.1 ow) id;have fzn:∀u,(a'.mT w' hp').G.a0 u->a'.G.a0 u\/a'.h.get? u=.none:=λu j=>j.elim (λj=>(M.step.jU u j).imp id λj=>j.elim id λj=>j.elim λe2 j=>absurd j.1 ow) λj=>j.elim λe2 j=>.inr (j.2▸fresh e2 j.1);have E:cM a' (a'.mT w' hp'):=⟨λu j=>.inl (M.step.a0 u j),λ_ _ C=>C,λu o j C=>e1 u o C λU=>V.own.a0 (U▸j)⟩;exact⟨⟨λJ o C=>(V.aH.slot J o C).ext E rfl λcK ex=>e1 _ cK ex (V.own.aX J ⟨o,C⟩),V.aH.inj,λu j=>⟨j.elim (λj=>(M.aH.bI u j).1) λj=>j.elim λe2 U=>U.2▸M.aH.er U.1,λJ Y U=>(fzn u j).elim (λj=>(V.aH.bI u j).2 J Y U) λj=>V.aH.kT j Y U⟩,V.aH.gM⟩,
  ⟨E.a0,E.aO,λ_ _ _=>rfl,λW o C cK _=>e1 W o C cK,M.step.er,λJ Y=>.inl ⟨Y,rfl⟩,λJ o fp C fi=>W0 bc (WZ (Eq.trans (Eq.symm fi) C)),Xe _,λu j=>(fzn u j).imp id .inl⟩,M.aM,M.dd⟩
def aT.Nb(C:aP c c' a')(W:aT c Z.bj (a'.done c').bare hp' w'):aT c c' a' c' ⟨a'.G,w'.s⟩:=by
 have Y:∀J o,a'.h.get? J=some o->¬iw c.f J->w'.h.get? J=some o:=λJ o j V=>W.step.keep J o j V λU fi=>absurd fi.e' ow;have E:cM a' ⟨a'.G,w'.s⟩:=⟨λM u=>u,λ_ _ j=>j,λM o u j=>Y M o j λcK=>C.own.a0 (cK▸u)⟩;exact⟨⟨λU o j=>(C.aH.slot U o j).ext E rfl λV ex=>Y _ V ex (C.own.aX U ⟨o,j⟩),C.aH.inj,λM u=>(C.aH.bI M u).imp (λj=>j.elim λo j=>⟨o,Y M o j λcK=>C.own.a0 (cK▸u)⟩) id,C.aH.gM⟩,
  ⟨E.a0,E.aO,λ_ _ _=>rfl,λJ o j V _=>Y J o j V,W.step.er,λU e2=>.inl ⟨e2,rfl⟩,λU o fl j e1=>W0 bc (WZ (Eq.trans (Eq.symm e1) j)),Xe _,λM u=>.inl u⟩,W.aM,W.dd⟩
def uM(H:∀f i,g f->o X w f i->o X w.bare f i)(e:dR g d)(r:aK X w d h):aK X w.bare d h:=by
 induction d generalizing h with
 |nil=>exact r.eh .nil
 |cons x d S=>
  have e:(match g x with|true=>dR g d|false=>false)=true:=e
  generalize q:g x=N;induction N with|true=>have e:=q▸e;exact r.dM λf h a b=>.cons (H _ _ q a) (S e b)|false=>have e:=q▸e;exact bb e
def Jm(H:∀f h,g f->o X w f h->o X w.bare f h)(e:ly g d)(r:b2 X w d i):b2 X w.bare d i:=by
 induction d generalizing i with
 |nil=>cases r;exact .nil
 |cons x d S=>
  have z:g x.2/\ly g d:=by
   have e:(match g x.2 with|true=>ly g d|false=>false)=true:=e
   generalize q:g x.2=N;induction N with|true=>have e:=q▸e;exact⟨rfl,e⟩|false=>have e:=q▸e;exact bb e
  clear e
  cases r with|cons a b=>exact .cons (H _ _ z.1 a) (S z.2 b)
def Jn(H:∀f h,g f->o X w f h->o X w.bare f h)(e:hG g d)(r:dB X w d i):dB X w.bare d i:=by
 induction d generalizing i with
 |nil=>cases r;exact .nil
 |cons x d S=>
  have z:g x.2/\hG g d:=by
   have e:(match g x.2 with|true=>hG g d|false=>false)=true:=e
   generalize q:g x.2=N;induction N with|true=>have e:=q▸e;exact⟨rfl,e⟩|false=>have e:=q▸e;exact bb e
  clear e
  cases r with|cons a b=>exact .cons (H _ _ z.1 a) (S z.2 b)
def o.bare(Z:Nat):∀(a':V)(c':ZO),cg Z a'->o f' h' a' c'->o f' h'.bare a' c':=by
 induction Z with
 |zero=>exactλ_ _ j=>bb j
 |succ Z W=>
  intro a' c' j u;induction a' using V.casesOn with
  |none=>exact u.l4 .none
  |bool=>exact u.kr .bool
  |int=>exact u.dt λ_=>.int
  |str=>exact u.gb λ_=>.str
  |ay=>exact u.gr λY fi C J M U=>.ay C J M (uM W j U)
  |ae=>exact u.ig λY fi C J M U=>.ae C J M (uM W j U)
  |ah k=>exact u.yU λY e1 C J M U cK=>.ah C J (by induction k<;>exact M) U (Jm W j cK)
  |ins=>exact u.mV λY fl e1 C J M U cK e2=>.ins C J M U cK (Jn W j e2)
  |ref=>exact bb j
  |hy=>exact bb j
def o.Tr(j:o c' h' a' f')(u:ql a'):o c' w' a' f':=by
 induction a' using V.casesOn with|none=>exact j.l4 .none|bool=>exact j.kr .bool|int=>exact j.dt λ_=>.int|str=>exact j.gb λ_=>.str|_=>exact bb u
def cM.mT(C u:aL)(o:Z):cM (u.done o).bare (C.mT u o):=⟨λ_ J=>J,λ_ _ j=>ns j,λ_ _ _ j=>j⟩
def fo.Sk(J:aP c f' c')(U:fo c s' Z.bj c'.bare hp₁ h')(W:ct 12 hp₁ h'=some a')(V:cg 60 a'):fo c s' f' c' f' a':=λM cK=>U M λC j u Y=>cK (c'.mT C hp₁) j (u.mT J) ((o.bare 60 a' j V (w3 u.aH 12 h' a' j W Y)).ext (.mT c' C hp₁))
def fo.Ka(j:aP c a' c')(C:fo c h' Z.bj (c'.done a').bare hp₁ f')(J:ql f'):fo c h' a' c' a' f':=λo U=>C o λW V u M=>U ⟨c'.G,W.s⟩ V (u.Nb j) (M.Tr J)
def yf(n B:Nat)(K:cy)(c:cu):Prop:=∀(D:ZF)(a:Z)(l:ZD)(v:V)(E:Z)(w:aL)(t:ZJ),lI K K.ak D=some l->t9 ((aD c.X.P c.X.N n).x K.body ⟨l,a⟩)=some (v,E)->g9 c.X->c.X.P.fM B=some K->hZ c.X c.f->d6 c.f c.A (cN c.X B+20)->aP c a w->aK c.X w D t->
 fo c (.call (.ref (c.X.di B)) ⟨t,[]⟩) a w E v
def BN(n B:Nat)(K:cy):Prop:=∀c,yf n B K c
def II(F:∀a,BN n B a)(m:nM n B):nM (n+1) B:=λc k D V v E w t R e f b H I r=>by
 induction k with
 |eg=>exact absurd rfl R
 |inl=>exact aA e λa d e=>aA e λl A e=>F a c D V l v E w t A e f d b H I r
 |pure=>
  refine bR e λN e=>?_;have e:=e;generalize s:c.X.P.j3 B D=q;induction q with
  |some z=>have e:=s▸e;exact bz (p:=λv E=>fo c _ V w E v) e (f.j3 c.f c.af c.A B D z V w t s b H I r)
  |none=>have e:=s▸e;exact aA e λa d e=>aA e λl A e=>bK e λu P O e=>aA e λx j e=>bR e λi e=>bz (p:=λv E=>fo c _ V w E v) e ((F a c D Z.bj l u P w.bare t A O f d b H I.bare (uM (o.bare 60) N r)).Sk I j i)
 |nV=>
  refine aA e λg G e=>bK e λu P O e=>bR e λp e=>bz (p:=λv E=>fo c _ V w E v) e ?_;have N:dR (cg 60) g:=by
   induction n with|zero=>exact ns O|succ n=>exact bR O λh _=>h
  exact(m c .pure g Z.bj u P (w.done V).bare t nofun O f b H I.Fh (uM (o.bare 60) N (AQ (λx y v e r=>w3 I.aH 12 x y v e r) G r))).Ka I p
def Tc(m:(∃N,o1 c.X B a N))(K:o2 n a.body):yf n B a c:=λZ V l v h w vals e f O cK J H I r=>m.elim λN F=>bR e λL e=>by
 have k:=W2 L;rw[dP,dP,dP,r.length] at k;have e:=WZ e;subst e;refine bK f λi Y f t R W=>?_;refine C9 (dE:=λs g=>bB c.X h s/\cG V w h s (iw c.f)/\o c.X s v g) O F J H I k (λa' X q v D=>uY (r.append X) (hg Z a.d7▸D)) (λP G ys y w1 U M C x A _ _ Q E q=>?_) R λs g j bc p=>W s g ⟨p.1,p.2.1,j,bc⟩ p.2.2;have z:=K ⟨c.X,P,G,y⟩ ⟨_,V⟩ i Y (cN c.X B) ys w1 f M C;rw[U] at z;refine z Q E λs r T d=>?_;have S:=x.step.mi I.aH T.step λb z=>.inr (A b z);induction i with|next=>have t:=Yh (WZ t);rw[d.1];exact q s .next .none T.aM T.dd rfl ⟨t.2▸T.aH,t.2▸S,t.1▸.none⟩|ret u=>have t:=Yh (WZ t);exact d.elim λg z=>z.1▸q s (.ret g) g T.aM T.dd rfl ⟨t.2▸T.aH,t.2▸S,t.1▸z.2⟩
def oE(h:a.all e5):(backTo pos (starEach a af)).any (·.1)=false:=by
 induction a with|nil=>rfl|cons x a S=>have h:=Yo▸h;rw[xp (aN h)];refine(?_:(false||(backTo pos (starEach a af)).any (·.1))=false);rw[S (ar h)];rfl
def yq(m:∀e,bT n e)(e:h8 (aD c.X.P c.X.N n).e G ⟨A,b⟩=some (f,d))(o:eQ ck (bQ c.X k c.af.kindOf) G g)(s:(cD ck (aJ c.X k) G g).all e5)(C:bJ c k A b w):
  bP c (evalArgs L true (backTo pos (starEach (cD ck (aJ c.X k) G g) c.af)) []) b w d λB a=>∃t,a=⟨t,[]⟩/\aK c.X B f t:=by
 induction G with
 |nil=>exact bz (p:=λf d=>bP c _ b w d λB a=>∃t,a=⟨t,[]⟩/\aK c.X B f t) e (bP.toks C.ag λQ E q=>evalArgs_nil3 (q _ w.s.toks ⟨[],rfl,.nil⟩))
 |cons a r=>
  have z:=y0 m (pos:=pos) (a::r) g b f d w e o s C;have s:=Yo▸hX▸s;rw[hX,xp (aN s)] at z⊢
  exactλQ E q=>evalArgs_plain (z _ E λB t T p=>q B _ T ⟨t,rfl,p⟩)
def si(j:∀e,bT n e)(e:h8 (aD c.X.P c.X.N n).e G ⟨A,b⟩=some (m,f))(o:eQ ck (bQ c.X k c.af.kindOf) G h)(s:(cD ck (aJ c.X k) G h).all e5)(C:bJ c k A b w)
  (p:∀(d:List (Bool×Sem ZO))(Q:ZG)(E:ZG),d.any (·.1)=false->aad c (evalArgs L true d []) (λa g=>c.X.K.In g.heap/\aad c (call L (first++a.pos) a.kw) Q E g) E w.s->aad c (callWith pos L first d []) Q E w.s)
  (F:∀B t,aT c b w f B->aK c.X B m t->aR c (call L (first++t) []) f B i l):aR c (callWith pos L first (backTo pos (starEach (cD ck (aJ c.X k) G h) c.af)) []) b w i l:=λQ E q=>
 p _ Q E (oE s) (yq j e o s C _ E λS a T z=>z.elim λt z=>z.1▸⟨(C.aF T).lT,bP.aO (F S t T z.2) C.ag T q⟩)
def t'(R:keepIn c.X.K L)(d:List (Bool×Sem ZO))(Q:ZG)(E:ZG)(e:d.any (·.1)=false)
  (h:wpAny (aae c) b (evalArgs L true d []) (λa g=>c.X.K.In g.heap/\wpAny (aae c) b (call L (first++a.pos) a.kw) Q E g) E s):wpAny (aae c) b (callWith pos L first d []) Q E s:=
 callWith_of (by rw[e];rfl) (keeps_K R) h
def AY{id:String}(d:List (Bool×Sem ZO))(Q:ZG)(E:ZG)(e:d.any (·.1)=false)
  (h:wpAny (aae c) b (evalArgs (.builtin id) true d []) (λa g=>c.X.K.In g.heap/\wpAny (aae c) b (call (.builtin id) (first++a.pos) a.kw) Q E g) E s):wpAny (aae c) b (callWith pos (.builtin id) first d []) Q E s:=
 callWith_builtin e (XR h (λ_ _ x=>x.2) λ_ _ x=>x)
def ua{id:String}(d:List (Bool×Sem ZO))(Q:ZG)(E:ZG)(e:d.any (·.1)=false)
  (h:wpAny (aae c) b (evalArgs (.type id) true d []) (λa g=>c.X.K.In g.heap/\wpAny (aae c) b (call (.type id) (first++a.pos) a.kw) Q E g) E s):wpAny (aae c) b (callWith pos (.type id) first d []) Q E s:=
 PySem.callWith_type e (XR h (λ_ _ x=>x.2) λ_ _ x=>x)
def Kd{P:qG}{N:km}{B:Nat}(n:Nat):∀(k:jE)(b:ZF)(d:Z)(r:V×Z),k≠.eg->(aD P N n).c k B b d=some r->(∃a,P.fM B=some a)\/∃b r,P.j3 B b=some r:=by
 induction n with
 |zero=>exactλ_ _ _ _ _ e=>ns e
 |succ n S=>
  intro k b d r R e;induction k with
  |eg=>exact absurd rfl R
  |inl=>exact aA e λa c _=>.inl ⟨a,c⟩
  |pure=>
   refine bR e λ_ e=>?_;generalize s:P.j3 B b=g;induction g with
   |some r=>exact .inr ⟨_,_,s⟩
   |none=>have e:=s▸e;exact aA e λa c _=>.inl ⟨a,c⟩
  |nV=>exact aA e λI G e=>aA e λq f e=>S .pure _ _ _ nofun f
def Ii(m:∀e,bT n e)(y:nM n B):bT (n+1) (.call d B G):=λc A V v b k x w e o C=>bK e λD P O e=>by
 have R:d≠.eg:=λz=>by have o:=z▸o;exact bb o
 have o:=ar o;have I:=ar o;have r:=ar (ar I);have a:=ar r;exact bP.d' C.ag (vJ C (n9 (aN (ar I))) (ET (aN r)) (rH (aN I))) (λS L l g=>g▸si m O (ar (ar a)) (aN (ar a)) (C.aW.aF l|>λz=>z) (t' (C.ok.keep B (Kd _ _ _ _ _ R e))) λs t h p=>fo.call (y c d D P v b s t R e C.ok C.aM ((C.dK.jw (XT (nT (aN o))))) ((C.ag.aF l).aF h) p)) λQ E=>YC
end
def BX{g h:ZQ}(e:(if a=L then none else match g.get? a with|some _=>none|none=>(h.get? a).map λH=>(a,H))=some p):p.1=a:=by
 by_cases n:a=L
 .have e:=(if_pos n)▸e;exact ns e
 .have e:=(if_neg n)▸e
  generalize q:g.get? a=N;induction N with|some H=>have e:=q▸e;exact ns e|none=>have e:=q▸e;exact(YZ.mp e).elim λH z=>z.2▸rfl
def Jo(g h:ZQ)(L:ZP):(jh g L h).Pairwise λp q=>p.1≠q.1:=
 List.Pairwise.filterMap _ (λa b n p V q I=>by rw[BX V,BX I];exact n) List.nodup_range
def Jp(e:h.get? a=some H)(n:a≠L)(i:g.get? a=none):∃l y,jh g L h=l++(a,H)::y/\(∀p∈l,p.1≠a)/\∀p∈y,p.1≠a:=
 (List.append_of_mem (ji.mpr ⟨e,n,i⟩)).elim λl z=>z.elim λy b=>by have c:=Jo g h L;rw[b,List.pairwise_append,Ys] at c;exact⟨l,y,b,λp V=>c.2.2 p V _ (.head _),λp V=>Ne.symm (c.2.1.1 p V)⟩
def AJ(G:List DictEntry):(PySem.W.putL name i key a G).length<=G.length+1:=by
 induction G with
 |nil=>exact Xe _
 |cons e r S=>
  unfold PySem.W.putL
  split
  .exact Xt _
  .rw[Xx,Xx];exact Xp S
def dB.a5(W:lq a')(C:o a' h' s' w')(u:dB a' h' fs f'):dB a' h' (Wy fs c' s') (PySem.W.putL (a'.az c') F' (.str (a'.az c') t) w' f'):=by
 induction fs generalizing f' with
 |nil=>cases u;exact .cons C .nil
 |cons e2 fs M=>cases u with
  |cons U J=>
   rename_i j hs' V Y e1 f'
   refine(?_:dB a' h' (match Nat.beq j c' with|true=>(j,s')::fs|false=>(j,Y)::Wy fs c' s') (if(Value.str (a'.az j) V).isStr (a'.az c')=true then _ else _))
   rw[EU W];generalize cK:Nat.beq j c'=Z;induction Z with|true=>rw[if_pos rfl];exact .cons C J|false=>rw[if_neg bb];exact .cons U (M J)
def dB.length(j:dB c' f' fs a'):fs.length=a'.length:=by
 induction fs generalizing a' with|nil=>cases j;rfl|cons J fs o=>cases j with|cons C u=>exact W0 Nat.succ (o u)
def dB.DK(W:lq a')(u:dB a' f' fs c')(o:Nat):(getL (a'.az o) c').isSome:=(u.zc W o).elim (λj=>j.elim λJ j=>j.elim λC j=>by rw[j.2.1];rfl) λj=>by rw[j.2];rfl
def DA(h:n5 l):l.length<800:=dP l▸fV h
section
variable{c:cu}{k n:Nat}{A:ZD}{X T:Z}{w w':aL}{d a:Nat}
def G1{E:ZG}(O:g9 c.X)(n:c.X.K.In w.h)(F:Fr c.f.g c.f.L w.h m)(R:d<c.X.i1)(r:a<c.X.l3)
  (B:w.h.get? x=some (instObj (c.X.cP d) f))(T:ir w.h f G)(A:f≠c.f.L)(L:c.f.g.get? f=none)(p:(getL (c.X.az a) G).isSome)(o:G.length<=900)
  (q:∀g s,Fr c.f.g c.f.L g m->(∀b H,b≠f->b≠c.f.L->w.h.get? b=some H->g.get? b=some H)->(∃i t,ir g f (PySem.W.putL (c.X.az a) i (.str (c.X.az a) t) h G))->Q () (w.ab g s).s):aad c (setAttr (.ref x) (c.X.az a) h) Q E w.s:=
 T.elim λP T=>(Jp T A L).elim λK z=>z.elim λJ z=>by
  have C:=O.az.cls d R;have I:InstAt w.h x (instObj (c.X.cP d) f) (c.X.cP d) (some (dictOf G P)):=⟨B,rfl,rfl,T⟩;refine set_plain n I C.Tp (osa_dict F (z.1▸jj) n I rfl C.RX (C.US a r) C.dict (by rw[lookIn_dict];exact p) z.2.1 z.2.2 (putName_dict ..) rfl (W5 (AJ G) (W5 (Xp o) (by decide))) λg l j=>?_)
  refine q g _ l (λb H u v e=>?_) ⟨_,_,_,(j _ (XC _ (.head _))).1⟩;generalize k:c.f.g.get? b=N;induction N with
  |some y=>exact WZ ((F.keep b y k).symm.trans e)▸l.keep b _ k
  |none=>
   refine(XF.mp (z.1▸ji.mpr ⟨e,v,k⟩)).elim (λD=>(j _ (XX _ D)).1) λD=>?_;cases D with
   |head=>exact absurd rfl u
   |tail _ D=>exact(j _ (XC _ (.tail _ D))).1
def ir.has(o:ir c' a' h'):∃f',c'.get? a'=some f':=o.elim λk j=>⟨_,j⟩
def Ba(e:WG b X=some (p,H)):b=.ref p/\X.get p=some H/\bc H=0:=aA e λq I e=>aA e λr s e=>by
 induction r with
 |ae O l=>induction l with
  |zero=>exact bz (p:=λp H=>b=.ref p/\X.get p=some H/\bc H=0) e ⟨uP I,s,rfl⟩
  |succ=>exact ns e
 |ah P T l=>induction l with
  |zero=>exact bz (p:=λp H=>b=.ref p/\X.get p=some H/\bc H=0) e ⟨uP I,s,rfl⟩
  |succ=>exact ns e
 |ins=>exact bz (p:=λp H=>b=.ref p/\X.get p=some H/\bc H=0) e ⟨uP I,s,rfl⟩
def Tx(C:bJ c k A X w)(J:a<c.X.l3)(e:rR L a y X=some T)(p:o c.X w L f)(q:o c.X w y h):bP c (setAttr f (c.X.az a) h) X w T λ_ _=>True:=
 bK e λb H i e=>by
  have i:=Ba i;induction H with
  |ins d P=>
   have p:=i.1▸p;have I:=C.ag;exact bR e λr e=>b6 (p:=λT=>bP c (setAttr f (c.X.az a) h) X w T λ_ _=>True) e (oO I.aH (q:=λf=>bP c (setAttr f (c.X.az a) h) X w _ λ_ _=>True) i.2.1 p λz u S=>S.2.elim λU N=>N.elim λn N=>by
    have N:=((WZ (N.1.symm.trans u)))▸N;have K:cT X b:=⟨_,i.2.1⟩
    refineλQ E v=>I.aM.elim λm F=>G1 C.ok C.lT F S.1 J N.2.2.1 N.2.2.2.1 (I.own.aX b K) (I.new b K) (N.2.2.2.2.2.DK C.ok.az a) N.2.2.2.2.1 λj s g l D=>D.elim λM D=>D.elim λt D=>?_
    have R:=I.aH.update (s':=(w.ab j s).s) (w':=.ins d (Wy P a y)) I.own i.2.1 rfl rfl l (g.ns.elim λH x=>x.elim λ_ x=>x.elim λ_ x=>⟨H,x.1⟩) λB=>⟨S.1,z,_,N.1,N.2.1,l _ _ (Ne.symm ((I.aH.bI z N.2.1).2 b K)) (λq=>I.own.a0 (q▸N.2.1)) N.2.2.1,D,W5 (AJ n) (by have:=DA r;have this:=N.2.2.2.2.2.length▸this;exact W5 this (by decide)),(N.2.2.2.2.2.a5 C.ok.az q).ext B⟩
    exact v (w.ab j s) () ⟨R.1,R.2,λO G=>kU G.ns F.ns▸g,⟨_,_,rfl⟩⟩ trivial)
  |_=>exact ns e
def Cg{Q:ZG}{E:ZG}(O:jb c.f c.af)(b:fh c.af w.h s e)(T:l6 s)(q:Q e w.s):aad c (eval (.Name s pos) c.af) Q E w.s:=
 wpAny_Name (b.elim (λb=>b.2.elim λm g=>Za O.kind b.1 g.1 g.2 q) λb=>b.2.2.elim λa g=>b.2.1.elim (λk=>Zh O.kind k g.1 g.2 q) λk=>Zi O.kind k g.1 g.2 q (wI T)) (rH T)
def ed.more(j:ed)(F:ZP->Prop):ed:={j with dz:=λa=>j.dz a\/F a}
noncomputable def cu.more(c:cu)(F:ZP->Prop):cu:={c with f:=c.f.more F}
def bJ.more(C:bJ c k A X w)(M:∀a,F a->(∃a',w.h.get? a=some a')/\a≠c.f.L/\cY a X w/\c.f.g.get? a=none):bJ (c.more F) k A X w:=
 ⟨C.ok,⟨C.aM.B,C.aM.K,C.aM.T,C.aM.lW,C.aM.kind⟩,⟨C.dK.frames,C.dK.bC,C.dK.depth,C.dK.units,C.dK.rq⟩,⟨C.bU.kind,C.bU.ia,C.bU.blt,C.bU.F.imp id .inl,λJ j u o=>.inl (C.bU.cell J j u o),C.bU.inj,C.bU.apart,C.bU.has⟩,
  ⟨C.ag.aM,C.ag.aH,C.ag.own,C.ag.new,λa j=>j.elim (C.ag.dz a) (M a)⟩,C.dc⟩
def cO.own(J:aP c X w)(o:c.f.dz c')(cK:∀a' o,a'≠c'->a'≠c.f.L->w.h.get? a'=some o->h'.get? a'=some o)(hd:∃o,h'.get? c'=some o)(Y:Fr c.f.g c.f.L h' f'):cO c X w X (w.ab h' s'):=by
 have W:∀a' o,¬hh c.f a'->w.h.get? a'=some o->h'.get? a'=some o:=λa' U nb C=>cK a' U (λj=>nb (.inr (j▸o))) (λj=>nb (.inl j)) C;have Z:∀a' o,w.h.get? a'=some o->∃U,h'.get? a'=some U:=λa' o C=>by
  by_cases j:a'=c'
  .exact j▸hd
  .by_cases e1:a'=c.f.L
   .exact e1▸Y.ns.elim λo u=>u.elim λ_ u=>u.elim λ_ u=>⟨o,u.1⟩
   .exact⟨o,cK a' o j e1 C⟩
 have own:∀a',hh c.f a'->cY a' X w:=λa' j=>j.elim (λj=>j▸J.own) λj=>(J.dz a' j).2.2.1;have E:cM w (w.ab h' s'):=⟨λ_ u=>u,λ_ _ u=>u,λa o M C=>W a o (λj=>(own a j).a0 M) C⟩;exact⟨⟨λV o C=>(J.aH.slot V o C).ext E rfl λu ex=>W _ u (λj=>(own _ j).aX V ⟨o,C⟩ rfl) ex,J.aH.inj,λa M=>(J.aH.bI a M).imp (λC=>C.elim (Z a)) id,J.aH.gM⟩,
  ⟨λ_ u=>u,λ_ _ u=>u,λ_ _ _=>rfl,λa' o C j _=>W a' o j C,Z,λV fi=>.inl ⟨fi,rfl⟩,λV o U C e2=>W0 bc (WZ (Eq.trans (Eq.symm e2) C)),Xe _,λa M=>.inl M⟩,⟨f',Y⟩,⟨_,_,rfl⟩⟩
def fh.set{C J:ZQ}{o:ed}(j:fh af C f' O')(W:Fr o.g o.L C x')(Y:Fr o.g o.L J x')(M:∀j a',j≠s'->j≠o.L->C.get? j=some a'->J.get? j=some a')(s1:af.locals≠s')(s2:∀c' c,c'≠eW->af.cells.lookup c'=some c->c≠s')(Z:∀c' c,c'≠eW->af.cells.lookup c'=some c->c≠o.L):fh af J f' O':=
 j.imp (λj=>j.imp id λj=>j.elim λe1 j=>by
  by_cases U:af.locals=o.L
  .rw[U] at j⊢
   exact⟨x',Y.ns,kU j.1 W.ns▸j.2⟩
  .exact⟨e1,j.1.at' λa' cK=>M _ a' s1 U cK,j.2⟩) λj=>⟨j.1,j.2.1,j.2.2.elim λa u=>⟨a,u.1,u.2.elim λa' V=>⟨a',M a a' (s2 f' a j.1 u.1) (Z f' a j.1 u.1) V.1,V.2⟩⟩⟩
def fI.set{o:ed}(V:fI x' w af A)(E:cM w w')(e1:Fr o.g o.L w.h s')(W:Fr o.g o.L w'.h s')(J:∀f' c',f'≠h'->f'≠o.L->w.h.get? f'=some c'->w'.h.get? f'=some c')(Z:af.locals≠h')(s2:∀a' c,a'≠eW->af.cells.lookup a'=some c->c≠h')(Y:∀a' c,a'≠eW->af.cells.lookup a'=some c->c≠o.L):fI x' w' af A:=
 ⟨λC U e2 j=>(V.get C U e2 j).elim λfl u=>⟨fl,u.1.set e1 W J Z s2 Y,u.2.ext E⟩,by
  by_cases C:af.locals=o.L
  .rw[C];exact⟨s',W.ns⟩
  .exact V.ns.elim λfi u=>⟨fi,u.at' λc' j=>J _ c' Z C j⟩,λa' a M j=>(V.cell a' a M j).elim λU u=>u.elim λc' cK=>⟨U,c',J a c' (s2 a' a M j) (Y a' a M j) cK.1,cK.2⟩⟩
def xv:swapsWith b (some (.Attribute H s p)) l af=pure false:=by induction b using Expr.casesOn<;>exact(rfl:pure false=(pure false:Sem Bool))
def Sy(fi:∀e,bT n e)(ld:d<c.X.i1)(cK:c.f.dz x)(U:c.f.dz f)(f':x≠f)(s1:c.af.locals≠f)(s2:∀x l,x≠eW->c.af.cells.lookup x=some l->l≠f)(b:List S):∀(g:List ZZ)(P h:ZD)(X T:Z)(G:List DictEntry)(w:aL),
  l9 (aD c.X.P c.X.N n).e self b ⟨A,X⟩ P=some (h,T)->l5 c.X k c.af.kindOf b g->bJ c k A X w->fh c.af w.h (c.X.az self) (.ref x)->w.h.get? x=some (instObj (c.X.cP d) f)->ir w.h f G->dB c.X w P G->G.length<=801->
  ∀(Q:Flow->ZN)(E:ZG),(∀w' s,cO c X w T w'->w'.h.get? x=some (instObj (c.X.cP d) f)->ir w'.h f s->dB c.X w' h s->Q .next w'.s)->aad c (execs (kc c.X k b g) c.af) Q E w.s:=by
 induction b with
 |nil=>exactλg P h X T G w e _ C N R O B a' Q E q=>Yl (by have e:=Yh (WZ e);exact q w G (e.2▸(aT.refl C.ag.aH).b7 C.ag) R O (e.1▸B))
 |cons e2 r fp=>
  intro g P h X T G w e o C N R O B a' Q E q;obtain⟨p,a,v,rfl⟩:∃p a v,e2=.bY (.aS (.F p) a) v:=by
   induction e2 using S.casesOn with
   |bY t v=>induction t with
    |aS hi a=>cases hi with
     |F p=>exact⟨p,a,v,rfl⟩
     |_=>exact ns e
    |_=>exact ns e
   |_=>exact ns e
  have e:(match Nat.beq p self with
   |true=>Y ((aD c.X.P c.X.N n).e v ⟨A,X⟩) λu=>bS (n5 P) (l9 (aD c.X.P c.X.N n).e self r ⟨A,u.2⟩ (Wy P a u.1))
   |false=>none)=some (h,T):=e
  generalize j:Nat.beq p self=kd;induction kd with
  |false=>have e:=j▸e;exact ns e
  |true=>
   have e:=j▸e;have j:=W2 j;subst j;have K:=(hQ o).1;refine(?_:wpAny _ _ (execs (cD iI (ke c.X k) _ g) c.af) Q E w.s);rw[hX];generalize g.headD iI=y at K;refine bK e λu M e1 e=>bR e λhf e=>?_;induction k with
   |zero=>exact bb K
   |succ k=>induction k with
    |zero=>exact(λz:bQ c.X 0 c.af.kindOf v (bZ y 0)=true=>bb z) (aN (b:=AF c.X 0 c.af.kindOf v (aJ c.X 0 v (bZ y 0)) (.aS (.F p) a) (bZ y 1)) K)
    |succ k=>
     refine XM (plainObj_wpAny_Assign_Attribute ?_ ?_)
     .refine(fi v).aO e1 (aN K) C.aW _ E λW kz i hj=>?_
      have L:=C.aF i;refine Cg C.bU (N.aF C.bU C.ag i) (aN (ar (ar K))) ?_;have hx1:=C.ag.xq i x _ cK R;have hr1:=B.ext (C.ag.ext i);have od1:=L.ag.dz f U;refine L.ag.aM.elim λm F=>G1 C.ok L.lT F ld (fV (aN (ar K))) hx1 (O.at λo e=>C.ag.xq i f o U e) od1.2.1 od1.2.2.2 (hr1.DK C.ok.az a) (W5 a' (by decide)) λh2 tk2 H D J=>J.elim λhs2 J=>J.elim λkk fd2=>?_
      have I:cO c M W M (W.ab h2 tk2):=.own L.ag U D fd2.has H;have X2:=L.ag.q' I;have cl:∀x a,x≠eW->c.af.cells.lookup x=some a->a≠c.f.L:=λx a fv e=>(C.ag.dz a (C.bU.cell x a fv e)).2.1;refine fp g.tail _ h M T _ (W.ab h2 tk2) e (hQ o).2 ⟨C.ok,C.aM,C.dK,C.bU,L.ag.b7 I,L.dc.set X2 F H D s1 s2 cl⟩ ((N.aF C.bU C.ag i).set F H D s1 s2 cl) (D x _ f' (C.ag.dz x cK).2.1 hx1) fd2 ((hr1.a5 C.ok.az hj).ext X2) (W5 (AJ G) (by rw[<-B.length];exact W5 (DA hf) (by decide))) Q E λh' es3 fl hx3 fd3 hF=>q h' es3 ((i.b7 C.ag).trans C.ag (I.trans L.ag fl)) hx3 fd3 hF
     .exact xv
end
def wx(X:cn)(k:ja):Nat:=match k.init with
 |some i=>cN X i+40
 |none=>0
def xW(n:Nat)(d:Nat):Prop:=∀(c:cu)(D:ZF)(a:Z)(v:V)(E:Z)(w:aL)(t:ZJ)(K:Nat),(aD c.X.P c.X.N n).c .eg d D a=some (v,E)->g9 c.X->hZ c.X c.f->(∀k,c.X.P.cls d=some k->wx c.X k<=K)->d6 c.f c.A K->aP c a w->aK c.X w D t->
 fo c (.call (.ref (c.X.cP d)) ⟨t,[]⟩) a w E v
def d6.eg(j:d6 f' a' (c'+20)):d6 f' (a'.under (.builtin "type.__call__" ⟨.ref h'::eS,kw⟩)) c':=by
 refine⟨j.frames,j.bC,?_,?_,W5 (Xg (Xd _ _) _) j.rq⟩
 .show(a'.depth+1)*20+c'<=18000
  rw[Nat.succ_mul,W9,Xa 20];exact j.depth
 .show a'.units+1+8*c'<=9000
  refine W5 ?_ j.units;rw[Nat.mul_add,W9,Xa 1];exact Xg (Xg (by decide) _) _
structure mq(c:cu)(e:Z)(w:aL)(d:Nat)(x a:ZP)(b:ZQ):Prop where
 new:iv c w b
 sX:w.h.get? x=none
 sR:w.h.get? a=none
 og:b.get? x=some (instObj (c.X.cP d) a)
 bC:b.get? a=some emptyDict
 Ge:x≠a
 H9:x≠c.f.L
 CX:a≠c.f.L
 NG:c.f.g.get? x=none
 bR:c.f.g.get? a=none
def mq.jx(e2:aP a' s' c')(U:Fr a'.f.g a'.f.L c'.h W')(V:Fr a'.f.g a'.f.L h' W')(C:News a'.f.g a'.f.L h' ((x',instObj (a'.X.cP O') f')::(f',emptyDict)::jh a'.f.g a'.f.L c'.h))(lt:∀w'∈jh a'.f.g a'.f.L c'.h,w'.1<f')(M:f'<x'):mq a' s' c' O' x' f' h':=by
 have j:=C _ (.head _);have u:=C _ (.tail _ (.head _));have J:∀j,a'.f.g.get? j=none->j≠a'.f.L->f'<=j->c'.h.get? j=none:=λj Y cK Z=>by
  generalize W:c'.h.get? j=e1;induction e1 with|none=>rfl|some o=>exact absurd Z (Nat.not_le_of_lt (lt _ (ji.mpr ⟨W,cK,Y⟩)))
 exact⟨.jx U V C λw' s'=>.tail _ (.tail _ s'),J _ j.2.2 j.2.1 (Xw M),J _ u.2.2 u.2.1 (Xe _),j.1,u.1,XK M,j.2.1,u.2.1,j.2.2,u.2.2⟩
def mq.own(o:aP x' a' c')(u:mq x' a' c' F' s' f' h')(J:w'.G=c'.G):cY s' a' w'/\cY f' a' w':=
 have M:∀j,c'.h.get? j=none->cY j a' w':=λj C=>⟨λV=>(o.aH.bI j (J▸V)).1.elim λ_ U=>cj U C,λZ W Y=>o.aH.kT C W (J▸Y)⟩
 ⟨M s' u.sX,M f' u.sR⟩
def mq.aF(o:aP f' a' c')(j:mq f' a' c' s' F' w' h'):aT f' a' c' a' (c'.ab h' x'):=.gU o j.new.gU j.new.aM ⟨_,_,rfl⟩
def aT.BS(o:aT x' F' h' hp' w')(C:∀a',s' a'->h'.h.get? a'=none/\(∃f',w'.h.get? a'=some f')/\∀c',cT hp' c'->w'.G.aX c'≠a'):aT x' F' h' hp' ⟨w'.G.bI s',w'.s⟩:=
 ⟨⟨λc' f' J=>(o.aH.slot c' f' J).ext ⟨λ_ j=>.inl j,λ_ _ j=>j,λ_ _ _ j=>j⟩ rfl λ_ j=>j,o.aH.inj,λa' u=>u.elim (o.aH.bI a') λu=>(C a' u).2,o.aH.gM⟩,
  {o.step with a0:=λa' j=>.inl (o.step.a0 a' j),jU:=λa' j=>j.elim (o.step.jU a') λj=>.inr (.inl (C a' j).1),aO:=o.step.aO,aX:=o.step.aX,new:=o.step.new},o.aM,o.dd⟩
def Qp(I:aP c a w)(O:g9 c.X)(f:c.X.K.In w.h)(t:d<c.X.i1)(g:findIn c.X.K (.ref (c.X.cP d)) "__init__"=some (some (.builtin "object.__init__")))(A:eS=[]):fo c (.call (.ref (c.X.cP d)) ⟨eS,[]⟩) a w a (.ins d false []):=λR q=>by subst A;exact I.aM.elim λm F=>make_K0 F jj f (O.az.cls d t).Ac g λx k S T h N B=>by have L:=mq.jx I F T h N B;have e:=I.aH.bV (F:=λb=>b=x\/b=k) (s':=(w.ab S w.s.toks).s) I.own L.new.gU λb z=>z.elim (λz=>z▸⟨L.sX,_,L.og⟩) λz=>z▸⟨L.sR,_,L.bC⟩;exact q ⟨w.G.bI λb=>b=x\/b=k,(w.ab S w.s.toks).s⟩ _ ⟨e.1,e.2,L.new.aM,⟨_,_,rfl⟩⟩ (.ins t (.inr (.inl rfl)) (.inr (.inr rfl)) L.og ⟨0,L.bC⟩ .nil)
def Qq(fp:∀e,bT A e){H:ZJ}{l:ZD}{P:ZD}(I:aP c f w)(O:g9 c.X)(fr:hZ c.X c.f)(hi:d6 c.f c.A (cN c.X i+40))(hj:c.X.K.In w.h)(T:d<c.X.i1){fi:qC}(F:o1 c.X i g fi)(r:aK c.X w s H)
  (ini:findIn c.X.K (.ref (c.X.cP d)) "__init__"=some (some (.ref (c.X.di i))))(ifn:isFn c.X.K (.ref (c.X.di i)))(N:g.ak=self::t)(B:lI g t s=some l)(e2:l9 (aD c.X.P c.X.N A).e self g.body ⟨l,f⟩ []=some (P,h)):fo c (.call (.ref (c.X.cP d)) ⟨H,[]⟩) f w h (.ins d (r' P) P):=λR q=>by
 refine bR B λhr B=>?_;have hlen:=W2 hr;rw[dP,dP,dP,r.length] at hlen;have B:=WZ B;subst B;refine I.aM.elim λm Y=>make_K Y jj hj (O.az.cls d T).Ac ini (beq_iff_eq.mp ifn) λx k S F' fv lt' h1=>?_;have L:=mq.jx I Y F' fv lt' h1;have J:aT c f w f (w.ab S w.s.toks):=L.aF I;have o:=I.aF J;have I1':aP {c with A:=c.A.under (.builtin "type.__call__" ⟨.ref (c.X.cP d)::H,[]⟩)} f (w.ab S w.s.toks):=⟨o.aM,o.aH,o.own,o.new,o.dz⟩
 refine C9 (c:={c with A:=c.A.under (.builtin "type.__call__" ⟨.ref (c.X.cP d)::H,[]⟩)}) (w:=w.ab S w.s.toks) (l:=jQ t (U s g.d7)) (eS:=.ref x::H) (dE:=λj v2=>v2=.none/\∃K,bB c.X h j/\cG f w h j (iw c.f)/\j.h.get? x=some (instObj (c.X.cP d) k)/\ir j.h k K/\dB c.X j P K/\cY x h j/\cY k h j)
  O F fr (d6.eg (c':=cN c.X i+20) hi) I1' (by rw[N,Xx,Xx,<-hlen,XJ]) (λl1 kz q v e=>(uY ((r.ext (I.ext J)).append kz) (hg s g.d7▸e)).elim λk0 z=>⟨k0,by rw[N];exact .tail _ z.1,z.2⟩) (λM env' ys e1 W hto hF C n away a' pos Q E q=>?_) _ λj v2 fl bc p=>?_
 .have cK:W.h.get? x=some (instObj (c.X.cP d) k):=n.step.keep _ _ L.og L.H9 λp l z=>(L.own I (w':=w.ab S w.s.toks) rfl).1.aX p l.e' z
  have kd:W.h.get? k=some emptyDict:=n.step.keep _ _ L.bC L.CX λp l z=>(L.own I (w':=w.ab S w.s.toks) rfl).2.aX p l.e' z;have D:∀b,hh M b->S.get? b=none:=away;have X:=C.more (F:=λa=>a=x\/a=k) λa z=>z.elim (λz=>by
   subst z;exact⟨⟨_,cK⟩,λz=>cj L.og (D _ (.inl z)),(L.own I (w':=w.ab S w.s.toks) rfl).1.step ⟨_,L.og⟩ n.step,a' a _ L.og L.H9 L.NG⟩) λz=>by
   subst z;exact⟨⟨_,kd⟩,λz=>cj L.bC (D _ (.inl z)),(L.own I (w':=w.ab S w.s.toks) rfl).2.step ⟨_,L.bC⟩ n.step,a' a _ L.bC L.CX L.bR⟩
  have z:=Sy (c:=cu.more ⟨c.X,M,env',e1⟩ λa=>a=x\/a=k) fp T (Or.inr (Or.inl rfl)) (Or.inr (Or.inr rfl)) L.Ge (λz=>cj L.bC (z▸D _ C.bU.F)) (λy a h2 e z=>cj L.bC (z▸D _ (.inr (C.bU.cell y a h2 e)))) g.body ys [] P f h [] W e2 hF X (pos 0 self (.ref x) (by rw[N];rfl) rfl) cK ⟨0,kd⟩ .nil (Xj _) Q E λk2 es3 u hx3 fd3 kk=>?_
  .exact hto▸z
  .have Z:=X.ag.b7 u
   refine q k2 .next .none u.aM u.dd rfl ⟨rfl,es3,u.aH,?_,hx3,fd3,kk,(Z.dz x (.inr (.inl rfl))).2.2.1,(Z.dz k (.inr (.inr rfl))).2.2.1⟩;have out:∀b,hh M b->w.h.get? b=none:=λb z=>J.step.iZ (D b z);exact(J.trans I ⟨n.aH,n.step,n.aM,n.dd⟩).step.mi I.aH u.step λb z=>.inr (z.elim (λz=>out b (.inl z)) λz=>z.elim (λz=>out b (.inr z)) λz=>z.elim (λz=>z▸L.sX) λz=>z▸L.sR)
 .exact p.2.elim λK z=>⟨p.1,q ⟨j.G.bI λb=>b=x\/b=k,j.s⟩ _ (aT.BS ⟨z.1,z.2.1,λc' G=>fl c' (L.new.aM c' G),.trans ⟨_,_,rfl⟩ bc⟩ λb y=>y.elim (λy=>y▸⟨L.sX,⟨_,z.2.2.1⟩,z.2.2.2.2.2.1.aX⟩) λy=>y▸⟨L.sR,z.2.2.2.1.has,z.2.2.2.2.2.2.aX⟩)
   (.ins T (.inr (.inl rfl)) (.inr (.inr rfl)) z.2.2.1 z.2.2.2.1 (z.2.2.2.2.1.ext (w':=⟨j.G.bI λb=>b=x\/b=k,j.s⟩) ⟨λ_ z=>Or.inl z,λ_ _ z=>z,λ_ _ _ z=>z⟩))⟩
def Qr(y:nM h i)(I:aP c a w)(O:g9 c.X)(u:hZ c.X c.f)(H:d6 c.f c.A (cN c.X i+40))(A:c.X.K.In w.h)(t:d<c.X.i1)(r:aK c.X w l eS)
  (C:findIn c.X.K (.ref (c.X.cP d)) "__init__"=some (some (.ref (c.X.di i))))(F:isFn c.X.K (.ref (c.X.di i)))(s:(aD c.X.P c.X.N h).c .inl i (.ref a.n::l) (a.new (.ins d []))=some (g,f))(B:iE g):fo c (.call (.ref (c.X.cP d)) ⟨eS,[]⟩) a w f (.ref a.n):=λR q=>by
 refine I.aM.elim λm X=>make_K X jj A (O.az.cls d t).Ac C (beq_iff_eq.mp F) λx o S T n N D=>?_;have L:=mq.jx I X T n N D;have e:=I.aH.Ao (h':=λb=>b=x) (o:=.ins d []) (s':=(w.ab S w.s.toks).s) I.own L.new.gU (λb z=>z▸⟨L.sX,_,L.og⟩) L.sR (Ne.symm L.Ge) λE=>⟨t,x,[],ea.1,.inr rfl,ea.2.symm▸L.og,ea.2.symm▸⟨0,L.bC⟩,Xj _,.nil⟩;have k:aT c a w (a.new (.ins d [])) ⟨(w.G.bI λb=>b=x).a5 a.n x o,(w.ab S w.s.toks).s⟩:=⟨e.1,e.2,L.new.aM,⟨_,_,rfl⟩⟩;have p:=I.aF k;refine y {c with A:=c.A.under (.builtin "type.__call__" ⟨.ref (c.X.cP d)::eS,[]⟩)} .inl _ _ g f _ (.ref x::eS) nofun s O u (d6.eg H) ⟨p.aM,p.aH,p.own,p.new,p.dz⟩ (.cons (.ref ea.1) (r.ext (I.ext k))) _ λJ G j K=>?_
 have aD:G=.none:=by rw[vX B] at K;exact K.l4 (p:=λv=>v=Value.none) rfl
 exact⟨aD,q J (.ref x) (k.trans I ⟨j.aH,j.step,j.aM,j.dd⟩) (.ref (j.step.aO _ _ ea.1))⟩
def IJ(o:∀e,bT a e)(y:∀B,nM a B)(d:Nat):xW (a+1) d:=λc D V v E w J K e O h x H I r=>aA e λk s e=>by
 have j:=I.aM.elim λ_ F=>h.K.keeps F.keep;have S:=O.cls d k s;have g:=S.init;have p:=x k s;unfold wx at p;generalize A:k.init=N;induction N with
 |none=>
  rw[A] at e g;refine bR e λb e=>?_;induction D with
  |nil=>exact bz (p:=λv E=>fo c _ V w E v) e (Qp I O j S.lt g (r.eh (q:=λl=>l=[]) rfl))
  |cons=>exact ns e
 |some i=>
  rw[A] at e g p;have e:=e;generalize b:k.qf=N;induction N with
  |true=>
   rw[b] at e;refine aA e λn q e=>(O.Gz d k i s A b n q).elim λ_ F=>?_;have e:=e;generalize m:n.ak=N;induction N with
   |nil=>rw[m] at e;exact ns e
   |cons self G=>rw[m] at e;exact aA e λl t e=>bK e λC P f e=>bz (p:=λv E=>fo c _ V w E v) e (Qq o I O h (H.jw p) j S.lt F r g.1 g.2 m t f)
  |false=>rw[b] at e;exact bK e λu P f e=>bR e λz e=>bz (p:=λv E=>fo c _ V w E v) e (Qr (y i) I O h (H.jw p) j S.lt r g.1 g.2 f z)
def Q6(h:An X a d):∀q,X.P.cls d=some q->wx X q<=a:=λq e=>by
 unfold An at h;rw[e] at h;have h:(match q.init with|some i=>Nat.ble (39*X.P.kZ i+79) a|none=>true)=true:=h
 unfold wx;generalize I:q.init=N;induction N with|none=>exact Xj _|some i=>rw[I] at h;exact nT h
def Iw(m:∀e,bT a e)(f:xW a d):bT (a+1) (.new d G):=λc A V v g k x w e o C=>bK e λD P O e=>by
 have R:keepIn c.X.K (.ref (c.X.cP d)):=by
  induction a with|zero=>exact ns e|succ a=>exact aA e λk s _=>(C.ok.cls d k s).keep
 have I:=ar (ar o);have r:=ar (ar I);have b:=ar r;exact bP.d' C.ag (vJ C (n9 (aN (ar I))) (ET (aN r)) (rH (aN I))) (λS L l i=>i▸si m O (ar (ar b)) (aN (ar b)) (C.aW.aF l) (t' R) λj t h p=>fo.call (f c D P v g j t k e C.ok C.aM (Q6 (aN (ar o))) C.aW.dK ((C.ag.aF l).aF h) p)) λQ E=>YC
def hN(N:km)(t m:Nat):Z0 String:=match t with
 |1=>match Nat.beq m N.append with
  |true=>some "list.append"
  |false=>match Nat.beq m N.lJ with
   |true=>some "list.extend"
   |false=>match Nat.beq m N.f5 with
    |true=>some "list.pop"
    |false=>bS (Nat.beq m N.iD) (some "list.index")
 |2=>match Nat.beq m N.get with
  |true=>some "dict.get"
  |false=>bS (Nat.beq m N.f5) (some "dict.pop")
 |3=>bS (Nat.beq m N.rV) (some "str.startswith")
 |_=>none
def Sj(a:ZK):∀b:ZK,rM a b=(decide (a.length<=b.length)&&(b.take a.length==a)):=by
 induction a with
 |nil=>intro b;exact(by rw[decide_eq_true (Xj _)];rfl:true=(decide (0<=b.length)&&true))
 |cons a r S=>
  intro b;induction b with
  |nil=>exact(by rw[decide_eq_false (Zb _)];rfl:false=(decide (r.length+1<=0)&&_))
  |cons b s=>
   refine(?_:(match Nat.beq a b with|true=>rM r s|false=>false)=_)
   rw[S,p3,Xx,Xx,List.take_succ_cons,List.cons_beq_cons,show(b==a)=(a==b) from Bool.beq_comm,show decide (r.length+1<=s.length+1)=decide (r.length<=s.length) from by rw[XS,decide_eq_true_iff,decide_eq_true_iff];exact Nat.succ_le_succ_iff]
   cases a==b with
   |true=>rfl
   |false=>rw[Bool.false_and,XN]
def Uh(x y:ZV):(decide (0+y.length<=x.length)&&Builtin.Str.subAt x y 0)=rM y.cps.toList x.cps.toList:=by
 rw[Sj];unfold Builtin.Str.subAt Str.length;rw[W7,Array.length_toList,Array.length_toList]
 congr 1
 rw[XS,beq_iff_eq,beq_iff_eq,<-Array.toList_inj,Array.toList_extract];simp [List.extract]
section
variable{c:cu}{k n:Nat}{A:ZD}{X R:Z}{w B:aL}
def FO(i:args.all e5)(f:args.length<=20):methodCallForm (args.length+([]:List Keyword).length) (backTo pos (starEach args af)) (backToKw pos (keywordEach [] af)):=by
 have b:(backTo pos (starEach args af)).all (!·.1):=by have:=oE (af:=af) (pos:=pos) i;rw[Xb];rw[List.any_eq_false] at this;intro x B;exact(YD _▸this x B:x.1=false)▸rfl
 refine(?_:((backTo pos (starEach args af)).all (!·.1)&&true&&decide (args.length+0+0<30))=true);rw[b,decide_eq_true (W3 f (by decide):args.length+0+0<30)]
 rfl
def FP{E:ZG}(G:p7 H)(i:args.all e5)(f:args.length<=20)(d:(apos.endLine==pos.line))
  (h:aad c (eval H c.af) (λb g=>aad c (getMethod b name (do return (<-importBound H c.af).getD true)) (λm a=>aad c (callWith pos m.1 m.2 (backTo pos (starEach args c.af)) []) Q E a) E g) E w.s):
  aad c (eval (.Call (.Attribute H name apos) args [] pos) c.af) Q E w.s:=by
 rw[arm_eval_Call,uT G];refine W6 (XR h (λb g k=>?_) λ_ _ e=>e);refine W6 (Yx ?_);have l:methodCallPos true H c.af apos pos=pure pos:=by unfold methodCallPos;simp [d]
 unfold methodCall;rw[FO i f];unfold calleeOf;exact W6 (Yd (XR k (λm a j=>(W6 (wpAny_of_eq l j))) λ_ _ e=>e))
def HJ:iN (.ref p) X=match X.get p with|some (.ae _ _)=>1|some (.ah ..)=>2|_=>0:=rfl
def Vq:(iN d X=1->∃b,gB d X=some (.L b))/\(iN d X=2->∃k T,gB d X=some (.D k T))/\(iN d X=3->∃x,d=.str x):=by
 have s:∀{A B C:Prop},(0=1->A)/\(0=2->B)/\(0=3->C):=⟨λz=>(nomatch z),λz=>(nomatch z),λz=>(nomatch z)⟩;have i:∀{A B C:Prop},A->(1=1->A)/\(1=2->B)/\(1=3->C):=λa=>⟨λ_=>a,λz=>(nomatch z),λz=>(nomatch z)⟩;have G:∀{A B C:Prop},B->(2=1->A)/\(2=2->B)/\(2=3->C):=λa=>⟨λz=>(nomatch z),λ_=>a,λz=>(nomatch z)⟩;have c:∀{A B C:Prop},C->(3=1->A)/\(3=2->B)/\(3=3->C):=λa=>⟨λz=>(nomatch z),λz=>(nomatch z),λ_=>a⟩;induction d using V.casesOn with
 |ae b=>exact i ⟨b,rfl⟩
 |ah k T=>exact G ⟨k,T,rfl⟩
 |str x=>exact c ⟨x,rfl⟩
 |ref p=>
  refine HJ▸(show gB (.ref p) X=(match X.get p with|some (.ae b _)=>some (iQ.L b)|some (.ah k T _)=>some (.D k T)|_=>none) from rfl)▸?_
  generalize X.get p=N;induction N with
  |none=>exact s
  |some o=>induction o with
   |ae b l=>exact i ⟨b,rfl⟩
   |ah k T l=>exact G ⟨k,T,rfl⟩
   |ins=>exact s
 |_=>exact s
def ez.exact{k:eU}(j:ez f' w k c' h'):∃a',w.h.get? c'=some a'/\a'.ExactDict:=by
 induction k with|I=>exact j.elim λ_ j=>j.1.elim λa' j=>j.elim λ_ j=>j.elim λ_ j=>⟨a',j.1,j.2.1⟩|S=>exact j.elim λ_ j=>j.1.elim λa' j=>j.elim λ_ j=>j.elim λ_ j=>⟨a',j.1,j.2.1⟩|T=>exact j.elim λ_ j=>j.1.elim λa' j=>j.elim λ_ j=>j.elim λ_ j=>⟨a',j.1,j.2.1⟩
def Nm{id:String}{Q:ZO×ZJ->ZN}{E:ZG}(S:kn c.X)(h:w.h.PlainList a f)(e:hN c.X.N 1 g=some id)(q:Q (.builtin id,[.ref a]) w.s):aad c (getMethod (.ref a) (c.X.az g) d) Q E w.s:=h.elim λk s=>by
 have R:w.s.TypeIs (.ref a) "list":=⟨_,s,rfl⟩;have T:∀b,Value.ref a=.ref b->∃o,w.s.heap.get? b=some o/\o.dict=none:=λb z=>Value.ref.inj z▸⟨_,s,rfl⟩;unfold hN at e;generalize P:Nat.beq g c.X.N.append=N;induction N with
 |true=>have e:=P▸e;exact(W2 P)▸S.append▸getMethod_builtin R F.plainAttrs_list F.slot_list_append F.type_list_append T (WZ e▸q)
 |false=>
  have e:=P▸e;generalize y:Nat.beq g c.X.N.lJ=N;induction N with
  |true=>have e:=y▸e;exact(W2 y)▸S.lJ▸getMethod_builtin R F.plainAttrs_list F.slot_list_extend F.type_list_extend T (WZ e▸q)
  |false=>
   have e:=y▸e;generalize v:Nat.beq g c.X.N.f5=N;induction N with|true=>have e:=v▸e;exact(W2 v)▸S.f5▸getMethod_builtin R F.plainAttrs_list F.slot_list_pop F.type_list_pop T (WZ e▸q)|false=>have e:=v▸e;exact bR e λi e=>by exact(W2 i)▸S.iD▸getMethod_builtin R F.plainAttrs_list F.slot_list_index F.type_list_index T (WZ e▸q)
def Nl{id:String}{n:Sem Bool}{Q:ZO×ZJ->ZN}{E:ZG}(S:kn c.X)(h:ez c.X w d a G)(e:hN c.X.N 2 g=some id)(q:Q (.builtin id,[.ref a]) w.s):aad c (getMethod (.ref a) (c.X.az g) n) Q E w.s:=h.exact.elim λo h=>by
 have R:w.s.TypeIs (.ref a) "dict":=⟨_,h.1,h.2.1⟩;have T:∀b,Value.ref a=.ref b->∃o,w.s.heap.get? b=some o/\o.dict=none:=λb z=>Value.ref.inj z▸⟨_,h.1,h.2.2.1⟩;unfold hN at e;generalize P:Nat.beq g c.X.N.get=N;induction N with|true=>have e:=P▸e;exact(W2 P)▸S.get▸getMethod_builtin R F.plainAttrs_dict F.slot_dict_get F.type_dict_get T (WZ e▸q)|false=>have e:=P▸e;exact bR e λf e=>by exact(W2 f)▸S.f5▸getMethod_builtin R F.plainAttrs_dict F.slot_dict_pop F.type_dict_pop T (WZ e▸q)
def Nn{id:String}{Q:ZO×ZJ->ZN}{E:ZG}(S:kn c.X)(R:bB c.X X w)(p:o c.X w d b)(e:hN c.X.N (iN d X) g=some id)(q:Q (.builtin id,[b]) w.s):aad c (getMethod b (c.X.az g) f) Q E w.s:=by
 have T:=Vq (d:=d) (X:=X);generalize iN d X=t at e T
 match t,e,T with
 |1,e,T=>exact(T.1 rfl).elim λO h=>(ky R h p).elim λa h=>h.2.elim λD N=>by rw[h.1] at q⊢;exact Nm S N.1 e q
 |2,e,T=>exact(T.2.1 rfl).elim λk h=>h.elim λi h=>(ky R h p).elim λa h=>h.2.2.elim λG N=>by rw[h.1] at q⊢;exact Nl S N.1 e q
 |3,e,T=>
  exact(T.2.2 rfl).elim λx h=>by
   subst h;exact p.gb (p:=λb=>Q (.builtin id,[b]) w.s->wpAny _ _ (getMethod b (c.X.az g) f) Q E w.s) (λt q=>bR e λz e=>by
    refine(W2 z)▸S.rV▸?_;have q:=WZ e▸q
    with_reducible exact getMethod_builtin (typeIs_str w.s x _) F.plainAttrs_str F.slot_str_startswith F.type_str_startswith (by intro a z;cases z) q) q
def aT.BA(J:aP c X w)(W:X.get c'=some o₀)(l₀:bc o₀=0)(lo:bc a'=0)(ax:Heap.SameBut (w.G.aX c') w.h h')(S:cM w (w.ab h' f')->fT c.X (w.ab h' f') c' a'):aT c X w (X.set c' a') (w.ab h' f'):=by have Z:cT X c':=⟨_,W⟩;have V:∀o j,o≠w.G.aX c'->w.h.get? o=some j->h'.get? o=some j:=λo j n u=>(ax.2 o n).trans u;have Y:∀M,Fr c.f.g c.f.L w.h M->Fr c.f.g c.f.L h' M:=λM C=>⟨C.ns.at' λa' u=>V _ a' (Ne.symm (J.own.aX c' Z)) u,λo a' u=>V o a' (λU=>cj (U▸u) (J.new c' Z)) (C.keep o a' u),C.above⟩;have U:=J.aH.update J.own W l₀ lo (λo j n _ u=>V o j n u) (J.aM.elim λM C=>(Y M C).ns.elim λa' j=>j.elim λ_ j=>j.elim λ_ j=>⟨a',j.1⟩) S;exact⟨U.1,U.2,Y,⟨_,_,rfl⟩⟩
def aT.uA(j:aP c X w)(o:X.get a'=some (.ae f' 0))(ax:Heap.SameBut (w.G.aX a') w.h h')(C:h'.PlainList (w.G.aX a') us.toArray)(u:us.length<=b0)(J:aK c.X w ys us):aT c X w (X.set a' (.ae ys 0)) (w.ab h' c'):=
 .BA j o rfl rfl ax λE=>⟨(j.aH.slot a' _ o).1,us,C,u,J.ext E⟩
def wX{h:ZQ}(g:Array ZO->Array ZO)(s:h.get? l=some {cls:=.type "list",dict:=none,data:=.seq a k,slots:=#[]}):(h.update l (Obj.mapSeq g)).PlainList l (g a):=⟨_,Heap.get?_update_self _ s rfl⟩
def tC{q:ZO->Prop}(I:aP c X w)(s:X.get p=some (.ae e 0))(H:o c.X w (.ref p) d)(k:∀b,w.h.PlainList (w.G.aX p) b.toArray->b.length<=b0->aK c.X w e b->q (.ref (w.G.aX p))):q d:=
 oO I.aH s H λa E S=>WZ (S.1.symm.trans E)▸S.2.elim λb S=>k b S.1 S.2.1 S.2.2
def Ju(I:aP c X w)(s:X.get p=some (.ae b 0))(R:eC b)(H:o c.X w (.ref p) a)(m:o c.X w x h):aR c (call (.builtin "list.append") [a,h] []) X w (X.set p (.ae (U b [x]) 0)) .none:=
 tC (q:=λa=>aR c (call (.builtin "list.append") [a,h] []) X w _ .none) I s H λD f d F Q E q=>wpAny_list_append_plain f (λS n ax=>q (w.ab S w.s.toks) _ (aT.uA I s ax (List.push_toArray D h▸n) (by exact W8▸F.length▸pH R) (hg b [x]▸F.append (.cons m .nil))) .none) (mc d)
def LJ{a b:Array ZO}(h:a.size+b.size<b0):¬(!a.isEmpty&&Builtin.List.listTooLong (a.size+b.size))=true:=by
 have:Builtin.List.listTooLong (a.size+b.size)=false:=by
  unfold Builtin.List.listTooLong;rw[decide_eq_false_iff_not];have:=jA b0 (Xe _)
  lia
 rw[this,XN];exactλz=>bb z
def My(I:aP c X w)(s:X.get p=some (.ae a 0))(k:d5 x X=some l)(R:eC (U a l))(H:o c.X w (.ref p) d)(r:o c.X w x h):aR c (call (.builtin "list.extend") [d,h] []) X w (X.set p (.ae (U a l) 0)) .none:=
 tC (q:=λd=>aR c (call (.builtin "list.extend") [d,h] []) X w _ .none) I s H λD P m f=>mZ (p:=λh=>aR c (call (.builtin "list.extend") [_,h] []) X w _ .none) I.aH k r λb e N t i=>P.elim λv P=>N.elim λG N Q E q=>by
  have j:(D++e).length<b0:=by rw[W8,<-f.length,<-i.length,<-W8,<-hg];exact pH R
  have g:D.toArray.size+e.toArray.size<b0:=by exact Xo▸Xo▸W8▸j
  refine call_meets F.slot_list_extend ⟨_,P,rfl⟩ F.entry_list_extend (F.args_list_extend_2 _ _) (AutoSeq1.list_extend_list_list_0 (w.G.aX p) D.toArray v b e.toArray G (LJ g) (mc m) (XT (W5 (Xw g) (jA b0 (Xe _))))) ⟨P,N,?_⟩;have n:=wX (λa=>a++e.toArray) P;rw[List.append_toArray] at n;exact q (w.ab _ _) _ (aT.uA I s (Heap.SameBut.update ..) n (Xw j) (hg a l▸f.append i)) .none
def aK.split:∀{c':ZJ},aK f' w (h'++[s']) c'->∃us a',c'=us++[a']/\aK f' w h' us/\o f' w s' a':=by
 induction h' with|nil=>exactλj=>j.hR (q:=λc'=>∃us a',c'=us++[a']/\aK f' w [] us/\o f' w s' a') λC j=>⟨[],C,rfl,.nil,j⟩|cons V h' U=>exactλj=>j.dM (q:=λc'=>∃us a',c'=us++[a']/\aK f' w (V::h') us/\o f' w s' a') λC c' J M=>(U M).elim λus u=>u.elim λa' u=>⟨C::us,a',W0 (C::·) u.1,.cons J u.2.1,u.2.2⟩
def Se(I:aP c X w)(s:X.get p=some (.ae a 0))(B:a=r++[x])(H:o c.X w (.ref p) b):aR c (call (.builtin "list.pop") [b] []) X w (X.set p (.ae r 0)) x:=
 tC (q:=λb=>aR c (call (.builtin "list.pop") [b] []) X w _ x) I s H λD P f g=>P.elim λv P=>(B▸g).split.elim λd z=>z.elim λu z Q E q=>by
  have e:=z.1;subst e;refine call_meets F.slot_list_pop ⟨_,P,rfl⟩ F.entry_list_pop (F.args_list_pop_1 _) (MeetsSeq.list_pop_last (w.G.aX p) (d++[u]).toArray v u (by simp) (mc f)) ⟨P,?_⟩
  have n:=wX (λa=>a.eraseIdxIfInBounds ((d++[u]).toArray.size-1)) P;have e:(d++[u]).toArray.eraseIdxIfInBounds ((d++[u]).toArray.size-1)=d.toArray:=by rw[Y'];congr 1;simp [List.eraseIdx_append_of_length_le]
  have n:=e▸n;have T:=aT.uA (c':=w.s.toks) I s (Heap.SameBut.update w.s.heap (w.G.aX p) (Obj.mapSeq λa:Array ZO=>a.eraseIdxIfInBounds ((d++[u]).toArray.size-1))) n (W5 (by exact W8▸Xd _ _) f) z.2.1
  exact q (w.ab _ w.s.toks) _ T (z.2.2.ext (I.ext T))
def Sa(I:aP c X w)(s:X.get p=some (.ae (x::r) 0))(H:o c.X w (.ref p) a):aR c (call (.builtin "list.pop") [a,.int 0 t] []) X w (X.set p (.ae r 0)) x:=
 tC (q:=λa=>aR c (call (.builtin "list.pop") [a,.int 0 t] []) X w _ x) I s H λD P b f=>P.elim λv P Q E q=>by
  cases f with
  |@cons _ u _ d y g=>
   refine call_meets F.slot_list_pop ⟨_,P,rfl⟩ F.entry_list_pop (F.args_list_pop_2 _ _) (MeetsSeq.list_pop_at (w.G.aX p) (u::d).toArray v 0 t 0 u (by decide) (G0 (by simp)) rfl (mc b)) ⟨P,?_⟩
   have n:=wX (λO=>O.eraseIdxIfInBounds 0) P;have e:(u::d).toArray.eraseIdxIfInBounds 0=d.toArray:=by rw[Y'];rfl
   have n:=e▸n;have T:=aT.uA (c':=w.s.toks) I s (Heap.SameBut.update w.s.heap (w.G.aX p) (Obj.mapSeq λO:Array ZO=>O.eraseIdxIfInBounds 0)) n (W5 (Xt _) b) g;exact q (w.ab _ w.s.toks) _ T (y.ext (I.ext T))
def Ow:∀{i f:Nat},vU x l i=some f->∃d,f=i+d/\(∀y∈l,∃b,iO y x=some b)/\(∃y,l[d]?=some y/\iO y x=some true)/\∀m y,m<d->l[m]?=some y->iO y x=some false:=by
 induction l with
 |nil=>exactλe=>ns e
 |cons y r S=>
  intro i f e;refine aA e λa I e=>?_;induction a with
  |true=>exact aA e λb s e=>⟨0,(WZ e).symm,λz c=>(Xm.mp c).elim (λz=>⟨_,z▸I⟩) ((p0 s).1 z),⟨y,rfl,I⟩,λm _ h=>absurd h (Yk _)⟩
  |false=>exact(S e).elim λd z=>⟨d+1,z.1.trans (by rw[W9,Xa 1]),λp c=>(Xm.mp c).elim (λz=>⟨_,z▸I⟩) (z.2.1 p),z.2.2.1,λm p D c=>by
   induction m with|zero=>exact WZ c▸I|succ m=>exact z.2.2.2 m p (Ya D) c⟩
def OB{j:ZO}(I:aP c X w)(r:w.h.PlainList a b.toArray)(s:b.length<=b0)(h:aK c.X w g b)(e:vU x g 0=some f)(t:o c.X w x j):aR c (call (.builtin "list.index") [.ref a,j] []) X w X (.int (.ofNat f)):=
 r.elim λv k=>(Ow e).elim λd z=>by
  have O:d=f:=(z.1.trans (W7 d)).symm;subst O;refine z.2.2.1.elim λy n=>(h.lN n.1).elim λu H=>?_;have m:d<b.toArray.size:=by exact Xo▸(List.getElem?_eq_some_iff.mp H.1).1
  refine aR.toks I λQ E q=>call_meets F.slot_list_index ⟨_,k,rfl⟩ F.entry_list_index (F.args_list_index_2 _ _) (list_indexAt a b.toArray v none #[] j (mb x) d m ?_ ?_ ?_) ⟨k,Ad z.2.1 t h,q _ _ .int⟩
  .have q:d<100000:=W4 m (by exact Xo▸s)
   lia
  .exact(show b.toArray[d]=u from by have:=(List.getElem?_eq_some_iff.mp H.1).2;simpa using this)▸(xf n.2 H.2)▸rfl
  .intro i A p
   have A:=Xo▸A;exact(h.get (List.getElem?_eq_getElem A)).elim λB l=>by exact(show b.toArray[i]=b[i] from by simp)▸(xf (z.2.2.2 i B p l.1) l.2)▸rfl
def Ui(I:aP c X w)(p:o c.X w (.str x) a)(q:o c.X w (.str y) h):aR c (call (.builtin "str.startswith") [a,h] []) X w X (.bool (rM y.cps.toList x.cps.toList)):=
 p.gb (p:=λa=>aR c (call (.builtin "str.startswith") [a,h] []) X w X _) λt=>q.gb (p:=λh=>aR c (call (.builtin "str.startswith") [_,h] []) X w X _) λu=>aR.toks I λQ E k=>call_gives F.slot_str_startswith (typeIs_str ..) F.entry_str_startswith (F.args_str_startswith_2 _ _) (gives_str_startswith x y _ _) (by rw[Uh];exact k _ w.s.toks .bool)
def b2.Gm(C:b2 a' w kvs f')(u:aE)(J:o a' w c' h'):o a' w (rJ c' (bL kvs u)) ((bL f' u).getD h'):=
 (C.au u).elim (λj=>j.elim λU j=>j.elim λM j=>by exact j.1▸j.2.1▸j.2.2) λj=>by exact j.1▸j.2▸J
def Nw{Q:ZG}{E:ZG}(H:c.A.units+30<cLine)(h:(a==sysModules)=false)(T:w.h.DictOfH (tupleKind (intKind c.X.prog c.X.w)) a d)(f:IsTupleKey (intKind c.X.prog c.X.w) w.h z b)(e:rest=[]/\i=.none\/rest=[i])
  (q:∀s,Q (((atKey d z).map (·.2)).getD i) (w.a8 s).s):aad c (call (.builtin "dict.get") (.ref a::.ref b::rest) []) Q E w.s:=by
 have S:=q (w.s.toks+(tupleKind (intKind c.X.prog c.X.w)).draws z);have g:c.A.units+1<cLine:=W3 (Xg (by decide) _) H
 induction e with
 |inl e=>
  refine e.1▸?_;rw[e.2] at S;refine YE F.slot_dict_get T.typeIs F.entry_dict_get ?_ (F.args_dict_get_2 _ _);show wpAny _ _ (dictGet a (.ref b)>>=_) _ _ w.s;refine W6 (wpAny_dictGet_heap (tupleKind_room_in1 g) f T ?_);generalize R:(atKey d z).map (·.2)=N;induction N with
  |some v=>rw[R] at S;exact Xc ⟨v,rfl,S⟩
  |none=>rw[R] at S;exact W6 (wpAny_missed_other h (Xc ⟨.none,rfl,S⟩))
 |inr e=>
  refine e▸YE F.slot_dict_get T.typeIs F.entry_dict_get ?_ (F.args_dict_get_3 ..);show wpAny _ _ (dictGet a (.ref b)>>=_) _ _ w.s;refine W6 (wpAny_dictGet_heap (tupleKind_room_in1 g) f T ?_);generalize R:(atKey d z).map (·.2)=N;induction N with|some v=>rw[R] at S;exact Xc ⟨v,rfl,S⟩|none=>rw[R] at S;exact W6 (wpAny_missed_other h (Xc ⟨i,rfl,S⟩))
def D2{K:Type} [DecidableEq K]{r:KeyKind c.X.prog c.X.w K}{z:K}{y:ZJ}{O:List (K×ZO)}{Q:ZG}{E:ZG}(g:(a==sysModules)=false)(T:w.h.DictOf r a O)(f:r.is z x)(b:y=[]/\i=.none\/y=[i])
  (q:∀s,Q ((valueAt O z).getD i) (w.a8 s).s):aad c (call (.builtin "dict.get") (.ref a::x::y) []) Q E w.s:=by
 induction b with|inl b=>refine b.1▸?_;rw[b.2] at q;exact call_meetsIn F.slot_dict_get T.typeIs F.entry_dict_get (F.args_dict_get_2 _ _) (meets_dict_get r a f g) ⟨_,T.mapOf,q _⟩|inr b=>exact b▸call_meetsIn F.slot_dict_get T.typeIs F.entry_dict_get (F.args_dict_get_3 ..) (meets_dict_get_default r a f g _) ⟨_,T.mapOf,q _⟩
def D1{P:eU}{a:ZP}{A:aE}{y:ZJ}(I:aP c X w)(H:c.A.units+30<cLine)(d:ez c.X w P a G)(g:(a==sysModules)=false)(m:o3 c.X w P A x)(F:y=[]/\i=.none\/y=[i]):c4 c (call (.builtin "dict.get") (.ref a::x::y) []) X w X ((bL G A).getD i):=by
 refine c4.toks I λQ E q=>?_;induction P with
 |I=>induction A with
  |i n=>refine d.elim λO d=>m.elim λt aD=>?_;rw[d.2,pA aE.i n pP] at q;exact aD▸D2 g d.1 (intKind_is c.X.prog c.X.w _ t) F q
  |_=>exact m.elim
 |S=>induction A with
  |s n=>refine d.elim λO d=>m.elim λt aD=>?_;rw[d.2,pA aE.s n tr] at q;exact aD▸D2 g d.1 (strKind_is c.X.prog c.X.w _ t) F q
  |_=>exact m.elim
 |T=>induction A with|t l=>refine d.elim λO d=>m.elim λb aD=>?_;rw[d.2.1,yW aE.t l v7] at q;exact aD.1▸Nw H g d.1 aD.2.2 F q|_=>exact m.elim
def LC(I:aP c X w)(H:c.A.units+30<cLine)(i:(a==sysModules)=false)(d:ez c.X w P a G)(h:b2 c.X w T G)(e:gC P T f=some L)(q:aK c.X w f b):aR c (call (.builtin "dict.get") (.ref a::b) []) X w X L:=by
 induction f with
 |nil=>exact ns e
 |cons x r=>
  refine aA e λy n e=>q.dM (q:=λb=>aR c (call (.builtin "dict.get") (.ref a::b) []) X w X L) λj b m g=>?_;induction r with
  |nil=>exact g.eh (q:=λb=>aR c (call (.builtin "dict.get") (.ref a::j::b) []) X w X L) (b6 e ((D1 I H d i (pQ n m) (.inl ⟨rfl,rfl⟩)).jw λS o l O=>by exact O▸(h.Gm y .none).ext (I.ext l)))
  |cons A t=>induction t with|nil=>exact g.hR (q:=λb=>aR c (call (.builtin "dict.get") (.ref a::j::b) []) X w X L) λp k=>b6 e ((D1 I H d i (pQ n m) (.inr rfl)).jw λS o l O=>by exact O▸(h.Gm y k).ext (I.ext l))|cons=>exact ns e
def Lx(k:aE)(l:List (aE×α)):(gR l k).length<=l.length:=by
 induction l with
 |nil=>exact Xe _
 |cons x r S=>
  show(match cJ x.1 k with|true=>r|false=>(x.1,x.2)::gR r k).length<=r.length+1
  generalize cJ x.1 k=N;induction N with|true=>exact Xt _|false=>exact Xp S
def LL(I:aP c X w)(s:X.get p=some (.ah .I b 0))(e:bL b (.i i)=some L)(H:o c.X w (.ref p) f):aR c (call (.builtin "dict.pop") [f,.int i t] []) X w (X.set p (.ah .I (gR b (.i i)) 0)) L:=
 oO I.aH (q:=λf=>aR c (call (.builtin "dict.pop") [f,.int i t] []) X w _ L) s H λa k S=>WZ (S.1.symm.trans k)▸S.2.2.elim λG N=>N.1.elim λO d=>(N.2.2.aO e).elim λv A Q E q=>by
  have h:=A.1;rw[d.2,pA aE.i i pP] at h;have B:O.length=G.length:=by rw[d.2,Xs]
  refine call_meetsIn F.slot_dict_pop d.1.typeIs F.entry_dict_pop (F.args_dict_pop_2 _ _) (meets_dict_pop_there (intKind c.X.prog c.X.w) (w.G.aX p) (intKind_is _ _ i t) [] (.inl rfl) rfl) ⟨O,v,d.1,by refine B▸?_;exact jA _ N.2.1,h,λj l ax=>?_⟩
  have g:=Ly aE.i i pP O (d.1.elim λ_ z=>z.elim λ_ z=>z.elim λ_ z=>z.2.2.2.2.2);rw[<-d.2] at g;have T:=aT.BA (f':=w.s.toks+1) (a':=.ah .I (gR b (.i i)) 0) I s rfl rfl ax λE=>⟨S.1,S.2.1,gR G (.i i),⟨_,l,g⟩,W5 (Lx _ _) N.2.1,(N.2.2.ho _).ext E⟩;exact q (w.ab j (w.s.toks+1)) _ T (A.2.ext (I.ext T))
def kn.cC{j:cn}(u:j.az a'=f')(C:j.az c'=h')(n:(f'==h')=false):Nat.beq a' c'=false:=by
 generalize J:Nat.beq a' c'=M;induction M with
 |false=>rfl
 |true=>
  have o:f'=h':=by exact u▸C▸((W2 J))▸rfl
  rw[beq_eq_false_iff_ne] at n;exact absurd o n
def nN(a:cn)(v:V)(g:Nat)(D:ZF)(X:Z)(u:V)(R:Z):Prop:=
 ∃id,hN a.N (iN v X) g=some id/\∀(f:ed)(d:Env)(A:ZX)(w:aL)(K:ZO)(t:ZJ),A.units+30<cLine->aP ⟨a,f,d,A⟩ X w->o a w v K->aK a w D t->aR ⟨a,f,d,A⟩ (call (.builtin id) (K::t) []) X w R u
noncomputable def Vr:O->Nat
 |.ae _ _=>1
 |.ah _ _ _=>2
 |.ins _ _=>0
def Bx(h:X.get p=some H):iN (.ref p) X=Vr H:=by refine HJ▸h▸?_;induction H<;>rfl
def La{k:eU}(h:gB a X=some (.D k T)):iN a X=2:=by
 induction a using V.casesOn with
 |ah=>rfl
 |ref p=>
  have h:(match X.get p with|some (.ae O _)=>some (iQ.L O)|some (.ah k T _)=>some (.D k T)|_=>none)=some (.D k T):=h
  generalize s:X.get p=N;induction N with
  |none=>rw[s] at h;exact ns h
  |some o=>refine(Bx s)▸?_;rw[s] at h;induction o with
   |ae=>nomatch h
   |ah=>rfl
   |ins=>exact ns h
 |ae=>nomatch h
 |ay=>nomatch h
 |_=>exact ns h
def K'(h:gB a X=some (.L b))(c:(!tl a)):a=.ae b:=by
 induction a using V.casesOn with
 |ae E=>exact W0 V.ae (W0 (λ|iQ.L l=>l|_=>[]) (WZ h))
 |ref p=>exact bb c
 |ah=>nomatch h
 |ay=>nomatch h
 |_=>exact ns h
def Sb(e:wZ a b=some (x,r)):(b=[]/\a=r++[x])\/(b=[.int 0]/\a=x::r):=by
 induction b with
 |nil=>
  have e:(match gm a []with|x::r=>some (x,gm r [])|[]=>none)=some (x,r):=e
  generalize F:gm a []=N;induction N with
  |nil=>rw[F] at e;exact ns e
  |cons y l=>rw[F] at e;refine bz (p:=λx r=>(([]:ZF)=[]/\a=r++[x])\/_) e (.inl ⟨rfl,?_⟩);rw[AR,XB] at F⊢;exact(List.reverse_reverse a)▸F▸Yn▸rfl
 |cons z t=>induction t with
  |cons=>exact ns e
  |nil=>
   refine aA e λn X e=>?_;induction n with
   |succ=>exact ns e
   |zero=>induction a with|nil=>exact ns e|cons y l=>exact bz (p:=λx r=>_\/([z]=[V.int 0]/\y::l=x::r)) e (.inr ⟨W0 (λz=>[z]) (pd X),rfl⟩)
def QF(s:X.get p=some (.ae d 0))(e:wu a.N p d g b X=some (L,R)):nN a (.ref p) g b X L R:=by
 unfold nN;refine(Bx s)▸?_;unfold wu at e;show∃id,(match Nat.beq g a.N.append with|true=>some "list.append"|false=>match Nat.beq g a.N.lJ with|true=>some "list.extend"|false=>match Nat.beq g a.N.f5 with|true=>some "list.pop"|false=>bS (Nat.beq g a.N.iD) (some "list.index"))=some id/\_
 generalize P:Nat.beq g a.N.append=N;induction N with
 |true=>rw[P] at e;exact aA e λx B e=>bR e λh e=>⟨_,rfl,λf i A w K c H I p r=>(qa B▸r).hR (q:=λc=>aR _ (call (.builtin "list.append") (K::c) []) X w R L) λo m=>bz (p:=λL R=>aR _ _ X w R L) e (Ju I s h p m)⟩
 |false=>
  rw[P] at e;generalize y:Nat.beq g a.N.lJ=N;induction N with
  |true=>rw[y] at e;exact aA e λx B e=>aA e λl k e=>bR e λh e=>⟨_,rfl,λf i A w K c H I p r=>(qa B▸r).hR (q:=λc=>aR _ (call (.builtin "list.extend") (K::c) []) X w R L) λo m=>bz (p:=λL R=>aR _ _ X w R L) e (My I s k h p m)⟩
  |false=>
   rw[y] at e;exact bR e λv e=>v▸aA e λr F e=>⟨_,rfl,λf i A w K c H I p Q=>bz (p:=λL R=>aR _ _ X w R L) e ((Sb (x:=r.1) (r:=r.2) F).elim (λz=>(z.1▸Q).eh (q:=λc=>aR _ (call (.builtin "list.pop") (K::c) []) X w _ _) (Se I s z.2 p))
    λz=>(z.1▸Q).hR (q:=λc=>aR _ (call (.builtin "list.pop") (K::c) []) X w _ _) λj n=>n.dt (p:=λj=>aR _ (call (.builtin "list.pop") [K,j] []) X w _ _) λt=>Sa I (z.2▸s) p)⟩
def QE(c:gB d X=some (.D P T))(e:bS (Nat.beq g b.N.get) (gC P T i)=some L):nN b d g i X L X:=bR e λz e=>⟨"dict.get",by refine(La c)▸?_;show(match Nat.beq g b.N.get with|true=>some "dict.get"|false=>bS (Nat.beq g b.N.f5) (some "dict.pop"))=_;rw[z],λf j A w K t H I p r=>(ky I.aH c p).elim λa h=>h.1▸h.2.2.elim λG N=>LC I H h.2.1 N.1 N.2.2 e r⟩
def QG(S:kn b)(e:Ae b.N d g h X=some L):nN b d g h X L X:=by
 have E:(Y (gB d X) λc=>match c with
  |.D k T=>bS (Nat.beq g b.N.get) (gC k T h)
  |.L O=>bS (!tl d) (bS (Nat.beq g b.N.iD) (Y (d' h) λx=>Y (vU x O 0) λi=>some (.int (.ofNat i))))
  |.T _=>none)=some L->nN b d g h X L X:=λe=>by
  refine aA e λn j e=>?_;induction n with
  |D k T=>exact QE j e
  |T=>exact ns e
  |L O=>
   refine bR e λC e=>bR e λz e=>aA e λx B e=>aA e λi q D=>?_;have aD:=K' j C;subst aD;have z:=W2 z;subst z;refine⟨"list.index",?_,λf o A w K t H I p r=>(qa B▸r).hR (q:=λt=>aR _ (call (.builtin "list.index") (K::t) []) X w X L) λl m=>p.ig (p:=λK=>aR _ (call (.builtin "list.index") [K,l] []) X w X L) λa G _ P s F=>b6 D (OB I P s F q m)⟩;refine(?_:(match Nat.beq b.N.iD b.N.append with|true=>some "list.append"|false=>match Nat.beq b.N.iD b.N.lJ with|true=>some "list.extend"|false=>match Nat.beq b.N.iD b.N.f5 with|true=>some "list.pop"|false=>bS (Nat.beq b.N.iD b.N.iD) (some "list.index"))=_)
   rw[kn.cC S.iD S.append (by decide),kn.cC S.iD S.lJ (by decide),kn.cC S.iD S.f5 (by decide),Xn];rfl
 induction d using V.casesOn with|str x=>exact bR e λz e=>aA e λy u e=>aA e λJ v e=>⟨"str.startswith",by show bS (Nat.beq g b.N.rV) _=_;refine z▸?_;rfl,λf o A w K t H I p r=>(qa u▸r).hR (q:=λt=>aR _ (call (.builtin "str.startswith") (K::t) []) X w X L) λl m=>b6 e (Ui I p (uR v▸m))⟩|_=>exact E e
def QI(S:kn a)(e:iH a.N b g d X=some (L,R)):nN a b g d X L R:=by
 have e:(match tm a.N b g X with
  |some q=>match q.2 with
   |.ae O _=>wu a.N q.1 O g d X
   |.ah k T _=>bS (Nat.beq g a.N.f5) (bS (zM k) (Y (d' d) λx=>Y (fq x) λn=>Y (bL T (.i n)) λw=>some (w,X.set q.1 (.ah .I (gR T (.i n)) 0))))
   |.ins _ _=>none
  |none=>Y (Ae a.N b g d X) λw=>some (w,X))=some (L,R):=e
 generalize c:tm a.N b g X=N;induction N with
 |none=>rw[c] at e;exact aA e λr u e=>bz e (QG S u)
 |some q=>
  rw[c] at e;have c:(match Nat.beq g a.N.get with|true=>none|false=>WG b X)=some q:=c
  generalize j:Nat.beq g a.N.get=N;induction N with
  |true=>rw[j] at c;exact ns c
  |false=>
   rw[j] at c;have i:=Ba c;induction q with
   |mk p o=>induction o with
    |ae O l=>have h:l=0:=i.2.2;subst h;exact i.1▸QF i.2.1 e
    |ins=>exact ns e
    |ah P T l=>
     have h:l=0:=i.2.2;subst h;refine bR e λz e=>bR e λv e=>aA e λx B e=>aA e λn y e=>aA e λr F e=>bz (p:=λL R=>nN a b g d X L R) e ?_;induction P with
     |I=>
      refine i.1▸⟨"dict.pop",?_,λf D A w K m H I p r=>(qa B▸r).hR (q:=λm=>aR _ (call (.builtin "dict.pop") (K::m) []) X w _ _) λs C=>(hH y▸C).dt (p:=λs=>aR _ (call (.builtin "dict.pop") [K,s] []) X w _ _) λt=>LL I i.2.1 F p⟩;refine(Bx i.2.1)▸(?_:(match Nat.beq g a.N.get with|true=>some "dict.get"|false=>bS (Nat.beq g a.N.f5) (some "dict.pop"))=_)
      refine j▸z▸?_;rfl
     |_=>exact bb v
def RY{k:ja}{v:Sem Bool}{Q:ZO×ZJ->ZN}{E:ZG}(W:lq c.X)(O:c.X.K.In w.h)(R:bB c.X X w)(S:xR c.X d k)(F:ku e X=some d)(I:bM X e g=none)(n:au k.kS g=some i)(p:o c.X w e l)
  (q:Q (.ref (c.X.di i),[l]) w.s):aad c (getMethod l (c.X.az g) v) Q E w.s:=by
 have t:∃P,zJ e X=some (d,P)/\au P g=none:=by
  induction e using V.casesOn with
  |ins j b P=>exact⟨P,by refine(WZ F)▸?_;rfl,I⟩
  |ref a=>
   have F:(match X.get a with|some (.ins c _)=>some c|_=>none)=some d:=F
   have I:(match X.get a with|some (.ins _ P)=>au P g|_=>none)=none:=I
   refine(?_:∃P,(match X.get a with|some (.ins c P)=>some (c,P)|_=>none)=some (d,P)/\_)
   generalize s:X.get a=A;induction A with
   |none=>rw[s] at F;exact ns F
   |some H=>
    rw[s] at F I;induction H with
    |ins j P=>exact⟨P,by rw[<-WZ F],I⟩
    |_=>exact ns F
  |_=>exact ns F
 have r:=W.cls d S.lt;exact t.elim λP z=>(EK R z.1 p).elim λx h=>h.2.2.elim λy N=>N.elim λG N=>by rw[h.1] at q⊢;have m:=S.aC g i n;exact N.2.1.elim λu T=>method_fn O (od:=some (dictOf G u)) ⟨N.1,rfl,rfl,T⟩ r.DV r.gt m.1 (beq_iff_eq.mp m.2.1) (by unfold shadowIn;dsimp only;rw[lookIn_dict,((N.2.2.zc W g).elim (λf=>f.elim λC f=>f.elim λB f=>ns (z.2.symm.trans f.1)) λf=>f.2)];rfl) q
def Wu(h:Wx G<=m):(cD z g G b).length<=m:=by
 refine W5 (Xu ?_) h
 clear h
 induction G generalizing b with|nil=>rfl|cons a r S=>exact hX▸W0 Nat.succ S
def Iv(i:∀e,bT n e)(S:∀a,nM n a):bT (n+1) (.aC H m G):=λc A X v R k x w e Y C=>bK e λu P O e=>by
 have F:=ar Y;have B:=ar F;have D:=ar B;have I:=ar D;have b:=ar I;have r:=ar b;have e:=e
 refineλQ E q=>FP (aN B) (aN b) (Wu (nT (aN I))) (by rw[<-p3];exact aN D) ((i H).aO O (aN r) C.aW _ E λw1 J l g=>?_)
 have L:=C.aW.aF l;generalize o:ku u P=N;induction N with
 |some d=>
  rw[o] at e;generalize p:bM P u (ht m)=N;induction N with
  |some _=>rw[p] at e;exact ns e
  |none=>rw[p] at e;exact aA e λT z e=>aA e λf y e=>bR e λV e=>bK e λZ U j e=>(RY C.ok.az L.lT l.aH (C.ok.cls d T z) o p y g (bP.aO (si i j (ar r) (aN b) L (t' (C.ok.E2 d T _ f z y)) λs t h K=>(fo.call (S f c .inl _ _ _ _ s (J::t) nofun e C.ok C.aM (C.dK.jw (XT (W5 (Xl (XE 39 (nT V)) 59) (nT (aN F))))) (L.ag.aF h) (.cons (g.ext (L.ag.ext h)) K)))) C.ag l q))
 |none=>rw[o] at e;refine bK e λZ U j e=>bR e λW e=>?_;have M:=QI C.ok.aC e;rw[nN,<-W2 W] at M;exact M.elim λid M=>Nn C.ok.aC l.aH g M.1 (bP.aO (si i j (ar r) (aN b) L AY λs t h K=>M.2 c.f c.af c.A s J t C.units (L.ag.aF h) (g.ext (L.ag.ext h)) K) C.ag l q)
end
def EJ(x:Int)(l:ZM):(mV x l).Perm (x::l):=by
 induction l with
 |nil=>exact .refl _
 |cons y r S=>
  show(match gh y x with|true=>y::mV x r|false=>x::y::r).Perm _
  generalize gh y x=N;induction N with|true=>exact(S.cons y).trans (.swap x y r)|false=>exact .refl _
def Bc(l:ZM):(oP l).Perm l:=by
 induction l with|nil=>exact .refl _|cons x r S=>exact(EJ x _).trans (S.cons x)
def OG(x:Int)(l:ZM)(h:l.Pairwise (·<=·)):(mV x l).Pairwise (·<=·):=by
 induction l with
 |nil=>exact .cons (λ_ h=>eu h) .nil
 |cons y r S=>
  rw[Ys] at h;show(match gh y x with|true=>y::mV x r|false=>x::y::r).Pairwise _
  have p:=ti y x;generalize L:gh y x=N;induction N with|true=>exact .cons (λz f=>(Xm.mp ((EJ x r).mem_iff.mp f)).elim (λe=>e▸Int.le_of_lt (of_decide_eq_true (p.symm.trans L))) (h.1 z)) (S h.2)|false=>have a:=Zw.mp (of_decide_eq_false (p.symm.trans L));exact .cons (λz f=>(Xm.mp f).elim (λe=>e▸a) λf=>Zy a (h.1 z f)) (.cons h.1 h.2)
def T3(l:ZM):(oP l).Pairwise (·<=·):=by
 induction l with|nil=>exact .nil|cons x r S=>exact OG x _ S
def G'(p:G.Perm l)(s:G.Pairwise (·<=·)):G=oP l:=
 List.Perm.eq_of_pairwise (λa b _ _ x y=>Int.le_antisymm x y) s (T3 l) (p.trans (Bc l).symm)
def HW{C:Prop}(e:fR (x::a)=some l)(k:∀i G,x=.int i->fR a=some G->l=i::G->C):C:=by
 induction x using V.casesOn with
 |int i=>
  have e:(match fR a with|some l=>some (i::l)|none=>none)=some l:=e
  generalize h:fR a=N;induction N with
  |none=>rw[h] at e;exact ns e
  |some G=>rw[h] at e;exact k i G rfl h (WZ e).symm
 |_=>exact ns e
def EM(e:fR d=some l)(r:aK X w d c):IntsAre c l:=by
 induction d generalizing l c with|nil=>exact WZ e▸r.eh (q:=λc=>IntsAre c []) .nil|cons x d S=>exact HW e λi G B f A=>A▸r.dM (q:=λc=>IntsAre c (i::G)) λv c a b=>(B▸a).dt (p:=λv=>IntsAre (v::c) (i::G)) λt=>.cons _ _ (S f b)
def AP(h:IntsAre a l):aK X w (l.map .int) a:=by
 induction h with|nil=>exact .nil|cons _ _ _ S=>exact .cons .int S
def rm(h:IntsAre a l):a.length=l.length:=by
 induction h with|nil=>rfl|cons _ _ _ S=>exact W0 Nat.succ S
set_option backward.match.sparseCases true in
def Lb{E:ZG}(f:s.heap.IsTuple l a.toArray)
  (h:Q a {s with heap:=(s.heap.push (seqObj "list" #[] 0)).update (aah s) (Obj.mapSeq (·++a.toArray))})(F:a.length<=sizeLine):
  wpAny (model prog w) A (collect (.ref l)) Q E s:=by
 obtain⟨o,c,L,n,T⟩:=id f;unfold collect;refine W6 (wpAny_runValue (Zc entry_proto_collect' ?_));refine W6 (Y2 (Xc ⟨Code.quiet_builtin _ (by decide+kernel),Zc entry_list_iadd' ?_⟩))
 have b:(s.heap.push (seqObj "list" #[] 0)).get? l=some o:=Heap.get?_push_of_some _ c;refine(?_:wpAny _ _ (Builtin.List.listExtendWith (.ref (aah s)) (.ref l) (.ref (aah s))) _ _ {s with heap:=s.heap.push (seqObj "list" #[] 0)})
 unfold Builtin.List.listExtendWith;refine W6 (wpAny_typeOf ⟨o,b,L⟩ ?_);have V:(Value.type "tuple"==Value.type "tuple"):=by rfl
 rw[if_pos (by rw[V];simp)]
 refine W6 (listItems_at b T ?_);refine W6 (listItems_at (Heap.get?_push_size _ rfl) rfl ?_);rw[if_neg (by simp)]
 refine W6 (listUpdate_at (Heap.get?_push_size _ rfl) rfl ?_ (Xj _) (by show(#[]++a.toArray).size<=sizeLine+1;simp only [Array.size_append,Xo,Yv];lia))
 refine Xc ?_;show wpAny (model prog w) A (do
   let o<-load (aah s)
   match o.data with
   |.seq O _=>pure O.toList
   |_=>unsupported "internal:collect") Q E {s with heap:=(s.heap.push (seqObj "list" #[] 0)).update (aah s) (Obj.mapSeq (·++a.toArray))}
 refine W6 (wpAny_load (get?_update_seq (Heap.get?_push_size _ rfl) _) ?_);refine(?_:wpAny _ _ (pure ((#[]:Array ZO)++a.toArray).toList) Q E _);rw[show((#[]:Array ZO)++a.toArray).toList=a by simp]
 exact Xc h
def T7{ns:ZM}{E:ZG}
  (L:∀{c:ZJ->ZN},c a {s with heap:=(s.heap.push (seqObj "list" #[] 0)).update (aah s) (Obj.mapSeq (·++a.toArray))}->wpAny (model prog w) A.in1 (collect x) c E s)(k:IntsAre a ns)(e:a.length<64)
  (h:∀(r:Array ZO)(b:ZM),IntsAre r.toList b->b.Perm ns->b.Pairwise (·<=·)->Q (.ref ((aah s)+1)) {s with heap:=sortedAll s.heap a r}):
  wpAny (model prog w) A (call (.builtin "sorted") [x]) Q E s:=by
 refine Calls.call_function_entry kind_sorted plain_sorted entry_sorted (args_sorted1 _) ?_;unfold Builtin.«sorted»;refine W6 (Xc ?_);refine W6 (L ?_);refine W6 (Y2 ?_ (by refine sizeLine_eq▸?_;lia))
 have F:((s.heap.push (seqObj "list" #[] 0)).update (aah s) (Obj.mapSeq (·++a.toArray))).objs.size=(aah s)+1:=by rw[Y4,size_push']
 have d:(((s.heap.push (seqObj "list" #[] 0)).update (aah s) (Obj.mapSeq (·++a.toArray))).push (seqObj "list" a.toArray 0)).get? ((aah s)+1)=some (seqObj "list" a.toArray 0):=by exact F▸Heap.get?_push_size _ rfl
 exact F▸W6 (Yd (YE slot_list_sort ⟨_,d,rfl⟩ entry_list_sort (list_sort_tree d k e λr b f R T=>⟨_,rfl,(Xc ⟨_,rfl,h r b f R T⟩)⟩) (args_list_sort _)))
section
variable{c:cu}{X T:Z}{w B:aL}{x:ZO}
def z6(h:a<64):a<=b0:=W5 (Xw h) (by decide)
def Hc(I:aP c X w)(F:aK c.X w f a)(i:a.length<64)(K:fR f=some l)
  (L:∀{A:ZX}{E:ZG}{d:ZJ->ZN},d a {w.s with heap:=(w.s.heap.push (seqObj "list" #[] 0)).update (aah w.s) (Obj.mapSeq (·++a.toArray))}->wpAny (aae c) A (collect x) d E w.s):
  aR c (call (.builtin "sorted") [x] []) X w (dj g ((oP l).map .int) X).2 (dj g ((oP l).map .int) X).1:=λQ E q=>by
 have k:=EM K F;refine T7 L k i λr n h R T=>?_;have e:=G' R T;subst e;exact(sortedAll_at w.s.heap a r).elim λe H=>(tG I (.all I λb o e=>sortedAll_old e) (Heap.get?_none_of_le (Xt _)) ⟨e,H⟩ (by exact(rm h)▸((Bc l).length_eq)▸(rm k)▸z6 i) (AP h) g).elim λB z=>by have y:=q B _ z.2.1 z.2.2;rw[z.1] at y;exact y
def E4(G:ZE):(ie G).length=G.length:=by
 induction G with|nil=>rfl|cons x r S=>exact W0 Nat.succ S
def O6{O:List (Int×ZO)}(r:b2 c.X w a (O.map λp=>(aE.i p.1,p.2)))(e:fR (ie a)=some l):l=O.map (·.1):=by
 induction a generalizing O l with
 |nil=>induction O with
  |nil=>exact(WZ e).symm
  |cons=>cases r
 |cons p a S=>induction O with
  |nil=>cases r
  |cons y O=>cases r with
   |cons m E=>refine HW e λi G B f A=>?_;have B:y.1=i:=W0 (λ|V.int i=>i|_=>0) B;exact A▸(S E f)▸XD▸B▸rfl
def OJ{O:List (Int×ZO)}(e:f.length=O.length)(A:∀(b:Nat)(a:ZO),f[b]?=some a->∃d x,O[b]?=some (d,x)/\(intKind c.X.prog c.X.w).is d a):IntsAre f (O.map (·.1)):=by
 induction f generalizing O with
 |nil=>induction O with
  |nil=>exact .nil
  |cons=>nomatch e
 |cons a f S=>induction O with
  |nil=>nomatch e
  |cons p O=>
   refine(A 0 a rfl).elim λd h=>h.elim λx h=>?_;have g:=WZ h.1;have N:=h.2;subst g;induction a with|int i t=>exact(beq_iff_eq.mp N:i=d)▸.cons _ _ (S (Yr e) λb a P=>A (b+1) a P)|_=>exact bb N
def T5(I:aP c X w)(V:c.A.handled=none)(a':(d==sysModules)=false)(i:ez c.X w .I d f)(K:b2 c.X w a f)(A:(ie a).length<64)(M:fR (ie a)=some l):
  aR c (call (.builtin "sorted") [.ref d] []) X w (dj g ((oP l).map .int) X).2 (dj g ((oP l).map .int) X).1:=λQ E q=>i.elim λxs i=>i.1.dictAt.elim λc' O=>I.aM.elim λm F=>by
 have J:xs.length=(ie a).length:=by rw[E4,K.length,i.2,Xs]
 refine kdu_sorted (kdl_dict a') V F jj O (by refine J▸?_;exact jA _ (z6 A)) λD P e2 h S k Z C W=>?_
 have v:=(O6 (i.2▸K) M)▸OJ C W;have L:=k _ (.head _);have Y:gw c.f.L w.h P:=.AD F S k λp X=>.tail _ X;have u:w.h.get? D=none:=by
  generalize e:w.h.get? D=cK;induction cK with|none=>rfl|some o=>exact absurd (Z _ (ji.mpr ⟨e,L.2.1,L.2.2⟩)) (Yj _)
 have H:h.length<64:=by exact C▸J▸A
 refine YE slot_list_sort ⟨_,L.1,rfl⟩ entry_list_sort (list_sort_tree L.1 v H λr ns' s R T=>⟨_,rfl,?_⟩) (args_list_sort _);have e:=G' R T;subst e;have j:∀b o,b≠D->P.get? b=some o->(sortedHeap P D h r).get? b=some o:=λb o n e=>by exact(sortedHeap_old n (XA e))▸e
 have t:∀m,Fr c.f.g c.f.L P m->Fr c.f.g c.f.L (sortedHeap P D h r) m:=λm S=>⟨S.ns.at' λo e=>j _ o (Ne.symm L.2.1) e,λb o e=>j b o (λz=>cj (z▸e) L.2.2) (S.keep b o e),S.above⟩;have N:iv c w (sortedHeap P D h r):=⟨λe1 G=>kU F.ns G.ns▸t m S,⟨λb o n e=>j b o (λz=>cj (z▸e) u) (Y.keep b o n e),(t m S).ns.elim λo x=>x.elim λ_ x=>x.elim λ_ x=>⟨o,x.1⟩⟩⟩;exact(sortedHeap_at L.1).elim λe U=>(tG I N u ⟨e,U⟩ (by exact(rm s)▸((Bc l).length_eq)▸(rm v)▸z6 H) (AP s) g).elim λB z=>by have y:=q B _ z.2.1 z.2.2;rw[z.1] at y;exact y
end
def PR{E:ZG}(d:s.heap.get? a=some (seqObj "list" #[b] c))
  (h:Q (.done (.ret .none)) {s with heap:=sortedHeap s.heap a [b] #[b]}):wpAny (model prog w) A (Builtin.«list.sort» ⟨[.ref a],[]⟩) Q E s:=by
 rw[list_sort_plain];have e:a<(aah s):=XA d;refine W6 (listItems_at d rfl ?_);refine W6 (listUpdate_at d rfl ?_);obtain⟨O,f⟩:∃O,(s.heap.update a (Obj.mapSeq λ_=>#[])).get? a=some (seqObj "list" #[] O):=⟨_,get?_update_seq d λ_=>#[]⟩;refine W6 (seqEpoch_at f rfl ?_);refine W6 (wpAny_newTuple ?_);refine W6 (Y2 ?_);refine Yd ?_;have g:(((s.heap.update a (Obj.mapSeq λ_=>#[])).push (seqObj "tuple" [b].toArray 0)).push (seqObj "list" #[] 0)).get? a=some (seqObj "list" #[] O):=by
  rw[Heap.get?_push_ne _ _ _ (by rw[size_push',Y4];exact Xi (XH e)),Heap.get?_push_ne _ _ _ (by rw[Y4];exact Xi e)]
  exact f
 refine(?_:wpAny (model prog w) A _ Q E {s with heap:=((s.heap.update a (Obj.mapSeq λ_=>#[])).push (seqObj "tuple" [b].toArray 0)).push (seqObj "list" #[] 0)})
 dsimp only;have N:(#[b]:Array ZO).size<2:=by simp
 rw[if_pos N,if_pos N];refine W6 (Xc ?_);rw[StateT.run_pure];refine W6 (Xc ?_);dsimp only;refine W6 (seqEpoch_at g rfl ?_);refine W6 (listUpdate_at g rfl ?_ (hsz2:=by rw[Array.size_map];show(pairsOf [b]).size<=_;rw[pairsOf_size,sizeLine_eq,Y7];decide))
 simp only [bne_self_eq_false,Bool.false_eq_true,if_false]
 have p:Array.map (λx=>x.2) (arrOf (SortSt.mk' general' (#[b].zip #[b]) #[] 7 none))=#[b]:=by refine(?_:Array.map (λx=>x.2) (#[b].zip #[b])=#[b]);simp
 rw[p];exact Xc h
def T8{E:ZG}(f:s.heap.IsList l [a].toArray)(h:Q (.ref ((aah s)+1)) {s with heap:=sortedAll s.heap [a] #[a]}):
  wpAny (model prog w) A (call (.builtin "sorted") [.ref l]) Q E s:=by
 refine Calls.call_function_entry kind_sorted plain_sorted entry_sorted (args_sorted1 _) ?_;unfold Builtin.«sorted»;refine W6 (m:=checkCount "sorted" 1 1 _) (Xc ?_);refine W6 (collect_list f ?_ (by refine Y7▸?_;decide))
 refine W6 (Y2 ?_ (by refine Y7▸?_;decide))
 have F:((s.heap.push (seqObj "list" #[] 0)).update (aah s) (Obj.mapSeq (·++[a].toArray))).objs.size=(aah s)+1:=by rw[Y4,size_push']
 have b:(((s.heap.push (seqObj "list" #[] 0)).update (aah s) (Obj.mapSeq (·++[a].toArray))).push (seqObj "list" [a].toArray 0)).get? ((aah s)+1)=some (seqObj "list" [a].toArray 0):=by exact F▸Heap.get?_push_size _ rfl
 exact F▸W6 (Yd (YE slot_list_sort ⟨_,b,rfl⟩ entry_list_sort (PR b ⟨_,rfl,(Xc ⟨_,rfl,h⟩)⟩) (args_list_sort _)))
def OZ{d:Nat->Nat->(Bool->ZN)->ZN}(k:∀i B b X,aw i B=some b->X b s->d i B X s)(t:KasT α):∀{a:α},kN aw t=some a->Q a s->t.kasWp d Q s:=by
 induction t with
 |ret x=>exactλe q=>b6 (p:=λa=>Q a s->(KasT.ret x).kasWp d Q s) e (λq=>q) q
 |ask i B c S=>
  intro a e q;unfold kN at e;generalize G:aw i B=N;induction N with|none=>rw[G] at e;exact ns e|some b=>rw[G] at e;exact k i B b _ G (S b e q)
def O1:∀{f:ZF}{c d:ZJ}{i:Nat}{r:Bool},qw qv g f=some r->aK X w g c->aK X w f d->Q r w.s->KatLex X.prog X.w A b (decide (c.length<d.length)) Q (c.zip d) i w.s:=by
 induction g with
 |nil=>
  intro f c d i r e j h q;refine j.eh (q:=λc=>KatLex X.prog X.w A b (decide (c.length<d.length)) Q (c.zip d) i w.s) ?_;induction f with
  |nil=>exact h.eh (q:=λd=>KatLex X.prog X.w A b (decide (([]:ZJ).length<d.length)) Q ([].zip d) i w.s) (kat_nil (b6 (p:=λr=>Q r w.s->Q false w.s) e id q))
  |cons y f=>exact h.dM (q:=λd=>KatLex X.prog X.w A b (decide (([]:ZJ).length<d.length)) Q ([].zip d) i w.s) λv d _ _=>kat_nil (by show Q (decide (0<d.length+1)) w.s;exact(decide_eq_true (Nat.zero_lt_succ _))▸b6 (p:=λr=>Q r w.s->Q true w.s) e id q)
 |cons x g S=>
  intro f c d i r e j h q;refine j.dM (q:=λc=>KatLex X.prog X.w A b (decide (c.length<d.length)) Q (c.zip d) i w.s) λv c m E=>?_;induction f with
  |nil=>exact h.eh (q:=λd=>KatLex X.prog X.w A b (decide ((v::c).length<d.length)) Q ((v::c).zip d) i w.s) (kat_nil (b6 (p:=λr=>Q r w.s->Q false w.s) e id q))
  |cons y f=>
   refine h.dM (q:=λd=>KatLex X.prog X.w A b (decide ((v::c).length<d.length)) Q ((v::c).zip d) i w.s) λu d l n=>?_;refine(show decide ((v::c).length<(u::d).length)=decide (c.length<d.length) from by rw[Xx,Xx,XS,decide_eq_true_iff,decide_eq_true_iff];exact Nat.succ_lt_succ_iff)▸?_
   have e:(match iO x y with|some true=>qw qv g f|some false=>qv x y|none=>none)=some r:=e
   generalize aD:iO x y=N;induction N with
   |none=>rw[aD] at e;exact ns e
   |some t=>
    rw[aD] at e;induction t with
    |true=>exact kat_cons (BB (A:=A) aD m l X.prog X.w _ _ (kat_yes (S e E n q)))
    |false=>
     refine kat_cons (BB (A:=A) aD m l X.prog X.w _ _ (kat_no ?_));refine aA e λa I e=>aA e λR s e=>?_;refine((hH I▸m).dt (p:=λv=>∃t,v=Value.int a t) λt=>⟨t,rfl⟩).elim λK P=>?_;refine((hH s▸l).dt (p:=λv=>∃t,v=Value.int R t) λt=>⟨t,rfl⟩).elim λo k=>?_;refine P▸k▸?_;have q:Q (decide (a<R)) w.s:=ti a R▸b6 (p:=λr=>Q r w.s->Q (gh a R) w.s) e id q;generalize G:(b&&i==0)=N;induction N with|true=>exact oneLt_int q|false=>exact kat_one _ _ (PyProof.Rows.lt_int (Q:=PySem.W.BoolBack Q) q)
def zA(h:te x)(r:o X w x c):∃d,x=.ay d/\∃a b,c=.ref a/\w.h.IsTuple a b.toArray/\aK X w d b/\∃i t l,b=.int i t::l:=by
 induction x using V.casesOn with
 |ay d=>induction d with
  |nil=>exact bb h
  |cons y l=>induction y using V.casesOn with
   |int i=>exact⟨_,rfl,r.gr (p:=λc=>∃a b,c=.ref a/\w.h.IsTuple a b.toArray/\aK X w _ b/\∃i t l,b=.int i t::l) λa b _ e _ Q=>⟨a,b,rfl,e,Q,Q.dM (q:=λb=>∃i t l,b=.int i t::l) λc l m _=>m.dt (p:=λc=>∃i t G,c::l=.int i t::G) λt=>⟨i,t,l,rfl⟩⟩⟩
   |_=>exact bb h
 |_=>exact bb h
def O2(e:d.all te)(r:aK X w d b):∃P,KatTups w.h b P/\P.length=b.length/\∀c∈P,∃i t,c=.int i t:=by
 induction d generalizing b with|nil=>exact r.eh (q:=λb=>∃P,KatTups w.h b P/\P.length=b.length/\∀c∈P,∃i t,c=.int i t) ⟨[],trivial,rfl,λ_ B=>eu B⟩|cons x d S=>rw[Yo] at e;exact r.dM (q:=λb=>∃P,KatTups w.h b P/\P.length=b.length/\∀c∈P,∃i t,c=.int i t) λc b m E=>(S (ar e) E).elim λP k=>(zA (aN e) m).elim λf z=>z.2.elim λa z=>z.elim λl z=>z.2.2.2.elim λi y=>y.elim λt y=>y.elim λG y=>z.2.1.elim λo s=>s.2.2.elim λn T=>by exact z.1▸⟨.int i t::P,.cons s.1 s.2.1 T (by refine y▸?_;rfl) k.1,W0 Nat.succ k.2.1,λc A=>(Xm.mp A).elim (λe=>⟨i,t,e⟩) (k.2.2 c)⟩
def R8(r:aK X w b c):∀{a:ZF},t5 b l=some a->aK X w a (l.map λi=>c.getD i Value.none):=by
 induction l with|nil=>exactλe=>b6 (p:=λa=>aK X w a []) e .nil|cons i l S=>exactλe=>aA e λx d e=>aA e λf h e=>b6 (p:=λa=>aK X w a _) e (by exact(r.lN (tS b i▸d)).elim λv z=>by exact XD▸(List.getD_eq_getElem?_getD)▸z.1▸.cons z.2 (S h))
def T6(I:aP c d w)(J:w.h.PlainList a l.toArray)(s:aK c.X w h l)(hj:l.length<64)(P:h.all te)(hne:h≠[])(G:Bd h=some f)(hf:eC f):
  aR c (call (.builtin "sorted") [.ref a] []) d w (dj g f d).2 (dj g f d).1:=by
 have el:2<=l.length->Y (kN (λi j=>Y (a3 h i) λx=>Y (a3 h j) λy=>oS x y) (kas_sort (Wx h))) (λp=>t5 h p.toList)=some f->aR c (call (.builtin "sorted") [.ref a] []) d w (dj g f d).2 (dj g f d).1:=λH G Q E q=>aA G λp Z G=>I.aM.elim λm F=>by
  rw[dP,s.length] at Z;refine kat_sorted F jj J.isList H hj λD e1 S V W lt=>?_;have N:iv c w S:=.jx F V W λp d=>.tail _ d;have T:aT c d w d (w.ab S w.s.toks):=.gU I N.gU N.aM ⟨_,_,rfl⟩;have R:=s.ext (I.ext T);refine(O2 P R).elim λfs k=>?_;refine kat_kind (s:=(w.ab S w.s.toks).s) (T:=.type "int") k.1 (W4 (Nat.zero_lt_succ 1) (k.2.1▸H)) (λv K=>(k.2.2 v K).elim λi y=>y.elim λt y=>y▸Looks.of_pure rfl) rfl ?_;refine OZ (λi j b C n hi=>aA n λx L n=>aA n λy M n=>?_) _ Z ?_
  .rw[tS] at L M
   refine(R.lN L).elim λv K=>(R.lN M).elim λu a'=>?_;unfold kas_ask;rw[List.getD_eq_getElem?_getD,List.getD_eq_getElem?_getD,K.1,a'.1];refine(zA (Xb.mp P x (List.mem_of_getElem? L)) K.2).elim λus z=>(zA (Xb.mp P y (List.mem_of_getElem? M)) a'.2).elim λus' fi=>z.2.elim λa1 A=>A.elim λvs1 A=>fi.2.elim λa2 B=>B.elim λvs2 B=>A.2.1.elim λkz t1=>t1.2.2.elim λkd fv=>B.2.1.elim λk0 e2=>e2.2.2.elim λkk f'=>?_;rw[A.1,B.1];refine kat_lt t1.1 fv e2.1 f' ?_;rw[z.1,fi.1] at n;have q:=O1 (A:=c.A.in1.in1) (w:=w.ab S w.s.toks) (b:=(Value.type "int" != Value.type "tuple")) (Q:=C) (i:=0) (r:=b) n A.2.2.1 B.2.2.1 hi
   simpa using q
  .refine KasFin.intro V W (.head λp d=>Xi (lt p d)) λH c' fl X=>?_
   have O:=X _ (.head _);have fp:iv c w H:=.jx F fl X λp d=>.tail _ d;have hDn:w.h.get? D=none:=by
    generalize e:w.h.get? D=h1;induction h1 with|none=>rfl|some o=>exact absurd (lt _ (ji.mpr ⟨e,O.2.1,O.2.2⟩)) (Yj _)
   have cK:=R8 s G;exact(tG I fp hDn ⟨c',O.1⟩ (by exact cK.length▸Xw (pH hf)) cK g).elim λU z=>by have y:=q U _ z.2.1 z.2.2;rw[z.1] at y;exact y
 induction h with
 |nil=>exact absurd rfl hne
 |cons x r=>induction r with|nil=>exact b6 (p:=λf=>aR c _ d w (dj g f d).2 (dj g f d).1) G (s.hR (q:=λl=>w.h.PlainList a l.toArray->aR c _ d w (dj g [x] d).2 (dj g [x] d).1) (λv hF J Q E q=>T8 J.isList ((sortedAll_at w.s.heap [v] #[v]).elim λe he=>(tG (t:=w.s.toks) I (.all I λb o e=>sortedAll_old e) (Heap.get?_none_of_le (Xt _)) (d:=[v]) ⟨e,he⟩ (WY rfl) (.cons hF .nil) g).elim λU z=>by have y:=q U _ z.2.1 z.2.2;rw[z.1] at y;exact y)) J)|cons y r=>exact el (by exact s.length▸Xp (Xp (Xj _))) G
section
variable{c:cu}{k n:Nat}{X:ZD}{R Q:Z}{w B:aL}{P v:V}{O:ZO}{g:Bool}
def Ud(I:aP c R w)(e:nB d g R=some (P,Q))(f:w.h.PlainList a b.toArray)(X:b.length<=b0)(F:aK c.X w d b):aR c (call (.builtin "sorted") [.ref a] []) R w Q P:=bR e λk e=>by
 have k:=fV k;rw[dP,F.length] at k;have e:=e;generalize A:fR d=N;induction N with|some l=>rw[A] at e;exact bz (p:=λP Q=>aR c _ R w Q P) e (Hc I F k A λq=>collect_list f.isList q (jA _ X))|none=>rw[A] at e;exact bR e λT e=>aA e λE n e=>bR e λh e=>bz (p:=λP Q=>aR c _ R w Q P) e (T6 I f F k T (λz=>by rw[z] at A;exact QX A) n h)
def O7{O:List (Int×ZO)}(r:b2 c.X w T (O.map λp=>(aE.i p.1,p.2))):∃l,fR (ie T)=some l:=by
 induction T generalizing O with
 |nil=>exact⟨[],rfl⟩
 |cons p T S=>induction O with
  |nil=>cases r
  |cons y O=>cases r with
   |cons m E=>
    refine(S E).elim λl e=>⟨y.1::l,?_⟩;refine(?_:(match fR (ie T)with|some l=>some (y.1::l)|none=>none)=_)
    exact e▸rfl
def wa(h:n<=b0):((n:Nat):Int)<2 ^ 63:=Int.lt_of_le_of_lt (Int.ofNat_le.mpr h) (by decide)
def Uv:∀{a r:Int},rX b a=some r->∃l,fR b=some l/\r=a+preSum (λi=>l.getD i 0) l.length:=by
 induction b with
 |nil=>exactλe=>b6 (p:=λr=>∃l,fR []=some l/\r=_+preSum (λi=>l.getD i 0) l.length) e ⟨[],rfl,(ZA _).symm⟩
 |cons x b S=>
  intro a r h;induction x using V.casesOn with
  |int i=>exact(S (h:rX b (a+i)=some r)).elim λl z=>⟨i::l,by
   refine(?_:(match fR b with|some l=>some (i::l)|none=>none)=_)
   rw[z.1],by
   rw[Xx,PySem.W.kdu_shift,z.2];rw[Int.add_assoc];rfl⟩
  |_=>exact ns h
def OI(h:IntsAre a l):∀(i:Nat)(v:ZO),a[i]?=some v->∃t,v=Value.int (l.getD i 0) t:=by
 induction h with
 |nil=>exactλi v e=>ns e
 |cons n t _ S=>exactλi v e=>match i,e with
  |0,e=>⟨t,(WZ e).symm⟩
  |i+1,e=>S i v e
def Ux(I:aP c R w)(N:c.A.handled=none)(e:d5 v R=some d)(g:rX d 0=some r)(p:o c.X w v O):aR c (call (.builtin "sum") [O] []) R w R (.int r):=
 mZ (p:=λO=>aR c (call (.builtin "sum") [O] []) R w R (.int r)) I.aH e p λa D f X F=>(Uv g).elim λl z Q E q=>by
  have k:=EM z.1 F;refine call_sum_walkG (Zt f.isList ?_);have m:=f.elim λH s=>XA s;refine⟨(aah w.s),_,_,_,_,_,λi=>l.getD i 0,rfl,Walks.list (A:=c.A.in1) N (aah w.s) a (Xi m) D.toArray,⟨⟨_,Heap.get?_push_size _ rfl,rfl,rfl⟩,f.isList.push _⟩,λb G=>?_,λi v A=>OI k i v (by rw[List.getElem?_toArray] at A;exact A),λS n t h=>?_⟩
  .rw[YY]
   exact(Xm.mp G).elim (λe=>e▸Xh _) λG=>(Xm.mp G).elim (λe=>e▸XH m) λz=>eu z
  .have j:c3 w.s.heap S:=λb H e=>h b H (λz=>(Xm.mp z).elim (λz=>absurd (XA e) (z▸Yj _)) λz=>eu z) (Heap.get?_push_of_some _ e)
   have P:preSum (λi=>l.getD i 0) D.toArray.size=r:=by rw[z.2,Xo,rm k,Int.zero_add]
   rw[P];exact q (w.ab S n) _ (.all I j) .int
def Vf(I:aP c R w)(e:d5 v R=some d)(p:o c.X w v O):aR c (call (.type "tuple") [O] []) R w R (.ay d):=
 mZ (p:=λO=>aR c (call (.type "tuple") [O] []) R w R (.ay d)) I.aH e p λa D g X F=>bP.zT I X F λQ E k=>call_tuple_list g.isList (λP f=>k _ w.s.toks _ (.all I λb H e=>Heap.get?_push_of_some _ (f b H e)) (by
  generalize e:w.s.heap.get? P.objs.size=N;induction N with|none=>rfl|some H=>exact absurd (XA (f _ _ e)) (Yj _)) (EV _ _)) (mc X)
def PN(I:aP c R w)(e:d5 v R=some b)(p:o c.X w v O):aR c (call (.type "list") [O] []) R w (dj g b R).2 (dj g b R).1:=
 mZ (p:=λO=>aR c (call (.type "list") [O] []) R w (dj g b R).2 (dj g b R).1) I.aH e p λa D f X F=>f.elim λh f=>bP.tu I X F g λQ E k=>call_list_seq a (.inl rfl) f rfl rfl (λP c d L=>k _ w.s.toks _ (.all I d) (hp _) ⟨c,L⟩) (mc X)
def yd:Prop:=∀(c:cu)(R:Z)(w:aL)(k:eU)(v:V)(O:ZO)(l:ZF)(d:ZE),tQ k->hZ c.X c.f->d6 c.f c.A 0->aP c R w->d5 v R=some l->kW k l []=some d->o c.X w v O->
 aR c (call (.type "dict") [O] []) R w (R.new (.ah k d 0)) (.ref R.n)
def JV(K:yd)(X:hZ c.X c.f)(H:d6 c.f c.A 0)(I:aP c R w)(e:WJ g b f R=some (P,Q))(r:aK c.X w f x):aR c (call (qL b) x []) R w Q P:=by
 refine aA e λv aD e=>(qa aD▸r).hR (q:=λx=>aR c (call (qL b) x []) R w Q P) λO p=>?_;induction b with
 |len=>exact(by
   refine aA e λB F e=>(ky I.aH F p).elim λa h=>?_;refine h.1▸?_;have h:=h.2;induction B with
   |L o=>exact bz (p:=λP Q=>aR c _ R w Q P) e (h.elim λf h=>aR.toks I λj E q=>call_len_list h.1.isList (by rw[Xo];exact wa h.2.1) (by rw[Xo,<-h.2.2.length,<-dP];exact q _ _ .int))
   |T o=>exact bz (p:=λP Q=>aR c _ R w Q P) e (h.elim λf h=>aR.toks I λj E q=>PyProof.Rows.len_tuple h.1 (by rw[Xo];exact wa h.2.1) (by rw[Xo,<-h.2.2.length,<-dP];exact q _ _ .int))
   |D y Y=>
    refine bR e λ_ e=>bR e λu e=>bz (p:=λP Q=>aR c _ R w Q P) e (h.2.elim λG N=>aR.toks I λj E q=>?_);have S:∀{m:Nat},m=G.length->(m:Int)<2 ^ 63/\∀t C,j (.int (Int.ofNat m) t) (w.a8 C).s:=λ{m} J=>⟨wa (J▸N.2.1),λt C=>q _ _ (by rw[dP,N.2.2.length,<-J];exact .int)⟩
    induction y with
    |I=>exact N.1.elim λo d=>have z:=S (by rw[d.2,Xs]);call_len_dict h.1 d.1 z.1 (z.2 _ _)
    |S=>exact N.1.elim λo d=>have z:=S (by rw[d.2,Xs]);call_len_dict h.1 d.1 z.1 (z.2 _ _)
    |T=>exact bb u)
 |rW=>exact aA e λl A e=>aA e λs G e=>bz (p:=λP Q=>aR c _ R w Q P) e (Ux I H.bC A G p)
 |sorted=>exact(by
   refine aA e λB F e=>(ky I.aH F p).elim λa h=>?_;refine h.1▸?_;have h:=h.2;induction B with
   |L o=>exact h.elim λf h=>Ud I e h.1 h.2.1 h.2.2
   |T o=>refine aA e λl A e=>bR e λk e=>h.elim λf h=>?_;have k:=fV k;rw[dP,h.2.2.length] at k;rw[A] at e;exact bz (p:=λP Q=>aR c _ R w Q P) e (Hc I h.2.2 k A λq=>Lb h.1 q (jA _ h.2.1))
   |D y Y=>
    refine bR e λ_ M=>bR M λu T=>bR T λk D=>h.2.elim λG N=>?_;induction y with
    |I=>have k:=fV k;rw[dP] at k;refine N.1.elim λo d=>(O7 (d.2▸N.2.2)).elim λl A=>?_;rw[A] at D;exact bz (p:=λP Q=>aR c _ R w Q P) D (T5 I H.bC h.1 N.1 N.2.2 k A)
    |_=>exact bb u)
 |abs=>
  refine aA e λi W e=>bz (p:=λP Q=>aR c _ R w Q P) e ((hH W▸p).dt (p:=λO=>aR c (call (.builtin "abs") [O] []) R w R _) λt=>aR.toks I λj E q=>call_abs_int λZ C=>?_);have z:(if i<0 then -i else i)=Int.ofNat i.natAbs:=by
   induction i with|ofNat n=>exact if_neg (Zw.mpr (XP n))|negSucc n=>exact if_pos (X6 n)
  exact z▸q _ _ .int
 |int=>
  induction v using V.casesOn with
  |int i=>exact bz (p:=λP Q=>aR c _ R w Q P) e (p.dt (p:=λO=>aR c (call (.type "int") [O] []) R w R _) λt=>aR.toks I λj E q=>call_int_int (q _ w.s.toks .int))
  |bool L=>exact bz (p:=λP Q=>aR c _ R w Q P) e (p.kr (p:=λO=>aR c (call (.type "int") [O] []) R w R _) (aR.toks I λj E q=>call_int_bool (by induction L<;>exact q _ _ .int)))
  |_=>exact ns e
 |str=>exact ns e
 |tuple=>exact aA e λl A e=>bz (p:=λP Q=>aR c _ R w Q P) e (Vf I A p)
 |list=>exact aA e λl A e=>bz (p:=λP Q=>aR c _ R w Q P) e (PN I A p)
 |dict y=>exact bR e λu e=>aA e λl A e=>aA e λd U e=>bz (p:=λP Q=>aR c _ R w Q P) e (K c R w y v O l d u X H I A U p)
def JS(b:qA):qK b∈qN/\bootBuiltins (qK b)=some (qL b)/\(qK b==("__debug__":ZV))=false/\qK b≠"__name__":=by induction b<;>first|exact⟨by decide+kernel,by decide+kernel,by decide+kernel,by decide+kernel⟩|(rename_i k;induction k<;>exact⟨by decide+kernel,by decide+kernel,by decide+kernel,by decide+kernel⟩)
def JU(b:qA)(e:List (Bool×Sem ZO))(Q:ZG)(E:ZG)(f:e.any (·.1)=false)
  (h:wpAny (aae c) A (evalArgs (qL b) true e []) (λa d=>c.X.K.In d.heap/\wpAny (aae c) A (call (qL b) (first++a.pos) a.kw) Q E d) E s):wpAny (aae c) A (callWith pos (qL b) first e []) Q E s:=by
 induction b with|int=>exact ua e Q E f h|str=>exact ua e Q E f h|tuple=>exact ua e Q E f h|list=>exact ua e Q E f h|dict=>exact ua e Q E f h|_=>exact AY e Q E f h
def Ie(f:yd)(m:∀e,bT n e):bT (n+1) (.bq g b G):=λc X R v Q k x w e o C=>bK e λD P O e=>by have B:=JS b;have F:=ar (ar o);exact bP.d' C.ag (yE C (n9 (aN o)) B.1 B.2.1 B.2.2.1 B.2.2.2) (λS L l a=>a▸si m O (ar F) (aN F) (C.aW.aF l) (JU b) λs t h p=>JV f C.aM (C.dK.jw (Xj _)) ((C.ag.aF l).aF h) e p) λd E=>YC
end
def wy(h:a≠b):Nat.beq a b=false:=by
 generalize z:Nat.beq a b=N;induction N with|false=>rfl|true=>exact absurd (W2 z) h
def pY(l:List (Nat×α)):au (Wy l a x) a=some x:=by
 induction l with
 |nil=>show(match Nat.beq a a with|true=>some x|false=>none)=_;rw[Xn]
 |cons p r S=>
  show au (match Nat.beq p.1 a with|true=>(p.1,x)::r|false=>(p.1,p.2)::Wy r a x) a=_
  generalize h:Nat.beq p.1 a=N;induction N with
  |true=>show(match Nat.beq p.1 a with|true=>some x|false=>au r a)=_;exact h▸rfl
  |false=>show(match Nat.beq p.1 a with|true=>some p.2|false=>au (Wy r a x) a)=_;exact h▸S
def m1(n:a≠b)(l:List (Nat×α)):au (Wy l a x) b=au l b:=by
 induction l with
 |nil=>show(match Nat.beq a b with|true=>some x|false=>none)=_;refine(wy n)▸?_;rfl
 |cons p r S=>
  show au (match Nat.beq p.1 a with|true=>(p.1,x)::r|false=>(p.1,p.2)::Wy r a x) b=(match Nat.beq p.1 b with|true=>some p.2|false=>au r b)
  generalize h:Nat.beq p.1 a=N;induction N with
  |true=>show(match Nat.beq p.1 b with|true=>some x|false=>au r b)=_;exact(W2 h)▸(wy n)▸rfl
  |false=>show(match Nat.beq p.1 b with|true=>some p.2|false=>au (Wy r a x) b)=_;exact S▸rfl
def FR(h:l0 a x):a x=some .local\/a x=some .cell:=by
 have h:(match a x with|some .local=>true|some .cell=>true|_=>false)=true:=h
 generalize q:a x=N;induction N with
 |none=>have h:=q▸h;exact bb h
 |some z=>have h:=q▸h;induction z<;>first|exact .inl rfl|exact .inr rfl|exact bb h
section
variable{c:cu}{k n q:Nat}{A i G:ZD}{X T:Z}{w B P s:aL}{x:V}
structure hb(c:cu)(X:Z)(w:aL)(A:ZD)(g:ZP->Prop)(B:aL):Prop where
 b7:cO c X w X B
 j:cG X w X B g
 aM:c.af.locals≠c.f.L->∀m,Fr c.f.g c.f.L w.h m->Fr c.f.g c.f.L B.h m
 dc:fI c.X B c.af A
def hb.trans(o:aP c X w)(j:hb c X w i Ey P)(b:hb c X P G Ey s):hb c X w G Ey s:=⟨j.b7.trans o b.b7,j.j.trans o.aH b.j,λC u J=>b.aM C u (j.aM C u J),b.dc⟩
def bJ.stored(C:bJ c k A X w)(j:hb c X w i Ey P):bJ c k i X P:=⟨C.ok,C.aM,C.dK,C.bU,C.ag.b7 j.b7,j.dc⟩
def aP.qb(u:aP c X w)(o:ZP)(j:hh c.f o):cY o X w:=j.elim (λj=>j▸u.own) λj=>(u.dz o j).2.2.1
def cO.a5(C:aP c X w)(Y:hh c.f c')(ax:Heap.SameBut c' w.h h')(V:∃a',h'.get? c'=some a')(cK:∃f',Fr c.f.g c.f.L h' f'):cO c X w X (w.ab h' t)/\(Ey c'->cG X w X (w.ab h' t) Ey):=by
 have M:∀j a',j≠c'->w.h.get? j=some a'->h'.get? j=some a':=λj a' n o=>(ax.2 j n).trans o;have W:∀j a',w.h.get? j=some a'->∃Z,h'.get? j=some Z:=λj a' o=>by
  by_cases u:j=c'
  .exact u▸V
  .exact⟨a',M j a' u o⟩
 have O:=C.qb c' Y;have E:cM w (w.ab h' t):=⟨λ_ x=>x,λ_ _ x=>x,λj a' J o=>M j a' (λu=>O.a0 (u▸J)) o⟩;have S:∀Ey:ZP->Prop,Ey c'->cG X w X (w.ab h' t) Ey:=λEy fi=>⟨λ_ x=>x,λ_ _ x=>x,λ_ _ _=>rfl,λj a' o u _=>M j a' (λq=>u (q▸fi)) o,W,λU e2=>.inl ⟨e2,rfl⟩,λU a' Z o e1=>W0 bc (WZ (Eq.trans (Eq.symm e1) o)),Xe _,λc' J=>.inl J⟩;exact⟨⟨⟨λU a' o=>(C.aH.slot U a' o).ext E rfl λx V=>M _ x (λu=>O.aX U ⟨a',o⟩ u) V,C.aH.inj,λj J=>(C.aH.bI j J).imp (λo=>o.elim (W j)) id,C.aH.gM⟩,S _ Y,cK,⟨_,_,rfl⟩⟩,S _⟩
def fI.a5(W:lq c')(V:fI c' w af A)(E:cM w B)(Z:o c' w x h')(J:fh af B.h (c'.az q) h')(U:∀a' f',a'≠c'.az q->fh af w.h a' f'->fh af B.h a' f')(ns:∃w',B.h.Ns af.locals w')(M:∀a' s',a'≠eW->af.cells.lookup a'=some s'->∃h',B.h.IsCell s' h'):fI c' B af (Wy A q x):=by
 refine⟨λC f' Y j=>?_,ns,M⟩
 by_cases u:q=C
 .rw[<-u,pY] at j
  exact⟨h',u▸J,WZ j▸Z.ext E⟩
 .rw[m1 u] at j
  exact(V.get C f' Y j).elim λcK a'=>⟨cK,U _ _ (λj=>u (W.inj _ _ j).symm) a'.1,a'.2.ext E⟩
def Fr.Ci(u:Fr c.f.g c.f.L w.h c')(n:a'≠c.f.L)(J:c.f.g.get? a'=none)(ax:Heap.SameBut a' w.h h'):Fr c.f.g c.f.L h' c':=
 ⟨u.ns.at' λo j=>(ax.2 _ (Ne.symm n)).trans j,λC o j=>(ax.2 C λM=>cj (M▸j) J).trans (u.keep C o j),u.above⟩
def um(C:bJ c k A X w)(cK:g c.af.locals)(a':∀a,c.af.cells.lookup (c.X.az q)=some a->g a)(Y:l0 c.af.kindOf (c.X.az q))(p:o c.X w x d){E:ZG}(K:∀B,hb c X w (Wy A q x) g B->Q () B.s):
  aad c (storeName c.af (c.X.az q) d) Q E w.s:=by
 have W:=C.ok.az;have R:(c.af.scope.kind==.class||(c.af.scope.kind==.module&&c.af.locals != c.af.globals))=false:=by refine C.bU.kind▸?_;rfl
 refine(FR Y).elim (λJ=>C.dc.ns.elim λc' M=>wpAny_storeName_local J M (λS s ax=>?_) R) λL=>(C.bU.has _ L).elim λj f=>(C.dc.cell _ _ (W.eW q) f).elim λv₀ Z=>wpAny_storeName_cell C.bU.kind L f Z λS N ax=>?_
 .have V:∃H,S.get? c.af.locals=some H:=s.elim λH x=>x.elim λ_ x=>x.elim λ_ x=>⟨H,x.1⟩
  have P:∀x a d,c.af.cells.lookup x=some a->w.h.IsCell a d->S.IsCell a d:=λx a d e y=>y.elim λH y=>⟨H,(ax.2 a (C.bU.apart x a e)).trans y.1,y.2⟩;have I:∀{t:Tok},hh c.f c.af.locals->(∃m,Fr c.f.g c.f.L S m)->(c.af.locals≠c.f.L->∀m,Fr c.f.g c.f.L w.h m->Fr c.f.g c.f.L S m)->Q () (w.ab S t).s:=λ{t} U F G=>by have T:=cO.a5 (t:=t) (Ey:=g) C.ag U ax V F;exact K (w.ab S t) ⟨T.1,T.2 cK,G,C.dc.a5 W (C.ag.q' T.1) p (.inl ⟨J,_,s,if_pos rfl⟩) (λy u r b=>b.imp (λb=>⟨b.1,b.2.elim λO b=>⟨_,s,by refine(if_neg r)▸(kU b.1 M)▸b.2⟩⟩) λb=>⟨b.1,b.2.1,b.2.2.elim λa z=>⟨a,z.1,P _ _ _ z.1 z.2⟩⟩) ⟨_,s⟩ λy a D e=>(C.dc.cell y a D e).elim λd z=>⟨d,P _ _ _ e z⟩⟩
  by_cases l:c.af.locals=c.f.L
  .exact I (.inl l) (C.ag.aM.elim λm F=>⟨_,F.set (l▸s) (l▸ax)⟩) λz=>absurd l z
  .have h:=C.bU.F.resolve_left l
   have G:=λm F=>Fr.Ci (c:=c) (w:=w) (c':=m) F l (C.ag.dz _ h).2.2.2 ax;exact I (.inr h) (C.ag.aM.elim λm F=>⟨m,G m F⟩) λ_=>G
 .have h:=C.ag.dz _ (C.bU.cell _ _ (W.eW q) f)
  have v:=Ne.symm (C.bU.apart _ _ f);have G:=λm F=>Fr.Ci (c:=c) (w:=w) (c':=m) F h.2.1 h.2.2.2 ax;have T:=cO.a5 (t:=w.s.toks) (Ey:=g) C.ag (.inr (C.bU.cell _ _ (W.eW q) f)) ax (N.elim λH y=>⟨H,y.1⟩) (C.ag.aM.elim λm F=>⟨m,G m F⟩);have P:∀x a d,c.af.cells.lookup x=some a->a≠j->w.h.IsCell a d->S.IsCell a d:=λx a d e n y=>y.elim λH y=>⟨H,(ax.2 a n).trans y.1,y.2⟩;refine K (w.ab S w.s.toks) ⟨T.1,T.2 (a' _ f),λ_=>G,C.dc.a5 W (C.ag.q' T.1) p (.inr ⟨W.eW q,.inl L,j,f,N⟩) (λy u r b=>b.imp (λb=>⟨b.1,b.2.elim λO b=>⟨O,b.1.at' λH e=>(ax.2 _ v).trans e,b.2⟩⟩) λb=>⟨b.1,b.2.1,b.2.2.elim λa z=>⟨a,z.1,P _ _ _ z.1 (λi=>r (C.bU.inj _ _ j (i▸z.1) f)) z.2⟩⟩) (C.dc.ns.elim λm z=>⟨m,z.at' λH e=>(ax.2 _ v).trans e⟩) λy a D e=>?_⟩
  by_cases z:a=j
  .exact z▸⟨_,N⟩
  .exact(C.dc.cell y a D e).elim λd i=>⟨d,P _ _ _ e z i⟩
def jI(n:Nat)(b:S):Prop:=∀(c:cu)(j:bD)(i:fG)(G:bD)(k:Nat)(y:ZZ)(w:aL),k9 (aD c.X.P c.X.N n) b j=some (i,G)->m9 c.X (k+1) c.af.kindOf b y->bJ c (k+1) j.aj j.h w->ha c (exec (ke c.X (k+1) b y) c.af) j.h w G i
def zL(O:jb f af):interactive af=false:=by unfold interactive;refine O.kind▸?_;rfl
def xw{v:ZU}{t:Z0 ZU}(h:rD v):swapsWith v t l af=pure false:=by induction v using Expr.casesOn<;>first|exact(rfl:pure false=(pure false:Sem Bool))|exact bb h
def UH{v o i:ZU}:swapsWith v (some (.Subscript o i p)) l af=pure false:=by induction v using Expr.casesOn<;>exact(rfl:pure false=(pure false:Sem Bool))
def ha.jf(j:aP c X w)(o:cO c X w T P)(C:ha c f' T P st' fl){E:ZG}(q:∀B a',cO c X w st'.h B->jF c B st'.aj fl a'->c' a' B.s):aad c f' c' E P.s:=C c' E λs a' u J=>q s a' (o.trans j u) J
def I2:jI n .eF:=λc j i G k y w e _ C=>bz (p:=λi G=>ha c (exec (.Pass y.pos) c.af) j.h w G i) e λQ E q=>λΓ p a=>q w .next ((aT.refl C.ag.aH).b7 C.ag) ⟨rfl,C.dc⟩
def I3(m:∀e,bT n e):jI n (.ret a):=λc j i G k y w e o C=>by
 cases a with
 |none=>exact bz (p:=λi G=>ha c (exec (.Return none y.pos) c.af) j.h w G i) e λQ E q=>wpAny_Return_none (q w (.ret .none) ((aT.refl C.ag.aH).b7 C.ag) ⟨.none,rfl,.none⟩)
 |some B=>exact bK e λv b O e=>bz (p:=λi G=>ha c (exec (.Return (some (aJ c.X k B (bZ y 0))) y.pos) c.af) j.h w G i) e λQ E q=>Zu ((m B).aO O o C.aW _ E λP T l g=>q P (.ret T) (l.b7 C.ag) ⟨T,rfl,g⟩)
def Ts{v:V}{x:ZO}(h:ql v)(r:o b w v x):∀a,x≠.ref a:=λa=>by
 induction v using V.casesOn with
 |none=>exact r.l4 (p:=λx=>x≠.ref a) λz=>nomatch z
 |bool=>exact r.kr (p:=λx=>x≠.ref a) λz=>nomatch z
 |int=>exact r.dt (p:=λx=>x≠.ref a) λt z=>nomatch z
 |str=>exact r.gb (p:=λx=>x≠.ref a) λt z=>nomatch z
 |_=>exact bb h
def IZ(m:∀e,bT n e):jI n (.expr a):=λc j i G k y w e o C=>bK e λv d O e=>bR e λb e=>bz (p:=λi G=>ha c (exec (.Expr (aJ c.X k a (bZ y 0)) y.pos) c.af) j.h w G i) e λQ E q=>wpAny_Expr ((m a).aO O (ar o) C.aW _ E λP T l g=>by induction T<;>first|exact(q P .next (l.b7 C.ag) ⟨rfl,(C.aF l).dc⟩)|exact absurd rfl ((Ts b g) _)) (zL C.bU) (xw (aN o))
def I1{t:E}(N:Gt n t)(A:∀b,o2 n b):jI n (.ite t a b):=λc j i G k y w e o C=>bK e λv f O e=>aA e λr m e Q E q=>by
 have F:=ar o;have d:=ar F;refine wpAny_If (N.aO (aN o) O m (aN F) C.aW _ E λP T l g=>?_);refine g▸?_;have L:=C.aW.aF l;induction r with|true=>exact(A a c _ _ _ k _ P e (aN d) L).jf C.ag (l.b7 C.ag) q|false=>exact(A b c _ _ _ k _ P e (ar d) L).jf C.ag (l.b7 C.ag) q
def Bg(C:bJ c k A X w)(R:l0 c.af.kindOf (c.X.az q))(p:o c.X w x a){Q:Flow->ZN}{E:ZG}(K:∀B r,cO c X w X B->jF c B (Wy A q x) .next r->Q r B.s):aad c (storeName c.af (c.X.az q) a) (λ_=>Q .next) E w.s:=
 um C trivial (λ_ _=>trivial) R p λB S=>K B .next S.b7 ⟨rfl,S.dc⟩
def uE(n:Nat):Prop:=∀(q:Nat)(B:E)(c:cu)(j:bD)(i:fG)(G:bD)(k:Nat)(y:ZZ)(w:aL),rD (aJ c.X k B (bZ y 0))=false->k9 (aD c.X.P c.X.N n) (.bY (.F q) B) j=some (i,G)->m9 c.X (k+1) c.af.kindOf (.bY (.F q) B) y->bJ c (k+1) j.aj j.h w->ha c (exec (ke c.X (k+1) (.bY (.F q) B) y) c.af) j.h w G i
def IV(m:∀e,bT n e)(b:uE n):jI n (.bY (.F p) a):=λc j i G k y w e o C=>by
 generalize A:rD (aJ c.X k a (bZ y 0))=N;induction N with|false=>exact b p a c j i G k y w A e o C|true=>exact bK e λv f O e=>bz (p:=λi G=>ha c (exec (.Assign [.Name (c.X.az p) (bZ y 1).pos] (aJ c.X k a (bZ y 0)) y.pos) c.af) j.h w G i) e λQ E q=>wpAny_Assign_Name ((m a).aO O (aN o) C.aW _ E λP T l g=>Bg (C.aF l) (aN (ar o)) g λs r h d=>q s r ((l.b7 C.ag).trans C.ag h) d) (xw A)
def IU(m:∀e,bT n e):jI n (.bY (.aS b d) a):=λc j f G k y w e o C=>bK e λu r O e=>bK e λv N g e=>aA e λt D e=>bz (p:=λf G=>ha c (exec (.Assign [.Attribute (aJ c.X k b (ax (bZ y 1) 0)) (c.X.az d) (bZ y 1).pos] (aJ c.X k a (bZ y 0)) y.pos) c.af) j.h w G f) e λQ E q=>plainObj_wpAny_Assign_Attribute ((m a).aO O (aN o) C.aW _ E λP T l p=>(m b).aO g (ar (ar o)) (C.aW.aF l) _ E λs x h K=>by have V:=(C.aF l).aF h;exact Tx V (fV (aN (ar o))) D K (p.ext ((C.ag.aF l).ext h)) _ E λI _ i _=>q I .next (((l.trans C.ag h).trans C.ag i).b7 C.ag) ⟨rfl,(V.aF i).dc⟩) xv
def IY(J:∀e,bT n e):jI n (.pe p f d):=λc j B G k y w e H C=>by
 induction f with
 |add=>
  refine aA e λZ M e=>aA e λi T e=>bK e λI D O e=>aA e λF h e=>bz (p:=λB G=>ha c (exec (.AugAssign (.Name (c.X.az p) (bZ y 1).pos) .Add (aJ c.X k d (bZ y 0)) y.pos) c.af) j.h w G B) e λQ E q=>wpAny_AugAssign_Name ?_;have R:=aN (ar H);refine(C.dc.get _ _ ((by unfold i0;exact(FR R).elim (λe=>by rw[e]) λe=>by rw[e])) M).elim λu z=>?_
  have tail:aad c (eval (aJ c.X k d (bZ y 0)) c.af) (λv U=>aad c (inplaceOp .Add u v) (λr V=>aad c (storeName c.af (c.X.az p) r) (λ_=>Q .next) E V) E U) E w.s:=
   (J d).aO O (ar (ar H)) C.aW _ E λP W x l=>by refine((hH T▸z.2).dt (p:=λv=>∃t,v=Value.int i t) λt=>⟨t,rfl⟩).elim λX D=>?_;have l:o c.X P I W:=l;have h:I=.int F:=hH h;refine((h▸l).dt (p:=λv=>∃t,v=Value.int F t) λt=>⟨t,rfl⟩).elim λY S=>?_;refine D▸S▸wpAny_iadd_int ?_;have L:=C.aF x;have A:aT c _ P _ (P.a8 (P.s.toks+1)):=.a8 L.ag _;exact Bg (L.aF A) R .int λs r K N=>q s r (((x.trans C.ag A).b7 C.ag).trans C.ag K) N
  exact z.1.elim (λb=>b.2.elim λm g=>Za C.bU.kind b.1 g.1 g.2 tail) λb=>b.2.2.elim λa g=>b.2.1.elim (λk=>Zh C.bU.kind k g.1 g.2 tail) λk=>Zi C.bU.kind k g.1 g.2 tail (wI (aN H))
 |_=>exact ns e
end
section
variable{m:Program}{w:ZS}{A:ZX}{s:ZW}
def TA{k:Int}{Q:Unit->ZN}{E:ZG}(f:s.heap.PlainList l items)(x:0<=k)(K:k<2 ^ 63)(X:k<items.size)
  (F:∀a,a.PlainList l (items.setIfInBounds k.toNat b)->Heap.SameBut l s.heap a->Q () {s with heap:=a}):
  wpAny (model m w) A (setItem (.ref l) (.int k t) b) Q E s:=by
 obtain⟨D,c⟩:=f;have R:s.TypeIs (.ref l) "list":=⟨_,c,rfl⟩;unfold setItem
 try with_reducible refine Yd ?_
 first|refine W6 (Xc ?_)|skip
 refine W6 (wpAny_sequenceKey R (by decide) ?_)
 refine W6 (wpAny_callSpecial?_slot R slot_list_setitem
  (YE slot_list_setitem R entry_list_setitem ?_ (args_list_setitem ..)))
 refine(?_:wpAny _ _ (Builtin.List.listSubscript? (.int k t)>>=_) _ _ s);refine W6 (wpAny_listSubscript_int (fitsIndex_of x K) ?_)
 clear K
 obtain⟨j,rfl⟩:=Int.eq_ofNat_of_zero_le x;have P:j<items.size:=by lia
 refine W6 (W6 (wpAny_seqItemAt c rfl (Xc ?_)));refine((Array.getElem?_eq_getElem P))▸?_;have d:=wX (λO=>O.setIfInBounds j b) c;refine W6 (wpAny_setSeqItemAt c rfl ?_);first
  |exact W6 (Xc (Xc ⟨.none,rfl,Xc (F _ d (Heap.SameBut.update ..))⟩))
  |exact Xc ⟨.none,rfl,Xc (F _ d (Heap.SameBut.update ..))⟩
end
def TH(p:o X w x e):∀{c:ZJ}{B:Nat},aK X w d c->aK X w (dU d B x) (c.set B e):=by
 induction d with
 |nil=>exactλr=>r.eh (q:=λc=>aK X w [] (c.set _ e)) .nil
 |cons y d S=>exactλ{c B} r=>r.dM (q:=λc=>aK X w (dU (y::d) B x) (c.set B e)) λu f a b=>match B with
  |0=>.cons p b
  |B+1=>.cons a (S b)
def C3(k:aE)(x:α)(l:List (aE×α)):(cU l k x).length<=l.length+1:=by
 induction l with
 |nil=>exact Xe _
 |cons p r S=>
  show(match cJ p.1 k with|true=>(p.1,x)::r|false=>(p.1,p.2)::cU r k x).length<=r.length+1+1
  generalize cJ p.1 k=N;induction N with|true=>exact Xt _|false=>exact Xp S
def DictOf.wA{o:Type} [DecidableEq o]{U:KeyKind prog a' o}{M:ZQ}{C:ZP}{u:List (o×ZO)}(J:M.DictOf U C u):(u.map (·.1)).Nodup:=J.elim λ_ j=>j.elim λ_ j=>j.elim λ_ j=>j.2.2.2.2.2
section
variable{c:cu}{k n q:Nat}{A R G:ZD}{Q P:Z}{w B O N:aL}{x:V}{v:ZO}{g:ZP->Prop}
def LQ{P:eU}{A:aE}{Q:Unit->ZN}{E:ZG}(H:c.A.units+30<cLine)(d:ez c.X w P a h)(X:h.length<=b0)(g:o3 c.X w P A m)
  (q:∀f t,Heap.SameBut a w.h f->ez c.X (w.ab f t) P a (cU h A p)->Q () (w.ab f t).s):aad c (setItem (.ref a) m p) Q E w.s:=by
 induction P with
 |I=>induction A with
  |i n=>
   refine d.elim λO d=>g.elim λt aD=>aD▸wpAny_setItem_pairs (intKind_is _ _ _ t) d.1 (λf j ax=>q f _ ax ⟨_,j,?_⟩) (by refine(show O.length=h.length from by rw[d.2,Xs])▸?_;exact jA _ X)
   exact d.2▸sD aE.i n pP _ _ (DictOf.wA d.1)
  |_=>exact g.elim
 |S=>induction A with
  |s n=>
   refine d.elim λO d=>g.elim λt aD=>aD▸wpAny_setItem_pairs (strKind_is _ _ _ t) d.1 (λf j ax=>q f _ ax ⟨_,j,?_⟩) (by refine(show O.length=h.length from by rw[d.2,Xs])▸?_;exact jA _ X)
   exact d.2▸sD aE.s n tr _ _ (DictOf.wA d.1)
  |_=>exact g.elim
 |T=>induction A with
  |t l=>
   refine d.elim λO d=>g.elim λb aD=>aD.1▸wpAny_setItem_heap (tupleKind_room_in1 (W3 (Xg (by decide) _) H)) aD.2.2 d.1 (λf j ax=>q f _ ax ⟨_,j,?_,λy L=>?_⟩) (by refine(show O.length=h.length from by rw[d.2.1,Xs])▸?_;exact jA _ X)
   .exact d.2.1▸LM aE.t l v7 _ _ _ (d.1.elim λ_ z=>z.elim λ_ z=>z.elim λ_ z=>z.2.2.2.2.2)
   .unfold storedH at L
    generalize o:atKey O l=N;induction N with
    |none=>rw[o] at L;exact(XF.mp L).elim (d.2.2 y) λL=>(Xf.mp L)▸aD.2.1
    |some z=>
     rw[o] at L;refine(Xz.mp L).elim λz e=>?_;have k:=e.2;unfold putAt at k
     by_cases i:z.1=l
     .rw[if_pos i] at k;exact k▸d.2.2 z e.1
     .rw[if_neg i] at k;exact k▸d.2.2 z e.1
  |_=>exact g.elim
def Tz{v i x:V}(J:c.A.units+30<cLine)(I:aP c Q w)(e:nt v i x Q=some P)(p:o c.X w v f)(q:o c.X w i d)(r:o c.X w x h):bP c (setItem f d h) Q w P λ_ _=>True:=
 bK e λb L g e=>by
  have g:=Ba g;rw[g.1] at p;induction L with
  |ins=>exact ns e
  |ah O T l=>have A:=g.2.2;subst A;exact aA e λK y e=>bR e λR e=>b6 (p:=λP=>bP c (setItem f d h) Q w P λ_ _=>True) e (oO I.aH (q:=λf=>bP c (setItem f d h) Q w _ λ_ _=>True) g.2.1 p λa z S=>WZ (S.1.symm.trans z)▸S.2.2.elim λM N s E k=>LQ J N.1 N.2.1 (pQ y q) λm t ax u=>k (w.ab m t) () (aT.BA I g.2.1 rfl rfl ax λB=>⟨S.1,S.2.1,_,u,W5 (C3 ..) (by exact N.2.2.length▸pH R),(N.2.2.a5 K r).ext B⟩) trivial)
  |ae U l=>
   have A:=g.2.2;subst A;refine aA e λj C e=>bR e λG e=>b6 (p:=λP=>bP c (setItem f d h) Q w P λ_ _=>True) e (tC (q:=λf=>bP c (setItem f d h) Q w _ λ_ _=>True) I g.2.1 p λD H X F=>(pd C▸q).dt (p:=λd=>bP c (setItem _ d h) Q w _ λ_ _=>True) λt s E k=>?_);have G:=fV G;rw[dP,F.length] at G;refine TA H (XP j) (wa (W5 (Xw G) X)) (by exact Xo▸YA.mpr G) λm n ax=>?_
   have aD:D.toArray.setIfInBounds (Int.ofNat j).toNat h=(D.set j h).toArray:=by rw[List.setIfInBounds_toArray];rfl
   rw[aD] at n;exact k (w.ab m w.s.toks) () (aT.uA I g.2.1 ax n (by rw[List.length_set];exact X) (TH r F)) trivial
def IW(m:∀e,bT n e):jI n (.bY (.sub b d) a):=λc j p G k y w e o C=>bK e λB P r e=>bK e λH x s e=>bK e λI z D e=>aA e λA t e=>
 bz (p:=λp G=>ha c (exec (.Assign [.Subscript (aJ c.X k b (ax (bZ y 1) 0)) (aJ c.X k d (ax (bZ y 1) 1)) (bZ y 1).pos] (aJ c.X k a (bZ y 0)) y.pos) c.af) j.h w G p) e λQ E q=>by
 have F:=ar (ar o);exact wpAny_Assign_Subscript ((m a).aO r (aN o) C.aW _ E λO T l u=>(m b).aO s (aN F) (C.aW.aF l) _ E λN L h K=>(m d).aO D (ar F) ((C.aW.aF l).aF h) _ E λJ M i R=>by have V:=(C.aF l).aF h;have f:=V.aF i;exact Tz f.units f.ag t (K.ext (V.ag.ext i)) R ((u.ext ((C.ag.aF l).ext h)).ext (V.ag.ext i)) _ E λv _ g _=>q v .next ((((l.trans C.ag h).trans C.ag i).trans C.ag g).b7 C.ag) ⟨rfl,(f.aF g).dc⟩) UH
abbrev fb(X:cn)(ns:ZK)(O:List ZU):List ZU:=cD ck (λn(y:ZU)=>Expr.Name (X.az n) y.pos) ns O
def Uq(y:g c.af.locals){ns:ZK}:∀{h:List ZU}{f:ZF}{d:ZJ}{A t:ZD}{w:aL}{b:Unit->ZN}{E:ZG},(ns.all λn=>l0 c.af.kindOf (c.X.az n))->gL ns f A=some t->bJ c k A Q w->aK c.X w f d->(∀q∈ns,∀a,c.af.cells.lookup (c.X.az q)=some a->g a)->
  (∀B,hb c Q w t g B->b () B.s)->aad c (assignInOrder ((assignEach (fb c.X ns h) c.af).map (·.2)) d) b E w.s:=by
 induction ns with
 |nil=>
  intro h f d A t w b E _ e C r _ K;induction f with
  |cons=>exact Internal.ns e
  |nil=>exact r.eh (q:=λd=>wpAny _ _ (assignInOrder _ d) b E w.s) (Xc (b6 (p:=λt=>(∀B,hb c Q w t g B->b () B.s)->b () w.s) e (λK=>K w ⟨(aT.refl C.ag.aH).b7 C.ag,.refl ..,λ_ _ F=>F,C.dc⟩) K))
 |cons a ns S=>
  intro h f d A t w b E D e C r j K;induction f with|nil=>exact Internal.ns e|cons x f=>rw[Yo] at D;refine r.dM (q:=λd=>wpAny _ _ (assignInOrder _ d) b E w.s) λu p m o=>?_;rw[fb,hX];exact W6 (Yd (PyProof.Rows.assign_Name (um C y (j a (.head _)) (aN D) m λO i=>S (ar D) e (C.stored i) (o.ext (C.ag.q' i.b7)) (λq I=>j q (.tail _ I)) λN l=>K N (i.trans C.ag l))))
def Jz{ns:ZK}:∀{b:List ZU},(assignEach (fb X ns b) af).length=ns.length/\(assignEach (fb X ns b) af).findIdx? (·.1)=none:=by
 induction ns with|nil=>exact⟨rfl,rfl⟩|cons a ns S=>intro b;rw[fb,hX];refine⟨W0 Nat.succ (S).1,?_⟩;refine(?_:((false,_)::assignEach (fb X ns b.tail) af).findIdx? (·.1)=none);rw[List.findIdx?_cons,(S).2];rfl
def uS{ns:ZK}:∀{b:ZF}{l d:ZD},gL ns b l=some d->ns.length=b.length:=by
 induction ns with
 |nil=>intro b l d e;induction b with
  |nil=>rfl
  |cons=>exact cB e
 |cons a ns S=>intro b l d e;induction b with|nil=>exact cB e|cons x b=>exact W0 Nat.succ (S (e:gL ns b (Wy l a x)=some d))
def hb.RG(C:bJ c k A Q w)(W:c3 w.h O.h)(u:aT c Q w Q O)(j:hb c Q O G g N)(_:hp₁=Q):hb c Q w G g N:=
 ⟨(u.b7 C.ag).trans C.ag j.b7,({u.step with keep:=λU o V _ _=>W U o V}:cG Q w Q O g).trans C.ag.aH j.j,λY J M=>j.aM Y J (u.aM J M),j.dc⟩
def B4{ns:ZK}{P:Nat}{j:Unit->ZN}{E:ZG}(L:g c.af.locals)(z:(ns.all λn=>l0 c.af.kindOf (c.X.az n)))(O:ZF)(i:xg x=some O)(e:gL ns O A=some t)(C:bJ c k A Q w)(r:o c.X w x v)
  (J:∀q∈ns,∀a,c.af.cells.lookup (c.X.az q)=some a->g a)(K:∀B,hb c Q w t g B->j () B.s):aad c (assign (.Tuple (fb c.X ns d) P l) c.af v) j E w.s:=by
 have h:=Jz (X:=c.X) (af:=c.af) (ns:=ns) (b:=d);have p:∀D,aK c.X w O D->∀f,c3 w.h f->aad c (assignInOrder ((assignEach (fb c.X ns d) c.af).map (·.2)) D) j E {w.s with heap:=f}:=λD r f u=>by have T:aT c Q w Q (w.ab f w.s.toks):=.all C.ag u;exact Uq L z e (C.aF T) (r.ext (C.ag.ext T)) J λN S=>K N (S.RG C u T rfl)
 have m:∀{f},Heap.ExtBut (aah w.s) w.s.heap f->c3 w.h f:=λs b H e=>s b H (Xi (XA e)) e;induction x using V.casesOn with
 |ay I=>refine r.gr (p:=λv=>wpAny _ _ (assign _ c.af v) j E w.s) λa D _ G _ F=>?_;have i:=WZ i;exact wpAny_assign_Tuple C.dK.bC G (by rw[h.1,uS e,<-i,F.length,Xo]) h.2 λf s=>p D (i▸F) f (m s)
 |ae I=>
   refine r.ig (p:=λv=>wpAny _ _ (assign _ c.af v) j E w.s) λa D _ y _ F=>?_;have i:=WZ i;rw[assign_Tuple];refine W6 (Yx ?_);unfold unpack;have X:(assignEach (fb c.X ns d) c.af).length=D.toArray.size:=by rw[h.1,uS e,<-i,F.length,Xo]
   rw[X,h.2];exact W6 (Yd (kun_itemsOf C.dK.bC y.isList λf s=>p D (i▸F) f (m s)))
 |_=>exact Internal.ns i
end
section
set_option backward.match.sparseCases true
def Wd
  (h:wpAny (model prog w) A (isTrue qr af (eval qr af)) (λb d=>
   if b then wpAny (model prog w) A (execs body af) (λf p=>match f with
    |.next|.cont=>codeAny (model prog w) A (.whileLoop qr body orelse af) a p
    |.brk=>a (.ok .next) p
    |.ret g=>a (.ok (.ret g)) p) (aaf prog w A af a) d
   else wpAny (model prog w) A (execs orelse af) (λf p=>a (.ok f) p) (aaf prog w A af a) d)
   (aaf prog w A af a) s):codeAny (model prog w) A (.whileLoop qr body orelse af) a s:=by
 refine Zd ?_;refine wpAny_noted ?_;simp only [whileTurn];refine W6 (XR h (λb d i=>?_) λ_ _ S=>S);induction b with
 |false=>
  simp only [Bool.false_eq_true,if_false] at i⊢
  exact W6 (XR i (λf p G=>Xc G) λ_ _ S=>S)
 |true=>
  simp only [if_true] at i⊢
  refine W6 (XR i (λf p G=>?_) λ_ _ S=>S);induction f with|next=>exact Xc ⟨rfl,G⟩|cont=>exact Xc ⟨rfl,G⟩|brk=>exact Xc G|ret g=>exact Xc G
def DJ
  (h:wpAny (model prog w) A (pyNext T) (λr g=>match r with
   |none=>wpAny (model prog w) A (execs orelse af) (λf p=>a (.ok f) p) (aaf prog w A af a) g
   |some c=>wpAny (model prog w) A (letOwnedTupleGo target T c) (λ_ i=>
     wpAny (model prog w) A (assign target af c) (λ_ d=>wpAny (model prog w) A (execs body af) (λf p=>match f with
      |.next|.cont=>codeAny (model prog w) A (.forLoop target T body orelse af) a p
      |.brk=>a (.ok .next) p
      |.ret c=>a (.ok (.ret c)) p) (aaf prog w A af a) d) (aaf prog w A af a) i) (aaf prog w A af a) g)
    (aaf prog w A af a) s):codeAny (model prog w) A (.forLoop target T body orelse af) a s:=by
 refine Zd ?_;refine wpAny_noted ?_;simp only [forTurn];refine W6 (Yx (W6 (wpAny_onRaise (XR h (λr g k=>?_) λ_ _ S=>Yx S))));induction r with
 |none=>exact Xc ⟨rfl,codeAny_block k⟩
 |some c=>
  refine W6 (XR k (λ_ i j=>?_) λ_ _ S=>S);refine W6 (XR j (λ_ d l=>W6 (XR l (λf p G=>?_) λ_ _ S=>S)) λ_ _ S=>S);induction f with|next=>exact Xc ⟨rfl,G⟩|cont=>exact Xc ⟨rfl,G⟩|brk=>exact Xc G|ret c=>exact Xc G
end
def Qf{v:α}{l:List (Nat×α)}:∀{r:List (Nat×α)},au (i' l r) q=some v->au r q=some v:=by
 induction l with
 |nil=>exactλe=>cB e
 |cons y l S=>
  intro r e;induction r with
  |nil=>exact cB e
  |cons x r=>
   have e:(match Nat.beq x.1 q with|true=>some x.2|false=>au (i' l r) q)=some v:=e
   show(match Nat.beq x.1 q with|true=>some x.2|false=>au r q)=some v
   generalize h:Nat.beq x.1 q=N;induction N with|true=>rw[h] at e;exact e|false=>rw[h] at e;exact S e
def fI.i'(V:fI a' f' af c'):fI a' f' af (i' h' c'):=⟨λu C o j=>V.get u C o (Qf j),V.ns,V.cell⟩
def uF(n:Nat)(t:E)(b:List S):Prop:=∀(c:cu)(j:bD)(i:fG)(G:bD)(k:Nat)(x:ZU)(a:List ZZ)(w:aL),(aD c.X.P c.X.N n).w t b j=some (i,G)->il t->bQ c.X k c.af.kindOf t x->l5 c.X k c.af.kindOf b a->bJ c k j.aj j.h w->
 ∀(R:Result->ZN),(∀B r,cO c j.h w G.h B->jF c B G.aj i r->R (.ok r) B.s)->codeAny (aae c) c.A (.whileLoop (aJ c.X k t x) (kc c.X k b a) [] c.af) R w.s
def IH(N:Gt a t)(A:o2 a b)(f:uF a t b):uF (a+1) t b:=λc j i G k x E w e V o y C R q=>bK e λv P O e=>aA e λr p e=>Wd (N.aO V O p o C _ _ λS J l F=>by
 rw[F];have L:=C.aF l;induction r with
 |false=>exact Yl (bz (p:=λi G=>(∀B r,cO c j.h w G.h B->jF c B G.aj i r->R (.ok r) B.s)->R (.ok .next) S.s) e (λq=>q S .next (l.b7 C.ag) ⟨rfl,L.dc⟩) q)
 |true=>
  have e:=e;refine bK e λlK K n e=>A c _ _ _ k E S n y L _ _ λs H h d=>?_;have D:=(l.b7 C.ag).trans C.ag h;induction lK with|next=>rw[d.1];exact f c ⟨i' j.aj K.aj,K.h⟩ i G k x E s e V o y ⟨C.ok,C.aM,C.dK,C.bU,C.ag.b7 D,d.2.i'⟩ R λI T m u=>q I T (D.trans C.ag m) u|ret v=>refine d.elim λg z=>?_;rw[z.1];exact bz (p:=λi G=>(∀B r,cO c j.h w G.h B->jF c B G.aj i r->R (.ok r) B.s)->R (.ok (.ret g)) s.s) e (λq=>q s (.ret g) D ⟨g,rfl,z.2⟩) q)
def I4(d:uF a t b):jI a (.iq t b):=λc j i G k y w e o C Q E q=>wpAny_While (d c j i G k _ _ w e (aN o) (aN (ar o)) (ar (ar o)) C.aW _ λB r T f=>q B r T f)
def fI.au(V:fI c' s' af f')(j:∀a',au h' a'=au f' a'):fI c' s' af h':=⟨λa' C u o=>V.get a' C u (by exact(j a')▸o),V.ns,V.cell⟩
def UR(h:vZ c):∃d a b,c=.Tuple d a b:=by induction c using Expr.casesOn<;>first|exact⟨_,_,_,rfl⟩|exact bb h
def Rm(h:vZ a=false):swappedStores [.Tuple c P l] a af=pure none:=by induction a using Expr.casesOn<;>first|exact(rfl:pure none=(pure none:Sem _))|exact tK h
def MN{α β:Type}{f:α->Z0 β}{g:α->β}{l:List α}(h:(l.filterMap f).length=l.length)(i:∀x∈l,∀b,f x=some b->b=g x):l.filterMap f=l.map g:=by
 induction l with
 |nil=>rfl
 |cons x r S=>
  generalize e:f x=N;induction N with|none=>rw[List.filterMap_cons_none e,Xx] at h;exact absurd (h▸List.length_filterMap_le f r:r.length+1<=r.length) (Ze _)|some b=>rw[List.filterMap_cons_some e,Xx,Xx] at h;rw[List.filterMap_cons_some e,XD,S (Yr h) λy L=>i y (.tail _ L),i x (.head _) b e]
def tO(h:p5 l):l.Nodup:=by
 induction l with|nil=>exact .nil|cons x r S=>rw[XZ];refine⟨λB=>?_,S (ar h)⟩;have z:=Xb.mp (aN h) x B;rw[k4.mpr rfl] at z;exact bb z
def Mf{l:List ZV}(h:l.Nodup):l.eraseDups=l:=by
 induction l with|nil=>rfl|cons x r S=>rw[XZ] at h;rw[List.eraseDups_cons,List.filter_eq_self.mpr λy L=>by rw[YM,beq_eq_false_iff_ne];exactλz=>h.1 (z▸L),S h.2]
set_option backward.match.sparseCases true in
def Wr{f:ed}{d:Env}(O:jb f d){c D:List ZU}{P G:Nat}{l K:Pos}(k:D.length=c.length)(g:(c.length==2||c.length==3))(Q:D.all e5)(A:(i7 d.kindOf c).length=c.length)(T:p5 (i7 d.kindOf c))
  (R:D.all (foldedForSure 8)=false)(L:D.all (constantsAlone 8)=false):swappedStores [.Tuple c P l] (.Tuple D G K) d=pure (some (i7 d.kindOf c)):=by
 have a:d.blockKind=.function:=by unfold Env.blockKind;rw[O.kind];rfl
 unfold swappedStores;have b:(!(c.length==2||c.length==3)||D.length != c.length||d.blockKind != .function)=false:=by rw[a,k,g,bne_self_eq_false];rfl
 have e:(D.any λ|.Starred ..=>true|_=>false)=false:=by rw[List.any_eq_false];rw[Xb] at Q;intro x B z;have y:=Q x B;induction x using Expr.casesOn<;>first|(have z:false=true:=z;exact bb z)|(have y:false=true:=y;exact bb y)
 have p:((i7 d.kindOf c).length != c.length||(i7 d.kindOf c).eraseDups.length != (i7 d.kindOf c).length)=false:=by rw[Mf (tO T),A,bne_self_eq_false];rfl
 dsimp only;rw[if_neg (by rw[YD];exact b:¬_)]
 rw[if_neg (by rw[YD];exact e:¬_)]
 rw[(?eqn:List.filterMap _ c=i7 d.kindOf c)]
 case eqn=>unfold i7;exact W0 (λf=>List.filterMap f c) (funext λx=>by induction x using Expr.casesOn<;>rfl)
 rw[if_neg (by rw[YD];exact p:¬_)]
 rw[if_neg (by rw[YD];exact R:¬_)]
 rw[if_neg (by rw[YD];exact L:¬_)]
noncomputable def nh:ZK->ZF->ZD->ZD
 |a::r,x::O,l=>Wy (nh r O l) a x
 |_,_,l=>l
def Qd:∀{b:ZF}{l G:ZD}{q:Nat},(q∉r->au l q=au G q)->r.length=b.length->au (nh r b l) q=au (nh r b G) q:=by
 induction r with
 |nil=>intro b l G q h _;induction b<;>exact h eu
 |cons a r S=>
  intro b l G q h f;induction b with
  |nil=>nomatch f
  |cons x b=>
   show au (Wy (nh r b l) a x) q=au (Wy (nh r b G) a x) q
   by_cases z:a=q
   .rw[z,pY,pY]
   .rw[m1 z,m1 z]
    exact S (λn=>h λm=>(Xm.mp m).elim (λe=>z e.symm) n) (Yr f)
def Qe(n:a∉r):∀{c:ZF}{l:ZD},au (nh r c l) a=au l a:=by
 induction r with
 |nil=>intro c l;induction c<;>rfl
 |cons b r S=>
  intro c l;induction c with|nil=>rfl|cons x c=>exact(m1 (λz=>n (Xm.mpr (.inl z.symm))) _).trans (S λm=>n (.tail _ m))
def JC{ns:ZK}(D:ns.Nodup):∀{b:ZF}{l G:ZD},gL ns b l=some G->∀q,au G q=au (nh ns b l) q:=by
 induction ns with
 |nil=>intro b l G e q;induction b with
  |nil=>exact b6 (p:=λG=>au G q=au l q) e rfl
  |cons=>exact cB e
 |cons a r S=>
  rw[XZ] at D;intro b l G e q;induction b with
  |nil=>exact cB e
  |cons x b=>
   have e:gL r b (Wy l a x)=some G:=e;refine(S D.2 e q).trans ?_;show _=au (Wy (nh r b l) a x) q
   by_cases z:a=q
   .rw[<-z,Qe D.1,pY,pY]
   .rw[m1 z]
    exact Qd (λ_=>m1 z _) (uS e)
def S8{ns:ZK}:∀{d:ZF}{b:ZJ}{A:ZD}{w:aL}{f:List (ZO->Sem Unit)}{e:ZJ}{Q:Unit->ZN}{E:ZG},(ns.all λh=>l0 c.af.kindOf (c.X.az h))=true->ns.length=d.length->bJ c i A g w->aK c.X w d b->
  (∀B,hb c g w (nh ns d A) (λ_=>True) B->aad c (assignInOrder f e) Q E B.s)->aad c (assignInOrder ((ns.map c.X.az).reverse.map (bindName c.af)++f) (b.reverse++e)) Q E w.s:=by
 induction ns with
 |nil=>
  intro d b A w f e Q E _ j C r K;induction d with
  |cons=>nomatch j
  |nil=>exact r.eh (q:=λb=>wpAny _ _ (assignInOrder _ (b.reverse++e)) Q E w.s) (K w ⟨(aT.refl C.ag.aH).b7 C.ag,.refl ..,λ_ _ F=>F,C.dc⟩)
 |cons a ns S=>
  intro d b A w f e Q E D j C r K;induction d with
  |nil=>nomatch j
  |cons x d=>rw[Yo] at D;refine r.dM (q:=λb=>wpAny _ _ (assignInOrder _ (b.reverse++e)) Q E w.s) λu b m l=>?_;rw[XD,Yn,Yn,Yw,X4,X4];exact S (ar D) (Yr j) C l λn k=>W6 (Yd (PyProof.Rows.bindName_ (um (C.stored k) trivial (λ_ _=>trivial) (aN D) (m.ext (C.ag.q' k.b7)) λs N=>K s (k.trans C.ag N))))
def Rh{ns:ZK}:∀{b:List ZU},(fb X ns b).map hP=ns.map X.az:=by
 induction ns with|nil=>exact rfl|cons a r S=>intro b;rw[fb,hX];exact W0 (X.az a::·) S
def Qw{X:cn}{ns:ZK}(h:(ns.map X.az).Nodup):ns.Nodup:=by
 induction ns with|nil=>exact .nil|cons a r S=>rw[XD,XZ] at h;exact XZ.mpr ⟨λm=>h.1 (Xz.mpr ⟨a,m,rfl⟩),S h.2⟩
def UG{V:ZV->Z0 ZR}{ns:ZK}{E:List ZU}(h:(i7 V (fb X ns E)).length=(fb X ns E).length):i7 V (fb X ns E)=ns.map X.az:=
 (MN h λx _ b e=>by
  induction x using Expr.casesOn with
  |Name s p=>
   have e:(if(V s==some .local&&p.line==(((fb X ns E).head?.map (·.pos.line)).getD 0))=true then some s else none)=some b:=e
   by_cases z:(V s==some .local&&p.line==(((fb X ns E).head?.map (·.pos.line)).getD 0))=true
   .rw[if_pos z] at e;exact(WZ e).symm
   .rw[if_neg z] at e;exact Internal.ns e
  |_=>exact Internal.ns e).trans Rh
def JZ{ns:ZK}{j G:bD}(h:(match ns with|_::_::_=>true|_=>false)=true)(e:uX ns d j=some G):∃c l,d=.ay c/\gL ns c j.aj=some l/\G=⟨l,j.h⟩:=by
 match ns,h,e with
 |a::b::r,_,e=>induction d using V.casesOn with|ay c=>exact aA e λl A e=>⟨c,l,rfl,A,(WZ e).symm⟩|_=>exact Internal.ns e
def IX{ns:ZK}(Y:∀e,bT d e):jI d (.bY (.ay ns) B):=λc j u U k y w e H C=>bK e λv P Z e=>aA e λs2 n e=>by
 have M:=ar H;have O:=ar M;have r:=ar O;have n:uX ns v ⟨j.aj,P⟩=some s2:=n;refine(JZ (aN M) n).elim λxs z=>z.elim λl z=>?_;refine bz (p:=λu U=>ha c (exec (.Assign [.Tuple (fb c.X ns (cR (bZ y 1))) (lS (bZ y 1)) (bZ y 1).pos] (aJ c.X k B (bZ y 0)) y.pos) c.af) j.h w U u) e λQ E q=>?_;rw[z.2.2] at q;have aD:=(Y B).aO Z (aN H) C.aW;have p:=(xw (aN O):swapsWith (aJ c.X k B (bZ y 0)) (some (.Tuple (fb c.X ns (cR (bZ y 1))) (lS (bZ y 1)) (bZ y 1).pos)) y.pos.line c.af=_);have i:Bj c.af.kindOf (fb c.X ns (cR (bZ y 1))) (aJ c.X k B (bZ y 0)):=ar r;generalize aJ c.X k B (bZ y 0)=fi at aD p i;generalize cR (bZ y 1)=f at p i;generalize V:vZ fi=fp;induction fp with
 |false=>exact PyProof.Rows.Assign_Tuple (aD _ E λS T h g=>B4 (g:=λ_=>True) trivial (aN r) xs (by rw[z.1];rfl) z.2.1 (C.aF h) g (λ_ _ _ _=>trivial) λs N=>q s .next ((h.b7 C.ag).trans C.ag N.b7) ⟨rfl,N.dc⟩) p (Rm V)
 |true=>
  unfold Bj at i;rw[V] at i;refine(UR V).elim λD x=>x.elim λk2 x=>x.elim λc' x=>?_;subst x;have S:(Nat.beq (Wx D) (Wx (fb c.X ns f))&&((Nat.beq (Wx (fb c.X ns f)) 2||Nat.beq (Wx (fb c.X ns f)) 3)&&(D.all e5&&(Nat.beq (Wx (i7 c.af.kindOf (fb c.X ns f))) (Wx (fb c.X ns f))&&(p5 (i7 c.af.kindOf (fb c.X ns f))&&(!(D.all (foldedForSure 8))&& !(D.all (constantsAlone 8)))))))):=i;rw[dP,dP,dP] at S;have s:=ar S;have I:=ar s;have W:=ar I;have G:=ar W;have F:=W2 (aN W);have X:=Wr C.bU (P:=lS (bZ y 1)) (G:=k2) (l:=(bZ y 1).pos) (K:=c') (W2 (aN S)) (by rw[<-p3,<-p3];exact aN s) (aN I) F (aN G) (WI (aN (ar G))) (WI (ar (ar G)))
  have K:=aN G;rw[(UG F)] at X K;refine PyProof.Rows.Assign_Tuple_swapped (aD _ E λS T h g=>?_) p X;have L:=C.aF h;have g:o c.X S v T:=g;rw[z.1] at g;refine g.gr (p:=λT=>wpAny _ _ (unpackItems T (ns.map c.X.az).length none) _ E S.s) λa us _ cK _ J=>?_;have A:=uS z.2.1;rw[Xs,A,J.length,<-Xo];refine PyProof.Rows.unpackItems_tuple L.dK.bC cK λh' a'=>?_;have m:aT c P S P (S.ab h' S.s.toks):=.all L.ag λb H e=>a' b H (Xi (XA e)) e;have R:=S8 (c:=c) (f:=[]) (e:=[]) (Q:=λ_=>Q .next) (E:=E) (aN r) A (L.aF m) (J.ext (L.ag.ext m)) λI t=>Xc (q I .next (((h.trans C.ag m).b7 C.ag).trans C.ag t.b7) ⟨rfl,t.dc.au (JC (Qw (tO K)) z.2.1)⟩);rw[XB,XB] at R;exact R
set_option backward.match.sparseCases false
def dJ(f:ed)(P:List ZP)(V:Z)(w:aL):Prop:=∀b∈P,(∃o,w.h.get? b=some o)/\b≠f.L/\¬f.dz b/\cY b V w/\f.g.get? b=none
def aL.bV(j:aL)(F:ZP->Prop)(o:ZQ)(u:Tok):aL:=aai ⟨j.G.bI F,(j.ab o u).s⟩
def ki(P:List ZP)(h S:ZQ):Prop:=∀b o,b∉P->h.get? b=some o->S.get? b=some o
structure kh(c:cu)(e:ZP)(own N:List ZP)(p:aL)(l:ZF)(el:Bool)(bD:Nat->ZQ->Prop)(o4:Nat->ZO->ZQ->Prop):Prop where
 frame:∀i h a,bD i h->(∀b,b∈own\/b∈N->∀H,h.get? b=some H->a.get? b=some H)->bD i a
 e':∀i h,bD i h->∀b∈own,∃H,h.get? b=some H
 wh:∀i d h,o4 i d h->∀b∈own,∃H,h.get? b=some H
 item:∀i x(w:aL)(Q:Z0 ZO->ZN)(E:ZG),l[i]?=some x->bD i w.h->cM p w->(∀b∈own,¬w.G.a0 b)->
  (∀d a s(f:ZP->Prop),(∀b,f b->w.h.get? b=none/\∃H,a.get? b=some H)->o c.X (w.bV f a s) x d->o4 i d a->ki own w.h a->Q (some d) (w.ab a s).s)->
  aad c (pyNext (.ref e)) Q E w.s
 go:∀g i d(w:aL)(Q:Unit->ZN)(E:ZG),(el=true->∃elts m pos,g=Expr.Tuple elts m pos)->o4 i d w.h->
  (∀a,bD (i+1) a->ki own w.h a->Q () (w.ab a w.s.toks).s)->aad c (letOwnedTupleGo g (.ref e) d) Q E w.s
 self:∀i(w:aL)(Q:ZG)(E:ZG),bD i w.h->Q (.ref e) w.s->aad c (pyIter (.ref e)) Q E w.s
 done:∀(w:aL)(Q:Z0 ZO->ZN)(E:ZG),bD l.length w.h->(∀a s,ki own w.h a->Q none (w.ab a s).s)->aad c (pyNext (.ref e)) Q E w.s
section
variable{c:cu}{k n:Nat}{A:ZD}{X T Q:Z}{w B m f:aL}{own N:List ZP}{F:ZP->Prop}{R:ZQ}
def dJ.step(C:dJ c.f own X w)(S:cG X w T B Ex):dJ c.f own T B:=λu M=>have j:=C u M;⟨j.1.elim λo J=>S.er u o J,j.2.1,j.2.2.1,j.2.2.2.1.step j.1 S,j.2.2.2.2⟩
def cM.bV(C:∀a'∈own,¬w.G.a0 a')(u:ki own w.h R):cM w (w.bV F R c'):=⟨λ_ j=>.inl j,λ_ _ j=>j,λa' o M J=>u a' o (λU=>C a' U M) J⟩
def bB.eY(u:bB f' X w)(M:∀a'∈own,cY a' X w)(J:ki own w.h R)(V:∀a',F a'->w.h.get? a'=Option.none/\∃c',R.get? a'=some c'):bB f' X (w.bV F R h'):=
 ⟨λU c' C=>(u.slot U c' C).ext (.bV (λa' Y=>(M a' Y).a0) J) rfl λcK W=>J _ cK (λj=>(M _ j).aX U ⟨c',C⟩ rfl) W,u.inj,λa' o=>o.elim (λo=>have j:=u.bI a' o;⟨j.1.elim λc' C=>⟨c',J a' c' (λj=>(M a' j).a0 o) C⟩,j.2⟩) λo=>⟨(V a' o).2,λU Z j=>u.kT (V a' o).1 Z j⟩,u.gM⟩
def cO.eY(J:cO c Q f X w)(U:dJ c.f own X w)(hB0:∀a'∈own,f.h.get? a'=none)(o:ki own w.h R)(V:∀a',F a'->w.h.get? a'=none/\∃c',R.get? a'=some c'):cO c Q f X (w.bV F R f'):=by have S:=J.step;have W:∀a' c',f.h.get? a'=some c'->a'∉own:=λa' c' j C=>cj j (hB0 a' C);exact⟨J.aH.eY (λa' cK=>(U a' cK).2.2.2.1) o V,⟨λa' u=>.inl (S.a0 a' u),S.aO,S.aX,λa' c' j e1 hm=>o a' c' (W a' c' j) (S.keep a' c' j e1 hm),λa' c' j=>(S.er a' c' j).elim λY Z=>⟨Y,o a' Y (W a' c' j) Z⟩,S.new,S.gV,S.n,λa' u=>u.elim (S.jU a') λu=>.inr (.inl (S.iZ (V a' u).1))⟩,J.aM.elim λe2 M=>⟨e2,⟨M.ns.at' λc' j=>o _ c' (λC=>(U _ C).2.1 rfl) j,λa' c' j=>o a' c' (λC=>cj j (U a' C).2.2.2.2) (M.keep a' c' j),M.above⟩⟩,J.dd.trans ⟨_,_,rfl⟩⟩
def bJ.eY(C:bJ c k A X w)(M:dJ c.f own X w)(J:ki own w.h R)(hF:∀f',F f'->w.h.get? f'=none/\∃h',R.get? f'=some h'):bJ c k A X (w.bV F R s'):=by
 have fl:c.f.L∉own:=λo=>(M _ o).2.1 rfl;have W:∀f',c.f.dz f'->f'∉own:=λf' u o=>(M f' o).2.2.1 u;have e2:∀f',cY f' X w->(∃h',w.h.get? f'=some h')->cY f' X (w.bV F R s'):=λf' O j=>⟨λZ=>Z.elim O.a0 λZ=>j.elim λh' j=>cj j (hF f' Z).1,O.aX⟩;have loc:c.af.locals∉own:=λo=>C.bU.F.elim (λV=>fl (V▸o)) λV=>W _ V o;have E:cM w (w.bV F R s'):=.bV (λf' cK=>(M f' cK).2.2.2.1.a0) J;refine⟨C.ok,C.aM,C.dK,C.bU,⟨C.ag.aM.elim λU Y=>⟨U,Y.ns.at' λh' j=>J _ h' fl j,λf' h' j=>J f' h' (λo=>cj j (M f' o).2.2.2.2) (Y.keep f' h' j),Y.above⟩,C.ag.aH.eY (λf' cK=>(M f' cK).2.2.2.1) J hF,e2 _ C.ag.own C.ag.jX,C.ag.new,λf' u=>have o:=C.ag.dz f' u;⟨o.1.elim λh' j=>⟨h',J f' h' (W f' u) j⟩,o.2.1,e2 f' o.2.2.1 o.1,o.2.2.2⟩⟩,
  ⟨λV e1 fs j=>(C.dc.get V e1 fs j).elim λfv o=>⟨fv,?_,o.2.ext E⟩,C.dc.ns.elim λU u=>⟨U,u.at' λh' j=>J _ h' loc j⟩,λhi c' fp j=>(C.dc.cell hi c' fp j).elim λe1 u=>u.elim λh' u=>⟨e1,h',J c' h' (W _ (C.bU.cell _ _ fp j)) u.1,u.2⟩⟩⟩
 exact o.1.imp (λf'=>⟨f'.1,f'.2.elim λU f'=>⟨U,f'.1.at' λh' j=>J _ h' loc j,f'.2⟩⟩) λf'=>⟨f'.1,f'.2.1,f'.2.2.elim λa' u=>⟨a',u.1,u.2.elim λh' fi=>⟨h',J a' h' (W _ (C.bU.cell _ _ f'.1 u.1)) fi.1,fi.2⟩⟩⟩
def dJ.bV(C:dJ c.f own X w)(M:∀a',F a'->w.h.get? a'=none/\∃c',R.get? a'=some c')(U:∀a'∈own,∃c',R.get? a'=some c'):dJ c.f own X (w.bV F R f'):=λa' u=>have j:=C a' u;⟨U a' u,j.2.1,j.2.2.1,⟨λo=>o.elim j.2.2.2.1.a0 λo=>j.1.elim λc' J=>cj J (M a' o).1,j.2.2.2.1.aX⟩,j.2.2.2.2⟩
def cO.qt(u:bB c.X X w)(o:cO c X w hp₁ w₁)(j:cO c hp₁ w₁ hp₂ w₂):cO c X w hp₂ w₂:=⟨j.aH,o.step.trans u j.step,j.aM,o.dd.trans j.dd⟩
def Ce(y:g c.af.locals){Q:Unit->ZN}{E:ZG}(D:oz c.X c.af.kindOf h)(e:hJ h x ⟨A,X⟩=some d)(C:bJ c k A X w)(p:o c.X w x i)(f:∀q∈h,∀a,c.af.cells.lookup (c.X.az q)=some a->g a)
  (K:∀B,hb c X w d.aj g B->d.h=X->Q () B.s):aad c (assign (g5 c.X h s) c.af i) Q E w.s:=
 match h,D,e,f with
 |[],D,_,_=>bb D
 |[q],D,e,f=>PyProof.Rows.assign_Name (um C y (f q (.head _)) (aN (ar D)) p λB S=>b6 (p:=λd=>(∀B,hb c X w d.aj g B->d.h=X->Q () B.s)->Q () B.s) e (λK=>K B S rfl) K)
 |a::b::r,D,e,f=>aA e λO m e=>aA e λl j e=>B4 y (ar D) O m j C p f λB S=>b6 (p:=λd=>(∀B,hb c X w d.aj g B->d.h=X->Q () B.s)->Q () B.s) e (λK=>K B S rfl) K
def M0(od:∀b,o2 n b)(hm:oz c.X c.af.kindOf g)(f:l5 c.X k c.af.kindOf b l){W:ZF}{el:Bool}{St':Nat->ZQ->Prop}{Mid:Nat->ZO->ZQ->Prop}{j:ZQ}
  (dw:kh c s own N m W el St' Mid)(htwo:el=true->∃G k P,g5 c.X g h=Expr.Tuple G k P)(R₀:bB c.X Q (m.ab j t))(hB0:∀b∈own,j.get? b=none)(hBk:∀a H,m.G.a0 a->m.h.get? a=some H->j.get? a=some H)
  (fpOk:∀b∈N,b∉own/\¬hh c.f b/\(∀p,qF Q p->m.G.aX p≠b)/\∃H,j.get? b=some H)(nofz:∀b,hh c.f b->¬m.G.a0 b){J:Result->ZN}{M:fG}{D:bD}(q:∀B r,cO c Q (m.ab j t) D.h B->jF c B D.aj M r->J (.ok r) B.s)(I:ZF):∀(i:Nat)(d:bD)(w:aL),
  i+I.length=W.length->W.drop i=I->rg (aD c.X.P c.X.N n).x g b I d=some (M,D)->bJ c k d.aj d.h w->St' i w.h->dJ c.f own d.h w->cO c Q (m.ab j t) d.h w->codeAny (aae c) c.A (.forLoop (g5 c.X g h) (.ref s) (kc c.X k b l) [] c.af) J w.s:=by
 induction I with
 |nil=>intro i d w hi hd e C hst O L;refine DJ (dw.done w _ _ (hi▸hst) λR h' K=>Yl ?_);have z:cO c Q (m.ab j t) d.h (w.bV (λ_=>False) R h'):=L.eY O hB0 K λ_ z=>z.elim;exact bz (p:=λM D=>(∀B r,cO c Q (m.ab j t) D.h B->jF c B D.aj M r->J (.ok r) B.s)->J (.ok .next) (w.ab R h').s) e (λq=>q (w.bV (λ_=>False) R h') .next z ⟨rfl,bJ.dc (C.eY (F:=λ_=>False) O K λ_ z=>z.elim)⟩) q
 |cons x I qs=>
  intro i d w hi hd e C hst O L;refine aA e λst1 e1 e=>bK e λfl1 st1' e2 e=>?_;have pl:W[i]?=some x:=by have z:=W0 List.head? hd;rw[List.head?_drop] at z;exact z
  have nk:cM m w:=⟨L.step.a0,L.step.aO,λa H fv e=>L.step.keep a H (hBk a H fv e) (λz=>nofz a z fv) λp mp=>(R₀.bI a fv).2 p mp.e'⟩;have fpK:∀{S U:aL}{c' hr:Z},cO c Q (m.ab j t) c' S->cO c Q (m.ab j t) hr U->∀b∈N,∀H,S.h.get? b=some H->U.h.get? b=some H:=λL1 X b f H e=>have z:=fpOk b f;z.2.2.2.elim λl2 k0=>WZ (Eq.trans (Eq.symm (L1.step.keep b l2 k0 z.2.1 z.2.2.1)) e)▸X.step.keep b l2 k0 z.2.1 z.2.2.1;refine DJ (dw.item i x w _ _ pl hst nk (λb f=>(O b f).2.2.2.1.a0) λv A o F hF q0 hN l1=>?_);have mm:bJ c k d.aj d.h (w.bV F A o):=C.eY O l1 hF;have L1:cO c Q (m.ab j t) d.h (w.bV F A o):=L.eY O hB0 l1 hF;have aw1:dJ c.f own d.h (w.bV F A o):=O.bV hF (dw.wh i v A hN);refine dw.go (g5 c.X g h) i v (w.bV F A o) _ _ htwo hN λE st2' k2=>?_;have hj:∀b,False->(w.bV F A o).h.get? b=none/\∃H,E.get? b=some H:=λ_ z=>z.elim;have kz:bJ c k d.aj d.h ((w.bV F A o).bV (λ_=>False) E o):=mm.eY aw1 k2 hj;have X:cO c Q (m.ab j t) d.h ((w.bV F A o).bV (λ_=>False) E o):=L1.eY aw1 hB0 k2 hj;have aw2:dJ c.f own d.h ((w.bV F A o).bV (λ_=>False) E o):=aw1.bV hj (dw.e' _ E st2');refine Ce (w:=(w.bV F A o).bV (λ_=>False) E o) (g:=λ_=>True) trivial hm e1 kz (q0.ext (.bV (λb f=>(aw1 b f).2.2.2.1.a0) k2)) (λ_ _ _ _=>trivial) λkk a' he=>?_;have fp:=kz.stored a';have Y:=X.qt R₀ a'.b7;have aw3:=aw2.step a'.b7.step;have ownK:∀{S U:aL}{c' hr:Z},dJ c.f own c' S->cO c c' S hr U->∀b∈own,∀H,S.h.get? b=some H->U.h.get? b=some H:=λa T b f H e=>have z:=a b f;T.step.keep b H e (λy=>y.elim z.2.1 z.2.2.1) λp mp=>z.2.2.2.1.aX p mp.e';rw[<-he] at fp Y aw3;refine od b c st1 fl1 st1' k l kk e2 f fp _ _ λfi rt cK f'=>?_;have fs:=Y.qt R₀ cK;induction fl1 with
  |ret u=>refine f'.elim λkd z=>?_;rw[z.1];exact bz (p:=λM D=>(∀B r,cO c Q (m.ab j t) D.h B->jF c B D.aj M r->J (.ok r) B.s)->J (.ok (.ret kd)) fi.s) e (λq=>q fi (.ret kd) fs ⟨kd,rfl,z.2⟩) q
  |next=>
   rw[f'.1];have hd':W.drop (i+1)=I:=by rw[<-Zk,hd];rfl
   exact qs (i+1) ⟨i' d.aj st1'.aj,st1'.h⟩ fi ((YU i I.length).trans hi) hd' e ⟨C.ok,C.aM,C.dK,C.bU,fp.ag.b7 cK,f'.2.i'⟩ (dw.frame _ kk.h fi.h (dw.frame _ E kk.h st2' λb f H e=>f.elim (λf=>ownK aw2 a'.b7 b f H e) λf=>fpK X Y b f H e) λb f H e=>f.elim (λf=>ownK aw3 cK b f H e) λf=>fpK Y fs b f H e) (aw3.step cK.step) fs
end
def tn:List String:=aai ["enumerate","zip","dict_itemiterator","dict_reverseitemiterator","odict_iterator","itertools.zip_longest","itertools.pairwise"]
section
variable{c:cu}{k n:Nat}{A:ZD}{X P i:Z}{w B m O:aL}{N H:List ZP}{F:ZP->Prop}{G:ZQ}{t:Tok}{D:ZF}{v:V}{z:ZO}
set_option backward.match.sparseCases true in
def Qi{v:ZO}{s:ZW}{Q:Unit->ZN}{E:ZG}(h:s.heap.get? b=some e)(L:e.cls=.type f)(X:tn.contains f=false)(q:Q () s):aad c (letOwnedTupleGo g (.ref b) v) Q E s:=by
 have S:∀(a:ZP)(d:Data),aad c (match Value.type f,d with
   |.type n,.fields D=>
    if tn.contains n&&D[0]?==some (rawInt a)then do
     rule "for.unpacks-the-owned-tuple"
     updateField b 0 .none
    else pure ()
   |_,_=>pure ()) Q E s:=λa d=>by
  induction d with
  |fields D=>
   refine(?_:wpAny _ _ (if(tn.contains f&&_)=true then _ else _) ..)
   exact X▸Xc q
  |_=>exact Xc q
 have el:∀l k p,aad c (letOwnedTupleGo (.Tuple l k p) (.ref b) v) Q E s:=λl k p=>by
  induction v with|ref a=>exact W6 (wpAny_load h (by exact L▸S a e.data))|_=>exact Xc q
 induction g using Expr.casesOn with|Tuple l k p=>exact el l k p|List l p=>exact el l 0 p|_=>exact Xc q
def OX{bD:Nat->ZQ->Prop}{s:String}(n:Walks c.X.prog c.X.w c.A f r [f] l g bD)(X:l=D.length)(R:∀b∈r,b=f\/b∈H)
  (p:∀a h,bD a h->∃d,h.get? f=some d/\d.cls=.type s)(u:tn.contains s=false)(y:∀a v x,g a v->D[a]?=some x->o c.X m x v):kh c f [f] H m D false bD (λa _ h=>bD (a+1) h) where
 frame:=λa h G j k=>n.frame a h G j λb i d e=>k b ((R b i).imp (λz=>by exact z▸Xf.mpr rfl) id) d e
 e':=λa h j b i=>by exact(Xf.mp i)▸(p a h j).elim λd e=>⟨d,e.1⟩
 wh:=λa v h j b i=>by exact(Xf.mp i)▸(p _ h j).elim λd e=>⟨d,e.1⟩
 item:=λa x w Q E B j t N F=>n.item a w.s Q E (by exact X▸(List.getElem?_eq_some_iff.mp B).1) j λv G I A C k=>F v G I (λ_=>False) (λ_ z=>z.elim) (((y a v x A B).ext t).ext (.bV N k)) C k
 go:=λJ a v w Q E _ j F=>(p _ _ j).elim λd e=>Qi e.1 e.2 u (F w.s.heap j λ_ _ _ e=>e)
 self:=λa w Q E j q=>n.self a w.s Q E j q
 done:=λw Q E j F=>n.done w.s Q E (by exact X▸j) F
structure g'(c:cu)(X:Z)(w:aL)(P:Z)(B:aL)(D:ZF)(v:V)(el:Bool)(a:ZP):Prop where
 dh:∃(N H:List ZP)(bD:Nat->ZQ->Prop)(o4:Nat->ZO->ZQ->Prop),kh c a N H B D el bD o4/\bD 0 B.h/\dJ c.f N P B/\(∀b∈N,w.h.get? b=none)/\(∀b∈H,b∉N/\(B.G.a0 b\/∃q,v=.ref q/\cT P q/\B.G.aX q=b)/\∃d,B.h.get? b=some d)
 aF:aT c X w P B
def g'.jf{el:Bool}(J:aP c X w)(u:aT c X w i O)(o:g' c i O P B D v el a'):g' c X w P B D v el a':=
 ⟨o.dh.elim λN j=>j.elim λH j=>j.elim λbD j=>j.elim λC j=>⟨N,H,bD,C,j.1,j.2.1,j.2.2.1,λM U=>u.step.iZ (j.2.2.2.1 M U),j.2.2.2.2⟩,u.trans J o.aF⟩
def sd(I:aP c X w)(a:∀b∈N,w.h.get? b=none/\∃d,G.get? b=some d):dJ c.f N X (w.ab G t):=λb g=>by
 have z:=a b g;refine⟨z.2,λy=>I.jX.elim λd e=>cj e (y▸z.1),λy=>(I.dz b y).1.elim λd e=>cj e z.1,⟨λf=>(I.aH.bI b f).1.elim λd e=>cj e z.1,λp l y=>I.aH.kT z.1 l y⟩,?_⟩;generalize i:c.f.g.get? b=h;induction h with|none=>rfl|some d=>exact I.aM.elim λ_ F=>cj (F.keep b d i) z.1
def jc(X:Z)(w:aL)(v:V)(a:ZP):Prop:=w.G.a0 a\/∃q,v=.ref q/\cT X q/\w.G.aX q=a
def yT(R:bB c.X X w)(e:gB v X=some y)(p:o c.X w v (.ref a)):jc X w v a:=by
 induction v using V.casesOn with
 |ah=>exact p.yU (p:=λu=>u=Value.ref a->jc X w _ a) (λ_ _ f _ _ _ _ e=>.inl (Value.ref.inj e▸f)) rfl
 |ae=>exact p.ig (p:=λu=>u=Value.ref a->jc X w _ a) (λ_ _ f _ _ _ e=>.inl (Value.ref.inj e▸f)) rfl
 |ay=>exact p.gr (p:=λu=>u=Value.ref a->jc X w _ a) (λ_ _ f _ _ _ e=>.inl (Value.ref.inj e▸f)) rfl
 |ref q=>
  have e:(match X.get q with|some (.ae D _)=>some (iQ.L D)|some (.ah k T _)=>some (.D k T)|_=>none)=some y:=e
  refine p.w2 (p:=λu=>u=Value.ref a->jc X w (.ref q) a) (λA I B=>?_) rfl;have S:∀{H},X.get q=some H->w.G.aO q=some (w.G.aX q)->cT X q->jc X w (.ref q) a:=λs z m=>.inr ⟨q,rfl,m,WZ (z.symm.trans (Value.ref.inj B▸I))⟩;generalize s:X.get q=N;induction N with
  |none=>rw[s] at e;exact ns e
  |some H=>rw[s] at e;induction H with
   |ae D l=>exact S s (R.slot q _ s).1 ⟨_,s⟩
   |ah P T l=>exact S s (R.slot q _ s).1 ⟨_,s⟩
   |ins=>exact ns e
 |_=>exact ns e
def tY{bD:Nat->ZQ->Prop}{k:String}(I:aP c X w)(n:Walks c.X.prog c.X.w c.A (aah w.s) r [(aah w.s)] g f bD)(q:g=D.length)(R:∀b∈r,b=(aah w.s)\/b∈H)
  (C:∀d h,bD d h->∃a,h.get? (aah w.s)=some a/\a.cls=.type k)(p:tn.contains k=false)(s:∀d L x,f d L->D[d]?=some x->o c.X w x L)(j:bD 0 (w.s.heap.push y))(u:y.isFreed=false)(l:∀b∈H,jc X w v b/\∃a,w.h.get? b=some a):g' c X w X (w.ab (w.s.heap.push y) t) D v false (aah w.s):=by
 have i:c3 w.h (w.s.heap.push y):=c3.push _ _;have T:aT c X w X (w.ab (w.s.heap.push y) t):=.all I i;refine⟨⟨[(aah w.s)],H,bD,_,OX n q R C p λd L x A B=>(s d L x A B).ext (I.ext T),j,sd I λb G=>by refine(Xf.mp G)▸?_;exact⟨hp _,y,Heap.get?_push_size _ u⟩,λb G=>by exact(Xf.mp G)▸hp _,λb G=>?_⟩,T⟩
 have z:=l b G;exact⟨λm=>z.2.elim λa e=>cj e (by exact(Xf.mp m)▸hp _),z.1,z.2.elim λa e=>⟨a,i b a e⟩⟩
def wJ{a b:ZP}:∀d∈[a,b],d=a\/d∈[b]:=λd h=>Xm.mp h
variable{Q:ZG}{E:ZG}
def RP(I:aP c X w)(N:c.A.handled=none)(T:jc X w v a)(f:w.h.PlainList a d.toArray)(F:aK c.X w D d)(K:∀B I,g' c X w X B D v false I->Q (.ref I) B.s):aad c (pyIter (.ref a)) Q E w.s:=by
 refine Zt f.isList (K (w.ab _ w.s.toks) _ (tY I (Walks.list N (aah w.s) a (Xi (f.elim λo s=>XA s)) d.toArray) (by rw[Xo,F.length]) wJ (λi h j=>j.1.elim λo z=>⟨o,z.1,z.2.1⟩) (by decide) (λi u x n e=>?_) ⟨⟨_,Heap.get?_push_size _ rfl,rfl,rfl⟩,f.isList.push _⟩ rfl λb G=>by exact(Xf.mp G)▸⟨T,f.elim λo s=>⟨_,s⟩⟩))
 exact(F.lN e).elim λg z=>by
  have n:d[i]?=some u:=by rw[List.getElem?_toArray] at n;exact n
  exact WZ (z.1.symm.trans n)▸z.2
def RS(I:aP c X w)(N:c.A.handled=none)(T:jc X w v a)(f:w.h.IsTuple a d.toArray)(F:aK c.X w D d)(K:∀B I,g' c X w X B D v false I->Q (.ref I) B.s):aad c (pyIter (.ref a)) Q E w.s:=by
 refine wpAny_pyIter_tuple f (K (w.ab _ w.s.toks) _ (tY I (Walks.tuple N (aah w.s) a (Xi (f.elim λo s=>XA s.1)) d.toArray) (by rw[Xo,F.length]) wJ (λi h j=>j.1.elim λo z=>⟨o,z.1,z.2.1⟩) (by decide) (λi u x n g=>?_) ⟨⟨_,Heap.get?_push_size _ rfl,rfl,rfl⟩,zQ f λo e=>c3.push _ _ _ _ e⟩ rfl λb G=>by exact(Xf.mp G)▸⟨T,f.elim λo s=>⟨_,s.1⟩⟩))
 exact(F.lN g).elim λk z=>by
  have n:d[i]?=some u:=by rw[List.getElem?_toArray] at n;exact n
  exact WZ (z.1.symm.trans n)▸z.2
def O5:∀{a:Nat}{x:V},(ie l)[a]?=some x->∃k v,l[a]?=some (k,v)/\x=AB k:=by
 induction l with
 |nil=>exactλe=>ns e
 |cons p r S=>exactλ{a x} e=>match a,e with
  |0,e=>⟨p.1,p.2,rfl,(WZ e).symm⟩
  |a+1,e=>S e
def SK{D:ZE}:∀{f:List (aE×ZO)},b2 g w D f->∀{d:Nat}{k:aE}{v:V},D[d]?=some (k,v)->∃L,f[d]?=some (k,L):=by
 induction D with
 |nil=>exactλ_ _ _ _ e=>ns e
 |cons p D S=>
  intro f r d k v e;refine r.dM (q:=λf=>∃L,f[d]?=some (k,L)) λc f a b=>?_;induction d with|zero=>exact⟨_,W0 (λq=>some (q,_)) (W0 Prod.fst (WZ e))⟩|succ d=>exact S b e
def RN(I:aP c X w)(N:c.A.handled=none)(R:g≠.T)(V:(a==sysModules)=false)(d:ez c.X w g a f)(C:b2 c.X w l f)(J:jc X w v a)(K:∀B I,g' c X w X B (ie l) v false I->Q (.ref I) B.s):aad c (pyIter (.ref a)) Q E w.s:=by
 have q:∀{T:Type} [DecidableEq T]{r:KeyKind c.X.prog c.X.w T}{D:List (T×ZO)}{s:T->aE},w.h.DictOf r a D->f=D.map (λp=>(s p.1,p.2))->(∀{z:T}{u:ZO},r.is z u->o c.X w (AB (s z)) u)->aad c (pyIter (.ref a)) Q E w.s:=λ{T _ r D s} L H M=>L.dictAt.elim λS A=>by
  refine wpAny_pyIter_dict V A (K (w.ab _ w.s.toks) _ (tY (k:="dict_keyiterator") (H:=[a]) I (Walks.dictKeys (prog:=c.X.prog) (w:=c.X.w) (knd:=r) N (aah w.s) a (Xi A.lt_size) D S) (by rw[E4,C.length,H,Xs]) wJ (λi h j=>j.1.elim λU z=>⟨U,z.1,z.2.1⟩) (by decide) (λi u x n O=>?_) ⟨⟨_,Heap.get?_push_size _ rfl,rfl,rfl⟩,A.push _⟩ rfl λb G=>by exact(Xf.mp G)▸⟨J,d.has⟩))
  refine n.elim λz n=>n.elim λW m=>(O5 O).elim λP y=>y.elim λY y=>(SK C y.1).elim λB k=>?_;rw[H,List.getElem?_map,m.1] at k;have F:s z=P:=W0 Prod.fst (WZ k);rw[y.2,<-F];exact M m.2
 induction g with
 |T=>exact absurd rfl R
 |I=>
   refine d.elim λD d=>q (s:=aE.i) d.1 d.2 λ{z u} e=>?_;induction u with
   |int i t=>exact(beq_iff_eq.mp (e:(i==z)))▸.int
   |_=>exact bb e
 |S=>
   refine d.elim λD d=>q (s:=aE.s) d.1 d.2 λ{z u} e=>?_;induction u with|str i t=>exact(beq_iff_eq.mp (e:(i==z)))▸.str|_=>exact bb e
def Sv:∀{L:Int}{a:Nat}{x:V},(i2 L n)[a]?=some x->x=.int (L+a):=by
 induction n with
 |zero=>exactλe=>ns e
 |succ n S=>exactλ{L a x} e=>match a,e with
  |0,e=>(WZ e).symm.trans (by rw[Zl,ZA])
  |a+1,e=>(S e).trans (W0 V.int (by rw[Int.natCast_add,Int.add_assoc,Zz (a:Int)];rfl))
def Sw:∀{L:Int},(i2 L n).length=n:=by
 induction n with|zero=>exact rfl|succ n S=>exact W0 Nat.succ S
def Gl{t u v:Tok}(I:aP c X w)(N:c.A.handled=none)(F:IsRange w.h r a b 1 t u v)(d:-(2 ^ 62)<=a/\a<2 ^ 62)(G:-(2 ^ 62)<=b/\b<2 ^ 62)(f:D=i2 a (b-a).toNat)(K:∀B I,g' c X w X B D .none false I->Q (.ref I) B.s):aad c (pyIter (.ref r)) Q E w.s:=by
 subst f;refine wpAny_pyIter_range F (small_one d.1 d.2 G.1 G.2) (K (w.ab _ w.s.toks) _ (tY (H:=[]) I (Walks.range (prog:=c.X.prog) (w:=c.X.w) N (aah w.s) a 1 (b-a).toNat) Sw.symm (λb G=>.inl (Xf.mp G)) (λi h j=>⟨_,j,rfl⟩) (by decide) (λi u x n f=>?_) ?_ rfl λb G=>nomatch G))
 .exact n.elim λk e=>by rw[Sv f,e,Int.mul_one];exact .int
 .have O:(a+((0:Nat):Int)*1)=a:=by rw[Int.mul_one,Zl,ZA]
  have g:(((b-a).toNat:Int)-((0:Nat):Int))=Builtin.Range.rangeSize a b 1:=by clear K N d G F I;rw[rangeSize_one];split<;>simp<;>lia
  rw[O,g];exact Heap.get?_push_size _ rfl
end
section
variable{c:cu}{k n:Nat}{A:ZD}{X T d h:Z}{w B m R:aL}{P N:List ZP}{L:ZQ}{t:Tok}{I:ZF}{v:V}{H:ZO}
def Md:∀{k:Int},(mK I k).length=I.length:=by
 induction I with|nil=>exact rfl|cons x I S=>exact W0 Nat.succ S
def Mc:∀{k:Int}{i:Nat}{x:V},(mK I k)[i]?=some x->∃y,I[i]?=some y/\x=.ay [.int (k+i),y]:=by
 induction I with
 |nil=>exactλe=>ns e
 |cons y I S=>exactλ{k i x} e=>match i,e with
  |0,e=>⟨y,rfl,(WZ e).symm.trans (by rw[Zl,ZA])⟩
  |i+1,e=>(S e).elim λz q=>⟨z,q.1,q.2.trans (W0 (λj=>V.ay [.int j,z]) (by rw[Int.natCast_add,Int.add_assoc,Zz (i:Int)];rfl))⟩
def uy{a b d:ZP}(h:d∈[a,b]):d=a\/d=b:=(Xm.mp h).imp id λh=>Xf.mp h
def OW(N:c.A.handled=none)(J:e≠g)(M:l≠e)(O:l≠g)(r:aK c.X m I p)(W:p.length<=b0):
  kh c e [e,g] [l] m (mK I 0) true (λi f=>(∃s,IsEnum f e g i s)/\f.IsListIter g l i/\f.IsList l p.toArray)
   (λi v f=>∃a,v=.ref a/\(∃x,IsEnumOut f e g ((i:Int)+1) x a)/\f.IsListIter g l (i+1)/\f.IsList l p.toArray/\a≠e/\a≠g):=by
 have n:=WalksT.enumerate (prog:=c.X.prog) (w:=c.X.w) N e g l J M O p.toArray;refine⟨λi f L j k=>n.frame i f L j λb G o C=>k b ((Xm.mp G).elim (λz=>.inl (z▸.head _)) λG=>(Xm.mp G).elim (λz=>.inl (z▸.tail _ (.head _))) .inr) o C,λi f j b G=>?_,λi v f j b G=>?_,λi x w Q E S j B P F=>?_,λY i v w Q E el j F=>?_,λi w Q E j q=>n.self i w.s Q E j q,λw Q E j F=>?_⟩
 .exact(uy G).elim (λz=>z▸j.1.elim λs H=>⟨_,H⟩) λz=>z▸j.2.1.elim λo h=>⟨o,h.1⟩
 .exact j.elim λa j=>(uy G).elim (λz=>z▸j.2.1.elim λy H=>⟨_,H⟩) λz=>z▸j.2.2.1.elim λo h=>⟨o,h.1⟩
 .refine(Mc S).elim λy A=>(r.lN A.1).elim λa' u=>?_
  refine n.item i w.s Q E (by exact Xo▸(List.getElem?_eq_some_iff.mp u.1).1) j λa Z L U d R V hN K=>?_
  refine d.elim λt d=>d.elim λz d=>?_;have T:p[i]?=some z:=by have y:=d.1;rw[List.getElem?_toArray] at y;exact y
  refine F (.ref a) L U (λb=>b=a) (λb G=>(G:b=a)▸⟨Heap.get?_none_of_le R,V.elim λo e=>⟨o,e.1⟩⟩) ?_ ⟨a,rfl,hN⟩ K;rw[A.2,Int.zero_add];exact .ay (.inr rfl) (d.2▸V) (WY rfl) (.cons .int (.cons ((((WZ (u.1.symm.trans T))▸u.2).ext B).ext (.bV P K)) .nil))
 .exact(el rfl).elim λD x=>x.elim λk x=>x.elim λX x=>j.elim λa j=>by exact x▸j.1▸n.go D k X i a w.s Q E j.2 F
 .refine n.done w.s Q E ?_ F
  rw[Md] at j;rw[Xo,<-r.length];exact j
variable{Q:ZG}{E:ZG}
def RR(d:aP c X w)(N:c.A.handled=none)(T:jc X w v a)(f:w.h.PlainList a e.toArray)(F:aK c.X w I e)(K:∀B d,g' c X w X B I.reverse v false d->Q (.ref d) B.s):aad c (call (.type "reversed") [.ref a] []) (λx g=>aad c (pyIter x) Q E g) E w.s:=by
 have l:(w.s.heap.push (revObj a ((e.toArray.size:Int)-1))).IsRevIter (aah w.s) a ((e.toArray.size:Int)-1):=⟨_,Heap.get?_push_size _ rfl,rfl,rfl⟩;refine call_reversed_list f.isList (wpAny_pyIter_revIter l (K (w.ab _ w.s.toks) _ (tY d (Walks.listRev N (aah w.s) a (Xi (f.elim λo s=>XA s)) e.toArray) (by rw[Xo,Zj,F.length]) wJ (λi h j=>j.2.1.elim λo z=>⟨o,z.1,z.2.1⟩) (by decide) (λi u x n k=>?_) ⟨Xj _,by rw[Zl,Int.sub_zero];exact l,f.isList.push _⟩ rfl λb G=>by rw[Xf.mp G];exact⟨T,f.elim λo s=>⟨_,s⟩⟩)))
 rw[List.getElem?_reverse (by have z:=(List.getElem?_eq_some_iff.mp k).1;rwa [Zj] at z),F.length] at k
 exact(F.lN k).elim λm z=>by
  have n:e[e.length-1-i]?=some u:=by rw[List.getElem?_toArray,Xo] at n;exact n
  exact WZ (z.1.symm.trans n)▸z.2
def RO(d:aP c X w)(N:c.A.handled=none)(j:jc X w v a)(h:w.h.PlainList a f.toArray)(l:f.length<=b0)(F:aK c.X w I f)(K:∀B d,g' c X w X B (mK I 0) v true d->Q (.ref d) B.s):aad c (call (.type "enumerate") [.ref a] []) (λx g=>aad c (pyIter x) Q E g) E w.s:=by have m:=h.elim λo s=>XA s;refine call_enumerate_list h.isList λP H k n i=>wpAny_pyIter_enum H (K (w.ab P w.s.toks) _ ?_);have T:aT c X w X (w.ab P w.s.toks):=.all d i;have r:∀b∈[(aah w.s)+1,(aah w.s)],w.s.heap.get? b=none:=λb G=>(uy G).elim (λz=>z▸Heap.get?_none_of_le (Xt _)) λz=>z▸hp _;refine⟨⟨[(aah w.s)+1,(aah w.s)],[a],_,_,OW N (Nat.succ_ne_self _) (Xi (XH m)) (Xi m) (F.ext (d.ext T)) l,⟨⟨.none,H⟩,k,h.isList.at λo e=>i _ _ e⟩,sd d λb G=>⟨r b G,(uy G).elim (λz=>z▸⟨_,H⟩) λz=>z▸k.elim λo s=>⟨o,s.1⟩⟩,r,λb G=>?_⟩,T⟩;exact(Xf.mp G)▸⟨λz=>(uy z).elim (Xi (XH m)) (Xi m),j,h.elim λo s=>⟨_,i _ _ s⟩⟩
def x9:Bool->O->O->Prop
 |true,o,r=>bc r=bc o+1
 |false,o,r=>bc o=bc r+1
def tx(e:dY v X i=some d):((∀p,v≠.ref p)/\d=X)\/∃p g r,v=.ref p/\X.get p=some g/\d=X.set p r/\x9 i g r/\∀{f:cn}{w:aL},fT f w p g->fT f w p r:=by
 induction v using V.casesOn with
 |ref p=>
  refine .inr ?_;have e:(match(generalizing:=false) X.get p with
   |some (.ae I l)=>match(generalizing:=false) i,l with
    |true,l=>some (X.set p (.ae I (l+1)))
    |false,l+1=>some (X.set p (.ae I l))
    |_,_=>none
   |some (.ah k I l)=>match(generalizing:=false) i,l with
    |true,l=>some (X.set p (.ah k I (l+1)))
    |false,l+1=>some (X.set p (.ah k I l))
    |_,_=>none
   |_=>none)=some d:=e
  generalize s:X.get p=N;induction N with
  |none=>rw[s] at e;exact ns e
  |some g=>
   rw[s] at e;have S:∀{r},some (X.set p r)=some d->x9 i g r->(∀{f:cn}{w:aL},fT f w p g->fT f w p r)->∃q u r,V.ref p=.ref q/\X.get q=some u/\d=X.set q r/\x9 i u r/\∀{f:cn}{w:aL},fT f w q u->fT f w q r:=λe a b=>⟨p,g,_,rfl,s,(WZ e).symm,a,b⟩
   clear s
   induction g with
   |ae I l=>induction i with
    |true=>exact S e (Eq.refl _) λa=>a
    |false=>induction l with
     |zero=>exact ns e
     |succ l=>exact S e (Eq.refl _) λa=>a
   |ah P I l=>induction i with
    |true=>exact S e (Eq.refl _) λa=>a
    |false=>induction l with
     |zero=>exact ns e
     |succ l=>exact S e (Eq.refl _) λa=>a
   |ins=>exact ns e
 |_=>exact .inl ⟨λ_ z=>V.noConfusion z,(WZ e).symm⟩
def tA(e:dY v X b=some d)(R:bB a X w):bB a d w/\∀q,cT d q↔cT X q:=
 (tx e).elim (λz=>by rw[z.2];exact⟨R,λ_=>Iff.rfl⟩) λz=>z.elim λp z=>z.elim λo z=>z.elim λr z=>by rw[z.2.2.1];exact⟨R.SJ z.2.1 z.2.2.2.2,λq=>kO z.2.1⟩
def cY.gV(O:cY c' X w)(u:∀a',cT d a'↔cT X a'):cY c' d w:=⟨O.a0,λj o=>O.aX j ((u j).mp o)⟩
def Ft(e:dY v X b=some d)(I:aP c X w):aP c d w:=have z:=tA e I.aH;⟨I.aM,z.1,I.own.gV z.2,λp l=>I.new p ((z.2 p).mp l),λa y=>have u:=I.dz a y;⟨u.1,u.2.1,u.2.2.1.gV z.2,u.2.2.2⟩⟩
def HK(e:dY v X true=some d)(j:dY v T false=some h)(S:cG d w T B g):cG X w h B g:=by
 refine(tx e).elim (λz=>(tx j).elim (λc=>by refine c.2▸z.2▸?_;exact S) λc=>c.elim λp c=>c.elim λo c=>c.elim λr c=>absurd c.1 (z.1 p)) λz=>z.elim λp z=>z.elim λo z=>z.elim λr z=>(tx j).elim (λc=>absurd z.1 (c.1 p)) λc=>c.elim λR c=>c.elim λu c=>c.elim λF c=>?_
 have l:p=R:=by have q:=z.1.symm.trans c.1;exact W0 (λ|V.ref p=>p|_=>0) q
 subst l;have s:=z.2.1;have H:=c.2.1;rw[z.2.2.1] at S;refine c.2.2.1▸?_;have k:=z.2.2.2.1;have C:(X.set p r).get p=some r:=by rw[Z.mR,if_pos rfl]
 refine⟨S.a0,S.aO,S.aX,λb x t E D=>S.keep b x t E λq m=>m.elim λy n=>?_,S.er,λq K=>(S.new q ((kO H).mp K)).imp (λy=>⟨(kO s).mp y.1,y.2⟩) id,λq a A I f=>?_,S.n,λa y=>(S.jU a y).imp id (Or.imp id λy=>y.elim λq y=>⟨q,(kO s).mp y.1,y.2⟩)⟩
 .have G:=n.1
  rw[Z.mR] at G
  by_cases i:p=q
  .rw[if_pos i] at G
   exact absurd ((W0 bc (WZ G)).symm.trans k|>.symm.trans n.2) (YO _)
  .rw[if_neg i] at G;exact D q ⟨y,G,n.2⟩
 .rw[Z.mR] at f
  by_cases i:p=q
  .subst i
   rw[if_pos rfl] at f;have P:=S.gV p r u C H;rw[k,c.2.2.2.1] at P;exact(W0 bc (WZ f)).symm.trans ((Yr P).trans (W0 bc (WZ (s.symm.trans I))))
  .rw[if_neg i] at f
   exact S.gV q a A (by rw[Z.mR,if_neg i];exact I) f
end
section
variable{c:cu}{k n:Nat}{A:ZD}{X R i d h:Z}{w B m Q:aL}{own N:List ZP}{I:ZQ}{t:Tok}{H:ZF}{v:V}{G:ZO}
def qo{h I:Z}{G:Prop}{P:ZF->V->Z->Prop}(e:some (a,b,h)=some (g,l,I))(K:P g l I)(f:P a b h->G):G:=f (b6 (p:=λr:ZF×V×Z=>P r.1 r.2.1 r.2.2) e.symm K)
noncomputable def HG:dw->Bool
 |.jn _=>true
 |_=>false
def u4{D:ZF}{P:Z}{d:ZG}{E:ZG}(m:∀e,bT n e)(x:c.af.kindOf b=some .globalImplicit)(O:b∈qN)(j:bootBuiltins b=some (.type q))(r:(b==("__debug__":ZV))=false)(t:b≠"__name__")
  (u:h8 (aD c.X.P c.X.N n).e g ⟨A,X⟩=some (D,P))(o:eQ ck (bQ c.X k c.af.kindOf) g l)(s:(cD ck (aJ c.X k) g l).all e5)(C:bJ c k A X w)(v:∀B f,aT c X w P B->aK c.X B D f->aad c (call (.type q) f []) d E B.s):
  aad c (eval (.Call (.Name b p) (cD ck (aJ c.X k) g l) [] pos) c.af) d E w.s:=
 YC (yE C x O j r t _ E λQ L h y=>y▸PySem.callWith_type (oE s) (yq m u o s (C.aF h) _ E λF a i z=>z.elim λf z=>z.1▸v F f (h.trans C.ag i) z.2))
def zV(h:n<b0):-(2 ^ 62:Int)<=(.ofNat n:Int)/\(.ofNat n:Int)<2 ^ 62:=⟨Zy (by decide) (XP n),Zx (YA.mpr h) (by decide)⟩
def Hf(L:∀e,bT n e){m:ZG}{E:ZG}(e:xl (aD c.X.P c.X.N n).e T ⟨A,X⟩=some (H,v,R))(q:rG c.X k c.af.kindOf T x)(C:bJ c k A X w)(K:∀B b,g' c X w R B H v (HG T) b->m (.ref b) B.s):
  aad c (eval (mh c.X k T x) c.af) (λx g=>aad c (pyIter x) m E g) E w.s:=by
 induction k with
 |zero=>exact bb q
 |succ k=>
 have G:=C.dK.bC;have d':∀{a:Internal.E}{u:V}{P:Z},(aD c.X.P c.X.N n).e a ⟨A,X⟩=some (u,P)->h8 (aD c.X.P c.X.N n).e [a] ⟨A,X⟩=some ([u],P):=λ{a u P} e=>by refine(?_:Y _ _=_);refine e▸?_;rfl
 induction T using dw.casesOn with
 |e a=>
  refine bK e λu P r e=>aA e λco fs e=>(L a).aO r q C.aW _ E λQ x1 f W=>?_;have p:=C.ag.aF f;have W:o c.X Q u x1:=W;refine(ky f.aH fs W).elim λd h=>?_;rw[h.1] at W⊢;have hd:=yT f.aH fs W;have h:=h.2;induction co with
  |L ys=>exact qo (P:=λl v h=>∀B b,g' c X w h B l v false b->m (.ref b) B.s) e K (λK=>h.elim λfp h=>RP p G hd h.1 h.2.2 λs b O=>K s b (O.jf C.ag f))
  |T ys=>exact qo (P:=λl v h=>∀B b,g' c X w h B l v false b->m (.ref b) B.s) e K (λK=>h.elim λfp h=>RS p G hd h.1 h.2.2 λs b O=>K s b (O.jf C.ag f))
  |D kd kvs=>
   have fv:kd≠.T:=λz=>by subst z;exact Internal.ns e
   have e:some (ie kvs,u,P)=some (H,v,R):=by induction kd<;>first|exact e|exact absurd rfl fv
   exact qo (P:=λl v h=>∀B b,g' c X w h B l v false b->m (.ref b) B.s) e K (λK=>h.2.elim λl2 N=>RN p G fv h.1 N.1 N.2.2 hd λs b O=>K s b (O.jf C.ag f))
 |range lo hi=>
  induction lo with
  |none=>
   have F:=ar q;refine bK e λu P r e=>aA e λj I e=>bR e λcK e=>?_;have I:u=.int (.ofNat j):=pd I;refine u4 (g:=[hi]) (l:=[ax x 1]) L (n9 (aN q)) (q:="range") (by decide+kernel) (by decide+kernel) (by decide+kernel) (by decide+kernel) (d' r) (Xy.mpr ⟨ar F,rfl⟩) (Xy.mpr ⟨aN F,rfl⟩) C.aW λQ t f J=>?_
   refine(I▸J).hR (q:=λt=>wpAny _ _ (call (.type "range") t []) _ E Q.s) λa' y=>y.dt (p:=λa'=>wpAny _ _ (call (.type "range") [a'] []) _ E Q.s) λl1=>call_range_1 ?_;have p:=C.ag.aF f;have M:aT c P Q P (Q.ab (Q.s.heap.push {cls:=.type "range",data:=.fields #[.int 0 Q.s.toks,.int (Int.ofNat j) l1,.int 1 (Q.s.toks+1)]}) (Q.s.toks+1+1)):=.all p (c3.push _ _);exact qo (P:=λl v h=>∀B b,g' c X w h B l v false b->m (.ref b) B.s) e K (λK=>Gl (w:=Q.ab _ (Q.s.toks+1+1)) (p.aF M) G (IsRange.new Q.s.heap 0 (Int.ofNat j) 1 ..) ⟨by decide,by decide⟩ (zV (fV cK)) (by rw[Int.sub_zero];rfl) λs b O=>K s b ((O.jf p M).jf C.ag f))
  |some k0=>
   have F:=ar q;have f':=ar F;have hr:=ar f';refine bK e λu P r e=>bK e λh' N e2 e=>aA e λi hi' e=>bR e λcK e=>aA e λD I e=>?_;have hi':u=.int (.ofNat i):=pd hi';have I:h'=.int D:=hH I;refine u4 (g:=[k0,hi]) (l:=[ax x 1,ax x 2]) (D:=[u,h']) (P:=N) L (n9 (aN q)) (q:="range") (by decide+kernel) (by decide+kernel) (by decide+kernel) (by decide+kernel) (by show Y _ _=_;refine r▸?_;show Y (Y _ _) _=_;refine e2▸?_;rfl) (Xy.mpr ⟨aN hr,Xy.mpr ⟨ar hr,rfl⟩⟩) (Xy.mpr ⟨aN F,Xy.mpr ⟨aN f',rfl⟩⟩) C.aW λQ t f J=>?_
   refine J.dM (q:=λt=>wpAny _ _ (call (.type "range") t []) _ E Q.s) λfi kk k2 c'=>c'.hR (q:=λkk=>wpAny _ _ (call (.type "range") (fi::kk) []) _ E Q.s) λfl c'=>(hi'▸k2).dt (p:=λfi=>wpAny _ _ (call (.type "range") [fi,fl] []) _ E Q.s) λt1=>(I▸c').dt (p:=λfl=>wpAny _ _ (call (.type "range") [_,fl] []) _ E Q.s) λhF=>call_range_2 ?_;have p:=C.ag.aF f;have M:aT c N Q N (Q.ab (Q.s.heap.push {cls:=.type "range",data:=.fields #[.int (Int.ofNat i) t1,.int D hF,.int 1 Q.s.toks]}) (Q.s.toks+1)):=.all p (c3.push _ _);have fin:∀{l:ZF},-(2 ^ 62:Int)<=D/\D<2 ^ 62->l=i2 (.ofNat i) (D-.ofNat i).toNat->some (l,V.none,N)=some (H,v,R)->aad c (pyIter (.ref (aah Q.s))) m E (Q.ab (Q.s.heap.push {cls:=.type "range",data:=.fields #[.int (Int.ofNat i) t1,.int D hF,.int 1 Q.s.toks]}) (Q.s.toks+1)).s:=λU kz e=>qo (P:=λl v h=>∀B b,g' c X w h B l v false b->m (.ref b) B.s) e K (λK=>Gl (w:=Q.ab _ (Q.s.toks+1)) (p.aF M) G (IsRange.new Q.s.heap (Int.ofNat i) D 1 ..) (zV (fV cK)) U kz λs b O=>K s b ((O.jf p M).jf C.ag f))
   induction D with
   |ofNat j=>exact bR e λU e=>fin (zV (fV U)) (W0 (i2 (.ofNat i)) (Int.toNat_sub j i).symm) e
   |negSucc j=>exact bR e λU e=>fin ⟨Int.le_of_lt (by have z:=fV U;unfold b0 at z;omega),Zx (X6 j) (by decide)⟩ (by refine(show(Int.negSucc j-Int.ofNat i).toNat=0 from Int.toNat_of_nonpos (Int.sub_nonpos_of_le (Zy (Int.le_of_lt (X6 j)) (XP i))))▸?_;rfl) e
 |jn a=>
  have F:=ar q;refine bK e λu P r e=>aA e λys S e=>?_;refine u4 (g:=[a]) (l:=[ax x 1]) L (n9 (aN q)) (q:="enumerate") (by decide+kernel) (by decide+kernel) (by decide+kernel) (by decide+kernel) (d' r) (Xy.mpr ⟨ar F,rfl⟩) (Xy.mpr ⟨aN F,rfl⟩) C.aW λQ t f J=>J.hR (q:=λt=>wpAny _ _ (call (.type "enumerate") t []) _ E Q.s) λa' y=>?_
  refine(ky f.aH (su S) y).elim λd h=>?_;rw[h.1] at y⊢;exact qo (P:=λl v h=>∀B b,g' c X w h B l v true b->m (.ref b) B.s) e K (λK=>h.2.elim λfp h=>RO (C.ag.aF f) G (yT f.aH (su S) y) h.1 h.2.1 h.2.2 λs b O=>K s b (O.jf C.ag f))
 |rO a=>
  have F:=ar q;refine bK e λu P r e=>aA e λys S e=>?_;refine u4 (g:=[a]) (l:=[ax x 1]) L (n9 (aN q)) (q:="reversed") (by decide+kernel) (by decide+kernel) (by decide+kernel) (by decide+kernel) (d' r) (Xy.mpr ⟨ar F,rfl⟩) (Xy.mpr ⟨aN F,rfl⟩) C.aW λQ t f J=>J.hR (q:=λt=>wpAny _ _ (call (.type "reversed") t []) _ E Q.s) λa' y=>?_
  refine(ky f.aH (su S) y).elim λd h=>?_;rw[h.1] at y⊢;rw[AR,XB] at e;exact qo (P:=λl v h=>∀B b,g' c X w h B l v false b->m (.ref b) B.s) e K (λK=>h.2.elim λfp h=>RR (C.ag.aF f) G (yT f.aH (su S) y) h.1 h.2.2 λs b O=>K s b (O.jf C.ag f))
def U0:∀{e:E}{x:ZU},bQ b k f e x->p6 (aJ b k e x):=by
 induction k with
 |zero=>exactλo=>bb o
 |succ k S=>
  intro e x o;induction e using E.casesOn with
  |bI a=>exact S o
  |comp g l d T B=>
   have K:=aN o;refine(?_:p6 (match ma x with|some c=>_|none=>x)=true)
   generalize h:ma x=N;induction N with
   |none=>have K:=h▸K;exact bb K
   |some c=>rfl
  |k'=>exact bb o
  |_=>exact(rfl:true=true)
def Bq(o:rG b k e T x):p6 (mh b k T x):=by
 induction k with
 |zero=>exact bb o
 |succ k=>induction T using dw.casesOn with
  |e a=>exact U0 o
  |range L A=>induction L<;>rfl
  |_=>rfl
def zf(h:p6 x)(v:ZO):foldedSetIterable x af v=pure v:=by induction x using Expr.casesOn<;>first|exact(rfl:pure v=(pure v:Sem ZO))|exact bb h
def bB.pL(C:bB c' X w)(U:∀a'∈own,cY a' X w):bB c' X (w.ab (hideAll w.h own) t):=
 ⟨λV o u=>(C.slot V o u).ext ⟨λ_ M=>M,λ_ _ M=>M,λa' o J u=>hideAll_get _ u λj=>(U a' j).a0 J⟩ rfl λM W=>hideAll_get _ W λj=>(U _ j).aX V ⟨o,u⟩ rfl,C.inj,λa' J=>have j:=C.bI a' J;⟨j.1.elim λo u=>⟨o,hideAll_get _ u λj=>(U a' j).a0 J⟩,j.2⟩,C.gM⟩
def cG.pL(S:cG X w i Q Ex)(o:∀a'∈own,w.h.get? a'=none):cG X w i (Q.ab (hideAll Q.h own) t) Ex:=by have C:∀a' j,w.h.get? a'=some j->a'∉own:=λa' j u W=>cj u (o a' W);exact⟨S.a0,S.aO,S.aX,λa' j u U M=>hideAll_get _ (S.keep a' j u U M) (C a' j u),λa' j u=>(S.er a' j u).elim λV J=>⟨V,hideAll_get _ J (C a' j u)⟩,S.new,S.gV,S.n,S.jU⟩
def Fu(e:dY (.ref q) X true=some d)(m:qF d p):p≠q:=λz=>(tx e).elim (λy=>absurd rfl (y.1 q)) λy=>y.elim λR y=>y.elim λo y=>y.elim λr y=>m.elim λu H=>by have S:q=R:=W0 (λ|V.ref p=>p|_=>0) y.1;have P:=H.1;rw[y.2.2.1,z,<-S,Z.mR,if_pos rfl] at P;exact absurd ((W0 bc (WZ P)).trans H.2|>.symm.trans y.2.2.2.1).symm (YO _)
def I0(P:∀e,bT n e)(R:∀b,o2 n b):jI n (.b5 g T b):=λc j H K k y w e o C=>by
 have J:=ar o;have A:=ar J;refine aA e λr X e=>aA e λd v e=>bK e λf1 s2 Y e=>aA e λh F e=>?_;refine bz (p:=λH K=>ha c (exec (.For (g5 c.X g (bZ y 0)) (mh c.X k T (bZ y 1)) (kc c.X k b (mz y)) [] y.pos) c.af) j.h w K H) e λfp E q=>?_;refine wpAny_For (Hf P X (aN A) C.aW λQ I O=>?_) (zf (Bq (aN A)));refine O.dh.elim λown z=>z.elim λN z=>z.elim λSt' z=>z.elim λMid z=>?_;have B:=z.2.2.1;have L:=C.aF O.aF;have s:=tA v L.ag.aH;have M:bJ c k j.aj d Q:=⟨C.ok,C.aM,C.aW.dK,C.bU,Ft v L.ag,L.dc⟩;have D:dJ c.f own d Q:=λb G=>have u:=B b G;⟨u.1,u.2.1,u.2.2.1,u.2.2.2.1.gV s.2,u.2.2.2.2⟩;have U:bB c.X d (Q.ab (hideAll Q.h own) Q.s.toks):=s.1.pL λb G=>(D b G).2.2.2.1;have V:cO c d (Q.ab (hideAll Q.h own) Q.s.toks) d Q:=⟨s.1,⟨λ_ x=>x,λ_ _ x=>x,λ_ _ _=>rfl,λb o e _ _=>of_hideAll _ e,λb o e=>⟨o,of_hideAll _ e⟩,λp l=>.inl ⟨l,rfl⟩,λp o fs e W=>W0 bc (WZ (Eq.trans (Eq.symm W) e)),Xe _,λa x=>.inl x⟩,L.ag.aM,⟨_,_,rfl⟩⟩;refine M0 R (aN J) (ar A) z.1 (λz=>?_) U (λb G=>hideAll_none _ G) (λa o Z e=>hideAll_get _ e λz=>(B a z).2.2.2.1.a0 Z) (λb G=>?_) (λb z=>(L.ag.qb b z).a0) (λfi c' t a'=>?_) r.1 0 ⟨j.aj,d⟩ Q (W7 _) rfl Y M z.2.1 D V
 .have cK:=aN o
  cases T with
  |jn a=>exact(DI cK).elim λ_ z=>z.elim λ_ z=>z.elim λ_ e=>e▸⟨_,_,_,rfl⟩
  |_=>exact bb z
 .have f:=z.2.2.2.2 b G
  have i:=f.2.1;exact⟨f.1,λy=>i.elim (L.ag.qb b y).a0 λi=>i.elim λq i=>(L.ag.qb b y).aX q i.2.1 i.2.2,λp m y=>i.elim (λi=>(L.ag.aH.bI b i).2 p ((s.2 p).mp m.e') y) λi=>i.elim λq i=>(Fu (i.1▸v) m (L.ag.aH.inj p q ((s.2 p).mp m.e') i.2.1 (y.trans i.2.2.symm))),f.2.2.elim λo e=>⟨o,hideAll_get _ e f.1⟩⟩
 .have S:=(O.aF.b7 C.ag).step.pL (own:=own) (t:=Q.s.toks) z.2.2.2.1
  exact q fi c' ⟨(tA F t.aH).1,S.trans C.ag.aH (HK v F t.step),t.aM,O.aF.dd.trans (fm.trans ⟨_,_,rfl⟩ t.dd)⟩ a'
end
def gA(d:Env)(O:List (ZV×ZR)):List (ZV×ZP)->List (ZV×ZP):=aai (O.rec (λF=>F) λm _ S F=>if m.2==.free then S ((m.1,(d.cells.lookup m.1).getD 0)::F)else S F)
def sq(h:(b==NameKind.free)):gA af ((a,b)::r) acc=gA af r ((a,(af.cells.lookup a).getD 0)::acc):=if_pos h
def so(h:¬(a==NameKind.free)=true):gA af ((b,a)::r) acc=gA af r acc:=if_neg h
section
variable{m:Program}{w:ZS}{d:Env}{A:ZX}{s:ZW}
def KU(g:ZV×ZR->List (ZV×ZP)->Sem (ForInStep (List (ZV×ZP))))(k:∀b f c,g (b,f) c=if(f==.free)=true then(do let a<-cellOf d b;pure (.yield ((b,a)::c)))else pure (.yield c))(j:List (ZV×ZR)):
  ∀(i:List (ZV×ZP)),(∀x∈j,x.2=.free->∃c,d.cells.lookup x.1=some c)->forIn j i g=pure (gA d j i):=by
 induction j with
 |nil=>intro i _;rw[Zm];rfl
 |cons p r S=>
  intro i h;induction p with
  |mk b f=>
   rw[List.forIn_cons,k]
   by_cases R:(f==NameKind.free)=true
   .rw[if_pos R,sq R]
    refine(h (b,f) (.head _) (beq_iff_eq.mp R)).elim λc L=>?_;have e:cellOf d b=pure c:=by unfold cellOf;rw[L]
    rw[e,L];exact S _ λx B=>h x (.tail _ B)
   .rw[if_neg R,so R]
    exact S _ λx B=>h x (.tail _ B)
set_option backward.match.sparseCases true
def KV(h:∀x∈b.names,x.2=.free->∃c,d.cells.lookup x.1=some c):closureFor b d=pure (gA d b.names []):=by
 have e:forIn b.names ([]:List (ZV×ZP)) (λ(x:ZV×ZR)(X:List (ZV×ZP))=>match x with
  |(l,f)=>if(f==NameKind.free)=true then(do let a<-cellOf d l;pure (ForInStep.yield ((l,a)::X)))else pure (ForInStep.yield X))=(pure (gA d b.names []):Sem _):=KU _ (λn k c=>rfl) b.names [] h
 unfold closureFor;exact(W0 (λt:Sem (List (ZV×ZP))=>t>>=λs=>pure s) e).trans rfl
def Lc{E:ZG}
  (q:Q (newEnv scope (aah s) d.globals (cellsFrom ((aah s)+1) scope.names N) d.qual none .none (some d) builtinsNs) {s with heap:=pushCells (s.heap.push aag) scope.names}):
  wpAny (model m w) A (newFunctionEnv scope d.globals N [] d.qual none .none (some d)) Q E s:=by
 simp only [newFunctionEnv,Option.isSome_some,if_true]
 refine W6 (wpAny_alloc ?_);refine W6 (wpAny_layCells _ (λl b P=>by cases vQ:b==NameKind.cell<;>simp [vQ]) _ _ _ _ ?_)
 rw[show({s with heap:=s.heap.push aag}:ZW).heap.objs.size=(aah s)+1 from YY ..]
 rw[Zm];exact W6 (Xc (Xc q))
def CK
  (h:wpAny (model m w) A (pyNext T) (λr g=>match r with
   |none=>b (.ok .next) g
   |some i=>wpAny (model m w) A (letOwnedTupleGo target T i) (λ_ l=>wpAny (model m w) A (assign target d i) (λ_ q=>
    wpAny (model m w) A (forIn ifs true λc r=>if r=true then do let f<-isTrue c d (eval c d);pure (ForInStep.yield f)else pure (ForInStep.yield r)) (λf p=>
     if f=true then wpAny (model m w) A (eval elt d) (λx t=>wpAny (model m w) A (call (.builtin "list.append") [acc,x]) (λ_ H=>codeAny (model m w) A (.compLoop (.ListComp elt [⟨target,iter,ifs,0⟩] scope pos) 0 T acc d) b H) (aaf m w A d b) t) (aaf m w A d b) p
     else codeAny (model m w) A (.compLoop (.ListComp elt [⟨target,iter,ifs,0⟩] scope pos) 0 T acc d) b p) (aaf m w A d b) q) (aaf m w A d b) l) (aaf m w A d b) g) (aaf m w A d b) s):
  codeAny (model m w) A (.compLoop (.ListComp elt [⟨target,iter,ifs,0⟩] scope pos) 0 T acc d) b s:=by
 refine Zd ?_;refine wpAny_noted ?_;rw[compTurn_list];refine W6 (Yx (W6 (XR h (λr g k=>?_) λ_ _ S=>S)));induction r with
 |none=>exact Xc k
 |some i=>
  refine W6 (XR k (λ_ l j=>?_) λ_ _ S=>S);refine W6 (XR j (λ_ q n=>W6 (XR n (λf p G=>?_) λ_ _ S=>S)) λ_ _ S=>S);induction f with|false=>exact Xc ⟨rfl,G⟩|true=>exact W6 (W6 (XR G (λx t o=>W6 (XR o (λ_ H u=>Xc (Xc ⟨rfl,u⟩)) λ_ _ S=>S)) λ_ _ S=>S))
def KS:∀{b:List (ZV×ZP)},(x,a)∈gA d names b->(x,a)∈b\/((x,NameKind.free)∈names/\a=(d.cells.lookup x).getD 0):=by
 induction names with
 |nil=>exactλh=>.inl h
 |cons p r S=>
  intro b h;induction p with
  |mk y k=>
   by_cases R:(k==NameKind.free)=true
   .rw[sq R] at h
    refine(S h).elim (λh=>(Xm.mp h).elim (λe=>.inr ?_) .inl) λh=>.inr ⟨.tail _ h.1,h.2⟩;have O:x=y:=W0 Prod.fst e;have f:a=(d.cells.lookup y).getD 0:=W0 Prod.snd e;rw[f,O,beq_iff_eq.mp R];exact⟨.head _,rfl⟩
   .rw[so R] at h
    exact(S h).imp id λh=>⟨.tail _ h.1,h.2⟩
def KR:∀{b:List (ZV×ZP)},(x,a)∈b->(x,a)∈gA d names b:=by
 induction names with
 |nil=>exactλh=>h
 |cons p r S=>
  intro b h;induction p with
  |mk y k=>
   by_cases R:(k==NameKind.free)=true
   .rw[sq R];exact S (.tail _ h)
   .rw[so R];exact S h
def CE:∀{a:List (ZV×ZP)},(x,NameKind.free)∈names->(x,(d.cells.lookup x).getD 0)∈gA d names a:=by
 induction names with
 |nil=>exactλh=>eu h
 |cons p r S=>
  intro a h;induction p with
  |mk y k=>
   by_cases R:(k==NameKind.free)=true
   .rw[sq R]
    exact(Xm.mp h).elim (λe=>KR (by rw[show x=y from W0 Prod.fst e];exact .head _)) S
   .rw[so R]
    exact(Xm.mp h).elim (λe=>absurd (by rw[<-(show NameKind.free=k from W0 Prod.snd e)];rfl) R) S
def KQ(i:∀x y c,d.cells.lookup x=some c->d.cells.lookup y=some c->x=y):∀{a:List (ZV×ZP)},(∀x∈f,x.2=.free->∃c,d.cells.lookup x.1=some c)->(f.map (·.1)).Nodup->
  a.Pairwise (λp q=>p.2≠q.2)->(∀p∈a,d.cells.lookup p.1=some p.2/\∀x∈f,x.1≠p.1)->(gA d f a).Pairwise λp q=>p.2≠q.2:=by
 induction f with
 |nil=>exactλ_ _ h _=>h
 |cons p r S=>
  intro a b D h E;rw[XD,XZ] at D;have g:∀x∈r,x.2=.free->∃c,d.cells.lookup x.1=some c:=λx B=>b x (.tail _ B);induction p with
  |mk y k=>
   by_cases R:(k==NameKind.free)=true
   .rw[sq R]
    refine(b (y,k) (.head _) (beq_iff_eq.mp R)).elim λc L=>?_;have L:=L;rw[L];exact S g D.2 (.cons (λp V e=>(E p V).2 _ (.head _) (i _ _ _ L ((show c=p.2 from e)▸(E p V).1))) h) λp V=>(Xm.mp V).elim (λe=>by rw[e];exact⟨L,λx B e=>D.1 (Xz.mpr ⟨x,B,e⟩)⟩) λV=>⟨(E p V).1,λx B=>(E p V).2 x (.tail _ B)⟩
   .rw[so R]
    exact S g D.2 h λp V=>⟨(E p V).1,λx B=>(E p V).2 x (.tail _ B)⟩
end
def Qc{l:List (ZV×ZP)}(h:(x,a)∈l)(u:∀b,(x,b)∈l->b=a):l.lookup x=some a:=by
 induction l with
 |nil=>exact eu h
 |cons p r S=>
  rw[Yq];cases hxy:x==p.1 with
  |true=>exact W0 some (u p.2 (by rw[beq_iff_eq.mp hxy];exact .head _))
  |false=>exact(Xm.mp h).elim (λe=>by rw[<-e] at hxy;exact absurd ((beq_self_eq_true x).symm.trans hxy) nofun) λh=>S h λb G=>u b (.tail _ G)
noncomputable def gk(d:ZK)(A:ZD):ZD:=A.filter λp=> !(d.contains p.1)
def Fx(f:z∈d)(A:ZD):au (gk d A) z=none:=by
 induction A with
 |nil=>rfl
 |cons p r S=>
  unfold gk at S⊢;rw[X8]
  by_cases R:(!(d.contains p.1))=true
  .rw[if_pos R]
   have n:p.1≠z:=λe=>by rw[e,Y8.mpr f] at R;exact bb R
   refine(?_:(match Nat.beq p.1 z with|true=>some p.2|false=>au _ z)=none)
   rw[wy n];exact S
  .rw[if_neg R];exact S
def z5(f:z∉d)(A:ZD):au (gk d A) z=au A z:=by
 induction A with
 |nil=>rfl
 |cons p r S=>
  unfold gk at S⊢;rw[X8]
  by_cases R:(!(d.contains p.1))=true
  .rw[if_pos R]
   show(match Nat.beq p.1 z with|true=>some p.2|false=>au _ z)=(match Nat.beq p.1 z with|true=>some p.2|false=>au r z)
   rw[S]
  .rw[if_neg R,S]
   have n:p.1≠z:=λe=>R (by rw[e,YM,XO];exactλq=>f (Y8.mp q))
   show _=(match Nat.beq p.1 z with|true=>some p.2|false=>au r z)
   rw[wy n]
def JA{ns:ZK}:∀{a:ZF}{l i:ZD}(G:ZD),gL ns a l=some i->∃b,gL ns a G=some b/\∀z,(z∈ns\/au G z=au l z)->au b z=au i z:=by
 induction ns with
 |nil=>intro a l i G e;induction a with
  |nil=>exact⟨G,rfl,λz h=>h.elim eu λh=>WZ e▸h⟩
  |cons=>exact cB e
 |cons q ns S=>intro a l i G e;induction a with
  |nil=>exact cB e
  |cons x a=>exact(S (Wy G q x) (e:gL ns a (Wy l q x)=some i)).elim λc h=>⟨c,h.1,λz f=>h.2 z (by
   by_cases I:q=z
   .exact .inr (by rw[I,pY,pY])
   .exact f.elim (λf=>(Xm.mp f).elim (λe=>absurd e.symm I) .inl) λf=>.inr (by rw[m1 I,m1 I,f]))⟩
def JB{ns:ZK}(f:z∉ns):∀{a:ZF}{l G:ZD},gL ns a l=some G->au G z=au l z:=by
 induction ns with
 |nil=>intro a l G e;induction a with
  |nil=>exact WZ e▸rfl
  |cons=>exact cB e
 |cons q ns S=>intro a l G e;induction a with|nil=>exact cB e|cons x a=>exact(S (λh=>f (.tail _ h)) (e:gL ns a (Wy l q x)=some G)).trans (m1 (λe=>f (Xm.mpr (.inl e.symm))) l)
def yv{d:ZK}(e:gL d b out=some l):∃i,gL d b (gk d out)=some i/\(∀z,au l z=au i z)/\∀z a,au (gk d out) z=some a->au l z=some a:=
 (JA (gk d out) e).elim λi h=>⟨i,h.1,λz=>(h.2 z (by
  by_cases f:z∈d
  .exact .inl f
  .exact .inr (z5 f out))).symm,λz a A=>by
  have c:z∉d:=λg=>ns ((Fx g out).symm.trans A);rw[JB c e,<-z5 c];exact A⟩
def JY(e:hJ g x ⟨out,d⟩=some c):∃i,hJ g x ⟨gk g out,d⟩=some ⟨i,d⟩/\c.h=d/\(∀z,au c.aj z=au i z)/\∀z f,au (gk g out) z=some f->au c.aj z=some f:=by
 match g,e with
 |[q],e=>exact b6 (p:=λc:bD=>∃i,hJ [q] x ⟨gk [q] out,d⟩=some ⟨i,d⟩/\c.h=d/\(∀z,au c.aj z=au i z)/\∀z f,au (gk [q] out) z=some f->au c.aj z=some f) e ((yv (d:=[q]) (b:=[x]) rfl).elim λi h=>⟨i,W0 (Option.map λl=>bD.mk l d) h.1,rfl,h.2⟩)
 |[],e=>exact aA e λO j e=>aA e λl A e=>b6 (p:=λc:bD=>∃i,hJ [] x ⟨gk [] out,d⟩=some ⟨i,d⟩/\c.h=d/\(∀z,au c.aj z=au i z)/\∀z f,au (gk [] out) z=some f->au c.aj z=some f) e ((yv A).elim λi h=>⟨i,by show Y (xg x) _=_;rw[j];show Y (gL ..) _=_;rw[h.1];rfl,rfl,h.2⟩)
 |a::b::r,e=>exact aA e λO j e=>aA e λl A e=>b6 (p:=λc:bD=>∃i,hJ (a::b::r) x ⟨gk (a::b::r) out,d⟩=some ⟨i,d⟩/\c.h=d/\(∀z,au c.aj z=au i z)/\∀z f,au (gk (a::b::r) out) z=some f->au c.aj z=some f) e ((yv A).elim λi h=>⟨i,by show Y (xg x) _=_;rw[j];show Y (gL ..) _=_;rw[h.1];rfl,rfl,h.2⟩)
def fI.sub(V:fI f' w' af h')(j:∀a' c',Internal.au s' a'=some c'->Internal.au h' a'=some c'):fI f' w' af s':=⟨λa' c' u o=>V.get a' c' u (j a' c' o),V.ns,V.cell⟩
set_option backward.match.sparseCases false
structure fU(c:cu)(g:ZP->Prop)(b:Z)(w:aL)(a:Z)(B:aL):Prop where
 aH:bB c.X a B
 step:cG b w a B g
 aM:∀m,Fr c.f.g c.f.L w.h m->Fr c.f.g c.f.L B.h m
 dd:fm w B
section
variable{c:cu}{k n:Nat}{A:ZD}{X T Q r O:Z}{w B m f v h:aL}{P d N:List ZP}{F:ZP->Prop}{R:ZQ}{t:Tok}{g:ZP->Prop}{D:ZP}
def fU.qt(C:bB c.X X w)(o:fU c g X w r v)(j:fU c g r v O h):fU c g X w O h:=⟨j.aH,o.step.trans C j.step,λu F=>j.aM u (o.aM u F),o.dd.trans j.dd⟩
def aT.xH(j:aT c X w T B)(u:g c.f.L):fU c g X w T B:=⟨j.aH,j.step.xM λo C=>(C:o=c.f.L)▸u,j.aM,j.dd⟩
def hb.xH(S:hb c X w A g B)(j:c.af.locals≠c.f.L):fU c g X w X B:=⟨S.b7.aH,S.j,S.aM j,S.b7.dd⟩
def fU.eY(M:fU c g Q f X w)(U:dJ c.f P X w)(hB0:∀a'∈P,f.h.get? a'=none)(u:ki P w.h R)(V:∀a',F a'->w.h.get? a'=none/\∃c',R.get? a'=some c'):fU c g Q f X (w.bV F R t):=by have S:=M.step;have W:∀a' c',f.h.get? a'=some c'->a'∉P:=λa' c' j J=>cj j (hB0 a' J);refine⟨M.aH.eY (λa' cK=>(U a' cK).2.2.2.1) u V,⟨λa' C=>.inl (S.a0 a' C),S.aO,S.aX,λa' c' j e1 hm=>u a' c' (W a' c' j) (S.keep a' c' j e1 hm),λa' c' j=>(S.er a' c' j).elim λY Z=>⟨Y,u a' Y (W a' c' j) Z⟩,S.new,S.gV,S.n,λa' C=>C.elim (S.jU a') λC=>.inr (.inl (S.iZ (V a' C).1))⟩,λe2 o=>?_,M.dd.trans ⟨_,_,rfl⟩⟩;have o:=M.aM e2 o;exact⟨o.ns.at' λc' j=>u _ c' (λJ=>(U _ J).2.1 rfl) j,λa' c' j=>u a' c' (λJ=>cj j (U a' J).2.2.2.2) (o.keep a' c' j),o.above⟩
def dJ.sub(j:dJ c.f P X w)(u:∀a'∈d,a'∈P):dJ c.f d X w:=λa' o=>j a' (u a' o)
def tW:∀b∈[D],b∈D::P:=λb G=>Xf.mp G▸.head _
def r4(c:cu)(k:Nat)(d:ZK)(r:ZD)(g:ZP->Prop)(Q:Z)(f:aL)(D:ZP)(R:Result->ZN)(F a:ZF)(T:Z):Prop:=
 ∀(B:aL)(i:ZJ),bJ c k (gk d r) T B->fU c g Q f T B->dJ c.f [D] T B->B.h.PlainList D i.toArray->i.length<=b0->aK c.X B (F++a) i->R (.ok .next) B.s
def Le(Q1:∀e,bT n e)(Q2:∀e,Gt n e){cond:Z0 E}{pos:Pos}(WD:c.af.locals≠c.f.L)(hm:oz c.X c.af.kindOf l)(he:bQ c.X k c.af.kindOf elt x0)(hcond:∀cd,cond=some cd->il cd/\bQ c.X k c.af.kindOf cd x3){I:ZP}{xs:ZF}{el:Bool}{St':Nat->ZQ->Prop}{Mid:Nat->ZO->ZQ->Prop}{f:ZQ}
  (dw:kh c I P N m xs el St' Mid)(htwo:el=true->∃elts k pos,g5 c.X l x1=Expr.Tuple elts k pos)(R₀:bB c.X Q (m.ab f t))(hB0:∀b∈D::P,f.get? b=none)(hDo:D∉P)(hBk:∀a H,m.G.a0 a->m.h.get? a=some H->f.get? a=some H)
  (fpOk:∀b∈N,b∉P/\¬hh c.f b/\(∀p,qF Q p->m.G.aX p≠b)/\∃H,f.get? b=some H)(nofz:∀b,hh c.f b->¬m.G.a0 b)(WM:g c.af.locals)(WL:∀q∈l,∀a,c.af.cells.lookup (c.X.az q)=some a->g a)(Ey:g c.f.L)(rt:∀b,g b->hh c.f b)(u:ZF):∀(i:Nat)(s T:Z)(w:aL)(G rs:ZF)(a':ZJ),
  i+u.length=xs.length->xs.drop i=u->sv (aD c.X.P c.X.N n).e l elt cond out u s=some (rs,T)->bJ c k (gk l out) s w->St' i w.h->dJ c.f (D::P) s w->fU c g Q (m.ab f t) s w->w.h.PlainList D a'.toArray->a'.length+u.length<=b0->aK c.X w G a'->r4 c k l out g Q (m.ab f t) D c' G rs T->
  codeAny (aae c) c.A (.compLoop (.ListComp (aJ c.X k elt x0) [⟨g5 c.X l x1,iter,(cond.map λe=>aJ c.X k e x3).toList,0⟩] scope pos) 0 (.ref I) (.ref D) c.af) c' w.s:=by
 have O:∀(w:aL)(R:ZQ)(b:ZP),False->w.h.get? b=none/\∃H,R.get? b=some H:=λ_ _ _ z=>z.elim;have hB1:∀b∈P,f.get? b=none:=λb d=>hB0 b (.tail _ d);induction u with
 |nil=>intro i s T w G rs a' hi hd e C hst fp L x4 kd hr q;refine CK (dw.done w _ _ (hi▸hst) λR Ex K=>?_);have X:=fp.sub λb d=>.tail _ d;exact bz (p:=λrs T=>r4 c k l out g Q (m.ab f t) D c' G rs T->c' (.ok .next) (w.ab R Ex).s) e (λq=>q (w.bV (λ_=>False) R Ex) a' (C.eY X K (O w R)) (L.eY X hB1 K (O w R)) ((fp.sub tW).bV (O w R) λb d=>by rw[Xf.mp d];exact(fp D (.head _)).1.elim λH e=>⟨H,K D H hDo e⟩) (x4.at λH e=>K D H hDo e) (YK kd) (by rw[XB];exact hr.ext (.bV (λb d=>(X b d).2.2.2.1.a0) K))) q
 |cons x u x8=>
  intro i s T w G rs a' hi hd e C hst fp L x4 kd hr q;have hi2:=(YU i u.length).trans hi;have hn2:=W5 (Xu (YU a'.length u.length)) kd;have hd':xs.drop (i+1)=u:=by rw[<-Zk,hd];rfl
  refine aA e λs1 e1 e=>(JY e1).elim λl1 hj=>?_;have WE:xs[i]?=some x:=by have z:=W0 List.head? hd;rw[List.head?_drop] at z;exact z
  have O':cM m w:=⟨L.step.a0,L.step.aO,λa H x2 e=>L.step.keep a H (hBk a H x2 e) (λz=>nofz a (rt a z) x2) λp mp=>(R₀.bI a x2).2 p mp.e'⟩;have fpK:∀{S fi:aL}{cK k0:Z},fU c g Q (m.ab f t) cK S->fU c g Q (m.ab f t) k0 fi->∀b∈N,∀H,S.h.get? b=some H->fi.h.get? b=some H:=λL1 L2 b d H e=>have z:=fpOk b d;z.2.2.2.elim λx5 q0=>WZ (Eq.trans (Eq.symm (L1.step.keep b x5 q0 (λy=>z.2.1 (rt b y)) z.2.2.1)) e)▸L2.step.keep b x5 q0 (λy=>z.2.1 (rt b y)) z.2.2.1;have ownK:∀{S fi:aL}{cK k0:Z},dJ c.f (D::P) cK S->fU c g cK S k0 fi->∀b∈D::P,∀H,S.h.get? b=some H->fi.h.get? b=some H:=λa qs b d H e=>have z:=a b d;qs.step.keep b H e (λy=>(rt b y).elim z.2.1 z.2.2.1) λp mp=>z.2.2.2.1.aX p mp.e';have frm:∀{S fi:aL}{cK k0:Z},St' (i+1) S.h->dJ c.f (D::P) cK S->fU c g Q (m.ab f t) cK S->fU c g cK S k0 fi->St' (i+1) fi.h:=λj a L1 qs=>dw.frame _ _ _ j λb d H e=>d.elim (λd=>ownK a qs b (.tail _ d) H e) λd=>fpK L1 (L1.qt R₀ qs) b d H e;have emit:∀{h' Y:Z}{fl:aL}{f':V}{e2:ZF×Z},(aD c.X.P c.X.N n).e elt ⟨s1.aj,h'⟩=some (f',Y)->sv (aD c.X.P c.X.N n).e l elt cond out u Y=some e2->r4 c k l out g Q (m.ab f t) D c' G (f'::e2.1) e2.2->bJ c k s1.aj h' fl->St' (i+1) fl.h->dJ c.f (D::P) h' fl->fU c g Q (m.ab f t) h' fl->fl.h.PlainList D a'.toArray->aK c.X fl G a'->∀(l2:ZG),
    aad c (eval (aJ c.X k elt x0) c.af) (λx s₄=>aad c (call (.builtin "list.append") [.ref D,x]) (λ_ s₅=>codeAny (aae c) c.A (.compLoop (.ListComp (aJ c.X k elt x0) [⟨g5 c.X l x1,iter,(cond.map λe=>aJ c.X k e x3).toList,0⟩] scope pos) 0 (.ref I) (.ref D) c.af) c' s₅) l2 s₄) l2 fl.s:=λ{h' Y fl f' e2} WA WB q wd stc awc x7 hlc hrc l2=>by
   refine(Q1 elt).aO WA he wd _ l2 λo y B WH=>?_;have U:=B.xH Ey;have nk:=x7.qt R₀ U;have W:=awc.step B.step;have A:=wd.aF B;refine wpAny_list_append_plain (hlc.at λH e=>ownK awc U D (.head _) H e) (λM pl ax=>?_) (mc (YK kd));have kz:ki [D] o.h M:=λb H nb e=>(ax.2 b λz=>nb (Xf.mpr z)).trans e;rw[List.push_toArray] at pl;have x6:cM o (o.bV (λ_=>False) M o.s.toks):=.bV (own:=[D]) (λb d=>(W b (tW b d)).2.2.2.1.a0) kz;have fv:bJ c k s1.aj Y (o.bV (λ_=>False) M o.s.toks):=A.eY (W.sub tW) kz (O o M);refine x8 (i+1) Y e2.2 (o.bV (λ_=>False) M o.s.toks) (G++[f']) e2.1 (a'++[y]) hi2 hd' WB ⟨fv.ok,fv.aM,fv.dK,fv.bU,fv.ag,fv.dc.sub hj.2.2.2⟩ (dw.frame _ o.h M (frm stc awc x7 U) λb d H e=>kz b H (λz=>d.elim (λd=>hDo (Xf.mp z▸d)) λd=>(fpOk b d).2.2.2.elim λx5 q0=>cj q0 (Xf.mp z▸hB0 D (.head _))) e)
    (W.bV (O o M) λb d=>(Xm.mp d).elim (λz=>z▸pl.elim λ_ e=>⟨_,e⟩) λd=>(W b (.tail _ d)).1.elim λH e=>⟨H,kz b H (λz=>hDo (Xf.mp z▸d)) e⟩) (nk.eY (W.sub tW) (λb d=>hB0 b (tW b d)) kz (O o M)) pl (by exact W8▸hn2) (((hrc.ext (wd.ag.ext B)).ext x6).append (.cons (WH.ext x6) .nil)) λWK vs6 qS Wx Wy pl6 WG x'=>q WK vs6 qS Wx Wy pl6 WG (by rw[X4] at x';exact x')
  have X:=fp.sub λb d=>.tail _ d;refine CK (dw.item i x w _ _ WE hst O' (λb d=>(X b d).2.2.2.1.a0) λv r h F hF WI hN kk=>?_);have F':bJ c k (gk l out) s (w.bV F r h):=C.eY X kk hF;have L1:fU c g Q (m.ab f t) s (w.bV F r h):=L.eY X hB1 kk hF;have aw1:dJ c.f (D::P) s (w.bV F r h):=fp.bV hF λb d=>(Xm.mp d).elim (λz=>z▸(fp D (.head _)).1.elim λH e=>⟨H,kk D H hDo e⟩) (dw.wh i v r hN b);have aw1O:=aw1.sub λb d=>.tail _ d;refine dw.go (g5 c.X l x1) i v (w.bV F r h) _ _ htwo hN λJ st2' k2=>?_;have s':bJ c k (gk l out) s ((w.bV F r h).bV (λ_=>False) J h):=F'.eY aw1O k2 (O _ J);have L2:fU c g Q (m.ab f t) s ((w.bV F r h).bV (λ_=>False) J h):=L1.eY aw1O hB1 k2 (O _ J);have aw2:dJ c.f (D::P) s ((w.bV F r h).bV (λ_=>False) J h):=aw1.bV (O _ J) λb d=>(Xm.mp d).elim (λz=>z▸(aw1 D (.head _)).1.elim λH e=>⟨H,k2 D H hDo e⟩) (dw.e' _ J st2' b);have EE1:cM w (w.bV F r h):=.bV (λb d=>(X b d).2.2.2.1.a0) kk;have EE2:cM (w.bV F r h) ((w.bV F r h).bV (λ_=>False) J h):=.bV (λb d=>(aw1O b d).2.2.2.1.a0) k2;refine Ce (w:=(w.bV F r h).bV (λ_=>False) J h) WM hm hj.1 s' (WI.ext EE2) WL λWJ od _=>?_;have X3:=od.xH WD;have mm:=L2.qt R₀ X3;have aw3:=aw2.step od.b7.step;have fs:=s'.stored od;have C3':bJ c k s1.aj s WJ:=⟨fs.ok,fs.aM,fs.dK,fs.bU,fs.ag,fs.dc.au hj.2.2.1⟩;have st3:=frm st2' aw2 L2 X3;have hl3:=((x4.at λH e=>kk D H hDo e).at λH e=>k2 D H hDo e).at λH e=>ownK aw2 X3 D (.head _) H e;have hr3:=((hr.ext EE1).ext EE2).ext (s'.ag.q' od.b7);rw[show s1=⟨s1.aj,s⟩ from W0 (bD.mk s1.aj) hj.2.1] at e;induction cond with
  |none=>refine bK e λf' Y w' e=>aA e λe2 eq' e=>?_;show wpAny _ _ (forIn ([]:List ZU) true _) _ _ _;rw[Zm];refine Xc ?_;rw[if_pos rfl];exact bz (p:=λrs T=>r4 c k l out g Q (m.ab f t) D c' G rs T->_) e (λq=>emit w' eq' q C3' st3 aw3 mm hl3 hr3 _) q
  |some cd=>
   refine bK e λWN Y WC e=>aA e λb etr e=>?_;show wpAny _ _ (forIn [aJ c.X k cd x3] true _) _ _ _;rw[List.forIn_cons,if_pos rfl];have hcd:=hcond cd rfl;refine W6 (W6 ((Q2 cd).aO hcd.1 WC etr hcd.2 C3' _ _ λo Wz B hb'=>Xc ?_));have hb':=hb';subst hb';have U:=B.xH Ey;have A:=C3'.aF B;have nk:=mm.qt R₀ U;have W:=aw3.step B.step;have hl4:=hl3.at λH e=>ownK aw3 U D (.head _) H e;have hr4:=hr3.ext (C3'.ag.ext B);dsimp only;rw[Zm];refine Xc ?_;induction Wz with
   |true=>refine bK e λf' M w' e=>aA e λe2 eq' e=>?_;rw[if_pos rfl];exact bz (p:=λrs T=>r4 c k l out g Q (m.ab f t) D c' G rs T->_) e (λq=>emit w' eq' q A (frm st3 aw3 mm U) W nk hl4 hr4 _) q
   |false=>
    rw[if_neg (by decide)]
    exact x8 (i+1) Y T o G rs a' hi2 hd' e ⟨A.ok,A.aM,A.dK,A.bU,A.ag,A.dc.sub hj.2.2.2⟩ (frm st3 aw3 mm U) W nk hl4 (W5 (Xg (Xt _) _) kd) hr4 q
end
def wk{α:Type}{k:α}{l:List (ZV×α)}(D:(l.map (·.1)).Nodup)(h:(x,k)∈l):l.lookup x=some k:=by
 induction l with
 |nil=>exact eu h
 |cons p r S=>
  rw[XD,XZ] at D;rw[Yq];refine(Xm.mp h).elim (λe=>?_) λh=>?_
  .rw[show x=p.1 from W0 Prod.fst e,beq_self_eq_true,show k=p.2 from W0 Prod.snd e]
  .rw[beq_eq_false_iff_ne.mpr (λz=>D.1 (Xz.mpr ⟨_,h,z⟩):x≠p.1)]
   exact S D.2 h
def sj:cellsFrom a (y::r) acc=if(y.2==NameKind.cell)=true then cellsFrom (a+1) r ((y.1,a)::acc)else cellsFrom a r acc:=rfl
def Kn(f:List (ZV×ZR)):∀(c:Nat)(a b:List (ZV×ZP)),cellsFrom c f (a++b)=cellsFrom c f a++b:=by
 induction f with
 |nil=>exactλ_ _ _=>rfl
 |cons y r S=>
  intro c a b;rw[sj,sj]
  by_cases h:(y.2==NameKind.cell)=true
  .exact(if_pos h)▸(if_pos h)▸S (c+1) ((y.1,c)::a) b
  .exact(if_neg h)▸(if_neg h)▸S c a b
def Kp(f:List (ZV×ZR)):∀(c:Nat)(b:List (ZV×ZP)),(x,a)∈cellsFrom c f b->(x,a)∈b\/(x,NameKind.cell)∈f:=by
 induction f with
 |nil=>exactλ_ _ h=>.inl h
 |cons y r S=>
  intro c b h;rw[sj] at h
  by_cases q:(y.2==NameKind.cell)=true
  .rw[if_pos q] at h
   refine(S _ _ h).elim (λh=>(Xm.mp h).elim (λe=>.inr ?_) .inl) λh=>.inr (.tail _ h);exact(show x=y.1 from W0 Prod.fst e)▸(beq_iff_eq.mp q)▸.head _
  .rw[if_neg q] at h
   exact(S _ _ h).imp id (.tail _)
def Km(f:List (ZV×ZR)):∀(b:Nat)(a:List (ZV×ZP)),p∈a->p∈cellsFrom b f a:=by
 induction f with
 |nil=>exactλ_ _ h=>h
 |cons y r S=>
  intro b a h;refine sj▸?_
  by_cases q:(y.2==NameKind.cell)=true
  .exact(if_pos q)▸S _ _ (.tail _ h)
  .exact(if_neg q)▸S _ _ h
def Ko(f:List (ZV×ZR)):∀(b:Nat)(c:List (ZV×ZP)),(x,NameKind.cell)∈f->∃a,(x,a)∈cellsFrom b f c:=by
 induction f with
 |nil=>exactλ_ _ h=>eu h
 |cons y r S=>
  intro b c h;refine sj▸?_
  by_cases q:(y.2==NameKind.cell)=true
  .refine(if_pos q)▸?_
   exact(Xm.mp h).elim (λe=>⟨b,Km _ _ _ (by exact(show x=y.1 from W0 Prod.fst e)▸.head _)⟩) (S _ _)
  .refine(if_neg q)▸?_
   exact(Xm.mp h).elim (λe=>absurd (by refine((W0 Prod.snd e:NameKind.cell=y.2))▸?_;rfl) q) (S _ _)
def FC{l:List (ZV×ZP)}(h:(x,a)∈l):∃b,l.lookup x=some b:=by
 generalize z:l.lookup x=N;induction N with|some b=>exact⟨b,rfl⟩|none=>rw[List.lookup_eq_none_iff] at z;exact absurd (z _ h) (by rw[bne_self_eq_false];exact Bool.false_ne_true)
section
variable{V:ZV->Z0 ZR}{E:ZY}
def A1(h:oK V E):E.kind=.function:=by have h:=aN h;generalize q:E.kind=N;induction N<;>first|rfl|(rw[q] at h;exact bb h)
def xe(h:oK V E):(E.names.map (·.1)).Nodup:=tO (aN (ar (ar (ar h))))
def xd(h:oK V E)(m:(x,a)∈E.names):x≠eW/\(a=.free->V x=some .cell):=by
 have z:=Xb.mp (ar (ar (ar (ar h)))) _ m;refine⟨λe=>?_,λe=>?_⟩
 .have y:=WI (aN z)
  rw[show Wz x "__class__"=true from k4.mpr e] at y;exact tK y
 .subst e
  have y:=ar z;generalize q:V x=N;induction N with
  |none=>rw[q] at y;exact bb y
  |some a=>rw[q] at y;induction a<;>first|rfl|exact bb y
end
def GD(R:af.scope.kind=.function):(relabel scope af).names=j6 af.kindOf scope.names:=by
 unfold relabel j6;refine List.map_congr_left λx _=>?_;induction x with
 |mk y k=>
  rw[R];induction k<;>try rfl
  show(if(NameKind.free==NameKind.free&&ScopeKind.function==ScopeKind.function&&af.kindOf y==some .cell)=true then(y,NameKind.cell)else(y,NameKind.free))=match af.kindOf y with|some .cell=>(y,.cell)|_=>(y,.free)
  generalize af.kindOf y=N;induction N with
  |none=>rfl
  |some k=>induction k<;>rfl
def gP(d:Env)(S:ZY)(C:ZP):Env:={newEnv S C d.globals (cellsFrom (C+1) S.names (gA d S.names [])) d.qual none .none (some d) builtinsNs with scope:=relabel S d}
def n2(S:ZY)(C:ZP)(a:ZP):Prop:=a=C\/∃x,(x,a)∈cellsFrom (C+1) S.names []
def eB(w:aL)(S:ZY):ZQ:=pushCells (w.s.heap.push aag) S.names
def n1(c:cu)(S:ZY)(C:ZP):cu:=⟨c.X,c.f.more (n2 S C),gP c.af S C,c.A⟩
section
variable{c:cu}{k n:Nat}{X:Z}{w:aL}{t:Tok}
structure BL(c:cu)(k:Nat)(d:ZK)(scope:ZY)(out:ZD)(X:Z)(w:aL)(t:Tok):Prop where
 K7:bJ (n1 c scope (aah w.s)) k (gk d out) X (w.ab (eB w scope) t)
 aF:aT c X w X (w.ab (eB w scope) t)
 iZ:∀a,n2 scope (aah w.s) a->w.h.get? a=none
 ns:(eB w scope).Ns (aah w.s) λ_=>none
 all:c3 w.h (eB w scope)
 cell:∀x a,(gP c.af scope (aah w.s)).cells.lookup x=some a->n2 scope (aah w.s) a\/(x,NameKind.free)∈scope.names
def Ld{s:ZK}{S:ZY}{n:ZD}(i:oK c.af.kindOf S)(fi:tX c.X s S.names)(C:bJ c k n X w):BL c k s S n X w t:=by
 have W:=C.ok.az;have H:∀x,(x,NameKind.free)∈S.names->c.af.kindOf x=some .cell:=λx m=>(xd i m).2 rfl;have A:∀x∈S.names,x.2=.free->∃a,c.af.cells.lookup x.1=some a:=λx B e=>C.bU.has _ ((xd i B).2 e);have F:∀x a,(x,a)∈gA c.af S.names []->(x,NameKind.free)∈S.names/\c.af.cells.lookup x=some a:=λx a B=>(KS B).elim nofun λh=>(A _ h.1 rfl).elim λb G=>by have G:c.af.cells.lookup x=some b:=G;have e:=h.2;rw[G] at e;exact⟨h.1,by refine G▸e▸?_;rfl⟩
 have Z:∀x a,(x,a)∈gA c.af S.names []->a<(aah w.s):=λx a B=>(C.ag.dz a (C.bU.cell x a (xd i (F x a B).1).1 (F x a B).2)).1.elim λo e=>XA e;have jE:CellsOk (eB w S) ((aah w.s)+1) (cellsFrom ((aah w.s)+1) S.names []):=by
  have z:=cellsFrom_ok S.names (w.s.heap.push aag) ((aah w.s)+1) [] ⟨λ_ _ h=>(nomatch h),.nil⟩ (by rw[YY];exact Xe _)
  rwa [YY] at z
 have Q:c3 w.h (eB w S):=λb o e=>pushCells_keeps _ _ _ _ (Heap.get?_push_of_some _ e);have u:(eB w S).Ns (aah w.s) λ_=>none:=(Heap.Ns.new w.s.heap (.type "dict")).keeps (pushCells_keeps S.names _);have Y:∀a,(aah w.s)<=a->w.h.get? a=none:=λa l=>by
  generalize e:w.h.get? a=N;induction N with|none=>rfl|some o=>exact absurd (W4 (XA e) l) (Yj _)
 have J:∀a,n2 S (aah w.s) a->w.h.get? a=none/\∃o,(eB w S).get? a=some o:=λa z=>z.elim (λz=>z▸⟨Y _ (Xe _),u.elim λo x=>x.elim λ_ x=>x.elim λ_ x=>⟨o,x.1⟩⟩) λz=>z.elim λx B=>have y:=jE.empty x a B;⟨Y _ (XI y.2),y.1.elim λo e=>⟨o,e.1⟩⟩;have T:aT c X w X (w.ab (eB w S) t):=.all C.ag Q;have L:=C.aF T;have d:=L.more (F:=n2 S (aah w.s)) λa z=>have y:=sd (t:=t) (N:=[a]) C.ag (λb G=>by exact(Xf.mp G)▸J a z) a (.head _);⟨y.1,y.2.1,y.2.2.2.1,y.2.2.2.2⟩
 have P:(gP c.af S (aah w.s)).cells=cellsFrom ((aah w.s)+1) S.names []++gA c.af S.names []:=Kn S.names ((aah w.s)+1) [] _;have apart:(cellsFrom ((aah w.s)+1) S.names []++gA c.af S.names []).Pairwise λp q=>p.2≠q.2:=List.pairwise_append.mpr ⟨jE.apart,KQ C.bU.inj A (xe i) .nil λ_ h=>(nomatch h),λp X q I e=>Yj _ (W4 (e▸Z q.1 q.2 I) (XI (jE.empty p.1 p.2 X).2))⟩;have D:∀x a,(gP c.af S (aah w.s)).cells.lookup x=some a->(x,a)∈cellsFrom ((aah w.s)+1) S.names []\/(x,a)∈gA c.af S.names []:=λx a e=>XF.mp (hM (by rw[P] at e;exact e))
 have U:∀x k,(gP c.af S (aah w.s)).kindOf x=some k->(k=.cell/\(x,NameKind.free)∈S.names)\/(k≠.free/\(x,k)∈S.names):=λx k e=>by
  have e:(gP c.af S (aah w.s)).scope.names.lookup x=some k:=e;rw[show(gP c.af S (aah w.s)).scope.names=j6 c.af.kindOf S.names from GD C.bU.kind] at e;refine(Xz.mp (hM e)).elim λy K=>?_;induction y with
  |mk y j=>
   have m:=K.1;have e:=K.2
   by_cases R:j=.free
   .subst R
    have e:(match c.af.kindOf y with|some .cell=>(y,NameKind.cell)|_=>(y,NameKind.free))=(x,k):=e
    rw[H y m] at e;exact((show y=x from W0 Prod.fst e))▸.inl ⟨(W0 Prod.snd e:NameKind.cell=k).symm,m⟩
   .have e:(y,j)=(x,k):=by induction j<;>first|exact e|exact absurd rfl R
    exact((show y=x from W0 Prod.fst e))▸((show j=k from W0 Prod.snd e))▸.inr ⟨R,m⟩
 have lkfree:∀x a,(x,NameKind.free)∈S.names->c.af.cells.lookup x=some a->(gP c.af S (aah w.s)).cells.lookup x=some a:=λx a B e=>by
  refine P▸?_;have z:(x,a)∈gA c.af S.names []:=by have y:=CE (d:=c.af) (a:=[]) B;rw[e] at y;exact y
  exact Qc (XC _ z) λb G=>(XF.mp G).elim (λG=>(Kp _ _ _ G).elim nofun λh=>nomatch ((WZ ((wk (xe i) B).symm.trans (wk (xe i) h))))) λG=>(WZ (e.symm.trans (F x b G).2)).symm
 refine⟨⟨d.ok,d.aM,d.dK,⟨(A1 i:S.kind=.function),C.bU.ia,C.bU.blt,.inr (.inr (.inl rfl)),λx a E e=>?_,λx y a O g=>?_,λx a e=>?_,λx e=>?_⟩,⟨d.ag.aM,d.ag.aH,d.ag.own,d.ag.new,d.ag.dz⟩,⟨λq v f e=>?_,⟨_,u⟩,λx a E e=>?_⟩⟩,T,λa z=>(J a z).1,u,Q,λx a e=>(D x a e).imp (λh=>.inr ⟨x,h⟩) λh=>(F x a h).1⟩
 .exact(D x a e).elim (λh=>.inr (.inr ⟨x,h⟩)) λh=>.inl (C.bU.cell x a E (F x a h).2)
 .have O:(gP c.af S (aah w.s)).cells.lookup x=some a:=O
  have g:(gP c.af S (aah w.s)).cells.lookup y=some a:=g;rw[P] at O g;exact yL apart (hM O) (hM g)
 .exact(D x a e).elim (λh=>XK (jE.empty x a h).2) λh=>Xi (Z x a h)
 .refine(?_:∃a,(gP c.af S (aah w.s)).cells.lookup x=some a)
  exact P▸(U x _ e).elim (λh=>FC (XC _ (CE h.2))) λh=>(Ko S.names _ [] h.2).elim λa cK=>FC (XX _ cK)
 .have I:q∉s:=λz=>ns ((Fx z n).symm.trans e)
  rw[z5 I n] at e;have own:∀k,(k=NameKind.local\/k=.cell)->(c.X.az q,k)∈S.names->False:=λk c' B=>by
   have z:=Xb.mp fi _ B;have z:(Wz (c.X.az q) ".0"||s.any λa'=>Wz (c.X.az a') (c.X.az q)):=c'.elim (λe=>by subst e;exact z) λe=>by subst e;exact z
   exact(X0.mp z).elim (λz=>W.LK q (k4.mp z)) λz=>(Y5.mp z).elim λa' h=>I (W.inj _ _ (k4.mp h.2)▸h.1)
  have f:(match(gP c.af S (aah w.s)).kindOf (c.X.az q)with|some .local=>true|some .cell=>true|some .free=>true|_=>false)=true:=f
  generalize r:(gP c.af S (aah w.s)).kindOf (c.X.az q)=N;induction N with
  |none=>rw[r] at f;nomatch f
  |some k=>
   rw[r] at f;refine(U _ _ r).elim (λh=>?_) λh=>(own k ?_ h.2).elim
   .have M:=H _ h.2
    refine(L.dc.get q v (by unfold i0;exact M▸rfl) e).elim λfl z=>⟨fl,z.1.elim (λb=>nomatch (M.symm.trans b.1)) λb=>b.2.2.elim λa y=>.inr ⟨W.eW q,.inl (h.1▸r),a,lkfree _ _ h.2 y.1,y.2⟩,z.2⟩
   .induction k<;>first|exact .inl rfl|exact .inr rfl|exact absurd rfl h.1|nomatch f
 .exact(D x a e).elim (λh=>⟨_,(jE.empty x a h).1⟩) λh=>L.dc.cell x a E (F x a h).2
end
section
variable{c:cu}{k n:Nat}{A:ZD}{X T i d:Z}{w B m w1:aL}{own N:List ZP}{R:ZQ}{t:Tok}{Q:ZF}{P:ZJ}{D:ZP}
def aT.BU(J:aT c X w T B)(R₀:bB c.X X w)(fp:w.h.get? D=none)(O:cY D T B)(fl:cM B ⟨B.G.a5 T.n D D,B.s⟩->fT c.X ⟨B.G.a5 T.n D D,B.s⟩ T.n c'):
  aT c X w (T.new c') ⟨B.G.a5 T.n D D,B.s⟩/\∀a',a'≠D->cY a' T B->cY a' (T.new c') ⟨B.G.a5 T.n D D,B.s⟩:=by
 have E:cM B ⟨B.G.a5 T.n D D,B.s⟩:=⟨λ_ Y=>Y,λj a' Y=>(qd (J.aH.wz Y)).1.trans Y,λ_ _ _ o=>o⟩;have V:∀j,cT T j->(B.G.a5 T.n D D).aX j=B.G.aX j:=λj u=>(qd (Xi (J.aH.lt u))).2;have S:=J.step;refine⟨⟨⟨λj W o=>?_,λj M fs fi o=>?_,λU cK=>⟨(J.aH.bI U cK).1,λj u=>?_⟩,λj U o=>?_⟩,⟨S.a0,λj U o=>E.aO _ _ (S.aO j U o),λj U o=>(qd (J.aH.wz (S.aO j U o))).2.trans (S.aX j U o),S.keep,S.er,λj u=>?_,λj c' W o e1=>?_,XT S.n,S.jU⟩,J.aM,J.dd⟩,λa' nb O=>⟨O.a0,λj u=>(lY u).elim (λC=>by rw[C];show(B.G.a5 T.n D D).aX T.n≠a';exact ea.2▸Ne.symm nb) λu=>by show(B.G.a5 T.n D D).aX j≠a';exact(V j u)▸O.aX j u⟩⟩
 .rw[Z.s9] at o
  by_cases M:T.n=j
  .rw[if_pos M] at o
   exact WZ o▸M▸fl E
  .rw[if_neg M] at o
   exact(J.aH.slot j W o).ext E (V j ⟨W,o⟩) λ_ C=>C
 .have o:=o
  refine(lY fs).elim (λC=>(lY fi).elim (λf'=>C.trans f'.symm) λu=>?_) λu=>(lY fi).elim (λC=>?_) λe2=>?_
  .rw[C,ea.2,V M u] at o;exact absurd o.symm (O.aX M u)
  .rw[C,ea.2,V j u] at o;exact absurd o (O.aX j u)
  .rw[V j u,V M e2] at o;exact J.aH.inj j M u e2 o
 .skip
  refine(lY u).elim (λC=>?_) λu=>?_
  .exact C▸ea.2▸λfv=>O.a0 (fv▸cK)
  .exact(V j u)▸(J.aH.bI U cK).2 j u
 .skip
  by_cases M:j=T.n
  .exact M▸Xh _
  .exact XH (J.aH.gM j U ((qd M).1.symm.trans o))
 .refine(lY u).elim (λC=>.inr ?_) λu=>?_
  .rw[C];show w.h.get? ((B.G.a5 T.n D D).aX T.n)=none;exact ea.2▸fp
  .skip
   exact(V j u)▸S.new j u
 .rw[Z.s9,if_neg (Ne.symm (Xi (W4 (R₀.lt ⟨c',o⟩) S.n)))] at e1
  exact S.gV j c' W o e1
def aT.Jk(u:Bool)(J:aT c X w T B)(W:bB c.X X w)(M:w.h.get? D=none)(O:cY D T B)(C:B.h.PlainList D P.toArray)(U:P.length<=b0)(V:aK c.X B Q P):∃w'',w''.s=B.s/\aT c X w (dj u Q T).2 w''/\o c.X w'' (dj u Q T).1 (.ref D)/\∀a',a'≠D->cY a' T B->cY a' (dj u Q T).2 w'':=by
 induction u with|false=>exact⟨⟨B.G.bI λa'=>a'=D,B.s⟩,rfl,J.BS λa' j=>(j:a'=D)▸⟨M,C.elim λ_ Y=>⟨_,Y⟩,O.aX⟩,.ae (.inr rfl) C U (V.ext (w':=⟨B.G.bI λa'=>a'=D,B.s⟩) ⟨λ_ j=>Or.inl j,λ_ _ j=>j,λ_ _ _ j=>j⟩),λa' nb O=>⟨λZ=>Z.elim O.a0 nb,O.aX⟩⟩|true=>have j:=J.BU (c':=.ae Q 0) W M O λE=>⟨ea.1.trans (W0 some ea.2.symm),P,ea.2.symm▸C,U,V.ext E⟩;exact⟨⟨B.G.a5 T.n D D,B.s⟩,rfl,j.1,.ref ea.1,j.2⟩
def aT.eY(o:aT c X w T B)(C:dJ c.f own T B)(J:∀a'∈own,w.h.get? a'=none)(u:ki own B.h R):aT c X w T (B.bV (λ_=>False) R t):=
 have j:=fU.eY (⟨o.aH,o.step,o.aM,o.dd⟩:fU c (iw c.f) X w T B) C J u λ_ j=>j.elim
 ⟨j.aH,j.step,j.aM,j.dd⟩
def kh.aO{el:Bool}{bD:Nat->ZQ->Prop}(u:c'.X=c.X)(o:c'.A=c.A)(dw:kh c a' own N m Q el bD o4)(E:cM m w1):kh c' a' own N w1 Q el bD o4:=by
 induction c with|mk cK e1 env Y=>induction c' with|mk X' f' env' Z=>
 have u:=u;have o:=o;subst u;subst o;exact⟨dw.frame,dw.e',dw.wh,λW x w M C V j J own U=>dw.item W x w M C V j (E.trans J) own U,dw.go,dw.self,dw.done⟩
def Fr.pL(u:Fr c.f.g c.f.L w.h a')(J:dJ c.f own X w):Fr c.f.g c.f.L (hideAll w.h own) a':=⟨u.ns.at' λo j=>hideAll_get _ j λC=>(J _ C).2.1 rfl,λM o j=>hideAll_get _ (u.keep M o j) λC=>cj j (J M C).2.2.2.2,u.above⟩
def Lf(kk:∀e,bT n e)(kz:∀e,Gt n e){cond:Z0 E}{S:ZY}{pos:Pos}{C M:Z}{lv:V}{Y:ZF}{j:aL}{I:ZP}{el:Bool}{St':Nat->ZQ->Prop}{Mid:Nat->ZO->ZQ->Prop}(wd:tX c.X g S.names)
  (w':oz c.X (gP c.af S (aah j.s)).kindOf g)(he:bQ c.X k (gP c.af S (aah j.s)).kindOf elt x0)(hcond:∀r,cond=some r->il r/\bQ c.X k (gP c.af S (aah j.s)).kindOf r x3)(htwo:el=true->∃elts k pos,g5 c.X g x1=Expr.Tuple elts k pos)
  (hfit:eC Q)(e2:dY lv C true=some d)(rt:sv (aD c.X.P c.X.N n).e g elt cond A Q d=some (Y,i))(hj:dY lv i false=some M)(R:bB c.X X w)(cK:aT c X w C w1)(O:aT c C w1 C j)(dw:kh c I own N w1 Q el St' Mid)(st0:St' 0 w1.h)(hi:dJ c.f own C w1)(fr:∀b∈own,w.h.get? b=none)
  (fpk:∀b∈N,b∉own/\(w1.G.a0 b\/∃q,lv=.ref q/\cT C q/\w1.G.aX q=b)/\∃H,w1.h.get? b=some H)(P:aP c C w1)(c':w1.h.get? D=none)(k2:c3 w1.h j.h)(hlD:j.h.PlainList D ([]:ZJ).toArray)(qs:dJ c.f [D] C j)(K:BL c k g S A C j t){use:Z0 (ZO->Sem Unit)}{fl:ZG}{E:ZG}
  (q:∀B D L s,aT c X w (dj G Y M).2 B->o c.X B (dj G Y M).1 (.ref D)->B.h.Ns L s->dJ c.f [L] (dj G Y M).2 B->w.h.get? L=none->compPost (aae c) c.A E use fl (.ref D) L (.ok .next) B.s):
  codeAny (aae c) c.A (.compStart (.ListComp (aJ c.X k elt x0) [⟨g5 c.X g x1,iter,(cond.map λe=>aJ c.X k e x3).toList,0⟩] S pos) 0 (.ref I) (.ref D) (gP c.af S (aah j.s))) (compPost (aae c) c.A E use fl (.ref D) (aah j.s)) (j.ab (eB j S) t).s:=by
 have J:=K.K7;have nDo:D∉own:=λz=>(hi D z).1.elim λH e=>cj e c';have a2:dJ c.f (D::own) C j:=λb v=>(Xm.mp v).elim (λz=>z▸qs D (.head _)) (hi.step O.step b);have fp:dJ (n1 c S (aah j.s)).f (D::own) C (j.ab (eB j S) t):=λb v=>have u:=(a2.step K.aF.step) b v;⟨u.1,u.2.1,λy=>y.elim u.2.2.1 λy=>(a2 b v).1.elim λH e=>cj e (K.iZ b y),u.2.2.2⟩;have T:=tA e2 J.ag.aH;have kd:bJ (n1 c S (aah j.s)) k (gk g A) d (j.ab (eB j S) t):=⟨J.ok,J.aM,J.dK,J.bU,Ft e2 J.ag,J.dc⟩;have f':dJ (n1 c S (aah j.s)).f (D::own) d (j.ab (eB j S) t):=λb v=>have u:=fp b v;⟨u.1,u.2.1,u.2.2.1,u.2.2.2.1.gV T.2,u.2.2.2.2⟩;have R₀:bB c.X d ((j.ab (eB j S) t).ab (hideAll (j.ab (eB j S) t).h (D::own)) t):=T.1.pL λb v=>(f' b v).2.2.2.1;have h2:c3 w1.h (j.ab (eB j S) t).h:=λb H e=>K.all b H (k2 b H e);have U:=O.trans P K.aF;have st3:St' 0 (j.ab (eB j S) t).h:=dw.frame 0 _ _ st0 λb _ H e=>h2 b H e;have fs:∀b,w1.h.get? b=none->w.h.get? b=none:=λb e=>cK.step.iZ e;have fr':∀b∈D::own,w.h.get? b=none:=λb v=>(Xm.mp v).elim (λz=>z▸fs D c') (fr b);have h1:∀b,n2 S (aah j.s) b->w.h.get? b=none:=λb z=>fs b (O.step.iZ (K.iZ b z));have neL:(aah j.s)≠c.f.L:=λz=>(P.aF O).jX.elim λH e=>cj e (K.iZ _ (.inl z.symm));have k0:fU (n1 c S (aah j.s)) (λb=>b=c.f.L\/n2 S (aah j.s) b) d ((j.ab (eB j S) t).ab (hideAll (j.ab (eB j S) t).h (D::own)) t) d (j.ab (eB j S) t):=⟨T.1,⟨λ_ x=>x,λ_ _ x=>x,λ_ _ _=>rfl,λb H e _ _=>of_hideAll _ e,λb H e=>⟨H,of_hideAll _ e⟩,λp l=>.inl ⟨l,rfl⟩,λp H x6 e q0=>W0 bc (WZ (Eq.trans (Eq.symm q0) e)),Xe _,λa x=>.inl x⟩,λm F=>(⟨F.ns.at' λH e=>of_hideAll _ e,λb H e=>of_hideAll _ (F.keep b H e),F.above⟩),⟨_,_,rfl⟩⟩;have It3:kh (n1 c S (aah j.s)) I own N (j.ab (eB j S) t) Q el St' Mid:=kh.aO (c:=c) (c':=n1 c S (aah j.s)) rfl rfl dw (P.ext U);have held3:∀b∈N,jc C (j.ab (eB j S) t) lv b:=λb v=>(fpk b v).2.1.imp (U.step.a0 b) λy=>y.elim λq y=>⟨q,y.1,y.2.1,by exact y.2.2▸(P.aH.has y.2.1).1.elim λa fv=>U.step.aX q a fv⟩
 have loop:codeAny (aae c) c.A (.compLoop (.ListComp (aJ c.X k elt x0) [⟨g5 c.X g x1,iter,(cond.map λe=>aJ c.X k e x3).toList,0⟩] S pos) 0 (.ref I) (.ref D) (gP c.af S (aah j.s))) (compPost (aae c) c.A E use fl (.ref D) (aah j.s)) (j.ab (eB j S) t).s:=by
  refine Le (c:=n1 c S (aah j.s)) (m:=j.ab (eB j S) t) (f:=hideAll (j.ab (eB j S) t).h (D::own)) (t:=t) (g:=λb=>b=c.f.L\/n2 S (aah j.s) b) kk kz neL w' he hcond It3 htwo R₀ (λb v=>hideAll_none _ v) nDo (λa H s' e=>hideAll_get _ e λz=>(fp a z).2.2.2.1.a0 s') (λb v=>?_) (λb z=>(J.ag.qb b z).a0) (.inr (.inl rfl)) (λp X a fv=>?_) (.inl rfl) (λb z=>z.imp id .inr) Q 0 d i (j.ab (eB j S) t) [] Y [] (W7 _) rfl rt kd st3 f' k0 (hlD.at λH e=>K.all _ _ e) (by rw[Yv,W7];exact Xw (pH hfit)) .nil λe1 vs6 qS a' pl pl6 x2 x5=>?_
  .have f:=fpk b v
   have h:=held3 b v;have nb:b∉D::own:=λz=>(Xm.mp z).elim (λz=>f.2.2.elim λH e=>cj e (z▸c')) f.1;exact⟨f.1,λy=>h.elim (J.ag.qb b y).a0 λh=>h.elim λq h=>(J.ag.qb b y).aX q h.2.1 h.2.2,λp m y=>h.elim (λh=>(J.ag.aH.bI b h).2 p ((T.2 p).mp m.e') y) λh=>h.elim λq h=>(Fu (h.1▸e2) m (J.ag.aH.inj p q ((T.2 p).mp m.e') h.2.1 (y.trans h.2.2.symm))),f.2.2.elim λH e=>⟨H,hideAll_get _ (h2 b H e) nb⟩⟩
  .refine(K.cell _ _ fv).elim .inr λz=>?_
   have y:=Xb.mp wd _ z;have y:(!(g.any λx4=>Wz (c.X.az x4) (c.X.az p))):=y;rw[Y5.mpr ⟨p,X,k4.mpr rfl⟩] at y;exact bb y
  .have fi:=tA hj a'.aH
   have l2:cG X w C ((j.ab (eB j S) t).ab (hideAll (j.ab (eB j S) t).h (D::own)) t) (iw c.f):=((cK.step.trans R U.step)).pL fr';have nk:cG X w M e1 (iw c.f):=l2.mi R (HK e2 hj a'.step) λb z=>z.imp id (h1 b);have od:aT c X w M e1:=⟨fi.1,nk,λm F=>a'.aM m (Fr.pL (own:=D::own) (K.aF.aM m (O.aM m (cK.aM m F))) fp),cK.dd.trans (U.dd.trans (fm.trans ⟨_,_,rfl⟩ a'.dd))⟩;have l1:cY D M e1:=(pl D (.head _)).2.2.2.1.gV fi.2;have nDC:(aah j.s)≠D:=λz=>hlD.elim λ_ e=>cj e (K.iZ _ (.inl z.symm));refine(od.Jk G R (fs D c') l1 pl6 x2 x5).elim λh' y=>y.1▸?_;have W:=qS.ag.dz (aah j.s) (.inr (.inl rfl));refine qS.dc.ns.elim λs ns1=>?_;have hr:h'.h=e1.h:=W0 Shared.heap y.1;refine q h' D (aah j.s) s y.2.1 y.2.2.1 (hr▸ns1) (λb v=>?_) (h1 _ (.inl rfl));exact(Xf.mp v)▸⟨hr▸W.1,neL,λu=>((P.aF O).dz _ u).1.elim λH e=>cj e (K.iZ _ (.inl rfl)),y.2.2.2 _ nDC (W.2.2.1.gV fi.2),W.2.2.2⟩
 exact codeAny_compStart_list loop (dw.self 0 (j.ab (eB j S) t) _ _ st3 loop)
end
section
variable{c:cu}{k n:Nat}{A:ZD}{X T:Z}{w B:aL}
def CI(K:∀e,bT n e)(a':∀e,Gt n e){u:Z0 E}{x0 x1 J x3:ZU}{j:ZY}{D:Pos}{v:V}(fs:oK c.af.kindOf j)(Y:tX c.X g j.names)(hf:sU d g)(hi:rG c.X k c.af.kindOf d J)
  (Z:oz c.X (kQ (j6 c.af.kindOf j.names)) g)(U:bQ c.X k (kQ (j6 c.af.kindOf j.names)) elt x0)(R:∀l,u=some l->il l/\bQ c.X k (kQ (j6 c.af.kindOf j.names)) l x3)
  (e:(aD c.X.P c.X.N (n+1)).e (.comp N elt g d u) ⟨A,X⟩=some (v,T))(C:bJ c k A X w){F:Z0 (ZO->Sem Unit)}{Q:ZG}{E:ZG}
  (q:∀B f L h,aT c X w T B->o c.X B v (.ref f)->B.h.Ns L h->dJ c.f [L] T B->w.h.get? L=none->compPost (aae c) c.A E F Q (.ref f) L (.ok .next) B.s):
  aad c (eval (mh c.X k d J) c.af) (λx s=>aad c (pyIter x) (λp t=>aad c (newList []) (λi G=>
   aad c (newFunctionEnv j c.af.globals (gA c.af j.names []) [] c.af.qual none .none (some c.af)) (λm H=>
    codeAny (aae c) c.A (.compStart (.ListComp (aJ c.X k elt x0) [⟨g5 c.X g x1,mh c.X k d J,(u.map λe=>aJ c.X k e x3).toList,0⟩] j D) 0 p i {m with scope:=relabel j c.af}) (compPost (aae c) c.A E F Q i m.locals) H) E G) E t) E s) E w.s:=by
 refine aA e λr e1 e=>bR e λhfit e=>aA e λfv e2 e=>bK e λrs hp1 c' e=>aA e λhF fi e=>?_;refine Hf K e1 hi C λS I O=>?_;refine O.dh.elim λown z=>z.elim λfp z=>z.elim λSt' z=>z.elim λMid z=>?_;refine Y2 ?_ (Xj _);refine Lc ?_;have W:(S.s.heap.push {cls:=.type "list",data:=.seq ([]:ZJ).toArray}).PlainList (aah S.s) ([]:ZJ).toArray:=wY ..;have P:S.h.get? (aah S.s)=none:=hp _;have L:=C.aF O.aF;have k2:c3 S.h (S.s.heap.push {cls:=.type "list",data:=.seq ([]:ZJ).toArray}):=c3.push _ _;have M:aT c r.2.2 S r.2.2 (S.ab (S.s.heap.push {cls:=.type "list",data:=.seq ([]:ZJ).toArray}) S.s.toks):=.all L.ag k2;have cK:=sd (t:=S.s.toks) (N:=[(aah S.s)]) L.ag (G:=S.s.heap.push {cls:=.type "list",data:=.seq ([]:ZJ).toArray}) λb fl=>by rw[Xf.mp fl];exact⟨P,W.elim λ_ e=>⟨_,e⟩⟩
 have hkind:kQ (j6 c.af.kindOf j.names)=(gP c.af j (S.s.heap.push {cls:=.type "list",data:=.seq ([]:ZJ).toArray}).objs.size).kindOf:=funext λx=>(Qa x _).trans (by rw[<-GD C.bU.kind];rfl)
 rw[hkind] at Z U R;have htwo:HG d->∃elts k D,g5 c.X g x1=Expr.Tuple elts k D:=λy=>by
  induction d using dw.casesOn with|jn a=>exact(DI hf).elim λ_ z=>z.elim λ_ z=>z.elim λ_ e=>e▸⟨_,_,_,rfl⟩|_=>exact bb y
 exact Lf K a' Y Z U R htwo hfit e2 c' fi C.ag.aH O.aF M z.1 z.2.1 z.2.2.1 z.2.2.2.1 z.2.2.2.2 L.ag P k2 W cK (Ld (t:=S.s.toks) fs Y (L.aF M)) (bz (p:=λv T=>∀B f L h,aT c X w T B->o c.X B v (.ref f)->B.h.Ns L h->dJ c.f [L] T B->w.h.get? L=none->compPost (aae c) c.A E F Q (.ref f) L (.ok .next) B.s) e.symm q)
def CF(i:oK c.af.kindOf a)(p:jb c.f c.af):closureFor a c.af=pure (gA c.af a.names [])/\∀x∈a.names,x.2=.local->a.names.lookup x.1=some .local:=⟨KV λx B e=>p.has _ ((xd i B).2 e),λx B e=>wk (xe i) (by rw[<-e];exact B)⟩
def CJ{B:Z0 E}{x:ZU}{V:ZV->Z0 ZR}(o:bQ c.X (k+1) V (.comp g elt d b B) x):∃a,ma x=some a/\aJ c.X (k+1) (.comp g elt d b B) x=.ListComp (aJ c.X k elt (ax x 0)) [⟨g5 c.X d (ax x 1),mh c.X k b (ax x 2),(B.map λe=>aJ c.X k e (ax x 3)).toList,0⟩] a x.pos/\oK V a/\tX c.X d a.names/\sU b d/\rG c.X k V b (ax x 2)/\
  oz c.X (kQ (j6 V a.names)) d=true/\bQ c.X k (kQ (j6 V a.names)) elt (ax x 0)/\∀l,B=some l->il l/\bQ c.X k (kQ (j6 V a.names)) l (ax x 3):=by
 have K:=aN o;have F:=ar o;have t:=ar F;have r:=ar t;have f:=ar r;have i:=ar f;generalize h:ma x=N;induction N with
 |none=>rw[h] at K;exact bb K
 |some a=>
  rw[h] at K;have X:tM V x=kQ (j6 V a.names):=by unfold tM;rw[h]
  rw[X] at r f i;refine⟨a,rfl,?_,aN K,ar K,aN F,aN t,aN r,aN f,λl e=>?_⟩
  .refine(?_:(match ma x with|some a=>Expr.ListComp (aJ c.X k elt (ax x 0)) [⟨g5 c.X d (ax x 1),mh c.X k b (ax x 2),(B.map λe=>aJ c.X k e (ax x 3)).toList,0⟩] a x.pos|none=>x)=_)
   rw[h]
  .subst e
   exact⟨aN i,ar i⟩
def AG(ax:Heap.SameBut a h d):ki [a] h d:=λb o c e=>(ax.2 b λz=>c (Xf.mpr z)).trans e
def Il(m:∀e,bT n e)(i:∀e,Gt n e){B:Z0 E}:bT (n+1) (.comp g elt d a B):=λc A X v T k x w e o C=>(CJ o).elim λt h=>by rw[h.2.1];have h:=h.2.2;have N:=CF h.1 C.bU;intro Q E q;rw[eval_ListComp];refine wpAny_comprehension_free rfl (zf (Bq h.2.2.2.1)) N.1 (A1 h.1) N.2 (CI m i h.1 h.2.1 h.2.2.1 h.2.2.2.1 h.2.2.2.2.1 h.2.2.2.2.2.1 h.2.2.2.2.2.2 e C.aW λS D L O l r p f s=>?_);refine⟨O,p,λj ax=>?_⟩;have K:=AG ax;exact q (S.bV (λ_=>False) j S.s.toks) _ (l.eY f (λb G=>by rw[Xf.mp G];exact s) K) (r.ext (.bV (λb G=>(f b G).2.2.2.1.a0) K))
def IF:uE 0:=λq B c j i G k y w _ e _ _=>Internal.ns (e:none=some (i,G))
def IE(J:∀e,bT n e)(P:∀e,Gt n e)(M:∀e,bT (n+1) e):uE (n+1):=λi V c j x I k y w Z e o C=>by
 have F:=aN (ar o);have H:=ar (ar o);rw[Z] at H;induction V using E.casesOn with
 |comp g a d T B=>
  refine bK e λv X O e=>bz (p:=λx I=>ha c (exec (.Assign [.Name (c.X.az i) (bZ y 1).pos] (aJ c.X k (.comp g a d T B) (bZ y 0)) y.pos) c.af) j.h w I x) e ?_;induction k with
  |zero=>exact(λz:bQ c.X 0 c.af.kindOf (.comp g a d T B) (bZ y 0)=true=>bb z) (aN (b:=AF c.X 0 c.af.kindOf (.comp g a d T B) (aJ c.X 0 (.comp g a d T B) (bZ y 0)) (.F i) (bZ y 1)) o)
  |succ k=>
   have vl:=(M (.comp g a d T B)).aO O (aN o) C.aW;refine(CJ (aN o)).elim λsc h=>?_;rw[h.2.1] at vl⊢;have h:=h.2.2;have t:=CF h.1 C.bU;intro Q E q;obtain⟨b,G⟩:∃b,swapsWith (.ListComp (aJ c.X k a (ax (bZ y 0) 0)) [⟨g5 c.X d (ax (bZ y 0) 1),mh c.X k T (ax (bZ y 0) 2),(B.map λe=>aJ c.X k e (ax (bZ y 0) 3)).toList,0⟩] sc (bZ y 0).pos) (some (.Name (c.X.az i) (bZ y 1).pos)) y.pos.line c.af=pure b:=⟨_,rfl⟩;induction b with
   |false=>exact wpAny_Assign_Name (vl _ E λw1 x1 l f=>Bg (C.aF l) F f λs r S W=>q s r ((l.b7 C.ag).trans C.ag S) W) G
   |true=>
    rw[exec_Assign_Name_used _ _ _ _ G];refine W6 (Yx (W6 ?_));refine W6 (XR (wpAny_comprehension_free rfl (zf (Bq h.2.2.2.1)) t.1 (A1 h.1) t.2 (CI J P h.1 h.2.1 h.2.2.1 h.2.2.2.1 h.2.2.2.2.1 h.2.2.2.2.2.1 h.2.2.2.2.2.2 O C.aW.aW λw1 D L cK l f c' m e2=>?_)) (λ_ s' a'=>Xc (Xc a')) λ_ _ e=>e);refine PyProof.Rows.assign_Name (um (C.aF l) trivial (λ_ _=>trivial) F f λs N=>?_);have R:=m.step N.b7.step;have u:=m L (.head _);refine⟨cK,c'.at' λo e=>N.b7.step.keep L o e (λz=>z.elim u.2.1 u.2.2.1) λp mp=>u.2.2.2.1.aX p mp.e',λA ax=>?_⟩;have K:=AG ax;have U:cO c j.h w X (s.bV (λ_=>False) A s.s.toks):=((l.b7 C.ag).trans C.ag N.b7).eY R (λb Y=>by rw[Xf.mp Y];exact e2) K λ_ z=>z.elim
    exact q (s.bV (λ_=>False) A s.s.toks) .next U ⟨rfl,((C.aF l).stored N|>.eY R K λ_ z=>z.elim).dc⟩
 |_=>exact bb H
end
def Up{K:Type} [DecidableEq K]{k:K}{O:List (K×ZO)}(h:(O.map (·.1)).Nodup):((stored O k c).map (·.1)).Nodup:=by
 unfold stored
 by_cases X:(O.any λp=>decide (p.1=k))=true
 .rw[if_pos X]
  have e:(O.map λm=>if m.1=k then(m.1,c)else m).map (·.1)=O.map (·.1):=by
   rw[Yt];exact List.map_congr_left λx _=>by
    show(if x.1=k then(x.1,c)else x).1=x.1
    by_cases z:x.1=k
    .rw[if_pos z]
    .rw[if_neg z]
  rw[e];exact h
 .rw[if_neg X,Yw,List.map_singleton]
  refine Zv.mpr ⟨h,XZ.mpr ⟨λz=>(eu z),List.nodup_nil⟩,λa E b G e=>?_⟩;rw[Xf.mp G] at e;exact(Xz.mp E).elim λx B=>X (Y5.mpr ⟨x,B.1,decide_eq_true (B.2.trans e)⟩)
section
variable{c:cu}{k n:Nat}{A:ZD}{X P:Z}{w B:aL}{D:ZP}
def Hr(E:hZ c.X c.f)(I:aP c X w):((aah w.s)==sysModules)=false:=by exact beq_eq_false_iff_ne.mpr (XK (Xv (by decide) (E.T.g.elim λo x=>x.elim λ_ x=>x.elim λ_ x=>I.aM.elim λm F=>XA (F.keep _ _ x.1))))
structure qD(e:cn)(f:eU)(d:Type) [DecidableEq d](knd:KeyKind e.prog e.w d)(s:d->aE):Prop where
 eq:∀a b,cJ (s a) (s b)=decide (a=b)
 key:∀{w:aL}{x:V}{y:aE}{v:ZO},fQ f x=some y->o e w x v->∃z,y=s z/\knd.is z v=true
 aO:∀{w:aL}{a:ZP}{l:List (d×ZO)},w.h.DictOf knd a l->ez e w f a (l.map λp=>(s p.1,p.2))
def E0(X:cn):qD X .I Int (intKind X.prog X.w) aE.i:=⟨pP,λ{w x y v} e r=>by
 have m:=pQ e r;induction y with|i n=>exact m.elim λt aD=>⟨n,rfl,aD▸intKind_is ..⟩|_=>exact m.elim,λd=>⟨_,d,rfl⟩⟩
def E1(X:cn):qD X .S ZV (strKind X.prog X.w) aE.s:=⟨tr,λ{w x y v} e r=>by
 have m:=pQ e r;induction y with|s n=>exact m.elim λt aD=>⟨n,rfl,aD▸strKind_is ..⟩|_=>exact m.elim,λd=>⟨_,d,rfl⟩⟩
def R2(H:∀e,bT n e){K:Type} [DecidableEq K]{D:KeyKind c.X.prog c.X.w K}{s:K->aE}{J:eU}(M:qD c.X J K D s){E:ZG}(R:List Internal.E):∀(g:List Internal.E)(i l:List ZU)(X P:Z)(d h:ZE)(w:aL)(f:List (K×ZO))(Q:List (ZO×ZO)->ZN),
  t2 (aD c.X.P c.X.N n).e J R g ⟨A,X⟩ d=some (h,P)->eQ ck (bQ c.X k c.af.kindOf) R i->eQ ck (bQ c.X k c.af.kindOf) g l->bJ c k A X w->(f.map (·.1)).Nodup->b2 c.X w d (f.map λp=>(s p.1,p.2))->
  (∀B t T,aT c X w P B->Carries D t T->b2 c.X B h ((merged f T).map λp=>(s p.1,p.2))->T.length=R.length->Q t B.s)->
  aad c (evalPairs (pairTrees ((cD ck (aJ c.X k) R i).map some) (cD ck (aJ c.X k) g l) c.af pos)) Q E w.s:=by
 induction R with
 |nil=>
  intro g i l X P d h w f Q e j m C F G q;induction g with
  |cons=>exact Internal.ns e
  |nil=>exact pairTrees_nil_walk (bz (p:=λh P=>(∀B t T,aT c X w P B->Carries D t T->b2 c.X B h ((merged f T).map λp=>(s p.1,p.2))->T.length=0->Q t B.s)->Q [] w.s) e (λq=>q w [] [] (.refl C.ag.aH) trivial G rfl) q)
 |cons a R c'=>
  intro g i l X P d h w f Q e j m C F G q;induction g with
  |nil=>exact Internal.ns e
  |cons b g=>
   refine bK e λu h1 U e=>bK e λv h2 W e=>aA e λy Y e=>?_;rw[hX,hX,XD];have j:=hQ j;have m:=hQ m;refine pairTrees_cons_walk ((H a).aO U j.1 C _ E λw1 v1 o fi=>(H b).aO W m.1 (C.aF o) _ E λN r x fl=>?_);have L:=C.aF o;refine(M.key Y fi).elim λz I=>?_;have rd2:b2 c.X N (cU d (s z) v) ((stored f z r).map λp=>(s p.1,p.2)):=by rw[<-sD s z M.eq r f F];exact((G.ext (C.ag.ext o)).ext (L.ag.ext x)).a5 (s z) fl
   rw[I.1] at e;exact c' g i.tail l.tail h2 P _ h N (stored f z r) _ e j.2 m.2 (L.aF x) (Up F) rd2 λfp t T O S rd3 a'=>q fp _ ((z,r)::T) ((o.trans C.ag x).trans C.ag O) ⟨I.2,rfl,S⟩ rd3 (W0 Nat.succ a')
def xQ(G:List α):∀{b:List β},(cD d g G b).length=G.length:=by
 induction G with|nil=>exact rfl|cons a r S=>intro b;rw[hX];exact W0 Nat.succ S
def Im{m:eU}{R D:List E}(fp:∀e,bT n e):bT (n+1) (.ah m R D):=λc A X v P k x w e H C=>bK e λd g S e=>by
 have hr:=aN H;have a':=ar H;have c':=ar a';have e2:=ar c';have h:=W2 (aN c');have j:=nT (aN a');rw[dP] at h j;rw[dP] at h;refine bz (p:=λv P=>aR c (eval (.Dict ((cD ck (aJ c.X k) R (cR x)).map some) (cD ck (aJ c.X k) D ((cR x).drop R.length)) x.pos) c.af) X w P v) e λQ E q=>?_;have fi:=Hr C.aM C.ag;have V:c3 w.h (w.s.heap.push aag):=c3.push _ _;have U:∀{K:Type} [DecidableEq K]{r:KeyKind c.X.prog c.X.w K}{M:K->aE},qD c.X m K r M->R≠[]->aad c (eval (.Dict ((cD ck (aJ c.X k) R (cR x)).map some) (cD ck (aJ c.X k) D ((cR x).drop R.length)) x.pos) c.af) Q E w.s:=λ{K _ r M} W hne=>by
  have O:(w.s.heap.push aag).DictOf r (aah w.s) []:=Heap.DictOf.new _;have F:w.h.get? (aah w.s)=none:=hp _;have L:=sd (t:=w.s.toks) (N:=[(aah w.s)]) C.ag (G:=w.s.heap.push aag) λb G=>by rw[Xf.mp G];exact⟨F,O.elim λH y=>y.elim λ_ y=>y.elim λ_ y=>⟨H,y.1⟩⟩
  have J:aT c X w X (w.ab (w.s.heap.push aag) w.s.toks):=.all C.ag V;refine wpAny_Dict_walk (knd:=r) (Xb.mpr λy hi=>(Xz.mp hi).elim λz hj=>hj.2▸rfl) (by rw[Xs,xQ,xQ];exact h) (λz=>hne (List.length_eq_zero_iff.mp (by rw[<-xQ (d:=ck) (g:=aJ c.X k) R (b:=cR x),<-Xs (f:=some),z];rfl))) (by rw[Xs,xQ];exact j) ?_
  refine R2 fp W R D (cR x) ((cR x).drop R.length) X g [] d (w.ab (w.s.heap.push aag) w.s.toks) [] _ S (aN e2) (ar e2) (C.aW.aF J) List.nodup_nil .nil λI t Y i cr rd3 hl3=>?_;have T:=L.step i.step;have u:=L _ (.head _);refine⟨Y,cr,q5 O λH e=>i.step.keep _ H e u.2.1 λp mp=>u.2.2.2.1.aX p mp.e',λl hd4 ax=>?_⟩;have s:=AG ax;have fv:aT c X w g (I.bV (λ_=>False) l (I.s.toks+t.length)):=(J.trans C.ag i).eY T (λb G=>by rw[Xf.mp G];exact F) s
  have Z:=merged_length_le [] Y;rw[Yv,W7,hl3] at Z;have fs:cY (aah w.s) g (I.bV (λ_=>False) l (I.s.toks+t.length)):=have y:=(T _ (.head _)).2.2.2.1;⟨λf=>f.elim y.a0 id,y.aX⟩;have z:=fv.BU (c':=.ah m d 0) C.ag.aH F fs λfl=>⟨ea.1.trans (W0 some ea.2.symm),ea.2.symm▸fi,_,ea.2.symm▸W.aO (w:=⟨(I.bV (λ_=>False) l (I.s.toks+t.length)).G.a5 g.n _ _,_⟩) hd4,by rw[Xs];exact W5 Z (W5 j (by decide)),(rd3.ext (.bV (λb G=>(T b G).2.2.2.1.a0) s)).ext fl⟩
  exact q _ _ z.1 (.ref ea.1)
 induction R with
 |nil=>
  induction D with
  |cons=>nomatch h
  |nil=>
   have f':∀B:aL,B.h=w.s.heap.push aag->ez c.X B m (aah w.s) []:=λB N=>by
    induction m with|I=>exact⟨[],by rw[N];exact Heap.DictOf.new _,rfl⟩|S=>exact⟨[],by rw[N];exact Heap.DictOf.new _,rfl⟩|T=>exact⟨[],by rw[N];exact Heap.DictOfH.new _,rfl,λ_ z=>eu z⟩
   exact wpAny_Dict_empty ((E9 C.ag (.all C.ag V) (hp _) fi (λB _ e=>f' B e) (Xj _) .nil).elim λB z=>by have y:=(bz (p:=λd g=>∀B a,aT c X w (g.new (.ah m d 0)) B->o c.X B (.ref g.n) a->Q a B.s) (Eq.symm S) q) B _ z.2.1 z.2.2;rw[z.1] at y;exact y)
 |cons a R=>
  induction m with|I=>exact U (E0 c.X) nofun|S=>exact U (E1 c.X) nofun|T=>exact bb hr
end
def P1:typeLookup (.type "list") "keys"=pure none:=by rw[typeLookup_type,builtinLookup_eq_fast];kernel_rfl
def P0:typeLookup (.type "list") "__getattr__"=pure none:=by rw[typeLookup_type,builtinLookup_eq_fast];kernel_rfl
section
variable{m:Program}{w:ZS}{A:ZX}{h:ZQ}{g:Array GenState}{d:Drawn}{t:Nat}{p:OsState}{a:ZP}{l:Array ZO}{n:Nat}
def QM{E:ZG}(B:h.get? a=some {cls:=.type "list",data:=.seq l n})(N:A.handled=none)(O:∀b s e,Heap.NewAttrErr h b e (.ref a) "keys"->E (.ref e) ⟨b,g,d,s,p⟩):
  wpAny (model m w) A (Builtin.«object.__getattribute__» ⟨[.ref a,.str "keys" s],[]⟩) Q E ⟨h,g,d,t,p⟩:=by
 have R:(⟨h,g,d,t,p⟩:ZW).TypeIs (.ref a) "list":=⟨_,B,rfl⟩;have Ds:=P1;unfold Builtin.«object.__getattribute__»;repeat (any_goals (first|assumption|wp_step))
 exact wpAny_raiseAttrError N O (attrMsg_fits (by decide+kernel) (by decide+kernel))
def QL(B:h.get? a=some {cls:=.type "list",data:=.seq l n})(N:A.handled=none)(Q:∀b s e,Heap.NewAttrErr h b e (.ref a) "keys"->c (.error (.ref e)) ⟨b,g,d,s,p⟩):
  codeAny (model m w) A (.call (.builtin "list.__getattribute__") ⟨[.ref a,.str "keys" s],[]⟩) c ⟨h,g,d,t,p⟩:=
 Zf F.slot_list_getattribute.plain F.entry_list_ga (F.slot_list_getattribute.check _ _ _ _ _ _ _ _ (⟨_,B,rfl⟩:(⟨h,g,d,t,p⟩:ZW).TypeIs (.ref a) "list") (F.args_list_getattribute_2 _ _) (QM B N Q))
def QK{E:ZG}(B:h.get? a=some {cls:=.type "list",data:=.seq l n})(N:A.handled=none)(O:∀b s e,Heap.NewAttrErr h b e (.ref a) "keys"->E (.ref e) ⟨b,g,d,s,p⟩):
  wpAny (model m w) A (getAttrBy (.ref a) (.str "keys" s) false) Q E ⟨h,g,d,t,p⟩:=by
 have R:(⟨h,g,d,t,p⟩:ZW).TypeIs (.ref a) "list":=⟨_,B,rfl⟩;have lK:=F.slot_list_getattribute.lookup;have sP:=F.slot_list_getattribute.bind (.ref a);have T:=sub_AttributeError;have c:=P0;repeat (any_goals (first|assumption|wp_step))
 refine QL B N λb V e f=>?_;obtain⟨k,X,H⟩:=f.there;unfold getattributeRaised;repeat (any_goals (first|assumption|wp_step))
 exact O _ _ _ f
def QJ{E:ZG}(B:h.get? a=some {cls:=.type "list",data:=.seq l n})(N:A.handled=none)(F:∀c s,(∀b y,h.get? b=some y->c.get? b=some y)->Q none ⟨c,g,d,s,p⟩):
  wpAny (model m w) A (getAttr? (.ref a) "keys") Q E ⟨h,g,d,t,p⟩:=by
 have T:=sub_AttributeError;unfold getAttr? getAttrBy?;refine W6 (wpAny_mkText ?_);refine W6 (wpAny_attempt (QK B N λc V e f=>?_));obtain⟨k,X,H⟩:=f.there;repeat (any_goals (first|assumption|wp_step))
 exact F _ _ f.keeps
end
def C':entryFor table "dict.update.loop"=some Builtin.«dict.update.loop»:=entryFor_of_tree rfl
def wW:plainId "dict.update.loop":=by decide+kernel
def R0{C:Prop}(e:kW c (x::r) d=some g)(q:∀a b y,x=.ay [a,b]->fQ c a=some y->kW c r (cU d y b)=some g->C):C:=by
 induction x using V.casesOn with
 |ay l=>match l,e with
  |[a,b],e=>
   have e:(match fQ c a with|some x=>kW c r (cU d x b)|none=>none)=some g:=e
   generalize h:fQ c a=N;induction N with
   |none=>rw[h] at e;exact ns e
   |some y=>rw[h] at e;exact q a b y rfl h e
 |_=>exact ns e
section
variable{c:cu}{X:Z}{w:aL}
def LF{K:Type} [DecidableEq K]{O:KeyKind c.X.prog c.X.w K}{n:K->aE}(kk:qD c.X G K O n){A:ZX}{a D I:ZP}{v:ZJ}(hi:A.handled=none)(neDI:D≠I)(hD0:w.h.get? D=none)(hI0:w.h.get? I=none)(fp:w.h.IsList a v.toArray){R:Result->ZN}{L:ZE}(q:∀h s m,c3 w.h h->h.DictOf O D m->b2 c.X w L (m.map λp=>(n p.1,p.2))->m.length<=b0->R (.ok (.ret .none)) (w.ab h s).s)(S:ZF):
  ∀(g:ZJ)(i:Nat)(B:Int)(P:ZQ)(s:Tok)(f:List (K×ZO))(d:ZE),kW G S d=some L->aK c.X w S g->v.drop i=g->c3 w.h P->P.IsListIter I a i->P.DictOf O D f->f.length+g.length<=b0->b2 c.X w d (f.map λp=>(n p.1,p.2))->
   codeAny (aae c) A (.builtin "dict.update.loop" ⟨[.ref D,.ref I,.int B 0,.none],[]⟩) R (w.ab P s).s:=by
 induction S with
 |nil=>
  intro g i B P s f d e r T F Y E X e2;have Z:P.IsList a v.toArray:=fp.at λH e=>F _ _ e;have hj:g=[]:=r.eh (q:=λg=>g=[]) rfl;have a':v.toArray[i]?=none:=by rw[List.getElem?_toArray];exact List.getElem?_eq_none (List.drop_eq_nil_iff.mp (T.trans hj))
  refine Zc C' ?_;rw[Around.under_plainId wW _];refine W6 (wpAny_pyNext_list_end hi Y Z a' λh fl=>?_);exact W6 (Xc (Xc (q h s f (λb H e=>fl b H (λz=>cj e (z▸hI0)) (F b H e)) (q5 E λH e=>fl D H neDI e) (b6 (p:=λL=>b2 c.X w L (f.map λp=>(n p.1,p.2))) e e2) (YK X))))
 |cons x S hr=>
  intro g i B P s f d e r T F Y E X e2;refine R0 e λN Q y hx0 f' fi=>?_;subst hx0;have Z:P.IsList a v.toArray:=fp.at λH e=>F _ _ e;refine r.dM (q:=λg=>v.drop i=g->f.length+g.length<=b0->_) (λu g hF kz T X=>?_) T X;have a':v.toArray[i]?=some u:=by have z:=W0 List.head? T;rw[List.head?_drop] at z;exact(List.getElem?_toArray)▸z
  have hd':v.drop (i+1)=g:=by rw[<-Zk,T];rfl
  obtain⟨t,k,j,C,t1,c',e1⟩:∃t k j,u=.ref t/\w.h.IsTuple t #[k,j]/\o c.X w N k/\o c.X w Q j:=hF.gr (p:=λu=>∃t k j,u=.ref t/\w.h.IsTuple t #[k,j]/\o c.X w N k/\o c.X w Q j) λt l _ C _ rs=>rs.dM (q:=λl=>w.h.IsTuple t l.toArray->∃J k j,Value.ref t=.ref J/\w.h.IsTuple J #[k,j]/\o c.X w N k/\o c.X w Q j) (λk l c' rs C=>rs.hR (q:=λl=>w.h.IsTuple t (k::l).toArray->∃J k j,Value.ref t=.ref J/\w.h.IsTuple J #[k,j]/\o c.X w N k/\o c.X w Q j) (λj e1 C=>⟨t,k,j,rfl,C,c',e1⟩) C) C;subst C;refine(kk.key f' c').elim λz fs=>?_;refine Zc C' ?_;rw[Around.under_plainId wW _];refine W6 (wpAny_pyNext_list_item Y Z a' λU hit1 sb1=>?_);have fv:c3 w.h U:=λb H e=>(sb1.2 b λz=>cj e (z▸hI0)).trans (F b H e);have t1':U.IsTuple t #[k,j]:=zQ t1 λH e=>fv _ _ e;have hm1:U.DictOf O D f:=q5 E λH e=>(sb1.2 D neDI).trans e;refine W6 (Yd ?_);refine W6 (wpAny_tryCatch ?_);unfold Builtin.Dict.pairItems;refine t1'.elim λl2 M=>M.2.2.elim λl1 hdt=>?_;refine W6 (wpAny_typeOf ⟨_,M.1,M.2.1⟩ ?_);rw[if_pos (by decide)]
  refine W6 (wpAny_seqItems M.1 hdt (Xc ?_));rw[Xx] at X;refine Yd (wpAny_dictSet_pairs fs.2 hm1 (λW hm2 sb2=>?_) (jA _ (YK X)));have k2:c3 w.h W:=λb H e=>(sb2.2 b λz=>cj e (z▸hD0)).trans (fv b H e);have hit2:W.IsListIter I a (i+1):=hit1.elim λH z=>⟨H,(sb2.2 I (Ne.symm neDI)).trans z.1,z.2⟩;have ln:(stored f z j).length<=f.length+1:=by have y:=W0 List.length (sD n z kk.eq j f (DictOf.wA E));rw[Xs] at y;rw[<-y,<-Xs (as:=f) (f:=λp=>(n p.1,p.2))];exact C3 _ _ _
  refine Xc ⟨plainId_quiet wW _,?_⟩;rw[fs.1] at fi;exact hr g (i+1) (B+1) W _ (stored f z j) _ fi kz hd' k2 hit2 hm2 (W5 (Xl ln _) (W5 (Xu (by rw[W9,Xa 1])) X)) (by exact(sD n z kk.eq j f (DictOf.wA E))▸e2.a5 (n z) e1)
def R1:yd:=λc X w V x m l d u t H I A T U=>mZ (p:=λm=>aR c (call (.type "dict") [m] []) X w (X.new (.ah V d 0)) (.ref X.n)) I.aH A U λa D g J W=>by
 have v:∀{K:Type} [DecidableEq K]{r:KeyKind c.X.prog c.X.w K}{s:K->aE},qD c.X V K r s->aR c (call (.type "dict") [.ref a] []) X w (X.new (.ah V d 0)) (.ref X.n):=λ{K _ r s} P Q E q=>by
  have h:w.h.get? (aah w.s)=none:=hp _;refine callType_codes (Q₁:=λi j=>i=.ref (aah w.s)/\j={w.s with heap:=w.s.heap.push aag}) F.kt_called_dict (F.kt_typeCall_dict_1 _) F.entry_dict_init (kt_code_dict_new _ ⟨rfl,rfl⟩) ?_
  rintro i j ⟨rfl,rfl⟩
  have R:(w.s.heap.push aag).DictOf r (aah w.s) []:=Heap.DictOf.new w.s.heap;have f:c3 w.h (w.s.heap.push aag):=c3.push _ _;have k:=g.at λo e=>f _ _ e;refine⟨R.typeIs,F.args_dict_init_2 _ _,?_⟩;unfold Builtin.«dict.__init__»;refine W6 ?_;unfold Builtin.Dict.selfAndRest;refine W6 (wpAny_notOrdered_dict R.typeIs ?_);refine Xc ?_;refine(?_:wpAny _ _ (Builtin.Dict.updateFrom "dict.__init__" (aah w.s) (.ref a) [] .none) ..);unfold Builtin.Dict.updateFrom;refine W6 (wpAny_typeOf k.isList.typeIs ?_);rw[if_pos (by decide)]
  refine k.elim λe1 n=>W6 (QJ n (H.bC:c.A.in1.handled=none) λN Z G=>?_);rw[if_pos (show(none:Z0 ZO).isNone=true from rfl)];have S:N.PlainList a D.toArray:=⟨_,G _ _ n⟩;refine W6 (wpAny_rule ?_);refine W6 (Zt S.isList ?_);have B:c3 N (N.push {cls:=.type "list_iterator",data:=.fields #[.ref a,.int 0 0]}):=c3.push _ _;have Y:w.h.get? N.objs.size=none:=by
   generalize e:w.h.get? N.objs.size=a';induction a' with|none=>rfl|some o=>exact absurd (XA (G _ _ (f _ _ e))) (Yj _)
  refine Xc ⟨plainId_quiet wW _,?_⟩;exact LF (w:=w) P (A:=c.A.in1) (H.bC:c.A.in1.handled=none) (Xi (XA (G _ _ (Heap.get?_push_size _ rfl)))) h Y g.isList (λc' tk4 acc L C M O=>(E9 (t:=tk4) I (.all I L) h (Hr t I) (λp _ e=>P.aO (by rw[e];exact C)) (by rw[Xs];exact O) M).elim λp z=>⟨rfl,by have y:=q p _ z.2.1 z.2.2;rw[z.1] at y;exact y⟩) l D 0 0 (N.push {cls:=.type "list_iterator",data:=.fields #[.ref a,.int 0 0]}) Z [] [] T W rfl (λb o e=>B _ _ (G _ _ (f _ _ e))) ⟨_,Heap.get?_push_size _ rfl,rfl,rfl⟩ (q5 R λo e=>B _ _ (G _ _ e)) (by rw[Yv,W7];exact J) .nil
 induction V with|I=>exact v (E0 c.X)|S=>exact v (E1 c.X)|T=>exact bb u
end
structure jD(n:Nat):Prop where
 e:∀e,bT n e
 t:∀e,Gt n e
 x:∀b,o2 n b
 w:∀t b,uF n t b
 c:∀B,nM n B
 m:∀c,xW n c
 l:uE n
def Js:jD 0:=⟨λ_ _ _ _ _ _ _ _ _ e=>ns (e:none=some _),λ_ _ _ _ _ _ _ _ _ _ _ e=>ns (e:none=some _),λ_ _ _ _ _ _ _ _ e=>ns (e:none=some _),λ_ _ _ _ _ _ _ _ _ _ e=>ns (e:none=some _),λ_ _ _ _ _ _ _ _ _ _ e=>ns (e:none=some _),λ_ _ _ _ _ _ _ _ _ e=>ns (e:none=some _),IF⟩
section
variable{n:Nat}
def uj(I:jD n)(b:S):jI n b:=by
 induction b using S.casesOn with
 |bY t e=>induction t with
  |F q=>exact IV I.e I.l
  |aS o a=>exact IU I.e
  |sub o i=>exact IW I.e
  |ay ns=>exact IX I.e
 |pe q F e=>exact IY I.e
 |expr e=>exact IZ I.e
 |ret e=>exact I3 I.e
 |ite t a b=>exact I1 (I.t t) I.x
 |iq t b=>exact I4 (I.w t b)
 |b5 d T b=>exact I0 I.e I.x
 |eF=>exact I2
 |hk=>exactλ_ _ _ _ _ _ _ e=>Internal.ns (e:none=some _)
def s7(I:jD n)(e:E):bT (n+1) e:=by
 induction e using E.casesOn with|lit=>exact Ir|d9=>exact Ip|F=>exact It|aS e a=>exact Ic (I.e e)|a7 F m a b=>exact Ig (I.e a) (I.e b)|c6 F a=>exact IC (I.e a)|aw F a b=>exact Ij (I.e a) (I.e b)|kx=>exact Ik I.e|bool=>exact Ih I.e|ite=>exact Iq I.e I.t|ay=>exact IB I.e|ae=>exact Iu I.e|ah=>exact Im I.e|sub a i=>exact IA (I.e a) (I.e i)|gn=>exact Iz I.e|oH m a=>exact Iy (I.e a)|call k f=>exact Ii I.e (I.c f)|bI a=>exact Io (I.e a)|new c=>exact Iw I.e (I.m c)|aC o g=>exact Iv I.e I.c|bq=>exact Ie R1 I.e|comp=>exact Il I.e I.t|k'=>exactλ_ _ _ _ _ _ _ _ _ o=>bb o
def NF(I:jD n)(e:E):Gt (n+1) e:=by
 induction e using E.casesOn with
 |aw F a b=>exact I9 (I.e a) (I.e b)
 |kx=>exact I' I.e
 |bool=>exact I8 I.t
 |ite=>exact Ja I.t
 |bI=>exactλ_ _ _ _ _ _ _ _ _ h=>bb h
 |k'=>exactλ_ _ _ _ _ _ _ _ _ _ _ _ o=>bb o
 |c6 F a=>induction F with
  |not=>exact Jb (I.t a)
  |_=>exact yk (s7 I _) λX k V x o=>rfl
 |comp g l d T B=>
  refine yk (s7 I _) λX k V x o=>?_;have K:=aN o;refine(?_:AI (match ma x with|some c=>_|none=>x)=true)
  generalize h:ma x=N;induction N with
  |none=>have K:=h▸K;exact bb K
  |some c=>rfl
 |_=>exact yk (s7 I _) λX k V x o=>rfl
def IG(I:jD n)(b:List S):o2 (n+1) b:=λc j i G k f w e o C=>by
 induction b with
 |nil=>exact bz (p:=λi G=>ha c (execs [] c.af) j.h w G i) e λQ E q=>Yl (q w .next ((aT.refl C.ag.aH).b7 C.ag) ⟨rfl,C.dc⟩)
 |cons p r=>
  have o:=hQ o;refine(?_:ha c (execs (cD iI (ke c.X k) (p::r) f) c.af) j.h w G i);refine hX▸?_;induction k with
  |zero=>exact bb o.1
  |succ k=>
   refine bK e λT V O e Q E q=>XM (uj I p c j T V k _ w O o.1 C _ E λa m l d=>?_);induction T with|ret v=>refine d.elim λg z=>?_;exact z.1▸bz (p:=λi G=>(∀B r,cO c j.h w G.h B->jF c B G.aj i r->Q r B.s)->Q (.ret g) a.s) e (λq=>q a (.ret g) l ⟨g,rfl,z.2⟩) q|next=>exact d.1▸(I.x r c V i G (k+1) _ a e o.2 ⟨C.ok,C.aM,C.dK,C.bU,C.ag.b7 l,d.2⟩).jf C.ag l q
def Jr(c:∀B a,BN n B a)(I:jD n):jD (n+1):=
 ⟨s7 I,NF I,IG I,λt b=>IH (I.t t) (I.x b) (I.w t b),λB=>II (c B) (I.c B),IJ I.e I.c,IE I.e I.t (s7 I)⟩
end
noncomputable def nL.dn{o:cn}{C:Nat}{M:cy}{j:r7}(U:nL o C M j)(u:ed)(J:ZX):cu:=⟨o,u,ksEnv j.qual j.scope u.L (o.di C) (.ref j.lE) j.jR,J⟩
section
variable{c:cu}{k n:Nat}{A:ZD}{X T:Z}{w B:aL}
set_option backward.match.sparseCases true in
def Mb{dE:aL->ZO->Prop}(O:g9 c.X){N:r7}(F:nL c.X f h N)(v:hZ c.X c.f)(M:d6 c.f c.A (cN c.X f+20))(I:aP c X w)(hlen:t.length=h.ak.length)
  (fp:∀q d,au l q=some d->∃r,(c.X.az q,r)∈(h.ak.map c.X.az).zip t/\o c.X w d r)
  (body:∀(P:ed)(i:ZX)(H:aL),bJ (F.dn P i) (cN c.X f) l X H->aT c X w X H->(∀b,hh P b->w.h.get? b=none)->
   ∀(Q:Flow->ZN)(E:ZG),(∀s L d,(∃m,Fr P.g P.L s.h m)->fm H s->(match L with|.ret d=>d|_=>.none)=d->dE s d->Q L s.s)->_root_.PySem.wpAt (aae c) i (.func N.body (F.dn P i).af) (execs N.body (F.dn P i).af) Q E H.s)
  (R:Result->ZN)(q:∀s d,(∀m,Fr c.f.g c.f.L w.h m->Fr c.f.g c.f.L s.h m)->fm w s->dE s d->R (.ok (.ret d)) s.s):codeAny (aae c) c.A (.call (.ref (c.X.di f)) ⟨t,[]⟩) R w.s:=by
 refine(I.aM).elim λm u=>?_;have hloc':∀y∈(h.ak.map c.X.az).zip t,N.scope.names.lookup y.1=some .local:=λy fs=>(Xz.mp (YI fs).1).elim λa z=>z.2▸eq_of_beq (Xb.mp F.Em a z.1);refine ks_code_super (K:=c.X.K) v.B u v.K jj v.T M.frames v.lW v.kind F.fy F.tb M.lt (kp_binds (v.K.keeps u.keep) λS=>F.dO S t hlen) hloc' (λg j C k T a' cK Z o' lt=>?_) F.zz F.tc F.tf F.hq;have fv:gw c.f.L w.h C:=by
  refine⟨λb B n e=>?_,k.ns.elim λB x=>x.elim λ_ x=>x.elim λ_ x=>⟨B,T.keep _ _ x.1⟩⟩;generalize V:c.f.g.get? b=hr;induction hr with|some hj=>exact WZ ((u.keep b hj V).symm.trans e)▸T.keep b _ (k.keep b _ V)|none=>exact(a' _ (ji.mpr ⟨e,n,V⟩)).1
 have U:=DM u k T λp X=>lt p X;have K:aT c X w X (w.ab C (w.s.toks+((h.ak.map c.X.az).zip t).length)):=.gU I fv (λhi G=>kU G.ns u.ns▸⟨k.ns.keeps T.keep,λb B e=>T.keep _ _ (k.keep b B e),k.above⟩) ⟨_,_,rfl⟩;have own:cY j X (w.ab C (w.s.toks+((h.ak.map c.X.az).zip t).length)):=⟨λz=>(I.aH.bI j z).1.elim λ_ e=>cj e (U j (Xe _)),λp A z=>I.aH.kT (U j (Xe _)) A z⟩
 let P:ed:=⟨g,j,c.f.bx::c.f.hS,c.f.base,c.A,ksEnv N.qual N.scope j (c.X.di f) (.ref N.lE) N.jR,λ_=>False⟩
 have W:∀x a,x≠eW->(ksEnv N.qual N.scope j (c.X.di f) (.ref N.lE) N.jR).cells.lookup x=some a->False:=λx a D e=>by have e:List.lookup x [(("__class__":ZV),N.jR)]=some a:=e;rw[Yq,show(x==("__class__":ZV))=false from beq_eq_false_iff_ne.mpr D] at e;exact cB e
 have Y:∀x a,(ksEnv N.qual N.scope j (c.X.di f) (.ref N.lE) N.jR).cells.lookup x=some a->x=eW/\a=N.jR:=λx a e=>by
  by_cases D:x=eW
  .subst D
   have e:List.lookup eW [(eW,N.jR)]=some a:=e;rw[Yq,beq_self_eq_true] at e;exact⟨rfl,(WZ e).symm⟩
  .exact(W x a D e).elim
 have D:=BJ O.az t F.th;refine body P (c.A.deeper (ksEnv N.qual N.scope j (c.X.di f) (.ref N.lE) N.jR)) (w.ab C (w.s.toks+((h.ak.map c.X.az).zip t).length))
  ⟨O,⟨cK,Z,o',rfl,F.hq⟩,M.EL rfl,⟨F.hq,rfl,rfl,.inl rfl,λx a D e=>(W x a D e).elim,λx y a e1 e2=>(Y x a e1).1.trans (Y y a e2).1.symm,λx a e=>by rw[(Y x a e).2];exact Xi (W4 (XA (Z _ _ F.zy)) T.above),λx e=>absurd rfl (F.zz _ (hM e))⟩,
   ⟨⟨_,T⟩,K.aH,own,λp A=>(I.aH.er A).elim λB e=>(a' _ (ji.mpr ⟨e,I.own.aX p A,I.new p A⟩)).2.2,λa z=>z.elim⟩,
   ⟨λq d _ e=>(fp q d e).elim λr z=>⟨r,.inl ⟨hloc' _ z.1,_,T.ns,wk (List.pairwise_map.mpr (List.pairwise_reverse.mpr (D.imp λz=>Ne.symm z))) (List.mem_reverse.mpr z.1)⟩,z.2.ext (I.ext K)⟩,⟨_,T.ns⟩,λx a D e=>(W x a D e).elim⟩⟩
  K (λb z=>U b (z.elim (λz=>Xu z.symm) λz=>z.elim)) _ _ λs L d J bc aD p=>?_
 exact J.elim λm'' J=>⟨j,m'',jh g j s.h,J,jj,λc' _=>by subst aD;exact q s _ (λhi G=>kU G.ns u.ns▸c') (.trans ⟨_,_,rfl⟩ bc) p⟩
end
section
variable{n:Nat}{T:ZD}{R Q:Z}{w B:aL}
def Kj(i:args.all e5)(c:args.length<=20)(d:(apos.endLine==pos.line)):
  eval (.Call (.Attribute a name apos) args [] pos) af=(do
   let b<-attributeBase a name af (eval a af)
   standAt apos.atName
   let(f,first)<-holding [b] (getMethod b name (do return (<-importBound a af).getD true))
   callWith pos f first (backTo pos (starEach args af)) []):=by
 rw[arm_eval_Call];have l:methodCallPos true a af apos pos=pure pos:=by unfold methodCallPos;simp [d]
 unfold methodCall;rw[FO i c];unfold calleeOf;rw[l]
 rfl
variable{X:cn}{N:Nat}{I:cy}{f:ed}{A:ZX}{H G:bD}{i:fG}
def UE{g:r7}(F:nL X N I g)(fv:∀e,bT n e)(hj:∀N,nM n N)(e:k9 (aD X.P X.N (n+1)) (.expr (.k' g.c g.self g.kC g.av)) ⟨T,R⟩=some (i,G))(C:bJ (F.dn f A) (cN X N) T R w){E:ZG}
  (q:∀B,i=.next->G.aj=T->aT (F.dn f A) R w G.h B->c .next B.s):
  _root_.PySem.wpAt (model X.prog X.w) A (.func g.body (F.dn f A).af) (exec (.Expr (.Call (.Attribute (.Call (.Name "super" g.bp) [] [] g.bk) "__init__" g.bf) (g.jC::g.bt) [] g.oC) g.wN) (F.dn f A).af) c E w.s:=by
 refine bK e λu h1 O e=>bR e λ_ e=>aA O λv ev' O=>aA O λp Q O=>aA O λo cK O=>?_;induction o with
 |ae=>exact ns O
 |ah=>exact ns O
 |ins d fs=>
  refine bR O λD O=>bK O λkz h2 e2 hi=>?_;have D:=W2 D;subst D;have hr:=uP Q;subst hr;have H:(F.dn f A).af.kindOf (X.az g.self)=some .local:=by exact F.zD▸F.zE
  refine(C.dc.get g.self _ (by show i0 _ (X.az g.self)=true;unfold i0;exact H▸rfl) ev').elim λnk z=>?_
  obtain⟨x,hF,Z⟩:=z.2.w2 (p:=λv=>∃x,v=.ref x/\w.G.aO p=some x) λa h=>⟨a,rfl,h⟩;obtain⟨lc,s,a',S⟩:=C.ag.aH.slot p _ cK;have ex:=WZ (S.1.symm.trans Z);subst ex;obtain⟨m,j⟩:=C.ag.aM;have hmx:m g.sa.arg=some (.ref s):=z.1.elim (λb=>b.2.elim λh' c'=>by have n1':w.h.Ns f.L h':=c'.1;exact(kU n1' j.ns)▸F.zD▸hF▸c'.2) λb=>b.2.1.elim (λk=>nomatch (H.symm.trans k)) λk=>nomatch (H.symm.trans k)
  obtain⟨kd',hfd⟩:=S.2.2.2.1;have lv:cT R p:=⟨_,cK⟩;have xL:s≠f.L:=λz=>C.ag.own.a0 (z▸S.2.1);have kd:w.G.aX p≠f.L:=C.ag.own.aX p lv;refine ks_wpAt_Expr_any (hi:=zL C.bU) (ks_wpAt_MethodCall (pl:=(do return (<-importBound (.Call (.Name "super" g.bp) [] [] g.bk) (F.dn f A).af).getD true)) ?_ ?_)
  .refine ks_node (K:=X.K) (h₀:=f.g) (L:=f.L) (m:=m) (news:=jh f.g f.L w.h) j C.aM.K jj C.aM.T F.fy F.Ed hmx (⟨S.2.2.1,rfl,rfl,hfd⟩:InstAt w.h s (instObj (X.cP g.c) (w.G.aX p)) (X.cP g.c) (some (dictOf a' kd'))) F.D' F.ED F.Eb F.zy F.D5 F.Eu F.Ew (show(("__init__":ZV)==("__class__":ZV))=false by decide+kernel) F.Ei F.vQ F.zE F.hq F.EC (by kernel_rfl) λb6 h1' L M l1=>?_
   have kb1:gw f.L w.h h1':=.AD j L M λp R=>.tail _ R;have Ia1:InstAt h1' s (instObj (X.cP g.c) (w.G.aX p)) (X.cP g.c) (some (dictOf a' kd')):=⟨kb1.keep _ _ xL S.2.2.1,rfl,rfl,kb1.keep _ _ kd hfd⟩;refine ks_method (K:=X.K) (h₀:=f.g) (L:=f.L) L C.aM.K M (.head _) Ia1 F.EA F.tg F.Ez (by decide+kernel) λr h2' fp P l2=>?_
   have gx:iv (F.dn f A) w h2':=.jx j fp P λp R=>.tail _ (.tail _ R);have U:aT (F.dn f A) R w R (w.ab h2' (w.s.toks+1)):=.gU C.ag gx.gU gx.aM ⟨_,_,rfl⟩;have J:=C.aF U;have l:=P _ (.head _);have kk:w.h.get? r=none:=by
    generalize z:w.h.get? r=k0;induction k0 with|none=>rfl|some o=>exact absurd (l2 _ (.tail _ (ji.mpr ⟨z,l.2.1,l.2.2⟩))) (Yj _)
   have Y:=yq (c:=F.dn f A) (pos:=g.oC) (L:=.ref r) (g:=g.jC::g.bt) fv e2 F.Ea (by show(cD ck (aJ X (cN X N)) g.av (g.jC::g.bt)).all e5=true;rw[F.zC];exact F.vS) J
   rw[show cD ck (aJ (F.dn f A).X (cN X N)) g.av (g.jC::g.bt)=g.jC::g.bt from F.zC] at Y;refine callWith_of (P:=MethP X.K r (X.di g.kC) (.ref s)) (by rw[oE F.vS];rfl) (keeps_M F.Ec) (Y _ E λfi k2 y t=>t.elim λvals t=>?_)
   refine t.1▸?_;have hq3:fi.h.get? r=some (methodObj (.ref (X.di g.kC)) (.ref s)):=y.step.keep r _ l.1 l.2.1 λmm mp z=>C.ag.aH.kT kk mp.e' z;have K:=J.aF y;refine⟨⟨hq3,K.lT⟩,YX (method_call hq3 ?_)⟩;have W:=U.trans C.ag y;refine hj g.kC (F.dn f A) .inl (V.ref p::kz) h2 u h1 fi (.ref s::vals) (λz=>nomatch z) hi C.ok C.aM (C.dK.jw F.Et) K.ag (.cons (.ref (W.step.aO _ _ Z)) t.2) _ λfl v4 f' _=>?_;exact bz (p:=λi G=>(∀B,i=.next->G.aj=T->aT (F.dn f A) R w G.h B->c .next B.s)->c .next fl.s) e (λq=>q fl rfl rfl (W.trans C.ag f')) q
  .exact Kj F.vS F.Ej F.El
def UA{d:r7}(F:nL X N I d)(p:∀c,c<=n->jD c)(h:List S):∀(a:List ZZ)(m:Nat)(T:ZD)(R:Z)(w:aL)(i:fG)(G:bD),m<=n->a.length=h.length->
  (aD X.P X.N m).x (h++.expr (.k' d.c d.self d.kC d.av)::d.post) ⟨T,R⟩=some (i,G)->l5 X (cN X N) (ic d.scope) h a->kc X (cN X N) h a=a->bJ (F.dn f A) (cN X N) T R w->
  ∀(b:Flow->ZN)(E:ZG),(∀B r,cO (F.dn f A) R w G.h B->jF (F.dn f A) B G.aj i r->b r B.s)->
   _root_.PySem.wpAt (model X.prog X.w) A (.func d.body (F.dn f A).af) (execs (a++.Expr (.Call (.Attribute (.Call (.Name "super" d.bp) [] [] d.bk) "__init__" d.bf) (d.jC::d.bt) [] d.oC) d.wN::d.m') (F.dn f A).af) b E w.s:=by
 induction h with
 |nil=>
  intro a m T R w i G D u e _ _ C b E q;induction a with
  |cons=>nomatch u
  |nil=>
   induction m with
   |zero=>exact ns e
   |succ m=>induction m with
    |zero=>exact ns (e:none=some (i,G))
    |succ m=>
     refine bK e λs g O e=>ks_wpAt_execs_cons (UE F (p m (XI (XI D))).e (p m (XI (XI D))).c O C λj Q U l=>?_);induction s with
     |ret v=>nomatch Q
     |next=>
     have e:=e;have P:bJ (F.dn f A) (cN X N) g.aj g.h j:=by exact U▸C.aF l
     have z:=(p (m+1) (XI D)).x d.post (F.dn f A) g i G (cN X N) d.m' j e F.Eo P;rw[show kc (F.dn f A).X (cN X N) d.post d.m'=d.m' from F.Ep] at z;exact wpAt_of_wpAny (z _ E λJ r x k=>q J r ((l.b7 C.ag).trans C.ag x) k)
 |cons M h cK=>
  intro a m T R w i G D u e a' L C b E q;induction a with
  |nil=>nomatch u
  |cons y t=>
   induction m with
   |zero=>exact ns e
   |succ m=>
    have o:=hQ a';have Y:=(XQ L).1;have hT2:=(XQ L).2;refine bK e λs g O e=>?_;have K:=uj (p m (XI D)) M (F.dn f A) ⟨T,R⟩ s g (39*X.P.kZ N+38) y w O o.1 C;rw[show ke (F.dn f A).X (39*X.P.kZ N+38+1) M y=y from Y] at K;refine ks_wpAt_execs_cons (wpAt_of_wpAny (K _ E λj c' l k=>?_));induction s with|ret v=>refine k.elim λH z=>?_;exact z.1▸bz (p:=λi G=>(∀B r,cO (F.dn f A) R w G.h B->jF (F.dn f A) B G.aj i r->b r B.s)->b (.ret H) j.s) e (λq=>q j (.ret H) l ⟨H,rfl,z.2⟩) q|next=>exact k.1▸cK t m g.aj g.h j i G (XI D) (Yr u) e o.2 hT2 ⟨C.ok,C.aM,C.dK,C.bU,C.ag.b7 l,k.2⟩ b E λJ r x W=>q J r (l.trans C.ag x) W
def Tf(m:(∃a,nL c.X N I a))(x:∀d,d<=n->jD d):yf n N I c:=λP R l v Q w Z e f O X K H J r=>m.elim λa F=>bR e λL e=>by
 have k:=W2 L;rw[dP,dP,dP,r.length,F.rl] at k;have e:=WZ e;subst e;refine bK f λi G f t A M=>?_;refine Mb (l:=jQ I.ak (U P I.d7)) (dE:=λs g=>bB c.X Q s/\cG R w Q s (iw c.f)/\o c.X s v g) O F K H J k (λq v e=>uY r (by rw[hg,F.rl,XB] at e;exact e)) (λY W V C B D y E q=>?_) A λs g j bc p=>M s g ⟨p.1,p.2.1,j,bc⟩ p.2.2
 rw[F.D8] at f;have z:=UA F x a.pre a.qc n _ R V i G (Xe n) F.Ek f F.Er F.Es C y E;rw[<-F.D9] at z;refine z λs r T h=>?_;have S:=B.step.mi J.aH T.step λb z=>.inr (D b z);induction i with|next=>have t:=Yh (WZ t);exact h.1▸q s .next .none T.aM T.dd rfl ⟨t.2▸T.aH,t.2▸S,t.1▸.none⟩|ret u=>have t:=Yh (WZ t);exact h.elim λg z=>z.1▸q s (.ret g) g T.aM T.dd rfl ⟨t.2▸T.aH,t.2▸S,t.1▸z.2⟩
def Jq(n:Nat):∀a,a<=n->jD a:=by
 induction n with|zero=>exactλa h=>Nat.le_zero.mp h▸Js|succ n S=>exactλa h=>(Yu h).elim (λz=>S a (XG z)) λz=>z▸Jr (λN I=>λc D R l v Q w t e f O b E H J r=>(O.fM N I b).elim (λF=>Tc F ((S n (Xe n)).x I.body) D R l v Q w t e f O b E H J r) λF=>Tf F S D R l v Q w t e f O b E H J r) (S n (Xe n))
def He(n:Nat):jD n:=Jq n n (Xe n)
end
end Mine.Internal
end
noncomputable section
open PySem PySem.W PyProof.Rows
namespace Mine.Internal
abbrev eb:Program:=aai (PySem.Challenge.pw_nn0422_01)
def mA:List ZZ:=behindTheImports eb
def DB:ZV:=aai (Str.ofString "/claim/cut.py")
def en(x:String)(t:Nat):ZO:=aai (.str (Str.ofString x) t)
def hD(i:Int):ZO:=aai (.int i 0)
def hx(D:ZJ):Obj:=aai ({cls:=.type "tuple",data:=.seq D.toArray 0})
def ox(D:ZJ):Obj:=aai ({cls:=.none,data:=.fields D.toArray})
def RD(f:FuncData):Obj:=aai ({cls:=.none,data:=.func f})
def RE(f:FuncData):Obj:=aai ({cls:=.type "function",data:=.func f})
def tT(n q:ZV)(t k:Nat)(e a c:Int)(g:Bool)(d f:Nat)(b sO y5 y6:ZO):Obj:=
 {cls:=.type "code",data:=.fields [.str n t,.str q (t+1),.str DB (t+2),.int e 0,.int a 0,.int 0 0,.int 0 0,.int c 0,.ref d,.bool g,.int 181 0,.ref f,b,sO,y5,y6,.int (Int.ofNat (t+3+k)) 0,.int e 0,.str DB (t+4+k)].toArray}
def xD(f:Nat)(O:List ZV):ZJ:=aai (O.rec (motive:=λ_=>Nat->ZJ) (λ_=>[]) (λx _ S t=>.str x t::S (t+1)) f)
noncomputable def OR:ZR->Bool
 |.local=>true
 |_=>false
noncomputable def OO:ZR->Bool
 |.free=>true
 |_=>false
def Fv(E:ZY):List ZV:=(E.names.filter λx=>OR x.2).map (·.1)
def DL(E:ZY):List ZV:=(E.names.filter λx=>OO x.2).map (·.1)
def Jw(a:Arguments):Int:=aai (Int.ofNat (a.posonlyargs.length+a.args.length))
def DF(n q:ZV)(c:Arguments)(b:List ZZ)(E:ZY)(a:Nat)(K g l i:ZO)(N:List (ZV×ZP)):FuncData:=aai ({name:=n,qualname:=q,params:=c,body:=.stmts b,scope:=E,globals:=a,closure:=N,defaults:=K,kwdefaults:=.none,pyModule:=g,code:=l,closureTuple:=i})
noncomputable def f9:ZZ->(ZV×Arguments×ZY×Pos)×List ZZ×List ZV
 |.FunctionDef n c b _ _ _ E _ _ X=>((n,c,E,X),b,[])
 |.ClassDef n _ _ b _ _ _ _ _ a X=>((n,default,default,X),b,a)
 |_=>default
def mF(h:Bool)(a t:Nat)(l:ZV)(g K:ZO)(N:List (ZV×ZP))(i:ZO)(s:ZZ):List Obj:=
 let q:=l++(f9 s).1.1
 let c:=(f9 s).1.2.1
 let b:=(f9 s).2.1
 let E:=(f9 s).1.2.2.1
 let D:=Fv E
 let P:=DL E
 let e:=Int.ofNat (f9 s).1.2.2.2.line
 let f:=if h then a+4 else a+2
 let k:=(if h then D.length else 0)+P.length
 (if h then [hx (xD (t+3) P),ox [],hx (xD (t+3+P.length) D),hx []]else [hx (xD (t+3) P),ox []])++
 [RD (DF (f9 s).1.1 q c b E 0 .none .none .none .none []),
  tT (f9 s).1.1 q t k e (Jw c) 3 true a (a+1) .none (if h then .ref (a+2)else .none) (if h then .ref (a+3)else .none) (.ref f),
  RE (DF (f9 s).1.1 q c b E 3 K g (.ref (f+1)) i N)]
def bh(P:ZT)(x:String)(t:Nat)(v:ZO):DictEntry:=aai ⟨PyData.keyHash P (Str.ofString x),.str (Str.ofString x) t,v⟩
def p8(G:List DictEntry)(n:Nat):Obj:=aai ({cls:=.type "dict",data:=.dict G.toArray n})
def wF(D:List (Z0 ZO)):Obj:=aai ({cls:=.type "frame",slots:=D.toArray})
def rF(D:ZJ):Obj:=aai ({cls:=.type "builtin_function_or_method",data:=.fields D.toArray})
def Az(D:ZJ):Obj:=aai ({cls:=.type "getset_descriptor",data:=.fields D.toArray})
def AA(c:ZP):Obj:=aai ({cls:=.type "super",data:=.fields [.ref c,.ref c,.ref c].toArray})
def Ay(n:ZV)(a b:ZJ)(ns:ZP)(f:ZJ)(c:List (Z0 ZO)):Obj:=aai ({cls:=.type "type",data:=.cls {name:=n,bases:=a,mro:=b,ns:=ns,qualname:=n,subclasses:=f},slots:=c.toArray})
def RC(v:Z0 ZO):Obj:=aai ({cls:=.type "cell",data:=.cell v})
def tk(O:List Obj):Nat->BT->BT:=aai (O.rec (λ_ t=>t) λo _ S i t=>S (i+1) (t.ins i o))
def ka(i:Nat):ZZ:=(mA[i]?).getD default
def ry(i j:Nat):ZZ:=((f9 (ka i)).2.1[j]?).getD default
def C6(O:List (Z0 Int)):Nat->ZJ×Nat:=aai (O.rec (λt=>([],t)) λx _ S t=>
  let u:=if x.any (·<0)then t+1 else t
  let z:=S (if x.isSome then u+1 else t)
  ((match x with|some i=>.int i u|none=>.none)::z.1,z.2))
def Ql(P:ZT)(l:ZV)(g:ZO)(q:ZK)(O:List ZZ):List (List (Z0 Int))->Nat->Nat->Nat->List DictEntry×ZJ×List Obj×Nat:=
 O.rec (λ_ _ _ t=>([],[],[],t)) λs _ S p j a t=>
  let d:=p.headD []
  let h:= !q.contains j
  let E:=(f9 s).1.2.2.1
  let k:=(C6 d t).2
  let u:=k+5+(if h then(Fv E).length else 0)+(DL E).length
  let b:=if d.isEmpty then a else a+1
  let e:=if h then b+6 else b+4
  let z:=S p.tail (j+1) (e+1) (u+1)
  (⟨PyData.keyHash P (f9 s).1.1,.str (f9 s).1.1 u,.ref e⟩::z.1,hD (Int.ofNat (f9 s).1.2.2.2.line)::hD 4::.ref (e-1)::z.2.1,(if d.isEmpty then []else [hx (C6 d t).1])++mF h b k l g (if d.isEmpty then .none else .ref a) [] .none s++z.2.2.1,z.2.2.2)
def pK(P:ZT)(i a t:Nat)(g:ZO)(B:Nat)(D:ZJ)(d:String)(f:ZJ)(p:List (List (Z0 Int)))(q:ZK):List Obj:=
 let n:=(f9 (ka i)).1.1
 let e:=Int.ofNat (f9 (ka i)).1.2.2.2.line
 let z:=Ql P (n++Str.ofString ".") g q ((f9 (ka i)).2.1.filter λs=> !(Nat.beq (f9 s).1.2.2.2.line 0)) p 0 (a+7) (t+10)
 let h:=Nat.beq B 0
 let c:=a+9+z.2.2.1.length
 let b:=(f9 (ka i)).2.2
 let u:=z.2.2.2+b.length
 let m:=bh P "__module__" (t+5) g
 let l:=bh P "__firstlineno__" (t+9) (.int e (t+8))::z.1++[bh P "__static_attributes__" u (.ref (c-2))]
 [hx (if h then []else [.ref B]),rF [.builtin "type.__prepare__",.type "type"],p8 (m::bh P "__qualname__" (t+7) (.str n (t+6))::l) (z.1.length+4),hx [],ox z.2.1,
  tT n n t 0 e 0 0 false (a+3) (a+4) .none .none .none .none,wF [some (.ref (a+5)),some (.ref 3),some (.ref (a+2)),none,some g,none,some (.ref 0)]]++z.2.2.1++
 [hx (xD z.2.2.2 b),p8 (m::l++if h then [bh P "__dict__" (u+2) (.ref (c+1)),bh P "__weakref__" (u+4) (.ref (c+2)),bh P "__doc__" (u+5) .none]else [bh P "__doc__" (u+1) .none]) (if h then 4 else 2),
  Ay n (if h then [.type "object"]else [.ref B]) (.ref c::D) (c-1) f [if h then none else some (.ref a),none,some (.str n (t-2)),some (.str n (t+6)),some (.builtin d),some (.bool true)]]++
 (if h then [Az [en "__dict__" (u+1),.ref c,.builtin "function.__dict__",.builtin "function.__dict__#set"],Az [en "__weakref__" (u+3),.ref c,.builtin "ExceptionGroup.__weakref__",.none]]else [])++
 [AA c,rF [.builtin "object.__init_subclass__",.ref c]]
def hL(P:ZT)(i a t:Nat)(g:ZO):=pK P i a t g 0 [.type "object"] "object.__new__"
def Ot:ZJ:=[en "__main__" 164,en "grammarmill.source" 194,en "grammarmill.tables" 341,en "grammarmill.nodes" 736,en "grammarmill.driver" 935,en "grammarmill.grammar" 1341,en "grammarmill.analysis" 1498,en "grammarmill.lrzero" 1523,en "grammarmill.trees" 1812,en "law_nn0422_01" 1852]
def b3(i:Nat):ZO:=(Ot[i]?).getD .none
def d3(f:Bool)(a t:Nat)(m:ZO)(k:Nat):List Obj:=mF f a t (Str.ofString "") m .none [] .none (ka k)
def yO(P:ZT)(c a b:ZJ):List (List Obj):=[d3 true 15 187 (b3 0) 0,
 [],
 [hx [.type "Exception"],rF [.builtin "type.__prepare__",.type "type"],p8 [bh P "__module__" 203 (b3 1),bh P "__qualname__" 205 (en "ToolError" 204),bh P "__firstlineno__" 207 (.int (5) 206),bh P "__init__" 216 (.ref 36),bh P "told" 223 (.ref 43),bh P "__static_attributes__" 226 (.ref 44)] 6,hx [],ox [hD 7,hD 4,.ref 35,hD 12,hD 4,.ref 42],tT (Str.ofString "ToolError") (Str.ofString "ToolError") 198 0 5 0 0 false 25 26 (.none) (.none) (.none) (.none),wF [some (.ref 27),some (.ref 3),some (.ref 24),none,some (b3 1),none,some (.ref 0)],hx [.none]]++mF true 30 208 (Str.ofString "ToolError.") (b3 1) (.ref 29) [] (.none) (ry 2 0)++mF true 37 217 (Str.ofString "ToolError.") (b3 1) (.none) [] (.none) (ry 2 1)++[hx [en "at" 224,en "what" 225],p8 [bh P "__module__" 203 (b3 1),bh P "__firstlineno__" 207 (.int (5) 206),bh P "__init__" 216 (.ref 36),bh P "told" 223 (.ref 43),bh P "__static_attributes__" 226 (.ref 44),bh P "__weakref__" 228 (.ref 47),bh P "__doc__" 229 (.none)] 3,Ay (Str.ofString "ToolError") [.type "Exception"] [.ref 46,.type "Exception",.type "BaseException",.type "object"] 45 c [some (.ref 22),none,some (en "ToolError" 196),some (en "ToolError" 204),some (.builtin "Exception.__new__"),some (.bool true)],Az [en "__weakref__" 227,.ref 46,.builtin "ExceptionGroup.__weakref__",.none],AA 46,rF [.builtin "object.__init_subclass__",.ref 46]],
 pK P 3 50 236 (b3 1) 46 [.ref 46,.type "Exception",.type "BaseException",.type "object"] "Exception.__new__" [] [] [],
 pK P 4 62 252 (b3 1) 46 [.ref 46,.type "Exception",.type "BaseException",.type "object"] "Exception.__new__" [] [] [],
 pK P 5 74 268 (b3 1) 46 [.ref 46,.type "Exception",.type "BaseException",.type "object"] "Exception.__new__" [] [] [],
 hL P 6 86 284 (b3 1) [] [[none]] [],
 d3 true 122 331 (b3 1) 7,
 [],
 [],
 [],
 [],
 [],
 [],
 hL P 14 129 360 (b3 2) a [] [],
 hL P 15 227 495 (b3 2) [] [] [],
 [hx [.ref 222],rF [.builtin "type.__prepare__",.type "type"],p8 [bh P "__module__" 544 (b3 2),bh P "__qualname__" 546 (en "ParseTables" 545),bh P "__firstlineno__" 548 (.int (123) 547),bh P "__init__" 555 (.ref 268),bh P "state_count" 562 (.ref 275),bh P "explicit" 571 (.ref 282),bh P "goto" 580 (.ref 289),bh P "__static_attributes__" 588 (.ref 290),bh P "__classcell__" 589 (.ref 258)] 9,RC (some (.ref 292)),hx [],ox [hD 125,hD 4,.ref 267,hD 138,hD 4,.ref 274,hD 141,hD 4,.ref 281,hD 144,hD 4,.ref 288],tT (Str.ofString "ParseTables") (Str.ofString "ParseTables") 539 0 123 0 0 false 259 260 (.none) (.none) (.none) (.none),wF [some (.ref 261),some (.ref 3),some (.ref 257),none,some (b3 2),none,some (.ref 0)],hx [.ref 258]]++mF false 264 549 (Str.ofString "ParseTables.") (b3 2) (.none) [(Str.ofString "__class__",258)] (.ref 263) (ry 16 0)++mF true 269 556 (Str.ofString "ParseTables.") (b3 2) (.none) [] (.none) (ry 16 1)++mF true 276 563 (Str.ofString "ParseTables.") (b3 2) (.none) [] (.none) (ry 16 2)++mF true 283 572 (Str.ofString "ParseTables.") (b3 2) (.none) [] (.none) (ry 16 3)++[hx [en "conflicts" 581,en "defaults" 582,en "gotos" 583,en "grammar" 584,en "mode" 585,en "rows" 586,en "settled" 587],p8 [bh P "__module__" 544 (b3 2),bh P "__firstlineno__" 548 (.int (123) 547),bh P "__init__" 555 (.ref 268),bh P "state_count" 562 (.ref 275),bh P "explicit" 571 (.ref 282),bh P "goto" 580 (.ref 289),bh P "__static_attributes__" 588 (.ref 290),bh P "__doc__" 590 (.none)] 3,Ay (Str.ofString "ParseTables") [.ref 222] [.ref 292,.ref 222,.type "object"] 291 [] [some (.ref 255),none,some (en "ParseTables" 537),some (en "ParseTables" 545),some (.builtin "object.__new__"),some (.bool true)],AA 292,rF [.builtin "object.__init_subclass__",.ref 292]],
 d3 true 295 593 (b3 2) 17,
 hL P 18 302 606 (b3 2) [] [] [4],
 d3 true 349 680 (b3 2) 19,
 d3 false 356 691 (b3 2) 20,
 [hx [en "lalr" 697]]++mF true 362 698 (Str.ofString "") (b3 2) (.ref 361) [] (.none) (ka 21),
 d3 true 369 717 (b3 2) 22,
 d3 true 376 726 (b3 2) 23,
 [],
 hL P 25 383 740 (b3 3) b [] [4,5],
 pK P 26 449 823 (b3 3) 444 [.ref 444,.type "object"] "object.__new__" [] [] [],
 d3 true 482 863 (b3 3) 27,
 hL P 28 489 876 (b3 3) [] [] [],
 d3 false 531 929 (b3 3) 29,
 [],
 [],
 [],
 hL P 33 536 943 (b3 4) [] [] [],
 hL P 34 571 988 (b3 4) [] [[some (-1)]] [],
 hL P 35 607 1039 (b3 4) [] [] [],
 hL P 36 635 1081 (b3 4) [] [] [],
 hL P 37 663 1119 (b3 4) [] [[none,some (5000)]] [20],
 d3 true 830 1333 (b3 4) 38,
 [],
 hL P 40 837 1345 (b3 5) [] [[some (-1),none,some (0),some (0)]] [],
 hL P 41 859 1390 (b3 5) [] [] [0],
 [],
 d3 false 941 1500 (b3 6) 43,
 d3 true 946 1506 (b3 6) 44,
 d3 true 953 1513 (b3 6) 45,
 [],
 [],
 hL P 48 960 1530 (b3 7) [] [] [],
 hL P 49 995 1581 (b3 7) [] [] [],
 d3 true 1037 1642 (b3 7) 50,
 d3 true 1044 1650 (b3 7) 51,
 d3 true 1051 1662 (b3 7) 52,
 hL P 53 1058 1674 (b3 7) [] [] [],
 hL P 54 1114 1748 (b3 7) [] [] [],
 d3 true 1156 1805 (b3 7) 55,
 [],
 d3 false 1163 1814 (b3 8) 57,
 d3 true 1168 1820 (b3 8) 58,
 d3 true 1175 1837 (b3 8) 59,
 [],
 d3 false 1182 1854 (b3 9) 61,
 d3 true 1187 1860 (b3 9) 62,
 d3 true 1194 1869 (b3 9) 63,
 d3 false 1201 1877 (b3 9) 64,
 d3 false 1206 1883 (b3 9) 65,
 d3 true 1211 1889 (b3 9) 66,
 d3 false 1218 1901 (b3 9) 67,
 d3 false 1223 1907 (b3 9) 68,
 d3 false 1228 1913 (b3 9) 69,
 d3 true 1233 1919 (b3 9) 70,
 d3 true 1240 1928 (b3 9) 71,
 d3 true 1247 1939 (b3 9) 72,
 d3 false 1254 1946 (b3 9) 73]
def yM(P:ZT)(r g l:Obj):List Obj:=[boot_o_0 P,boot_o_1 P,r,g,boot_o_4 P,boot_o_5 P,boot_o_6 P,boot_o_7 P,boot_o_8 P,boot_o_9 P,boot_o_10 P,hx [],l,tT (Str.ofString "<module>") (Str.ofString "<module>") 182 0 1 0 0 false 11 12 (.none) (.none) (.none) (.none),wF [some (.ref 13),some (.ref 3),some (.ref 3),none,some (en "__main__" 164),none,some (.ref 0)]]
def Nk(P:ZT):List DictEntry:=[bh P "__doc__" 166 (.none),bh P "__package__" 167 (.none),bh P "__loader__" 168 (.builtin "__main__.__loader__#opaque"),bh P "__spec__" 169 (.none),bh P "__annotations__" 170 (.ref 6),bh P "__builtins__" 171 (.ref 4),bh P "__file__" 173 (en "/claim/cut.py" 172),bh P "__cached__" 174 (.none),bh P "_wall" 193 (.ref 21),bh P "ToolError" 233 (.ref 46),bh P "GrammarError" 249 (.ref 59),bh P "TableError" 265 (.ref 71),bh P "ParseError" 281 (.ref 83),bh P "Token" 330 (.ref 117),bh P "bits" 340 (.ref 128),bh P "ACCEPT" 346 (.int (1048576) 345),bh P "BARRED" 351 (.int (-1048576) 350),bh P "END" 353 (.int (0) 352),bh P "ERROR_tables" 355 (.int (1) 354),bh P "UNDEFINED_tables" 357 (.int (2) 356),bh P "Tables" 492 (.ref 222),bh P "Conflict" 536 (.ref 250),bh P "ParseTables" 592 (.ref 292),bh P "settle" 603 (.ref 301),bh P "RowMaker" 679 (.ref 344),bh P "default_of" 690 (.ref 355),bh P "without" 696 (.ref 360),bh P "fill" 716 (.ref 368),bh P "conflict_counts" 725 (.ref 375),bh P "checked" 735 (.ref 382),bh P "Tree" 820 (.ref 444),bh P "Leaf" 862 (.ref 479),bh P "postorder" 873 (.ref 488),bh P "TreeHandler" 928 (.ref 526),bh P "left_names" 934 (.ref 535),bh P "ERROR_driver" 938 (.int (1) 937),bh P "UNDEFINED_driver" 940 (.int (2) 939),bh P "Handler" 985 (.ref 566),bh P "Fault" 1036 (.ref 602),bh P "Outcome" 1078 (.ref 630),bh P "TokenRow" 1116 (.ref 658),bh P "Core" 1332 (.ref 825),bh P "parse_tree" 1340 (.ref 836),bh P "Rule" 1387 (.ref 854),bh P "Grammar" 1497 (.ref 936),bh P "spread" 1505 (.ref 945),bh P "nullable" 1512 (.ref 952),bh P "transitive" 1522 (.ref 959),bh P "NONE" 1527 (.int (-1) 1526),bh P "LrState" 1578 (.ref 990),bh P "Closer" 1641 (.ref 1032),bh P "advanced" 1649 (.ref 1043),bh P "kernels_behind" 1661 (.ref 1050),bh P "complete_rules" 1671 (.ref 1057),bh P "Automaton" 1745 (.ref 1109),bh P "Builder" 1804 (.ref 1151),bh P "build" 1811 (.ref 1162),bh P "unit_order" 1819 (.ref 1167),bh P "ways" 1836 (.ref 1174),bh P "count_trees" 1851 (.ref 1181),bh P "_law_pen" 1859 (.ref 1186),bh P "_law_draw" 1868 (.ref 1193),bh P "_law_pick" 1876 (.ref 1200),bh P "_law_world" 1882 (.ref 1205),bh P "_law_grammar" 1888 (.ref 1210),bh P "_law_way" 1900 (.ref 1217),bh P "_law_due" 1906 (.ref 1222),bh P "_law_trees" 1912 (.ref 1227),bh P "_law_is_settled" 1918 (.ref 1232),bh P "_law_told" 1927 (.ref 1239),bh P "_law_word" 1938 (.ref 1246),bh P "_law_is_let" 1945 (.ref 1253),bh P "law" 1951 (.ref 1258)]
def z0:ZJ:=[(1,20),(5,27),(16,55),(18,67),(20,79),(22,91),(35,127),(51,134),(112,232),(123,261),(146,300),(162,307),(225,354),(237,359),(239,367),(260,374),(266,381),(276,388),(310,454),(323,487),(332,494),(348,534),(353,541),(363,576),(376,612),(386,640),(399,668),(520,835),(523,842),(533,864),(580,944),(606,951),(608,958),(617,965),(634,1000),(663,1042),(665,1049),(677,1056),(683,1063),(708,1119),(736,1161),(739,1166),(761,1173),(774,1180),(787,1185),(789,1192),(796,1199),(798,1204),(813,1209),(825,1216),(834,1221),(844,1226),(858,1231),(876,1238),(883,1245),(895,1252),(900,1257)].flatMap λ(x:Nat×Nat)=>[hD (Int.ofNat x.1),hD 0,.ref x.2]
def zi(P:ZT)(e n:Nat)(v:ZO):Obj:=p8 (bh P "__name__" 165 v::(Nk P).take e) n
def yF(P:ZT):Obj:={cls:=.none,data:=.dict [bh P "type.__subclasses__.Exception.0" 230 (hD 46),bh P "type.__subclasses__.Exception.n" 231 (hD 1)].toArray 2}
def To(w:ZS)(p:OsState)(k n d:Nat)(g l r:Obj)(c a b:ZJ):SharedT:=⟨tk (yM w.params r g l++((yO w.params c a b).take k).flatten) 0 .nil,n,(boot_heap w.params).life,Array.mk [],boot_drawn,d,p⟩
def mx:Z0 ZO:=aai (some (.ref 6))
def sF:Env:={scope:=eb.main.scope,locals:=mainNs,globals:=mainNs,cells:=[],code:=.ref 13,frame:=some 14}
def pw:Code:=.body mA sF
def t6:Pos:=aai ⟨0,0,0,0⟩
def Gq:Pos:=aai ⟨0,0,0,0⟩
def Sf:Pos:=aai ⟨0,0,0,0⟩
def Sr:List ZK:=aai [[0,15,187,8,0,0,0,0,0,301,0,0,0,0,3,9175],[3,50,234,10,6,1,0,0,0,214,5,0,15,29,1,8874],[4,62,250,11,9,1,1,0,0,214,16,0,17,8,1,8660],[5,74,266,12,12,1,2,0,0,214,18,0,19,8,1,8446],[6,86,282,13,15,1,3,0,0,395,20,0,21,8,8,8232],[14,129,358,20,21,2,3,0,0,593,50,0,50,16,1,7837],[15,227,493,21,24,2,3,0,0,262,51,0,111,19,1,7244],[16,255,537,22,27,2,3,0,0,394,112,0,122,77,2,6982],[18,302,604,24,33,2,3,1,0,397,146,0,161,15,2,6588],[20,356,691,26,39,2,3,1,0,142,225,0,236,15,5,6191],[25,383,738,30,51,3,3,1,0,441,275,0,275,8,1,6049],[26,449,821,31,54,3,3,1,0,344,276,0,309,16,2,5608],[28,489,874,33,60,3,3,1,1,374,323,0,331,22,5,5264],[33,536,941,37,66,4,3,1,1,287,352,0,352,16,1,4890],[34,571,986,38,69,4,3,1,1,298,353,0,362,16,1,4603],[35,607,1037,39,72,4,3,1,1,260,363,0,375,16,1,4305],[36,635,1079,40,75,4,3,1,1,256,376,0,385,17,1,4045],[37,663,1117,41,78,4,3,1,1,913,386,0,398,20,1,3789],[38,830,1333,42,81,4,3,1,1,283,399,0,519,36,3,2876],[41,859,1388,44,87,5,3,1,1,518,523,0,532,28,1,2593],[42,941,1498,45,90,5,3,1,1,120,533,0,578,53,6,2075],[48,960,1528,49,99,7,3,1,1,293,616,0,616,4,1,1955],[49,995,1579,50,102,7,3,1,1,393,617,0,633,61,3,1662],[52,1051,1662,53,111,7,3,1,1,33,665,0,676,18,1,1269],[53,1058,1672,54,114,7,3,1,1,388,677,0,682,24,1,1236],[54,1114,1746,55,117,7,3,1,1,389,683,0,707,17,4,848],[58,1168,1820,58,126,8,3,1,1,401,739,0,760,16,14,459],[72,1247,1939,71,165,9,3,1,1,56,883,0,894,15,2,58],[74,1259,1952,73,171,9,3,1,1,0,900,0,927,15,0,2]]
def ek(j c:Nat):Nat:=(((Sr[j]?).getD [])[c]?).getD 0
def k8(w:ZS)(p:OsState)(j:Nat):SharedT:=To w p (ek j 0) (ek j 1) (ek j 2) (zi w.params (ek j 3) (ek j 3+1) (b3 (ek j 5))) (ox (z0.take (ek j 4))) (bif Nat.beq j 0 then boot_o_2 w.params else yF w.params) ([.ref 59,.ref 71,.ref 83].take (ek j 6)) ([.ref 292].take (ek j 7)) ([.ref 479].take (ek j 8))
def vR(j:Nat):Pos:=⟨ek j 10,ek j 11,ek j 12,ek j 13⟩
def ep(w:ZS)(j:Nat):Prop:=(λp=>Fast.tw10110043849684766642 Fast.tw14364793385576792824 eb w 11 mx 1 (ek j 9) (k8 w p j) (piecesOf ((mA.drop (ek j 0)).take (ek j 14)) sF pw (vR j) [topFrame t6]))=λp=>some (.next,k8 w p (j+1),pw,vR (j+1))
def NQ(w:ZS):ep w 0:=by show _=_;kernel_rfl
def NR(w:ZS):ep w 1:=by show _=_;kernel_rfl
def N2(w:ZS):ep w 2:=by show _=_;kernel_rfl
def Oa(w:ZS):ep w 3:=by show _=_;kernel_rfl
def Ob(w:ZS):ep w 4:=by show _=_;kernel_rfl
def Oc(w:ZS):ep w 5:=by show _=_;kernel_rfl
def Od(w:ZS):ep w 6:=by show _=_;kernel_rfl
def Oe(w:ZS):ep w 7:=by show _=_;kernel_rfl
def Of(w:ZS):ep w 8:=by show _=_;kernel_rfl
def Og(w:ZS):ep w 9:=by show _=_;kernel_rfl
def NS(w:ZS):ep w 10:=by show _=_;kernel_rfl
def NT(w:ZS):ep w 11:=by show _=_;kernel_rfl
def NU(w:ZS):ep w 12:=by show _=_;kernel_rfl
def NV(w:ZS):ep w 13:=by show _=_;kernel_rfl
def NW(w:ZS):ep w 14:=by show _=_;kernel_rfl
def NX(w:ZS):ep w 15:=by show _=_;kernel_rfl
def NY(w:ZS):ep w 16:=by show _=_;kernel_rfl
def NZ(w:ZS):ep w 17:=by show _=_;kernel_rfl
def N0(w:ZS):ep w 18:=by show _=_;kernel_rfl
def N1(w:ZS):ep w 19:=by show _=_;kernel_rfl
def N3(w:ZS):ep w 20:=by show _=_;kernel_rfl
def N4(w:ZS):ep w 21:=by show _=_;kernel_rfl
def N5(w:ZS):ep w 22:=by show _=_;kernel_rfl
def N6(w:ZS):ep w 23:=by show _=_;kernel_rfl
def N7(w:ZS):ep w 24:=by show _=_;kernel_rfl
def N8(w:ZS):ep w 25:=by show _=_;kernel_rfl
def N9(w:ZS):ep w 26:=by show _=_;kernel_rfl
def N'(w:ZS):ep w 27:=by show _=_;kernel_rfl
def Si(w:ZS):(λp=>topGo treeTable eb w 11 mx 12 ⟨boot_heap w.params,Array.mk [],boot_drawn,boot_toks,p⟩ (topStub eb))=λp=>some ((k8 w p 0).abs,⟨denote treeTable (.body mA sF),pw,Gq,[topFrame t6]⟩):=by
 rw[Fast.te15667345088766844465,Fast.te14364793385576792824,Fast.te11892475500146522536]
 kernel_rfl
def J7(w:ZS):(λp=>segRunT treeTable eb w 11 mx 1 1 (k8 w p 0) (blockOf mA sF pw Gq [topFrame t6]))=λp=>some (.next,k8 w p 0,pw,Sf):=by
 rw[Fast.te10110043849684766642,Fast.te14364793385576792824]
 kernel_rfl
def MP(w:ZS):(λp=>topRun treeTable eb w 11 mx 2 (k8 w p 28).abs ⟨doneF .next,pw,vR 28,[topFrame t6]⟩)=λp=>some (k8 w p 28).abs:=by
 rw[Fast.te14082659384304107361,Fast.te14364793385576792824]
 kernel_rfl
def uH(w:ZS)(p:OsState)(j:Nat):Prop:=topRun treeTable eb w 11 mx (ek j 15) (k8 w p j).abs (restOf (mA.drop (ek j 0)) sF pw (vR j) [topFrame t6])=some (k8 w p 28).abs
def eK{w:ZS}{p:OsState}{j:Nat}(h:ep w j)(e:ek j 0+ek j 14=ek (j+1) 0)(f:ek j 15=ek j 9+ek (j+1) 15)(k:uH w p (j+1)):uH w p j:=by
 unfold ep at h;rw[<-Fast.te10110043849684766642,<-Fast.te14364793385576792824] at h;unfold uH at k⊢;rw[<-e] at k;rw[f];have:=piece_app (rest:=(mA.drop (ek j 0)).drop (ek j 14)) (segRun_of (Ym h p)) (by rw[Zk];exact k)
 rwa [Y9] at this
def L9:mA.drop 74=[]:=by kernel_rfl
def Tg(w:ZS)(p:OsState):topRun treeTable eb w 11 mx (12+(1+ek 0 15)) ⟨boot_heap w.params,Array.mk [],boot_drawn,boot_toks,p⟩ (topStub eb)=some (k8 w p 28).abs:=
 go_top (Ym (Si w) p) (piece_block (segRun_of (Ym (J7 w) p)) (show uH w p 0 from (eK (NQ w) rfl rfl (eK (NR w) rfl rfl (eK (N2 w) rfl rfl (eK (Oa w) rfl rfl (eK (Ob w) rfl rfl (eK (Oc w) rfl rfl (eK (Od w) rfl rfl (eK (Oe w) rfl rfl (eK (Of w) rfl rfl (eK (Og w) rfl rfl (eK (NS w) rfl rfl (eK (NT w) rfl rfl (eK (NU w) rfl rfl (eK (NV w) rfl rfl (eK (NW w) rfl rfl (eK (NX w) rfl rfl (eK (NY w) rfl rfl (eK (NZ w) rfl rfl (eK (N0 w) rfl rfl (eK (N1 w) rfl rfl (eK (N3 w) rfl rfl (eK (N4 w) rfl rfl (eK (N5 w) rfl rfl (eK (N6 w) rfl rfl (eK (N7 w) rfl rfl (eK (N8 w) rfl rfl (eK (N9 w) rfl rfl (eK (N' w) rfl rfl (show topRun treeTable eb w 11 mx 2 _ (restOf (mA.drop 74) _ _ _ _)=_ from L9▸piece_nil (Ym (MP w) p))))))))))))))))))))))))))))))))
def ej:Program:={eb with main:={eb.main with body:=[ka 73]}}
def kR:List ZV:=aai (["_wall","ToolError","GrammarError","TableError","ParseError","Token","bits","ACCEPT","BARRED","END","ERROR_tables","UNDEFINED_tables","Tables","Conflict","ParseTables","settle","RowMaker","default_of","without","fill","conflict_counts","checked","Tree","Leaf","postorder","TreeHandler","left_names","ERROR_driver","UNDEFINED_driver","Handler","Fault","Outcome","TokenRow","Core","parse_tree","Rule","Grammar","spread","nullable","transitive","NONE","LrState","Closer","advanced","kernels_behind","complete_rules","Automaton","Builder","build","unit_order","ways","count_trees","_law_pen","_law_draw","_law_pick","_law_world","_law_grammar","_law_way","_law_due","_law_trees","_law_is_settled","_law_told","_law_word","_law_is_let"].map Str.ofString)
def mn(P:ZT):ZQ:=absHeap (tk (yM P (yF P) (zi P 73 74 (b3 (ek 28 5))) (ox (z0.take 171))++((yO P [.ref 59,.ref 71,.ref 83] [.ref 292] [.ref 479]).take 74).flatten) 0 .nil) 1259 (boot_heap P).life
def Ug(w:ZS):(λp=>some (k8 w p 28).abs)=λp=>some ⟨mn w.params,Array.mk [],boot_drawn,1952,p⟩:=by kernel_rfl
def RQ:∀w:ZS,(fencedOpening treeTable eb w 20000).map (λs=>(s.heap,s.gens,s.drawn,s.toks))=some (boot_heap w.params,Array.mk [],boot_drawn,boot_toks):=
 boot_open (by rfl) (by rfl) (λ_=>rfl)
def T2(w:ZS):((boot_heap w.params).isNs mainGlobals&&(Array.mk ([]:List GenState)).size==0,(boot_heap w.params).objs.size,(boot_heap w.params).nsMap mainGlobals "__annotations__")=(true,11,mx):=by kernel_rfl
abbrev w8:OpenLaw:=aai (PySem.Challenge.rw_nn0422_01)
abbrev hA(w:ZS)(p:OsState):ZW:=⟨mn w.params,Array.mk [],boot_drawn,1952,p⟩
def PS(w:ZS):(λp=>(staticsOk (importedModules eb.main.body) (boot_heap w.params) (mn w.params)&&namesBound eb (mn w.params)&&gensDone (hA w p)&&laidKept (boot_heap w.params) (mn w.params)))=λ_=>true:=by kernel_rfl
def PT(w:ZS):(λp=>seen ((recsOf ej).map (·.name)) (ownsOf ej) [] {(hA w p)with gens:=#[]})=λ_=>expectedOf ej:=by kernel_rfl
def PU(w:ZS):(λp=>(hA w p).heap.bltView)=λ_=>bltViewBooted:=by kernel_rfl
def PV(w:ZS):(λp=>(hA w p).heap.keysOk (looseW ej kR) ((recsOf ej).map (·.name)) ((litsOf ej).map (·.1)) ((clssOf ej (looseW ej kR)).map (·.name))&&(hA w p).heap.accountedOkI (importedModules eb.main.body)&&(hA w p).heap.isNs mainGlobals&&(hA w p).heap.isNs builtinsNs&&tablesOk ej (hA w p).heap&&(xlAt ej [] (hA w p)&&recOk (RowW.records (OpenLaw.row w8).toRowW) (hA w p))&&(if true then(hA w p).gens.size==0 else !leftWithCleanup (hA w p).gens))=λ_=>true:=by kernel_rfl
def zW(w:ZS):(λp=>tabsOk ej (hA w p))=λ_=>true:=by kernel_rfl
def zX(w:ZS):(λp=>pinSeenD ej (drecsOf ej) (hA w p))=λ_=>pinGoodD (drecsOf ej):=by kernel_rfl
def PW(w:ZS):(λp=>plainSeenE ej (looseW ej kR) (hA w p))=λ_=>plainGoodE ej (looseW ej kR):=by kernel_rfl
def PX(w:ZS):(λp=>plainSeenD ej kR (hA w p))=λ_=>plainGoodD ej kR:=by kernel_rfl
def PY(w:ZS):(λp=>wideSeen ej (hA w p))=λ_=>wideGood ej:=by kernel_rfl
def PZ(w:ZS):(λp=>clsSeenW ej kR (hA w p))=λ_=>clsGoodW ej kR:=by kernel_rfl
def lZ(x:a=A)(y:b=c):(a,b)=(A,c):=by rw[x,y]
abbrev Jd(s:ZW):Bool:=xlAt ej [] s&&recOk (RowW.records (OpenLaw.row w8).toRowW) s
def Te(w:ZS)(p:OsState):topRun treeTable eb w 11 mx 9200 ⟨boot_heap w.params,Array.mk [],boot_drawn,boot_toks,p⟩ (topStub eb)=some ⟨mn w.params,Array.mk [],boot_drawn,1952,p⟩:=by have:=Tg w p;rw[Ym (Ug w) p] at this;have z:=topRun_mono (9200-(12+(1+ek 0 15))) _ _ _ _ this;exact z
def Px:LeftO eb ej kR Jd Shared.heap (λw=>mn w.params) 20000:=
 LeftO.of_pieces RQ T2 Te (by rfl) λw=>funext λp=>lZ (Ym (PS w) p) (lZ (lZ (Ym (PT w) p) (lZ (Ym (PU w) p) (lZ (Ym (PV w) p) (lZ (Ym (zW w) p) (lZ (Ym (zX w) p) (lZ (Ym (PW w) p) (lZ (Ym (PX w) p) (lZ (Ym (PY w) p) (Ym (PZ w) p))))))))) rfl)
abbrev nq:OpenRow:=OpenLaw.row w8
def CT:DefRec:=⟨Str.ofString "law",(f9 (ka 73)).1.2.1,(f9 (ka 73)).2.1,(f9 (ka 73)).1.2.2.1,(f9 (ka 73)).1.2.2.2⟩
def LI:(chainsOk ej&&opensWell nq.prog&&(frees nq.toRowW&&nq.within.isEmpty)):=by kernel_rfl
def LH:nq.prog.bare:=⟨rfl,rfl,rfl,rfl,rfl,by decide+kernel⟩
abbrev BQ(w:ZS)(h:ZQ):Prop:=∀b o,(mn w.params).get? b=some o->h.get? b=some o
def Ov(i:nq.wellSaid)(g:nq.toRowW.promised)(d:WalkO ej kR (XL ej []) BQ nq.toRowW CT [] λf c=>PySem.call f c):nq.Holds:=
 holds_open Px (λw s e b o h=>by rw[e];exact h) (λw h S a k b o e=>k b o (a b o e)) (λs e=>xl_of s (Xy.mp e).1) XL.keeps (by kernel_rfl) (by kernel_rfl) (by kernel_rfl) (λs e=>recFacts_of (Xy.mp e).2) (by rfl) i LI LH g d
end Mine.Internal
end
noncomputable section
open PySem PySem.W PySem.Calls PyProof.Rows
namespace Mine.Internal
def Dx:ZK:=aai [21,36,43,100,107,114,128,142,149,156,163,170,177,184,191,198,205,212,219,240,247,268,275,282,289,301,315,322,329,336,341,355,360,368,375,382,396,403,410,417,422,427,434,441,462,469,476,488,502,509,516,523,535,549,556,563,585,592,599,620,627,648,655,677,684,691,698,705,712,719,726,733,740,747,754,761,768,775,782,789,796,803,810,815,822,836,851,870,877,884,891,898,905,912,919,926,933,945,952,959,973,980,987,1008,1015,1022,1029,1043,1050,1057,1071,1078,1085,1092,1099,1106,1127,1134,1141,1148,1162,1167,1174,1181,1186,1193,1200,1205,1210,1217,1222,1227,1232,1239,1246,1253,1258]
def iV:ZK:=aai [117,117,117,117,117,222,250,292,344,444,479,526,566,602,630,658,825,854,936,990,1032,1109,1151]
def p2(l:ZK)(i:Nat):Nat:=match a3 l i with|some x=>x|none=>0
def gD(i:Nat):Nat:=p2 Dx (match au Mz i with|some j=>j|none=>i)
noncomputable def l7:ZK->Nat->List Obj->Frag
 |a::r,i,o::s=>match Nat.beq a i with
  |true=>(a,o)::l7 r (i+1) s
  |false=>l7 (a::r) (i+1) s
 |_,_,_=>[]
def EZ(l:ZK):ZK:=aai (l.flatMap λa=>[a-1,a])
def p9(P:ZT):List Obj:=yM P (yF P) (zi P 73 74 (b3 (ek 28 5))) (ox (z0.take 171))++((yO P [.ref 59,.ref 71,.ref 83] [.ref 292] [.ref 479]).take 74).flatten
def bH(P:ZT):Frag:=U (l7 [2,3] 0 (p9 P)) (U (l7 (EZ (iV.drop 5)) 0 (p9 P)) (U (l7 [29,45,46,58,59,93,258,361,578,670,844] 0 (p9 P)) (U (l7 [116,117] 0 (p9 P)) (l7 (EZ Dx) 0 (p9 P)))))
def p4:List ZV:=Rj.map Str.ofString
def e4(n:Nat):ZV:=match a3 p4 n with
 |some s=>s
 |none=>j [0,n]
def aZ(O:Nat->ZF->Z0 V)(w:ZS)(T:hc):cn where
 prog:=eb
 w:=w
 K:=bH w.params
 az:=e4
 cP:=p2 iV
 di:=gD
 jV:=λs=>(nsIn (bH w.params) mainGlobals s).join
 i1:=23
 l3:=187
 P:=⟨rf.get,n0.get,vv,O⟩
 N:=gx
 T:=T
def xV(n:Nat)(t:BT):Prop:=∀i,(t.get i).isSome=true↔i<n
def Lu(i:Nat):(2*i+1) % 2=1:=(Nat.mul_add_mod 2 i 1).trans rfl
def Lv(i:Nat):¬(2*i+2) % 2=1:=λe=>absurd ((Nat.mul_add_mod 2 i 2).symm.trans e:2 % 2=1) (by decide)
def Oo(i:Nat):(2*i+1)/2=i:=Nat.mul_add_div (by decide) i 1
def Oq(i:Nat):(2*i+2)/2-1=i:=W0 (·-1) (Nat.mul_add_div (m:=2) (by decide) i 2)
def CU{i k j:Nat}:2*i+j<2*k+j↔i<k:=Nat.add_lt_add_iff_right.trans (Nat.mul_lt_mul_left (by decide))
def RF{i n:Nat}(h:n % 2=1):2*i+1<n↔i<n/2:=by have e:=XU n 2;rw[h] at e;generalize n/2=k at e⊢;exact e▸CU
def Mg{i n:Nat}(x:n≠0)(h:n % 2=0):2*i+2<n↔i<n/2-1:=by
 have e:=XU n 2;rw[h] at e;generalize n/2=k at e⊢;induction k with|zero=>exact absurd e.symm x|succ k=>exact e▸CU (j:=2)
def M6(t:BT):∀{a:Nat},xV a t->((t.ins a H).get a).isSome:=by
 induction t with
 |nil=>
  intro a h;induction a with
  |zero=>rfl
  |succ a=>nomatch (h 0).mpr (Xk a)
 |node v l r m Q=>
  intro a h;rw[BT.ins_node]
  by_cases x:a=0
  .rw[if_pos x,BT.get_node,if_pos x];rfl
  .rw[if_neg x]
   by_cases P:a % 2=1
   .rw[if_pos P,BT.get_node,if_neg x,if_pos P]
    refine m λi=>?_;have z:=h (2*i+1);rw[BT.get_node,if_neg (YO _),if_pos (Lu i),Oo] at z;exact z.trans (RF P)
   .rw[if_neg P,BT.get_node,if_neg x,if_neg P]
    refine Q λi=>?_;have z:=h (2*i+2);rw[BT.get_node,if_neg (YO _),if_neg (Lv i),Oq] at z;exact z.trans (Mg x ((Nat.mod_two_eq_zero_or_one a).resolve_right P))
def OH(l:List Obj):∀{a:Nat}{t:BT},xV a t->∀{i:Nat}{H:Obj},a3 l i=some H->(tk l a t).get (a+i)=some H/\∀B,B<a->(tk l a t).get B=t.get B:=by
 induction l with
 |nil=>exactλ_ _ _ e=>cB e
 |cons x r S=>
  intro a t h i H e;have g:=BT.get_ins x t a (M6 t h);have f:xV (a+1) (t.ins a x):=λB=>by
   rw[g]
   by_cases q:B=a
   .rw[if_pos q,q];exact⟨λ_=>Xh _,λ_=>rfl⟩
   .rw[if_neg q,h];lia
  have F:∀B,B<a+1->(tk r (a+1) (t.ins a x)).get B=(t.ins a x).get B:=by
   induction r with|nil=>exactλ_ _=>rfl|cons y s=>exact(S f (i:=0) rfl).2
  refine⟨?_,λB P=>(F B (XH P)).trans (by rw[g,if_neg (Xi P)])⟩
  induction i with
  |zero=>exact(F a (Xh _)).trans (by rw[g,if_pos rfl];exact e)
  |succ i=>
   have z:=(S f e).1
   rwa [show a+1+i=a+(i+1) from by lia] at z
def t4{a:Nat}{o:Obj}(L:List Obj):∀{l:ZK}{i:Nat},(a,o)∈l7 l i L->∃B,a=i+B/\a3 L B=some o:=by
 induction L with
 |nil=>exactλ{l i} h=>by induction l<;>exact eu h
 |cons x s S=>
  intro l i h;induction l with
  |nil=>exact eu h
  |cons b r=>
   have h:(a,o)∈(match Nat.beq b i with|true=>(b,x)::l7 r (i+1) s|false=>l7 (b::r) (i+1) s):=h
   have D:(∃B,a=i+1+B/\a3 s B=some o)->∃B,a=i+B/\a3 (x::s) B=some o:=λz=>z.elim λB z=>⟨B+1,by rw[z.1,W9,Xa 1],z.2⟩
   generalize q:Nat.beq b i=N;induction N with
   |false=>rw[q] at h;exact D (S h)
   |true=>
    rw[q] at h;cases h with
    |head=>exact⟨0,W2 q,rfl⟩
    |tail _ h=>exact D (S h)
def IK(P:ZT):((bH P).all λp=>Nat.blt p.1 1259&& !p.2.isFreed):=by kernel_rfl
def Qh{α β:Type} [BEq α] [LawfulBEq α]{a:α}{b:β}(l:List (α×β))(h:l.lookup a=some b):(a,b)∈l:=by
 induction l with
 |nil=>exact cB h
 |cons x r S=>
  rw[show x=(x.1,x.2) from rfl,Yq] at h;cases q:a==x.1 with
  |false=>rw[q] at h;exact .tail _ (S h)
  |true=>rw[q] at h;rw[show(a,b)=x from Prod.ext (beq_iff_eq.mp q) (WZ h).symm];exact .head _
def IL{h:ZQ}(H:∀b f,(mn P).get? b=some f->h.get? b=some f):(bH P).In h:=by
 intro a f e;refine H a f ?_;have m:=Qh _ e;have g:=Xy.mp (Xb.mp (IK P) _ m);have z:∃j,a=0+j/\a3 (p9 P) j=some f:=by
  unfold bH at m;rw[hg,hg,hg,hg] at m;rcases XF.mp m with m|m
  .exact t4 _ m
  rcases XF.mp m with m|m
  .exact t4 _ m
  rcases XF.mp m with m|m
  .exact t4 _ m
  exact(XF.mp m).elim (t4 _) (t4 _)
 refine z.elim λj z=>?_;have y:=(OH (p9 P) (a:=0) (t:=.nil) (λi=>⟨λh=>(bb h),λh=>absurd h (Yk _)⟩) z.2).1;rw[<-z.1] at y;refine(abs_get (WY g.1) y).trans ?_;have k:=g.2;unfold alive;induction f with
 |mk c d R q=>induction R<;>first|rfl|exact bb k
def yo{p:Nat->Bool}{n:Nat}(h:(List.range n).all p){i:Nat}(A:i<n):p i:=Xb.mp h i (List.mem_range.mpr A)
def KY(K:Frag)(a:Nat):Bool:=hasDictIn K a&&(plainOver K a&&(makesIn K a&&(List.range 187).all λx=>uU K a (e4 x)))
def K0(P:ZT):((iV.drop 4).all λa=>KY (bH P) a):=by kernel_rfl
def K2(P:ZT):((iV.drop 4).map λa=>(findIn (bH P) (.ref a) "__getattribute__",findIn (bH P) (.ref a) "__getattr__",findIn (bH P) (.ref a) "__setattr__"))=(iV.drop 4).map λ_=>(some (some (.builtin "object.__getattribute__")),some none,some (some (.builtin "object.__setattr__"))):=by kernel_rfl
def K5(P:ZT):((iV.drop 4).map λa=>(List.range 187).map λx=>takerIn (bH P) a (e4 x))=(iV.drop 4).map λ_=>(List.range 187).map λ_=>some none:=by kernel_rfl
noncomputable def mJ{α:Type}:bo α->List (Nat×α)
 |.nil=>[]
 |.node v l r=>U (match v with|some x=>[(0,x)]|none=>[]) (U ((mJ l).map λp=>(2*p.1+1,p.2)) ((mJ r).map λp=>(2*p.1+2,p.2)))
def Sg(n:i≠0)(m:i % 2=0):2*(i/2-1)+2=i:=by
 have h:=XU i 2;rw[m] at h;generalize i/2=k at h⊢;induction k with|zero=>exact absurd h.symm n|succ k=>exact h
def pC(t:bo α):∀{i:Nat},t.get i=some x->(i,x)∈mJ t:=by
 induction t with
 |nil=>exactλh=>cB h
 |node v l r m Q=>
  intro i h;have h:(match Nat.beq i 0 with|true=>v|false=>match Nat.beq (i % 2) 1 with|true=>l.get (i/2)|false=>r.get (i/2-1))=some x:=h
  refine(?_:_∈U _ _);rw[hg,hg];generalize d:Nat.beq i 0=N;induction N with
  |true=>rw[d] at h;have h:v=some x:=h;rw[W2 d,h];exact XX _ (.head _)
  |false=>
   rw[d] at h;refine XC _ ?_;generalize k:Nat.beq (i % 2) 1=N;induction N with|true=>rw[k] at h;have e:=XU i 2;rw[W2 k] at e;exact XX _ (Xz.mpr ⟨(i/2,x),m h,Prod.ext e rfl⟩)|false=>rw[k] at h;exact XC _ (Xz.mpr ⟨(i/2-1,x),Q h,Prod.ext (Sg (iT d) (sH (iT k))) rfl⟩)
def m5{α β:Type}{f g:α->β}{l:List α}(h:l.map f=l.map g){x:α}(m:x∈l):f x=g x:=List.map_inj_left.mp h x m
def mS(s:ZV):Nat:=aai (match s.cps.toList with
 |c::_=>c
 |[]=>0)
def Rk:p5 p4:=rfl
def Rl:(p4.all λs=> !(Nat.beq (mS s) 0)&&(!(Nat.beq (mS s) 46)&& !(Nat.beq (mS s) 95))):=rfl
def F9(l:List α):∀{i:Nat},a3 l i=l[i]?:=by
 induction l with
 |nil=>exactλ{i}=>by induction i<;>rfl
 |cons x r S=>exactλ{i}=>by induction i with|zero=>rfl|succ i=>exact S
def Ar(e:mS (e4 b)=c):c≠46/\c≠95/\(c=0->∃a,e4 b=j [0,a]/\a=b):=by
 unfold e4 at e⊢;generalize q:a3 p4 b=N;induction N with
 |none=>rw[q] at e;exact e▸⟨(λz:0=46=>nomatch z),(λz:0=95=>nomatch z),λ_=>⟨b,rfl,rfl⟩⟩
 |some s=>
  rw[q] at e;have z:=Xy.mp (Xb.mp Rl s (List.mem_of_getElem? ((F9 _).symm.trans q)));have y:=Xy.mp z.2;have D:∀{a:Nat},(!(Nat.beq (mS s) a))->c≠a:=λh g=>by rw[e,g,Xn] at h;exact bb h
  exact⟨D y.1,D y.2,λg=>absurd g (D z.1)⟩
def Rg(a b:Nat)(e:e4 a=e4 b):a=b:=by
 by_cases z:mS (e4 a)=0
 .obtain⟨k,P,N⟩:=(Ar (b:=a) rfl).2.2 z
  obtain⟨B,x,f⟩:=(Ar (b:=b) rfl).2.2 (e▸z);have q:=P.symm.trans (e.trans x);have q:k=B:=by injection q with q;injection q with q;injection q with _ q;injection q
  exact N▸f▸q▸rfl
 .unfold e4 at e z
  have p:∀{n:Nat},mS (match a3 p4 n with|some s=>s|none=>j [0,n])≠0->∃s,a3 p4 n=some s:=λ{n} h=>by
   generalize q:a3 p4 n=c;induction c with|none=>rw[q] at h;exact absurd rfl h|some s=>exact⟨s,rfl⟩
  refine(p z).elim λs i=>?_;refine(p (e▸z)).elim λt V=>?_;rw[i,V] at e;have e:=e;subst e;rw[F9] at i V;exact(List.getElem?_inj (List.getElem?_eq_some_iff.mp i).1 (tO Rk)).mp (i.trans V.symm)
def F4(h:mS s=46\/mS s=95):e4 a≠s:=λe=>by have z:=Ar (b:=a) rfl;rw[e] at z;exact h.elim z.1 z.2.1
def Fy(l:List (Nat×α))(h:au l a=some b):(a,b)∈l:=by
 induction l with
 |nil=>exact cB h
 |cons x r S=>
  have h:(match Nat.beq x.1 a with|true=>some x.2|false=>au r a)=some b:=h
  generalize q:Nat.beq x.1 a=N;induction N with|false=>rw[q] at h;exact .tail _ (S h)|true=>rw[q] at h;rw[show(a,b)=x from Prod.ext (W2 q).symm (WZ h).symm];exact .head _
def OC:ZL->Z0 (Z0 ZO)
 |none=>some (some (.builtin "object.__init__"))
 |some i=>some (some (.ref (gD i)))
def KW(K:Frag)(p:Nat×ja):Bool:=Nat.blt p.1 23&&(keepIn K (.ref (p2 iV p.1))&&((match p.2.init with|none=>true|some i=>isFn K (.ref (gD i)))&&p.2.kS.all λq=>Nat.blt q.1 187&&(isFn K (.ref (gD q.2))&&keepIn K (.ref (gD q.2)))))
def CG(P:ZT):((mJ n0).all (KW (bH P))):=by kernel_rfl
def KX(P:ZT):((mJ n0).map λp=>(findIn (bH P) (.ref (p2 iV p.1)) "__init__",p.2.kS.map λq=>findIn (bH P) (.ref (p2 iV p.1)) (e4 q.1)))=(mJ n0).map λp=>(OC p.2.init,p.2.kS.map λq=>some (some (.ref (gD q.2)))):=by kernel_rfl
def KZ{O:Nat->ZF->Z0 V}(c:Nat)(k:ja)(h:n0.get c=some k):xR (aZ O w T) c k:=by
 have m:=pC _ h;have b:=Xb.mp (CG w.params) _ m;have e:=Yh (m5 (KX w.params) m);refine⟨WY (aN b),aN (ar b),?_,λx i B=>?_⟩
 .have b:=aN (ar (ar b))
  have e:=e.1;show match k.init with|none=>_|some i=>_
  generalize q:k.init=N;induction N with|none=>rw[q] at e;exact e|some i=>rw[q] at e b;exact⟨e,b⟩
 .have y:=Fy _ B
  have b:=Xb.mp (ar (ar (ar b))) _ y;exact⟨m5 e.2 y,aN (ar b),WY (aN b)⟩
def O4{w:ZS}(c:Nat)(k:ja)(x i:Nat)(h:n0.get c=some k)(B:au k.kS x=some i):keepIn (bH w.params) (.ref (gD i)):=
 ar (ar (Xb.mp (ar (ar (ar (Xb.mp (CG w.params) _ (pC _ h))))) _ (Fy _ B)))
def U9(P:ZT):(qN.map λx=>nsIn (bH P) mainGlobals x)=qN.map λ_=>some none:=rfl
def U'{O:Nat->ZF->Z0 V}:BP (aZ O w T):=⟨λx v h=>by
 have h:(nsIn (bH w.params) mainGlobals x).join=some v:=h;show nsIn (bH w.params) mainGlobals x=some (some v);generalize q:nsIn (bH w.params) mainGlobals x=N;induction N with|none=>rw[q] at h;exact cB h|some o=>rw[q] at h;exact W0 some h,λx m=>m5 (U9 w.params) m⟩
def QH{O:Nat->ZF->Z0 V}:kn (aZ O w T):=by constructor<;>kernel_rfl
def K4{O:Nat->ZF->Z0 V}(c:Nat)(h:c<23):BK (aZ O w T) c:=by
 have m:p2 iV c∈iV.drop 4:=by have z:((List.range 23).all λc=>(iV.drop 4).contains (p2 iV c)):=rfl;exact Y8.mp (yo z h)
 have b:=Xb.mp (K0 w.params) _ m;have f:=Yh (m5 (K2 w.params) m);have lK:=Yh f.2;exact⟨f.1,lK.1,lK.2,aN b,aN (ar b),λa h=>yo (ar (ar (ar b))) h,λa h=>m5 (m5 (K5 w.params) m) (List.mem_range.mpr h),aN (ar (ar b))⟩
def Ri{O:Nat->ZF->Z0 V}:lq (aZ O w T):=⟨Rg,K4,λ_=>F4 (.inl rfl),λ_=>F4 (.inr rfl)⟩
def pG(K:Frag)(i:Nat):Obj:=(K.lookup (gD i)).getD default
def gS(K:Frag)(i:Nat):FuncData:=match(pG K i).data with
 |.func f=>f
 |_=>default
def kD(f:FuncData):List ZZ:=aai (match f.body with
 |.stmts b=>b
 |_=>[])
def Dw(f:FuncData):FuncData:=fnOf f.name f.qualname f.params (kD f) f.scope f.defaults f.kwdefaults f.doc f.pyModule f.annotations f.code f.closureTuple
def LX(K:Frag)(f:FuncData)(n:Nat):ZJ:=aai (match f.defaults with
 |.ref t=>match K.lookup t with
  |some o=>match o.data with
   |.seq O _=>O.toList.drop (O.toList.length-n)
   |_=>[]
  |none=>[]
 |_=>[])
noncomputable def t8:ZF->ZJ->Bool
 |[],[]=>true
 |.none::r,.none::s=>t8 r s
 |.int i::r,.int j _::s=>dr i j&&t8 r s
 |.str i::r,.str j _::s=>Wz i j&&t8 r s
 |_,_=>false
def SN(l:ZF):∀{m:ZJ},t8 l m->aK X w l m:=by
 induction l with
 |nil=>exactλ{m} h=>by cases m with
  |nil=>exact .nil
  |cons=>exact bb h
 |cons x r S=>
  intro m h;cases m with
  |nil=>cases x<;>exact bb h
  |cons v s=>
   cases x with
   |none=>cases v with
    |none=>exact .cons .none (S h)
    |_=>exact bb h
   |int i=>cases v with
    |int j t=>exact .cons (mU.mp (aN h)▸.int) (S (ar h))
    |_=>exact bb h
   |str i=>cases v with
    |str j t=>exact .cons (k4.mp (aN h)▸.str) (S (ar h))
    |_=>exact bb h
   |_=>exact bb h
def n6:List (Nat×cy):=(mJ rf).filter λp=> !(Nat.beq p.1 21)
def oc:List (Nat×ZK×ZF):=U [(135,[74],[]),(35,[74],[]),(1,[6,186,7],[.none])] (n6.map λp=>(p.1,p.2.ak,p.2.d7))
abbrev rd(K:Frag)(p:Nat×ZK×ZF):ZJ:=LX K (gS K p.1) (Wx p.2.2)
abbrev vB(K:Frag)(p:Nat×ZK×ZF):Nat:=p.2.1.length-(rd K p).length
def MY(P:ZT):(oc.map λp=>(bH P).lookup (gD p.1))=oc.map λp=>some ⟨(pG (bH P) p.1).cls,(pG (bH P) p.1).dict,.func (Dw (gS (bH P) p.1)),(pG (bH P) p.1).slots⟩:=by kernel_rfl
def JT(P:ZT)(v:Nat->ZO)(S:Setting):(oc.map λp=>peek (bH P) S (bindArgs (Dw (gS (bH P) p.1)) ⟨(List.range (vB (bH P) p)).map v,[]⟩))=oc.map λp=>some ((p.2.1.map e4).zip ((List.range (vB (bH P) p)).map v++rd (bH P) p)):=by kernel_rfl
def MU(K:Frag)(p:Nat×ZK×ZF):Bool:=
 let f:=gS K p.1
 codeIn K f.code f.qualname&&(t8 p.2.2 (rd K p)&&((p.2.1.all λq=>ic f.scope (e4 q)==some .local||ic f.scope (e4 q)==some .cell)&&(p5 ((cellsFrom 0 f.scope.names []).map (·.1))&&(decide p.2.1.Nodup&&((match f.scope.kind with|.function=>true|_=>false)&&(!f.scope.isCoroutine&&(!f.scope.isGenerator&&(keepIn K (.ref (gD p.1))&&isFn K (.ref (gD p.1))))))))))
def DG(P:ZT):(oc.all (MU (bH P))):=by kernel_rfl
def MW(O:Nat->ZF->Z0 V)(w:ZS)(T:hc):(n6.all λp=>l5 (aZ O w T) (cN (aZ O w T) p.1) (ic (gS (bH w.params) p.1).scope) p.2.body (kD (gS (bH w.params) p.1))):=by kernel_rfl
def MX(O:Nat->ZF->Z0 V)(w:ZS)(T:hc):(n6.map λp=>kc (aZ O w T) (cN (aZ O w T) p.1) p.2.body (kD (gS (bH w.params) p.1)))=n6.map λp=>kD (gS (bH w.params) p.1):=by kernel_rfl
def HP(t:ZJ):(List.range t.length).map (λi=>(t[i]?).getD .none)=t:=by
 refine List.ext_getElem? λi=>?_;refine(List.getElem?_map)▸?_
 by_cases h:i<t.length
 .rw[List.getElem?_range h,Option.map_some,List.getElem?_eq_getElem h];rfl
 .rw[List.getElem?_eq_none (by exact List.length_range▸YP h),List.getElem?_eq_none (YP h),Option.map_none]
def vN(O:Nat->ZF->Z0 V)(w:ZS)(T:hc)(p:Nat×ZK×ZF)(m:p∈oc):∃N,xU (aZ O w T) p.1 p.2.1 p.2.2 N/\N.body=kD (gS (bH w.params) p.1)/\N.scope=(gS (bH w.params) p.1).scope/\N.iW=rd (bH w.params) p:=by
 have b:=Xb.mp (DG w.params) p m;have g:=ar b;have r:=ar g;have d:=ar r;have l:=ar d;have n:=ar l;have c:=ar n;have e:=ar c;have a:=ar e;refine⟨⟨_,_,_,_,_,_,_,_,_,_,_,_,_,_,_,rd (bH w.params) p⟩,⟨m5 (MY w.params) m,aN b,λS t f=>?_,λW=>SN _ (aN g),aN r,tO (aN d),of_decide_eq_true (aN l),WI (aN c),WI (aN e),?_,aN a,ar a⟩,rfl,rfl,rfl⟩
 .have f:=f
  have z:=m5 (JT w.params (λi=>(t[i]?).getD .none) S) m;have q:vB (bH w.params) p=t.length:=by unfold vB;rw[<-f,YV]
  rw[q,HP] at z;exact z
 .have k:=aN n
  generalize(gS (bH w.params) p.1).scope.kind=x at k⊢;induction x<;>first|rfl|exact bb k
def DH(m:p∈n6):(p.1,p.2.ak,p.2.d7)∈oc:=by unfold oc;rw[hg];exact XC _ (Xz.mpr ⟨p,m,rfl⟩)
def zd(O:Nat->ZF->Z0 V)(w:ZS)(T:hc)(p:Nat×cy)(m:p∈n6):(∃N,o1 (aZ O w T) p.1 p.2 N):=by obtain⟨N,F,e,f,_⟩:=vN O w T _ (DH m);exact⟨N,⟨F,by exact e▸f▸Xb.mp (MW O w T) p m,by exact e▸m5 (MX O w T) m⟩⟩
def Uz(y:ZZ):ZU×List ZU×Pos×Pos×Pos×Pos×Pos:=((cR (bZ y 0)).getD 1 ck,(cR (bZ y 0)).drop 2,(ax (ax (ax (bZ y 0) 0) 0) 0).pos,(ax (ax (bZ y 0) 0) 0).pos,(ax (bZ y 0) 0).pos,(bZ y 0).pos,y.pos)
def fe(P:ZT):FuncData:=gS (bH P) 21
def uf(P:ZT):List ZZ:=kD (fe P)
def qk(P:ZT):ZU×List ZU×Pos×Pos×Pos×Pos×Pos:=Uz ((uf P).getD 3 default)
def iL(P:ZT)(a:ZP):Obj:=((bH P).lookup a).getD default
def GV(P:ZT):Array ZO:=match(iL P 267).data with
 |.fields v=>v
 |_=>#[]
def Ti(P:ZT):Arg:=((fe P).params.posonlyargs++(fe P).params.args).headD default
def GU(P:ZT):ZV×Tok:=match((GV P)[2]?:Z0 ZO)with
 |some (.str s t)=>(s,t)
 |_=>default
def Tj(P:ZT):ClassData:=match(iL P 292).data with
 |.cls c=>c
 |_=>default
def Py(h:eS.length=8):∃a:Nat->ZO,eS=[a 0,a 1,a 2,a 3,a 4,a 5,a 6,a 7]:=⟨λi=>(eS[i]?).getD .none,by have z:=HP eS;rw[h] at z;exact z.symm⟩
def Tn(P:ZT):FuncData:=ksFn (fe P).name (fe P).qualname (fe P).params (uf P) (fe P).scope (fe P).defaults (fe P).kwdefaults (fe P).doc (fe P).pyModule (fe P).annotations (.ref 267) (fe P).closureTuple 258
def UC(P:ZT)(S:Setting)(t:ZJ)(h:t.length=8):peek (bH P) S (bindArgs (Tn P) ⟨t,[]⟩)=some ((pE.ak.map e4).zip t):=(Py h).elim λv e=>e▸(by kernel_rfl)
def UB(w:ZS):∀x∈(fe w.params).scope.names,x.2≠.cell:=λx B=>by
 have z:((fe w.params).scope.names.all λx=>match x.2 with|.cell=>false|_=>true):=by kernel_rfl
 have z:=Xb.mp z x B;intro e;rw[e] at z;exact bb z
def UD(O:Nat->ZF->Z0 V)(w:ZS)(T:hc):(∃N,nL (aZ O w T) 21 pE N):=⟨{
 name:=(fe w.params).name,qual:=(fe w.params).qualname,params:=(fe w.params).params,body:=uf w.params,scope:=(fe w.params).scope,q4:=(fe w.params).defaults,ro:=(fe w.params).kwdefaults,doc:=(fe w.params).doc,rL:=(fe w.params).pyModule,qZ:=(fe w.params).closureTuple
 wH:=(pG (bH w.params) 21).cls,tV:=(pG (bH w.params) 21).dict,wK:=(pG (bH w.params) 21).slots,qH:=(fe w.params).annotations,lE:=267,jR:=258
 Cp:=(iL w.params 267).cls,Cs:=(iL w.params 267).dict,Cq:=(iL w.params 267).slots,bg:=GV w.params,file:=(GU w.params).1,Hx:=(GU w.params).2,sa:=Ti w.params
 Cw:=(iL w.params 258).cls,Cx:=(iL w.params 258).dict,CM:=(iL w.params 258).slots,c:=7,self:=6,kC:=7,Cr:=Tj w.params
 pre:=pE.body.take 3,post:=pE.body.drop 4,qc:=(uf w.params).take 3,m':=(uf w.params).drop 4,av:=[(.aS (.F 33) 15),(.aS (.F 33) 16),(.F 17),(.F 18),(.F 19)]
 jC:=(qk w.params).1,bt:=(qk w.params).2.1,bp:=(qk w.params).2.2.1,bk:=(qk w.params).2.2.2.1,bf:=(qk w.params).2.2.2.2.1,oC:=(qk w.params).2.2.2.2.2.1,wN:=(qk w.params).2.2.2.2.2.2},{
 fy:=by kernel_rfl
 tb:=by kernel_rfl
 dO:=by dsimp only;exact UC w.params
 rl:=rfl
 Em:=by kernel_rfl
 zz:=by dsimp only;exact UB w
 th:=by decide
 tc:=by kernel_rfl
 tf:=by kernel_rfl
 hq:=by kernel_rfl
 D8:=by rfl
 D9:=by kernel_rfl
 Er:=by kernel_rfl
 Es:=by kernel_rfl
 Ek:=by kernel_rfl
 Eo:=by kernel_rfl
 Ep:=by kernel_rfl
 Ea:=by kernel_rfl
 zC:=by kernel_rfl
 Et:=WY (by kernel_rfl)
 vS:=by kernel_rfl
 El:=by kernel_rfl
 Ej:=WY (by kernel_rfl)
 Ed:=by kernel_rfl
 zD:=by kernel_rfl
 zE:=by kernel_rfl
 D':=by kernel_rfl
 ED:=by kernel_rfl
 Eb:=by kernel_rfl
 zy:=by kernel_rfl
 D5:=by kernel_rfl
 Eu:=by kernel_rfl
 Ew:=by kernel_rfl
 Ei:=by kernel_rfl
 vQ:=by kernel_rfl
 EC:=by kernel_rfl
 EA:=by kernel_rfl
 tg:=by kernel_rfl
 Ez:=by kernel_rfl
 Ec:=by kernel_rfl}⟩
def vq:∀{B:Nat}{a:cy},(B,a)∈mJ rf->(B,a)∈n6\/B=21:=λ{B a} m=>by
 generalize q:Nat.beq B 21=N;induction N with|true=>exact .inr (W2 q)|false=>exact .inl (Zg.mpr ⟨m,by show(!(Nat.beq B 21))=true;rw[q];rfl⟩)
def Sz:((mJ n0).all λp=> !p.2.qf||match p.2.init with|none=>true|some i=> !(Nat.beq i 21)):=rfl
def EX(P:ZT):(keepIn (bH P) (.ref (gD 135))&&keepIn (bH P) (.ref (gD 21))):=by kernel_rfl
def MV(P:ZT)(p:Nat×cy)(m:p∈n6):keepIn (bH P) (.ref (gD p.1)):=by have a:=ar (ar (ar (ar (ar (ar (ar (ar (Xb.mp (DG P) _ (DH m)))))))));exact aN a
def M7:rf.get 21=some pE:=rfl
def Dy(O:Nat->ZF->Z0 V)(w:ZS)(T:hc)(x:∀B a r,O B a=some r->B=135)(o:yb (aZ O w T)):g9 (aZ O w T) where
 az:=Ri
 rZ:=U'
 aC:=QH
 cls:=KZ
 keep:=λB h=>by
  rcases h with⟨K,h⟩|⟨a,r,h⟩
  .rcases vq (pC _ h)with m|e
   .exact MV w.params _ m
   .exact e▸ar (EX w.params)
  .exact x B a r h▸aN (EX w.params)
 E2:=λc k g i h b=>O4 c k g i h b
 Gz:=λc k i h A F K R=>by
  rcases vq (pC _ R)with m|e
  .exact zd O w T _ m
  .have z:=Xb.mp Sz _ (pC _ h)
   have z:=e▸A▸F▸z;exact bb z
 fM:=λB K R=>by
  rcases vq (pC _ R)with m|e
  .exact .inl (zd O w T _ m)
  .subst e
   have R:=R;have e:=WZ (M7.symm.trans R);subst e;exact .inr (UD O w T)
 j3:=o
noncomputable def lD:ZJ:=[.ref 46,.type "Exception",.type "BaseException",.type "object"]
def nZ(P:ZT):ClassData:=match(iL P 59).data with
 |.cls c=>c
 |_=>default
abbrev y1(P:ZT):Obj:=excClassObj (nZ P).name (nZ P).qualname 59 58 (nZ P).bases lD (nZ P).hasDict (nZ P).slotNames (nZ P).subclasses (nZ P).abstract (nZ P).collection (iL P 59).dict ((iL P 59).slots.toList.getD 0 none) ((iL P 59).slots.toList.getD 1 none) ((iL P 59).slots.toList.getD 2 none) ((iL P 59).slots.toList.getD 3 none) ((iL P 59).slots.toList.getD 5 none) "Exception.__new__"
def sJ(P:ZT):(bH P).lookup 59=some (y1 P):=by kernel_rfl
def Mj(P:ZT):findIn (bH P) (.ref 59) "__init__"=some (some (.ref 36)):=by kernel_rfl
def y2:(Value.ref 59::lD).contains (.type "Exception")/\(Value.ref 59::lD).contains (.type "AttributeError")=false/\(Value.ref 59::lD).contains (.type "NameError")=false/\(Value.ref 59::lD).contains (.ref 59):=by refine⟨?_,?_,?_,?_⟩<;>decide+kernel
section
variable{m:Program}{w:ZS}{A:ZX}{E:ZG}{h:ZQ}{g:Array GenState}{d:Drawn}{t:Nat}{p:OsState}
def Mo(K:h.get? 59=some (y1 P))(I:Q () ⟨h,g,d,t,p⟩):wpAny r A (checkBuiltinCall "Exception.__new__" ⟨.ref 59::rest,[]⟩) Q E ⟨h,g,d,t,p⟩:=wpAny_check_new_subU PySem.F.excBase_Exception (by decide+kernel) .base K I
def Mp(K:h.get? 59=some (y1 P))
  (I:a (.ok (.ret (.ref (h.objs.size+1)))) ⟨(h.push {cls:=.type "tuple",data:=.seq rest.toArray}).push {cls:=.ref 59,data:=.fields #[.ref h.objs.size,.none,.none,.none,.bool false,.none]},g,d,t,p⟩)(i:rest.length<=sizeLine):
  codeAny (model m w) A (.builtin "Exception.__new__" ⟨.ref 59::rest,[]⟩) a ⟨h,g,d,t,p⟩:=by
 have F:=PySem.F.excBase_Exception;have f:=F.ends;obtain⟨pK,c,e,_⟩:=y2;refine codeAny_builtinAt F.entry ?_;unfold Builtin.«BaseException.__new__»;refine PySem.wpAt_bind ?_;refine PySem.wpAt_bind (PySem.wpAt_stack λj b=>PySem.wpAt_of_wpAny ?_)
 wp_walk
 refine PySem.wpAt_of_wpAny ?_;rw[F.owner];repeat (first|with_reducible refine wpAny_madeHere_exc F.canon K ?_|with_reducible refine Ye K ?_|(with_reducible refine YS K ?_;first|rw[pK]|rw[c]|rw[e])|wp_step)
 rw[YY];exact I
def Ms(X:(bH P).In h)
  (I:∀a e,Heap.MadeExcOf h a e (.ref 59) rest->wpAny (model m w) A (call (.ref 36) (.ref e::rest)) (λr c=>r=.none/\Q (.done (.ret (.ref e))) c) E ⟨a,g,d,t,p⟩)(l:rest.length<=sizeLine):
  wpAny (model m w) A (Builtin.«type.__call__» ⟨.ref 59::rest,[]⟩) Q E ⟨h,g,d,t,p⟩:=by
 have K:=X _ _ (sJ P);repeat (first|with_reducible refine Ye K ?_|with_reducible refine wpAny_madeBy_exc K ?_|wp_step)
 refine codeAny_call_builtin_code (Code.quiet_builtin _ PySem.F.excBase_Exception.quiet) (Mo K ?_);refine Mp K ?_ l;have i:∀b o,h.get? b=some o->((h.push {cls:=.type "tuple",data:=.seq rest.toArray}).push {cls:=.ref 59,data:=.fields #[.ref h.objs.size,.none,.none,.none,.bool false,.none]}).get? b=some o:=λb o e=>Heap.get?_push_of_some _ (Heap.get?_push_of_some _ e);have f:=X.keeps i;have j:((h.push {cls:=.type "tuple",data:=.seq rest.toArray}).push
   {cls:=.ref 59,data:=.fields #[.ref h.objs.size,.none,.none,.none,.bool false,.none]}).get? (h.objs.size+1)=some
   {cls:=.ref 59,data:=.fields #[.ref h.objs.size,.none,.none,.none,.bool false,.none]}:=by heap_get
 unfold isInstance;repeat (first|with_reducible refine Ye j ?_|(with_reducible refine YS (i _ _ K) ?_;rw[y2.2.2.2])|wp_step)
 refine(looks_findIn f (Mj P)).here ?_;refine Yd (W6 ((bind_fn f _ ((by kernel_rfl))).here ?_))
 refine W6 (XR (I _ (h.objs.size+1) ⟨i,Heap.get?_none_of_le (Xt _),h.objs.size,j,Heap.get?_none_of_le (Xe _),?_⟩) (λr c k=>?_) λ_ _ x=>x)
 .exact Heap.get?_push_of_some _ (Heap.get?_push_at rfl rfl)
 .obtain⟨rfl,F⟩:=k
  wp_walk
  exact F
def Mn(X:(bH P).In h)
  (I:∀a e,Heap.MadeExcOf h a e (.ref 59) rest->wpAny (model m w) (A.under (.builtin "type.__call__" ⟨.ref 59::rest,[]⟩)) (call (.ref 36) (.ref e::rest)) (λr b=>r=.none/\Q (.ref e) b) E ⟨a,g,d,t,p⟩)(c:rest.length<=sizeLine):
  wpAny (model m w) A (call (.ref 59) rest) Q E ⟨h,g,d,t,p⟩:=by
 have K:=X _ _ (sJ P);have T:=tc_lookup;have lK:=tc_bind (.ref 59);have R:(⟨h,g,d,t,p⟩:ZW).TypeIs (.ref 59) "type":=⟨_,K,rfl⟩;refine YX (Zd ?_);repeat (any_goals (first|assumption|with_reducible refine Ye K ?_|wp_step))
 refine⟨rfl,?_⟩;refine codeAny_call_builtin_at (Code.quiet_builtin _ (by decide+kernel)) entry_typeCall (wpAny_check_type_call_sub K (Ms X (λa e D=>?_) c))
 exact I a e D
end
end Mine.Internal
end
noncomputable section
open PySem PySem.W PySem.Calls PyProof.Rows Builtin Builtin.ObjectAttr
namespace Mine.Internal
section
variable{m:Program}{w:ZS}{A:ZX}{E:ZG}{h:ZQ}{g:Array GenState}{d:Drawn}{t:Nat}{p:OsState}{P:ZT}{x:ZP}{v:ZO}
def Mk(P:ZT):findCls (bH P) (.type "Exception") (.type "type") "__init__"=some (.val (.builtin "Exception.__init__")):=rfl
def Ml(P:ZT):mroIn (bH P) 59 (.type "object")=some true/\mroIn (bH P) 59 (.type "Exception")=some true:=⟨by kernel_rfl,by kernel_rfl⟩
def De(P:ZT):(clsIn (bH P) 59).map (·.mro)=some (.ref 59::lD)/\(clsIn (bH P) 59).any (·.hasDict):=⟨by kernel_rfl,by kernel_rfl⟩
def Mq(X:(bH P).In s.heap)(h:Q (.builtin "Exception.__init__",[]) {s with toks:=s.toks+1}):wpAny (model m w) A (getMethod (.type "Exception") "__init__" a) Q E s:=by
 have b:Looks (model m w) s.heap (typeOf (.type "Exception")) (.type "type"):=Looks.of_pure (kitMeta_of (by decide+kernel))
 have c:Looks (model m w) s.heap (opaqueClassAbove (.type "Exception")) none:=Looks.of_pure (by unfold opaqueClassAbove;dsimp only;rw[show Manifest.isStub "Exception"=false from by decide+kernel];rfl)
 have i:findIn (bH P) (.type "type") "__getattribute__"=some (some (.builtin "type.__getattribute__")):=type_tga;unfold getMethod;refine W6 (W6 (b.here ((looks_findIn X i).here ?_)));dsimp only;rw[if_pos (by decide+kernel:(Manifest.canonical "type.__getattribute__" != "object.__getattribute__")=true)]
 refine W6 (cls_open X c b i (looks_hook X (r:=none) (by rfl)) (by show subIn (bH P) _ _=_;rfl) (Mk P) ?_)
 exact Xc (handed_on rfl (Xc h))
def Mm(X:(bH P).In h)(H:h.get? x=some b)(L:b.cls=.ref 59)(T:b.data=.fields #[.ref r,.none,.none,.none,.bool false,.none])
  (I:Q .none ⟨(h.push {cls:=.type "tuple",data:=.seq #[v]}).update x (Obj.mapFields (·.setIfInBounds 0 (.ref h.objs.size))),g,d,t,p⟩):wpAny (model m w) A (call (.builtin "Exception.__init__") [.ref x,v]) Q E ⟨h,g,d,t,p⟩:=by
 have F:=PySem.F.excBase_Exception;have K:=X _ _ (sJ P);refine YX (Zf F.init.plain F.initEntry ?_)
 .have a:=F.noStar
  simp only [checkBuiltinCall,F.initKind,F.initSplit,F.initRow]
  repeat (first|(with_reducible refine Ye H ?_;rw[L])|with_reducible refine Ye K ?_|(with_reducible refine YS K ?_;rw[y2.1])|wp_step)
  rw[T]
  wp_walk
  rw[T]
  wp_walk
  exact I
def Mr{ns:List ZV}(X:(bH P).In h)(I:h.Inst x 59 r)
  (J:∀l z,l.Inst x 59 (λy=>if y=name then some v else r y)->(∀b H,b≠x->(∀i f,h.get? x=some i->i.dict=some f->b≠f)->h.get? b=some H->l.get? b=some H)->
   (∀i,h.get? x=some i->∃q,l.get? x=some q/\q.cls=i.cls/\q.data=i.data/\∀f,q.dict=some f->i.dict=some f\/h.get? f=none)->Q (.done (.ret .none)) ⟨l,g,d,z,p⟩)(hw:Within r ns)(hsz:ns.length<=5):
  wpAny (model m w) A (storeInOwnDict (.ref x) (.ref 59) (.str name s) name v false) Q E ⟨h,g,d,t,p⟩:=by
 obtain⟨H,B,L,n,F⟩:=I;obtain⟨cd,hcd,hdt⟩:=any_some (De P).2;obtain⟨fs,od,R,N⟩:=H;dsimp only at L n F;subst L;unfold storeInOwnDict;refine W6 (Xc (W6 (W6 (wpAny_loadPart B (W6 ((looks_clsIn X hcd).here ?_))))));rw[hdt];rcases F with⟨hdn,hmA⟩|⟨f,hdx,o,hns⟩
 .subst hdn
  rw[if_neg (by decide)]
  dsimp only;rw[if_neg (by simp [typeHasDict])]
  have M:(h.push aag).get? x=some {cls:=.ref 59,dict:=none,data:=R,slots:=N}:=Heap.get?_push_of_some _ B;have C:x≠h.objs.size:=Xi (XA B);have hgd:((h.push aag).update x λH=>{cls:=H.cls,dict:=some h.objs.size,data:=H.data,slots:=H.slots}).get? h.objs.size=some aag:=
   (Heap.get?_update_ne _ _ _ _ C.symm).trans (Heap.get?_push_at rfl rfl)
  have hnd:((h.push aag).update x λH=>{cls:=H.cls,dict:=some h.objs.size,data:=H.data,slots:=H.slots}).Ns h.objs.size (λ_=>none):=
   ⟨_,#[],_,hgd,rfl,λe he=>absurd he (by simp),λ_=>rfl⟩
  have go:wpAny (model m w) A (do let d<-alloc {cls:=Value.type "dict",data:=Data.dict #[]};update x λH=>{cls:=H.cls,dict:=some d,data:=H.data,slots:=H.slots};dictMade (.ref 59) x d) (λa s'=>wpAny (model m w) A (match a with|some d=>storeInDict d (Value.str name s) name v|none=>noDictFor (Value.ref x) (Value.ref 59) name false) Q E s') E ⟨h,g,d,t,p⟩:=by
   refine W6 (wpAny_alloc' ?_);refine W6 (wpAny_update' M ?_);refine Xc ?_;unfold storeInDict newKeyGuard;refine W6 (Xc (W6 (wpAny_nsSet1 (Heap.Ns1.of_empty hnd) λl k j=>?_)));obtain⟨fl,esD,Z,u,V,T⟩:=k.count (Within.cons name v Within.nil);refine W6 (wpAny_lookBehind u (by rw[V];exact pastItsLine_dict (W5 T (by rw[Xx,Yv,sizeLine_eq];lia))) ?_)
   have K:l.get? x=some {cls:=.ref 59,dict:=some h.objs.size,data:=R,slots:=N}:=by refine(j.2 x C).trans (Heap.get?_update_self _ M ?_);have hfr:=(Heap.get?_some_iff.mp B).2;induction R<;>first|rfl|exact hfr
   refine Xc (J l _ ⟨_,K,rfl,n,.inr ⟨h.objs.size,rfl,C.symm,?_⟩⟩ (λb fp hbx _ G=>?_) λi D=>?_)
   .obtain⟨fi,a',Y,O,S,U,cK,W⟩:=k
    exact⟨fi,a',Y,O,S,U,cK,λy=>by rw[W y];by_cases c':y=name<;>simp [c',hmA]⟩
   .exact(j.2 b (Xi (XA G))).trans ((Heap.get?_update_ne _ _ _ _ hbx).trans (Heap.get?_push_of_some _ G))
   .obtain rfl:=WZ (B.symm.trans D)
    exact⟨_,K,rfl,rfl,λf e=>.inr (WZ e▸hp h)⟩
  induction R with|cls c=>exact absurd rfl (n c)|_=>exact go
 .subst hdx
  rw[if_neg (by decide)]
  refine Xc ?_;unfold storeInDict newKeyGuard;refine W6 (Xc (W6 (wpAny_nsSet1 hns λl k j=>?_)));obtain⟨fl,esD,Z,u,V,T⟩:=k.count (Within.cons name v hw);refine W6 (wpAny_lookBehind u (by rw[V];exact pastItsLine_dict (W5 T (by rw[Xx,sizeLine_eq];lia))) ?_)
  refine Xc (J l _ ⟨_,(j.2 x o.symm).trans B,rfl,n,.inr ⟨f,rfl,o,k⟩⟩ (λb fp _ hbd G=>(j.2 b (hbd _ f B rfl)).trans G) λi D=>⟨i,(j.2 x o.symm).trans D,rfl,rfl,λ_ e=>.inl e⟩)
def Df{ns:List ZV}(X:(bH P).In h)(C:findIn (bH P) (.ref 59) name=some none)(I:h.Inst x 59 f)
  (G:∀e l,e.Inst x 59 (λy=>if y=name then some v else f y)->(∀b H,b≠x->(∀c a,h.get? x=some c->c.dict=some a->b≠a)->h.get? b=some H->e.get? b=some H)->
   (∀c,h.get? x=some c->∃i,e.get? x=some i/\i.cls=c.cls/\i.data=c.data/\∀a,i.dict=some a->c.dict=some a\/h.get? a=none)->Q () ⟨e,g,d,l,p⟩)(M:Within f ns)(K:ns.length<=5):
  wpAny (model m w) A (setAttr (.ref x) name v) Q E ⟨h,g,d,t,p⟩:=by
 have j:=PySem.F.store_object;have r:Looks (model m w) h (mroOf (.ref 59)) (.ref 59::lD):=by
  have z:=(De P).1;generalize q:clsIn (bH P) 59=V;induction V with|none=>rw[q] at z;exact cB z|some W=>rw[q] at z;exact(WZ z)▸(looks_clsIn X q).andThen .now
 have J:∃k n,W.InstAt h x k 59 n:=by
  obtain⟨H,B,L,D,T⟩:=I;have s:notCls H:=by obtain⟨_,_,R,_⟩:=H;induction R<;>first|rfl|exact absurd rfl (D _)
  rcases T with⟨N,_⟩|⟨a,u,_,F⟩
  .exact⟨H,none,B,L,s,by rw[N];trivial⟩
  .obtain⟨S,Z,Y,O,_⟩:=F
   exact⟨H,some S,B,L,s,by rw[u];exact O⟩
 obtain⟨k,n,J⟩:=J;have U:Looks (model m w) h (isInstance (.ref x) (.type "object")) true:=J.type.andThen (looks_mroIn X (Ml P).1);refine set_plain X J ((by kernel_rfl)) (Zf j.slot.plain j.entry (@check_slot (model m w) _ _ _ "object.__setattr__" "object" "__setattr__" (.ref x) [.str name t,v] [] _ j.kind j.split U (j.args (.ref x) (.str name t) v) ?_))
 rw[osa_eq,refuse_eq];refine W6 (W6 (J.type.here (W6 (r.here ?_))));unfold lD;rw[refuseLoop_ref,refuseLoop_ref,PySem.F.store_Exception.passes];have o:Looks (model m w) h (storeTaker? none) none:=.now;exact Xc (W6 (J.type.here (W6 ((looks_findIn X C).here (W6 (o.here (Mr X I G M K)))))))
end
end Mine.Internal
end
noncomputable section
open PySem PySem.W PySem.Calls PyProof.Rows
namespace Mine.Internal
def OD(P:ZT):kD (gS (bH P) 1)=[.Expr (.Call (.Attribute (.Name "Exception" ⟨8,8,8,17⟩) "__init__" ⟨8,8,8,26⟩) [.Name "self" ⟨8,27,8,31⟩,.Name "what" ⟨8,33,8,37⟩] [] ⟨8,8,8,38⟩) ⟨8,8,8,38⟩,
 .Assign [.Attribute (.Name "self" ⟨9,8,9,12⟩) "what" ⟨9,8,9,17⟩] (.Name "what" ⟨9,20,9,24⟩) ⟨9,8,9,24⟩,.Assign [.Attribute (.Name "self" ⟨10,8,10,12⟩) "at" ⟨10,8,10,15⟩] (.Name "at" ⟨10,18,10,20⟩) ⟨10,8,10,20⟩]:=by kernel_rfl
def OE(P:ZT):ic (gS (bH P) 1).scope "Exception"=some .globalImplicit/\(e4 6="self"/\(e4 186="what"/\e4 7="at"))/\takerIn (bH P) 59 "what"=some none/\findIn (bH P) (.ref 59) "what"=some none/\findIn (bH P) (.ref 59) "at"=some none/\(rd (bH P) (1,[6,186,7],[.none]))=[.none]:=
 ⟨by kernel_rfl,⟨by kernel_rfl,rfl,rfl⟩,by kernel_rfl,by kernel_rfl,by kernel_rfl,by kernel_rfl⟩
def fh.O3(O:jb s' af)(j:fh af w' f' x')(u:∀a' c',hh s' a'->w'.get? a'=some c'->h'.get? a'=some c'):fh af h' f' x':=
 j.imp (λj=>j.imp id λj=>j.elim λM j=>⟨M,j.1.at' λc' J=>u _ c' O.F J,j.2⟩) λj=>⟨j.1,j.2.1,j.2.2.elim λa' o=>⟨a',o.1,o.2.elim λc' C=>⟨c',u a' c' (.inr (O.cell f' a' j.1 o.1)) C.1,C.2⟩⟩⟩
def r5(h:ZQ)(e:ZP):Prop:=∃b t,h.get? e=some b/\b.cls=.ref 59/\b.data=.fields #[.ref t,.none,.none,.none,.bool false,.none]
section
variable{O:Nat->ZF->Z0 V}{X:ZS}{T:hc}{f:ed}{d:Env}{A:ZX}
set_option backward.match.sparseCases true in
def OF(M:g9 (aZ O X T))(fr:hZ (aZ O X T) f)(fl:d6 f A (cN (aZ O X T) 1+20))(I:aP ⟨aZ O X T,f,d,A⟩ i w)
  (K:w.h.get? e=some {cls:=.ref 59,data:=.fields #[.ref r,.none,.none,.none,.bool false,.none]})(hr:f.g.get? e=none)(Y:e≠f.L)(R:Result->ZN)
  (q:∀c,(∀m,Fr f.g f.L w.h m->Fr f.g f.L c.h m)->fm w c->(∀b H,b≠e->b≠f.L->w.h.get? b=some H->c.h.get? b=some H)->r5 c.h e->R (.ok (.ret .none)) c.s):codeAny (model eb X) A (.call (.ref 36) ⟨[.ref e,g],[]⟩) R w.s:=by
 obtain⟨e1,F,Z,a',hdv⟩:=vN O X T (1,[6,186,7],[.none]) (.tail _ (.tail _ (.head _)));dsimp only at Z a' hdv;obtain⟨kz,⟨l1,n186,l2⟩,_,h1,hF,dv1⟩:=OE X.params;refine vj (l:=[]) (dE:=λc c'=>c'=.none/\(∀b H,b≠e->b≠f.L->w.h.get? b=some H->c.h.get? b=some H)/\r5 c.h e) R M F fr fl I rfl (λ_ _ _ _ z=>nomatch z) (λP S hj _ C T0 cK fs nw D Q E x _ _=>?_) λc c' a b p=>p.1▸q c a b p.2.1 p.2.2;have v:=C.lT;have W:P.g.get? e=none:=nw e _ K Y hr;have ne:∀a,hh P a->a≠e:=λa z y=>cj K (fs e (y▸z));have he1:=cK.keep e _ Y K;have fin:∀{h:ZQ}{j:Tok},(∀b H,b≠e->S.h.get? b=some H->h.get? b=some H)->r5 h e->Q .next {S.s with heap:=h,toks:=j}:=λ{h j} J a=>x ⟨S.G,{S.s with heap:=h,toks:=j}⟩ .next .none (C.ag.aM.elim λm k=>⟨m,k.ns.at' λH y=>J _ H (ne _ (.inl rfl)) y,λb H y=>J b H (λz=>cj (z▸y) W) (k.keep b H y),k.above⟩) ⟨_,_,rfl⟩ rfl ⟨rfl,λb H k0 k2 y=>J b H k0 (cK.keep b H k2 y),a⟩
 have o:∀{h:ZQ}{s:ZV}{u:ZO}{j:Tok}{p:Pos}{Q:ZG}{E:ZG},(∀b H,b≠e->S.h.get? b=some H->h.get? b=some H)->fh P.bx S.h s u->l6 s->Q u {S.s with heap:=h,toks:=j}->wpAny (model eb X) (A.deeper P.bx) (eval (.Name s p) P.bx) Q E {S.s with heap:=h,toks:=j}:=
  λ{h s u j p Q E} J b H q=>Cg (c:=⟨aZ O X T,P,P.bx,A.deeper P.bx⟩) (w:=⟨S.G,{S.s with heap:=h,toks:=j}⟩) C.bU (fh.O3 C.bU b λa H z y=>J a H (ne a z) y) H q
 have B:fh P.bx S.h "self" (.ref e):=l1▸D 0 6 (.ref e) rfl rfl;have V:fh P.bx S.h "what" g:=n186▸D 1 186 g rfl rfl;have fp:fh P.bx S.h "at" .none:=l2▸D 2 7 .none rfl (by rw[hdv,dv1];rfl)
 have kE':P.bx.kindOf "Exception"=some .globalImplicit:=by rw[hj];show ic e1.scope "Exception"=_;rw[a'];exact kz
 have N:∀b H,b≠e->S.h.get? b=some H->S.h.get? b=some H:=λ_ _ _ z=>z;rw[Z,OD];refine XM (wpAny_Expr ?_ (zL C.bU) (xw rfl));refine FP (c:=⟨aZ O X T,P,P.bx,A.deeper P.bx⟩) (w:=S) rfl rfl (by decide) rfl ?_
 refine C.ag.aM.elim λm k=>Name_function_global C.bU.kind kE' (loadGlobal_builtin (by exact C.bU.ia▸C.aM.T.g.keeps k.keep) (mg_none_of C.aM.K C.aM.T.g (M.rZ.blt _ (by decide))) (by exact C.bU.blt▸C.aM.T.b.keeps k.keep) ((C.aM.T.builtins _ (by decide)).trans rfl) ?_) (by decide)
 refine Mq v ?_;refine AY (c:=⟨aZ O X T,P,P.bx,A.deeper P.bx⟩) _ _ _ (oE rfl) ?_;refine evalArgs_plain (spliced_cons (o N B rfl (spliced_cons (o N V rfl (spliced_nil ⟨v,Mm v he1 rfl rfl ?_⟩)))));have hp1:(S.h.push {cls:=.type "tuple",data:=.seq #[g]}).get? e=some {cls:=.ref 59,data:=.fields #[.ref r,.none,.none,.none,.bool false,.none]}:=Heap.get?_push_of_some _ he1;have G:((S.h.push {cls:=.type "tuple",data:=.seq #[g]}).update e (Obj.mapFields (·.setIfInBounds 0 (.ref S.h.objs.size)))).get? e=some {cls:=.ref 59,data:=.fields #[.ref S.h.objs.size,.none,.none,.none,.bool false,.none]}:=Heap.get?_update_self (Obj.mapFields (·.setIfInBounds 0 (.ref S.h.objs.size))) hp1 rfl;have l:∀b H,b≠e->S.h.get? b=some H->((S.h.push {cls:=.type "tuple",data:=.seq #[g]}).update e (Obj.mapFields (·.setIfInBounds 0 (.ref S.h.objs.size)))).get? b=some H:=λb H n z=>(Heap.get?_update_other _ _ (Ne.symm n)).trans (Heap.get?_push_of_some _ z);have U:∀{h:ZQ},(∀b H,b≠e->S.h.get? b=some H->h.get? b=some H)->(bH X.params).In h:=λ{h} J=>Frag.In.keeps (h:=P.g) C.aM.K λb H z=>J b H (λy=>cj (y▸z) W) (k.keep b H z);generalize((S.h.push {cls:=.type "tuple",data:=.seq #[g]}).update e (Obj.mapFields (·.setIfInBounds 0 (.ref S.h.objs.size))))=h2 at G l⊢;have e2:h2.Inst e 59 (λ_=>none):=⟨_,G,rfl,(λ_ z=>nomatch z),.inl ⟨rfl,λ_=>rfl⟩⟩;refine XM (plainObj_wpAny_Assign_Attribute (o l V rfl (o l B rfl (Df (U l) h1 e2 (λh' t3 fi kd fv=>?_) .nil (by decide)))) xv)
 obtain⟨mm,ho3,hc3,hd3,hf3⟩:=fv _ G;have L:∀b H,b≠e->S.h.get? b=some H->h'.get? b=some H:=λb H n z=>kd b H n (λo₀ t y u=>nomatch ((W0 Obj.dict (WZ (G.symm.trans y))).trans u:(none:Z0 ZP)=some t)) (l b H n z);refine XM (plainObj_wpAny_Assign_Attribute (o L fp rfl (o L B rfl (Df (U L) hF fi (λq0 rt qs kk hi=>?_) (Within.cons _ _ .nil) (by decide)))) xv)
 obtain⟨nk,ho4,hc4,hd4,_⟩:=hi _ ho3;refine Yl (fin (λb H n z=>kk b H n (λo₀ t y u od=>?_) (L b H n z)) ⟨nk,_,ho4,hc4.trans hc3,hd4.trans hd3⟩);have u:mm.dict=some t:=(W0 Obj.dict (WZ (ho3.symm.trans y))).trans u;exact(hf3 t u).elim (λz=>nomatch z) λpl=>cj (l b H n z) (od▸pl)
end
abbrev Bl(m:Nat):ZV:=aai (Str.ofString (toString (Int.ofNat m)))
def xx(h:m<64):(Bl m).length<=4:=by have z:((List.range 64).all λm=>Nat.ble (Bl m).length 4):=rfl;exact WY (yo z h)
def Co{x y:ZV}(a:x.length<=c)(b:y.length<=m):(x++y).length<=c+m:=by rw[size_cat];exact XY a b
def Hm(C:bJ c b A a w)(i:au A q=some (.int (.ofNat m)))(D:m<64)(k:i0 c.af.kindOf (c.X.az q))(I:l6 (c.X.az q))(j:c.af.kindOf "str"=some .globalImplicit)(Q:ZG)(E:ZG)
  (z:∀B s,aT c a w a B->Q (.str (Bl m) s) B.s):aad c (eval (.Call (.Name "str" g) [.Name (c.X.az q) d] [] e) c.af) Q E w.s:=
 YC (yE C j (by decide) rfl (by decide) (by decide) _ E λS L l O=>O▸PySem.callWith_type (oE rfl)
  (evalArgs_plain (spliced_cons (z1 (C.aF l).ag C.bU (C.aF l).dc k i (rH I) (wI I) _ E λf x h r=>spliced_nil (r.dt (p:=λx=>aad c (call (.type "str") ([]++[x]) []) Q E f.s) λt=>PySem.P.str_of_int (W3 (Nat.log2_le_self _) (Xv D (by decide)))
   (z (f.a8 (f.s.toks+1)) f.s.toks ((l.trans C.ag h).trans C.ag (.a8 ((C.aF l).aF h).ag _))))))))
section
variable{r:Model}{A:ZX}{E:ZG}
def Dd:(Value.ref 59::lD).contains (.type "BaseException")/\lD.contains (.type "BaseException"):=⟨by decide+kernel,by decide+kernel⟩
def Su(N:A.handled=none)(h:wpAny r A x (λb a=>∃e,b=.ref e/\(bH P).In a.heap/\r5 a.heap e/\E (.ref e) a) E s):wpAny r A (raiseStmt af (some x) none) Q E s:=by
 unfold raiseStmt;refine W6 (XR h (λb a k=>?_) λ_ _ x=>x);obtain⟨e,rfl,X,⟨c,t,H,L,T⟩,O⟩:=k;have K:=X _ _ (sJ P);obtain⟨V,g,d,f,p⟩:=a;obtain⟨z,n,R,q⟩:=c;dsimp only at L T;subst L T;repeat (first|with_reducible refine Ye H ?_|with_reducible refine Ye K ?_|(with_reducible refine YS K ?_;rw[Dd.1])|wp_step)
 exact wpAny_raiseNew_none N O
end
def zo(P:ZT):(nsIn (bH P) mainGlobals "GrammarError").join=some (.ref 59)/\keepIn (bH P) (.ref 59):=⟨by kernel_rfl,by kernel_rfl⟩
def aP.at'(j:aP a' c' f')(u:Env)(o:ZX):aP ⟨a'.X,a'.f,u,o⟩ c' f':=⟨j.aM,j.aH,j.own,j.new,j.dz⟩
section
variable{O:Nat->ZF->Z0 V}{X:ZS}{T:hc}{f:ed}{d:Env}{A:ZX}{S:Z}{w:aL}
def Ss(C:bJ ⟨aZ O X T,f,d,A⟩ r G S w)(a':cN (aZ O X T) 1+40<=r)(c':d.kindOf "GrammarError"=some .globalImplicit)(ns:e5 arg)
  (harg:∀l,aT ⟨aZ O X T,f,d,A⟩ S w S l->∀(Q:ZG)(E:ZG),(∀B x p,aT ⟨aZ O X T,f,d,A⟩ S l S B->Q (.str x p) B.s)->wpAny (model eb X) A (eval arg d) Q E l.s){E:ZG}
  (q:∀c i e,aT ⟨aZ O X T,f,d,A⟩ S w S c->fm c ⟨c.G,i⟩->(∀m,Fr f.g f.L c.h m->Fr f.g f.L i.heap m)->(∀b H,b≠f.L->c.h.get? b=some H->i.heap.get? b=some H)->c.h.get? e=none->r5 i.heap e->E (.ref e) i):
  wpAny (model eb X) A (exec (.Raise (some (.Call (.Name "GrammarError" L) [arg] [] N)) none P) d) Q E w.s:=by
 rw[arm_exec_Raise];refine W6 (Yx (Su (P:=X.params) C.dK.bC (W6 (XR (wpAny_Call_ofName (vJ C c' (zo X.params).1 (by decide) _ _ λl fv o e1=>e1▸?_)) (λv s₃ h₃=>W6 (Yx (Xc h₃))) λ_ _ x=>x))))
 refine t' (c:=⟨aZ O X T,f,d,A⟩) (zo X.params).2 _ _ _ (oE (by rw[Yo,ns];rfl)) ?_
 rw[xp ns];refine evalArgs_plain (spliced_cons (harg l o _ _ λc x p u=>spliced_nil ⟨((C.aF o).aF u).lT,?_⟩));have V:=(C.aF o).aF u;have Y:=o.trans C.ag u;obtain⟨⟨h,g,K,t,W⟩,k⟩:∃s:ZW,c.s=s:=⟨_,rfl⟩;rw[k];refine Mn (P:=X.params) (by have:=V.lT;rwa [show c.h=h from W0 Shared.heap k] at this) (λj e D=>?_) (by show 1<=sizeLine;rw[sizeLine_eq];decide)
 have fl:c.h=h:=W0 Shared.heap k;rw[<-fl] at D;obtain⟨t0,he,_,_⟩:=D.there;have e2:gw f.L c.h j:=⟨λb H _ z=>D.keeps b H z,V.ag.jX.elim λH z=>⟨H,D.keeps _ H z⟩⟩;have I:∀m,Fr f.g f.L c.h m->Fr f.g f.L j m:=λm F=>⟨F.ns.keeps D.keeps,λb H z=>D.keeps b H (F.keep b H z),F.above⟩;have Z:aT ⟨aZ O X T,f,d,A⟩ S c S ⟨c.G,⟨j,g,K,t,W⟩⟩:=.gU V.ag e2 I ⟨j,t,by rw[k]⟩
 refine V.ag.aM.elim λU J=>?_;refine YX (OF (f:=f) (d:=d) (w:=⟨c.G,⟨j,g,K,t,W⟩⟩) C.ok C.aM (d6.eg (C.dK.jw a')) ((V.ag.aF Z).at' d _) he ?_ ?_ _ λfi R zW cK M=>⟨rfl,e,rfl,?_,M,?_⟩)
 .generalize z:f.g.get? e=fp;induction fp with|none=>rfl|some H=>exact cj (J.keep e H z) D.new
 .exactλz=>V.ag.jX.elim λH y=>cj (z▸y) D.new
 .exact C.aM.K.keeps (R U (I U J)).keep
 .refine q c fi.s e Y (by obtain⟨a,b,z⟩:=zW;exact⟨a,b,by exact k▸z⟩) (λm F=>R m (I m F)) (λb H n z=>cK b H (λy=>cj (y▸z) D.new) n (D.keeps b H z)) D.new M
end
def s8(e:bM Z.bj b a=some x):bM h b a=some x:=by
 induction b using V.casesOn with
 |ref p=>exact ns (e:none=some x)
 |ins=>exact e
 |_=>nomatch e
def pq:List S:=aai [.ite (.aw .eq (.aS (.F 185) 30) (.lit (.str Z3))) [.pe 45 .add (.lit (.int 1))] []]
def PG(X:ZF):∀{g b:Nat},tw X=some b->rg (aD P N (d+9)).x [185] pq X ⟨[(74,t),(45,.int (.ofNat g))],a⟩=some (.next,⟨[(74,t),(45,.int (.ofNat (g+b)))],a⟩):=by
 induction X with
 |nil=>exactλ{g b} e=>b6 (p:=λb=>rg (aD P N (d+9)).x [185] pq [] ⟨[(74,t),(45,.int (.ofNat g))],a⟩=some (.next,⟨[(74,t),(45,.int (.ofNat (g+b)))],a⟩)) e rfl
 |cons c r S=>
  intro g b e;have e:=e;refine aA e λs G e=>aA e λv O e=>aA G λu m G=>?_;have h:bM a c 30=some (.str s):=s8 (uR G▸m);have f:(aD P N (d+8)).e (.aw .eq (.aS (.F 185) 30) (.lit (.str Z3))) ⟨[(74,t),(45,.int (.ofNat g)),(185,c)],a⟩=some (.bool (Wz s Z3),a):=by show Y (Y (bM a c 30) _) _=_;refine h▸?_;rfl
  have i:(aD P N (d+9)).x pq ⟨[(74,t),(45,.int (.ofNat g)),(185,c)],a⟩=some (.next,⟨[(74,t),(45,.int (.ofNat (match Wz s Z3 with|true=>g+1|false=>g))),(185,c)],a⟩):=by show Y (Y ((aD P N (d+8)).e _ _) _) _=_;refine f▸?_;cases Wz s Z3<;>rfl
  show Y ((aD P N (d+9)).x pq ⟨[(74,t),(45,.int (.ofNat g)),(185,c)],a⟩) _=_;refine i▸(S O).trans ?_;refine((WZ e))▸?_;generalize Wz s Z3=k;induction k with|true=>show some (fG.next,bD.mk [(74,t),(45,.int (.ofNat (g+1+v)))] a)=some (fG.next,bD.mk [(74,t),(45,.int (.ofNat (g+(v+1))))] a);rw[W9,Xa 1]|false=>rfl
def Lh(e:P.fM 34=some Dq)(L:bM Z.bj t 38=some (.ae X))(R:tw X=some c)(f:Nat.beq c (Wx X)):(aD P N (b+14)).c .inl 34 [t] a=some (.ay [.int (.ofNat c),.int 0],a):=by
 have d:bM a t 38=some (.ae X):=s8 L;have I:∀{j:Nat}{A:ZD},(aD P N (b+j+2)).e (.aS (.F 74) 38) ⟨(74,t)::A,a⟩=some (.ae X,a):=λ{j A}=>by show Y (bM a t 38) _=_;refine d▸?_;rfl
 have S:=PG (P:=P) (N:=N) (d:=b+2) (t:=t) (a:=a) X (g:=0) R;rw[W7] at S;have E:k9 (aD P N (b+11)) (.b5 [185] (.e (.aS (.F 74) 38)) pq) ⟨[(74,t),(45,.int 0)],a⟩=some (.next,⟨[(74,t),(45,.int (.ofNat c))],a⟩):=by show Y (Y ((aD P N (b+11)).e (.aS (.F 74) 38) ⟨[(74,t),(45,.int 0)],a⟩) _) _=_;refine(show b+11=b+9+2 from rfl)▸I▸?_;show Y (rg (aD P N (b+2+9)).x [185] pq X ⟨[(74,t),(45,.int (.ofNat 0))],a⟩) _=_;rw[S];rfl
 have Q:(aD P N (b+10)).e (.ay [(.F 45),(.a7 .sub false (.bq false .len [(.aS (.F 74) 38)]) (.F 45))]) ⟨[(74,t),(45,.int (.ofNat c))],a⟩=some (.ay [.int (.ofNat c),.int 0],a):=by show Y (Y (Y (Y (Y (Y ((aD P N (b+7)).e (.aS (.F 74) 38) ⟨[(74,t),(45,.int (.ofNat c))],a⟩) _) _) _) _) _) _=_;refine(show b+7=b+5+2 from rfl)▸I▸?_;show some (V.ay [.int (.ofNat c),.int (Int.ofNat (Wx X)-Int.ofNat c)],a)=_;rw[W2 f,Int.sub_self]
 show Y (P.fM 34) _=_;refine e▸?_;show t9 (Y (k9 (aD P N (b+11)) (.b5 [185] (.e (.aS (.F 74) 38)) pq) ⟨[(74,t),(45,.int 0)],a⟩) _)=_;refine E▸?_;show t9 (Y (Y ((aD P N (b+10)).e _ _) _) _)=_;rw[Q];rfl
@[irreducible] noncomputable def oW:ZZ:=.Assign [.Name "wanted" ⟨267,4,267,10⟩] (.Attribute (.Attribute (.Name "tables" ⟨267,13,267,19⟩) "grammar" ⟨267,13,267,27⟩) "expect" ⟨267,13,267,34⟩) ⟨267,4,267,34⟩
@[irreducible] noncomputable def oV:ZU:=.Compare (.Name "wanted" ⟨268,7,268,13⟩) [.IsNot] [.Constant .none 0 ⟨268,21,268,25⟩] ⟨268,7,268,25⟩
@[irreducible] noncomputable def oX:ZZ:=.Assign [.Tuple [.Name "shifts" ⟨269,8,269,14⟩,.Name "reductions" ⟨269,16,269,26⟩] 0 ⟨269,8,269,26⟩] (.Call (.Name "conflict_counts" ⟨269,29,269,44⟩) [.Name "tables" ⟨269,45,269,51⟩] [] ⟨269,29,269,52⟩) ⟨269,8,269,52⟩
@[irreducible] noncomputable def oT:ZU:=.Compare (.Name "reductions" ⟨270,11,270,21⟩) [.Gt] [.Constant (.int 0) 0 ⟨270,24,270,25⟩] ⟨270,11,270,25⟩
@[irreducible] noncomputable def oU:ZU:=.Compare (.Name "shifts" ⟨272,11,272,17⟩) [.NotEq] [.Name "wanted" ⟨272,21,272,27⟩] ⟨272,11,272,27⟩
@[irreducible] noncomputable def uO:ZU:=.BinOp (.BinOp (.BinOp (.Call (.Name "str" ⟨273,31,273,34⟩) [.Name "shifts" ⟨273,35,273,41⟩] [] ⟨273,31,273,42⟩) .Add (.Constant (.str " shift/reduce conflicts, ") 0 ⟨273,45,273,72⟩) ⟨273,31,273,72⟩) .Add (.Call (.Name "str" ⟨273,75,273,78⟩) [.Name "wanted" ⟨273,79,273,85⟩] [] ⟨273,75,273,86⟩) ⟨273,31,273,86⟩) .Add (.Constant (.str " expected") 0 ⟨273,89,273,100⟩) ⟨273,31,273,100⟩
@[irreducible] noncomputable def oY:ZZ:=.Return (some (.Name "tables" ⟨274,11,274,17⟩)) ⟨274,4,274,17⟩
def uc:S:=aai (.bY (.F 132) (.aS (.aS (.F 74) 33) 113))
def qR:E:=aai (.aw .mW (.F 132) (.lit .none))
def ud:S:=aai (.bY (.ay [45,49]) (.call .inl 34 [.F 74]))
def qP:E:=aai (.aw .gt (.F 49) (.lit (.int 0)))
def qQ:E:=aai (.aw .cC (.F 45) (.F 132))
def ue:S:=aai (.ret (some (.F 74)))
def JH(P:ZT):List ZZ:=mz ((mz ((kD (gS (bH P) 35)).getD 1 iI)).getD 1 iI)
def EG(P:ZT):List ZZ:=[oX,.If oT (JH P) [] ⟨270,8,271,91⟩,.If oU [.Raise (some (.Call (.Name "GrammarError" ⟨273,18,273,30⟩) [uO] [] ⟨273,18,273,101⟩)) none ⟨273,12,273,101⟩] [] ⟨272,8,273,101⟩]
def KA(P:ZT):kD (gS (bH P) 35)=[oW,.If oV (EG P) [] ⟨268,4,273,101⟩,oY]:=by kernel_rfl
abbrev jZ(P:ZT):ZV->Z0 ZR:=ic (gS (bH P) 35).scope
section
variable(O:Nat->ZF->Z0 V)(X:ZS)(T:hc)
def Ks:m9 (aZ O X T) 117 (jZ X.params) uc oW/\ke (aZ O X T) 117 uc oW=oW:=⟨by kernel_rfl,by kernel_rfl⟩
def Kt:bQ (aZ O X T) 117 (jZ X.params) qR oV/\aJ (aZ O X T) 117 qR oV=oV:=⟨by kernel_rfl,by kernel_rfl⟩
def Ku:m9 (aZ O X T) 117 (jZ X.params) ud oX/\ke (aZ O X T) 117 ud oX=oX:=⟨by kernel_rfl,by kernel_rfl⟩
def Kv:bQ (aZ O X T) 117 (jZ X.params) qP oT/\aJ (aZ O X T) 117 qP oT=oT:=⟨by kernel_rfl,by kernel_rfl⟩
def Kw:bQ (aZ O X T) 117 (jZ X.params) qQ oU/\aJ (aZ O X T) 117 qQ oU=oU:=⟨by kernel_rfl,by kernel_rfl⟩
def Kx:m9 (aZ O X T) 117 (jZ X.params) ue oY/\ke (aZ O X T) 117 ue oY=oY:=⟨by kernel_rfl,by kernel_rfl⟩
def Cv:(cN (aZ O X T) 35=117/\cN (aZ O X T) 1+40<=117)/\(jZ X.params "GrammarError"=some .globalImplicit/\jZ X.params "str"=some .globalImplicit)/\e4 45="shifts"/\e4 132="wanted"/\i0 (jZ X.params) "shifts"/\i0 (jZ X.params) "wanted":=
 ⟨⟨by kernel_rfl,WY rfl⟩,⟨by kernel_rfl,by kernel_rfl⟩,rfl,rfl,by kernel_rfl,by kernel_rfl⟩
end
structure ID(X:cn)(f:ed)(a:Z)(w:aL)(e:ZP)(s:ZW)(G:aL)(B:ZQ):Prop where
 aH:bB X a G
 step:cG a w a G (iw f)
 dd:fm w ⟨G.G,s⟩
 keep:∀b H,G.h.get? b=some H->B.get? b=some H\/b=e\/((∀c,H.data≠.fields c)/\((w.h.get? b=none/\cY b a G)\/b∈(f.bx::f.hS).filterMap (·.frame)))
 new:w.h.get? e=none
 own:cY e a G
 Wv:∃d,Heap.FlyingW B (f.bx::f.hS) e (.ref 59) d s.heap
 up:G.h.UpToSlots s.heap
section
variable{O:Nat->ZF->Z0 V}{X:ZS}{T:hc}{f:ed}{d:Env}{A:ZX}{S:Z}
def bJ.b7(C:bJ a' c' h' S f')(T:cO a' S f' hp' w')(j:fI a'.X w' a'.af ls'):bJ a' c' ls' hp' w':=⟨C.ok,C.aM,C.dK,C.bU,C.ag.b7 T,j⟩
def A0:(Str.ofString " shift/reduce conflicts, ").length<=40/\(Str.ofString " expected").length<=40:=⟨by decide+kernel,by decide+kernel⟩
def Jv(C:bJ ⟨aZ O X T,f,d,A⟩ 117 [(74,t),(132,.int (.ofNat c)),(45,.int (.ofNat e)),(49,.int 0)] S w)(V:d.kindOf=jZ X.params)(g:c<64)(R:e<64)(Q:ZG)(E:ZG)(z:∀B x s,aT ⟨aZ O X T,f,d,A⟩ S w S B->Q (.str x s) B.s):
  wpAny (model eb X) A (eval uO d) Q E w.s:=by
 obtain⟨_,⟨_,q⟩,k,D,r,m⟩:=Cv O X T;have y:(aZ O X T).az 45="shifts":=k;have v:(aZ O X T).az 132="wanted":=D;have a:=Hm (g:=⟨273,31,273,34⟩) (d:=⟨273,35,273,41⟩) (e:=⟨273,31,273,42⟩) C rfl R (by show i0 d.kindOf _=true;exact V▸y▸r) (by rw[y];rfl) (by have q:=V▸q;exact q)
 have a:=y▸a;unfold uO;refine wpAny_BinOp (wpAny_BinOp (wpAny_BinOp (a _ E λJ K l=>?_)));refine Zp (SB.add (λo j=>?_) (W5 (XY (xx R) A0.1) (by rw[sizeLine_eq];decide)))
 have h:=l.trans C.ag (.a8 (C.aF l).ag j);have b:=Hm (c:=⟨aZ O X T,f,d,A⟩) (q:=132) (m:=c) (g:=⟨273,75,273,78⟩) (d:=⟨273,79,273,85⟩) (e:=⟨273,75,273,86⟩) (C.aF h) rfl g (by show i0 d.kindOf _=true;exact V▸v▸m) (by rw[v];rfl) (by have q:=V▸q;exact q)
 have b:=v▸b;refine b _ E λI u i=>?_;have G:=Co (xx R) A0.1;refine SB.add (λH n=>?_) (W5 (XY G (xx g)) (by rw[sizeLine_eq];decide))
 refine Zp (SB.add (λF p=>?_) (W5 (XY (Co G (xx g)) A0.2) (by rw[sizeLine_eq];decide)))
 exact z (I.a8 p) _ F ((h.trans C.ag i).trans C.ag (.a8 ((C.aF h).aF i).ag p))
structure xZ(t g:V)(a:ZF)(n b:Nat):Prop where
 L6:bM Z.bj t 33=some g
 L5:bM Z.bj t 38=some (.ae a)
 bO:bM Z.bj g 113=some (.int (.ofNat n))
 eM:tw a=some b
 L7:Nat.beq b (Wx a)=true
 hq:b<64
 Ou:n<64
set_option maxHeartbeats 400000 in
set_option backward.match.sparseCases true in
def Kr(s':g9 (aZ O X T))(fr:hZ (aZ O X T) f)(x2:d6 f A (cN (aZ O X T) 35+20))(I:aP ⟨aZ O X T,f,d,A⟩ S w)(r:o (aZ O X T) w t H)(L:xZ t g P c i)(R:Result->ZN)
  (WC:Nat.beq i c->∀l G,aT ⟨aZ O X T,f,d,A⟩ S w S l->o (aZ O X T) l t G->R (.ok (.ret G)) l.s)(WD:Nat.beq i c=false->∀e s N B,ID (aZ O X T) f S w e s N B->R (.error (.ref e)) s):
  codeAny (model eb X) A (.call (.ref ((aZ O X T).di 35)) ⟨[H],[]⟩) R w.s:=by
 obtain⟨rt,F,nk,od,hdv⟩:=vN O X T (35,[74],[]) (.tail _ (.head _));dsimp only at nk od hdv;obtain⟨⟨b35,x3⟩,⟨Q2,WM⟩,_⟩:=Cv O X T;have ga:∀h,bM h t 33=some g:=λh=>s8 L.L6;have Ex:∀h,bM h g 113=some (.int (.ofNat c)):=λh=>s8 L.bO;refine vj (l:=[(74,t)]) (dE:=λl fi=>Nat.beq i c=true/\bB (aZ O X T) S l/\cG S w S l (iw f)/\o (aZ O X T) l t fi) R s' F fr x2 I rfl (λWL WV q G z=>?_) (λj w1 x8 l2 C U WN fs nw bnd Q E x _ ys=>?_) λl fi a b p=>WC p.1 l fi ⟨p.2.1,p.2.2.1,a,b⟩ p.2.2.2
 .have z:(match Nat.beq 74 q with|true=>some t|false=>none)=some G:=z
  generalize e:Nat.beq 74 q=M;induction M with|false=>have z:=e▸z;exact cB z|true=>have z:=e▸z;exact⟨H,W2 e▸.head _,WZ z▸r⟩
 have C:=b35▸C;have V:j.bx.kindOf=jZ X.params:=by rw[x8];show ic rt.scope=_;rw[od]
 have v:=He 30;rw[nk,KA];refine XM ?_;have o0:=Ks O X T;have Wy:m9 (aZ O X T) 117 j.bx.kindOf uc oW:=by exact V▸o0.1
 have fl:=uj v uc ⟨aZ O X T,j,j.bx,A.deeper j.bx⟩ ⟨[(74,t)],S⟩ .next ⟨[(74,t),(132,.int (.ofNat c))],S⟩ 116 oW w1 (by show Y (Y (Y (bM S t 33) _) _) _=_;rw[ga];show Y (Y (bM S g 113) _) _=_;rw[Ex];rfl) Wy C
 have fl:=(show ke (aZ O X T) (116+1) uc oW=oW from o0.2)▸fl;refine fl _ E λl WS hF fo2=>?_;rw[fo2.1];have a':=C.b7 hF fo2.2;have pl:=Kt O X T;have Wz:bQ (aZ O X T) 117 j.bx.kindOf qR oV:=by exact V▸pl.1
 have fp:=(v.t qR).aO (c:=⟨aZ O X T,j,j.bx,A.deeper j.bx⟩) (k:=117) (x:=oV) (b:=true) rfl (h:=show(aD (aZ O X T).P (aZ O X T).N 30).e qR ⟨[(74,t),(132,.int (.ofNat c))],S⟩=some (.bool true,S)by kernel_rfl) rfl Wz a'
 have fp:=(show aJ (aZ O X T) 117 qR oV=oV from pl.2)▸fp;refine XM (wpAny_If (fp _ E λWE WI h1 x4=>?_));rw[x4,if_pos rfl];have hj:=a'.aF h1;unfold EG;have o10:=Ku O X T;have p10:m9 (aZ O X T) 117 j.bx.kindOf ud oX:=by exact V▸o10.1
 have z10:=uj v ud ⟨aZ O X T,j,j.bx,A.deeper j.bx⟩ ⟨[(74,t),(132,.int (.ofNat c))],S⟩ .next ⟨[(74,t),(132,.int (.ofNat c)),(45,.int (.ofNat i)),(49,.int 0)],S⟩ 116 oX WE (by
  show Y ((aD (aZ O X T).P gx 29).c .inl 34 [t] S) _=_;rw[show(29:Nat)=15+14 from rfl,Lh rfl L.L5 L.eM L.L7]
  rfl) p10 hj
 have z10:=(show ke (aZ O X T) (116+1) ud oX=oX from o10.2)▸z10;refine XM (z10 _ E λWW WT h2 fo4=>?_);rw[fo4.1];have cK:=hj.b7 h2 fo4.2;have o11:=Kv O X T;have p11:bQ (aZ O X T) 117 j.bx.kindOf qP oT:=by exact V▸o11.1
 have z11:=(v.t qP).aO (c:=⟨aZ O X T,j,j.bx,A.deeper j.bx⟩) (k:=117) (x:=oT) (b:=false) rfl (h:=show(aD (aZ O X T).P (aZ O X T).N 30).e qP ⟨[(74,t),(132,.int (.ofNat c)),(45,.int (.ofNat i)),(49,.int 0)],S⟩=some (.bool false,S)by kernel_rfl) rfl p11 cK
 have z11:=(show aJ (aZ O X T) 117 qP oT=oT from o11.2)▸z11;refine XM (wpAny_If (z11 _ E λN WJ kk x5=>?_));rw[x5,if_neg (by decide)]
 refine Yl ?_;have c':=cK.aF kk;have o12:=Kw O X T;have p12:bQ (aZ O X T) 117 j.bx.kindOf qQ oU:=by exact V▸o12.1
 have z12:=(v.t qQ).aO (c:=⟨aZ O X T,j,j.bx,A.deeper j.bx⟩) (k:=117) (x:=oU) (b:= !(Nat.beq i c)) rfl (h:=show(aD (aZ O X T).P (aZ O X T).N 30).e qQ ⟨[(74,t),(132,.int (.ofNat c)),(45,.int (.ofNat i)),(49,.int 0)],S⟩=some (.bool (!(Nat.beq i c)),S)by kernel_rfl) rfl p12 c'
 have z12:=(show aJ (aZ O X T) 117 qQ oU=oU from o12.2)▸z12;refine XM (wpAny_If (z12 _ E λq0 WK kz x6=>?_));have n:=c'.aF kz;have T16:cO ⟨aZ O X T,j,j.bx,A.deeper j.bx⟩ S w1 S q0:=(((hF.trans C.ag (h1.b7 a'.ag)).trans C.ag h2).trans C.ag (kk.b7 cK.ag)).trans C.ag (kz.b7 c'.ag);rw[x6];generalize hkn:Nat.beq i c=M;induction M with
 |true=>
  rw[if_neg (by decide)]
  refine Yl (Yl ?_);have e2:=Kx O X T;have WA:m9 (aZ O X T) 117 j.bx.kindOf ue oY:=by exact V▸e2.1
  have fv:=uj v ue ⟨aZ O X T,j,j.bx,A.deeper j.bx⟩ ⟨[(74,t),(132,.int (.ofNat c)),(45,.int (.ofNat i)),(49,.int 0)],S⟩ (.ret t) ⟨[(74,t),(132,.int (.ofNat c)),(45,.int (.ofNat i)),(49,.int 0)],S⟩ 116 oY q0 rfl WA n;have fv:=(show ke (aZ O X T) (116+1) ue oY=oY from e2.2)▸fv;refine XM (fv _ E λWG WU w' fo7=>?_);obtain⟨qs,x7,WB⟩:=fo7;have Z:=T16.trans C.ag w';rw[x7];exact x WG (.ret qs) qs Z.aM Z.dd rfl ⟨hkn,Z.aH,U.step.mi I.aH Z.step λb z=>.inr (fs b z),WB⟩
 |false=>
  rw[if_pos (by decide)]
  refine XM (Ss n x3 (by exact V▸Q2) (by unfold uO;rfl) (λWX x1 Q E z=>Jv (n.aF x1) V L.Ou L.hq Q E z) λk K e k0 bc fr3 L2 ne ex=>ys _ _ ?_)
  obtain⟨WR,t1,he,F',hd⟩:=ex;have u:=(n.aF k0).ag;obtain⟨WO,hr⟩:∃m,Fr j.g j.L K.heap m:=u.aM.elim λm wd=>⟨m,fr3 m wd⟩;have kb5:gw j.L k.h K.heap:=⟨L2,hr.ns.elim λJ y=>y.elim λ_ y=>y.elim λ_ y=>⟨J,y.1⟩⟩;have T5':aT ⟨aZ O X T,j,j.bx,A.deeper j.bx⟩ S k S ⟨k.G,K⟩:=.gU u kb5 fr3 bc;have T1b:cO ⟨aZ O X T,j,j.bx,A.deeper j.bx⟩ S w1 S k:=T16.trans C.ag (k0.b7 n.ag);have W:cO ⟨aZ O X T,j,j.bx,A.deeper j.bx⟩ S w1 S ⟨k.G,K⟩:=T1b.trans C.ag (T5'.b7 u);have WH:w.h.get? e=none:=by
   generalize q:w.h.get? e=M;induction M with|none=>rfl|some J=>exact((U.step.mi I.aH T1b.step λb z=>.inr (fs b z)).er e J q).elim λWQ y=>cj y ne
  have hi:=pushX C.aM.B hr C.aM.lW C.aM.kind;refine wpAny_leaving_firstW C.dK.frames (funFrames_hide (as:=e::(j.bx::j.hS).filterMap (·.frame)) hi.frames λd he a hf=>.tail _ (YG.mpr ⟨d,he,hf⟩)) C.aM.lW he (λb J z=>of_hideAll _ z) (hideAll_none _ (.head _)) hd rfl rfl λh' Ey=>?_;obtain⟨L1,⟨_,_,k2⟩,Q1,O'⟩:=Ey;refine WD hkn e _ ⟨k.G,K⟩ _ ⟨W.aH,U.step.mi I.aH W.step λb z=>.inr (fs b z),(U.dd.trans W.dd).trans ⟨h',_,rfl⟩,λb J z=>?_,WH,⟨λy=>(u.aH.bI e y).1.elim λ_ y=>cj y ne,λp Wx y=>u.aH.kT ne Wx y⟩,⟨_,L1,hideAll_none _ (.head _),l2▸k2,F'▸Q1⟩,O'⟩
  by_cases D:b∈e::(j.bx::j.hS).filterMap (·.frame)
  .refine .inr ?_
   cases D with
   |head=>exact .inl rfl
   |tail _ D=>
    obtain⟨_,e2,ho2,nf2⟩:=hi.frames.mem D;refine .inr ⟨WZ (ho2.symm.trans z)▸nf2,?_⟩;obtain⟨x',e1,mm⟩:=YG.mp D;cases e1 with
    |head=>have l1:b=j.L:=WZ (mm.symm.trans C.aM.lW);exact .inl ⟨fs b (.inl l1),l1▸(C.ag.b7 W).own⟩
    |tail _ e1=>exact .inr (YG.mpr ⟨x',l2▸e1,mm⟩)
  .exact .inl (hideAll_get _ z D)
end
@[irreducible] noncomputable def u3:ZU:=.Call (.Name "checked" ⟨897,15,897,22⟩) [.Name "tables" ⟨897,23,897,29⟩] [] ⟨897,15,897,30⟩
@[irreducible] noncomputable def xy:ZU:=.Name "tables" ⟨897,39,897,45⟩
def PE(P:ZT):kD (gS (bH P) 135)=[.Try [.Return (some (.Compare (.Attribute u3 "rows" ⟨897,15,897,35⟩) [.Eq] [.Attribute xy "rows" ⟨897,39,897,50⟩] ⟨897,15,897,50⟩)) ⟨897,8,897,50⟩]
 [.ExceptHandler (some (.Name "GrammarError" ⟨898,11,898,23⟩)) none [.Return (some (.Constant (.bool false) 0 ⟨899,15,899,20⟩)) ⟨899,8,899,20⟩] ⟨898,4,899,20⟩] [] [] ⟨896,4,899,20⟩]:=by kernel_rfl
abbrev v5(P:ZT):ZV->Z0 ZR:=ic (gS (bH P) 135).scope
def PF(O:Nat->ZF->Z0 V)(W:ZS)(T:hc):(cN (aZ O W T) 135=585/\cN (aZ O W T) 35+20<=585)/\(v5 W.params "GrammarError"=some .globalImplicit/\v5 W.params "checked"=some .globalImplicit)/\(e4 74="tables"/\e4 36="rows")/\i0 (v5 W.params) "tables"/\(nsIn (bH W.params) mainGlobals "checked").join=some (.ref 382)/\keepIn (bH W.params) (.ref 382)/\gD 35=382:=
 ⟨⟨by kernel_rfl,WY rfl⟩,⟨by kernel_rfl,by kernel_rfl⟩,⟨by kernel_rfl,rfl⟩,by kernel_rfl,rfl,by kernel_rfl,rfl⟩
def F8:p7 u3/\p7 xy:=⟨by unfold u3;rfl,by unfold xy;rfl⟩
def HM(e:la a Z.bj=some x):la a h=some x:=by
 induction a using V.casesOn with|ref p=>exact cB e|_=>exact e
def K6(e:dy .eq a b Z.bj=some r):dy .eq a b h=some r:=aA e λx d e=>aA e λy n e=>by refine(?_:Y (la a h) (λa=>Y (la b h) λb=>gs 20 a b)=_);exact(HM d)▸(HM n)▸e
def bB.E3(M:bB x' h' f')(Y:∀c',Ex c'->cY c' h' f')(V:∀c' a',¬Ex c'->f'.h.get? c'=some a'->s'.heap.get? c'=some a')(W:∀c' a',f'.h.get? c'=some a'->∃w',s'.heap.get? c'=some w'):bB x' h' ⟨f'.G,s'⟩/\cG h' f' h' ⟨f'.G,s'⟩ Ex:=by
 have E:cM f' ⟨f'.G,s'⟩:=⟨λ_ j=>j,λ_ _ j=>j,λu a' C o=>V u a' (λJ=>(Y u J).a0 C) o⟩;exact⟨⟨λU a' o=>(M.slot U a' o).ext E rfl λj ex=>V _ j (λJ=>(Y _ J).aX U ⟨a',o⟩ rfl) ex,M.inj,λu C=>(M.bI u C).imp (λj=>j.elim (W u)) id,M.gM⟩,
  λ_ j=>j,λ_ _ j=>j,λ_ _ _=>rfl,λc' a' o J _=>V c' a' J o,W,λU cK=>.inl ⟨cK,rfl⟩,λU a' w' o Z=>W0 bc (WZ (Z.symm.trans o)),Xe _,λu C=>.inl C⟩
section
variable{O:Nat->ZF->Z0 V}{X:ZS}{T:hc}{f:ed}{d:Env}{A:ZX}{S:Z}
set_option backward.match.sparseCases true in
def PJ(e1:g9 (aZ O X T))(M:hZ (aZ O X T) f)(mm:d6 f A (cN (aZ O X T) 135+20))(I:aP ⟨aZ O X T,f,d,A⟩ S w)(r:o (aZ O X T) w t G)(L:xZ t g H c i)(hr:Nat.beq i c->bM Z.bj t 36=some gZ/\dy .eq gZ gZ Z.bj=some true)(R:Result->ZN)
  (q:∀h,aT ⟨aZ O X T,f,d,A⟩ S w S h->R (.ok (.ret (.bool (Nat.beq i c)))) h.s):codeAny (model eb X) A (.call (.ref ((aZ O X T).di 135)) ⟨[G],[]⟩) R w.s:=by
 obtain⟨x1,F,pl,qs,hdv⟩:=vN O X T (135,[74],[]) (.head _);dsimp only at pl qs hdv;obtain⟨⟨b135,b35⟩,⟨Ex,ys⟩,⟨n74,n36⟩,Ey,glC,kpC,fa35⟩:=PF O X T;have glC':(aZ O X T).jV "checked"=some (.ref 382):=glC;have lev:f.hS=[]:=by
  have z:=mm.rq;rw[b135] at z;unfold Bs at z;generalize q:f.hS=Y;induction Y with|nil=>rfl|cons a r=>rw[q,Xx] at z;lia
 refine vj (l:=[(74,t)]) (dE:=λh q0=>q0=.bool (Nat.beq i c)/\bB (aZ O X T) S h/\cG S w S h (iw f)) R e1 F M mm I rfl (λWG WM q v z=>?_) (λP w1 x6 x7 C J WJ W nw bnd Q E x raw _=>?_) λh q0 a b p=>p.1▸q h ⟨p.2.1,p.2.2,a,b⟩
 .have z:(match Nat.beq 74 q with|true=>some t|false=>none)=some v:=z
  generalize e:Nat.beq 74 q=Y;induction Y with|false=>rw[e] at z;exact cB z|true=>rw[e] at z;exact⟨G,W2 e▸.head _,WZ z▸r⟩
 rw[b135] at C;have kd:P.bx.kindOf=v5 X.params:=by rw[x6];refine(?_:ic x1.scope=_);rw[qs]
 rw[pl,PE];have tK:∀{K:aL}{p:Pos}{Q:ZG}{E:ZG},bJ ⟨aZ O X T,P,P.bx,A.deeper P.bx⟩ 585 [(74,t)] S K->(∀w' v,aT ⟨aZ O X T,P,P.bx,A.deeper P.bx⟩ S K S w'->o (aZ O X T) w' t v->Q v w'.s)->wpAny (model eb X) (A.deeper P.bx) (eval (.Name "tables" p) P.bx) Q E K.s:=λ{K p Q E} D q=>by
  have z:=z1 (c:=⟨aZ O X T,P,P.bx,A.deeper P.bx⟩) (n:=74) (v:=t) (X:=p) D.ag D.bU D.dc (by show i0 P.bx.kindOf (e4 74)=true;exact kd▸n74▸Ey) rfl (by show(e4 74==_)=false;rw[n74];decide) (by show(e4 74==_)=false;rw[n74];decide) Q E q
  rwa [show(aZ O X T).az 74="tables" from n74] at z
 refine XM (wpAny_Try_except (XM (Zu (wpAny_Compare1 (Attribute_any_ ?_ (by
   show(do let j<-attributeBase _ _ P.bx (eval _ P.bx);_)=_
   rw[uT F8.1])) rfl))))
 unfold u3;refine YC (vJ C (by exact kd▸ys) glC' (by decide) _ _ λh fv k0 e2=>e2▸?_)
 have c':=C.aF k0;refine t' (c:=⟨aZ O X T,P,P.bx,A.deeper P.bx⟩) kpC _ _ _ (oE rfl) (evalArgs_plain (spliced_cons (tK c' λrt WA fi Q1=>spliced_nil ⟨(c'.aF fi).lT,?_⟩)));have a':=c'.aF fi;have T13:=k0.trans C.ag fi;refine YX (fa35▸Kr e1 C.aM (C.dK.jw b35) a'.ag Q1 L _ (λhkn WS v4 l1 Q2=>?_) λhkn e s n B fl=>?_:codeAny _ _ (.call (.ref 382) ⟨[WA],[]⟩) _ _)
 .have h1:=a'.aF l1
  obtain⟨hr1,hr2⟩:=hr hkn;have at36:∀{K:aL}{v:ZO},bJ ⟨aZ O X T,P,P.bx,A.deeper P.bx⟩ 585 [(74,t)] S K->o (aZ O X T) K t v->aR ⟨aZ O X T,P,P.bx,A.deeper P.bx⟩ (getAttr v "rows" true) S K S gZ:=λ{K v} D p=>by
   have z:=DW (c:=⟨aZ O X T,P,P.bx,A.deeper P.bx⟩) (a:=36) (i:=true) D (show 36<187 by decide) (s8 hr1) p
   rwa [show(aZ O X T).az 36="rows" from n36] at z
  refine at36 h1 Q2 _ _ λn WO l2 Wx=>?_;have N:=h1.aF l2;refine Attribute_any_ ?_ (by
   show(do let j<-attributeBase _ _ P.bx (eval _ P.bx);_)=_
   rw[uT F8.2])
  unfold xy;refine tK N λWT v6 U Wy=>at36 (N.aF U) Wy _ _ λWU WQ fp Wz=>?_;have h2:=(N.aF U).aF fp;refine pv (c:=⟨aZ O X T,P,P.bx,A.deeper P.bx⟩) (f:=.eq) h2.ag h2.units (K6 hr2) ((Wx.ext (N.ag.ext U)).ext ((N.ag.aF U).ext fp)) Wz _ _ λWB WR x4 x5=>?_;rw[x5];have T18:=((((T13.trans C.ag l1).trans C.ag l2).trans C.ag U).trans C.ag fp).trans C.ag x4;exact x WB (.ret (.bool true)) (.bool true) (T18.b7 C.ag).aM T18.dd rfl ⟨by rw[hkn],T18.aH,J.step.mi I.aH T18.step λb z=>.inr (W b (.inl z))⟩
 .obtain⟨rel5,st5,zX,keep5,new5,own5,⟨WE,fly⟩,up5⟩:=fl
  obtain⟨m,h'⟩:=I.aM;have S15:cG S w1 S n (iw P):=T13.step.trans C.ag.aH st5;have S05:cG S w S n (iw f):=J.step.mi I.aH S15 λb z=>.inr (W b (.inl z));have frm:∀b,b∈(P.bx::P.hS).filterMap (·.frame)->b=P.L\/b=f.L:=λb z=>by
   obtain⟨WH,u,nk⟩:=YG.mp z;cases u with
   |head=>exact .inl (WZ (nk.symm.trans C.aM.lW))
   |tail _ u=>
    rw[x7] at u;cases u with
    |head=>exact .inr (WZ (nk.symm.trans M.lW))
    |tail _ u=>rw[show(⟨aZ O X T,f,d,A⟩:cu).f.hS=[] from lev] at u;exact eu u
  have has3:∀b j,w.h.get? b=some j->∃hj,rt.h.get? b=some hj:=λb j z=>(J.step.er b j z).elim λL2 z=>T13.step.er b L2 z;have inB:∀b j,w.h.get? b=some j->b≠f.L->n.h.get? b=some j->B.get? b=some j:=λb j z c WD=>by obtain⟨WK,s'⟩:=has3 b j z;refine(keep5 b j WD).elim id λy=>y.elim (λy=>cj (y▸s') new5) λy=>y.2.elim (λy=>cj s' y.1) λy=>(frm b y).elim (λy=>cj z (W b (.inl y))) λy=>absurd y c
  have od:∀b j,f.g.get? b=some j->B.get? b=some j:=λb j z=>by have c:b≠f.L:=λy=>cj (y▸z) (kts_self h');have wd:=h'.keep b j z;exact inB b j wd c (S05.keep b j wd c λp l y=>cj z (y▸I.new p l.e'))
  refine wpAny_looks_onW C.dK.frames C.aM.lW fly λWI held4 up4=>wpAny_landsW held4 λx8 V up6=>?_;have kk:∀b j,f.g.get? b=some j->x8.get? b=some j:=λb j z=>V.1 b j (od b j z);obtain⟨WL,hob,hobc⟩:=V.there;refine wpAny_handleBy_cons (codeAny_handlers_test (Name_function_global C.bU.kind (by exact kd▸Ex) (loadGlobal_global (by exact C.bU.ia▸M.T.g.keeps kk) (mg_of M.K M.T.g (e1.rZ.jV _ _ (zo X.params).1)) ?_) (by decide))) (by intro q;cases q)
  refine wpAny_excMatches_sub_self (kk _ _ (M.K _ _ (sJ X.params))) hob hobc Dd.2 (codeAny_handlers_suite ?_);refine wpAny_setFlight_noneW V.1 V.2.2.1 V.2.2.2 λcK hi k2 k x'=>?_;refine XM (Zu (wpAny_Constant_bool ?_));have up:n.h.UpToSlots cK:=((up5.trans up4).trans up6).trans λb j z c=>⟨j.slots,x' b j z c⟩;have own3:∀b,b=P.L\/b=f.L->cY b S n:=λb z=>z.elim (λz=>z▸a'.ag.own.step a'.ag.jX st5) λz=>z▸I.own.step I.jX S05;have none3:∀b,rt.h.get? b=none->w.h.get? b=none:=λb z=>by
   generalize q:w.h.get? b=Y;induction Y with|none=>rfl|some j=>exact(has3 b j q).elim λhj y=>cj y z
  have kz:=bB.E3 (s':={s with heap:=cK}) (Ex:=λb=>b=f.L\/(w.h.get? b=none/\cY b S n)) rel5 (λb z=>z.elim (λz=>own3 b (.inr z)) (·.2)) (λb j c z=>(keep5 b j z).elim (hi b j) λy=>absurd (y.elim (λy=>.inr ⟨y▸none3 e new5,y▸own5⟩) λy=>y.2.elim (λy=>.inr ⟨none3 b y.1,y.2⟩) λy=>(frm b y).elim (λy=>.inr ⟨W b (.inl y),own3 b (.inl y)⟩) .inl) c)
   (λb j z=>(keep5 b j z).elim (λy=>⟨j,hi b j y⟩) λy=>y.elim (λy=>k.elim λO' k=>k.elim λ_ k=>k.elim λ_ k=>k.elim λ_ k=>k.elim λ_ k=>⟨O',y▸k.1⟩) λy=>(up b j z y.1).elim λWN y=>⟨_,y⟩)
  refine raw (.ret (.bool false)) _ ?_;have z:=q ⟨n.G,{s with heap:=cK}⟩ ⟨kz.1,S05.mi I.aH kz.2 λb z=>z.imp id (·.1),λL1 F'=>?_,((J.dd.trans T13.dd).trans zX).trans ⟨cK,s.toks,rfl⟩⟩
  .rw[hkn] at z;exact z
  .have x2:=J.aM L1 F'
   have x3:=I.own.step I.jX J.step;exact⟨up.ns (x2.ns.at' λj y=>S15.keep _ j y (λhF=>(I.jX.elim λhj WC=>cj WC (W _ (.inl hF)))) λp l hF=>x3.aX p l.e' hF),λb j y=>hi b j (od b j y),F'.above⟩
end
section
variable{O g:Nat->ZF->Z0 V}{X:ZS}{T:hc}{f:ed}
def o.g4(u:o (aZ O X T) c' f' a'):o (aZ g X T) c' f' a':=
 o.rec
  .none .bool .int .str (λf C j _ u=>.ay f C j u) (λf C j _ u=>.ae f C j u) (λf W C j _ u=>.ah f W C j u) (λV f U C M _ u=>.ins V f U C M u)
  .ref (λf C j _ u=>.hy f C j u) .nil (λ_ _ J j=>.cons J j) .nil (λ_ _ J j=>.cons J j) .nil (λ_ _ J j=>.cons J j) u
def aK.g4:∀{a':ZJ},aK (aZ O X T) f' c' a'->aK (aZ g X T) f' c' a':=by
 induction c' with|nil=>exactλj=>by cases j;exact .nil|cons o J C=>exactλj=>by cases j with|cons o u=>exact .cons o.g4 (C u)
def b2.g4:∀{a':List (aE×ZO)},b2 (aZ O X T) f' c' a'->b2 (aZ g X T) f' c' a':=by
 induction c' with|nil=>exactλj=>by cases j;exact .nil|cons o J C=>exactλj=>by cases j with|cons o u=>exact .cons o.g4 (C u)
def dB.g4:∀{a':List DictEntry},dB (aZ O X T) f' c' a'->dB (aZ g X T) f' c' a':=by
 induction c' with|nil=>exactλj=>by cases j;exact .nil|cons o J C=>exactλj=>by cases j with|cons o u=>exact .cons o.g4 (C u)
def fT.g4(j:fT (aZ O X T) f' c' a'):fT (aZ g X T) f' c' a':=by
 induction a' with|ae Y C=>exact⟨j.1,j.2.elim λJ j=>⟨J,j.1,j.2.1,j.2.2.g4⟩⟩|ah V W C=>exact⟨j.1,j.2.1,j.2.2.elim λo j=>⟨o,j.1,j.2.1,j.2.2.g4⟩⟩|ins M U=>exact⟨j.1,j.2.elim λu j=>j.elim λo j=>⟨u,o,j.1,j.2.1,j.2.2.1,j.2.2.2.1,j.2.2.2.2.1,j.2.2.2.2.2.g4⟩⟩
def bB.g4(j:bB (aZ O X T) a' c'):bB (aZ g X T) a' c':=⟨λC o u=>(j.slot C o u).g4,j.inj,j.bI,j.gM⟩
def aP.g4(j:aP ⟨aZ O X T,f,af,a'⟩ c' f'):aP ⟨aZ g X T,f,af,a'⟩ c' f':=⟨j.aM,j.aH.g4,j.own,j.new,j.dz⟩
def aT.g4(j:aT ⟨aZ O X T,f,af,c'⟩ a' f' a' w'):aT ⟨aZ g X T,f,af,c'⟩ a' f' a' w':=⟨j.aH.g4,j.step,j.aM,j.dd⟩
def MF(X:ZS)(T:hc):g9 (aZ (λ_ _=>none) X T):=Dy _ X T (λ_ _ _ h=>nomatch h) λ_ _ _ _ _ _ _ _ _ h=>nomatch h
def RT(X:ZS)(T:hc):yb (aZ tZ X T):=λf env A B D r fp w i e E H I U R q=>by
 have e:(match Nat.beq B 135 with|true=>Y (d' D) we|false=>none)=some r:=e
 generalize x:Nat.beq B 135=N;induction N with
 |false=>rw[x] at e;exact cB e
 |true=>
  rw[x] at e;have x:=W2 x;subst x;refine aA e λt y e=>?_;have y:D=[t]:=by
   induction D with
   |nil=>exact cB y
   |cons a l=>induction l with|nil=>exact W0 (λa=>[a]) (WZ y)|cons=>exact cB y
  subst y;refine U.hR (q:=λi=>codeAny (model eb X) A (.call (.ref (gD 135)) ⟨i,[]⟩) R w.s) λcK W=>?_;refine aA e λg v e=>aA e λj F e=>aA F λfl p s=>aA e λn P e=>aA P λfs G J=>aA e λk u e=>bR e λC e=>bR e λM e=>bR e λQ e=>?_;have L:xZ t g j n k:=⟨v,by rw[p,B3 s],by rw[G,pd J],u,C,WY M,WY Q⟩
  have e:=e;have S:∀{d:V},(Nat.beq k n=true->bM Z.bj t 36=some d/\dy .eq d d Z.bj=some true)->r=.bool (Nat.beq k n)->codeAny (model eb X) A (.call (.ref (gD 135)) ⟨[cK],[]⟩) R w.s:=λh K=>PJ (MF X T) ⟨E.B,E.K,E.T,E.lW,E.kind⟩ H I.g4 W.g4 L h R λc' a'=>q c' _ a'.g4 (K▸.bool)
  generalize z:Nat.beq k n=N;induction N with
  |false=>rw[z] at e S;exact S (d:=.none) bb (WZ e).symm
  |true=>
   rw[z] at e S;refine aA e λm O e=>bR e λc e=>S (d:=m) (λ_=>⟨O,?_⟩) (WZ e).symm;generalize dy .eq m m Z.bj=o at c⊢;induction o with|none=>exact bb c|some b=>exact W0 some c
def ME(X:ZS)(T:hc):g9 (aZ tZ X T):=Dy _ X T (λB D r h=>by
 have h:(match Nat.beq B 135 with|true=>Y (d' D) we|false=>none)=some r:=h
 generalize x:Nat.beq B 135=N;induction N with|false=>rw[x] at h;exact cB h|true=>exact W2 x) (RT X T)
end
set_option backward.match.sparseCases true in
def Va(I:jD f)(O:g9 X){N:qC}(F:o1 X B d N)(hj:A.frames=some [])(h2:A.handled=none)(hdep:(A.depth+1)*20+cN X B<=18000)(hun:A.units+3+8*cN X B<=9000)(hlev:cN X B<=Bs)
  {w:aL}(K:X.K.In w.h)(T:Top X.T.p X.T.FD X.T.rx X.T.FQ X.T.FL w.h)(cK:bB X Z.bj w){a':ZF}{t:ZJ}{v:V}{hp':Z}(e:(aD X.P X.N (f+1)).c .inl B a' Z.bj=some (v,hp'))(hf:X.P.fM B=some d)(r:aK X w a' t)(R:Result->ZN)
  (q:∀s g,(∀b H,w.h.get? b=some H->s.h.get? b=some H)->fm w s->o X s v g->R (.ok (.ret g)) s.s):codeAny (model X.prog X.w) A (.call (.ref (X.di B)) ⟨t,[]⟩) R w.s:=by
 refine aA e λfn' c' e=>?_;have c':=WZ (hf.symm.trans c');subst c';refine aA e λl E e=>bR E λh' E=>?_;have W:=W2 h';rw[dP,dP,dP,r.length] at W;have E:=WZ E;subst E;refine bK e λfl st' e2 n=>?_;have G:=F.H;have rdf:=F.H.rl w;have W:t.length+N.iW.length=d.ak.length:=by rw[<-rdf.length];exact W
 have hkind':(((d.ak.map X.az).zip (t++N.iW)).all λy=>N.scope.names.lookup y.1==some .local||N.scope.names.lookup y.1==some .cell):=
  Xb.mpr λy kd=>(Xz.mp (YI kd).1).elim λa z=>z.2▸Xb.mp F.H.Eh a z.1
 have hroom:A.depth<recursionLimit:=Nat.lt_of_mul_lt_mul_right (a:=20) (W4 (W4 (Nat.mul_lt_mul_of_pos_right (Xh _) (by decide)) (W5 (Xd _ _) hdep)) (by decide))
 refine codeAny_call_function hroom (K _ _ F.H.fy) rfl F.H.tc F.H.tf rfl (codeRec_of K F.H.tb) (kp_binds K (λS=>F.H.dO S t W) _ _ _ _ ?_);refine wpAny_newFunctionEnv_cells F.H.hq (kindsX hkind' _) λenv' he s' x=>?_;subst he;refine⟨T.nolimit.keeps x.toInCall.keep,codeAny_func ?_⟩;obtain⟨k,i,rfl,_⟩:=x.done;have M:∀b H,w.h.get? b=some H->k.get? b=some H:=x.toInCall.keep;obtain⟨cells,Q,Y⟩:=Cl.news (h₀:=w.s.heap) (Xe _) λf c D=>⟨x.cell f c (lookup_of_mem_nodup (cellsFrom_names N.scope.names 0 ((aah w.s)+1) [] [] rfl▸F.H.En) D),x.above f c D⟩;have owge:∀x a,(x,a)∈cellsFrom ((aah w.s)+1) N.scope.names []->(aah w.s)<a:=λx a J=>(Cu _ _ _ _ _ J).elim (λz=>(nomatch z)) id;have fs:=bB.E3 (s':=(w.ab k i).s) (Ex:=λ_=>False) cK (λ_ z=>z.elim) (λb H _ z=>M b H z) λb H z=>⟨H,M b H z⟩;have own:∀a,w.h.get? a=none->cY a Z.bj (w.ab k i):=λa l=>⟨λz=>(cK.bI a z).1.elim λ_ e=>cj e l,λp fp=>absurd fp m6⟩
 let P:ed:=⟨w.h,(aah w.s),[],w.h,A,envOfC N.qual N.scope (aah w.s) (X.di B) N.mE,λa=>∃x,(x,a)∈cellsFrom ((aah w.s)+1) N.scope.names []⟩
 have h1:aP ⟨X,P,P.bx,A.deeper P.bx⟩ Z.bj (w.ab k i):=by refine⟨⟨_,x.toInCall.ns,M,Xe _⟩,fs.1,own _ (hp _),λp fp=>absurd fp m6,λa z=>z.elim λx J=>(pn Y J).elim λH D=>?_⟩;have z:=Q _ D.1;exact⟨⟨H,z.1⟩,z.2.1,own a z.2.2,z.2.2⟩
 have hF:=BJ O.az (t++N.iW) F.H.th;have bnd:∀x v,(x,v)∈(d.ak.map X.az).zip (t++N.iW)->fh P.bx k x v:=λy v D=>by refine(X0.mp (Xb.mp hkind' _ D)).elim (λq=>.inl ⟨eq_of_beq q,_,x.toInCall.ns,Cd (eq_of_beq q) D hF⟩) λq=>?_;have q:N.scope.names.lookup y=some .cell:=eq_of_beq q;exact(YB.mp (cellsFrom_some _ _ _ (.inl q):(List.lookup y (cellsFrom ((aah w.s)+1) N.scope.names [])).isSome=true)).elim λj L=>(pn Y (hM L)).elim λH z=>.inr ⟨(Xz.mp (YI D).1).elim λa z=>z.2▸O.az.eW a,.inl q,j,L,H,(Q _ z.1).1,by rw[z.2,Cc q D hF]⟩
 have C:bJ ⟨X,P,P.bx,A.deeper P.bx⟩ (cN X B) (jQ d.ak (U a' d.d7)) Z.bj (w.ab k i):=
  ⟨O,⟨⟨hj,λ_ _ e=>e,trivial⟩,K,T,rfl,F.H.hq⟩,⟨by show A.frames.map _=_;rw[hj];rfl,h2,hdep,hun,by show 0*20+_<=_;rw[Yi,W7];exact hlev⟩,
   ⟨F.H.hq,rfl,rfl,.inl rfl,λx j _ e=>⟨x,hM e⟩,λx y j e1 e2=>yL (Ct N.scope.names ((aah w.s)+1) [] .nil λ_ h=>(nomatch h)) (hM e1) (hM e2),λx j e=>XK (owge x j (hM e)),λx e=>YB.mp (cellsFrom_some _ _ _ (.inl e))⟩,h1,
   ⟨λq v _ e=>(uY (r.append rdf) (hg a' d.d7▸e)).elim λg z=>⟨g,bnd _ _ z.1,z.2.ext (fs.2.ext cK λ_ z=>z.elim)⟩,⟨_,x.toInCall.ns⟩,λx j _ L=>(pn Y (hM L)).elim λH z=>⟨_,H,(Q _ z.1).1,z.2⟩⟩⟩
 have z:=I.x d.body ⟨X,P,P.bx,A.deeper P.bx⟩ ⟨_,Z.bj⟩ fl st' (cN X B) N.body (w.ab k i) e2 F.tg C;rw[F.EB] at z;refine z _ _ λs kz fv hi=>?_;have hr:∀b H,w.h.get? b=some H->s.h.get? b=some H:=λb H y=>fv.step.keep b H (M b H y) (λz=>z.elim (λz=>cj (z▸y) (hp w.s.heap)) λz=>z.elim λx J=>(pn Y J).elim λkk D=>cj y (Q _ D.1).2.2) λp m=>absurd m.e' m6;have bc:fm w s:=fm.trans (b:=w.ab k i) ⟨k,i,rfl⟩ fv.dd;induction fl with|next=>have n:=Yh (WZ n);rw[hi.1];exact q s .none hr bc (n.1▸.none)|ret u=>have n:=Yh (WZ n);exact hi.elim λg z=>z.1▸q s g hr bc (n.1▸z.2)
end Mine.Internal
end
noncomputable section
open PySem PySem.W PyProof.Rows
namespace Mine.Internal
set_option backward.match.sparseCases true
def Pb(P:ZT):(match(bH P).lookup mainGlobals with
 |some H=>(match H.data with|.dict G _=>nsFind G "law"|_=>none)
 |none=>none)=some (.ref (gD 136)):=by kernel_rfl
def Pf(K:(bH P).In h)(g:h.Ns mainGlobals a):a "law"=some (.ref (gD 136)):=by
 have b:=Pb P;generalize e:(bH P).lookup mainGlobals=N;induction N with|none=>rw[e] at b;exact cB b|some o=>rw[e] at b;rw[g.eq_nsMap];unfold Heap.nsMap;rw[K _ _ e];exact b
def DO:rf.get 136=some rb:=by kernel_rfl
def SU:Nat.beq (vv 136) 15:=by kernel_rfl
def uG:Prop:=∀l:ZM,l.length<=63->∃n E,(aD dE gx (n+1)).c .inl 136 [.hy (l.map .int)] Z.bj=some (.bool true,E)
def Pc(E:uG){L:List ZV}{s:ZW}(K:(bH w.params).In s.heap)(T:Top g L rx f d s.heap){a:ZP}{o:ZJ}{l:ZM}(j:s.heap.IsList a o.toArray)(k:IntsAre o l)(m:l.length<=63)(Q:ZG)(u:ZG)
  (q:∀c,(∀b H,s.heap.get? b=some H->c.heap.get? b=some H)->c.os=s.os->c.gens=s.gens->Q (.bool true) c):wpAny (model eb w) callerA (call (.ref (gD 136)) [.ref a]) Q u s:=by
 obtain⟨n,x,e⟩:=E l m;have F:=ME w ⟨g,L,rx,f,d⟩;obtain⟨_,v⟩:=zd tZ w ⟨g,L,rx,f,d⟩ _ ((vq (pC _ DO)).elim id λe=>nomatch e);have G:cN (aZ tZ w ⟨g,L,rx,f,d⟩) 136=624:=by show 39*vv 136+39=624;rw[W2 SU]
 have i:∀p H,Z.bj.get p≠some H:=λp H z=>cB z;refine YX (Va (w:=⟨⟨λb=>b=a,λ_=>none,λ_=>0⟩,s⟩) (hp':=x) (He n) F v rfl rfl ?_ ?_ ?_ K T ⟨λp H z=>absurd z (i p H),λp _ l=>l.elim λH z=>absurd z (i p H),λb z=>⟨j.elim λH B=>⟨H,z▸B.1⟩,λp l=>l.elim λH z=>absurd z (i p H)⟩,λ_ _ z=>cB z⟩ e DO (.cons (.hy rfl j ?_ (AP k)) .nil) _ ?_)
 .rw[G];decide
 .rw[G];decide
 .rw[G];decide
 .rw[rm k];exact W5 m (by decide)
 .intro A C y bc r
  cases r
  exact q A.s y (by obtain⟨h,t,z⟩:=bc;rw[z]) (by obtain⟨h,t,z⟩:=bc;rw[z])
def Kk(E:uG):WalkO ej kR (XL ej []) BQ nq.toRowW CT [] λf a=>PySem.call f a:=by
 w_on
 intro w H J C u G Y j o S l z g P t s r L F i I M q N y R V b;have X:=(Ground.X G).1;refine Ground.open G ?_;intro T B D m n;have e:=at_of_top T
 wrow_args N y R V b
 rename_i d _ _ _ k _ A _
 have K:=IL Y;have x:=Pf K T.g;have x:=Value.ref.inj (WZ (F.symm.trans x));subst x;refine Pc E K T d k (by omega) _ _ λO c p v=>?_
 exact⟨.inl ⟨_,.bool true,[],rfl,λ_=>rfl,.bool true,(by first|with_unfolding_all rfl|kernel_rfl),λ_=>⟨.nil,λ_ h=>nomatch h⟩⟩,.of_keep c,p,.of_eq (v.trans i)⟩
set_option backward.match.sparseCases false
abbrev dv:OpenLaw:=w8
def HZ:dv.row.wellSaid:=by kernel_rfl
def VG:(dv.footing.all footLine):=by kernel_rfl
def VH:noClassBlock dv.prog dv.footing:=by kernel_rfl
def VI:dv.most.all (λa=>decide (63<=a)):=by kernel_rfl
def VJ:dv.bound.all (λa=>decide (2 ^ 63<=a)):=by kernel_rfl
def VK:noRoadLSs {strict:=true,foot:=some dv.bound',writes:=dv.writes,may:=dv.may} dv.footing:=by kernel_rfl
def VL:defStands dv.about dv.above:=by kernel_rfl
def VM:dv.namesIt:=by kernel_rfl
def VN:(["type","isinstance","issubclass","getattr","hasattr"]:List ZV).all (λa=>dv.about != [a]):=by kernel_rfl
def VO:dv.bound'.all (λa=> !builtinNamed a||dv.about==[a]|| !dv.reads a):=by kernel_rfl
def VP:(!dv.writes||(dv.prog.main.body.flatMap importedNames).all λa=> !dv.reads a):=by kernel_rfl
def VQ:(dv.prog.main.body.flatMap importedNames).all (λb=> !dv.reads b||(drawsOf b dv.prog.main.body).all λa=>a.2 != ("attrgetter":ZV)&&a.2 != ("methodcaller":ZV)):=by kernel_rfl
def VR:namesMeet dv.prog dv.footing (λb a=>(!(["type","isinstance","issubclass","getattr","hasattr"]:List ZV).contains a||b.names.lookup a==some .globalImplicit)&&
 (dv.may != some a||b.kind==.module||b.names.lookup a==some .globalImplicit)):=by kernel_rfl
def VS:(dv.own.contains dv.name):=by kernel_rfl
def VT:(dv.own.eraseDups.length==dv.own.length):=by kernel_rfl
def VU:(dv.own.all λa=> !builtinNamed a):=by kernel_rfl
def VV:(namesMeet dv.prog dv.above λ_ a=> !dv.own.contains a):=by kernel_rfl
def VW:(namesMeet dv.prog dv.footing λa b=>a.kind==.module||a.names.lookup b != some .globalExplicit):=by kernel_rfl
def hl(x:a=true)(y:b=true):(a&&b):=by rw[x,y];rfl
def Tq:OpenLaw.wellSaid dv:=by unfold OpenLaw.wellSaid;exact hl (hl (hl (hl (hl (hl (hl (hl (hl (hl (hl (hl (hl (hl (hl (hl (hl (hl HZ (by kernel_rfl)) VG) VH) VI) VJ) VK) VL) VM) VN) VO) VP) VQ) VR) VS) VT) VU) VV) VW
def j0(E:uG):PySem.Challenge.rw_nn0422_01.Holds:=⟨Tq,Ov HZ (⟨[.list []],by kernel_rfl,by kernel_rfl⟩) (Kk E)⟩
end Mine.Internal
end
noncomputable section
open PySem
namespace Mine.Internal
abbrev eH(n:Nat):ll:=aD dE gx n
def dV{α:Type}(F:ll->Z0 α)(r:α):Prop:=∃k,∀n,F (eH (n+k))=some r
def dV.val(j:c'=some a'):dV (λ_=>c') a':=⟨0,λ_=>j⟩
def dV.Y{M:α->ll->Z0 β}(C:dV a' f')(u:dV (M f') h'):dV (λc'=>Internal.Y (a' c') λs'=>M s' c') h':=
 C.elim λo C=>u.elim λj u=>⟨o+j,λJ=>by have U:=C (J+j);rw[W9,Xa j o] at U;refine(?_:Internal.Y (a' (eH (J+(o+j)))) _=_);rw[U,<-W9];exact u (J+o)⟩
def dV.cp{j:α->ll->Z0 β}(u:a'=some c')(o:dV (j c') h'):dV (λf'=>Internal.Y a' λs'=>j s' f') h':=dV.Y (dV.val u) o
def dV.step(j:dV (λc'=>a' (WH dE gx c')) f'):dV a' f':=j.elim λo j=>⟨o+1,λu=>j u⟩
def dV.bR(o:c'=true)(j:dV a' h'):dV (λf'=>bS c' (a' f')) h':=by exact o▸j
def a6(h:x=some a)(g:f a=r):Y x f=r:=by exact h▸g
def fN(h:b=true)(g:x=r):bS b x=r:=by exact h▸g
abbrev ao(e:E)(s:bD)(v:V)(h:Z):Prop:=dV (λi=>i.e e s) (v,h)
abbrev gv(G:List E)(s:bD)(D:ZF)(h:Z):Prop:=dV (λi=>h8 i.e G s) (D,h)
abbrev bE(b:List S)(s:bD)(f:fG)(O:bD):Prop:=dV (λi=>i.x b s) (f,O)
abbrev cF(b:S)(s:bD)(f:fG)(O:bD):Prop:=dV (λi=>k9 i b s) (f,O)
abbrev jK(t:E)(b:List S)(s:bD)(f:fG)(O:bD):Prop:=dV (λi=>i.w t b s) (f,O)
abbrev aY(k:jE)(f:Nat)(D:ZF)(h:Z)(v:V)(S:Z):Prop:=dV (λi=>i.c k f D h) (v,S)
abbrev cS(a:ZK)(b:List S)(D:ZF)(s:bD)(f:fG)(O:bD):Prop:=dV (λi=>rg i.x a b D s) (f,O)
abbrev eV(a:ZK)(l:E)(B:Z0 E)(r:ZD)(D:ZF)(h:Z)(I:ZF)(S:Z):Prop:=dV (λi=>sv i.e a l B r D h) (I,S)
abbrev iu(T:dw)(s:bD)(D:ZF)(v:V)(h:Z):Prop:=dV (λi=>xl i.e T s) (D,v,h)
abbrev oZ(C:Bool)(G:List E)(s:bD)(v:V)(h:Z):Prop:=dV (λi=>pj i.e C G s) (v,h)
def u:ao (.lit a) ⟨A,h⟩ a h:=.step (.val rfl)
def h6:ao (.d9 a) ⟨A,h⟩ a h:=.step (.val rfl)
def J(g:au A a=some b:=by rfl):ao (.F a) ⟨A,h⟩ b h:=.step (.cp g (.val rfl))
def a9(p:ao e s x h)(g:bM h x a=some b):ao (.aS e a) s b h:=.step (.Y p (.cp g (.val rfl)))
def sZ(p:ao a ⟨A,h⟩ x P)(q:ao b ⟨A,P⟩ y N)(g:mB c B x y N=some (d,t)):ao (.a7 c B a b) ⟨A,h⟩ d t:=.step (.Y p (.Y q (.val g)))
def hK(p:ao a s x h)(g:xI b x h=some c):ao (.c6 b a) s c h:=.step (.Y p (.cp g (.val rfl)))
def n7(p:ao a ⟨A,h⟩ x P)(q:ao b ⟨A,P⟩ y N)(g:dy c x y N=some B):ao (.aw c a b) ⟨A,h⟩ (.bool B) N:=.step (.Y p (.Y q (.cp g (.val rfl))))
def LY(p:ao a ⟨A,h⟩ x P)(q:ao b ⟨A,P⟩ y N)(g:dy d x y N=some false):ao (.kx d e a b c) ⟨A,h⟩ (.bool false) N:=.step (.Y p (.Y q (.cp g (.val rfl))))
def LZ(p:ao a ⟨A,h⟩ x P)(q:ao b ⟨A,P⟩ y N)(g:dy d x y N=some true)(u:ao c ⟨A,N⟩ z t)(k:dy e y z t=some B):ao (.kx d e a b c) ⟨A,h⟩ (.bool B) t:=.step (.Y p (.Y q (.cp g (.Y u (.cp k (.val rfl))))))
def DU(p:ao a ⟨A,h⟩ x P)(g:WA x P=some true)(q:ao b ⟨A,P⟩ d N):ao (.ite a b c) ⟨A,h⟩ d N:=.step (.Y p (.cp g q))
def du:gv [] ⟨A,h⟩ [] h:=.val rfl
def n8(p:ao a ⟨A,h⟩ b P)(q:gv G ⟨A,P⟩ c N):gv (a::G) ⟨A,h⟩ (b::c) N:=.Y p (.Y q (.val rfl))
def aq(p:ao a ⟨A,h⟩ b P):gv [a] ⟨A,h⟩ [b] P:=n8 p du
def d8(p:gv G s a h):ao (.ay G) s (.ay a) h:=.step (.Y p (.val rfl))
def fu(p:gv G s a h):ao (.ae false G) s (.ae a) h:=.step (.Y p (.val rfl))
def h7(p:gv G s a h):ao (.ae true G) s (.ref h.n) (h.new (.ae a 0)):=.step (.Y p (.val rfl))
def DT(p:ao a ⟨A,h⟩ x P)(q:ao b ⟨A,P⟩ y N)(g:cZ x y N=some c):ao (.sub a b) ⟨A,h⟩ c N:=.step (.Y p (.Y q (.cp g (.val rfl))))
def v9(e:d5 a h=some b):rr a h=some b:=by
 induction a using V.casesOn with|hy l=>exact cB e|_=>exact e
def zm(p:ao a ⟨A,h⟩ x P)(q:ao b ⟨A,P⟩ (.int (.ofNat c)) N)(g:d5 x N=some d):ao (.gn false a (some b) none) ⟨A,h⟩ (.ae (q6 d c)) N:=.step (.Y p (.Y q (.cp (v9 g) (.val rfl))))
def zl(p:ao a ⟨A,h⟩ x P)(q:ao b ⟨A,P⟩ (.int (.ofNat c)) N)(g:d5 x N=some d):ao (.gn false a none (some b)) ⟨A,h⟩ (.ae (mg d c)) N:=.step (.Y p (.cp rfl (.Y q (.cp (v9 g) (.val rfl)))))
def C7(p:ao a ⟨A,h⟩ x P)(q:ao b ⟨A,P⟩ (.int (.ofNat c)) N)(g:d5 x N=some d):ao (.gn true a none (some b)) ⟨A,h⟩ (.ref N.n) (N.new (.ae (mg d c) 0)):=.step (.Y p (.cp rfl (.Y q (.cp (v9 g) (.val rfl)))))
def L3(p:ao a s x h)(g:d5 x h=some b):ao (.oH false a) s (.ae (gm b [])) h:=.step (.Y p (.cp (v9 g) (.val rfl)))
def c7(p:gv G s c P)(q:aY a f c P b h):ao (.call a f G) s b h:=.step (.Y p q)
def iC(p:gv G s c P)(q:aY .eg a c P b h):ao (.new a G) s b h:=.step (.Y p q)
def mI(p:ao a s x P)(g:sV x P=some (b,h)):ao (.bI a) s b h:=.step (.Y p (.val g))
def fJ(p:ao a ⟨A,h⟩ x P)(i:ku x P=some c)(n:bM P x (ht m)=none)(R:dE.cls c=some b)(D:au b.kS (ht m)=some f)(F:Nat.ble (dE.kZ f) (rv m))(q:gv G ⟨A,P⟩ e N)(g:aY .inl f (x::e) N d t):ao (.aC a m G) ⟨A,h⟩ d t:=
 .step (.Y p (by refine i▸?_;dsimp only;refine n▸?_;dsimp only;refine .cp R (.cp D ?_);exact F▸.Y q g))
def kB(p:ao a ⟨A,h⟩ x P)(d:ku x P=none)(q:gv G ⟨A,P⟩ c N)(V:Nat.beq (iN x P) (iN x N))(g:iH gx x (ht m) c N=some (b,t)):ao (.aC a m G) ⟨A,h⟩ b t:=
 .step (.Y p (by refine d▸?_;dsimp only;refine .Y q ?_;exact V▸.val g))
def d4(p:gv G s c P)(g:WJ B a c P=some (b,N)):ao (.bq B a G) s b N:=.step (.Y p (.val g))
def L4{c q f d p:Nat}{j:ZD}(a:au A q=some (.ref p))(b:h.get p=some (.ins d j))(e:Nat.beq c d)(u:gv G ⟨A,h⟩ l P)(g:aY .inl f (.ref p::l) P i N):ao (.k' c q f G) ⟨A,h⟩ i N:=by refine .step (.cp a (.cp rfl (.cp b ?_)));dsimp only;exact e▸.Y u g
def h4(p:ao a s b h):oZ X [a] s b h:=p
def ph(p:ao a s c h)(g:WA c h=some (!X)):oZ X (a::b::G) s c h:=.Y p (.cp g (by induction X<;>exact .val rfl))
def fX(p:oZ X G s a h):ao (.bool X G) s a h:=.step p
def mH(p:dV (λi=>t2 i.e a b G s []) (m,h)):ao (.ah a b G) s (.ref h.n) (h.new (.ah a m 0)):=.step (.Y p (.val rfl))
def oD:dV (λi=>t2 i.e a [] [] ⟨A,h⟩ d) (d,h):=.val rfl
def xn(v:V)(h:Z):Z0 ZF:=Y (gB v h) λc=>match c with
 |.D k T=>match k with
  |.T=>none
  |_=>some (ie T)
 |.L O=>some O
 |.T O=>some O
def c8(p:ao a s b h)(g:xn b h=some d):iu (.e a) s d b h:=by
 refine .Y p (.val ?_);unfold xn at g;dsimp only;generalize gB b h=o at g⊢;induction o with
 |none=>exact cB g
 |some c=>
  induction c with
  |D k=>induction k with
   |T=>exact cB g
   |_=>exact W0 (λo=>Y o λO=>some (O,b,h)) g
  |_=>exact W0 (λo=>Y o λO=>some (O,b,h)) g
def kI(p:ao a s (.int (.ofNat b)) h)(g:Nat.blt b b0):iu (.range none a) s (i2 0 b) .none h:=.Y p (.cp rfl (.val (fN g rfl)))
def zF(p:ao a ⟨A,h⟩ (.int (.ofNat m)) P)(q:ao b ⟨A,P⟩ (.int (.ofNat c)) N)(g:Nat.blt m b0)(f:Nat.blt c b0):iu (.range (some a) b) ⟨A,h⟩ (i2 (.ofNat m) (c-m)) .none N:=.Y p (.Y q (.cp rfl (.val (fN g (fN f rfl)))))
def EE(p:ao a s b h)(g:d5 b h=some c):iu (.jn a) s (mK c 0) b h:=.Y p (.cp g (.val rfl))
def EF(p:ao a s b h)(g:d5 b h=some c):iu (.rO a) s (gm c []) b h:=.Y p (.cp g (.val rfl))
def gF{B:Z0 E}:eV a e B out [] h [] h:=.val rfl
def vK(g:hJ a b ⟨out,h⟩=some s)(p:ao e s w P)(q:eV a e none out c P d N):eV a e none out (b::c) h (w::d) N:=.cp g (.Y p (.Y q (.val rfl)))
def Aa(g:hJ a b ⟨out,h⟩=some s)(u:ao c s x P)(k:WA x P=some false)(q:eV a e (some c) out d P f N):eV a e (some c) out (b::d) h f N:=.cp g (.Y u (.cp k q))
def s6{B:Z0 E}(p:iu T ⟨A,h⟩ b a P)(f:eC b)(i:dY a P true=some N)(q:eV d e B A b N g t)(G:dY a t false=some c):ao (.comp false e d T B) ⟨A,h⟩ (.ae g) c:=.step (.Y p (.bR f (.cp i (.Y q (.cp G (.val rfl))))))
def L0{B:Z0 E}(p:iu T ⟨A,h⟩ b a P)(f:eC b)(i:dY a P true=some N)(q:eV d e B A b N g t)(G:dY a t false=some c):ao (.comp true e d T B) ⟨A,h⟩ (.ref c.n) (c.new (.ae g 0)):=.step (.Y p (.bR f (.cp i (.Y q (.cp G (.val rfl))))))
def ba:bE [] s .next s:=.step (.val rfl)
def M{j:S}(p:cF j s .next a)(q:bE r a i b):bE (j::r) s i b:=.step (.Y p q)
def bG{j:S}(p:cF j s (.ret b) a):bE (j::r) s (.ret b) a:=.step (.Y p (.val rfl))
def Wq(b a:List S):∀{m:Nat}{s c:bD},(eH (m+a.length)).x a s=some (.next,c)->(eH (m+a.length)).x (a++b) s=(eH m).x b c:=by
 induction a with
 |nil=>
  intro m s c e;induction m with
  |zero=>exact cB e
  |succ m=>refine(show s=c from W0 Prod.snd (WZ e))▸?_;rfl
 |cons j a d=>
  intro m s c e;have e:(Y (k9 (eH (m+a.length)) j s) λp=>match p.1 with
    |.next=>(eH (m+a.length)).x a p.2
    |.ret v=>some (.ret v,p.2))=some (.next,c):=e
  show(Y (k9 (eH (m+a.length)) j s) λp=>match p.1 with
    |.next=>(eH (m+a.length)).x (a++b) p.2
    |.ret v=>some (.ret v,p.2))=_
  generalize k9 (eH (m+a.length)) j s=o at e⊢;induction o with
  |none=>exact cB e
  |some p=>match p,e with
   |(.next,O),e=>exact d e
   |(.ret v,O),e=>nomatch (W0 Prod.fst (WZ e):fG.ret v=.next)
def nJ(k:Nat)(p:bE (r.take k) s .next b)(q:bE (r.drop k) b a c):bE r s a c:=p.elim λi p=>q.elim λj q=>⟨i+j+(r.take k).length,λn=>by
 have z:=p (n+j+(r.take k).length);have e:n+j+(r.take k).length+i=n+i+j+(r.take k).length:=by rw[XJ (n+j),XJ n]
 rw[e] at z;have z:=(Wq (r.drop k) (r.take k) z).trans (q (n+i));rw[Y9] at z;rw[<-W9,<-W9];exact z⟩
def cI(p:ao e ⟨A,h⟩ b P):cF (.bY (.F a) e) ⟨A,h⟩ .next ⟨Wy A a b,P⟩:=.Y p (.val rfl)
def kH(p:ao e ⟨A,h⟩ c P)(q:ao a ⟨A,P⟩ x N)(g:rR x b c N=some t):cF (.bY (.aS a b) e) ⟨A,h⟩ .next ⟨A,t⟩:=.Y p (.Y q (.cp g (.val rfl)))
def D4(p:ao e ⟨A,h⟩ d P)(q:ao a ⟨A,P⟩ x N)(u:ao b ⟨A,N⟩ y t)(g:nt x y d t=some c):cF (.bY (.sub a b) e) ⟨A,h⟩ .next ⟨A,c⟩:=.Y p (.Y q (.Y u (.cp g (.val rfl))))
def GW(p:ao e ⟨A,h⟩ c P)(g:uX b c ⟨A,P⟩=some a):cF (.bY (.ay b) e) ⟨A,h⟩ .next a:=.Y p (.cp g (.val rfl))
def de(p:ao e ⟨A,h⟩ a P)(g:ql a):cF (.expr e) ⟨A,h⟩ .next ⟨A,P⟩:=.Y p (.bR g (.val rfl))
def cb(p:ao e ⟨A,h⟩ a P):cF (.ret (some e)) ⟨A,h⟩ (.ret a) ⟨A,P⟩:=.Y p (.val rfl)
def lQ(p:ao e ⟨A,h⟩ x P)(g:WA x P=some true)(q:bE r ⟨A,P⟩ i a):cF (.ite e r t) ⟨A,h⟩ i a:=.Y p (.cp g q)
def jW(p:ao e ⟨A,h⟩ x P)(g:WA x P=some false)(q:bE t ⟨A,P⟩ i a):cF (.ite e r t) ⟨A,h⟩ i a:=.Y p (.cp g q)
def oJ(p:jK e r s i a):cF (.iq e r) s i a:=p
def qx(p:ao e ⟨A,h⟩ x P)(g:WA x P=some false):jK e r ⟨A,h⟩ .next ⟨A,P⟩:=.step (.Y p (.cp g (.val rfl)))
def uB(p:ao e ⟨A,h⟩ x P)(g:WA x P=some true)(q:bE r ⟨A,P⟩ .next ⟨G,N⟩)(k:jK e r ⟨i' A G,N⟩ i a):jK e r ⟨A,h⟩ i a:=.step (.Y p (.cp g (.Y q k)))
def H4(p:ao e ⟨A,h⟩ x P)(g:WA x P=some true)(q:bE r ⟨A,P⟩ (.ret b) a):jK e r ⟨A,h⟩ (.ret b) a:=.step (.Y p (.cp g (.Y q (.val rfl))))
def da(p:iu T ⟨A,h⟩ d a P)(u:dY a P true=some N)(q:cS b r d ⟨A,N⟩ i ⟨G,t⟩)(w:dY a t false=some c):cF (.b5 b T r) ⟨A,h⟩ i ⟨G,c⟩:=.Y p (.cp u (.Y q (.cp w (.val rfl))))
def dq:cS a r [] s .next s:=.val rfl
def vw(g:hJ a d ⟨A,h⟩=some b)(p:bE r b .next ⟨G,N⟩)(q:cS a r e ⟨i' A G,N⟩ i c):cS a r (d::e) ⟨A,h⟩ i c:=.cp g (.Y p q)
def cW(g:hJ a e ⟨A,h⟩=some c)(p:bE r c .next ⟨G,N⟩)(k:i' A G=b)(q:cS a r f ⟨b,N⟩ i d):cS a r (e::f) ⟨A,h⟩ i d:=vw g p (by exact k▸q)
def MA(g:hJ c d s=some a)(p:bE r a (.ret w) b):cS c r (d::e) s (.ret w) b:=.cp g (.Y p (.val rfl))
def cH(R:dE.fM f=some a)(H:lI a a.ak c=some A)(p:bE a.body ⟨A,h⟩ (.ret b) ⟨G,P⟩):aY .inl f c h b P:=.step (.cp R (.cp H (.Y p (.val rfl))))
def gO(R:dE.fM f=some a)(H:lI a a.ak b=some A)(p:bE a.body ⟨A,h⟩ .next ⟨G,P⟩):aY .inl f b h .none P:=.step (.cp R (.cp H (.Y p (.val rfl))))
def ks(L:dR (cg 60) b)(s:dE.j3 f b=none)(R:dE.fM f=some a)(H:lI a a.ak b=some A)(p:bE a.body ⟨A,Z.bj⟩ (.ret c) ⟨G,P⟩)(d:ct 12 P c=some w)(k:cg 60 w):aY .pure f b h w h:=by refine .step (.bR L ?_);exact s▸.cp R (.cp H (.Y (.Y p (.val rfl)) (.cp d (.bR k (.val rfl)))))
def Kf(L:dR (cg 60) a)(s:dE.j3 f a=some b):aY .pure f a h b h:=by refine .step (.bR L ?_);exact s▸.val rfl
def Cm(A:f3 (ct 12 h) b=some c)(p:aY .pure f c Z.bj a P)(i:ql a):aY .nV f b h a h:=.step (.cp A (.Y p (.bR i (.val rfl))))
def yK(j:dE.cls f=some b)(g:b.init=some i)(F:b.qf)(R:dE.fM i=some a)(V:a.ak=self::d)(H:lI a d e=some A)
  (p:dV (λi=>l9 i.e self a.body ⟨A,h⟩ []) (P,c)):aY .eg f e h (.ins f (r' P) P) c:=by
 refine .step (.cp j ?_);refine g▸?_;dsimp only;refine F▸?_;dsimp only;refine .cp R ?_;exact V▸.cp H (.Y p (.val rfl))
def yI(R:dE.cls f=some a)(A:a.init=some i)(F:a.qf=false)(p:aY .inl i (.ref h.n::b) (h.new (.ins f [])) .none P):aY .eg f b h (.ref h.n) P:=by refine .step (.cp R ?_);refine A▸?_;dsimp only;refine F▸?_;dsimp only;exact .Y p (.bR rfl (.val rfl))
def cV(p:ao a ⟨A,h⟩ x h)(q:ao b ⟨A,h⟩ y h)(g:mB c B x y h=some (d,h)):ao (.a7 c B a b) ⟨A,h⟩ d h:=sZ p q g
def bF(p:ao a ⟨A,h⟩ x h)(q:ao b ⟨A,h⟩ y h)(g:dy c x y h=some B):ao (.aw c a b) ⟨A,h⟩ (.bool B) h:=n7 p q g
def lH(p:ao a ⟨A,h⟩ x h)(g:WA x h=some true)(q:ao b ⟨A,h⟩ d P):ao (.ite a b c) ⟨A,h⟩ d P:=DU p g q
def jT(p:ao a ⟨A,h⟩ x h)(g:WA x h=some false)(q:ao c ⟨A,h⟩ d P):ao (.ite a b c) ⟨A,h⟩ d P:=(.step (.Y p (.cp g q)))
def aI(p:ao a ⟨A,h⟩ b h)(q:gv G ⟨A,h⟩ c P):gv (a::G) ⟨A,h⟩ (b::c) P:=n8 p q
def bw(p:ao a ⟨A,h⟩ x h)(q:ao b ⟨A,h⟩ y h)(g:cZ x y h=some c):ao (.sub a b) ⟨A,h⟩ c h:=DT p q g
def jO(p:ao a ⟨A,h⟩ x h)(g:WA x h=some X)(q:oZ X (b::G) ⟨A,h⟩ c P):oZ X (a::b::G) ⟨A,h⟩ c P:=(.Y p (.cp g (by induction X<;>exact q)))
def fZ(g:hJ a b ⟨out,h⟩=some ⟨A,h⟩)(p:ao e ⟨A,h⟩ w h)(q:eV a e none out c h d h):eV a e none out (b::c) h (w::d) h:=vK g p q
def Ab(g:hJ a b ⟨out,h⟩=some ⟨A,h⟩)(u:ao c ⟨A,h⟩ x h)(k:WA x h=some true)(p:ao e ⟨A,h⟩ w h)(q:eV a e (some c) out d h f h):eV a e (some c) out (b::d) h (w::f) h:=(.cp g (.Y u (.cp k (.Y p (.Y q (.val rfl))))))
def h5{B:Z0 E}(p:iu T ⟨A,h⟩ b a h)(f:eC b)(i:dY a h true=some h)(q:eV c e B A b h d h)(G:dY a h false=some h):ao (.comp false e c T B) ⟨A,h⟩ (.ae d) h:=s6 p f i q G
def dk(p:ao e ⟨A,h⟩ b h):cF (.bY (.F a) e) ⟨A,h⟩ .next ⟨Wy A a b,h⟩:=cI p
def fc(p:ao e ⟨A,h⟩ c h)(q:ao a ⟨A,h⟩ x h)(g:rR x b c h=some P):cF (.bY (.aS a b) e) ⟨A,h⟩ .next ⟨A,P⟩:=kH p q g
def jy(p:ao e ⟨A,h⟩ c h)(q:ao a ⟨A,h⟩ x h)(u:ao b ⟨A,h⟩ y h)(g:nt x y c h=some P):cF (.bY (.sub a b) e) ⟨A,h⟩ .next ⟨A,P⟩:=D4 p q u g
def c1(p:ao e ⟨A,h⟩ x h)(g:WA x h=some true)(q:bE r ⟨A,h⟩ i a):cF (.ite e r t) ⟨A,h⟩ i a:=lQ p g q
def xc(p:ao e ⟨A,h⟩ x h)(g:WA x h=some false)(q:bE t ⟨A,h⟩ i a):cF (.ite e r t) ⟨A,h⟩ i a:=jW p g q
def cX(p:ao e ⟨A,h⟩ x h)(g:WA x h=some false):cF (.ite e r []) ⟨A,h⟩ .next ⟨A,h⟩:=jW p g ba
def eM(j:Nat)(g:∀a,(eH (a+j)).e e s=some (b,h)):ao e s b h:=⟨j,g⟩
def k6(B:Nat){j:S}(g:∀a,k9 (eH (a+B)) j s=some (i,b)):cF j s i b:=⟨B,g⟩
def fF(j:Nat)(g:∀a,(eH (a+j)).x r s=some (i,b)):bE r s i b:=⟨j,g⟩
def ft(j:Nat)(g:∀b,(eH (b+j)).c a f d h=some (c,P)):aY a f d h c P:=⟨j,g⟩
def bo.iJ(C:Z0 α)(J j:Nat)(M:Z0 α)(o u:bo α):bo.a5 (J+1) (.node M o u) j C=match Nat.beq j 0 with
 |true=>.node C o u
 |false=>match Nat.beq (j % 2) 1 with
  |true=>.node M (bo.a5 J o (j/2) C) u
  |false=>.node M o (bo.a5 J u (j/2-1) C):=rfl
def Gs(n:i≠0)(m:i % 2=0):0<i/2:=Zo λz=>n (by rw[<-XU i 2,z,m])
def bo.Sn(o u:Z0 α)(j:Nat):∀(c':bo α)(a':Nat),bo.a5 j (bo.a5 j c' a' u) a' o=bo.a5 j c' a' o:=by
 induction j with
 |zero=>exactλ_ _=>rfl
 |succ j U=>
  intro c' a';refine(bo.t7 u j c' a')▸(bo.t7 o j c' a')▸?_;generalize C:Nat.beq a' 0=J;induction J with
  |true=>show bo.a5 (j+1) (.node u c'.dA.2.1 c'.dA.2.2) a' o=_;rw[bo.iJ,C]
  |false=>
   generalize M:Nat.beq (a' % 2) 1=J;induction J with|true=>show bo.a5 (j+1) (.node c'.dA.1 (bo.a5 j c'.dA.2.1 (a'/2) u) c'.dA.2.2) a' o=_;rw[bo.iJ,C,M];exact W0 (λV=>bo.node _ V _) (U _ _)|false=>show bo.a5 (j+1) (.node c'.dA.1 c'.dA.2.1 (bo.a5 j c'.dA.2.2 (a'/2-1) u)) a' o=_;rw[bo.iJ,C,M];exact W0 (bo.node _ _) (U _ _)
def bo.Sm(M U:Z0 α)(o:Nat):∀(h':Nat)(a':bo α)(f' c':Nat),f'<o->c'<h'->f'≠c'->bo.a5 o (bo.a5 h' a' c' U) f' M=bo.a5 h' (bo.a5 o a' f' M) c' U:=by
 induction o with
 |zero=>exactλ_ _ _ _ e1=>absurd e1 (Yk _)
 |succ o cK=>
  intro h' a' f' c' hi hj W;induction h' with
  |zero=>exact absurd hj (Yk _)
  |succ h'=>
  rw[bo.t7 U h' a' c',bo.t7 M o a' f'];generalize C:Nat.beq f' 0=j;induction j with
  |true=>
   have u:Nat.beq c' 0=false:=by
    generalize u:Nat.beq c' 0=j;induction j with|true=>exact absurd ((W2 C).trans (W2 u).symm) W|false=>rfl
   rw[u];rw[bo.iJ,u];generalize Nat.beq (c' % 2) 1=j;induction j with
   |true=>show bo.a5 (o+1) (.node a'.dA.1 (bo.a5 h' a'.dA.2.1 (c'/2) U) a'.dA.2.2) f' M=_;rw[bo.iJ,C]
   |false=>show bo.a5 (o+1) (.node a'.dA.1 a'.dA.2.1 (bo.a5 h' a'.dA.2.2 (c'/2-1) U)) f' M=_;rw[bo.iJ,C]
  |false=>
   generalize u:Nat.beq c' 0=j;induction j with
   |true=>
    rw[bo.iJ,C];generalize Nat.beq (f' % 2) 1=j;induction j with
    |true=>show _=bo.a5 (h'+1) (.node a'.dA.1 (bo.a5 o a'.dA.2.1 (f'/2) M) a'.dA.2.2) c' U;rw[bo.iJ,u]
    |false=>show _=bo.a5 (h'+1) (.node a'.dA.1 a'.dA.2.1 (bo.a5 o a'.dA.2.2 (f'/2-1) M)) c' U;rw[bo.iJ,u]
   |false=>
    have Z:=vL hi (iT C);have hj2:=vL hj (iT u);generalize J:Nat.beq (f' % 2) 1=j;induction j with
    |true=>
     rw[bo.iJ,u];generalize V:Nat.beq (c' % 2) 1=j;induction j with
     |true=>rw[bo.iJ,C,J];exact W0 (λe2=>bo.node _ e2 _) (cK h' _ _ _ Z hj2 λY=>W (by rw[<-XU f' 2,<-XU c' 2,Y,W2 J,W2 V]))
     |false=>show bo.a5 (o+1) (.node a'.dA.1 a'.dA.2.1 (bo.a5 h' a'.dA.2.2 (c'/2-1) U)) f' M=_;rw[bo.iJ,C,J]
    |false=>
     rw[bo.iJ,u];generalize V:Nat.beq (c' % 2) 1=j;induction j with|true=>show bo.a5 (o+1) (.node a'.dA.1 (bo.a5 h' a'.dA.2.1 (c'/2) U) a'.dA.2.2) f' M=_;rw[bo.iJ,C,J]|false=>rw[bo.iJ,C,J];have J:=sH (iT J);have V:=sH (iT V);exact W0 (bo.node _ _) (cK h' _ _ _ (W3 (XW _ _) Z) (W3 (XW _ _) hj2) λY=>W (by rw[<-XU f' 2,<-XU c' 2,Nat.sub_one_cancel (Gs (iT C) J) (Gs (iT u) V) Y,J,V]))
noncomputable def Z.a5(j:Z)(o:Nat)(u:Z0 O):Z:=⟨j.t.a5 (o+1) o u,j.n⟩
def Z.oi(j:Z)(o:Z0 O):Z:=⟨j.t.a5 (j.n+1) j.n o,j.n+1⟩
def Z.mQ(o:Z)(u j:Nat)(C:Z0 O):(o.a5 u C).get j=if u=j then C else o.get j:=bo.mQ _ _ _ _ _ (Xh _)
def Z.vH(j:Z)(o:Nat)(u:Z0 O):(j.oi u).get o=if j.n=o then u else j.get o:=bo.mQ _ _ _ _ _ (Xh _)
noncomputable def W:Z->List (Z0 O)->Z
 |F,[]=>F
 |F,o::r=>W (F.oi o) r
def pJ(L:List (Z0 O)):∀{a:Z},p<a.n->(W a L).get p=a.get p:=by
 induction L with|nil=>exactλ_=>rfl|cons o r S=>exactλh=>(S (XH h)).trans (by rw[Z.vH,if_neg (XK h)])
def cw(L:List (Z0 O)):∀{a:Z}{i:Nat},a3 L i=some x->(W a L).get (a.n+i)=x:=by
 induction L with
 |nil=>exactλh=>cB h
 |cons o r S=>
  intro a i h;induction i with|zero=>refine(pJ r (a:=a.oi o) (Xh _)).trans ?_;rw[Z.vH,if_pos rfl];exact WZ h|succ i=>exact(show _=(W (a.oi o) r).get (a.n+1+i)by rw[W9,Xa 1];rfl).trans (S h)
def zx(L:List (Z0 O)):∀{a:Z},p<a.n->(W a L).a5 p x=W (a.a5 p x) L:=by
 induction L with|nil=>exactλ_=>rfl|cons o r S=>exactλ{a} h=>(S (XH h)).trans (W0 (W · r) (W0 (Z.mk · _) (bo.Sm _ _ _ _ _ _ _ (Xh _) (Xh _) (Xi h))))
def gT(L:List (Z0 O)):∀{a:Z}{i:Nat},a3 L i=some y->(W a L).a5 (a.n+i) x=W a (dU L i x):=by
 induction L with
 |nil=>exactλh=>cB h
 |cons o r S=>
  intro a i h;induction i with|zero=>exact(zx r (Xh _)).trans (W0 (W · r) (W0 (Z.mk · _) (bo.Sn ..)))|succ i=>exact(show _=(W (a.oi o) r).a5 (a.n+1+i) x by rw[W9,Xa 1];rfl).trans (S h)
def D7(L:List (Z0 O)):∀{a:Z},(W a L).n=a.n+L.length:=by
 induction L with|nil=>exact rfl|cons o r S=>exactλ{a}=>S.trans (by rw[Xx,Xa r.length,<-W9];rfl)
def iY(e:h.get p=some (.ins c P))(g:au P a=some b):bM h (.ref p) a=some b:=by
 refine(?_:(match h.get p with|some (O.ins _ P)=>au P a|_=>none)=_)
 exact e▸g
def kF(e:h.get p=some (.ins c P))(g:au P a=none):bM h (.ref p) a=none:=by
 refine(?_:(match h.get p with|some (O.ins _ P)=>au P a|_=>none)=_)
 exact e▸g
def kv(e:h.get p=some (.ins c P)):ku (.ref p) h=some c:=by
 refine(?_:(match h.get p with|some (O.ins c _)=>some c|_=>none)=_)
 exact e▸rfl
def K3(e:h.get p=some (.ae a l)):ku (.ref p) h=none:=by
 refine(?_:(match h.get p with|some (O.ins c _)=>some c|_=>none)=_)
 exact e▸rfl
def K1(e:h.get p=some (.ah P T l)):ku (.ref p) h=none:=by
 refine(?_:(match h.get p with|some (O.ins c _)=>some c|_=>none)=_)
 exact e▸rfl
def px(e:h.get p=some (.ae a l)):gB (.ref p) h=some (.L a):=by
 refine(?_:(match h.get p with|some (O.ae a _)=>some (iQ.L a)|some (O.ah k T _)=>some (iQ.D k T)|_=>none)=_)
 exact e▸rfl
def sr(e:h.get p=some (.ah P T l)):gB (.ref p) h=some (.D P T):=by
 refine(?_:(match h.get p with|some (O.ae a _)=>some (iQ.L a)|some (O.ah k T _)=>some (iQ.D k T)|_=>none)=_)
 exact e▸rfl
def lX(e:h.get p=some (.ae a l)):d5 (.ref p) h=some a:=by
 refine(?_:(match h.get p with|some (O.ae a _)=>some a|_=>none)=_)
 exact e▸rfl
def HI(e:h.get p=some (.ae a l)):iN (.ref p) h=1:=by
 refine(?_:(match h.get p with|some (O.ae _ _)=>1|some (O.ah ..)=>2|_=>0)=_)
 exact e▸rfl
def HH(e:h.get p=some (.ah P T l)):iN (.ref p) h=2:=by
 refine(?_:(match h.get p with|some (O.ae _ _)=>1|some (O.ah ..)=>2|_=>0)=_)
 exact e▸rfl
def lO(e:h.get p=some (.ah P T l))(t:fQ P x=some y)(g:bL T y=some a):cZ (.ref p) x h=some a:=a6 (sr e) (a6 t g)
def zp(e:h.get p=some (.ae b l))(g:vT b x=some a):cZ (.ref p) x h=some a:=a6 (px e) g
def ui(e:h.get p=some (.ae a l)):xn (.ref p) h=some a:=a6 (px e) rfl
def EH(e:h.get p=some (.ah P T l))(t:fQ P x=some y):dy .kK x (.ref p) h=some (WE (bL T y)):=a6 (sr e) (a6 t rfl)
def Bb(e:h.get p=some (.ae a 0)):WG (.ref p) h=some (p,.ae a 0):=a6 rfl (a6 e rfl)
def G8(e:h.get p=some (.ah P T 0)):WG (.ref p) h=some (p,.ah P T 0):=a6 rfl (a6 e rfl)
def rT(e:h.get p=some (.ah P T 0))(t:fQ P w=some y)(g:eC T):nt (.ref p) w x h=some (h.a5 p (some (.ah P (cU T y x) 0))):=a6 (G8 e) (a6 t (fN g rfl))
def k5(e:h.get p=some (.ins c P))(g:n5 P):rR (.ref p) a x h=some (h.a5 p (some (.ins c (Wy P a x)))):=a6 (a6 rfl (a6 e rfl)) (fN g rfl)
def P5(e:h.get p=some (.ae a l)):dY (.ref p) h true=some (h.a5 p (some (.ae a (l+1)))):=by unfold dY;dsimp only;refine e▸?_;rfl
def Vu(e:h.get p=some (.ae a (l+1))):dY (.ref p) h false=some (h.a5 p (some (.ae a l))):=by unfold dY;dsimp only;refine e▸?_;rfl
def Fs(e:h.get p=some (.ah P T l)):dY (.ref p) h true=some (h.a5 p (some (.ah P T (l+1)))):=by unfold dY;dsimp only;refine e▸?_;rfl
def HL(e:h.get p=some (.ah P T (l+1))):dY (.ref p) h false=some (h.a5 p (some (.ah P T l))):=by unfold dY;dsimp only;refine e▸?_;rfl
def zN(n:Nat.beq m gx.get=false)(e:WG a h=some (p,H)):tm gx a m h=some (p,H):=by unfold tm;exact n▸e
def hu(e:h.get p=some (.ae a 0))(f:eC a):iH gx (.ref p) 0 [x] h=some (.none,h.a5 p (some (.ae (U a [x]) 0))):=by unfold iH;rw[zN rfl (Bb e)];exact fN f rfl
def FI(e:h.get p=some (.ae a 0))(g:d5 x h=some b)(f:eC (U a b)):iH gx (.ref p) 1 [x] h=some (.none,h.a5 p (some (.ae (U a b) 0))):=by unfold iH;rw[zN rfl (Bb e)];exact a6 g (fN f rfl)
def Qm(e:h.get p=some (.ah .I T 0))(g:bL T (.i a)=some w):iH gx (.ref p) 2 [.int a] h=some (w,h.a5 p (some (.ah .I (gR T (.i a)) 0))):=by unfold iH;rw[zN rfl (G8 e)];exact a6 g rfl
def tE(e:h.get p=some (.ah P T l))(g:gC P T b=some a):iH gx (.ref p) 3 b h=some (a,h):=a6 (a6 (sr e) g) rfl
def ou(g:gC P T b=some a):iH gx (.ah P T) 3 b h=some (a,h):=a6 g rfl
def fY(q:ao a ⟨A,h⟩ (.ref p) P)(e:P.get p=some (.ae f l))(u:gv G ⟨A,P⟩ c N)(i:N.get p=some (.ae H d))(g:iH gx (.ref p) (ht m) c N=some (b,t)):ao (.aC a m G) ⟨A,h⟩ b t:=kB q (K3 e) u (by rw[HI e,HI i];rfl) g
def q9(q:ao a ⟨A,h⟩ (.ref p) P)(e:P.get p=some (.ah d T l))(u:gv G ⟨A,P⟩ c N)(j:N.get p=some (.ah f i r))(g:iH gx (.ref p) (ht m) c N=some (b,t)):ao (.aC a m G) ⟨A,h⟩ b t:=kB q (K1 e) u (by rw[HH e,HH j];rfl) g
def fz(i:Nat)(e:a3 L i=some (some (.ins c P)))(g:au P a=some d):bM (W b L) (.ref (b.n+i)) a=some d:=iY (cw L e) g
def fa(i:Nat)(e:a3 L i=some (some (.ins c P)))(g:n5 P):rR (.ref (b.n+i)) a x (W b L)=some (W b (dU L i (some (.ins c (Wy P a x))))):=(k5 (cw L e) g).trans (W0 some (gT L e))
def mX(i:Nat)(e:a3 L i=some (some (.ae c l)))(g:vT c x=some b):cZ (.ref (a.n+i)) x (W a L)=some b:=zp (cw L e) g
def FF(i:Nat)(e:a3 L i=some (some (.ae c 0)))(g:Nat.blt b (Wx c)):nt (.ref (a.n+i)) (.int (.ofNat b)) x (W a L)=some (W a (dU L i (some (.ae (dU c b x) 0)))):=((a6 (Bb (cw L e)) (fN g rfl))).trans (W0 some (gT L e))
def E6(i:Nat)(e:a3 L i=some (some (.ah P T l)))(t:fQ P x=some y)(g:bL T y=some b):cZ (.ref (a.n+i)) x (W a L)=some b:=lO (cw L e) t g
def tB(i:Nat)(e:a3 L i=some (some (.ah P T 0)))(t:fQ P w=some y)(g:eC T):nt (.ref (a.n+i)) w x (W a L)=some (W a (dU L i (some (.ah P (cU T y x) 0)))):=(rT (cw L e) t g).trans (W0 some (gT L e))
def E7(i:Nat)(e:a3 L i=some (some (.ah P T l)))(t:fQ P x=some y):dy .kK x (.ref (a.n+i)) (W a L)=some (WE (bL T y)):=EH (cw L e) t
def pS(i:Nat)(e:a3 L i=some (some (.ae b l))):dY (.ref (a.n+i)) (W a L) true=some (W a (dU L i (some (.ae b (l+1))))):=(P5 (cw L e)).trans (W0 some (gT L e))
def pT(i:Nat)(e:a3 L i=some (some (.ae b (l+1)))):dY (.ref (a.n+i)) (W a L) false=some (W a (dU L i (some (.ae b l)))):=(Vu (cw L e)).trans (W0 some (gT L e))
def O8(i:Nat)(e:a3 L i=some (some (.ah P T l))):dY (.ref (a.n+i)) (W a L) true=some (W a (dU L i (some (.ah P T (l+1))))):=(Fs (cw L e)).trans (W0 some (gT L e))
def O9(i:Nat)(e:a3 L i=some (some (.ah P T (l+1)))):dY (.ref (a.n+i)) (W a L) false=some (W a (dU L i (some (.ah P T l)))):=(HL (cw L e)).trans (W0 some (gT L e))
def v8(i:Nat)(D:ht m=0)(q:ao a ⟨A,h⟩ (.ref (b.n+i)) (W b L))(e:a3 L i=some (some (.ae c 0)))(p:ao d ⟨A,W b L⟩ x (W b L))(f:eC c):ao (.aC a m [d]) ⟨A,h⟩ .none (W b (dU L i (some (.ae (U c [x]) 0)))):=
 fY q (cw L e) (aq p) (cw L e) (by rw[D];exact(hu (cw L e) f).trans (W0 (λh=>some (V.none,h)) (gT L e)))
def iF:Wx (U a b)=Wx a+Wx b:=by
 induction a with|nil=>exact(W7 _).symm|cons x r S=>exact(W0 (·+1) S).trans (YN ..).symm
def cQ:U a b=a++b:=by
 induction a with|nil=>rfl|cons x r S=>exact W0 (x::·) S
def c5:Wx a=a.length:=by
 induction a with|nil=>rfl|cons x r S=>exact W0 (·+1) S
def eI:U l []=l:=by exact cQ▸XB l
def eL:U (U a b) c=U a (U b c):=by rw[cQ,cQ,cQ,cQ,X4]
def dF(h:a<b):Nat.blt a b:=X1 h
def dZ(h:Nat.blt a b):a<b:=WY h
def qO(h:a<1000):Nat.blt a b0:=dF (W4 h (WY rfl))
def dW(h:Wx l<1000):eC l:=qO h
def lz(h:Wx b+(a+1)<m):Wx (U b [x])+a<m:=by exact iF▸(show Wx b+1+a=Wx b+(a+1)by rw[W9,Xa 1])▸h
def hs{a b m:Nat}(h:a+b<m):a<m:=W3 (Xd _ _) h
noncomputable abbrev I(n:Nat):V:=.int (.ofNat n)
abbrev bX(l:ZK):V:=.str (j l)
set_option genCtorIdx true in
inductive b' where|gY|nx|iy|dI
def hV:b'->V
 |.gY=>bX [114,101,100,117,99,101]
 |.nx=>bX [115,104,105,102,116]
 |.iy=>bX [98,97,114]
 |.dI=>bX [110,111,110,101]
def jB:b'->V
 |.dI=>.none
 |w=>hV w
def cm(f:cy)(i:Nat):S:=aai ((f.body.drop i).headD .eF)
noncomputable def cA:S->List S
 |.b5 _ _ b=>b
 |.iq _ b=>b
 |_=>[]
noncomputable def nG:S->E
 |.iq e _=>e
 |_=>.lit .none
def h3:U (a.map f) (b.map f)=(U a b).map f:=by rw[cQ,cQ,Yw]
def c9:Wx (a.map f)=Wx a:=by rw[c5,c5,Xs]
def TG(l:List α):∀{i:Nat},dU (l.map f) i (f x)=(dU l i x).map f:=by
 induction l with
 |nil=>exact rfl
 |cons y r S=>exactλ{i}=>by induction i with|zero=>rfl|succ i=>exact W0 (f y::·) S
noncomputable def nS(O:Nat):Nat->Nat->ZK:=
 O.rec (λ_ _=>[]) λ_ S l a=>match Nat.beq (Nat.land l 1) 1 with
  |true=>a::S (Nat.shiftRight l 1) (a+1)
  |false=>S (Nat.shiftRight l 1) (a+1)
def J3(O:Nat):Nat->Nat->Nat:=aai (O.rec (λ_ a=>a) λ_ S l a=>match l with
  |0=>a
  |l+1=>S (Nat.shiftRight (l+1) 1) (a+1))
def gf(m:Nat):ZK:=nS 40 m 0
def J5(f:Nat):∀{a:Nat},nS f 0 a=[]:=by
 induction f with|zero=>exact rfl|succ f S=>exact S
noncomputable def pf(O:ZK):Z:=⟨.node (some (.ae (O.map I) 0)) .nil .nil,1⟩
def pg(m a l:Nat):ZD:=aai [(13,I m),(12,.ref 0),(7,I a),(14,I l)]
def J4(f:Nat):∀{l a:Nat}{b:ZK},l<2 ^ f->Wx b+f<1000->jK (nG (cm vu 3)) (cA (cm vu 3)) ⟨pg m a l,pf b⟩ .next ⟨pg m (J3 f l a) 0,pf (U b (nS f l a))⟩:=by
 induction f with
 |zero=>intro l a b h _;rw[Nat.lt_one_iff.mp h,show nS 0 0 a=[] from rfl,eI];exact qx (bF J u rfl) rfl
 |succ f S=>
  intro l a b h d;induction l with
  |zero=>rw[J5,eI];exact qx (bF J u rfl) rfl
  |succ l=>
   have e:∀{h},bE ((cA (cm vu 3)).drop 1) ⟨pg m a (l+1),h⟩ .next ⟨pg m (a+1) (Nat.shiftRight (l+1) 1),h⟩:=λ{h}=>fF 9 λ_=>rfl;have c:∀{B},Nat.beq (Nat.land (l+1) 1) 1=B->ao (.aw .eq (.a7 .kq false (.F 14) (.lit (.int 1))) (.lit (.int 1))) ⟨pg m a (l+1),pf b⟩ (.bool B) (pf b):=λz=>z▸eM 5 λ_=>rfl;refine uB (G:=pg m (a+1) (Nat.shiftRight (l+1) 1)) (N:=pf (U b (match Nat.beq (Nat.land (l+1) 1) 1 with|true=>[a]|false=>[]))) (bF J u rfl) rfl ?_ ?_
   .generalize G:Nat.beq (Nat.land (l+1) 1) 1=N;induction N with|true=>rw[show pf (U b [a])=⟨.node (some (.ae (U (b.map I) [I a]) 0)) .nil .nil,1⟩ from W0 (λl=>(⟨.node (some (.ae l 0)) .nil .nil,1⟩:Z)) h3.symm];exact M (c1 (c G) rfl (M (de (fY (J rfl) rfl (aq J) rfl (hu rfl (dW (by rw[c9];exact hs d)))) rfl) ba)) e|false=>exact eI▸M (cX (c G) rfl) e
   .have z:=S (a:=a+1) (b:=U b (match Nat.beq (Nat.land (l+1) 1) 1 with|true=>[a]|false=>[])) ((by
      refine(?_:(l+1)>>>1<_);rw[Nat.shiftRight_eq_div_pow];exact Nat.div_lt_of_lt_mul (by rw[Nat.pow_succ,Nat.mul_comm] at h;exact h))) (by
     generalize Nat.beq (Nat.land (l+1) 1) 1=N;induction N with|true=>exact lz d|false=>exact eI▸Xr d)
    rw[eL] at z;rw[show nS (f+1) (l+1) a=U (match Nat.beq (Nat.land (l+1) 1) 1 with|true=>[a]|false=>[]) (nS f (Nat.shiftRight (l+1) 1) (a+1)) from by
     show(match Nat.beq (Nat.land (l+1) 1) 1 with|true=>a::nS f (Nat.shiftRight (l+1) 1) (a+1)|false=>nS f (Nat.shiftRight (l+1) 1) (a+1))=_
     cases Nat.beq (Nat.land (l+1) 1) 1<;>rfl]
    exact z
def Vy{O:ZK}:f3 (ct (a+1) h) (O.map I)=some (O.map I):=by
 induction O with|nil=>rfl|cons i r S=>exact a6 rfl (a6 S rfl)
def u9{O:ZK}:dR (cg (a+1)) (O.map I):=by
 induction O with|nil=>rfl|cons i r S=>exact S
def qu(e:h.get p=some (.ae b l))(g:f3 (ct a h) b=some d):ct (a+1) h (.ref p)=some (.ae d):=by
 refine(?_:(match h.get p with|some (O.ae b _)=>Y (f3 (ct a h) b) λl=>some (V.ae l)|some (O.ah f T _)=>Y (gW (ct a h) T) λl=>some (V.ah f l)|some (O.ins c P)=>Y (gi (ct a h) P) λl=>some (V.ins c false l)|none=>none)=_)
 exact e▸a6 g rfl
def yD(D:m<2 ^ 40):aY .pure 6 [I m] h (.ae ((gf m).map I)) h:=
 ks rfl rfl rfl rfl (nJ 3 (fF 9 λ_=>rfl:bE _ _ _ ⟨pg m 0 m,pf []⟩) (M (oJ (J4 40 D (WY rfl))) (bG (cb J)))) (qu rfl Vy) u9
def l'(a t:Nat)(G:V)(q b:Nat):ZD:=aai [(33,G),(22,I q),(45,.ref (a+1)),(37,.ref (a+2)),(48,.ref (a+3)),(51,I b),(39,.ref t)]
def nA:V:=bX [115,104,105,102,116,47,114,101,100,117,99,101]
def eJ(q r:Nat)(c:Nat×Int):V:=.ins 6 false [(25,I q),(26,I c.1),(30,nA),(31,.ay [I r]),(32,.int c.2)]
abbrev lj:Int:=aai (-1048576)
noncomputable def D(l:ZH):ZE:=l.map λx=>(.i (.ofNat x.1),I x.2)
def sA(O:ZH):Nat->ZH:=
 O.rec (λ_=>[]) λm r S n=>match Nat.beq m.1 n with
  |true=>r
  |false=>m::S n
structure hE where
 aa:ZH
 m:Nat
 b:Nat
 dS:List (Nat×Int)
def AE(m t:Nat):Nat:=aai (m-Nat.land m (Nat.shiftLeft 1 t))
def xr(r t g:Nat)(w:b')(x:hE):hE:=match w with
 |.dI=>x
 |.gY=>⟨sA x.aa t,x.m,x.b,U x.dS [(t,-(.ofNat r))]⟩
 |.nx=>⟨x.aa,AE x.m t,x.b,U x.dS [(t,.ofNat g)]⟩
 |.iy=>⟨sA x.aa t,AE x.m t,Nat.lor x.b (Nat.shiftLeft 1 t),U x.dS [(t,lj)]⟩
def lk:bL (D l) (.i (.ofNat a))=(au l a).map I:=by
 induction l with
 |nil=>rfl
 |cons x r S=>
  show(match Nat.beq x.1 a with|true=>some (I x.2)|false=>bL (D r) (.i (.ofNat a)))=(match Nat.beq x.1 a with|true=>some x.2|false=>au r a).map I
  generalize Nat.beq x.1 a=N;induction N with|true=>rfl|false=>exact S
def Ib:gR (D l) (.i (.ofNat a))=D (sA l a):=by
 induction l with
 |nil=>rfl
 |cons x r S=>
  show(match Nat.beq x.1 a with|true=>D r|false=>(aE.i (.ofNat x.1),I x.2)::gR (D r) (.i (.ofNat a)))=D (match Nat.beq x.1 a with|true=>r|false=>x::sA r a)
  generalize Nat.beq x.1 a=N;induction N with|true=>rfl|false=>exact W0 (_::·) S
def A7(e:t<=64):mB .jz false (.int 1) (I t) h=some (I (Nat.shiftLeft 1 t),h):=by refine(?_:Y (bS (Nat.ble t 64) _) _=_);refine(X1 e)▸?_;rfl
def OL:xI .ag (I x) h=some (.int (.negSucc x)):=W0 (λi=>some (V.int i)) (by rw[YW,Int.neg_add];rfl)
def dm(F:Z)(G:V)(q r l:Nat)(Q:ZH)(x:hE):List (Z0 O):=
 [some (.ins 8 (l' F.n (F.n+5) G q x.b)),some (.ah .I (D x.aa) 0),some (.ah .I (D Q) 0),some (.ae [.ref (F.n+4)] l),some (.ae [I r,I x.m] 0),some (.ae (x.dS.map (eJ q r)) 0)]
def FT:aY .eg 6 [I q,I t,nA,.ay [I r],.int a] h (eJ q r (t,a)) h:=ft 9 λ_=>rfl
def TL(T:au x.aa t=some g)(k:t<=64)(j:Wx x.dS<1000)(y:w≠.dI):aY .inl 28 [.ref e.n,.ref (e.n+4),I t,jB w] (W e (dm e G q r l Q x)) .none (W e (dm e G q r l Q (xr r t g w x))):=by
 have T:=lk.trans (W0 _ T);have j:eC (x.dS.map (eJ q r)):=dW (by rw[c9];exact j)
 have S:∀{L:List (Z0 O)}{A:ZD}{n:Int}{b m:Nat},a3 L 0=some (some (.ins 8 (l' e.n (e.n+5) G q b)))->a3 L 4=some (some (.ae [I r,I m] 0))->a3 L 5=some (some (.ae (x.dS.map (eJ q r)) 0))->au A 6=some (.ref e.n)->au A 26=some (I t)->au A 52=some (.ref (e.n+4))->au A 32=some (.int n)->
   bE [cm y8 5] ⟨A,W e L⟩ .next ⟨A,W e (dU L 5 (some (.ae ((U x.dS [(t,n)]).map (eJ q r)) 0)))⟩:=λ{L}{A}{n}{b}{m} B p v a R c d=>by
  rw[<-h3];exact M (de (v8 5 rfl (a9 (J a) (fz 0 B rfl)) v (iC (aI (a9 (J a) (fz 0 B rfl)) (aI (J R) (aI u (aI (d8 (aq (bw (J c) u (mX 4 p rfl)))) (aq (J d)))))) FT) j) rfl) ba
 have o:∀{L:List (Z0 O)}{A:ZD}{b:Nat},a3 L 0=some (some (.ins 8 (l' e.n (e.n+5) G q b)))->a3 L 1=some (some (.ah .I (D x.aa) 0))->au A 6=some (.ref e.n)->au A 26=some (I t)->
   bE [.expr (.aC (.aS (.F 6) 45) 8194 [(.F 26)])] ⟨A,W e L⟩ .next ⟨A,W e (dU L 1 (some (.ah .I (D (sA x.aa t)) 0)))⟩:=λB f a b=>
  M (de (q9 (a9 (J a) (fz 0 B rfl)) (cw _ f) (aq (J b)) (cw _ f) ((Qm (cw _ f) T).trans (W0 (λh=>some (I g,h)) (Ib▸gT _ f)))) rfl) ba
 have s:∀{L:List (Z0 O)}{A:ZD},a3 L 4=some (some (.ae [I r,I x.m] 0))->au A 52=some (.ref (e.n+4))->au A 26=some (I t)->
   bE [.bY (.sub (.F 52) (.lit (.int 1))) (.a7 .kq false (.sub (.F 52) (.lit (.int 1))) (.c6 .ag (.a7 .jz false (.lit (.int 1)) (.F 26))))] ⟨A,W e L⟩ .next ⟨A,W e (dU L 4 (some (.ae [I r,I (AE x.m t)] 0)))⟩:=λp a b=>
  M (jy (cV (bw (J a) u (mX 4 p rfl)) (hK (cV u (J b) (A7 k)) OL) rfl) (J a) u (FF 4 p rfl)) ba
 have i:cF (cm y8 0) ⟨[(6,.ref e.n),(52,.ref (e.n+4)),(26,I t),(30,jB w)],W e (dm e G q r l Q x)⟩ .next ⟨[(6,.ref e.n),(52,.ref (e.n+4)),(26,I t),(30,jB w),(32,I g)],W e (dm e G q r l Q x)⟩:=dk (bw (a9 J (fz 0 rfl rfl)) J (E6 1 rfl rfl T));induction w with|dI=>exact absurd rfl y|gY=>exact gO rfl rfl (M i (M (c1 (eM 3 λ_=>rfl) rfl (M (dk (hK (bw J u (mX 4 rfl rfl)) rfl)) ba)) (nJ 2 (fF 9 λ_=>rfl) (M (c1 (eM 3 λ_=>rfl) rfl (o rfl rfl rfl rfl)) (S rfl rfl rfl rfl rfl rfl rfl)))))|nx=>exact gO rfl rfl (M i (nJ 2 (fF 9 λ_=>rfl) (M (c1 (eM 3 λ_=>rfl) rfl (s rfl rfl rfl)) (M (cX (eM 3 λ_=>rfl) rfl) (S rfl rfl rfl rfl rfl rfl rfl)))))|iy=>exact gO rfl rfl (M i (M (cX (eM 3 λ_=>rfl) rfl) (M (c1 (eM 3 λ_=>rfl) rfl (M (dk h6) (M (fc (cV (a9 J (fz 0 rfl rfl)) (cV u J (A7 k)) rfl) J (fa 0 rfl rfl)) ba))) (M (c1 (eM 3 λ_=>rfl) rfl (s rfl rfl rfl)) (M (c1 (eM 3 λ_=>rfl) rfl (o rfl rfl rfl rfl)) (S rfl rfl rfl rfl rfl rfl rfl))))))
def Bf(r:Nat)(w:Nat->b')(t:Nat)(x:hE):hE:=match au x.aa t with
 |some g=>xr r t g (w t) x
 |none=>x
def sT(r:Nat)(w:Nat->b')(O:ZK):hE->hE:=
 O.rec (λx=>x) λt _ S x=>S (Bf r w t x)
abbrev wi(F:Z):ZD:=aai [(6,.ref F.n),(52,.ref (F.n+4))]
def PB(h:Wx x.dS+(a+1)<m):Wx (xr r t g w x).dS+a<m:=by
 induction w with|dI=>exact Xr h|_=>exact lz h
def TO{w:Nat->b'}(d:ZK):∀{x:hE},(∀c∈d,c<=64/\∀h,aY .inl 25 [G,I r,I c] h (jB (w c)) h)->Wx x.dS+d.length<1000->
  cS [26] (cA ((cA (cm y7 0)).headD .eF)) (d.map I) ⟨wi a,W a (dm a G q r 1 Q x)⟩ .next ⟨wi a,W a (dm a G q r 1 Q (sT r w d x))⟩:=by
 induction d with
 |nil=>exactλ_ _=>dq
 |cons t d S=>
  intro x X L;have V:=X t (.head _);have A:=λm D=>X m (.tail _ D);have f:dy .kK (I t) (.ref (a.n+1)) (W a (dm a G q r 1 Q x))=some (WE ((au x.aa t).map I)):=(E7 1 rfl rfl).trans (W0 (λo=>some (WE o)) lk);have B:ao (.aw .kK (.F 26) (.aS (.F 6) 45)) ⟨[(6,.ref a.n),(52,.ref (a.n+4)),(26,I t),(30,.none)],W a (dm a G q r 1 Q x)⟩ (.bool (WE ((au x.aa t).map I))) (W a (dm a G q r 1 Q x)):=bF J (a9 J (fz 0 rfl rfl)) f;refine(?_:cS _ _ (I t::d.map I) _ _ ⟨_,W a (dm a G q r 1 Q (sT r w d (Bf r w t x)))⟩);unfold Bf;generalize T:au x.aa t=N;induction N with
  |none=>rw[T] at B;exact vw rfl (M (k6 3 λ_=>rfl) (M (cX B rfl) (fF 9 λ_=>rfl))) (S A (Xr L))
  |some g=>
   rw[T] at B;have e:ao (.call .inl 25 [.aS (.F 6) 33,.sub (.F 52) (.lit (.int 0)),.F 26]) ⟨[(6,.ref a.n),(52,.ref (a.n+4)),(26,I t),(30,.none)],W a (dm a G q r 1 Q x)⟩ (jB (w t)) (W a (dm a G q r 1 Q x)):=c7 (aI (a9 J (fz 0 rfl rfl)) (aI (bw J u (mX 4 rfl rfl)) (aq J))) (V.2 _);have v:w t≠.dI->iE (jB (w t))=false->cS [26] (cA ((cA (cm y7 0)).headD .eF)) (I t::d.map I) ⟨wi a,W a (dm a G q r 1 Q x)⟩ .next ⟨wi a,W a (dm a G q r 1 Q (sT r w d (xr r t g (w t) x)))⟩:=λj i=>vw rfl (M (k6 3 λ_=>rfl) (M (c1 B rfl (M (dk e) ba)) (M (c1 (bF (c:=.mW) (B:=true) (x:=jB (w t)) (y:=.none) J u (W0 (λb=>some (!b)) i)) rfl (M (de (fJ J (kv (cw (i:=0) _ rfl)) (kF (cw (i:=0) _ rfl) rfl) rfl rfl rfl (aI J (aI J (aq J))) (TL T V.1 (hs L) j)) rfl) ba)) ba))) (S A (PB L));generalize k:w t=N;induction N with
   |dI=>rw[k] at e;exact vw rfl (M (k6 3 λ_=>rfl) (M (c1 B rfl (M (dk e) ba)) (fF 9 λ_=>rfl))) (S A (Xr L))
   |_=>exact k▸v (by exact k▸λz=>nomatch z) (by refine k▸?_;rfl)
def rS(f:Nat->Int)(O:ZK):ZM->ZM:=
 O.rec (λr=>r) λt _ S r=>S (dU r t (f t))
def Fe(l:List α):∀{i:Nat}{x:α},Wx (dU l i x)=Wx l:=by
 induction l with
 |nil=>exact rfl
 |cons y r S=>exactλ{i}{x}=>by induction i with|zero=>rfl|succ i=>exact W0 (·+1) S
def oo(c:ZK):∀{r:ZM},Wx (rS f c r)=Wx r:=by
 induction c with|nil=>exact rfl|cons t c S=>exact S.trans (Fe _)
def i5(a:Nat):ZM:=j7 [0] a
def S2:j7 [V.int 0] a=(i5 a).map .int:=by
 induction a with|zero=>rfl|succ n S=>exact W0 (V.int 0::·) S
def qi:Wx (i5 a)=a:=by
 induction a with|zero=>rfl|succ n S=>exact W0 (·+1) S
def xi(E:ZH)(t:Nat):Int:=match au E t with
 |some g=>.ofNat g
 |none=>0
def k3(x:hE)(r:ZM):ZM:=rS (λ_=>lj) (gf x.b) (rS (xi x.aa) (x.aa.map (·.1)) r)
def k1(r a:Nat)(x:hE):ZM:=k3 x (rS (λ_=>-(.ofNat r)) (gf x.m) (i5 a))
def HV{l:ZM}:f3 (ct (a+1) h) (l.map .int)=some (l.map .int):=by
 induction l with|nil=>rfl|cons i r S=>exact a6 rfl (a6 S rfl)
abbrev oG(a:ZM):Z0 O:=aai (some (.ae (a.map .int) 0))
def sW(e:h.get p=some (.ae a 0))(g:f3 (ct 11 Z.bj) a=some a):sV (.ref p) h=some (.ae a,h.a5 p none):=by
 refine(?_:(match h.get p with|some (O.ae a 0)=>Y (f3 (ct 11 Z.bj) a) λl=>some (V.ae l,h.ho p)|some (O.ah k T 0)=>Y (gW (ct 11 Z.bj) T) λl=>some (V.ah k l,h.ho p)|_=>none)=_)
 exact e▸a6 g rfl
def A6{R:ZM->List (Z0 O)}(j:∀a,au (U A [(26,I a)]) 54=some (.ref (c.n+i)))(g:∀a,au (U A [(26,I a)]) 26=some (I a))(G:∀a h,hJ [26] (I a) ⟨A,h⟩=some ⟨U A [(26,I a)],h⟩)(V:∀a,i' A (U A [(26,I a)])=A)(Q:∀x,a3 (R x) i=some (oG x))(k:∀x y,dU (R x) i (oG y)=R y)
  (d:ZK):∀{b:ZM},(∀a∈d,a<Wx b)->(∀a∈d,∀b,ao e ⟨U A [(26,I a)],W c (R b)⟩ (.int (f a)) (W c (R b)))->
  cS [26] [.bY (.sub (.F 54) (.F 26)) e] (d.map I) ⟨A,W c (R b)⟩ .next ⟨A,W c (R (rS f d b))⟩:=by
 induction d with
 |nil=>exactλ_ _=>dq
 |cons a d S=>
  intro b X H;refine cW (G a _) (M (jy (H a (.head _) b) (J (j a)) (J (g a)) ((FF i (Q b) (by rw[c9];exact dF (X a (.head _)))).trans ?_)) ba) (V a) (S (λm D=>by rw[Fe];exact X m (.tail _ D)) λm D=>H m (.tail _ D))
  rw[TG,k]
def zR:ie (D l)=(l.map (·.1)).map I:=by
 induction l with|nil=>rfl|cons x r S=>exact W0 (I x.1::·) S
def z3{l:ZH}(h:a∈l.map (·.1)):∃g,au l a=some g:=by
 induction l with
 |nil=>exact eu h
 |cons x r S=>
  show∃g,(match Nat.beq x.1 a with|true=>some x.2|false=>au r a)=some g
  generalize G:Nat.beq x.1 a=N;induction N with
  |true=>exact⟨_,rfl⟩
  |false=>cases h with
   |head=>exact absurd (Xn x.1) (by exact G▸nofun)
   |tail _ h=>exact S h
def jJ(F:Z)(G:V)(q l:Nat)(Q:ZH)(x:hE):List (Z0 O):=aai [some (.ins 8 (l' F.n (F.n+4) G q x.b)),some (.ah .I (D x.aa) 0),some (.ah .I (D Q) 0),some (.ae [] l),some (.ae [] 0)]
def GP{T:Nat->List (Z0 O)}(k:Nat)(E:∀l y,a3 (U (T l) [y]) 0=some (some (.ins 8 P)))(vt:au P 45=some (.ref (b.n+1)))(n:au P 51=some (I x.b))(d:∀l y,a3 (U (T l) [y]) 1=some (some (.ah .I (D x.aa) l)))(j:∀l m y,dU (U (T l) [y]) 1 (some (.ah .I (D x.aa) m))=U (T m) [y])
  (R:∀l y,a3 (U (T l) [y]) k=some y)(f:∀l y z,dU (U (T l) [y]) k z=U (T l) [z])(o:∀c∈x.aa.map (·.1),c<Wx row)(N:∀c∈gf x.b,c<Wx row)(G:x.b<2 ^ 40):
  bE (y9.body.drop 2) ⟨[(6,.ref b.n),(54,.ref (b.n+k))],W b (U (T 0) [oG row])⟩ (.ret (.ae ((k3 x row).map .int))) ⟨[(6,.ref b.n),(54,.ref (b.n+k))],W b (U (T 0) [none])⟩:=by
 have i:∀{A:ZD}{l a:Nat}{y:Z0 O}{v:V},au A 6=some (.ref b.n)->au P a=some v->ao (.aS (.F 6) a) ⟨A,W b (U (T l) [y])⟩ v (W b (U (T l) [y])):=λe g=>a9 (J e) (fz 0 (E _ _) g);have K:=A6 (A:=[(6,.ref b.n),(54,.ref (b.n+k))]) (e:=.sub (.aS (.F 6) 45) (.F 26)) (f:=xi x.aa) (R:=λz=>U (T 1) [oG z]) (λ_=>rfl) (λ_=>rfl) (λ_ _=>rfl) (λ_=>rfl) (λ_=>R _ _) (λ_ _=>f _ _ _) (x.aa.map (·.1)) o λc X z=>by refine bw (i rfl vt) J (E6 1 (d _ _) rfl ?_);rw[lk];unfold xi;exact(z3 X).elim λg e=>by rw[e];rfl
 refine M (da (c8 (i rfl vt) ((a6 (sr (cw _ (d 0 _))) rfl).trans (W0 some zR))) ((O8 1 (d 0 _)).trans (by rw[j])) K ((O9 1 (d 1 _)).trans (by rw[j]))) ?_
 exact M (da (c8 (c7 (aq (i rfl n)) (yD G)) rfl) rfl (A6 (c:=b) (i:=k) (A:=[(6,.ref b.n),(54,.ref (b.n+k))]) (e:=.d9 (.int (-1048576))) (f:=λ_=>lj) (R:=λz=>U (T 0) [oG z]) (λ_=>rfl) (λ_=>rfl) (λ_ _=>rfl) (λ_=>rfl) (λ_=>R _ _) (λ_ _=>f ..) (gf x.b) (b:=rS (xi x.aa) (x.aa.map (·.1)) row) (λc X=>by rw[oo];exact N c X) λc X z=>h6) rfl) (bG (cb (mI J ((sW (cw _ (R 0 _)) HV).trans (W0 (λh=>some (_,h)) ((gT _ (R 0 _)).trans (by rw[f])))))))
def GO(v:∀h,bM h G 16=some (I a))(c:a<1000)(e:au A 6=some (.ref p))(b:h.get p=some (.ins 8 P))(g:au P 33=some G):cF (cm y9 0) ⟨A,h⟩ .next ⟨Wy A 54 (.ref h.n),h.new (.ae ((i5 a).map .int) 0)⟩:=by
 refine cI (sZ (fu (aq u)) (a9 (a9 (J e) (iY b g)) (v _)) ?_);refine(?_:Y (bS (Nat.blt a b0) (some (j7 [V.int 0] a))) _=_);rw[qO c,S2]
 rfl
def S4(v:∀h,bM h G 16=some (I b))(V:b<1000)(P:∀c∈x.aa.map (·.1),c<b)(N:∀c∈gf x.b,c<b)(d:x.b<2 ^ 40)(t:∀c∈gf x.m,c<b)(e:x.m<2 ^ 40):
  aY .inl 29 [.ref a.n] (W a (dm a G q r 0 Q x)) (.ae ((k1 r b x).map .int)) (W a (U (dm a G q r 0 Q x) [none])):=by
 exact cH rfl rfl (M (a:=⟨[(6,.ref a.n),(54,.ref (a.n+6))],W a (U (dm a G q r 0 Q x) [oG (i5 b)])⟩) (GO (p:=a.n) v V rfl (cw (i:=0) _ rfl) rfl) (M (da (EF (a9 J (fz 0 rfl rfl)) (lX (cw (i:=3) _ rfl))) (pS 3 rfl) (cW rfl (M (da (c8 (c7 (aq (bw J u (mX 4 rfl rfl))) (yD e)) rfl) rfl (A6 (c:=a) (A:=[(6,.ref a.n),(54,.ref (a.n+6)),(52,.ref (a.n+4))]) (e:=.c6 .neg (.sub (.F 52) (.lit (.int 0)))) (R:=λz=>U (dm a G q r 1 Q x) [oG z]) (λ_=>rfl) (λ_=>rfl) (λ_ _=>rfl) (λ_=>rfl) (λ_=>rfl) (λ_ _=>rfl) (gf x.m) (b:=i5 b) (by rw[qi];exact t) λc X z=>hK (bw J u (mX 4 rfl rfl)) rfl) rfl) ba) rfl dq) (pT 3 rfl))
  (GP (x:=x) (T:=λl=>dU (dm a G q r 0 Q x) 1 (some (.ah .I (D x.aa) l))) 6 (λ_ _=>rfl) rfl rfl (λ_ _=>rfl) (λ_ _ _=>rfl) (λ_ _=>rfl) (λ_ _ _=>rfl) (by rw[oo,qi];exact P) (by rw[oo,qi];exact N) d)))
def S3(v:∀h,bM h G 16=some (I b))(V:b<1000)(P:∀c∈x.aa.map (·.1),c<b)(N:∀c∈gf x.b,c<b)(d:x.b<2 ^ 40):
  aY .inl 29 [.ref a.n] (W a (jJ a G q 0 Q x)) (.ae ((k3 x (i5 b)).map .int)) (W a (U (jJ a G q 0 Q x) [none])):=
 cH rfl rfl (M (a:=⟨[(6,.ref a.n),(54,.ref (a.n+5))],W a (U (jJ a G q 0 Q x) [oG (i5 b)])⟩) (GO v V rfl (cw (i:=0) _ rfl) rfl) (M (da (EF (a9 J (fz 0 rfl rfl)) (lX (cw _ rfl))) (pS 3 rfl) dq (pT 3 rfl))
  (GP (T:=λl=>dU (jJ a G q 0 Q x) 1 (some (.ah .I (D x.aa) l))) 5 (λ_ _=>rfl) rfl rfl (λ_ _=>rfl) (λ_ _ _=>rfl) (λ_ _=>rfl) (λ_ _ _=>rfl) (by exact qi▸P) (by exact qi▸N) d)))
def rn(m t:Nat):Bool:=aai (wD (.ofNat (Nat.land m (Nat.shiftLeft 1 t))))
def n3(m:Nat)(E:ZH)(b:ZM)(t:Nat):List (Nat×Int):=match rn m t&&WE (au E t)with
 |true=>match a3 b t with
  |some i=>[(t,i)]
  |none=>[]
 |false=>[]
def CL(h:rn m t=false\/au a t=none):n3 m a row t=[]:=by
 unfold n3;induction h with
 |inl h=>refine h▸?_;rfl
 |inr h=>refine h▸?_;cases rn m t<;>rfl
def Lm(h:rn m t)(k:au a t=some g)(e:a3 row t=some i):n3 m a row t=[(t,i)]:=by unfold n3;refine h▸k▸e▸?_;rfl
def qX(m:Nat)(E:ZH)(b:ZM)(O:ZK):List (Nat×Int):=
 O.rec [] λt _ S=>U (n3 m E b t) S
def m7(l:List α):∀{i:Nat},i<Wx l->∃a,a3 l i=some a:=by
 induction l with
 |nil=>exactλh=>absurd h (Yk _)
 |cons x r S=>exactλ{i} h=>by induction i with|zero=>exact⟨x,rfl⟩|succ i=>exact S (Ya h)
def kV(l:List α):∀{i:Nat},a3 (l.map f) i=(a3 l i).map f:=by
 induction l with
 |nil=>exact rfl
 |cons x r S=>exactλ{i}=>by induction i with|zero=>rfl|succ i=>exact S
def js(T:d<Wx a)(e:a3 a d=some b):cZ (.ae a) (I d) h=some b:=by
 refine(?_:Y (match Nat.blt d (Wx a)with|true=>some d|false=>none) (a3 a)=_)
 exact(dF T)▸e
def Vz{l:List (Nat×Int)}:f3 (ct (a+1) h) (l.map (eJ q r))=some (l.map (eJ q r)):=by
 induction l with|nil=>rfl|cons i r S=>exact a6 rfl (a6 S rfl)
abbrev gN(q r:Nat)(a:List (Nat×Int)):Z0 O:=some (.ae (a.map (eJ q r)) 0)
abbrev sx:List S:=cA (cm Dp 1)
abbrev iA(F:Z)(k:Nat)(b:ZM):ZD:=aai [(6,.ref F.n),(54,.ae (b.map .int)),(12,.ref (F.n+k))]
section
variable{F:Z}{G:V}{q r a:Nat}{Q:ZH}{x:hE}{b:ZM}
def Lk(a:ZK):∀{c:List (Nat×Int)},(∀d∈a,d<Wx b/\d<=64)->Wx c+a.length<1000->
  cS [26] sx (a.map I) ⟨iA F 7 b,W F (U (dm F G q r 0 Q x) [none,gN q r c])⟩ .next ⟨iA F 7 b,W F (U (dm F G q r 0 Q x) [none,gN q r (U c (qX x.m x.aa b a))])⟩:=by
 induction a with
 |nil=>exactλ{c} _ _=>by rw[show qX x.m x.aa b []=[] from rfl,eI];exact dq
 |cons t a n=>
  intro c X f;have j:=X t (.head _);have z:=n (c:=U c (n3 x.m x.aa b t)) (λm D=>X m (.tail _ D)) (by
   unfold n3;cases rn x.m t&&WE (au x.aa t)with
   |false=>rw[eI];exact Xr f
   |true=>cases a3 b t with
    |none=>rw[eI];exact Xr f
    |some i=>exact lz f)
  rw[eL] at z;have S:∀{h:ZF}{E:List (Nat×Int)},U c (n3 x.m x.aa b t)=E->bE sx ⟨U (iA F 7 b) [(26,I t)],W F (U (dm F G q r 0 Q x) [none,gN q r c])⟩ .next ⟨U (iA F 7 b) [(26,I t),(31,.ae h)],W F (U (dm F G q r 0 Q x) [none,gN q r E])⟩->
    cS [26] sx ((t::a).map I) ⟨iA F 7 b,W F (U (dm F G q r 0 Q x) [none,gN q r c])⟩ .next ⟨iA F 7 b,W F (U (dm F G q r 0 Q x) [none,gN q r (U c (qX x.m x.aa b (t::a)))])⟩:=λe p=>cW rfl p rfl (e▸z)
  have L:∀{h:ZF}{H:Z},H=W F (U (dm F G q r 1 Q x) [none,gN q r c])->eV [52] (.sub (.F 52) (.lit (.int 0))) (some (.a7 .kq false (.sub (.F 52) (.lit (.int 1))) (.a7 .jz false (.lit (.int 1)) (.F 26)))) (U (iA F 7 b) [(26,I t)]) [.ref (F.n+4)] H h H->
    cF (sx.headD .eF) ⟨U (iA F 7 b) [(26,I t)],W F (U (dm F G q r 0 Q x) [none,gN q r c])⟩ .next ⟨U (iA F 7 b) [(26,I t),(31,.ae h)],W F (U (dm F G q r 0 Q x) [none,gN q r c])⟩:=λe m=>
   cI (s6 (c8 (a9 J (fz 0 rfl rfl)) (ui (cw _ rfl))) rfl (pS 3 rfl) (e▸m) (pT 3 rfl))
  have l:ao (.a7 .kq false (.sub (.F 52) (.lit (.int 1))) (.a7 .jz false (.lit (.int 1)) (.F 26))) ⟨U (iA F 7 b) [(26,I t),(52,.ref (F.n+4))],W F (U (dm F G q r 1 Q x) [none,gN q r c])⟩ (I (Nat.land x.m (Nat.shiftLeft 1 t))) (W F (U (dm F G q r 1 Q x) [none,gN q r c])):=cV (bw J u (mX 4 rfl rfl)) (cV u J (A7 j.2)) rfl;cases dO:rn x.m t with
  |false=>exact S ((W0 _ (CL (.inl dO))).trans eI) (M (L rfl (Aa rfl l (W0 some dO) gF)) (fF 9 λ_=>rfl))
  |true=>
   have y:=L rfl (Ab rfl l (W0 some dO) (bw J u (mX 4 rfl rfl)) gF);have k:∀{o},au x.aa t=o->ao (.bool true [.F 31,.aw .kK (.F 26) (.aS (.F 6) 45)]) ⟨U (iA F 7 b) [(26,I t),(31,.ae [I r])],W F (U (dm F G q r 0 Q x) [none,gN q r c])⟩ (.bool (WE (o.map I))) (W F (U (dm F G q r 0 Q x) [none,gN q r c])):=λe=>fX (jO J rfl (h4 (bF J (a9 J (fz 0 rfl rfl)) ((E7 1 rfl rfl).trans (W0 (λo=>some (WE o)) (e▸lk))))))
   cases bC:au x.aa t with
   |none=>exact S ((W0 _ (CL (.inr bC))).trans eI) (M y (M (cX (k bC) rfl) (fF 9 λ_=>rfl)))
   |some g=>
    refine(m7 b j.1).elim λi A=>S (h:=[I r]) (W0 _ (Lm dO bC A)) (M y (M (c1 (k bC) rfl (M (de (v8 7 rfl J rfl (iC (aI (a9 J (fz 0 rfl rfl)) (aI J (aI u (aI (d4 (aq J) rfl) (aq (bw J J (js (by rw[c9];exact j.1) ((kV b).trans (W0 (Option.map V.int) A))))))))) FT) (dW (by rw[c9];exact hs f))) rfl) ba)) ?_))
    refine(?_:bE _ ⟨_,W F (U (dm F G q r 0 Q x) [none,some (.ae (U (c.map (eJ q r)) ([(t,i)].map (eJ q r))) 0)])⟩ _ _);rw[h3];exact fF 9 λ_=>rfl
def Lj(v:∀h,bM h G 16=some (I a))(V:a<900)(e:i2 0 a=c.map I)(f:c.length<900)(X:∀d∈c,d<Wx b/\d<=64):
  aY .inl 30 [.ref F.n,.ae (b.map .int)] (W F (U (dm F G q r 0 Q x) [none])) (.ae ((qX x.m x.aa b c).map (eJ q r))) (W F (U (dm F G q r 0 Q x) [none,none])):=
 cH rfl rfl (M (a:=⟨iA F 7 b,W F (U (dm F G q r 0 Q x) [none,gN q r []])⟩) (cI (h7 du)) (M (da (e▸kI (a9 (a9 J (fz 0 rfl rfl)) (v _)) (qO (W4 V (WY rfl)))) rfl (Lk c X (by rw[show Wx ([]:List (Nat×Int))=0 from rfl,W7];exact W4 f (WY rfl))) rfl)
  (bG (cb (mI J ((sW (cw _ rfl) Vz).trans (W0 (λh=>some (_,h)) (gT _ rfl))))))))
def Ll(c:ZK):cS [26] sx (c.map I) ⟨iA F 6 b,W F (U (jJ F G q 0 Q x) [none,some (.ae [] 0)])⟩ .next ⟨iA F 6 b,W F (U (jJ F G q 0 Q x) [none,some (.ae [] 0)])⟩:=by
 induction c with|nil=>exact dq|cons t c S=>exact cW rfl (M (cI (s6 (c8 (a9 J (fz 0 rfl rfl)) (ui (cw _ rfl))) rfl (pS 3 rfl) gF (pT 3 rfl))) (fF 9 λ_=>rfl)) rfl S
def Li(v:∀h,bM h G 16=some (I a))(V:a<900){c:ZK}(d:i2 0 a=c.map I):
  aY .inl 30 [.ref F.n,.ae (b.map .int)] (W F (U (jJ F G q 0 Q x) [none])) (.ae []) (W F (U (jJ F G q 0 Q x) [none,none])):=
 cH rfl rfl (M (a:=⟨iA F 6 b,W F (U (jJ F G q 0 Q x) [none,some (.ae [] 0)])⟩) (cI (h7 du)) (M (da (d▸kI (a9 (a9 J (fz 0 rfl rfl)) (v _)) (qO (W4 V (WY rfl)))) rfl (Ll c) rfl)
  (bG (cb (mI J ((sW (cw _ rfl) rfl).trans (W0 (λh=>some (_,h)) (gT _ rfl))))))))
end
def xN(r:Nat)(l:ZM):ZM:=aai (l.map λi=>match dr i (-(.ofNat r))with|true=>0|false=>i)
def We(f:Wx row<1000):aY .inl 32 [.ae (row.map .int),I r] h (.ae ((xN r row).map .int)) h:=by
 have v:∀O:ZM,eV [22] (.ite (.aw .eq (.F 22) (.c6 .neg (.F 24))) (.lit (.int 0)) (.F 22)) none [(54,.ae (row.map .int)),(24,I r)] (O.map .int) h ((xN r O).map .int) h:=λO=>by
  induction O with
  |nil=>exact gF
  |cons i O S=>
   have c:∀{B},dr i (-(.ofNat r))=B->ao (.aw .eq (.F 22) (.c6 .neg (.F 24))) ⟨[(54,.ae (row.map .int)),(24,I r),(22,.int i)],h⟩ (.bool B) h:=λe=>e▸eM 5 λ_=>rfl;show eV _ _ _ _ (.int i::O.map .int) _ (.int (match dr i (-(.ofNat r))with|true=>0|false=>i)::(xN r O).map .int) _
   generalize G:dr i (-(.ofNat r))=N;induction N with|true=>exact fZ rfl (lH (c G) rfl u) S|false=>exact fZ rfl (jT (c G) rfl J) S
 exact cH rfl rfl (bG (cb (h5 (c8 J rfl) (dW (by rw[c9];exact f)) rfl (v row) rfl)))
def ko(l:ZK):V:=aai (.ay (l.map I))
def iM(n:Nat)(s:ZK)(g:Int)(T:ZK)(A:ZH)(m:ZK):V:=aai (.ins 19 false [(22,I n),(128,ko s),(46,.int g),(129,.ae (T.map I)),(47,.ah .I (D A)),(49,.ae (m.map I))])
def nv(a:Nat)(O:ZH):ZH->ZH:=
 O.rec (λd=>d) λx _ S d=>match Nat.beq x.1 0 with
  |true=>S (Wy d x.1 1048576)
  |false=>match Nat.blt x.1 a with
   |true=>S (Wy d x.1 x.2)
   |false=>S d
def eX(a:Nat)(O:ZH):ZH->ZH:=
 O.rec (λd=>d) λx _ S d=>match Nat.beq x.1 0 with
  |true=>S d
  |false=>match Nat.blt x.1 a with
   |true=>S d
   |false=>S (Wy d x.1 x.2)
def uD:cU (D l) (.i (.ofNat a)) (I b)=D (Wy l a b):=by
 induction l with
 |nil=>rfl
 |cons x r S=>
  show(match Nat.beq x.1 a with|true=>(aE.i (.ofNat x.1),I b)::D r|false=>(aE.i (.ofNat x.1),I x.2)::cU (D r) (.i (.ofNat a)) (I b))=D (match Nat.beq x.1 a with|true=>(x.1,b)::r|false=>x::Wy r a b)
  generalize Nat.beq x.1 a=N;induction N with|true=>rfl|false=>exact W0 (_::·) S
def wb:Wx (Wy l a b)<=Wx l+1:=by
 induction l with
 |nil=>exact Xe _
 |cons x r S=>
  show Wx (match Nat.beq x.1 a with|true=>(x.1,b)::r|false=>x::Wy r a b)<=_
  generalize Nat.beq x.1 a=N;induction N with|true=>exact Xt _|false=>exact Xp S
def AK(h:Wx l+(a+1)<m):Wx (Wy l b c)+a<m:=W3 (W5 (Xl wb a) (Xu (by rw[W9,Xa 1]))) h
def DD(h:Wx l+a<1000):eC (D l):=dW (by unfold D;rw[c9];exact hs h)
abbrev SY(F:Z)(q:Nat)(G:V):ZD:=aai [(33,G),(22,I q),(45,.ref (F.n+1)),(37,.ref (F.n+2))]
abbrev nd(F:Z)(G s m:V):ZD:=aai [(6,.ref F.n),(33,G),(25,s),(50,m)]
def jd(F:Z)(q:Nat)(G:V)(E Q:ZH):List (Z0 O):=aai [some (.ins 8 (SY F q G)),some (.ah .I (D E) 0),some (.ah .I (D Q) 0)]
def QV(n:∀h,bM h G 16=some (I c))(r:ZH):∀{b Q:ZH},(∀x∈r,au A x.1=some x.2)->Wx b+r.length<1000->Wx Q+r.length<1000->
  cS [46] (cA (cm vs 4)) (r.map λx=>I x.1) ⟨nd a G (iM q s g T A m) (.ah .T mk),W a (jd a q G b Q)⟩ .next ⟨nd a G (iM q s g T A m) (.ah .T mk),W a (jd a q G (nv c r b) (eX c r Q))⟩:=by
 induction r with
 |nil=>exactλ_ _ _=>dq
 |cons x r S=>
  intro b Q D P N;have l:ao (.sub (.aS (.F 25) 47) (.F 46)) ⟨U (nd a G (iM q s g T A m) (.ah .T mk)) [(46,I x.1)],W a (jd a q G b Q)⟩ (I x.2) (W a (jd a q G b Q)):=bw (a9 (J rfl) rfl) J (a6 rfl (a6 rfl (by rw[lk,D x (.head _)];rfl)))
  have f:∀{B},Nat.beq x.1 0=B->ao (.aw .eq (.F 46) (.d9 (.int 0))) ⟨U (nd a G (iM q s g T A m) (.ah .T mk)) [(46,I x.1)],W a (jd a q G b Q)⟩ (.bool B) (W a (jd a q G b Q)):=λe=>e▸eM 5 λ_=>rfl;have p:∀{B},Nat.blt x.1 c=B->ao (.aw .lt (.F 46) (.aS (.F 33) 16)) ⟨U (nd a G (iM q s g T A m) (.ah .T mk)) [(46,I x.1)],W a (jd a q G b Q)⟩ (.bool B) (W a (jd a q G b Q)):=λe=>e▸bF J (a9 J (n _)) rfl;have i:=λy L=>D y (.tail _ L);have k:∀v,nt (.ref (a.n+1)) (I x.1) (I v) (W a (jd a q G b Q))=some (W a (jd a q G (Wy b x.1 v) Q)):=λv=>(tB 1 rfl rfl (DD P)).trans (by rw[uD];rfl)
  unfold nv eX;dsimp only;generalize d:Nat.beq x.1 0=j;induction j with
  |true=>exact cW rfl (M (c1 (f d) rfl (M (jy h6 (a9 J (fz 0 rfl rfl)) J (k 1048576)) ba)) ba) rfl (S i (AK P) (Xr N))
  |false=>generalize O:Nat.blt x.1 c=j;induction j with|true=>exact cW rfl (M (xc (f d) rfl (M (c1 (p O) rfl (M (jy l (a9 J (fz 0 rfl rfl)) J (k _)) ba)) ba)) ba) rfl (S i (AK P) (Xr N))|false=>exact cW rfl (M (xc (f d) rfl (M (xc (p O) rfl (M (jy l (a9 J (fz 0 rfl rfl)) J ((tB 2 rfl rfl (DD N)).trans (by rw[uD];rfl))) ba)) ba)) ba) rfl (S i (Xr P) (AK N))
def GH(v:∀h,bM h G 16=some (I b))(D:∀x∈A,au A x.1=some x.2)(f:A.length<1000)(k:bE (vs.body.drop 5) ⟨nd a G (iM q s g T A m) (.ah .T mk),W a (jd a q G (nv b A []) (eX b A []))⟩ .next c):bE vs.body ⟨nd a G (iM q s g T A m) (.ah .T mk),W a [some (.ins 8 [])]⟩ .next c:=by
 have z:Wx ([]:ZH)+A.length<1000:=by rw[show Wx ([]:ZH)=0 from rfl,W7];exact f
 exact M (fc J J (fa 0 rfl rfl)) (M (fc (a9 J rfl) J (fa 0 rfl rfl)) (M (kH (P:=W a [some (.ins 8 [(33,G),(22,I q)]),some (.ah .I [] 0)]) (mH oD) J (fa 0 rfl rfl)) (M (kH (P:=W a [some (.ins 8 [(33,G),(22,I q),(45,.ref (a.n+1))]),some (.ah .I [] 0),some (.ah .I [] 0)]) (mH oD) J (fa 0 rfl rfl)) (M (da (c8 (a9 (J rfl) rfl) (W0 some (zR.trans Yt))) rfl (QV v A D z z) rfl) k))))
def i6(a m:Nat)(A:ZH):hE:=⟨nv a A [],m,0,[]⟩
abbrev AU(F:Z)(q:Nat)(G:V):ZD:=aai [(33,G),(22,I q),(45,.ref (F.n+1)),(37,.ref (F.n+2)),(48,.ref (F.n+3))]
def S0(v:∀h,bM h G 16=some (I b))(c:∀x∈A,au A x.1=some x.2)(f:A.length<1000):aY .eg 8 [G,iM q s g T A [],.ah .T mk] a (.ref a.n) (W a (jJ a G q 0 (eX b A []) (i6 b 0 A))):=by exact yI rfl rfl rfl (gO (G:=nd a G (iM q s g T A []) (.ah .T mk)) rfl rfl (GH v c f (M (kH (P:=W a (U (jd a q G (nv b A []) (eX b A [])) [some (.ae [] 0)])) (h7 du) J (fa 0 rfl rfl)) (M (da (c8 (a9 J rfl) rfl) rfl dq rfl) (M (fc u J (fa 0 rfl rfl)) (M (kH (P:=W a [some (.ins 8 (U (AU a q G) [(51,I 0)])),some (.ah .I (D (nv b A [])) 0),some (.ah .I (D (eX b A [])) 0),some (.ae [] 0),some (.ae [] 0)]) (h7 du) J (fa 0 rfl rfl)) ba))))))
def S1(v:∀h,bM h G 16=some (I b))(c:∀x∈A,au A x.1=some x.2)(f:A.length<1000)(R:bL mk (.t [.ofNat q,.ofNat r])=some (I m)):aY .eg 8 [G,iM q s g T A [r],.ah .T mk] a (.ref a.n) (W a (dm a G q r 0 (eX b A []) (i6 b m A))):=by exact yI rfl rfl rfl (gO (G:=nd a G (iM q s g T A [r]) (.ah .T mk)) rfl rfl (GH v c f (M (kH (P:=W a (U (jd a q G (nv b A []) (eX b A [])) [some (.ae [] 0)])) (h7 du) J (fa 0 rfl rfl)) (M (da (c8 (a9 (J rfl) rfl) rfl) rfl (cW rfl (M (de (fY (N:=W a [some (.ins 8 (AU a q G)),some (.ah .I (D (nv b A [])) 0),some (.ah .I (D (eX b A [])) 0),some (.ae [] 0),some (.ae [I r,I m] 0)]) (a9 J (fz 0 rfl rfl)) (cw (i:=3) _ rfl) (aq (h7 (aI J (aq (kB (J rfl) rfl (aI (d8 (aI (a9 (J rfl) rfl) (aq (J rfl)))) (aq u)) rfl (ou (W0 (λo=>some (rJ (V.int 0) o)) R))))))) (cw (i:=3) _ rfl) ((hu (cw (i:=3) _ rfl) rfl).trans (W0 (λh=>some (V.none,h)) (gT (i:=3) _ rfl)))) rfl) ba) rfl dq) rfl) (M (fc u J (fa 0 rfl rfl)) (M (kH (P:=W a [some (.ins 8 (U (AU a q G) [(51,I 0)])),some (.ah .I (D (nv b A [])) 0),some (.ah .I (D (eX b A [])) 0),some (.ae [.ref (a.n+4)] 0),some (.ae [I r,I m] 0),some (.ae [] 0)]) (h7 du) J (fa 0 rfl rfl)) ba))))))
def pN:dr a b=true↔a=b:=by
 induction a with
 |ofNat m=>induction b with
  |ofNat n=>exact⟨λh=>W0 Int.ofNat (W2 h),λh=>YF h▸Xn m⟩
  |negSucc n=>exact⟨(nomatch ·),(nomatch ·)⟩
 |negSucc m=>induction b with
  |ofNat n=>exact⟨(nomatch ·),(nomatch ·)⟩
  |negSucc n=>exact⟨λh=>W0 Int.negSucc (W2 h),λh=>Int.negSucc.inj h▸Xn m⟩
def oe(r:Nat)(O:ZM):Nat->ZL:=
 O.rec (λc=>some c) λi _ S c=>match gh lj i&&gh i 0 with
  |false=>S c
  |true=>match dr (-i) (.ofNat r)with
   |true=>S (c+1)
   |false=>none
noncomputable def lG(r:Nat):Nat->ZH
 |0=>[]
 |c+1=>[(r,c+1)]
def nW(d:ZH):Z:=aai ⟨.node (some (.ah .I (D d) 0)) .nil .nil,1⟩
abbrev q3(b:ZM):ZD:=aai [(54,.ae (b.map .int)),(56,.ref 0)]
def K8:gC .I (D (lG r c)) [I r,.int 0]=some (I c):=by
 induction c with
 |zero=>rfl
 |succ c=>
  refine(?_:some (rJ (V.int 0) (match Nat.beq r r with|true=>some (I (c+1))|false=>none))=_)
  rw[Xn];rfl
def K9:nt (.ref 0) (I r) (I (c+1)) (nW (lG r c))=some (nW (lG r (c+1))):=by
 refine(rT rfl rfl (by induction c<;>rfl)).trans ?_
 rw[uD,show Wy (lG r c) r (c+1)=lG r (c+1) from ?_]
 .rfl
 .induction c with
  |zero=>rfl
  |succ c=>
   refine(?_:(match Nat.beq r r with|true=>[(r,c+2)]|false=>_)=_)
   rw[Xn];rfl
def a4(h:(a&&b)):a=true/\b=true:=by induction a<;>induction b<;>first|exact⟨rfl,rfl⟩|exact bb h
def LA(O:ZM):∀{f c:Nat},oe r O f=some c->cS [22] (cA (cm y' 2)) (O.map .int) ⟨q3 row,nW (lG r f)⟩ .next ⟨q3 row,nW (lG r c)⟩:=by
 induction O with
 |nil=>exactλe=>WZ e▸dq
 |cons i l S=>
  intro f c e;have e:(match gh lj i&&gh i 0 with
   |false=>oe r l f
   |true=>match dr (-i) (.ofNat r)with
    |true=>oe r l (f+1)
    |false=>none)=some c:=e
  have b:∀{B},(gh lj i&&gh i 0)=B->ao (.kx .lt .lt (.d9 (.int (-1048576))) (.F 22) (.lit (.int 0))) ⟨U (q3 row) [(22,.int i)],nW (lG r f)⟩ (.bool B) (nW (lG r f)):=λ{B} z=>by
   cases q:gh lj i with
   |false=>have z:=q▸z;exact z▸LY h6 (J rfl) (W0 some q)
   |true=>have z:=q▸z;exact z▸LZ h6 (J rfl) (W0 some q) u rfl
  cases dO:gh lj i&&gh i 0 with
  |false=>have e:=dO▸e;exact cW rfl (M (cX (b dO) rfl) ba) rfl (S e)
  |true=>
   have e:=dO▸e;cases hr:dr (-i) (.ofNat r)with
   |false=>have e:=hr▸e;exact cB e
   |true=>have e:=hr▸e;have a:∀{h},ao (.c6 .neg (.F 22)) ⟨U (q3 row) [(22,.int i)],h⟩ (I r) h:=λ{h}=>hK (J rfl) (W0 (λj=>some (V.int j)) (pN.mp hr));exact cW rfl (M (c1 (b dO) rfl (M (jy (cV (q9 J rfl (aI a (aq u)) rfl (tE rfl K8)) u rfl) J a K9) ba)) ba) rfl (S e)
noncomputable def qJ(r:Nat):Nat->Nat
 |0=>0
 |_+1=>r
def Lz(O:a3 row 1=some 0)(f:1<Wx row)(N:oe r row 0=some c):aY .nV 31 [.ae (row.map .int)] h (I (qJ r c)) h:=by
 have a:cg 60 (.ae (row.map .int)):=by
  clear O f N
  induction row with|nil=>rfl|cons i r S=>exact S
 refine Cm (P:=Z.bj) (c:=[.ae (row.map .int)]) rfl ?_ rfl;have v:∀{G P},bE (y'.body.drop 3) ⟨q3 row,nW (lG r c)⟩ (.ret (I (qJ r c))) ⟨G,P⟩->aY .pure 31 [.ae (row.map .int)] Z.bj (I (qJ r c)) Z.bj:=λk=>
  ks (show(match cg 60 (.ae (row.map .int))with|true=>true|false=>false)=true by rw[a]) rfl rfl rfl (M (cX (bF (bw J h6 (js (by rw[c9];exact f) ((kV row).trans (W0 (Option.map V.int) O)))) u rfl) rfl)
   (M (cI (mH oD)) (M (da (c8 J rfl) rfl (LA (row:=row) row N) rfl) k))) rfl rfl
 induction c with|zero=>exact v (fF 12 λ_=>rfl:bE _ _ _ ⟨U (q3 row) [(57,I 0)],nW []⟩)|succ c=>exact v (M (dk u) (M (da ⟨9,λ_=>rfl⟩ rfl ⟨9,λ_=>rfl⟩ rfl) (bG (cb J))))
def rk(A:List (Z0 O)):∀{a:Z}{B:List (Z0 O)},W (W a A) B=W a (U A B):=by
 induction A with|nil=>exact rfl|cons o r S=>exact S
inductive ya(e:Z)(G s m:V)(q:Nat)(row:ZM)(f:ZH)(w g:ZF):Prop where
 |mk (A B X x:List (Z0 O)) (t a b c d:Nat) (i:aY .eg 8 [G,s,m] e (.ref e.n) (W e A)) (H:aY .inl 27 [.ref e.n] (W e A) .none (W e B)) (h:aY .inl 29 [.ref e.n] (W e B) (.ae (row.map .int)) (W e X)) (l:aY .inl 30 [.ref e.n,.ae (row.map .int)] (W e X) (.ae w) (W e x))
  (p:a3 A 0=some (some (.ins 8 (l' e.n (e.n+t) G q a)))) (y:a3 B 0=some (some (.ins 8 (l' e.n (e.n+t) G q b)))) (z:a3 X 0=some (some (.ins 8 (l' e.n (e.n+t) G q c)))) (r:a3 x 0=some (some (.ins 8 (l' e.n (e.n+t) G q d)))) (N:a3 x 2=some (some (.ah .I (D f) 0))) (P:a3 x t=some (some (.ae g 0)))
structure gd where
 gZ:List ZM
 gt:List ZH
 d7:ZK
 eA:ZF
 fP:ZF
noncomputable def lh(f:gd):List (Z0 O):=[some (.ae (f.gZ.map λr=>.ae (r.map .int)) 0),some (.ae (f.gt.map λg=>.ah .I (D g)) 0),some (.ae (f.d7.map I) 0),some (.ae f.eA 0),some (.ae f.fP 0)]
abbrev dQ(f:gd)(J:List (Z0 O)):Z:=W Z.bj (U (lh f) J)
def ub(d:Nat)(b:ZM):ZM:=aai (match d with
 |0=>b
 |d+1=>xN (d+1) b)
def nC(f:gd)(d:Nat)(Q:ZH)(b:ZM)(w E:ZF):gd:=⟨U f.gZ [ub d b],U f.gt [Q],U f.d7 [d],U f.eA w,U f.fP E⟩
noncomputable def gQ(p:Bool)(d:Nat):Nat:=match p with
 |true=>d
 |false=>0
def Vx:gW (ct (a+1) h) (D l)=some (D l):=by
 induction l with|nil=>rfl|cons i r S=>exact a6 rfl (a6 S rfl)
def tR(A:List α):∀{i:Nat}{B:List α},a3 A i=some x->a3 (U A B) i=some x:=by
 induction A with
 |nil=>exactλh=>cB h
 |cons y r S=>exactλ{i}{B} h=>by induction i with|zero=>exact h|succ i=>exact S h
def G2(A:List α):∀{i:Nat}{B:List α},a3 A i=some x->dU (U A B) i y=U (dU A i y) B:=by
 induction A with
 |nil=>exactλh=>cB h
 |cons z r S=>exactλ{i}{B} h=>by induction i with|zero=>rfl|succ i=>exact W0 (z::·) (S h)
def gH(i:Nat)(e:a3 (lh f) i=some x):(W (dQ f a) L).get i=x:=by
 have z:=cw (a:=Z.bj) (U (U (lh f) a) L) (tR _ (tR _ e))
 rwa [<-rk,show Z.bj.n+i=i from W7 i] at z
def tJ(i:Nat)(e:a3 (lh f) i=some x)(g:dU (lh f) i y=lh P):(W (dQ f a) L).a5 i y=W (dQ P a) L:=by have z:=gT (a:=Z.bj) (U (U (lh f) a) L) (x:=y) (tR _ (tR _ e));rw[G2 _ (tR _ e),G2 _ e,g,show Z.bj.n+i=i from W7 i] at z;rw[rk,rk];exact z
def tH:(dQ f a).n=5+a.length:=(D7 _).trans (by rw[show Z.bj.n=0 from rfl,W7,cQ,W8];rfl)
structure nK(f:gd)(g:Nat):Prop where
 a:Wx f.gZ+g<800
 b:Wx f.gt+g<800
 c:Wx f.d7+g<800
 d:Wx f.eA+8*g<800
 e:Wx f.fP+8*g<800
def uz(h:a<800):a<1000:=W4 h (WY rfl)
def uK(h:a+8*(c+1)<800)(l:b<=8):a+b+8*c<800:=W3 (by rw[Yz,Xa (8*c),<-W9];exact Xl (Xg l a) _) h
def nK.step{u o:Nat}(j:nK a' (u+1))(C:Wx c'<=8)(J:Wx f'<=8):nK (nC a' o h' row c' f') u:=
 ⟨lz j.a,lz j.b,lz j.c,by rw[show(nC a' o h' row c' f').eA=U a'.eA c' from rfl,iF];exact uK j.d C,by rw[show(nC a' o h' row c' f').fP=U a'.fP f' from rfl,iF];exact uK j.e J⟩
def p1:V:=bX [108,97,108,114]
abbrev lL(M m:V)(p:Bool):ZD:=[(58,M),(50,m),(62,.bool p),(40,p1),(36,.ref 0),(37,.ref 1),(20,.ref 2),(38,.ref 3),(39,.ref 4)]
def MJ(X:∀f,(dQ f a).n=b)(R:Wx f.gZ<1000/\Wx f.gt<1000/\Wx f.d7<1000)(x:a3 L 0=some (some (.ins 8 H)))(c:au H 37=some (.ref (b+2)))(v:a3 L 2=some (some (.ah .I (D Q) 0))):
  bE ((cA (cm sQ 5)).drop 8) ⟨U (lL r m short) [(25,s),(60,.ref b),(54,.ae (row.map .int)),(24,I g)],W (dQ f a) L⟩ .next ⟨U (lL r m short) [(25,s),(60,.ref b),(54,.ae (row.map .int)),(24,I g)],W (dQ ⟨U f.gZ [row],U f.gt [Q],U f.d7 [g],f.eA,f.fP⟩ a) (dU L 2 none)⟩:=by
 have i:∀f,ao (.bI (.aS (.F 60) 37)) ⟨U (lL r m short) [(25,s),(60,.ref b),(54,.ae (row.map .int)),(24,I g)],W (dQ f a) L⟩ (.ah .I (D Q)) (W (dQ f a) (dU L 2 none)):=λf=>by
  refine mI (a9 J (X f▸fz 0 x c)) ?_;have e:=cw (a:=dQ f a) L v;have p:=gT (a:=dQ f a) (x:=none) L v;rw[X] at e p;refine(?_:(match(W (dQ f a) L).get (b+2)with|some (O.ae d 0)=>Y (f3 (ct 11 Z.bj) d) λl=>some (V.ae l,(W (dQ f a) L).ho (b+2))|some (O.ah k T 0)=>Y (gW (ct 11 Z.bj) T) λl=>some (V.ah k l,(W (dQ f a) L).ho (b+2))|_=>none)=_)
  rw[e,<-p];exact a6 Vx rfl
 refine M (de (fY J (gH 0 rfl) (aq J) (gH 0 rfl) ((hu (gH 0 rfl) (dW (by rw[c9];exact R.1))).trans (W0 (λh=>some (V.none,h)) (tJ (P:=⟨U f.gZ [row],f.gt,f.d7,f.eA,f.fP⟩) 0 rfl (by unfold lh;rw[<-h3];rfl))))) rfl) ?_
 refine M (de (fY J (gH 1 rfl) (aq (i _)) (gH 1 rfl) ((hu (gH 1 rfl) (dW (by rw[c9];exact R.2.1))).trans (W0 (λh=>some (V.none,h)) (tJ (P:=⟨U f.gZ [row],U f.gt [Q],f.d7,f.eA,f.fP⟩) 1 rfl (by unfold lh;rw[<-h3 (a:=f.gt)];rfl))))) rfl) ?_
 exact M (de (fY J (gH 2 rfl) (aq J) (gH 2 rfl) ((hu (gH 2 rfl) (dW (by rw[c9];exact R.2.2))).trans (W0 (λh=>some (V.none,h)) (tJ 2 rfl (by unfold lh;rw[<-h3 (a:=f.d7)];rfl))))) rfl) ba
def DC(K:ya (dQ f g) G s m q row Q w i)(N:∀h,bM h r 33=some G)(R:nK f (p+1))(S:Wx w<=8)(a':Wx i<=8)(F:a3 row 1=some 0)(Z:1<Wx row)(hl2:Wx row<1000)(Y:oe d row 0=some c)(T:qJ d c=d):
  ∃l,bE (cA (cm sQ 5)) ⟨U (lL r m short) [(25,s)],dQ f g⟩ .next ⟨U (lL r m short) [(25,s),(60,.ref (dQ f g).n),(54,.ae ((ub (gQ short d) row).map .int)),(24,I (gQ short d))],dQ (nC f (gQ short d) Q row w i) l⟩:=
 K.casesOn λA B C x t a b c' e2 o H D E k y z n cK os=>by
  refine⟨U g (dU x 2 none),?_⟩;rw[show dQ (nC f (gQ short d) Q row w i) (U g (dU x 2 none))=W (dQ (nC f (gQ short d) Q row w i) g) (dU x 2 none) from rk _▸rfl];have v:∀{L:List (Z0 O)}{b},a3 L 0=some (some (.ins 8 (l' (dQ f g).n ((dQ f g).n+t) G q b)))->(W (dQ f g) L).get (dQ f g).n=some (.ins 8 (l' (dQ f g).n ((dQ f g).n+t) G q b)):=λ{L b} e=>cw L e;refine M (cI (iC (aI (a9 J (N _)) (aI J (aq J))) o)) ?_;refine M (de (fJ J (kv (v k)) (kF (v k) rfl) rfl rfl rfl du H) rfl) ?_;refine M (cI (fJ J (kv (v y)) (kF (v y) rfl) rfl rfl rfl du D)) ?_;refine M (de (fY J (gH 3 rfl) (aq (fJ J (kv (v z)) (kF (v z) rfl) rfl rfl rfl (aq J) E)) (gH 3 rfl) ((FI (gH 3 rfl) rfl (dW (by rw[iF];exact uz (hs (uK R.d S))))).trans (W0 (λh=>some (V.none,h)) (tJ (P:={f with eA:=U f.eA w}) 3 rfl rfl)))) rfl) ?_
  have X:∀P,(dQ P g).n=(dQ f g).n:=λP=>tH.trans tH.symm;have j:=cw (a:=dQ {f with eA:=U f.eA w} g) x n
  rw[X] at j;refine M (de (fY J (gH 4 rfl) (aq (a9 J (iY j rfl))) (gH 4 rfl) ((FI (gH 4 rfl) (lX (X {f with eA:=U f.eA w}▸cw x os)) (dW (by rw[iF];exact uz (hs (uK R.e a'))))).trans (W0 (λh=>some (V.none,h)) (tJ (P:={f with eA:=U f.eA w,fP:=U f.fP i}) 4 rfl rfl)))) rfl) ?_
  exact nJ 3 ((by
   refine M (dk u) ?_;induction short with
   |false=>exact fF 9 λ_=>rfl
   |true=>
    refine M (c1 J rfl (M (dk (c7 (aq J) (T▸Lz F Z Y))) ba)) ?_;induction d with|zero=>exact fF 9 λ_=>rfl|succ d=>exact M (c1 (bF J u rfl) rfl (M (dk (c7 (aI J (aq J)) (We hl2))) ba)) ba)) (MJ (f:={f with eA:=U f.eA w,fP:=U f.fP i}) X ⟨uz (hs R.a),uz (hs R.b),uz (hs R.c)⟩ n rfl cK)
set_option genCtorIdx true in
inductive C where|mu|jL|lx|ix|kp|lB
def gX:V:=bX [39,43,39]
def uk:V:=bX [39,42,39]
def wc:V:=bX [39,60,39]
def nQ:V:=bX [39,33,39]
def pb:V:=bX [97]
namespace C
noncomputable def yp:C->Nat|mu=>0|jL=>1|lx=>2|ix=>0|kp=>1|lB=>2
noncomputable def k:C->Nat|mu=>2|jL=>2|lx=>2|ix=>3|kp=>3|lB=>3
def hU(j:C):ZF:=match j.k with|2=>[gX,uk]|_=>[gX,uk,wc]
def jg(j:C):V:=match j.yp with|0=>bX []|1=>nQ|_=>gX
def sI(j:C):ZF:=match j.yp with|1=>U j.hU [nQ]|_=>j.hU
def eD(j:C):ZF:=match j.yp with|0=>j.hU|_=>U j.hU [j.jg]
def j0:C->V|mu=>uk|jL=>nQ|lx=>uk|ix=>wc|kp=>nQ|lB=>wc
noncomputable def aD:C->Nat|mu=>2|jL=>3|lx=>2|ix=>3|kp=>4|lB=>3
noncomputable def R:C->Nat|mu=>2|jL=>3|lx=>3|ix=>3|kp=>4|lB=>4
def aG(j:C):Nat:=4+j.aD
def names(j:C):ZF:=U [bX [36,101,110,100],bX [101,114,114,111,114],bX [36,117,110,100,101,102,105,110,101,100],pb] (U j.sI [bX [36,97,99,99,101,112,116],bX [69]])
end C
def cz(l:ZK):V:=aai (.ae (l.map I))
def dC(n l:Nat)(r:ZK)(L:Int):V:=aai (.ins 17 false [(22,I n),(14,I l),(34,ko r),(42,.int L),(98,.none),(70,I 0),(35,I 0)])
def ri(E:C)(aG:Nat)(Q:ZF)(K:ZE)(d:Int)(s:Nat)(a:List ZK)(c P:ZK)(b:Nat):V:=
 .ins 18 false [(15,.ae E.names),(16,I aG),(31,.ae Q),(41,.ah .I K),(113,.int d),(68,I s),(114,.ae (a.map cz)),(115,cz c),(116,cz P),(117,I b)]
structure d2 where
 q:Nat
 E5:ZK
 Hq:Int
 EW:ZK
 eP:ZH
 i3:ZK
noncomputable abbrev d2.v(j:d2):V:=iM j.q j.E5 j.Hq j.EW j.eP j.i3
def cv(E:C)(L:Nat->Int)(K:ZE)(d:Int):V:=match E with
 |.mu=>ri C.mu 6 [dC 0 6 [7,0] 0,dC 1 7 [7,4,7] (L 0),dC 2 7 [7,5,7] (L 1),dC 3 7 [3] 3] K d 7 [[],[],[],[],[],[],[0],[1,2,3]] [0,3,7,11] [0,0,0,1,1,1,1,2,2,2,2,3,3] 13
 |.jL=>ri C.jL 7 [dC 0 7 [8,0] 0,dC 1 8 [8,4,8] (L 0),dC 2 8 [8,5,8] (L 1),dC 3 8 [6,8] (L 2),dC 4 8 [3] 3] K d 8 [[],[],[],[],[],[],[],[0],[1,2,3,4]] [0,3,7,11,14] [0,0,0,1,1,1,1,2,2,2,2,3,3,3,4,4] 16
 |.lx=>ri C.lx 6 [dC 0 6 [7,0] 0,dC 1 7 [7,4,7] (L 0),dC 2 7 [7,5,7] (L 1),dC 3 7 [4,7] (L 2),dC 4 7 [3] 3] K d 7 [[],[],[],[],[],[],[0],[1,2,3,4]] [0,3,7,11,14] [0,0,0,1,1,1,1,2,2,2,2,3,3,3,4,4] 16
 |.ix=>ri C.ix 7 [dC 0 7 [8,0] 0,dC 1 8 [8,4,8] (L 0),dC 2 8 [8,5,8] (L 1),dC 3 8 [8,6,8] (L 2),dC 4 8 [3] 3] K d 8 [[],[],[],[],[],[],[],[0],[1,2,3,4]] [0,3,7,11,15] [0,0,0,1,1,1,1,2,2,2,2,3,3,3,3,4,4] 17
 |.kp=>ri C.kp 8 [dC 0 8 [9,0] 0,dC 1 9 [9,4,9] (L 0),dC 2 9 [9,5,9] (L 1),dC 3 9 [9,6,9] (L 2),dC 4 9 [7,9] (L 3),dC 5 9 [3] 3] K d 9 [[],[],[],[],[],[],[],[],[0],[1,2,3,4,5]] [0,3,7,11,15,18] [0,0,0,1,1,1,1,2,2,2,2,3,3,3,3,4,4,4,5,5] 20
 |.lB=>ri C.lB 7 [dC 0 7 [8,0] 0,dC 1 8 [8,4,8] (L 0),dC 2 8 [8,5,8] (L 1),dC 3 8 [8,6,8] (L 2),dC 4 8 [4,8] (L 3),dC 5 8 [3] 3] K d 8 [[],[],[],[],[],[],[],[0],[1,2,3,4,5]] [0,3,7,11,15,18] [0,0,0,1,1,1,1,2,2,2,2,3,3,3,3,4,4,4,5,5] 20
noncomputable def C.dT:C->List d2
 |.mu=>[⟨0,[0],-1,[0,3,7,11],[(3,1),(7,2)],[]⟩,⟨1,[12],3,[12],[],[3]⟩,⟨2,[1,4,8],7,[1,4,8],[(0,3),(4,4),(5,5)],[]⟩,⟨3,[2],0,[2],[],[]⟩,⟨4,[5],4,[5,3,7,11],[(3,1),(7,6)],[]⟩,⟨5,[9],5,[9,3,7,11],[(3,1),(7,7)],[]⟩,⟨6,[4,6,8],7,[4,6,8],[(4,4),(5,5)],[1]⟩,⟨7,[4,8,10],7,[4,8,10],[(4,4),(5,5)],[2]⟩]
 |.jL=>[⟨0,[0],-1,[0,3,7,11,14],[(3,1),(6,2),(8,3)],[]⟩,⟨1,[15],3,[15],[],[4]⟩,⟨2,[12],6,[12,3,7,11,14],[(3,1),(6,2),(8,4)],[]⟩,⟨3,[1,4,8],8,[1,4,8],[(0,5),(4,6),(5,7)],[]⟩,⟨4,[4,8,13],8,[4,8,13],[(4,6),(5,7)],[3]⟩,⟨5,[2],0,[2],[],[]⟩,⟨6,[5],4,[5,3,7,11,14],[(3,1),(6,2),(8,8)],[]⟩,⟨7,[9],5,[9,3,7,11,14],[(3,1),(6,2),(8,9)],[]⟩,⟨8,[4,6,8],8,[4,6,8],[(4,6),(5,7)],[1]⟩,⟨9,[4,8,10],8,[4,8,10],[(4,6),(5,7)],[2]⟩]
 |.lx=>[⟨0,[0],-1,[0,3,7,11,14],[(3,1),(4,2),(7,3)],[]⟩,⟨1,[15],3,[15],[],[4]⟩,⟨2,[12],4,[12,3,7,11,14],[(3,1),(4,2),(7,4)],[]⟩,⟨3,[1,4,8],7,[1,4,8],[(0,5),(4,6),(5,7)],[]⟩,⟨4,[4,8,13],7,[4,8,13],[(4,6),(5,7)],[3]⟩,⟨5,[2],0,[2],[],[]⟩,⟨6,[5],4,[5,3,7,11,14],[(3,1),(4,2),(7,8)],[]⟩,⟨7,[9],5,[9,3,7,11,14],[(3,1),(4,2),(7,9)],[]⟩,⟨8,[4,6,8],7,[4,6,8],[(4,6),(5,7)],[1]⟩,⟨9,[4,8,10],7,[4,8,10],[(4,6),(5,7)],[2]⟩]
 |.ix=>[⟨0,[0],-1,[0,3,7,11,15],[(3,1),(8,2)],[]⟩,⟨1,[16],3,[16],[],[4]⟩,⟨2,[1,4,8,12],8,[1,4,8,12],[(0,3),(4,4),(5,5),(6,6)],[]⟩,⟨3,[2],0,[2],[],[]⟩,⟨4,[5],4,[5,3,7,11,15],[(3,1),(8,7)],[]⟩,⟨5,[9],5,[9,3,7,11,15],[(3,1),(8,8)],[]⟩,⟨6,[13],6,[13,3,7,11,15],[(3,1),(8,9)],[]⟩,⟨7,[4,6,8,12],8,[4,6,8,12],[(4,4),(5,5),(6,6)],[1]⟩,⟨8,[4,8,10,12],8,[4,8,10,12],[(4,4),(5,5),(6,6)],[2]⟩,⟨9,[4,8,12,14],8,[4,8,12,14],[(4,4),(5,5),(6,6)],[3]⟩]
 |.kp=>[⟨0,[0],-1,[0,3,7,11,15,18],[(3,1),(7,2),(9,3)],[]⟩,⟨1,[19],3,[19],[],[5]⟩,⟨2,[16],7,[16,3,7,11,15,18],[(3,1),(7,2),(9,4)],[]⟩,⟨3,[1,4,8,12],9,[1,4,8,12],[(0,5),(4,6),(5,7),(6,8)],[]⟩,⟨4,[4,8,12,17],9,[4,8,12,17],[(4,6),(5,7),(6,8)],[4]⟩,⟨5,[2],0,[2],[],[]⟩,⟨6,[5],4,[5,3,7,11,15,18],[(3,1),(7,2),(9,9)],[]⟩,⟨7,[9],5,[9,3,7,11,15,18],[(3,1),(7,2),(9,10)],[]⟩,⟨8,[13],6,[13,3,7,11,15,18],[(3,1),(7,2),(9,11)],[]⟩,⟨9,[4,6,8,12],9,[4,6,8,12],[(4,6),(5,7),(6,8)],[1]⟩,⟨10,[4,8,10,12],9,[4,8,10,12],[(4,6),(5,7),(6,8)],[2]⟩,⟨11,[4,8,12,14],9,[4,8,12,14],[(4,6),(5,7),(6,8)],[3]⟩]
 |.lB=>[⟨0,[0],-1,[0,3,7,11,15,18],[(3,1),(4,2),(8,3)],[]⟩,⟨1,[19],3,[19],[],[5]⟩,⟨2,[16],4,[16,3,7,11,15,18],[(3,1),(4,2),(8,4)],[]⟩,⟨3,[1,4,8,12],8,[1,4,8,12],[(0,5),(4,6),(5,7),(6,8)],[]⟩,⟨4,[4,8,12,17],8,[4,8,12,17],[(4,6),(5,7),(6,8)],[4]⟩,⟨5,[2],0,[2],[],[]⟩,⟨6,[5],4,[5,3,7,11,15,18],[(3,1),(4,2),(8,9)],[]⟩,⟨7,[9],5,[9,3,7,11,15,18],[(3,1),(4,2),(8,10)],[]⟩,⟨8,[13],6,[13,3,7,11,15,18],[(3,1),(4,2),(8,11)],[]⟩,⟨9,[4,6,8,12],8,[4,6,8,12],[(4,6),(5,7),(6,8)],[1]⟩,⟨10,[4,8,10,12],8,[4,8,10,12],[(4,6),(5,7),(6,8)],[2]⟩,⟨11,[4,8,12,14],8,[4,8,12,14],[(4,6),(5,7),(6,8)],[3]⟩]
def hv(E:C)(G:V):V:=aai (.ins 21 false [(33,G),(59,.ae (E.dT.map d2.v))])
def wM(b:List S)(A:ZD)(n:Nat):Z0 V:=match(eH n).x b ⟨A,Z.bj⟩with
 |some (.ret v,s)=>ct 12 s.h v
 |_=>none
def Cn(L:dR (cg 60) c)(d:dE.j3 f c=none)(R:dE.fM f=some a)(H:lI a a.ak c=some A)(p:∀b,wM a.body A (b+k)=some w)(e:cg 60 w):aY .pure f c h w h:=by
 refine .step (.bR L ⟨k,λb=>?_⟩);refine d▸?_;refine a6 R (a6 H ?_);have p:=p b;unfold wM at p;generalize(eH (b+k)).x a.body ⟨A,Z.bj⟩=o at p⊢
 match o,p with
 |some (.ret v,s),p=>exact a6 rfl (a6 p (fN e rfl))
def Kb(E:C)(L:Nat->Int)(K:ZE)(d:Int):∀a,wM Dh.body [(33,cv E L K d)] (a+60)=some (hv E (cv E L K d)):=λa=>by induction E<;>kernel_rfl
def eR(a:ZM)(c x:Int)(L R Q:bo O)(n:Nat):Z:=aai ⟨.node (some (.ae (a.map .int) 0)) (.node (some (.ae [.ref 0,.int c,.int x] 0)) L R) Q,n⟩
inductive dg(L R Q:bo O)(n:Nat):Z->Prop where
 |mk (a:ZM) (c x:Int):dg L R Q n (eR a c x L R Q n)
section
variable{L R Q:bo O}{n m:Nat}{h:Z}{X:Prop}
def MT(a:Int)(m:Nat):Int.fmod a (.ofNat (m+1))=.ofNat (Int.fmod a (.ofNat (m+1))).toNat/\(Int.fmod a (.ofNat (m+1))).toNat<m+1:=by have p:=Int.natCast_pos.mpr (Xk m);have P:=Int.fmod_nonneg_of_pos a p;exact⟨(Int.toNat_of_nonneg P).symm,(Int.toNat_lt P).mpr (Int.fmod_lt_of_pos a p)⟩
abbrev q8(m:Nat):ZD:=aai [(160,.ref 1),(152,I (m+1))]
def LN(D:m<900):∃d l,d<m+1/\bE (y4.body.drop 2) ⟨q8 m,eR a c x L R Q n⟩ (.ret (I d)) ⟨l,eR a c (Int.fdiv x (.ofNat (m+1))) L R Q n⟩:=by
 have z:=MT (Int.fmod x (.ofNat (m+1))+c) m;refine⟨_,U (q8 m) [(161,.int (Int.fmod x (.ofNat (m+1))))],z.2,M (a:=⟨U (q8 m) [(161,.int (Int.fmod x (.ofNat (m+1))))],eR a c x L R Q n⟩) (k6 9 λ_=>rfl) (M (jy (cV (d:=.int (Int.fdiv x (.ofNat (m+1)))) (eM (b:=.int x) 5 λ_=>rfl) J ?_) J u rfl) (bG (cb ?_)))⟩
 .show Y (bS (Nat.blt m 1000000) _) _=_
  rw[dF (W4 D (WY rfl))];rfl
 .rw[show I (Int.fmod (Int.fmod x (.ofNat (m+1))+c) (.ofNat (m+1))).toNat=.int (Int.fmod (Int.fmod x (.ofNat (m+1))+c) (.ofNat (m+1))) from W0 V.int z.1.symm]
  exact eM 5 λ_=>by kernel_rfl
def sE(P:dg L R Q n h)(D:m<900)(k:∀d a,d<m+1->dg L R Q n a->aY .inl 125 [.ref 1,I (m+1)] h (I d) a->X):X:=by
 induction P with
 |mk O c x=>
 have b:∀{H s},cF (cm y4 1) ⟨q8 m,eR O (c+1) x L R Q n⟩ .next ⟨q8 m,eR H (c+1) s L R Q n⟩->X:=λ{H s} e=>(LN D).elim λd z=>z.elim λl z=>k d _ z.1 (.mk ..) (cH rfl rfl (M (k6 9 λ_=>by kernel_rfl) (M e z.2)))
 have f:∀{B},dr x 0=B->ao (.aw .eq (.sub (.F 160) (.lit (.int 2))) (.lit (.int 0))) ⟨q8 m,eR O (c+1) x L R Q n⟩ (.bool B) (eR O (c+1) x L R Q n):=λe=>e▸eM 5 λ_=>rfl;generalize G:dr x 0=N;induction N with
 |false=>exact b (cX (fX (ph (f G) rfl)) rfl)
 |true=>
  induction O with|nil=>exact b (cX (fX (jO (f G) rfl (h4 (eM (b:=.bool false) 5 λ_=>rfl)))) rfl)|cons y r=>have v:ct 12 (eR (y::r) (c+1) x L R Q n) (.ref 0)=some (.ae ((y::r).map .int)):=qu rfl HV;have g:dy .cC (.ref 0) (.ae []) (eR (y::r) (c+1) x L R Q n)=some true:=a6 v rfl;exact b (H:=r) (s:=y) (c1 (fX (jO (f G) rfl (h4 (bF (bw J u rfl) (fu du) g)))) rfl (fF 9 λ_=>by kernel_rfl))
def rE(l:List α):∀{i:Nat},a3 l i=some a->a∈l:=by
 induction l with
 |nil=>exactλh=>cB h
 |cons x r S=>exactλ{i} h=>by induction i with|zero=>exact WZ h▸.head _|succ i=>exact .tail _ (S h)
def rK(P:dg L R Q n h)(D:Wx f<900)(k:∀d b a,a3 (y::f) d=some b->dg L R Q n a->aY .inl 126 [.ref 1,.ae (y::f)] h b a->X):X:=
 sE P D λd a T i c=>(m7 (y::f) T).elim λb e=>k d b a e i (cH rfl rfl (bG (cb (DT (J rfl) (c7 (aI J (aq (d4 (aq J) rfl))) c) (js T e)))))
end
noncomputable def fO(a b:V):Nat->V
 |0=>.none
 |1=>a
 |_=>b
def ec:Nat->V
 |0=>bX [108,101,102,116]
 |1=>bX [114,105,103,104,116]
 |2=>bX [110,111,110,97,115,115,111,99]
 |_=>bX [112,114,101,99,101,100,101,110,99,101]
def eZ(x:Nat×Nat):V:=.ay [.int (.ofNat x.1),ec x.2]
def fB(E:C)(B:Nat):ZV:=match B with
 |0=>j [39,43,39]
 |1=>j [39,42,39]
 |2=>match E with
  |.jL=>j [39,33,39]
  |_=>j [39,60,39]
 |_=>j [39,33,39]
noncomputable abbrev dD:=Nat×(Nat×Nat)
def iG(E:C)(G:List dD):ZE:=G.map λe=>(.s (fB E e.1),eZ e.2)
noncomputable def nc(k:Nat)(b:V):ZF->ZK->Nat->ZF
 |v::D,p::O,i=>.ae [v,.bool (Nat.beq i k),fO gX b p]::nc k b D O (i+1)
 |_,_,_=>[]
def QA(h:a3 [V.none,.none,.none,a,b] d=some c):∃p,c=fO a b p:=match d,h with
 |0,h=>⟨0,(WZ h).symm⟩
 |1,h=>⟨0,(WZ h).symm⟩
 |2,h=>⟨0,(WZ h).symm⟩
 |3,h=>⟨1,(WZ h).symm⟩
 |4,h=>⟨2,(WZ h).symm⟩
abbrev bl(E:C):ZD:=aai [(160,.ref 1),(163,.ae E.hU),(164,E.jg),(165,.ae E.sI),(31,.ref 2)]
section
variable{L R b a Q:bo O}{n:Nat}{X:Prop}{E:C}
def Sp(e:x=.ae [g,.bool (Nat.beq i k),fO gX c p]):U (U f [x]) (nc k c h d (i+Wx [x]))=U f (nc k c (g::h) (p::d) i):=by rw[eL,e];rfl
def Wn:ao (.ae false [.lit .none,.lit .none,.lit .none,.sub (.F 165) (.lit (.int 0)),.sub (.F 165) (.c6 .neg (.lit (.int 1)))]) ⟨U (bl E) [(166,c)],h⟩ (.ae [.none,.none,.none,gX,E.j0]) h:=eM 9 λ_=>by induction E<;>kernel_rfl
def Wm:ao (.ae false [.F 166,.aw .eq (.bq false .len [.F 31]) (.bq false .len [.F 163]),.F 167]) ⟨U (bl E) [(166,e),(167,p)],eR f c x L R (.node (some (.ae d 0)) b a) n⟩ (.ae [e,.bool (Nat.beq (Wx d) E.k),p]) (eR f c x L R (.node (some (.ae d 0)) b a) n):=eM 9 λ_=>by induction E<;>kernel_rfl
def Wk(D:ZF):∀{g:ZF}{h:Z},Wx g+D.length<900->dg L R (.node (some (.ae g 0)) b a) n h->
  (∀i l,i.length=D.length->dg L R (.node (some (.ae (U g (nc E.k E.j0 D i (Wx g))) 0)) b a) n l->cS [166] (cA (cm jo 4)) D ⟨bl E,h⟩ .next ⟨bl E,l⟩->X)->X:=by
 induction D with
 |nil=>exactλ{g}{h} _ P k=>k [] h rfl ((eI).symm▸P) dq
 |cons v D S=>
  intro g h j P k;refine rK P (f:=[.none,.none,gX,E.j0]) (WY rfl) λd w l r m c=>(QA r).elim λp e=>?_;subst e;induction m with
  |mk O s x=>
  refine S (lz (x:=V.ae [v,.bool (Nat.beq (Wx g) E.k),fO gX E.j0 p]) j) (.mk ..) λi N o q f=>k (p::i) N (W0 (·+1) o) ?_ (cW rfl (M (cI (c7 (aI J (aq Wn)) c)) (M (de (fY (J rfl) rfl (aq Wm) rfl (hu rfl (dW (W4 (hs j) (WY rfl))))) rfl) ba)) rfl f);rw[iF,Sp rfl] at q;exact q
def QB(h:a3 [V.int 0,.int 1,.int 2,.int 0,.int 1,.int 3] d=some c):(∃l,l<3/\c=I l)\/c=.int 3:=match d,h with
 |0,h=>.inl ⟨0,WY rfl,(WZ h).symm⟩
 |1,h=>.inl ⟨1,WY rfl,(WZ h).symm⟩
 |2,h=>.inl ⟨2,WY rfl,(WZ h).symm⟩
 |3,h=>.inl ⟨0,WY rfl,(WZ h).symm⟩
 |4,h=>.inl ⟨1,WY rfl,(WZ h).symm⟩
 |5,h=>.inr (WZ h).symm
def QC(h:a3 [bX [108,101,102,116],bX [114,105,103,104,116],bX [110,111,110,97,115,115,111,99],bX [108,101,102,116],bX [112,114,101,99,101,100,101,110,99,101]] d=some c):∃p,c=ec p:=match d,h with
 |0,h=>⟨0,(WZ h).symm⟩
 |1,h=>⟨1,(WZ h).symm⟩
 |2,h=>⟨2,(WZ h).symm⟩
 |3,h=>⟨0,(WZ h).symm⟩
 |4,h=>⟨3,(WZ h).symm⟩
end
def TS(h:l<3):∃p,a3 [ec a,ec g,ec b] l=some (ec p):=match l,h with
 |0,_=>⟨a,rfl⟩
 |1,_=>⟨g,rfl⟩
 |2,_=>⟨b,rfl⟩
 |_+3,z=>absurd z (X9 (X7 3 _))
def dH(E:C)(j:Nat):V:=.str (fB E j)
noncomputable def aB(f:Nat)(O:Nat):ZK:=
 O.rec (motive:=λ_=>Nat->ZK) (λ_=>[]) (λ_ S i=>i::S (i+1)) f
def Mh(E:C):E.sI=(aB 0 E.aD).map (dH E):=by induction E<;>rfl
def Rf(E:C):((aB 0 E.aD).all λi=>(aB 0 E.aD).all λB=>hI (cJ (.s (fB E i)) (.s (fB E B))) (Nat.beq i B)):=by induction E<;>kernel_rfl
def gG(n:Nat):∀{i:Nat},i<=B->B<i+n->B∈aB i n:=by
 induction n with|zero=>exactλh k=>absurd k (X9 h)|succ n S=>exactλ{i} h k=>(Yu h).elim (λz=>.tail _ (S z (by rw[YN];exact k))) λz=>z▸.head _
def JQ(h:hI a b):a=b:=by induction a<;>induction b<;>first|rfl|exact bb h
def Aq(A:i<a.aD)(P:B<a.aD):cJ (.s (fB a i)) (.s (fB a B))=Nat.beq i B:=by exact JQ (Xb.mp (Xb.mp (Rf a) i (gG _ (Xj _) (by rw[W7];exact A))) B (gG _ (Xj _) (by rw[W7];exact P)))
inductive d1:Nat->List dD->Prop where
 |nil {m:Nat}:d1 m []
 |qn {B m:Nat} {G:List dD} {x:Nat×Nat}:d1 B G->B<m->d1 m (U G [(B,x)])
def d1.up(j:d1 c' a')(o:c'<=k):d1 k a':=by
 induction j with|nil=>exact .nil|qn j u=>exact .qn j (W4 u o)
def d1.lt(j:d1 f' c'):∀a'∈c',a'.1<f':=by
 induction j with|nil=>exactλ_ j=>eu j|qn j C J=>intro a' u;rw[cQ] at u;exact(XF.mp u).elim (λo=>Xv (J a' o) C) λo=>(Xf.mp o)▸C
def PM(P:B<a.aD)(h:∀e∈G,e.1<B):cU (iG a G) (.s (fB a B)) (eZ x)=iG a (U G [(B,x)]):=by
 induction G with
 |nil=>rfl
 |cons e r S=>
  have l:=h e (.head _);refine(?_:(match cJ (.s (fB a e.1)) (.s (fB a B))with|true=>_|false=>(aE.s (fB a e.1),eZ e.2)::cU (iG a r) (.s (fB a B)) (eZ x))=_)
  rw[Aq (Xv l P) P,show Nat.beq e.1 B=false from XO.mpr λz=>Xi l (W2 z)];exact W0 (_::·) (S λy L=>h y (.tail _ L))
abbrev e8(E:C)(k g K:Nat):ZD:=U (bl E) [(168,.ae [ec k,ec g,ec K]),(169,.ref 3)]
section
variable{h x R Q:bo O}{n:Nat}{X:Prop}{E:C}{T g S:Nat}
def Wj(m:Nat):∀{B:Nat}{G:List dD}{a:Z},B+m=E.aD->d1 B G->Wx G+m<900->dg (.node (some (.ah .S (iG E G) 0)) h x) R Q n a->
  (∀G b,d1 E.aD G->dg (.node (some (.ah .S (iG E G) 0)) h x) R Q n b->cS [166] (cA (cm jo 7)) ((aB B m).map (dH E)) ⟨e8 E T g S,a⟩ .next ⟨e8 E T g S,b⟩->X)->X:=by
 induction m with
 |zero=>exactλ{B G a} e o _ P k=>k G a (e▸o) P dq
 |succ m r=>
  intro B G a e o i P k;have A:B+1+m=E.aD:=by rw[<-e,W9,Xa 1]
  refine rK P (y:=.int 0) (f:=[.int 1,.int 2,.int 0,.int 1,.int 3]) (WY rfl) λd w b C j c=>?_;have t:cF ((cA (cm jo 7)).headD .eF) ⟨U (e8 E T g S) [(166,dH E B)],a⟩ .next ⟨U (e8 E T g S) [(166,dH E B),(70,w)],b⟩:=cI (c7 (aI J (aq (fu (aI u (aI u (aI u (aI u (aI u (aq u))))))))) c);refine(QB C).elim (λz=>z.elim λl z=>?_) λz=>?_
  .induction j with
   |mk O v D=>
   have H:=z.2;subst H;refine(TS (a:=T) (g:=g) (b:=S) z.1).elim λp y=>?_;refine r (G:=U G [(B,l,p)]) A (.qn o (Xh B)) (lz i) (.mk O v D) λs N F q f=>k s N F q (cW rfl (M t (M (c1 (bF (B:=true) (J rfl) u (W0 some (dF z.1))) rfl (M (jy (d8 (aI J (aq (bw J J (js z.1 y))))) J J ?_) ba)) ba)) rfl f);refine(rT rfl rfl (dW (by unfold iG;rw[c9];exact W4 (hs i) (WY rfl)))).trans ?_
   rw[show V.ay [I l,ec p]=eZ (l,p) from rfl,PM (e▸Xq (Xk m)) (o.lt)]
   rfl
  .subst z
   exact r A (o.up (Xt B)) (Xr i) j λs N F q f=>k s N F q (cW (G:=U (e8 E T g S) [(166,dH E B),(70,.int 3)]) (N:=b) rfl (M t (fF 9 λ_=>rfl)) rfl f)
end
def NP(E:C):E.eD.length<900:=by induction E<;>exact WY rfl
def Dc(E:C):E.aD<5:=by induction E<;>exact WY rfl
def qj(E:C)(O:ZK):ZF:=nc E.k E.j0 E.eD O 0
def bN(E:C)(O:ZK)(G:List dD)(k g K:Nat):V:=.ay [.ae E.hU,E.jg,.ae (qj E O),.ah .S (iG E G),.ae [ec k,ec g,ec K]]
def VE(D:ZF):∀{a:ZK}{i:Nat},f3 (ct 11 h) (nc k b D a i)=some (nc k b D a i):=by
 induction D with
 |nil=>exact rfl
 |cons v D S=>exactλ{a}{i}=>by induction a with|nil=>rfl|cons p a=>exact a6 rfl (a6 S rfl)
def VA:gW (ct 11 h) (iG a G)=some (iG a G):=by
 induction G with|nil=>rfl|cons e r S=>exact a6 rfl (a6 S rfl)
section
variable{E:C}{L R Q:bo O}{n:Nat}{X:ZM}{c x:Int}{h:Z}{T:Prop}
def VX:cF (cm jo 2) ⟨[(160,.ref 1),(163,.ae E.hU),(164,E.jg)],h⟩ .next ⟨[(160,.ref 1),(163,.ae E.hU),(164,E.jg),(165,.ae E.sI)],h⟩:=k6 9 λ_=>by induction E<;>kernel_rfl
def V0:cF (cm jo 3) ⟨[(160,.ref 1),(163,.ae E.hU),(164,E.jg),(165,.ae E.sI)],eR X c x .nil .nil .nil 2⟩ .next ⟨bl E,eR X c x .nil .nil (.node (some (.ae [] 0)) .nil .nil) 3⟩:=k6 9 λ_=>by kernel_rfl
def VY:iu (.e (.a7 .add false (.F 163) (.ite (.aw .cC (.F 164) (.lit (.str (j [])))) (.ae false [.F 164]) (.ae false [])))) ⟨bl E,h⟩ E.eD (.ae E.eD) h:=⟨9,λ_=>by induction E<;>kernel_rfl⟩
def VZ:cF (cm jo 6) ⟨U (bl E) [(168,.ae [ec a,ec g,ec b])],eR X c x .nil .nil Q 3⟩ .next ⟨e8 E a g b,eR X c x (.node (some (.ah .S [] 0)) .nil .nil) .nil Q 4⟩:=k6 9 λ_=>by kernel_rfl
def BF(P:dg L R Q n h)(e:au A 160=some (.ref 1))(k:∀p a,dg L R Q n a->ao (.call .inl 126 [.F 160,.ae false [.lit (.str Z7),.lit (.str Z8),.lit (.str Z9),.lit (.str Z7),.lit (.str aab)]]) ⟨A,h⟩ (ec p) a->T):T:=
 rK P (WY rfl) λd w a b i c=>(QC b).elim λp z=>k p a i (z▸c7 (aI (J e) (aq (fu (aI u (aI u (aI u (aI u (aq u)))))))) c)
def V2(P:dg L R Q n h)(k:∀a g b d,dg L R Q n d->cF (cm jo 5) ⟨bl E,h⟩ .next ⟨U (bl E) [(168,.ae [ec a,ec g,ec b])],d⟩->T):T:=
 BF P rfl λa x c p=>BF c rfl λg e s l=>BF s rfl λb N q f=>k a g b N q
  (cI (s6 (kI u rfl) rfl rfl (vK rfl p (vK rfl l (vK rfl f gF))) rfl))
def V1(f:f3 (ct 11 Z.bj) b=some b)(h:gW (ct 11 Z.bj) a=some a):bE [cm jo 8] ⟨e8 E d g e,eR X c x (.node (some (.ah .S a 0)) .nil .nil) .nil (.node (some (.ae b 0)) .nil .nil) 4⟩ (.ret (.ay [.ae E.hU,E.jg,.ae b,.ah .S a,.ae [ec d,ec g,ec e]])) ⟨e8 E d g e,eR X c x (.node none .nil .nil) .nil (.node none .nil .nil) 4⟩:=
 bG (cb (d8 (aI J (aI J (n8 (mI (J rfl) (sW rfl f)) (n8 (mI (J rfl) (a6 h rfl)) (aq J)))))))
def Wl(P:dg .nil .nil .nil 2 h)(k:∀a G b g d l L R Q n e,a.length=E.eD.length->d1 E.aD G->dg L R Q (n+2) e->bE (jo.body.drop 2) ⟨[(160,.ref 1),(163,.ae E.hU),(164,E.jg)],h⟩ (.ret (bN E a G b g d)) ⟨l,e⟩->T):T:=by
 induction P with
 |mk X c x=>
 refine Wk (E:=E) (L:=.nil) (R:=.nil) (b:=.nil) (a:=.nil) (n:=3) E.eD (g:=[]) (by rw[show Wx ([]:ZF)=0 from rfl,W7];exact NP E) (.mk X c x) λa m j s f=>V2 (E:=E) s λb g d N q i=>?_
 induction q with
 |mk X c x=>
 refine Wj (E:=E) (T:=b) (g:=g) (S:=d) E.aD (G:=[]) (W7 _) .nil (by rw[show Wx ([]:List dD)=0 from rfl,W7];exact W4 (Dc E) (WY rfl)) (.mk (L:=.node (some (.ah .S [] 0)) .nil .nil) (R:=.nil) (Q:=.node (some (.ae (qj E a) 0)) .nil .nil) (n:=4) X c x) λG t H I sP=>?_
 rw[<-Mh] at sP;induction I with|mk X c x=>exact k a G b g d _ _ _ _ 2 _ j H (.mk X c x) (M VX (M V0 (M (da VY rfl f rfl) (M i (M VZ (M (da (c8 J rfl) rfl sP rfl) (V1 (VE _) VA)))))))
def Wi(P:dg .nil .nil .nil 2 h)(k:∀E g G m p q L R Q n f,g.length=E.eD.length->d1 E.aD G->dg L R Q (n+2) f->aY .inl 127 [.ref 1] h (bN E g G m p q) f->T):T:=by
 have S:∀(E:C){N:Z},dg .nil .nil .nil 2 N->bE (jo.body.take 2) ⟨[(160,.ref 1)],h⟩ .next ⟨[(160,.ref 1),(163,.ae E.hU),(164,E.jg)],N⟩->T:=λE{N} o e=>Wl o λg G m p q l L R Q n f a b c d=>k E g G m p q L R Q n f a b c (cH rfl rfl (nJ 2 e d));have B:∀{d t},aY .inl 125 [.ref 1,I 2] h (I d) t->cF (cm jo 0) ⟨[(160,.ref 1)],h⟩ .next ⟨[(160,.ref 1),(163,.ae (mg [gX,uk,wc] (2+d)))],t⟩:=λc=>cI (zl (fu (aI u (aI u (aq u)))) (sZ u (c7 (aI J (aq u)) c) rfl) rfl);have O:∀{x:ZF}{w t N},cZ (.ae x) (.int 0) t=some gX->aY .inl 126 [.ref 1,.ae [nQ,gX,nQ,bX []]] t w N->bE [cm jo 1] ⟨[(160,.ref 1),(163,.ae x)],t⟩ .next ⟨[(160,.ref 1),(163,.ae x),(164,w)],N⟩:=λe c=>M (cI (c7 (aI J (aq (fu (aI u (aI (bw J u e) (aI u (aq u))))))) c)) ba;refine sE (m:=1) P (WY rfl) λd t v y r=>rK y (y:=nQ) (f:=[gX,nQ,bX []]) (WY rfl) λi w N j o s=>?_
 match d,v,i,j with
 |0,_,0,j=>(have j:=WZ j;subst j);exact S .jL o (M (B r) (O rfl s))
 |0,_,1,j=>(have j:=WZ j;subst j);exact S .lx o (M (B r) (O rfl s))
 |0,_,2,j=>(have j:=WZ j;subst j);exact S .jL o (M (B r) (O rfl s))
 |0,_,3,j=>(have j:=WZ j;subst j);exact S .mu o (M (B r) (O rfl s))
 |1,_,0,j=>(have j:=WZ j;subst j);exact S .kp o (M (B r) (O rfl s))
 |1,_,1,j=>(have j:=WZ j;subst j);exact S .lB o (M (B r) (O rfl s))
 |1,_,2,j=>(have j:=WZ j;subst j);exact S .kp o (M (B r) (O rfl s))
 |1,_,3,j=>(have j:=WZ j;subst j);exact S .ix o (M (B r) (O rfl s))
 |_+2,v,_,_=>exact absurd v (X9 (X7 2 _))
end
noncomputable def A3:Nat->b'
 |0=>.gY
 |1=>.nx
 |2=>.iy
 |_=>.dI
def hW(a b:Z0 (Nat×Nat)):b':=match a with
 |none=>.dI
 |some x=>match b with
  |none=>.dI
  |some y=>match Nat.beq x.1 y.1 with
   |true=>A3 y.2
   |false=>match Nat.blt y.1 x.1 with
    |true=>.gY
    |false=>.nx
noncomputable def oB(g:Nat×Nat->V):Z0 (Nat×Nat)->V
 |some x=>g x
 |none=>.none
def pX(p s:V):V:=match iE p with
 |true=>s
 |false=>p
def P4{O:E}(B:ao (.F 24) ⟨A,h⟩ (.ae [s,b,p]) h):ao (.ite (.aw .is (.sub (.F 24) (.lit (.int 2))) (.lit .none)) (.sub (.F 24) (.lit (.int 0))) (.sub (.F 24) (.lit (.int 2)))) ⟨A,h⟩ (pX p s) h:=by
 have c:ao (.aw .is (.sub (.F 24) (.lit (.int 2))) (.lit .none)) ⟨A,h⟩ (.bool (iE p)) h:=bF (bw B u rfl) u rfl;unfold pX;generalize V:iE p=N;induction N with|true=>rw[V] at c;exact lH c rfl (bw B u rfl)|false=>rw[V] at c;exact jT c rfl (bw B u rfl)
def vf(t:fQ k x=some q)(h:bL T q=own.map g):gC k T [x]=some (oB g own):=a6 t (by rw[h];induction own<;>rfl)
def H3{w:b'}:ct 12 h (hV w)=some (hV w)/\cg 60 (hV w):=by induction w<;>exact⟨rfl,rfl⟩
def Wo:Z:=⟨.node (some (.ah .S [(.s Z7,hV .gY),(.s Z8,hV .nx),(.s Z9,hV .iy),(.s aab,hV .dI)] 0)) .nil .nil,1⟩
abbrev nI(a b x l K F:V):ZD:=aai [(170,a),(24,b),(166,x),(169,l),(43,K),(44,F)]
def V5{u v:Nat×Nat}{a b x l:V}(n:Nat)(p:Nat):(eH (n+9)).x [cm vo 5] ⟨nI a b x l (eZ u) (.ay [.int (.ofNat v.1),ec p]),Z.bj⟩=some (.ret (hV (A3 p)),⟨nI a b x l (eZ u) (.ay [.int (.ofNat v.1),ec p]),Wo⟩):=match p with
 |0=>rfl
 |1=>rfl
 |2=>rfl
 |_+3=>rfl
def V6{a b x l:V}(P k:Z0 (Nat×Nat)):∃c,bE (vo.body.drop 3) ⟨nI a b x l (oB eZ P) (oB eZ k),Z.bj⟩ (.ret (hV (hW P k))) c:=by
 induction P with
 |none=>exact⟨⟨nI a b x l .none (oB eZ k),Z.bj⟩,fF 9 λ_=>rfl⟩
 |some L=>
  induction k with
  |none=>exact⟨⟨nI a b x l (eZ L) .none,Z.bj⟩,fF 9 λ_=>rfl⟩
  |some v=>
   have w:cF (cm vo 3) ⟨nI a b x l (eZ L) (eZ v),Z.bj⟩ .next ⟨nI a b x l (eZ L) (eZ v),Z.bj⟩:=k6 9 λ_=>rfl;have p:∀{B},Nat.beq L.1 v.1=B->ao (.aw .cC (.sub (.F 43) (.lit (.int 0))) (.sub (.F 44) (.lit (.int 0)))) ⟨nI a b x l (eZ L) (eZ v),Z.bj⟩ (.bool (!B)) Z.bj:=λe=>e▸eM 9 λ_=>rfl;have i:∀{B},Nat.blt v.1 L.1=B->ao (.aw .gt (.sub (.F 43) (.lit (.int 0))) (.sub (.F 44) (.lit (.int 0)))) ⟨nI a b x l (eZ L) (eZ v),Z.bj⟩ (.bool B) Z.bj:=λe=>e▸eM 9 λ_=>rfl;unfold hW;dsimp only;generalize g:Nat.beq L.1 v.1=N;induction N with
   |true=>exact⟨_,M w (M (cX (p g) rfl) (fF 9 λn=>V5 n v.2))⟩
   |false=>
    generalize f:Nat.blt v.1 L.1=N;induction N with|true=>exact⟨_,M w (bG (c1 (p g) rfl (bG (cb (lH (i f) rfl u)))))⟩|false=>exact⟨_,M w (bG (c1 (p g) rfl (bG (cb (jT (i f) rfl u)))))⟩
def Pl(L:dR (cg 60) [.ay [d,f,c,.ah .S T,e],.ae [s,b,p],x])(K:fQ .S (pX p s)=some g)(i:fQ .S x=some G)(P:bL T g=own.map eZ)(N:bL T G=a.map eZ):
  aY .pure 129 [.ay [d,f,c,.ah .S T,e],.ae [s,b,p],x] h (hV (hW own a)) h:=
 (V6 own a).elim λO z=>ks L rfl rfl rfl (M (dk (bw J u rfl)) (M (dk (kB J rfl (aq (P4 (O:=.lit .none) J)) rfl (ou (vf K P)))) (M (dk (kB J rfl (aq J) rfl (ou (vf i N)))) z))) H3.1 (H3 (h:=h)).2
def e3(x:Nat×Nat):V:=.ay [.int (.ofNat (x.1+1)),ec x.2]
def Vc{u v:Nat}{P:Prop}(a:Nat.blt v u->Nat.beq u v=false->P)(b:Nat.blt v u=false->Nat.blt u v->Nat.beq u v=false->P)(c:Nat.blt v u=false->Nat.blt u v=false->Nat.beq u v->P):P:=by have f:∀{x y:Nat},Nat.blt y x->Nat.beq x y=false:=λz=>XO.mpr λq=>XK (dZ z) (W2 q);have n:∀{x y:Nat},¬y<x->Nat.blt y x=false:=λz=>XO.mpr λq=>z (dZ q);exact(Nat.lt_trichotomy u v).elim (λl=>b (n (Nat.lt_asymm l)) (dF l) (XO.mpr λq=>Xi l (W2 q))) λl=>l.elim (λe=>c (n λz=>Xi z e.symm) (n λz=>Xi z e) (e▸Xn u)) λl=>a (dF l) (f (dF l))
abbrev oN(G K F:V)(r t:Int):ZD:=aai [(33,G),(24,.int r),(26,.int t),(43,K),(44,F)]
def TM{G:V}{r t:Int}{u:V}(v:Nat)(n p:Nat):(eH (n+9)).x (vr.body.drop 5) ⟨oN G u (.ay [.int (.ofNat (v+1)),ec p]) r t,h⟩=some (.ret (jB (A3 p)),⟨oN G u (.ay [.int (.ofNat (v+1)),ec p]) r t,h⟩):=match p with
 |0=>rfl
 |1=>rfl
 |2=>rfl
 |_+3=>rfl
def TN{r t:Int}(P k:Z0 (Nat×Nat)):bE (vr.body.drop 2) ⟨oN G (oB e3 P) (oB e3 k) r t,h⟩ (.ret (jB (hW P k))) ⟨oN G (oB e3 P) (oB e3 k) r t,h⟩:=by
 induction P with
 |none=>exact fF 9 λ_=>rfl
 |some L=>
  induction k with
  |none=>exact fF 9 λ_=>rfl
  |some v=>
   have w:cF (cm vr 2) ⟨oN G (e3 L) (e3 v) r t,h⟩ .next ⟨oN G (e3 L) (e3 v) r t,h⟩:=k6 9 λ_=>rfl;have D:∀{B},Nat.blt v.1 L.1=B->ao (.aw .gt (.sub (.F 43) (.lit (.int 0))) (.sub (.F 44) (.lit (.int 0)))) ⟨oN G (e3 L) (e3 v) r t,h⟩ (.bool B) h:=λe=>e▸eM 9 λ_=>rfl;have p:∀{B},Nat.blt L.1 v.1=B->ao (.aw .lt (.sub (.F 43) (.lit (.int 0))) (.sub (.F 44) (.lit (.int 0)))) ⟨oN G (e3 L) (e3 v) r t,h⟩ (.bool B) h:=λe=>e▸eM 9 λ_=>rfl;unfold hW;dsimp only;refine Vc (u:=L.1) (v:=v.1) (λa b=>?_) (λa b c=>?_) λa b c=>?_
   .rw[b,a];exact M w (bG (c1 (D a) rfl (bG (cb u))))
   .rw[c,a];exact M w (M (cX (D a) rfl) (bG (c1 (p b) rfl (bG (cb u)))))
   .rw[c];exact M w (M (cX (D a) rfl) (M (cX (p b) rfl) (fF 9 λn=>TM v.1 n v.2)))
def TK{r t L:Int}(x:bM h G 41=some (.ah .I a))(f:bM h G 31=some (.ae Q))(c:cZ (.ae Q) (.int r) h=some R)(d:bM h R 42=some (.int L))(P:bL a (.i L)=own.map e3)(N:bL a (.i t)=b.map e3):aY .inl 25 [G,.int r,.int t] h (jB (hW own b)) h:=
 cH rfl rfl (M (dk (kB (a9 J x) rfl (aq (a9 (bw (a9 J f) J c) d)) rfl (ou (vf (k:=.I) (x:=.int L) rfl P)))) (M (dk (kB (a9 J x) rfl (aq J) rfl (ou (vf (k:=.I) (x:=.int t) rfl N)))) (TN own b)))
def fA(O:List dD):Nat->Z0 (Nat×Nat):=
 O.rec (λ_=>none) λm _ S j=>match Nat.beq m.1 j with
  |true=>some m.2
  |false=>S j
def et(G:List dD):ZE:=G.map λe=>(.i (.ofNat (4+e.1)),e3 e.2)
def lP(O:ZK):Nat->Nat:=aai (O.rec (λ_=>0) λx _ S i=>match i with
  |0=>x
  |i+1=>S i)
noncomputable def C.bC(o:C)(j:Nat):Nat:=match o with
 |.lx=>match j with|2=>0|i=>j
 |.lB=>match j with|3=>0|i=>j
 |_=>j
def C.le(j:C)(u o:Nat):Nat:=match u with
 |0=>j.bC o
 |1=>0
 |_=>j.aD-1
def e6(E:C)(O:ZK)(i:Nat):V:=.ae [dH E (E.bC i),.bool (Nat.beq i E.k),fO gX E.j0 (lP O i)]
def br(E:C)(O:ZK)(G:List dD)(i j:Nat):b':=hW (fA G (E.le (lP O i) i)) (fA G j)
def NO(E:C):E.eD=(aB 0 E.R).map λi=>dH E (E.bC i):=by induction E<;>rfl
def A8(E:C):E.hU=(aB 0 E.k).map (dH E):=by induction E<;>rfl
def Nh(O:ZK):∀{i p:Nat}{r:ZK},O.drop i=p::r->lP O i=p:=by
 induction O with
 |nil=>intro i p r h;induction i<;>nomatch h
 |cons x O S=>intro i p r h;induction i with|zero=>exact(XQ h).1|succ i=>exact S h
def Sq{k:Nat}{b:V}{g:Nat->V}{O:ZK}(n:Nat):∀{i:Nat}{a:ZK},O.drop i=a->a.length=n->nc k b ((aB i n).map g) a i=(aB i n).map λB=>.ae [g B,.bool (Nat.beq B k),fO gX b (lP O B)]:=by
 induction n with
 |zero=>exactλ_ _=>rfl
 |succ n S=>
  intro i a h l;induction a with
  |nil=>nomatch l
  |cons p r=>
   refine(?_:V.ae [g i,.bool (Nat.beq i k),fO gX b p]::nc k b ((aB (i+1) n).map g) r (i+1)=_::_);rw[S (i:=i+1) (a:=r) (by rw[<-List.tail_drop,h];rfl) (Yr l)]
   refine(?_:_=V.ae [g i,.bool (Nat.beq i k),fO gX b (lP O i)]::_);rw[Nh O h];rfl
def ni{E:C}{O:ZK}(h:O.length=E.eD.length):qj E O=(aB 0 E.R).map (e6 E O):=by unfold qj;rw[NO E];exact Sq (O:=O) (k:=E.k) (b:=E.j0) (g:=λi=>dH E (E.bC i)) E.R (i:=0) rfl (h.trans ((by induction E<;>rfl)))
def B0{g:V->Bool}{l:ZF}(h:∀x∈l,g x):dR g l:=by
 induction l with
 |nil=>rfl
 |cons x r S=>
  refine(?_:(match g x with|true=>dR g r|false=>false)=true)
  rw[h x (.head _)];exact S λy m=>h y (.tail _ m)
def jM{α:Type}{g:V->Bool}{f:α->V}{l:List α}(h:∀x,g (f x)):dR g (l.map f):=B0 λ_ m=>(Xz.mp m).elim λy z=>z.2▸h y
def cf{g:V->Bool}{x:V}{r:ZF}(a:g x)(b:dR g r):dR g (x::r):=by
 refine(?_:(match g x with|true=>dR g r|false=>false)=true)
 rw[a];exact b
def hn{f:Nat}{l:ZF}(h:dR (cg f) l):cg (f+1) (.ae l):=h
def qW{f:Nat}{l:ZF}(h:dR (cg f) l):cg (f+1) (.ay l):=h
def u'{f:Nat}{k:eU}{l:ZE}(h:ly (cg f) l):cg (f+1) (.ah k l):=h
def yn{α:Type}{g:V->Bool}{k:α->aE}{f:α->V}{l:List α}(h:∀x,g (f x)):ly g (l.map λx=>(k x,f x)):=by
 induction l with
 |nil=>rfl
 |cons x r S=>
  refine(?_:(match g (f x)with|true=>ly g (r.map λx=>(k x,f x))|false=>false)=true)
  rw[h x];exact S
section
variable{E:C}{O:ZK}{G:List dD}
def KL:cg (f+1) (fO gX E.j0 p):=match p with
 |0=>rfl
 |1=>rfl
 |_+2=>by induction E<;>rfl
def sm:cg (f+1) (ec p):=match p with
 |0=>rfl
 |1=>rfl
 |2=>rfl
 |_+3=>rfl
def CA:cg (f+2) (e6 E O i):=hn (cf rfl (cf rfl (cf KL rfl)))
def KI:ly (cg (f+2)) (et G):=yn (f:=λe:dD=>e3 e.2) λ_=>qW (cf rfl (cf sm rfl))
def vc(V:O.length=E.eD.length):cg (f+4) (bN E O G a g b):=
 qW (cf (by induction E<;>rfl) (cf (by induction E<;>rfl) (cf (hn (by rw[ni V];exact jM (g:=cg (f+2)) (f:=e6 E O) λ_=>CA)) (cf (u' (yn (g:=cg (f+2)) (f:=λe:dD=>eZ e.2) λ_=>(qW (cf rfl (cf sm rfl))))) (cf (hn (cf sm (cf sm (cf sm rfl)))) rfl)))))
def NN(E:C):((aB 0 E.R).all λi=>Nat.blt (E.bC i) E.aD&&Nat.blt 0 E.aD&&Nat.blt (E.aD-1) E.aD):=by induction E<;>rfl
def pV(h:i<E.R):E.le p i<E.aD:=by
 have z:=a4 (Xb.mp (NN E) i (gG _ (Xj _) (by rw[W7];exact h)))
 have y:=a4 z.1;exact match p with
 |0=>dZ y.1
 |1=>dZ y.2
 |_+2=>dZ z.2
def Fp:pX (fO gX E.j0 p) (dH E (E.bC i))=dH E (E.le p i):=match p with
 |0=>rfl
 |1=>rfl
 |_+2=>by induction E<;>rfl
def z4(P:B<E.aD):∀{G:List dD},(∀e∈G,e.1<E.aD)->bL (iG E G) (.s (fB E B))=(fA G B).map eZ:=by
 intro G;induction G with
 |nil=>exactλ_=>rfl
 |cons e r S=>
  intro h;refine(?_:(match cJ (.s (fB E e.1)) (.s (fB E B))with|true=>some (eZ e.2)|false=>bL (iG E r) (.s (fB E B)))=(match Nat.beq e.1 B with|true=>some e.2|false=>fA r B).map eZ)
  rw[Aq (h _ (.head _)) P];generalize Nat.beq e.1 B=N;induction N with|true=>rfl|false=>exact S λe m=>h e (.tail _ m)
def uW{i j:Nat}:Nat.beq (4+i) (4+j)=Nat.beq i j:=by rw[Xa 4,Xa 4];rfl
def wj:∀{G:List dD},bL (et G) (.i (.ofNat (4+B)))=(fA G B).map e3:=by
 intro G;induction G with
 |nil=>rfl
 |cons e r S=>
  refine(?_:(match Nat.beq (4+e.1) (4+B)with|true=>some (e3 e.2)|false=>bL (et r) (.i (.ofNat (4+B))))=(match Nat.beq e.1 B with|true=>some e.2|false=>fA r B).map e3)
  rw[uW];generalize Nat.beq e.1 B=N;induction N with|true=>rfl|false=>exact S
def BI(V:O.length=E.eD.length)(s:d1 E.aD G)(A:i<E.R)(P:B<E.aD):aY .pure 129 [bN E O G a g b,e6 E O i,dH E B] h (hV (br E O G i B)) h:=
 Pl (cf (vc V) (cf CA rfl)) (by rw[Fp];rfl) rfl (z4 (pV A) s.lt) (z4 P s.lt)
end
def gI(P:Nat->Prop)(O:ZK):Prop:=
 O.rec True λx _ S=>P x/\S
def gI.at(o:gI c' a')(j:f'∈a'):c' f':=by
 induction a' with
 |nil=>exact eu j
 |cons J C u=>cases j with
  |head=>exact o.1
  |tail _ j=>exact u o.2 j
def gI.lt(j:gI a' (aB 0 f'))(o:c'<f'):a' c':=j.at (gG _ (Xj _) (by rw[W7];exact o))
def Ru(O:ZF):Nat->ZE:=
 O.rec (λ_=>[]) λv _ S i=>match v with
  |.str s=>(.s s,I i)::S (i+1)
  |_=>S (i+1)
abbrev iK(E:C):ZE:=Ru E.names 0
noncomputable abbrev b1(E:C):Nat:=E.aG+1
def Aw(E:C):bL (iK E) (.s Z1)=some (I (b1 E)):=by induction E<;>rfl
def Rv(E:C):bL (iK E) (.s aac)=some (I E.aG):=by induction E<;>rfl
def Rx(E:C):gI (λB=>bL (iK E) (.s (fB E B))=some (I (4+B))) (aB 0 E.aD):=by induction E<;>(repeat' apply And.intro)<;>first|rfl|trivial
def Ax(h:B<a.aD):bL (iK a) (.s (fB a B))=some (I (4+B)):=(Rx a).lt h
noncomputable def qh(b:Bool)(e ns:Nat):ZK:=match b with
 |true=>[ns,e]
 |false=>[e,ns,e]
def fw(N:ZE)(y:ZF):Z:=aai ⟨.node (some (.ah .S N 0)) (.node (some (.ae y 0)) .nil .nil) .nil,2⟩
abbrev lM(E:C)(O:ZK)(G:List dD)(k g K:Nat)(d:Int):ZD:=
 [(170,bN E O G k g K),(113,.int d),(163,.ae E.hU),(164,E.jg),(31,.ae (qj E O)),(169,.ah .S (iG E G)),(168,.ae [ec k,ec g,ec K]),(15,.ae E.names),(22,.ref 0),(171,.ref 1)]
abbrev xF(s:ZV)(b:Bool)(p:V):ZD:=aai [(166,.str s),(172,.bool b),(167,p)]
def mO(e:au A 22=some (.ref 0))(B:ao a ⟨A,fw N y⟩ c (fw N y))(t:fQ .S c=some q)(d:bL N q=some (I b)):ao (.sub (.F 22) a) ⟨A,fw N y⟩ (I b) (fw N y):=bw (J e) B (lO rfl t d)
def zk(R:Wx y<900)(f:au A 22=some (.ref 0))(d:au A 171=some (.ref 1))(O:bL N (.s Z1)=some (I e))(b:ao a ⟨A,fw N y⟩ (ko r) (fw N y))(F:ao c ⟨A,fw N y⟩ (I g) (fw N y)):cF (.expr (.aC (.F 171) 8192 [(.new 17 [(.bq false .len [(.F 171)]),(.sub (.F 22) (.lit (.str Z1))),a,c])])) ⟨A,fw N y⟩ .next ⟨A,fw N (U y [dC (Wx y) e r (.ofNat g)])⟩:=
 de (fY (N:=fw N y) (J d) rfl (aq (iC (aI (d4 (aq (J d)) rfl) (aI (mO f u rfl O) (aI b (aq F)))) (ft 9 λ_=>by kernel_rfl))) rfl (hu (a:=y) rfl (dW (W4 R (WY rfl))))) rfl
def NA(R:Wx y<900)(O:bL N (.s Z1)=some (I e))(n:bL N (.s s)=some (I a))(o:fQ .S (pX p (.str s))=some q)(k:bL N q=some (I r)):
  ∃l,bE (cA (cm sN 4)) ⟨U (lM m i G f g h d) (xF s b p),fw N y⟩ .next ⟨U (lM m i G f g h d) (U (xF s b p) l),fw N (U y [dC (Wx y) e (qh b e a) (.ofNat r)])⟩:=by
 have c:∀{l},ao (.aw .is (.F 167) (.lit .none)) ⟨U (lM m i G f g h d) (U (xF s b p) l),fw N y⟩ (.bool (iE p)) (fw N y):=bF J u rfl;have D:∀{l},ao (.ite (.aw .is (.F 167) (.lit .none)) (.F 166) (.F 167)) ⟨U (lM m i G f g h d) (U (xF s b p) l),fw N y⟩ (pX p (.str s)) (fw N y):=λ{l}=>by
  unfold pX;have c:=c (l:=l);generalize V:iE p=t;induction t with|true=>rw[V] at c;exact lH c rfl J|false=>rw[V] at c;exact jT c rfl J
 induction b with|true=>exact⟨[(173,.ae [.str s,.str Z1]),(34,ko [a,e])],M (dk (lH J rfl (fu (aI J (aq u))))) (M (dk (d4 (aq (h5 (c8 J rfl) rfl rfl (fZ rfl (mO rfl J rfl n) (fZ rfl (mO rfl J rfl O) gF)) rfl)) rfl)) (M (zk R rfl rfl O J (mO rfl D o k)) ba))⟩|false=>exact⟨[(173,.ae [.str Z1,.str s,.str Z1]),(34,ko [e,a,e])],M (dk (jT J rfl (fu (aI u (aI J (aq u)))))) (M (dk (d4 (aq (h5 (c8 J rfl) rfl rfl (fZ rfl (mO rfl J rfl O) (fZ rfl (mO rfl J rfl n) (fZ rfl (mO rfl J rfl O) gF))) rfl)) rfl)) (M (zk R rfl rfl O J (mO rfl D o k)) ba))⟩
def rP(E:C):V:=dC 0 E.aG [b1 E,0] 0
def kP(E:C)(O:ZK)(i:Nat):Int:=.ofNat (4+E.le (lP O i) i)
def rQ(E:C)(O:ZK)(i:Nat):V:=dC (i+1) (b1 E) (qh (Nat.beq i E.k) (b1 E) (4+E.bC i)) (kP E O i)
def NB(k:bE (sN.body.drop 4) ⟨lM a e G b g c d,fw (iK a) [rP a]⟩ i f):bE sN.body ⟨[(170,bN a e G b g c),(113,.int d)],Z.bj⟩ i f:=
 nJ 4 (fF 29 λ_=>by induction a<;>kernel_rfl) k
def NC(m:Nat):∀{i:Nat}{y:ZF},i+m=a.R->Wx y=i+1->Wx y+m<900->cS [166,172,167] (cA (cm sN 4)) ((aB i m).map (e6 a b)) ⟨lM a b G c g e d,fw (iK a) y⟩ .next ⟨lM a b G c g e d,fw (iK a) (U y ((aB i m).map (rQ a b)))⟩:=by
 induction m with
 |zero=>exactλ{i y} _ _ _=>by exact(show(aB i 0).map (rQ a b)=[] from rfl)▸eI▸dq
 |succ m S=>
  intro i y Q D R;have A:=Q▸Xq (Xk m);have z:=S (i:=i+1) (y:=U y [rQ a b i]) (by rw[<-Q,W9,Xa 1]) (by rw[iF,D];rfl) (lz R)
  rw[eL] at z;refine(NA (m:=a) (i:=b) (G:=G) (f:=c) (g:=g) (h:=e) (d:=d) (y:=y) (s:=fB a (a.bC i)) (b:=Nat.beq i a.k) (p:=fO gX a.j0 (lP b i)) (q:=.s (fB a (a.le (lP b i) i))) (hs R) (Aw a) (Ax (pV (p:=0) A)) (W0 (fQ .S) Fp) (Ax (pV A))).elim λl v=>?_;rw[D] at v;exact cW rfl v rfl z
def P9(h:fA G B=some x):fA (U G b) B=some x:=by
 induction G with
 |nil=>exact cB h
 |cons e r S=>
  have h:(match Nat.beq e.1 B with|true=>some e.2|false=>fA r B)=some x:=h
  show(match Nat.beq e.1 B with|true=>some e.2|false=>fA (U r b) B)=some x
  generalize a:Nat.beq e.1 B=N;induction N with|true=>rw[a] at h;exact h|false=>rw[a] at h;exact S h
def P'(h:∀e∈G,e.1<B):fA (U G b) B=fA b B:=by
 induction G with
 |nil=>rfl
 |cons e r S=>
  refine(?_:(match Nat.beq e.1 B with|true=>some e.2|false=>fA (U r b) B)=_)
  rw[show Nat.beq e.1 B=false from XO.mpr λz=>Xi (h e (.head _)) (W2 z)];exact S λy L=>h y (.tail _ L)
def d1.au(j:d1 f' c'):∀a'∈c',fA c' a'.1=some a'.2:=by
 induction j with
 |nil=>exactλ_ j=>eu j
 |qn j J C=>
  intro a' u;rw[cQ] at u;refine(XF.mp u).elim (λo=>P9 (C a' o)) λo=>?_;rw[Xf.mp o,P' j.lt];refine(?_:(match Nat.beq _ _ with|true=>_|false=>_)=_)
  rw[Xn]
def xG(e:dD):V:=.ay [I (4+e.1),e3 e.2]
def L8:E:=aai (.ay [(.sub (.F 22) (.F 166)),(.ay [(.a7 .add false (.sub (.sub (.F 169) (.F 166)) (.lit (.int 0))) (.lit (.int 1))),(.sub (.sub (.F 169) (.F 166)) (.lit (.int 1)))])])
def PK(s:d1 a.aD G)(r:List dD):(∀e∈r,e∈G)->eV [166] L8 none (lM a f G b g c d) (ie (iG a r)) (fw (iK a) y) (r.map xG) (fw (iK a) y):=by
 induction r with
 |nil=>exactλ_=>gF
 |cons e r S=>
  intro F;have H:=F e (.head _);have P:=s.lt e H;have R:ao (.sub (.F 169) (.F 166)) ⟨U (lM a f G b g c d) [(166,dH a e.1)],fw (iK a) y⟩ (eZ e.2) (fw (iK a) y):=bw (J rfl) (J rfl) (show bL (iG a G) (.s (fB a e.1))=_ by rw[z4 P s.lt,s.au e H];rfl)
  exact fZ rfl (d8 (aI (mO rfl J rfl (Ax P)) (aq (d8 (aI (cV (bw R u rfl) u rfl) (aq (bw R u rfl))))))) (S λx B=>F x (.tail _ B))
def Qk(h:∀e∈G,e.1<B):cU (et G) (.i (.ofNat (4+B))) (e3 x)=et (U G [(B,x)]):=by
 induction G with
 |nil=>rfl
 |cons e r S=>
  refine(?_:(match Nat.beq (4+e.1) (4+B)with|true=>_|false=>(aE.i (.ofNat (4+e.1)),e3 e.2)::cU (et r) (.i (.ofNat (4+B))) (e3 x))=_)
  rw[uW,show Nat.beq e.1 B=false from XO.mpr λz=>Xi (h e (.head _)) (W2 z)];exact W0 (_::·) (S λy L=>h y (.tail _ L))
def R3:∀{d g:ZE},kW .I (l.map xG) d=some g->kW .I ((U l [e]).map xG) d=some (cU g (.i (.ofNat (4+e.1))) (e3 e.2)):=by
 induction l with|nil=>exactλh=>W0 (λd=>some (cU d _ _)) (WZ h)|cons x r S=>exactλh=>S h
def PL(h:d1 m G):kW .I (G.map xG) []=some (et G):=by
 induction h with|nil=>rfl|qn h l S=>rw[R3 S,Qk h.lt]
def VB:gW (ct (f+1) h) (et G)=some (et G):=by
 induction G with|nil=>rfl|cons e r S=>exact a6 rfl (a6 S rfl)
def zh(N:ZE)(y:ZF)(K:ZE):Z:=aai ⟨.node (some (.ah .S N 0)) (.node (some (.ae y 0)) .nil .nil) (.node (some (.ah .I K 0)) .nil .nil),3⟩
def C.i4(u:C)(o:Nat->Int):ZF:=match bM Z.bj (cv u o [] 0) 31 with
 |some (.ae j)=>j
 |_=>[]
def DP(E:C)(d:Int):ZF:=[.ae E.names,I E.aG,.ref 1,.ref 2,.int d,I (b1 E)]
def rh(E:C)(L:Nat->Int)(K:ZE)(d:Int):Z:=(((eH 40).c .eg 18 (DP E d) (zh (iK E) (E.i4 L) K)).getD default).2
def M'(E:C)(L:Nat->Int)(K:ZE)(d:Int):aY .eg 18 (DP E d) (zh (iK E) (E.i4 L) K) (.ref 3) (rh E L K d):=ft 40 λ_=>by induction E<;>kernel_rfl
def HU(e:h.get p=some (.ins c P))(g:gi (ct f h) P=some a):ct (f+1) h (.ref p)=some (.ins c false a):=by unfold ct;dsimp only;rw[e];exact a6 g rfl
def BD(e:h.get p=some (.ah k P l))(g:gW (ct f h) P=some a):ct (f+1) h (.ref p)=some (.ah k a):=by unfold ct;dsimp only;rw[e];exact a6 g rfl
def FJ(e:gi g a=some A)(d:g x=some y)(b:gi g r=some t):gi g (U a ((k,x)::r))=some (U A ((k,y)::t)):=by
 induction a generalizing A with
 |nil=>exact(WZ e)▸a6 d (a6 b rfl)
 |cons z a S=>
  have e:Y (g z.2) (λv=>Y (gi g a) λl=>some ((z.1,v)::l))=some A:=e;refine(?_:Y (g z.2) (λv=>Y (gi g (U a _)) λl=>some ((z.1,v)::l))=_);generalize g z.2=o at e⊢;induction o with
  |none=>exact cB e
  |some v=>
   have e:Y (gi g a) (λl=>some ((z.1,v)::l))=some A:=e;generalize I:gi g a=o at e S;induction o with|none=>exact cB e|some l=>exact WZ e▸a6 rfl (a6 (S rfl) rfl)
def sY(E:C)(r:V):ZD:=[(15,.ae E.names),(16,I E.aG),(31,r)]
def DS(E:C)(d:Int):ZD:=[(113,.int d),(68,I (b1 E)),(114,.ref (E.aG+6)),(115,.ref (E.aG+7)),(116,.ref (E.aG+8)),(117,I (3*(E.R-E.k)+4*E.k+5))]
def M9(v:V):ZD:=aai (match v with
 |.ins _ _ l=>l
 |_=>[])
abbrev zj(E:C)(d:Int):ZD:=(M9 (cv E (λ_=>0) [] d)).drop 4
def DR(E:C)(L:Nat->Int)(K:ZE)(d:Int):(rh E L K d).get 3=some (.ins 18 (U (sY E (.ref 1)) ((41,.ref 2)::DS E d)))/\gi (ct 11 (rh E L K d)) (sY E (.ref 1))=some (sY E (.ae (E.i4 L)))/\(rh E L K d).get 2=some (.ah .I K 0)/\gi (ct 11 (rh E L K d)) (DS E d)=some (zj E d)/\V.ins 18 false (U (sY E (.ae (E.i4 L))) ((41,.ah .I K)::zj E d))=cv E L K d:=by induction E<;>exact⟨by kernel_rfl,by kernel_rfl,by kernel_rfl,by kernel_rfl,by kernel_rfl⟩
def Na(E:C)(L:Nat->Int)(G:List dD)(d:Int):ct 12 (rh E L (et G) d) (.ref 3)=some (cv E L (et G) d):=by have z:=DR E L (et G) d;exact(HU z.1 (FJ z.2.1 (BD z.2.2.1 VB) z.2.2.2.1)).trans (W0 some z.2.2.2.2)
def BW(e:hG g a)(d:hG g b):hG g (U a b):=by
 induction a with
 |nil=>exact d
 |cons x r S=>
  have e:(match g x.2 with|true=>hG g r|false=>false)=true:=e
  refine(?_:(match g x.2 with|true=>hG g (U r b)|false=>false)=true)
  generalize h:g x.2=N;induction N with|true=>rw[h] at e;exact S e|false=>rw[h] at e;exact bb e
def iS(a:g x)(b:hG g r):hG g ((k,x)::r):=by
 refine(?_:(match g x with|true=>hG g r|false=>false)=true)
 rw[a];exact b
def Cz(E:C)(L:Nat->Int)(d:Int):hG (cg (f+5)) (sY E (.ae (E.i4 L)))/\hG (cg (f+5)) (zj E d):=by induction E<;>exact⟨by kernel_rfl,by kernel_rfl⟩
def lF:cg (f+6) (cv a L (et G) d):=by rw[<-(DR a L (et G) d).2.2.2.2];exact(BW (Cz a L d).1 (iS (u' KI) (Cz a L d).2):hG (cg (f+5)) _=true)
def SW(E:C)(L:Nat->Int):U (U [rP E] ((aB 0 E.R).map λi=>dC (i+1) (b1 E) (qh (Nat.beq i E.k) (b1 E) (4+E.bC i)) (L i))) [dC (E.R+1) (b1 E) [3] 3]=E.i4 L:=by induction E<;>kernel_rfl
def JM(R:tQ k)(a:d5 c h=some l)(b:kW k l []=some d):WJ B (.dict k) [c] h=some (.ref h.n,h.new (.ah k d 0)):=a6 rfl (fN R (a6 a (a6 b rfl)))
def PA:Wx (ie T)=Wx T:=by
 induction T with|nil=>rfl|cons x r S=>exact W0 (·+1) S
def d1.len(j:d1 c' a'):Internal.Wx a'<=c':=by
 induction j with|nil=>exact Xj _|qn j u o=>exact iF▸W3 o u
def Ph(V:b.length=a.eD.length)(s:d1 a.aD G):aY .pure 128 [bN a b G c g e,.int d] h (cv a (kP a b) (et G) d) h:=by
 have T:=NC (b:=b) (G:=G) (c:=c) (g:=g) (e:=e) (d:=d) a.R (i:=0) (y:=[rP a]) (W7 _) rfl (by induction a<;>exact WY rfl)
 rw[<-ni V] at T;have f:Wx (U [rP a] ((aB 0 a.R).map (rQ a b)))=a.R+1:=by induction a<;>rfl
 have i:=zk (e:=b1 a) (g:=3) (A:=lM a b G c g e d) (N:=iK a) (y:=U [rP a] ((aB 0 a.R).map (rQ a b))) (a:=.ay [.lit (.int 3)]) (c:=.lit (.int 3)) (r:=[3]) (by rw[f];induction a<;>exact WY rfl) rfl rfl (Aw a) (d8 (aq u)) u
 rw[f] at i;have q:U (U [rP a] ((aB 0 a.R).map (rQ a b))) [dC (a.R+1) (b1 a) [3] (.ofNat 3)]=a.i4 (kP a b):=SW a (kP a b);rw[q] at i;refine ks (cf (vc V) rfl) rfl rfl rfl (NB (M (da (c8 J rfl) rfl T rfl) (M i (M (cI (P:=zh (iK a) (a.i4 (kP a b)) (et G)) (d4 (aq (h5 (c8 J rfl) (dW (by rw[PA];unfold iG;rw[c9];exact W3 s.len (Xv (Dc a) (WY rfl)))) rfl (PK s G λ_ h=>h) rfl)) ((JM rfl rfl (PL s)).trans (by kernel_rfl)))) (bG (cb (iC (aI J (aI (bw J u (lO rfl rfl (Rv a))) (aI J (aI J (aI J (aq (bw J u (lO rfl rfl (Aw a))))))))) (M' a (kP a b) (et G) d)))))))) (Na ..) lF
def Qg(D:x.m<2 ^ 40)(X:∀b∈gf x.m,b<=64/\∀h,aY .inl 25 [G,I r,I b] h (jB (w b)) h)(L:Wx x.dS+(gf x.m).length<1000):aY .inl 27 [.ref a.n] (W a (dm a G q r 0 Q x)) .none (W a (dm a G q r 0 Q (sT r w (gf x.m) x))):=
 gO rfl rfl (M (da (c8 (a9 J (fz 0 rfl rfl)) (ui (cw _ rfl))) (pS 3 rfl) (cW rfl (M (da (c8 (c7 (aq (bw J u (mX 4 rfl rfl))) (yD D)) rfl) rfl (TO (gf x.m) X L) rfl) ba) rfl dq) (pT 3 rfl)) ba)
def j5(n:Nat):∀{i:Nat},i2 (.ofNat i) n=(aB i n).map I:=by
 induction n with|zero=>exact rfl|succ n S=>exactλ{i}=>W0 (I i::·) (S)
def oR(n:Nat):∀{i:Nat},(aB i n).length=n:=by
 induction n with|zero=>exact rfl|succ n S=>exact W0 (·+1) S
def g8(n:Nat):∀{i:Nat},B∈aB i n->i<=B/\B<i+n:=by
 induction n with
 |zero=>exactλh=>eu h
 |succ n S=>exactλ{i} h=>by cases h with
  |head=>exact⟨Xe _,Xq (Xk n)⟩
  |tail _ h=>exact(S h).elim λa b=>⟨XI a,by rw[YN] at b;exact b⟩
def AW:Wx (k3 x (i5 aG))=aG:=by unfold k3;rw[oo,oo,qi]
def w9:Wx (k1 r aG x)=aG:=by unfold k1 k3;rw[oo,oo,oo,qi]
def wm(aG:Nat)(l:ZK):Bool:=aai (l.all λn=>Nat.blt n aG)
def tD(h:wm aG l):∀a∈l,a<aG:=λa m=>dZ (Xb.mp h a m)
def xa(aG:Nat)(x:hE):Bool:=wm aG (x.aa.map (·.1))&&(wm aG (gf x.b)&&(Nat.blt x.b (2 ^ 40)&&(wm aG (gf x.m)&&Nat.blt x.m (2 ^ 40))))
def f6(aG r m:Nat)(A:ZH)(w:Nat->b'):hE:=sT r w (gf m) (i6 aG m A)
def Qo(v:∀h,bM h G 16=some (I aG))(V:aG<65)(D:∀x∈A,au A x.1=some x.2)(f:A.length<1000)(R:bL mk (.t [.ofNat q,.ofNat r])=some (I m))(e:m<2 ^ 40)(X:∀a∈gf m,a<=64/\∀h,aY .inl 25 [G,I r,I a] h (jB (w a)) h)(L:(gf m).length<1000)(B:xa aG (f6 aG r m A w)):
  ya b G (iM q s g T A [r]) (.ah .T mk) q (k1 r aG (f6 aG r m A w)) (eX aG A []) ((qX (f6 aG r m A w).m (f6 aG r m A w).aa (k1 r aG (f6 aG r m A w)) (aB 0 aG)).map (eJ q r)) ((f6 aG r m A w).dS.map (eJ q r)):=by
 have P:=a4 B;have N:=a4 P.2;have t:=a4 N.2;have d:=a4 t.2;have c:∀{a},65<=a->aG<a:=λz=>W4 V z;exact .mk (dm b G q r 0 (eX aG A []) (i6 aG m A)) (dm b G q r 0 (eX aG A []) (f6 aG r m A w)) _ _ 5 _ _ _ _ (S1 v D f R) (Qg e X (by rw[show Wx (i6 aG m A).dS=0 from rfl,W7];exact L)) (S4 v (c (WY rfl)) (tD P.1) (tD N.1) (dZ t.1) (tD d.1) (dZ d.2)) (Lj v (c (WY rfl)) (j5 aG) (by rw[oR];exact c (WY rfl)) λa h=>by rw[w9];have z:=(g8 aG h).2;rw[W7] at z;exact⟨z,XG (Xv z V)⟩) rfl rfl rfl rfl rfl rfl
def Qn(v:∀h,bM h G 16=some (I aG))(V:aG<65)(D:∀x∈A,au A x.1=some x.2)(f:A.length<1000)(B:xa aG (i6 aG 0 A)):
  ya a G (iM q s g T A []) (.ah .T mk) q (k3 (i6 aG 0 A) (i5 aG)) (eX aG A []) [] []:=by
 have P:=a4 B;have N:=a4 P.2;have t:=a4 N.2;have b:∀{n},65<=n->aG<n:=λz=>W4 V z;exact .mk (jJ a G q 0 (eX aG A []) (i6 aG 0 A)) (jJ a G q 0 (eX aG A []) (i6 aG 0 A)) _ _ 4 _ _ _ _ (S0 v D f) (gO rfl rfl (M (da (c8 (a9 J (fz 0 rfl rfl)) (ui (cw _ rfl))) (pS 3 rfl) dq (pT 3 rfl)) ba)) (S3 v (b (WY rfl)) (tD P.1) (tD N.1) (dZ t.1)) (Li v (b (WY rfl)) (j5 aG)) rfl rfl rfl rfl rfl rfl
noncomputable def hO(a b c:b'):Nat->b'
 |4=>a
 |5=>b
 |6=>c
 |_=>.dI
def eT(W:Nat->Nat->b')(R r:Nat):Nat->b':=match Nat.beq r (R+1)with
 |true=>hO .dI .dI .dI
 |false=>hO (W (r-1) 0) (W (r-1) 1) (W (r-1) 2)
def eO(E:C):Nat:=aai (match E.k with
 |2=>49
 |_=>113)
def Fz(h:a<4):bL (et G) (.i (.ofNat a))=none:=by
 induction G with
 |nil=>rfl
 |cons e r S=>
  refine(?_:(match Nat.beq (4+e.1) a with|true=>some (e3 e.2)|false=>bL (et r) (.i (.ofNat a)))=none)
  exact(show Nat.beq (4+e.1) a=false from XO.mpr λz=>X9 (Xd 4 e.1) (W2 z▸h))▸S
def jP(h:Y x f=some r):∃a,x=some a/\f a=some r:=by
 induction x with|none=>exact cB h|some a=>exact⟨a,rfl,h⟩
noncomputable abbrev Fq(E:C)(L:Nat->Int)(i:Nat):Int:=match Nat.beq i E.R with
 |true=>3
 |false=>L i
def SX(E:C)(L:Nat->Int)(h:Z):gI (λi=>Y (cZ (.ae (E.i4 L)) (I (i+1)) h) (λR=>bM h R 42)=some (.int (Fq E L i))) (aB 0 (E.R+1)):=by induction E<;>(repeat' apply And.intro)<;>first|exact trivial|kernel_rfl
def rj(E:C)(L:Nat->Int)(K:ZE)(d:Int)(h:Z):bM h (cv E L K d) 31=some (.ae (E.i4 L))/\bM h (cv E L K d) 41=some (.ah .I K)/\bM h (cv E L K d) 16=some (I E.aG)/\bM h (cv E L K d) 15=some (.ae E.names):=by induction E<;>exact⟨rfl,rfl,rfl,rfl⟩
abbrev fH(E:C)(O:ZK)(G:List dD)(d:Int):V:=cv E (kP E O) (et G) d
def V4:hW a none=.dI:=by induction a<;>rfl
def wL(G:List dD)(n:Nat):Z0 (Nat×Nat):=match n with
 |4=>fA G 0
 |5=>fA G 1
 |6=>fA G 2
 |_=>none
def AH(E:C)(O:ZK)(G:List dD)(i:Nat):Z0 (Nat×Nat):=match Nat.beq i E.R with
 |true=>none
 |false=>fA G (E.le (lP O i) i)
def yC{P:Nat->Prop}(X:e=0\/e=4\/e=5\/e=6)(a:P 0)(b:P 4)(c:P 5)(d:P 6):P e:=X.elim (λz=>z▸a) λy=>y.elim (λz=>z▸b) λy=>y.elim (λz=>z▸c) λz=>z▸d
def RU{P:Z0 (Nat×Nat)}(X:a=0\/a=4\/a=5\/a=6):hW P (wL G a)=hO (hW P (fA G 0)) (hW P (fA G 1)) (hW P (fA G 2)) a:=yC (P:=λa=>hW P (wL G a)=hO (hW P (fA G 0)) (hW P (fA G 1)) (hW P (fA G 2)) a) X V4 rfl rfl rfl
def RZ(X:a=0\/a=4\/a=5\/a=6):hW (AH b c G i) (wL G a)=eT (br b c G) b.R (i+1) a:=by rw[RU X];unfold eT AH;rw[show Nat.beq (i+1) (b.R+1)=Nat.beq i b.R from rfl];cases Nat.beq i b.R<;>rfl
def ND(A:i<a.R+1)(X:b=0\/b=4\/b=5\/b=6):aY .inl 25 [fH a c G d,I (i+1),I b] h (jB (eT (br a c G) a.R (i+1) b)) h:=
 (jP ((SX a (kP a c) h).lt A)).elim λR z=>RZ X▸TK (rj a (kP a c) (et G) d h).2.1 (rj a (kP a c) (et G) d h).1 z.1 z.2 (by
  unfold Fq AH;generalize Nat.beq i a.R=N;induction N with|true=>exact Fz (WY rfl)|false=>exact wj) ((yC (P:=λb=>bL (et G) (.i (.ofNat b))=(wL G b).map e3) X (Fz (WY rfl)) (wj (B:=0)) (wj (B:=1)) (wj (B:=2))))
def jk(g:b'->Bool):Bool:=aai (g .gY&&(g .nx&&(g .iy&&g .dI)))
def mw(h:jk g)(w:b'):g w:=by have a:=a4 h;have b:=a4 a.2;have c:=a4 b.2;induction w<;>first|exact a.1|exact b.1|exact c.1|exact c.2
def xP(r:ZM):Bool:=match a3 r 1 with
 |some i=>dr i 0
 |_=>false
def H'(h:xP r):a3 r 1=some 0:=by
 unfold xP at h;generalize e:a3 r 1=N;induction N with|none=>rw[e] at h;exact bb h|some i=>rw[e] at h;exact W0 some (pN.mp h)
def vO(r:Nat)(l:ZM):Bool:=match oe r l 0 with
 |some c=>Nat.beq (qJ r c) r
 |none=>false
def Ee(h:vO r l):∃c,oe r l 0=some c/\qJ r c=r:=by
 unfold vO at h;generalize e:oe r l 0=N;induction N with|none=>rw[e] at h;exact bb h|some c=>rw[e] at h;exact⟨c,rfl,W2 h⟩
def QN(m:Nat)(O:List d2):ZE:=
 O.rec [] λs _ S=>match s.i3 with
  |[]=>S
  |x::_=>(.t [.ofNat s.q,.ofNat x],I m)::S
def ih(E:C):ZE:=QN (eO E) E.dT
def z2(o:Z0 V)(m:Nat):Bool:=aai (match o with
 |some (.int i)=>dr i (.ofNat m)
 |_=>false)
def P8(h:z2 H m):H=some (I m):=by
 induction H with
 |none=>exact bb h
 |some v=>induction v using V.casesOn with|int i=>exact W0 (λi=>some (V.int i)) (pN.mp h)|_=>exact bb h
def Ai(A:ZH):Bool:=Nat.blt A.length 1000&&A.all λx=>match au A x.1 with
 |some y=>Nat.beq y x.2
 |none=>false
def FV(h:Ai A):∀x∈A,au A x.1=some x.2:=λx m=>by
 have z:=Xb.mp (a4 h).2 x m;generalize e:au A x.1=N;induction N with|none=>rw[e] at z;exact bb z|some y=>rw[e] at z;exact W0 some (W2 z)
def qU(aG q r:Nat)(x:hE):List (Nat×Int):=qX x.m x.aa (k1 r aG x) (aB 0 aG)
def AO(aG q r:Nat)(x:hE):Bool:=xa aG x&&(xP (k1 r aG x)&&(vO r (k1 r aG x)&&(Nat.ble (Wx (qU aG q r x)) 8&&Nat.ble (Wx x.dS) 8)))
def A2(E:C)(s:d2):Bool:=Ai s.eP&&match s.i3 with
 |[]=>xa E.aG (i6 E.aG 0 s.eP)&&(xP (k3 (i6 E.aG 0 s.eP) (i5 E.aG))&&vO 0 (k3 (i6 E.aG 0 s.eP) (i5 E.aG)))
 |[r]=>Nat.blt 0 r&&(Nat.blt (r-1) (E.R+1)&&(z2 (bL (ih E) (.t [.ofNat s.q,.ofNat r])) (eO E)&&jk λa=>jk λb=>jk λc=>AO E.aG s.q r (f6 E.aG r (eO E) s.eP (hO a b c))))
 |_=>false
def Tu(E:C):E.dT.all (A2 E):=by induction E<;>kernel_rfl
def kb(E:C)(W:Nat->Nat->b')(p:Bool)(f:gd)(s:d2):gd:=match s.i3 with
 |[]=>nC f (gQ p 0) (eX E.aG s.eP []) (k3 (i6 E.aG 0 s.eP) (i5 E.aG)) [] []
 |r::_=>nC f (gQ p r) (eX E.aG s.eP []) (k1 r E.aG (f6 E.aG r (eO E) s.eP (eT W E.R r))) ((qU E.aG s.q r (f6 E.aG r (eO E) s.eP (eT W E.R r))).map (eJ s.q r)) ((f6 E.aG r (eO E) s.eP (eT W E.R r)).dS.map (eJ s.q r))
def kE(E:C)(W:Nat->Nat->b')(p:Bool)(O:List d2):gd->gd:=
 O.rec (λf=>f) λs _ S f=>S (kb E W p f s)
def nD(E:C):5<E.aG/\E.aG<65/\eO E<2 ^ 40/\(gf (eO E)).length<1000:=by induction E<;>exact⟨WY rfl,WY rfl,WY rfl,WY rfl⟩
def FK(E:C):∀a∈gf (eO E),a=0\/a=4\/a=5\/a=6:=by
 have z:((gf (eO E)).all λa=>Nat.beq a 0||(Nat.beq a 4||(Nat.beq a 5||Nat.beq a 6))):=by induction E<;>kernel_rfl
 exactλa m=>(X0.mp (Xb.mp z a m)).imp W2 λy=>(X0.mp y).imp W2 λy=>(X0.mp y).imp W2 W2
section
variable{E:C}{X:ZK}{G:List dD}{d:Int}{p:Bool}
def H2{W:Nat->Nat->b'}{P:(Nat->b')->Bool}(h:(jk λa=>jk λb=>jk λc=>P (hO a b c))):P (eT W R r):=by
 unfold eT;generalize Nat.beq r (R+1)=N;induction N with|true=>exact mw (mw (mw h .dI) .dI) .dI|false=>exact mw (mw (mw h _) _) _
def lU(z:65<=a):E.aG<a:=W4 (nD E).2.1 z
def DQ(h:Z):bM h (fH E X G d) 16=some (I E.aG):=(rj E (kP E X) (et G) d h).2.2.1
abbrev BM(E:C)(X:ZK)(G:List dD)(d:Int)(p:Bool)(f:gd)(J:List (Z0 O))(k:Nat)(v:V)(P:gd):Prop:=∃l I,bE (cA (cm sQ 5)) ⟨U (lL (hv E (fH E X G d)) (.ah .T (ih E)) p) [(25,v)],dQ f J⟩ .next ⟨U (lL (hv E (fH E X G d)) (.ah .T (ih E)) p) ((25,v)::l),dQ P I⟩/\nK P k
variable{f:gd}{k:Nat}
def ML(b:Ai A)(F:Nat.blt r (E.R+1))(o:z2 (bL (ih E) (.t [.ofNat q,.ofNat (r+1)])) (eO E))(y:AO E.aG q (r+1) (f6 E.aG (r+1) (eO E) A (eT (br E X G) E.R (r+1))))(R:nK f (k+1)):
  BM E X G d p f a k (iM q s g T A [r+1]) (nC f (gQ p (r+1)) (eX E.aG A []) (k1 (r+1) E.aG (f6 E.aG (r+1) (eO E) A (eT (br E X G) E.R (r+1)))) ((qU E.aG q (r+1) (f6 E.aG (r+1) (eO E) A (eT (br E X G) E.R (r+1)))).map (eJ q (r+1))) ((f6 E.aG (r+1) (eO E) A (eT (br E X G) E.R (r+1))).dS.map (eJ q (r+1)))):=by
 generalize B:f6 E.aG (r+1) (eO E) A (eT (br E X G) E.R (r+1))=x at y⊢;have c:=(a4 y).2;have m:=a4 (a4 (a4 c).2).2;have j:Wx ((qU E.aG q (r+1) x).map (eJ q (r+1)))<=8:=by rw[c9];exact WY m.1
 have l:Wx (x.dS.map (eJ q (r+1)))<=8:=by rw[c9];exact WY m.2
 have M:=Qo (s:=s) (T:=T) (g:=g) (b:=dQ f a) DQ (nD E).2.1 (FV b) (dZ (a4 b).1) (P8 o) (nD E).2.2.1 (λn i=>⟨(yC (P:=λn=>n<=64) (FK E n i) (WY rfl) (WY rfl) (WY rfl) (WY rfl)),λh=>ND (c:=X) (G:=G) (d:=d) (h:=h) (dZ F) (FK E n i)⟩) (nD E).2.2.2 (B▸(a4 y).1);rw[B] at M;exact(Ee (a4 (a4 c).2).1).elim λt z=>(DC M (λ_=>rfl) R j l (H' (a4 c).1) (by exact w9▸Xv (WY rfl) (nD E).1) (by exact w9▸lU (WY rfl)) z.1 z.2).elim λI e=>⟨_,I,e,R.step j l⟩
def MK(s:d2)(i:A2 E s)(R:nK f (k+1)):BM E X G d p f a k s.v (kb E (br E X G) p f s):=match s,i with
 |⟨_,_,_,_,_,[]⟩,i=>((Ee (a4 (a4 (a4 i).2).2).2).elim λl z=>(DC (Qn DQ (nD E).2.1 (FV (a4 i).1) (dZ (a4 (a4 i).1).1) (a4 (a4 i).2).1) (λ_=>rfl) R (Xj _) (Xj _) (H' (a4 (a4 (a4 i).2).2).1) (by exact AW▸Xv (WY rfl) (nD E).1) (by exact AW▸lU (WY rfl)) z.1 z.2).elim λI e=>⟨_,I,e,R.step (Xj _) (Xj _)⟩)
 |⟨_,_,_,_,A,[r+1]⟩,i=>ML (a4 i).1 (a4 (a4 (a4 i).2).2).1 (a4 (a4 (a4 (a4 i).2).2).2).1 (H2 (P:=λw=>AO E.aG _ (r+1) (f6 E.aG (r+1) (eO E) A w)) (a4 (a4 (a4 (a4 i).2).2).2).2) R
 |⟨_,_,_,_,_,[0]⟩,i=>bb (a4 (a4 i).2).1
 |⟨_,_,_,_,_,_::_::_⟩,i=>bb (a4 i).2
def MM(g:List d2):∀{f:gd}{b:List (Z0 O)},(∀s∈g,A2 E s=true)->nK f g.length->∃a,cS [25] (cA (cm sQ 5)) (g.map d2.v) ⟨lL (hv E (fH E X G d)) (.ah .T (ih E)) p,dQ f b⟩ .next ⟨lL (hv E (fH E X G d)) (.ah .T (ih E)) p,dQ (kE E (br E X G) p g f) a⟩:=by
 induction g with|nil=>exactλ_ _=>⟨_,dq⟩|cons s g S=>exactλi R=>(MK s (i s (.head _)) R).elim λl z=>z.elim λa z=>(S (λs m=>i s (.tail _ m)) z.2).elim λL y=>⟨L,cW rfl z.1 rfl y⟩
end
def wC(names:ZF)(O:ZK):ZE->ZE:=
 O.rec (λd=>d) λn _ S d=>match a3 names n with
  |some (.str s)=>S (cU d (.s s) (I n))
  |_=>S d
def Hl(names:ZF)(l:ZK):Bool:=l.all λn=>match a3 names n with
 |some (.str _)=>true
 |_=>false
def C.tv(j:C):ZF:=I j.aG::j7 [I (b1 j)] (j.R+1)
def C.mY(j:C):ZF:=I 2::U (j7 [I 3] j.k) (U (j7 [I 2] (j.R-j.k)) [I 1])
def C.nR(j:C):ZF:=j7 [I 0] (j.R+2)
def C.c0(j:C):ZE:=wC j.names (aB 0 j.aG) []
abbrev ur(E:C):ZD:=[(15,.ae E.names),(16,I E.aG),(17,.ae E.tv),(18,.ae E.mY),(19,.ae E.nR)]
abbrev qE(F:Z)(E:C)(P:ZD)(d:ZE):List (Z0 O):=[some (.ins 7 (U (ur E) P)),some (.ae [] 0),some (.ah .S d 0)]
abbrev Bk(F:Z)(E:C):ZD:=(6,.ref F.n)::ur E
def pW{d:ZE}{k:aE}{v:V}:Wx (cU d k v)<=Wx d+1:=by
 induction d with
 |nil=>exact Xe _
 |cons x r S=>
  induction x with
  |mk a g=>
  show Wx (match cJ a k with|true=>(a,v)::r|false=>(a,g)::cU r k v)<=Wx r+1+1
  generalize cJ a k=N;induction N with|true=>exact Xt _|false=>exact Xp S
def Ur{o:Z0 V}(z:(match o with|some (.str _)=>true|_=>false)=true):∃s,o=some (.str s):=by
 induction o with
 |none=>exact bb z
 |some v=>induction v using V.casesOn<;>first|exact⟨_,rfl⟩|exact bb z
def Ry(m:Nat):∀{i:Nat}{d:ZE},Hl a.names (aB i m)->i+m<=Wx a.names->Wx d+m<900->cS [22] (cA (cm Du 7)) ((aB i m).map I) ⟨Bk b a,W b (qE b a [(20,.ref (b.n+1)),(21,.ref (b.n+2))] d)⟩ .next ⟨Bk b a,W b (qE b a [(20,.ref (b.n+1)),(21,.ref (b.n+2))] (wC a.names (aB i m) d))⟩:=by
 induction m with
 |zero=>exactλ_ _ _=>dq
 |succ m S=>
  intro i d G A f;have G:((match a3 a.names i with|some (.str _)=>true|_=>false)&&Hl a.names (aB (i+1) m)):=G
  have g:i+1+m<=Wx a.names:=by rw[W9,Xa 1];exact A
  refine(?_:cS _ _ (I i::(aB (i+1) m).map I) _ _ ⟨_,W b (qE b a _ (match a3 a.names i with|some (.str s)=>wC a.names (aB (i+1) m) (cU d (.s s) (I i))|_=>wC a.names (aB (i+1) m) d))⟩)
  generalize X:a3 a.names i=o at G⊢;refine(Ur (a4 G).1).elim λs q=>?_;subst q;exact cW rfl (M (jy J (a9 J (fz 0 rfl rfl)) (bw J J (js (W4 (Xq (Xk m)) A) X)) (tB 2 rfl rfl (dW (W4 (hs f) (WY rfl))))) ba) rfl (S G g (W3 (W5 (Xl pW m) (Xu (by rw[W9,Xa 1]))) f))
def UO:aY .inl 7 [.ref b.n,.ae a.names,I a.aG,.ae a.tv,.ae a.mY,.ae a.nR] (W b [some (.ins 7 [])]) .none (W b (qE b a [(20,.ref (b.n+1)),(21,.ref (b.n+2))] a.c0)):=by
 have f:=Ry (b:=b) (a:=a) a.aG (i:=0) (d:=[]) (by induction a<;>rfl) (by induction a<;>exact WY rfl) (by induction a<;>exact WY rfl)
 rw[<-j5] at f;exact gO (G:=Bk b a) rfl rfl (M (fc J J (fa 0 rfl rfl)) (M (fc J J (fa 0 rfl rfl)) (M (fc J J (fa 0 rfl rfl)) (M (fc J J (fa 0 rfl rfl)) (M (fc J J (fa 0 rfl rfl)) (M (kH (P:=W b [some (.ins 7 (ur a)),some (.ae [] 0)]) (h7 du) J (fa 0 rfl rfl)) (M (kH (P:=W b (qE b a [(20,.ref (b.n+1))] [])) (mH oD) J (fa 0 rfl rfl)) (M (da (kI J (qO (lU (WY rfl)))) rfl f rfl) ba))))))))
def QQ(G:V):ZD:=[(33,G),(36,.ref 0),(37,.ref 1),(38,.ref 3),(39,.ref 4),(40,p1)]
def UP:aY .eg 7 [cv a L c d,.ref 0,.ref 1,.ref 2,.ref 3,.ref 4,p1] b (.ref b.n) (W b (qE b a ((20,.ref 2)::(21,.ref (b.n+2))::QQ (cv a L c d)) a.c0)):=by
 have g:=λh=>rj a L c d h;have D:bE (pE.body.take 3) ⟨[(6,.ref b.n),(33,cv a L c d),(36,.ref 0),(37,.ref 1),(20,.ref 2),(38,.ref 3),(39,.ref 4),(40,p1)],W b [some (.ins 7 [])]⟩ .next ⟨[(6,.ref b.n),(33,cv a L c d),(36,.ref 0),(37,.ref 1),(20,.ref 2),(38,.ref 3),(39,.ref 4),(40,p1),(17,.ae a.tv),(18,.ae a.mY),(19,.ae a.nR)],W b [some (.ins 7 [])]⟩:=fF 29 λ_=>by induction a<;>kernel_rfl
 generalize cv a L c d=G at g D⊢;exact yI rfl rfl rfl (gO (G:=[(6,.ref b.n),(33,G),(36,.ref 0),(37,.ref 1),(20,.ref 2),(38,.ref 3),(39,.ref 4),(40,p1),(17,.ae a.tv),(18,.ae a.mY),(19,.ae a.nR)]) rfl rfl (nJ 3 D (M (de (a:=.none) (L4 rfl (cw (i:=0) _ rfl) rfl (aI (a9 J (g _).2.2.2) (aI (a9 J (g _).2.2.1) (aI J (aI J (aq J))))) UO) rfl) (M (fc J J (fa 0 rfl rfl)) (M (fc J J (fa 0 rfl rfl)) (M (fc J J (fa 0 rfl rfl)) (M (fc J J (fa 0 rfl rfl)) (M (fc J J (fa 0 rfl rfl)) (M (fc J J (fa 0 rfl rfl)) (M (fc J J (fa 0 rfl rfl)) ba))))))))))
abbrev Lg(c:Nat×Nat×(Nat×Int)):V:=eJ c.1 c.2.1 c.2.2
def hY(l:ZF):Prop:=∃X:List (Nat×Nat×(Nat×Int)),l=X.map Lg
def hY.U(j:hY a')(o:hY c'):hY (U a' c'):=j.elim λu j=>o.elim λC o=>⟨Internal.U u C,by exact j▸o▸h3▸rfl⟩
def hY.jx(j:List (Nat×Int)):hY (j.map (eJ a' c')):=⟨j.map λo=>(a',c',o),by rw[Yt];rfl⟩
def tF{l:List α}(h:∀x,g (f x)=some (f x)):f3 g (l.map f)=some (l.map f):=by
 induction l with|nil=>rfl|cons x r S=>exact a6 (h x) (a6 S rfl)
def CP(g:List d2):∀{f:gd},hY f.eA->hY f.fP->hY (kE d c short g f).eA/\hY (kE d c short g f).fP:=by
 induction g with
 |nil=>exactλa b=>⟨a,b⟩
 |cons s r S=>
  intro f a b;have z:hY (kb d c short f s).eA/\hY (kb d c short f s).fP:=match s with
   |⟨_,_,_,_,_,[]⟩=>⟨a.U ⟨[],rfl⟩,b.U ⟨[],rfl⟩⟩
   |⟨_,_,_,_,_,_::_⟩=>⟨a.U (.jx _),b.U (.jx _)⟩
  exact S z.1 z.2
noncomputable def mL:gd:=⟨[],[],[],[],[]⟩
def fL(E:C)(W:Nat->Nat->b')(p:Bool):gd:=kE E W p E.dT mL
def gp(E:C)(G:V)(f:gd):V:=.ins 7 false (U (ur E) [(20,.ae (f.d7.map I)),(21,.ah .S E.c0),(33,G),(36,.ae (f.gZ.map λr=>.ae (r.map .int))),(37,.ae (f.gt.map λg=>.ah .I (D g))),(38,.ae f.eA),(39,.ae f.fP),(40,p1)])
def Cy(h:hY l):dR (cg (f+3)) l:=h.elim λX e=>e▸jM λ_=>rfl
def yP(h:hG (cg f) l):cg (f+1) (.ins c r l):=h
def vb(E:C)(f:Nat):hG (cg (f+3)) (ur E)/\cg (f+3) (.ah .S E.c0)/\cg (f+5) (.ae (E.dT.map d2.v))/\cg (f+3) (.ah .T (ih E)):=by induction E<;>exact⟨by kernel_rfl,rfl,rfl,rfl⟩
def CB(c:hY f.eA)(s:hY f.fP)(v:cg (B+6) G):cg (B+7) (gp a G f):=
 yP (BW (vb a (B+3)).1 (iS (hn (jM λ_=>rfl)) (iS (vb a (B+3)).2.1 (iS v (iS (hn (jM λr=>hn ((jM λ_=>rfl)))) (iS (hn (jM λg=>u' ((yn λ_=>rfl)))) (iS (hn (Cy c)) (iS (hn (Cy s)) (iS rfl rfl)))))))))
def ov(a:g x=some y)(b:gi g r=some t):gi g ((k,x)::r)=some ((k,y)::t):=a6 a (a6 b rfl)
def Qu(e:gi g a=some a)(h:gi g b=some d):gi g (U a b)=some (U a d):=by
 induction b with|nil=>exact(WZ h)▸eI▸e|cons x b=>exact(jP h).elim λv z=>(jP z.2).elim λl y=>WZ y.2▸FJ e z.1 y.1
def HT(x:hY l):f3 (ct (k+1) h) l=some l:=x.elim λX e=>e▸tF λ_=>rfl
def yQ(v:cg (B+6) G):cg (B+7) (hv a G):=yP (iS v (iS (vb a (B+1)).2.2.1 rfl))
def Pg:aY .pure 33 [hv a (fH a b G d),.ah .T (ih a),.bool short] h (gp a (fH a b G d) (fL a (br a b G) short)) h:=by
 have z:=CP (d:=a) (c:=br a b G) (short:=short) a.dT (f:=mL) ⟨[],rfl⟩ ⟨[],rfl⟩;refine(MM (X:=b) (G:=G) (d:=d) (p:=short) a.dT (f:=mL) (b:=[]) (Xb.mp (Tu a)) (by induction a<;>exact⟨WY rfl,WY rfl,WY rfl,WY rfl,WY rfl⟩)).elim λD k=>?_
 have N:dR (cg 60) [hv a (fH a b G d),.ah .T (ih a),.bool short]:=cf (yQ lF) (cf (vb a 57).2.2.2 rfl);refine ks N rfl rfl rfl (nJ 5 (b:=⟨lL (hv a (fH a b G d)) (.ah .T (ih a)) short,dQ mL []⟩) (fF 19 λ_=>rfl) (M (da (c8 (a9 J rfl) rfl) rfl k rfl) (bG (cb (iC (aI (a9 J rfl) (aI J (aI J (aI J (aI J (aI J (aq J))))))) UP))))) ((HU (cw (i:=0) _ rfl) (Qu (rfl:_=_) (ov (qu (gH 2 rfl) (tF λ_=>rfl)) (ov (BD (cw (i:=2) _ rfl) (by induction a<;>kernel_rfl)) (ov ?_ (ov (qu (gH 0 rfl) (tF λ_=>rfl)) (ov (qu (gH 1 rfl) (tF λ_=>rfl)) (ov (qu (gH 3 rfl) (HT z.1)) (ov (qu (gH 4 rfl) (HT z.2)) (ov rfl rfl))))))))))) (CB z.1 z.2 lF)
 induction a<;>rfl
def C.fx(j:C)(o:Nat):Nat:=match Nat.blt o j.k with
 |true=>4+2*(j.R-j.k)+j.k+o
 |false=>4
def C.go(o:C)(j:Nat):Nat:=4+2*(o.R-o.k)+j
def C.wO(j:C)(o:Nat):ZF:=(qh (Nat.beq o j.k) (b1 j) (4+j.bC o)).map I
def Gd(E:C)(L:Nat->Int)(K:ZE)(d:Int)(h:Z)(n:Nat):gI (λB=>(eH (n+20)).c .inl 91 [cv E L K d,dH E B] h=some (I (4+B),h)) (aB 0 E.aD)/\(eH (n+20)).c .inl 91 [cv E L K d,.str Z1] h=some (I (b1 E),h):=by induction E<;>(repeat' apply And.intro)<;>first|exact trivial|kernel_rfl
def V3(E:C)(G:V)(h:Z)(n:Nat):gI (λi=>(eH (n+30)).c .inl 112 [hv E G,I 0,.ae (E.wO i)] h=some (I (E.fx i),h)) (aB 0 E.R):=by induction E<;>(repeat' apply And.intro)<;>first|exact trivial|kernel_rfl
def Nx(E:C)(G:V)(h:Z)(n:Nat):gI (λi=>gI (λB=>(eH (n+30)).c .inl 111 [hv E G,I (E.fx i),I (4+B)] h=some (I (E.go B),h)) (aB 0 E.k)) (aB 0 E.R):=by induction E<;>(repeat' apply And.intro)<;>first|exact trivial|kernel_rfl
def zu(E:C)(L:Nat->Int)(K:ZE)(d:Int)(h:Z):ku (cv E L K d) h=some 18/\bM h (cv E L K d) 22=none:=by induction E<;>exact⟨rfl,rfl⟩
def pB(tH:ht m=22)(F:Nat.ble (dE.kZ 91) (rv m))(e:au A 33=some (cv c L b d))(i:ao a ⟨A,h⟩ g h)(q:aY .inl 91 [cv c L b d,g] h (I f) h):ao (.aC (.F 33) m [a]) ⟨A,h⟩ (I f) h:=
 fJ (J e) (zu c L b d h).1 (by rw[tH];exact(zu c L b d h).2) rfl (by rw[tH];rfl) F (aq i) q
def u2(P:B<a.aD):aY .inl 91 [cv a L b d,dH a B] h (I (4+B)) h:=ft 20 λn=>(Gd a L b d h n).1.lt P
def yJ:aY .inl 91 [cv a L b d,.str Z1] h (I (b1 a)) h:=ft 20 λn=>(Gd a L b d h n).2
def Kg(A:i<a.R):aY .inl 112 [hv a G,I 0,.ae (a.wO i)] h (I (a.fx i)) h:=ft 30 λn=>(V3 a G h n).lt A
def Ke(A:i<a.R)(P:B<a.k):aY .inl 111 [hv a G,I (a.fx i),I (4+B)] h (I (a.go B)) h:=ft 30 λn=>((Nx a G h n).lt A).lt P
def jv(E:C):E.k<=E.aD/\E.k<=E.R/\E.R<=4/\E.k<=3:=by induction E<;>exact⟨WY rfl,WY rfl,WY rfl,WY rfl⟩
structure b8 where
 s:Nat
 t:Nat
 r:Nat
 c:Int
def b8.v(j:b8):V:=.ay [I j.s,I j.t,nA,.ay [I j.r],.int j.c]
def b8.jS(j:b8):V:=eJ j.s j.r (j.t,j.c)
noncomputable def oh:b'->Bool
 |.dI=>true
 |_=>false
def sl(E:C)(i j:Nat):b'->Int
 |.gY=>-(.ofNat (i+1))
 |.iy=>lj
 |_=>.ofNat (E.go j)
def q7(E:C)(W:Nat->Nat->b')(c:Nat×Nat):b8:=⟨E.fx c.1,4+c.2,c.1+1,sl E c.1 c.2 (W c.1 c.2)⟩
def f7(E:C)(W:Nat->Nat->b')(b:Bool)(X:ZH):List b8:=(X.filter λc=>hI (oh (W c.1 c.2)) b).map (q7 E W)
abbrev j'(E:C)(W:Nat->Nat->b')(b:Bool)(X:ZH):ZF:=(f7 E W b X).map b8.v
def qm:f7 c a b (U x y)=U (f7 c a b x) (f7 c a b y):=by unfold f7;rw[cQ,cQ,List.filter_append,Yw]
def GX:j' c a b (U x y)=U (j' c a b x) (j' c a b y):=by rw[j',qm,<-h3]
def GZ:Wx (f7 c a b x)<=Wx x:=by unfold f7;rw[c9,c5,c5];exact List.length_filter_le _ _
def j8(i:Nat)(l:ZK):ZH:=l.map λj=>(i,j)
def WD(E:C)(O:ZK):ZH:=
 O.rec [] λi _ S=>U (j8 i (aB 0 E.k)) S
def eo(E:C)(K:Nat->Nat->b')(X:ZH)(J:List (Z0 O)):Z:=W Z.bj (some (.ae (j' E K false X) 0)::some (.ae (j' E K true X) 0)::J)
abbrev CS:S:=(cA (cm ra 1)).getLastD .eF
abbrev kA(E:C)(O:ZK)(G:List dD)(k g K:Nat)(d:Int):ZD:=[(170,bN E O G k g K),(33,fH E O G d),(176,hv E (fH E O G d)),(175,.ae [.ref 0,.ref 1])]
abbrev ve(E:C)(O:ZK)(G:List dD)(k g K:Nat)(d:Int)(i:Nat)(H:ZF):ZD:=U (kA E O G k g K d) [(7,I i),(24,e6 E O i),(173,.ae H),(138,I (E.fx i))]
def mD(i:Nat):ZE:=[(.s Z4,.int (0-(Int.ofNat i+1))),(.s Z',.int lj)]
def LB:gC .S (mD i) [hV w,I (a.go B)]=some (.int (sl a i B w)):=by
 induction w with|gY=>exact W0 (λz=>some (V.int z)) (Int.zero_sub _)|_=>rfl
noncomputable def JI:Bool->Nat
 |true=>1
 |false=>0
def LR(n:oh (br a c G i B)=b)(m:Wx X<900)(k:au A 175=some (.ae [.ref 0,.ref 1]))(K:ao h ⟨A,eo a (br a c G) X d⟩ (I (JI b)) (eo a (br a c G) X d))(y:ao e ⟨A,eo a (br a c G) X d⟩ (q7 a (br a c G) (i,B)).v (eo a (br a c G) X d)):
  cF (.expr (.aC (.sub (.F 175) h) 12288 [e])) ⟨A,eo a (br a c G) X d⟩ .next ⟨A,eo a (br a c G) (U X [(i,B)]) d⟩:=by
 have f:∀b,eC (j' a (br a c G) b X):=λb=>dW (by rw[j',c9];exact W3 GZ (W4 m (WY rfl)))
 have l:∀R,j' a (br a c G) R [(i,B)]=match hI b R with|true=>[(q7 a (br a c G) (i,B)).v]|false=>[]:=λR=>by unfold j' f7;rw[X8];dsimp only;rw[n];induction b<;>induction R<;>rfl
 have v:∀(p:Nat){L w:List (Z0 O)}{j:ZF},a3 L p=some (some (.ae j 0))->eC j->dU L p (some (.ae (U j [(q7 a (br a c G) (i,B)).v]) 0))=w->iH gx (.ref p) (ht 12288) [(q7 a (br a c G) (i,B)).v] (W Z.bj L)=some (.none,W Z.bj w):=λp{L w j} e f z=>by have g:=cw (a:=Z.bj) L e;have s:=gT (a:=Z.bj) (x:=some (.ae (U j [(q7 a (br a c G) (i,B)).v]) 0)) L e;rw[show Z.bj.n+p=p from W7 p] at g s;exact(hu g f).trans (by rw[s,z])
 unfold eo at*;rw[GX,GX,l,l];induction b with|true=>exact de (fY (bw (J k) K rfl) (cw (i:=1) _ rfl) (aq y) (cw (a:=Z.bj) (i:=1) _ rfl) (v 1 rfl (f true) (by rw[show hI true false=false from rfl,eI];rfl))) rfl|false=>exact de (a:=.none) (fY (bw (J k) K rfl) (cw (a:=Z.bj) (i:=0) _ rfl) (aq y) (cw (a:=Z.bj) (i:=0) _ rfl) (v 0 rfl (f false) (by rw[show hI false true=false from rfl,eI];rfl))) rfl
def LW(V:b.length=a.eD.length)(s:d1 a.aD G)(A:i<a.R)(P:B<a.k)(n:Wx X<900):∃l d,bE (cA CS) ⟨U (ve a b G f g m e i H) [(166,dH a B)],eo a (br a b G) X c⟩ .next ⟨U (ve a b G f g m e i H) ((166,dH a B)::l),eo a (br a b G) (U X [(i,B)]) d⟩:=by have j:=W4 P (jv a).1;refine⟨[(30,hV (br a b G i B)),(22,I (4+B)),(32,.int (sl a i B (br a b G i B)))],U c [some (.ah .S (mD i) 0)],?_⟩;refine M (GW (d8 (aI (c7 (aI J (aI J (aq J))) (BI V s A j)) (aq (pB rfl rfl rfl J (u2 j))))) rfl) ?_;have k:(eo a (br a b G) X c).new (.ah .S (mD i) 0)=eo a (br a b G) X (U c [some (.ah .S (mD i) 0)]):=(rk (B:=[some (.ah .S (mD i) 0)]) _);have x:(eo a (br a b G) X (U c [some (.ah .S (mD i) 0)])).get (eo a (br a b G) X c).n=some (.ah .S (mD i) 0):=k▸cw (a:=eo a (br a b G) X c) (i:=0) [some (.ah .S (mD i) 0)] rfl;refine M (cI (q9 (k▸mH ⟨9,λ_=>rfl⟩) x (aI J (aq (fJ J rfl rfl rfl rfl rfl (aI J (aq J)) (Ke A P)))) x (tE x LB))) ?_;generalize U c [some (.ah .S (mD i) 0)]=d;refine M (LR rfl n rfl ?_ (d8 (aI J (aI J (aI u (aI (d8 (aq (cV J u rfl))) (aq J))))))) ba;generalize eo a (br a b G) X d=h;cases br a b G i B<;>exact eM 9 λ_=>rfl
def LV(V:d.length=b.eD.length)(s:d1 b.aD G)(A:i<b.R)(m:Nat):∀{B:Nat}{X:ZH}{c:List (Z0 O)},B+m=b.k->Wx X+m<900->∃f,cS [166] (cA CS) ((aB B m).map (dH b)) ⟨ve b d G h p q g i H,eo b (br b d G) X c⟩ .next ⟨ve b d G h p q g i H,eo b (br b d G) (U X (j8 i (aB B m))) f⟩:=by
 induction m with
 |zero=>exactλ{B X c} _ _=>⟨c,by rw[show j8 i (aB B 0)=[] from rfl,eI];exact dq⟩
 |succ m S=>
  intro B X c e l;refine(LW V s A (e▸Xq (Xk m)) (hs l)).elim λa z=>z.elim λj z=>(S (B:=B+1) (X:=U X [(i,B)]) (c:=j) (by rw[<-e,W9,Xa 1]) (lz l)).elim λL y=>⟨L,cW rfl z rfl ?_⟩
  rw[eL] at y;exact y
def LU(V:b.length=a.eD.length)(s:d1 a.aD G)(A:i<a.R)(k:Wx X+a.k<900):∃l h,bE (cA (cm ra 1)) ⟨U (kA a b G c g e d) [(7,I i),(24,e6 a b i)],eo a (br a b G) X f⟩ .next ⟨U (kA a b G c g e d) ((7,I i)::(24,e6 a b i)::l),eo a (br a b G) (U X (j8 i (aB 0 a.k))) h⟩:=by
 have v:∀{H},cF ((cA (cm ra 1)).headD .eF) ⟨U (kA a b G c g e d) [(7,I i),(24,e6 a b i)],eo a (br a b G) X f⟩ .next ⟨U (kA a b G c g e d) [(7,I i),(24,e6 a b i),(173,.ae H)],eo a (br a b G) X f⟩->ao (.comp false (.aC (.F 33) 12310 [.F 174]) [174] (.e (.F 173)) none) ⟨U (kA a b G c g e d) [(7,I i),(24,e6 a b i),(173,.ae H)],eo a (br a b G) X f⟩ (.ae (a.wO i)) (eo a (br a b G) X f)->∃l h,bE (cA (cm ra 1)) ⟨U (kA a b G c g e d) [(7,I i),(24,e6 a b i)],eo a (br a b G) X f⟩ .next ⟨U (kA a b G c g e d) ((7,I i)::(24,e6 a b i)::l),eo a (br a b G) (U X (j8 i (aB 0 a.k))) h⟩:=λ{H} B O=>(LV V s A a.k (W7 _) k).elim λh y=>⟨_,h,M B (M (dk (fJ J rfl rfl rfl rfl rfl (aI u (aq O)) (Kg A))) (M (da (c8 (bw (J rfl) u rfl) (W0 some (A8 a))) rfl y rfl) ba))⟩
 have T:=pV (p:=0) A;unfold C.wO e6 at v;unfold e6;generalize j:Nat.beq i a.k=N;induction N with|true=>rw[j] at v;exact v (dk (lH (bw J u rfl) rfl (fu (aI (bw J u rfl) (aq u))))) (h5 (c8 J rfl) rfl rfl (fZ rfl (pB rfl rfl rfl J (u2 T)) (fZ rfl (pB rfl rfl rfl J yJ) gF)) rfl)|false=>rw[j] at v;exact v (dk (jT (bw J u rfl) rfl (fu (aI u (aI (bw J u rfl) (aq u)))))) (h5 (c8 J rfl) rfl rfl (fZ rfl (pB rfl rfl rfl J yJ) (fZ rfl (pB rfl rfl rfl J (u2 T)) (fZ rfl (pB rfl rfl rfl J yJ) gF))) rfl)
def CH(r:ZK)(i j:Nat):Z0 Bool:=Y (a3 r i) λp=>Y (a3 r j) λq=>match Nat.blt p q with
 |true=>some true
 |false=>match Nat.blt q p with
  |true=>some false
  |false=>none
def wU(r:ZK)(O:ZK):Z0 ZK:=
 O.rec (some []) λi l S=>Y (a3 r i) λx=>Y S λl=>some (x::l)
def yN(n:Nat)(r:ZK):Bool:=match kN (CH r) (PySem.W.kas_sort (Wx r))with
 |some p=>match wU r p.toList with
  |some l=>oj l (aB 0 n)
  |none=>false
 |none=>false
def w5(a b:Nat):ZK:=U (aB b a) (aB 0 b)
def KH:((aB 0 13).all λa=>(aB 0 4).all λb=>yN (a+b) (w5 a b)):=rfl
def Pq:∀{b:ZK},oj a b->a=b:=by
 induction a with
 |nil=>exactλ{b} h=>by induction b with
  |nil=>rfl
  |cons=>exact bb h
 |cons x a S=>exactλ{b} h=>by induction b with
  |nil=>exact bb h
  |cons y b=>
   have h:(match Nat.beq x y with|true=>oj a b|false=>false)=true:=h
   generalize G:Nat.beq x y=N;induction N with|true=>rw[G] at h;exact(W2 G)▸(S h)▸rfl|false=>rw[G] at h;exact bb h
def O0(h:∀i B b,c i B=some b->d i B=some b)(t:PySem.W.KasT α):∀{r:α},kN c t=some r->kN d t=some r:=by
 induction t with
 |ret a=>exact id
 |ask i B k S=>
  intro r e;unfold kN at e⊢;generalize L:c i B=N;induction N with|none=>rw[L] at e;exact cB e|some b=>rw[L] at e;exact(h i B b L)▸S b e
def R7:∀{m:ZK},wU r l=some m->t5 (r.map f) l=some (m.map f):=by
 induction l with|nil=>exactλh=>W0 (λl=>some (List.map f l)) (WZ h)|cons i l S=>exactλ{m} h=>(jP h).elim λx z=>(jP z.2).elim λG y=>WZ y.2▸a6 (kV r▸W0 (Option.map f) z.1) (a6 (S y.1) rfl)
section
variable{S:Nat->V}{n:Nat}
def T4(d:∀p q,p<q->q<n->oS (S p) (S q)=some true/\oS (S q) (S p)=some false)(F:∀p∈r,p<n)(c:yN n r):Y (kN (λi B=>Y (a3 (r.map S) i) λx=>Y (a3 (r.map S) B) λy=>oS x y) (PySem.W.kas_sort (Wx (r.map S)))) (λp=>t5 (r.map S) p.toList)=some ((aB 0 n).map S):=by
 unfold yN at c;rw[c9];generalize PySem.W.kas_sort (Wx r)=t at c⊢;generalize R:kN (CH r) t=N;induction N with
 |none=>rw[R] at c;exact bb c
 |some p=>
  rw[R] at c;refine a6 (O0 (λi B b e=>?_) t R) ?_
  .refine(jP e).elim λx z=>(jP z.2).elim λy w=>a6 ((kV r).trans (W0 _ z.1)) (a6 ((kV r).trans (W0 _ w.1)) ?_)
   have L:=F y (rE r w.1);have w:=w.2;generalize O:Nat.blt x y=N;induction N with
   |true=>rw[O] at w;exact WZ w▸(d x y (dZ O) L).1
   |false=>
    rw[O] at w;generalize g:Nat.blt y x=N;induction N with|true=>rw[g] at w;exact WZ w▸(d y x (dZ g) (F x (rE r z.1))).2|false=>rw[g] at w;exact cB w
  .have c:(match wU r p.toList with|some l=>oj l (aB 0 n)|none=>false)=true:=c
   generalize V:wU r p.toList=N;induction N with|none=>rw[V] at c;exact bb c|some l=>rw[V] at c;exact Pq c▸R7 V
end
def b8.lt(j o:b8):Prop:=j.s<o.s\/(j.s=o.s/\j.t<o.t)
def lC(h:b<=a):Nat.blt a b=false:=XO.mpr λz=>X9 h (dZ z)
def ee(h:a≠b):Nat.beq a b=false:=XO.mpr λz=>h (W2 z)
def HX{x y:b8}:oS x.v y.v=match Nat.beq x.s y.s with
 |true=>match Nat.beq x.t y.t with
  |true=>qw qv [nA,.ay [I x.r],.int x.c] [nA,.ay [I y.r],.int y.c]
  |false=>some (Nat.blt x.t y.t)
 |false=>some (Nat.blt x.s y.s):=by
 show(match some (Nat.beq x.s y.s)with|some true=>qw qv [I x.t,nA,.ay [I x.r],.int x.c] [I y.t,nA,.ay [I y.r],.int y.c]|some false=>some (Nat.blt x.s y.s)|none=>none)=_
 generalize Nat.beq x.s y.s=N;induction N with
 |false=>rfl
 |true=>
  show(match some (Nat.beq x.t y.t)with|some true=>qw qv [nA,.ay [I x.r],.int x.c] [nA,.ay [I y.r],.int y.c]|some false=>some (Nat.blt x.t y.t)|none=>none)=_
  cases Nat.beq x.t y.t<;>rfl
def VF{x y:b8}(h:x.lt y):oS x.v y.v=some true/\oS y.v x.v=some false:=by
 rw[HX,HX];refine h.elim (λz=>?_) λz=>?_
 .rw[ee (Xi z),ee (XK z)]
  exact⟨W0 some (dF z),W0 some (lC (Xw z))⟩
 .rw[z.1,Xn,ee (Xi z.2),ee (XK z.2)]
  exact⟨W0 some (dF z.2),W0 some (lC (Xw z.2))⟩
def oQ(l:List b8)(p:Nat):b8:=match a3 l p with
 |some x=>x
 |none=>⟨0,0,0,0⟩
def Bp(M:List b8):∀{A B:List b8},(aB A.length M.length).map (oQ (A++(M++B)))=M:=by
 induction M with
 |nil=>exactλ{_ _}=>rfl
 |cons x M S=>
  intro A B;have e:∀A:List b8,oQ (A++(x::M++B)) A.length=x:=λA=>by
   induction A with|nil=>rfl|cons y A S=>exact S
  have z:=S (A:=A++[x]) (B:=B);rw[X4,W8] at z;exact(W0 (·::_) (e A)).trans (W0 (x::·) z)
def UZ(h:l.Pairwise b8.lt):∀{p q:Nat},p<q->q<l.length->(oQ l p).lt (oQ l q):=by
 induction h with
 |nil=>exactλ_ h=>nomatch h
 |cons a h S=>
  intro p q V I;induction q with
  |zero=>nomatch V
  |succ q=>
   induction p with|zero=>have I:=Ya I;refine(m7 _ (c5▸I:q<Wx _)).elim λy e=>?_;refine(?_:b8.lt _ (oQ _ q));unfold oQ;exact e▸a y (rE _ e)|succ p=>exact S (Ya V) (Ya I)
def Jt(h:A++B=[x]):B++A=[x]:=by
 induction A with
 |nil=>exact(XB B).trans h
 |cons y r=>
  have z:=XQ h;have w:=List.append_eq_nil_iff.mp z.2;refine w.1▸w.2▸z.1▸?_
  rfl
def Hb{A B:List b8}(i:(B++A).Pairwise b8.lt)(E:A.length<13)(G:B.length<4):nB ((A++B).map b8.v) false h=some (.ae ((B++A).map b8.v),h):=by
 have V:(A++B).map b8.v=(w5 A.length B.length).map λp=>(oQ (B++A) p).v:=by unfold w5;have a:=Bp A (A:=B) (B:=[]);rw[XB] at a;rw[cQ,Yw,Yw];exact congr (W0 _ (W0 (List.map b8.v) a.symm|>.trans Yt)) ((W0 (List.map b8.v) (Bp B (A:=[]) (B:=A)).symm).trans Yt)
 have c:(B++A).map b8.v=(aB 0 (A.length+B.length)).map λp=>(oQ (B++A) p).v:=by have a:=Bp (B++A) (A:=[]) (B:=[]);rw[XB,W8,Xa] at a;exact(W0 (List.map b8.v) a.symm).trans Yt
 have F:=T4 (λp q h k=>VF (UZ i h (by rw[W8,Xa];exact k))) (λp m=>by unfold w5 at m;rw[cQ] at m;exact(XF.mp m).elim (λz=>Xa _ _▸(g8 _ z).2) λz=>W4 (g8 _ z).2 (by rw[W7];exact X7 _ _)) (Xb.mp (Xb.mp KH _ (gG _ (Xj _) E)) _ (gG _ (Xj _) G))
 rw[<-V,<-c] at F;have f:(A++B).length<17:=by rw[W8];exact YR E (Xw G)
 have S:(B++A).length<17:=by rw[W8,Xa,<-W8];exact f
 generalize W:A++B=L at F f⊢;unfold nB;rw[show Nat.blt (Wx (L.map b8.v)) 64=true from dF (by rw[c9,c5];exact W4 f (WY rfl))]
 induction L with
 |nil=>
  have z:=List.append_eq_nil_iff.mp W;rw[z.1,z.2]
  rfl
 |cons x L=>
  have b:(List.map b8.v (x::L)).all te:=Xb.mpr λy m=>(Xz.mp m).elim λz e=>e.2▸rfl;have v:Bd (List.map b8.v (x::L))=some ((B++A).map b8.v):=by
   induction L with|cons y L=>exact F|nil=>exact W0 (λl=>some (List.map b8.v l)) (Jt W).symm
  exact fN rfl (fN b (a6 v (fN (dW (by rw[c9,c5];exact W4 S (WY rfl))) rfl)))
def Kl(E:C)(c d:Nat×Nat):Bool:=aai (Nat.blt (E.fx c.1) (E.fx d.1)||(Nat.beq (E.fx c.1) (E.fx d.1)&&Nat.blt c.2 d.2))
def Hh(E:C)(O:ZH):Bool:=
 O.rec true λc r S=>r.all (Kl E c)&&S
def C.sg(j:C):ZH:=U (WD j (aB j.k (j.R-j.k))) (WD j (aB 0 j.k))
abbrev gc(E:C)(W:Nat->Nat->b')(b:Bool):List b8:=f7 E W b E.sg
def Tv(h:Hh a X):(f7 a e b X).Pairwise b8.lt:=by
 refine List.Pairwise.map _ (λ_ _ z=>z) (List.Pairwise.filter _ ?_);induction X with|nil=>exact .nil|cons c r S=>exact .cons (λd m=>(X0.mp (Xb.mp (a4 h).1 d m)).imp dZ λz=>⟨W2 (a4 z).1,Yg (dZ (a4 z).2) 4⟩) (S (a4 h).2)
def qT(E:C):Hh E E.sg/\Wx E.sg<13/\Wx (WD E (aB 0 E.k))<13/\Wx (WD E (aB E.k (E.R-E.k)))<4/\WD E (aB 0 E.R)=U (WD E (aB 0 E.k)) (WD E (aB E.k (E.R-E.k))):=by induction E<;>exact⟨by kernel_rfl,WY rfl,WY rfl,WY rfl,rfl⟩
def ug(h:Wx X<a):(f7 d c b X).length<a:=by exact c5▸W3 GZ h
def Hs:(gc a c b).Pairwise b8.lt:=Tv (qT a).1
def C5:nB (j' a c b (WD a (aB 0 a.R))) false h=some (.ae ((gc a c b).map b8.v),h):=by have z:=qT a;have s:=Hs (a:=a) (c:=c) (b:=b);rw[j',z.2.2.2.2,qm,cQ];unfold gc C.sg at*;rw[qm,cQ] at s⊢;exact Hb s (ug z.2.2.1) (ug z.2.2.2.1)
def Ue:nB ((gc a c b).map b8.v) false h=some (.ae ((gc a c b).map b8.v),h):=by have z:=Hb (A:=gc a c b) (B:=[]) (h:=h) Hs (ug (qT a).2.1) (Xk 3);rw[XB] at z;exact z
def LS(V:c.length=b.eD.length)(s:d1 b.aD G)(m:Nat):∀{i:Nat}{X:ZH}{d:List (Z0 O)},i+m=b.R->Wx X+4*m<800->∃f,cS [7,24] (cA (cm ra 1)) (mK ((aB i m).map (e6 b c)) (.ofNat i)) ⟨kA b c G h p q g,eo b (br b c G) X d⟩ .next ⟨kA b c G h p q g,eo b (br b c G) (U X (WD b (aB i m))) f⟩:=by
 induction m with
 |zero=>exactλ{i X d} _ _=>⟨d,by rw[show WD b (aB i 0)=[] from rfl,eI];exact dq⟩
 |succ m S=>
  intro i X d e l;have k:Wx X+b.k<900:=W3 (Xg (W5 (jv b).2.2.2 (WY rfl:3<=4)) _) (W3 (Xg (Nat.le_mul_of_pos_right 4 (Xk m)) _) (W4 l (WY rfl)));have n:Wx (U X (j8 i (aB 0 b.k)))+4*m<800:=by rw[iF,W9];refine W3 (Xg ?_ _) l;rw[Yz,Xa];exact Xg (by unfold j8;rw[c9,c5,oR];exact W5 (jv b).2.2.2 (WY rfl)) _
  refine(LU V s (e▸Xq (Xk m)) k).elim λa z=>z.elim λj z=>(S (i:=i+1) (d:=j) (by rw[<-e,W9,Xa 1]) n).elim λL y=>⟨L,cW rfl z rfl ?_⟩
  have y:=eL▸y;exact y
def Hd(e:h.get p=some (.ae a l))(g:nB a false h=some r):WJ false .sorted [.ref p] h=some r:=a6 rfl (a6 (px e) g)
def CD{l:List b8}:cg (f+4) (.ae (l.map b8.v)):=hn (jM λ_=>rfl)
def Pd(i:b.length=a.eD.length)(s:d1 a.aD G):aY .pure 130 [bN a b G c g e,fH a b G d,hv a (fH a b G d)] h (.ae [.ae ((gc a (br a b G) false).map b8.v),.ae ((gc a (br a b G) true).map b8.v)]) h:=by
 refine(LS (h:=c) (p:=g) (q:=e) (g:=d) (d:=[]) (X:=[]) i s a.R (i:=0) (W7 _) (W3 (W5 (Xu (W7 _)) (XE 4 (jv a).2.2.1)) (WY rfl))).elim λD f=>?_;have f:=(ni i)▸f;have j:∀{L:ZD},eV [162] (.bq false .sorted [(.F 162)]) none (kA a b G c g e d) [.ref 0,.ref 1] (eo a (br a b G) (WD a (aB 0 a.R)) D) [.ae ((gc a (br a b G) false).map b8.v),.ae ((gc a (br a b G) true).map b8.v)] (eo a (br a b G) (WD a (aB 0 a.R)) D):=λ{L}=>fZ rfl (d4 (aq J) (Hd (cw (a:=Z.bj) (i:=0) _ rfl) C5)) (fZ rfl (d4 (aq J) (Hd (cw (a:=Z.bj) (i:=1) _ rfl) C5)) gF)
 exact ks (cf (vc i) (cf lF (cf (yQ lF) rfl))) rfl rfl rfl (M (cI (P:=eo a (br a b G) [] []) (fu (n8 (P:=W Z.bj [some (.ae [] 0)]) (h7 du) (aq (h7 du))))) (M (da (EE (bw J u rfl) rfl) rfl f rfl) (bG (cb (h5 (c8 J rfl) rfl rfl (j (L:=[])) rfl))))) rfl (hn (cf CD (cf CD rfl)))
noncomputable def qY:List (Nat×Int)->List (Nat×Int)->Bool
 |[],[]=>true
 |a::r,b::s=>Nat.beq a.1 b.1&&(dr a.2 b.2&&qY r s)
 |_,_=>false
def vd:∀{b:List (Nat×Int)},qY a b->a=b:=by
 induction a with
 |nil=>exactλ{b} h=>by induction b with
  |nil=>rfl
  |cons=>exact bb h
 |cons x a S=>exactλ{b} h=>by induction b with|nil=>exact bb h|cons y b=>exact congr (W0 List.cons (Prod.ext (W2 (a4 h).1) (pN.mp (a4 (a4 h).2).1))) (S (a4 (a4 h).2).2)
def vn(E:C)(i:Nat)(w:Nat->b')(b:Bool)(l:ZK):List (Nat×Int):=(l.filter λj=>hI (oh (w (4+j))) b).map λj=>(4+j,sl E i j (w (4+j)))
def sk(E:C)(s:d2):Bool:=match s.i3 with
 |[]=>true
 |r::_=>match Nat.beq r (E.R+1)with
  |true=>qY (f6 E.aG r (eO E) s.eP (hO .dI .dI .dI)).dS []&&qY (qU E.aG s.q r (f6 E.aG r (eO E) s.eP (hO .dI .dI .dI))) []
  |false=>Nat.beq s.q (E.fx (r-1))&&(Nat.beq r (r-1+1)&&jk λa=>jk λb=>jk λc=>qY (f6 E.aG r (eO E) s.eP (hO a b c)).dS (vn E (r-1) (hO a b c) false (aB 0 E.k))&&qY (qU E.aG s.q r (f6 E.aG r (eO E) s.eP (hO a b c))) (vn E (r-1) (hO a b c) true (aB 0 E.k)))
def Kq(E:C):E.dT.all (sk E):=by induction E<;>kernel_rfl
def sh(E:C)(s:d2):ZH:=match s.i3 with
 |[]=>[]
 |r::_=>match Nat.beq r (E.R+1)with
  |true=>[]
  |false=>j8 (r-1) (aB 0 E.k)
def u1(E:C)(O:List d2):ZH:=
 O.rec [] λs _ S=>U (sh E s) S
section
variable{E:C}{X:Nat->Nat->b'}{b p:Bool}
def GY(I:q=E.fx i)(F:r=i+1):(∀B∈l,X i B=w (4+B))->(vn E i w b l).map (eJ q r)=(f7 E X b (j8 i l)).map b8.jS:=by
 subst I F;induction l with
 |nil=>exactλ_=>rfl
 |cons B l S=>
  intro k;have z:=S λB m=>k B (.tail _ m);unfold vn f7 j8 at z⊢;rw[XD,X8,X8,<-k B (.head _)];dsimp only;generalize hI (oh (X i B)) b=N;induction N with|true=>exact congr (W0 List.cons (W0 (λy=>eJ (E.fx i) (i+1) (4+B,sl E i B y)) (k B (.head _)).symm)) z|false=>exact z
def BE:∀B∈aB 0 E.k,X i B=hO (X i 0) (X i 1) (X i 2) (4+B):=λB m=>by
 have h:=W4 (W7 E.k▸(g8 _ m).2) (jv E).2.2.2;exact match B,h with
 |0,_=>rfl
 |1,_=>rfl
 |2,_=>rfl
 |_+3,h=>absurd h (X9 (X7 3 _))
abbrev yh(E:C)(X:Nat->Nat->b')(f P:gd)(a:ZH):Prop:=P.fP=U f.fP ((f7 E X false a).map b8.jS)/\P.eA=U f.eA ((f7 E X true a).map b8.jS)
def Uk(h:sk E ⟨q,s,g,T,A,r::m⟩):yh E X f (kb E X p f ⟨q,s,g,T,A,r::m⟩) (sh E ⟨q,s,g,T,A,r::m⟩):=by
 unfold sk at h;unfold sh kb eT;dsimp only at h⊢;generalize G:Nat.beq r (E.R+1)=N;induction N with|true=>have h:=G▸h;exact⟨W0 (λl=>U f.fP (List.map (eJ q r) l)) (vd (a4 h).1),W0 (λl=>U f.eA (List.map (eJ q r) l)) (vd (a4 h).2)⟩|false=>have h:=G▸h;have I:=W2 (a4 h).1;have F:=W2 (a4 (a4 h).2).1;have z:=a4 (mw (mw (mw (a4 (a4 h).2).2 (X (r-1) 0)) (X (r-1) 1)) (X (r-1) 2));exact⟨W0 (U f.fP) ((W0 (List.map (eJ q r)) (vd z.1)).trans (GY I F BE)),W0 (U f.eA) ((W0 (List.map (eJ q r)) (vd z.2)).trans (GY I F BE))⟩
def Uj(s:d2)(h:sk E s):yh E X f (kb E X p f s) (sh E s):=match s,h with
 |⟨_,_,_,_,_,[]⟩,_=>⟨rfl,rfl⟩
 |⟨_,_,_,_,_,_::_⟩,h=>Uk h
def MZ(g:List d2):∀{f:gd},(∀s∈g,sk E s=true)->yh E X f (kE E X p g f) (u1 E g):=by
 induction g with
 |nil=>exactλ{f} _=>⟨eI.symm,eI.symm⟩
 |cons s r S=>
  intro f h;have a:=S (f:=kb E X p f s) λs m=>h s (.tail _ m);have c:=Uj (X:=X) (p:=p) (f:=f) s (h s (.head _));have e:∀b,(f7 E X b (u1 E (s::r))).map b8.jS=U ((f7 E X b (sh E s)).map b8.jS) ((f7 E X b (u1 E r)).map b8.jS):=λb=>by
   rw[h3,<-qm]
   rfl
  exact⟨by rw[e,<-eL,<-c.1];exact a.1,by rw[e,<-eL,<-c.2];exact a.2⟩
def Kc(E:C):u1 E E.dT=E.sg:=by induction E<;>rfl
def A4:(fL E X p).fP=(gc E X false).map b8.jS/\(fL E X p).eA=(gc E X true).map b8.jS:=by have z:=MZ (X:=X) (p:=p) (f:=mL) E.dT (Xb.mp (Kq E));rw[Kc] at z;exact z
def m2{A:ZD}{n:Nat}{v:V}:au (Wy A n v) n=some v:=by
 induction A with
 |nil=>show(match Nat.beq n n with|true=>some v|false=>none)=_;rw[Xn]
 |cons x r S=>
  show au (match Nat.beq x.1 n with|true=>(x.1,v)::r|false=>x::Wy r n v) n=_
  generalize G:Nat.beq x.1 n=N;induction N with
  |true=>show(match Nat.beq x.1 n with|true=>some v|false=>_)=_;rw[G]
  |false=>show(match Nat.beq x.1 n with|true=>_|false=>au (Wy r n v) n)=_;exact G▸S
def U8(l:List b8):eV [127] (.aC (.F 127) 57352 []) none A (l.map b8.jS) h (l.map b8.v) h:=by
 induction l with|nil=>exact gF|cons x l S=>exact fZ rfl (fJ (J m2) rfl rfl rfl rfl rfl du (ft 9 λ_=>rfl)) S
end
section
variable{L R Q:bo O}{n m:Nat}{h F:Z}{X:Prop}{V:List (Z0 O)}
def wR(P:dg L R Q n h):h.n=n:=by cases P;rfl
def Po(L R Q:bo O)(n:Nat)(o:Z0 O):∃w d b,∀a c x,(eR a c x L R Q (n+2)).oi o=eR a c x w d b (n+3):=by
 have f:(n+2)/2=n/2+1:=Nat.add_div_right n (Xk 1);have u:∀a c x,(eR a c x L R Q (n+2)).oi o=⟨match Nat.beq ((n+2) % 2) 1 with
  |true=>.node (some (.ae (a.map .int) 0)) (match Nat.beq ((n+2)/2) 0 with
   |true=>.node o L R
   |false=>match Nat.beq ((n+2)/2 % 2) 1 with
    |true=>.node (some (.ae [.ref 0,.int c,.int x] 0)) (bo.a5 (n+1) L ((n+2)/2/2) o) R
    |false=>.node (some (.ae [.ref 0,.int c,.int x] 0)) L (bo.a5 (n+1) R ((n+2)/2/2-1) o)) Q
  |false=>.node (some (.ae (a.map .int) 0)) (.node (some (.ae [.ref 0,.int c,.int x] 0)) L R) (bo.a5 (n+2) Q ((n+2)/2-1) o),n+3⟩:=λ_ _ _=>rfl
 have u:=f▸u;generalize P:Nat.beq ((n+2) % 2) 1=N;induction N with
 |false=>have u:=P▸u;exact⟨_,_,_,u⟩
 |true=>
  have u:=P▸u;generalize e:Nat.beq ((n/2+1) % 2) 1=N;induction N with|true=>have u:=e▸u;exact⟨_,_,_,u⟩|false=>have u:=e▸u;exact⟨_,_,_,u⟩
def zw(V:List (Z0 O)):∀{L R Q:bo O}{n:Nat},∃w g f A,∀e c x,W (eR e c x L R Q (n+2)) V=eR e c x w g f (A+2):=by
 induction V with|nil=>exactλ{L R Q n}=>⟨L,R,Q,n,λ_ _ _=>rfl⟩|cons o r S=>exactλ{L R Q n}=>(Po L R Q n o).elim λw z=>z.elim λg z=>z.elim λf z=>(S).elim λa y=>y.elim λb y=>y.elim λc y=>y.elim λd y=>⟨a,b,c,d,λe c x=>by refine(?_:W ((eR e c x L R Q (n+2)).oi o) r=_);rw[z,y]⟩
def yX(P:dg L R Q (n+2) F)(D:m<900)(k:∀d T,d<m+1->dg L R Q (n+2) T->aY .inl 125 [.ref 1,I (m+1)] (W F V) (I d) (W T V)->X):X:=by
 induction P with
 |mk O c x=>
 refine(zw V (L:=L) (R:=R) (Q:=Q) (n:=n)).elim λw z=>z.elim λb z=>z.elim λa z=>z.elim λA z=>sE (.mk (L:=w) (R:=b) (Q:=a) (n:=A+2) O c x) D λd S f i e=>?_;induction i with|mk H l s=>exact k d (eR H l s L R Q (n+2)) f (.mk H l s) (by rw[z,z];exact e)
def Gn(P:dg L R Q (n+2) F)(D:Wx b<900)(k:∀a T,a∈y::b->dg L R Q (n+2) T->aY .inl 126 [.ref 1,.ae (y::b)] (W F V) a (W T V)->X):X:=by
 induction P with
 |mk O c x=>
 refine(zw V (L:=L) (R:=R) (Q:=Q) (n:=n)).elim λw z=>z.elim λg z=>z.elim λf z=>z.elim λh z=>rK (y:=y) (f:=b) (.mk (L:=w) (R:=g) (Q:=f) (n:=h+2) O c x) D λd a S A i e=>?_;induction i with|mk H l s=>exact k a (eR H l s L R Q (n+2)) (rE _ A) (.mk H l s) (by rw[z,z];exact e)
def wQ(P:dg L R Q (n+2) F)(k:∀w b a A,dg w b a (A+2) (W F V)->X):X:=by
 induction P with|mk O c x=>exact(zw V).elim λw z=>z.elim λb z=>z.elim λa z=>z.elim λA z=>k w b a A (z O c x▸.mk O c x)
end
def ff(E:C):ZL->V
 |none=>pb
 |some j=>dH E j
def WB(E:C)(I:ZI):ZF:=I.map (ff E)
def ux(E:C):ZL->Prop
 |none=>True
 |some j=>j<E.aD
def dp(E:C)(I:ZI):Prop:=∀o∈I,ux E o
def dp.U(u:dp a' c')(C:dp a' f'):dp a' (U c' f'):=λo j=>(XF.mp (cQ▸j)).elim (u o) (C o)
def dp.d'(j:ux c' a'):dp c' [a']:=λ_ o=>Xf.mp o▸j
def TV(h:b∈a.hU):∃B,ux a (some B)/\b=ff a (some B):=by rw[A8] at h;exact(Xz.mp h).elim λB z=>⟨B,W4 (W7 a.k▸(g8 _ z.1).2) (jv a).1,z.2.symm⟩
noncomputable def C.BV:C->Nat|.jL=>2|.kp=>3|_=>0
def Jl(E:C):(E.jg=bX []/\E.R=E.k)\/(ux E (some E.BV)/\E.jg=ff E (some E.BV)/\∀h,dy .cC E.jg (bX []) h=some true):=by induction E<;>first|exact .inl ⟨rfl,rfl⟩|exact .inr ⟨WY rfl,rfl,λ_=>rfl⟩
def df(E:C)(I:ZI):Z0 O:=some (.ae (WB E I) 0)
section
variable{E:C}{X:ZK}{G:List dD}{T g S n t:Nat}{L R Q:bo O}{F P:Z}{N:Prop}{H:ZI}{D:ZL}{A:ZD}
abbrev iP(W:V)(n:Nat):ZD:=aai [(160,.ref 1),(170,W),(157,.ref n)]
def r1(P:dg L R Q n F):(W F [df E H]).get n=some (.ae (WB E H) 0):=wR P▸cw (i:=0) [df E H] rfl
def BH(a:dg L R Q n F)(i:dg L R Q n P)(B:au A 157=some (.ref n))(eM:ao e ⟨A,W F [df E H]⟩ (ff E D) (W P [df E H]))(f:H.length<900):cF (.expr (.aC (.F 157) 8192 [e])) ⟨A,W F [df E H]⟩ .next ⟨A,W P [df E (U H [D])]⟩:=by
 have s:=gT (a:=P) (i:=0) (x:=df E (U H [D])) [df E H] rfl;have s:=(wR i)▸s;refine de (fY (J B) (r1 a) (aq eM) (r1 i) ((hu (r1 i) (dW (by unfold WB;rw[c9,c5];exact W4 f (WY rfl)))).trans (W0 (λh=>some (V.none,h)) ?_))) rfl
 refine Eq.trans ?_ s;unfold df WB;refine h3▸?_
 rfl
def H8(A:dg L R Q (n+2) F)(Z:dp E H)(m:H.length<800)(k:∀P a,dg L R Q (n+2) P->dp E (U H a)->1<=a.length->a.length<=3->(t=0->a.length<=2)->bE (cA (cm pD 1)) ⟨U (iP (bN E X G T g S) (n+2)) [(180,I t)],W F [df E H]⟩ .next ⟨U (iP (bN E X G T g S) (n+2)) [(180,I t)],W P [df E (U H a)]⟩->N):N:=by
 have lt2:∀{D:ZL},(U H [D]).length<900:=λ{D}=>by exact cQ▸W8▸W4 (Yy m 1) (WY rfl)
 have O:∀{n},n<802->n<900:=λh=>W4 h (WY rfl);have C:∀{b r o a},o=U H a->dg L R Q (n+2) b->dg L R Q (n+2) r->dp E o->a.length<=2->(t=0->a.length<=1)->bE ((cA (cm pD 1)).take 2) ⟨U (iP (bN E X G T g S) (n+2)) [(180,I t)],W F [df E H]⟩ .next ⟨U (iP (bN E X G T g S) (n+2)) [(180,I t)],W b [df E o]⟩->N:=λ{b r o a} e f q i l p x=>by
  subst e;refine k b (U a [none]) f (eL▸i.U (.d' trivial)) (by refine cQ▸W8▸?_;exact X7 1 _) (by exact cQ▸W8▸Xp l) (λz=>by exact cQ▸W8▸Xp (p z)) (nJ 2 x (M (eL▸BH f f rfl u ?_) ba))
  exact cQ▸W8▸O (W4 (YR m l) (Xe _))
 have hN:∀{b a},dg L R Q (n+2) b->dp E (U H a)->a.length<=1->(t=0->a.length<=0)->cF ((cA (cm pD 1)).headD .eF) ⟨U (iP (bN E X G T g S) (n+2)) [(180,I t)],W F [df E H]⟩ .next ⟨U (iP (bN E X G T g S) (n+2)) [(180,I t)],W b [df E (U H a)]⟩->N:=λ{b a} f i l p s=>by
  refine(Jl E).elim (λz=>?_) λz=>?_
  .exact C rfl f f i (XT l) (λz=>W5 (p z) (Xj 1)) (M s (M (cX (fX (ph (bF (bw J u rfl) u (by refine z.1▸?_;rfl)) rfl)) rfl) ba))
  .refine yX (V:=[df E (U H a)]) (m:=2) f (WY rfl) λd r K q c=>?_
   have Y:∀{B},Nat.beq d 0=B->ao (.bool true [(.aw .cC (.sub (.F 170) (.lit (.int 1))) (.lit (.str (j [])))),(.aw .eq (.call .inl 125 [(.F 160),(.lit (.int 3))]) (.lit (.int 0)))]) ⟨U (iP (bN E X G T g S) (n+2)) [(180,I t)],W b [df E (U H a)]⟩ (.bool B) (W r [df E (U H a)]):=λe=>fX (jO (bF (bw J u rfl) u (z.2.2 _)) rfl (h4 (n7 (c7 (aI J (aq u)) c) u (W0 some e))));generalize K:Nat.beq d 0=c';induction c' with|false=>exact C rfl q q i (XT l) (λz=>W5 (p z) (Xj 1)) (M s (M (jW (Y K) rfl ba) ba))|true=>exact C eL q q (i.U (.d' z.1)) (by exact cQ▸W8▸Xp l) (λz=>by exact cQ▸W8▸Xp (p z)) (M s (M (lQ (Y K) rfl (M (BH q q rfl (z.2.1▸bw J u rfl) (by exact cQ▸W8▸O (W4 (YR m l) (Xt _)))) ba)) ba))
 induction t with
 |zero=>exact hN (a:=[]) A (eI.symm▸Z) (Xj _) (λ_=>Xe _) (eI.symm▸cX (bF J u rfl) rfl)
 |succ t=>
  have a':∃y V,E.hU=y::V/\Wx V<900:=by induction E<;>exact⟨_,_,rfl,WY rfl⟩
  exact a'.elim λy z=>z.elim λV z=>Gn A z.2 λv b cK f c=>(TV (z.1▸cK)).elim λe1 w=>hN f (Z.U (.d' w.1)) (Xe _) nofun (lQ (n7 J u rfl) rfl (M (BH A f rfl (w.2▸c7 (aI J (aq (bw (J rfl) u (z.1▸rfl)))) c) (O (XH (XH m)))) ba))
end
section
variable{E:C}{X:ZK}{G:List dD}{T g S n:Nat}{L R Q:bo O}{F:Z}{P:Prop}
def Wh(m:Nat):∀{t:Nat}{a:ZI}{F:Z},dg L R Q (n+2) F->dp E a->a.length+3*m<700->(∀c b,dg L R Q (n+2) c->dp E (U a b)->b.length<=3*m->cS [180] (cA (cm pD 1)) ((aB t m).map I) ⟨iP (bN E X G T g S) (n+2),W F [df E a]⟩ .next ⟨iP (bN E X G T g S) (n+2),W c [df E (U a b)]⟩->P)->P:=by
 induction m with
 |zero=>exactλ{t a F} d e _ k=>k F [] d (eI.symm▸e) (Xj _) (eI.symm▸dq)
 |succ m j=>
  intro t a F d e l k;refine H8 d e (W3 (Xd _ _) (Xv l (WY rfl))) λu b s h _ A _ x=>j s h ?_ λr o q i p f=>k r (U b o) q (eL▸i) ?_ (eL▸cW rfl x rfl f)
  .rw[cQ,W8,W9]
   exact W3 (Xg (W5 (Xl A _) (Xu (by rw[Yz,Xa]))) _) l
  .refine cQ▸W8▸?_
   exact W5 (XY A p) (Xu (by rw[Yz,Xa]))
def UU{l:List α}:∀{n:Nat},mg (l.map f) n=(l.take n).map f:=by
 induction l with
 |nil=>exactλ{n}=>by induction n<;>rfl
 |cons x r S=>exactλ{n}=>by induction n with|zero=>rfl|succ n=>exact W0 (f x::·) S
def LP{l:List α}:∀{n:Nat},q6 (l.map f) n=(l.drop n).map f:=by
 induction l with
 |nil=>exactλ{n}=>by induction n<;>rfl
 |cons x r S=>exactλ{n}=>by induction n with|zero=>rfl|succ n=>exact S
def Ji:mB .add false (.int 1) (I m) h=some (I (m+1),h):=W0 (λi=>some (V.int i,h)) (Zz 1 (.ofNat m))
def QD(h:a∈[V.int 2,.int 1,.int 2,.int 0]):∃n,n<=2/\a=I n:=
 (Xm.mp h).elim (λe=>⟨2,Xe 2,e⟩) λh=>(Xm.mp h).elim (λe=>⟨1,Xt 1,e⟩) λh=>(Xm.mp h).elim (λe=>⟨2,Xe 2,e⟩) λh=>⟨0,Xj 2,Xf.mp h⟩
def Wf{h:Z}(g:h.get n=some (.ae (WB E a) 0))(f:a.length<400):cF (.bY (.F 157) (.a7 .add false (.gn false (.F 157) none (some (.F 7))) (.gn false (.F 157) (some (.a7 .add false (.F 7) (.lit (.int 1)))) none))) ⟨U (iP b n) [(7,I e)],h⟩ .next ⟨[(160,.ref 1),(170,b),(157,.ae (WB E (U (a.take e) (a.drop (e+1))))),(7,I e)],h⟩:=by refine cI (cV (zl J J (lX g)) (zm J (cV (d:=I (e+1)) J u rfl) (lX g)) ?_);refine(?_:bS (eC (U (mg (WB E a) e) (q6 (WB E a) (e+1)))) _=_);unfold WB;rw[UU,LP,h3];refine fN (dW ?_) rfl;rw[c9,c5,cQ,W8];refine W3 (XY (List.length_take_le' e a) (?_:_<=a.length)) (W4 (Nat.add_lt_add f f) (WY rfl));rw[Y3];exact XW _ _
def Wg{a:ZI}(h:a.length<=8):(U (a.take e) (a.drop (e+1))).length<=8:=by
 refine W5 ?_ h;rw[cQ,W8];refine W5 (Xg (?_:_<=(a.drop e).length) _) (Xu (by rw[<-W8,Y9]))
 rw[Y3,Y3];exact Nat.sub_le_sub_left (Xt e) _
def Pm(C:dg L R Q (n+2) F)(k:∀a w c b A i,dg w c b (A+2) i->dp E a->a.length<=8->aY .inl 134 [.ref 1,bN E X G T g S] F (.ae (WB E a)) i->P):P:=by
 refine Gn (V:=[df E []]) C (WY rfl) λv fv e1 a' c'=>(QD e1).elim λm z=>?_;have fp:=z.2;subst fp;refine H8 (t:=0) (X:=X) (G:=G) (T:=T) (g:=g) (S:=S) a' (H:=[]) (λ_ h=>nomatch h) (Xk _) λf' fi cK hk2 v1 _ Y x=>Wh (E:=E) (t:=1) (X:=X) (G:=G) (T:=T) (g:=g) (S:=S) m cK hk2 ?_ λs us P3 r e2 f=>?_
 .exact W3 (XY (Y rfl) (XE 3 z.1)) (WY rfl)
 generalize N:U (U [] fi) us=a at f r;have t:a.length<=8:=by exact N▸cQ▸W8▸XY (Y rfl) (W5 e2 (XE 3 z.1))
 have l1:1<=a.length:=by exact N▸cQ▸W8▸W5 v1 (Xd _ _)
 have V:∀{q O},bE (pD.body.drop 2) ⟨iP (bN E X G T g S) (n+2),W s [df E a]⟩ q O->bE pD.body ⟨[(160,.ref 1),(170,bN E X G T g S)],F⟩ q O:=λ{q O} y=>M (a:=⟨iP (bN E X G T g S) (n+2),W F [df E []]⟩) ((wR C)▸cI (h7 du)) (M (da (d:=I 0::(aB 1 m).map I) (j5 (m+1) (i:=0)▸kI (b:=m+1) (sZ u (c7 (aI J (aq (fu (aI u (aI u (aI u (aq u))))))) c') Ji) (qO (W3 (Xp z.1) (WY rfl)))) rfl (cW rfl x rfl f) rfl) y)
 refine yX (V:=[df E a]) (m:=5) P3 (WY rfl) λd l _ j yG=>?_;have H:∀{B},Nat.beq d 0=B->ao (.aw .eq (.call .inl 125 [(.F 160),(.lit (.int 6))]) (.lit (.int 0))) ⟨iP (bN E X G T g S) (n+2),W s [df E a]⟩ (.bool B) (W l [df E a]):=λe=>n7 (c7 (aI J (aq u)) yG) u (W0 some e);generalize K:Nat.beq d 0=fs;induction fs with
 |false=>
  refine wQ (V:=[none]) j λw c b A p=>k a w c b A _ p r t (cH rfl rfl (V (M (jW (H K) rfl ba) (bG (cb (mI J ((sW (r1 j) (tF λo=>by induction o<;>rfl)).trans (W0 (λh=>some (_,h)) ?_))))))))
  exact(wR j)▸gT (a:=l) (i:=0) (x:=none) [df E a] rfl
 |true=>
  refine yX (V:=[df E a]) (m:=a.length-1) j (W3 (W5 (XW _ _) t) (WY rfl)) λe Z _ D u0=>?_;rw[YJ l1] at u0;have s1:cF (.bY (.F 7) (.call .inl 125 [(.F 160),(.bq false .len [(.F 157)])])) ⟨iP (bN E X G T g S) (n+2),W l [df E a]⟩ .next ⟨U (iP (bN E X G T g S) (n+2)) [(7,I e)],W Z [df E a]⟩:=
   cI (c7 (aI J (aq (d4 (b:=I a.length) (aq J) (a6 rfl (a6 (px (r1 j)) (by unfold WB;dsimp only;rw[c9,c5])))))) u0)
  exact wQ (V:=[df E a]) D λw c b A p=>k _ w c b A _ p (λo h=>(XF.mp (cQ▸h)).elim (λh=>r o (List.mem_of_mem_take h)) λh=>r o (List.mem_of_mem_drop h)) (Wg t) (cH rfl rfl (V (M (lQ (H K) rfl (M s1 (M (Wf (r1 D) (W3 t (WY rfl))) ba))) (bG (cb (mI J rfl))))))
end
set_option genCtorIdx true in
inductive aV where
 |a
 |p(i:Nat)(t:aV)
 |f(i:Nat)(l r:aV)
namespace aV
noncomputable def v:aV->V
 |a=>pb
 |p j C=>.ay [I j,v C]
 |f j o u=>.ay [I j,v o,v u]
def cq(j:C):aV->Prop
 |a=>True
 |p o M=>o=j.k/\j.k<j.R/\cq j M
 |f o u J=>o<j.k/\cq j u/\cq j J
noncomputable def dN:aV->Nat
 |a=>1
 |p _ u=>dN u+1
 |f _ j o=>max (dN j) (dN o)+1
end aV
noncomputable def kM:b'->Bool
 |.gY=>true
 |_=>false
noncomputable def zP:b'->Bool
 |.nx=>true
 |.dI=>true
 |_=>false
noncomputable def ij(W:Nat->Nat->b')(i:Nat):aV->Bool
 |.a=>true
 |.p j t=>kM (W j i)&&ij W i t
 |.f j _ r=>kM (W j i)&&ij W i r
noncomputable def m8(W:Nat->Nat->b')(i:Nat):aV->Bool
 |.f j l _=>zP (W i j)&&m8 W i l
 |_=>true
noncomputable def eG(W:Nat->Nat->b'):aV->Bool
 |.a=>true
 |.p i t=>m8 W i t&&eG W t
 |.f i l r=>ij W i l&&(eG W l&&(m8 W i r&&eG W r))
noncomputable def fE(E:C):aV->V
 |.a=>.ay [bX [69],.ay [pb,pb]]
 |.p i t=>.ay [bX [69],.ay [dH E (E.bC i),dH E (E.bC i)],fE E t]
 |.f i l r=>.ay [bX [69],fE E l,.ay [dH E (E.bC i),dH E (E.bC i)],fE E r]
noncomputable def z7:Nat->Nat
 |0=>132
 |k+1=>137+k
noncomputable def z8:Nat->Nat
 |0=>133
 |k+1=>150+k
def z9:gI (λk=>dE.fM (z7 k)=some (fK (z7 (k+1)))/\dE.fM (z8 k)=some (iX (z8 (k+1)))) (aB 0 12):=by(repeat' apply And.intro)<;>first|exact trivial|kernel_rfl
section
variable{E:C}{O:ZK}{G:List dD}
abbrev oM(E:C):ZF:=(aB 0 E.R).map λi=>dH E (E.bC i)
def Rt(n:Nat):∀{i B:Nat},B<n->a3 ((aB i n).map g) B=some (g (i+B)):=by
 induction n with
 |zero=>exactλh=>nomatch h
 |succ n S=>exactλ{i B} h=>by induction B with|zero=>rfl|succ B=>exact(S (Ya h)).trans (by rw[W9,Xa 1])
def zr(h:B<a):cZ (.ae ((aB 0 a).map g)) (I B) Z.bj=some (g B):=(js (by rw[c9,c5,oR];exact h) (Rt a h)).trans (by rw[W7])
def vM(h:i<E.k):E.bC i=i:=W2 (Xb.mp (show((aB 0 E.k).all λi=>Nat.beq (E.bC i) i)=true by induction E<;>rfl) i (gG _ (Xj _) (by rw[W7];exact h)))
noncomputable def sS:Bool->fG
 |true=>.next
 |false=>.ret (.bool false)
noncomputable def Hy:S->List S
 |.ite _ a _=>a
 |_=>[]
def qy:S:=((Hy (cm (fK 0) 2)).drop 1).headD .eF
def BG:S:=cm (fK 0) 4
abbrev hB(E:C)(W t:V)(u:V):ZD:=[(170,W),(69,t),(163,.ae (oM E)),(179,u)]
variable(X:O.length=E.eD.length)(s:d1 E.aD G)
include X s in
def H6(k:i<E.R)(P:B<E.k)(j:au A 170=some (bN E O G d g e))(D:au A 163=some (.ae (oM E)))(a:ao c ⟨A,h⟩ (I i) h)(b:ao f ⟨A,h⟩ (I B) h):ao (.call .pure 129 [.F 170,.sub (.sub (.F 170) (.lit (.int 2))) c,.sub (.F 163) f]) ⟨A,h⟩ (hV (br E O G i B)) h:=by have R:=jv E;refine c7 (aI (J j) (aI (bw (bw (J j) u rfl) a ((W0 (λl=>cZ (.ae l) (I i) h) (ni X)).trans (zr k))) (aq (bw (J D) b ((zr (W4 P R.2.1)).trans (by rw[vM P])))))) (BI (a:=d) (g:=g) (b:=e) (h:=h) X s k (W4 P R.1))
def GA(e:kM w=b):dy .cC (hV w) (bX [114,101,100,117,99,101]) h=some (!b):=by subst e;induction w<;>rfl
def G9(e:zP w=b):dy .j1 (hV w) (.ay [bX [115,104,105,102,116],bX [110,111,110,101]]) h=some (!b):=by subst e;induction w<;>rfl
def w6(A:i<E.k):i<E.R:=W4 A (jv E).2.1
include X s in
def SR(A:i<E.k)(H:cZ r (.int 0) h=some (I i))(t:aV):t.cq E->∃L,jK (nG qy) (cA qy) ⟨hB E (bN E O G b g a) r t.v,h⟩ (sS (ij (br E O G) i t)) ⟨hB E (bN E O G b g a) r L,h⟩:=by
 have WH:∀{t L:aV}{j:Nat},j<E.R->dy .cC t.v (bX [97]) h=some true->cZ t.v (.int (-1)) h=some L.v->cZ t.v (.int 0) h=some (I j)->ij (br E O G) i t=(kM (br E O G j i)&&ij (br E O G) i L)->
   (∃x,jK (nG qy) (cA qy) ⟨hB E (bN E O G b g a) r L.v,h⟩ (sS (ij (br E O G) i L)) ⟨hB E (bN E O G b g a) r x,h⟩)->∃x,jK (nG qy) (cA qy) ⟨hB E (bN E O G b g a) r t.v,h⟩ (sS (ij (br E O G) i t)) ⟨hB E (bN E O G b g a) r x,h⟩:=λ{t L j} P c p d e S=>by
  have f:ao (nG qy) ⟨hB E (bN E O G b g a) r t.v,h⟩ (.bool true) h:=bF J u c;have w:=H6 (e:=a) (c:=.sub (.F 179) (.lit (.int 0))) (f:=.sub (.F 69) (.lit (.int 0))) (A:=hB E (bN E O G b g a) r t.v) X s P A rfl rfl (bw J u d) (bw J u H);refine e▸?_;generalize F:kM (br E O G j i)=N;induction N with|false=>exact⟨_,H4 f rfl (bG (c1 (bF w u (GA F)) rfl (bG (cb u))))⟩|true=>exact S.elim λx k=>⟨x,uB f rfl (M (cX (bF w u (GA F)) rfl) (M (dk (bw J (hK u rfl) p)) ba)) k⟩
 induction t with|a=>exactλ_=>⟨_,qx (bF J u rfl) rfl⟩|p j L S=>exactλcq=>WH (by exact cq.1▸cq.2.1) rfl rfl rfl rfl (S cq.2.2)|f j l L _ S=>exactλcq=>WH (w6 cq.1) rfl rfl rfl rfl (S cq.2.2)
include X s in
def Pw(A:i<E.R)(H:cZ r (.int 0) h=some (I i))(t:aV):t.cq E->∃L,jK (nG BG) (cA BG) ⟨hB E (bN E O G b g a) r t.v,h⟩ (sS (m8 (br E O G) i t)) ⟨hB E (bN E O G b g a) r L,h⟩:=by
 induction t with
 |a=>exactλ_=>⟨_,qx (fX (ph (bF J u rfl) rfl)) rfl⟩
 |p B L S=>exactλ_=>⟨_,qx (fX (jO (bF J u rfl) rfl (h4 (bF (d4 (aq J) rfl) u rfl)))) rfl⟩
 |f B l L S _=>
  intro cq;have f:ao (nG BG) ⟨hB E (bN E O G b g a) r (aV.f B l L).v,h⟩ (.bool true) h:=fX (jO (bF J u rfl) rfl (h4 (bF (d4 (aq J) rfl) u rfl)));have w:=H6 (e:=a) (c:=.sub (.F 69) (.lit (.int 0))) (f:=.sub (.F 179) (.lit (.int 0))) (A:=hB E (bN E O G b g a) r (aV.f B l L).v) X s A cq.1 rfl rfl (bw J u H) (bw J u rfl);have D:ao (.ay [(.lit (.str Z6)),(.lit (.str Z5))]) ⟨hB E (bN E O G b g a) r (aV.f B l L).v,h⟩ (.ay [bX [115,104,105,102,116],bX [110,111,110,101]]) h:=d8 (aI u (aq u));unfold m8;generalize F:zP (br E O G i B)=N;induction N with|false=>exact⟨_,H4 f rfl (bG (c1 (bF w D (G9 F)) rfl (bG (cb u))))⟩|true=>exact(S cq.2.1).elim λx k=>⟨x,uB f rfl (M (cX (bF w D (G9 F)) rfl) (M (dk (bw J u rfl)) ba)) k⟩
end
def z'{A:ZD}{B:α->ZD}{a:ZK}{e:E}{l:List α}(b:∀x∈l,hJ a (L x) ⟨A,h⟩=some ⟨B x,h⟩)(k:∀x∈l,ao e ⟨B x,h⟩ (t x) h):eV a e none A (l.map L) h (l.map t) h:=by
 induction l with|nil=>exact gF|cons x l S=>exact fZ (b x (.head _)) (k x (.head _)) (S (λy m=>b y (.tail _ m)) λy m=>k y (.tail _ m))
section
variable{E:C}{O:ZK}{G:List dD}{X g T c f:Nat}
abbrev mr(E:C)(O:ZK)(G:List dD)(X g T:Nat):V:=bN E O G X g T
variable(S:O.length=E.eD.length)(s:d1 E.aD G)
include S in
def G5:cF (cm (fK c) 1) ⟨[(170,bN E O G X g T),(69,v)],h⟩ .next ⟨[(170,bN E O G X g T),(69,v),(163,.ae (oM E))],h⟩:=
 cI (h5 (c8 (d:=(aB 0 E.R).map (e6 E O)) (bw (J rfl) u rfl) (W0 some (ni S))) (dW (by rw[c9,c5,oR];exact W3 (jv E).2.2.1 (WY rfl))) rfl (z' (λ_ _=>rfl) λi _=>bw J u rfl) rfl)
def Hi(n:dy .eq v (bX [97]) h=some false):cF (cm (fK c) 0) ⟨[(170,bN E O G X g T),(69,v)],h⟩ .next ⟨[(170,bN E O G X g T),(69,v)],h⟩:=cX (bF J u n) rfl
include S s in
def Hk(f:i<E.R)(H:cZ r (.int 0) h=some (I i))(cq:t.cq E)(d:cZ r (.int (-1)) h=some t.v)(l:aY .inl c [mr E O G X g T,t.v] h (.bool b) h){L:V}(B:au A 69=some r)(j:Wy A 179 t.v=hB E (bN E O G X g T) r t.v):∃a,bE ((fK c).body.drop 3) ⟨A,h⟩ (.ret (.bool (m8 (br E O G) i t&&b))) ⟨a,h⟩:=by
 have e:cF (cm (fK c) 3) ⟨A,h⟩ .next ⟨hB E (bN E O G X g T) r t.v,h⟩:=j▸dk (bw (J B) (hK u rfl) d);refine(Pw (b:=X) (g:=g) (a:=T) S s f H t cq).elim λL k=>?_;generalize R:m8 (br E O G) i t=N;induction N with|false=>have k:=R▸k;exact⟨_,M e (bG (oJ k))⟩|true=>have k:=R▸k;exact⟨_,M e (M (oJ k) (bG (cb (c7 (aI J (aq (bw J (hK u rfl) d))) l))))⟩
include S s in
def Un(R:dE.fM f=some (fK c))(cq:(aV.p i t).cq E)(a:aY .inl c [mr E O G X g T,t.v] h (.bool (eG (br E O G) t)) h):aY .inl f [mr E O G X g T,(aV.p i t).v] h (.bool (eG (br E O G) (.p i t))) h:=
 (Hk (L:=.none) (A:=[(170,bN E O G X g T),(69,(aV.p i t).v),(163,.ae (oM E))]) S s (by rw[cq.1];exact cq.2.1) rfl cq.2.2 rfl a rfl rfl).elim λb k=>cH R rfl (M (Hi (c:=c) rfl) (M (G5 (c:=c) S) (M (cX (bF (d4 (aq J) rfl) u rfl) rfl) k)))
include S s in
def Um(R:dE.fM f=some (fK c))(cq:(aV.f i l r).cq E)(m:aY .inl c [mr E O G X g T,l.v] h (.bool (eG (br E O G) l)) h)(Q:aY .inl c [mr E O G X g T,r.v] h (.bool (eG (br E O G) r)) h):aY .inl f [mr E O G X g T,(aV.f i l r).v] h (.bool (eG (br E O G) (.f i l r))) h:=by
 have d:∀{v j},bE ((fK c).body.drop 2) ⟨[(170,bN E O G X g T),(69,(aV.f i l r).v),(163,.ae (oM E))],h⟩ (.ret v) ⟨j,h⟩->aY .inl f [mr E O G X g T,(aV.f i l r).v] h v h:=λk=>cH R rfl (M (Hi (c:=c) rfl) (M (G5 (c:=c) S) k));have w:ao (.aw .eq (.bq false .len [(.F 69)]) (.lit (.int 3))) ⟨[(170,bN E O G X g T),(69,(aV.f i l r).v),(163,.ae (oM E))],h⟩ (.bool true) h:=bF (d4 (aq J) rfl) u rfl;have x:cF (.bY (.F 179) (.sub (.F 69) (.lit (.int 1)))) ⟨[(170,bN E O G X g T),(69,(aV.f i l r).v),(163,.ae (oM E))],h⟩ .next ⟨hB E (bN E O G X g T) (aV.f i l r).v l.v,h⟩:=cI (A:=[(170,bN E O G X g T),(69,(aV.f i l r).v),(163,.ae (oM E))]) (bw J u rfl);refine(SR (b:=X) (g:=g) (a:=T) (r:=(aV.f i l r).v) (h:=h) S s cq.1 rfl l cq.2.1).elim λL a=>?_;show aY .inl f _ h (.bool (ij (br E O G) i l&&(eG (br E O G) l&&(m8 (br E O G) i r&&eG (br E O G) r)))) h;generalize F:ij (br E O G) i l=N;induction N with
 |false=>have a:=F▸a;exact d (bG (c1 w rfl (M x (bG (oJ a)))))
 |true=>
  have a:=F▸a;have b:ao (.c6 .not (.call .inl c [(.F 170),(.sub (.F 69) (.lit (.int 1)))])) ⟨hB E (bN E O G X g T) (aV.f i l r).v L,h⟩ (.bool (!(eG (br E O G) l))) h:=hK (c7 (aI J (aq (bw J u rfl))) m) rfl;generalize e:eG (br E O G) l=N;induction N with|false=>have b:=e▸b;exact d (bG (c1 w rfl (M x (M (oJ a) (bG (c1 b rfl (bG (cb u))))))))|true=>have b:=e▸b;exact(Hk (r:=(aV.f i l r).v) (L:=.none) (A:=hB E (bN E O G X g T) (aV.f i l r).v L) S s (w6 cq.1) rfl cq.2.2 rfl Q rfl rfl).elim λj k=>d (M (c1 w rfl (M x (M (oJ a) (M (cX b rfl) ba)))) k)
include S in
def GR(b:i<E.R)(B:au A 170=some (bN E O G X g T))(a:au A 69=some r)(H:cZ r (.int 0) h=some (I i)):ao (.sub (.sub (.sub (.F 170) (.lit (.int 2))) (.sub (.F 69) (.lit (.int 0)))) (.lit (.int 0))) ⟨A,h⟩ (dH E (E.bC i)) h:=
 bw (bw (bw (J B) u rfl) (bw (J a) u H) ((W0 (λl=>cZ (.ae l) (I i) h) (ni S)).trans (zr b))) u rfl
include S s in
def Uo(t:aV):∀{k:Nat},k+t.dN<=12->t.cq E->aY .inl (z7 k) [mr E O G X g T,t.v] h (.bool (eG (br E O G) t)) h/\aY .inl (z8 k) [mr E O G X g T,t.v] h (fE E t) h:=by
 have K:∀{k n},k+(n+1)<=12->k<12:=λz=>W4 (Xq (Xk _)) z;have D:∀{k n},k+(n+1)<=12->k+1+n<=12:=λ{k n} z=>by rw[W9,Xa 1];exact z
 induction t with|a=>exactλ{k} d _=>have z:=z9.lt (K d);⟨cH z.1 rfl (bG (c1 (bF J u rfl) rfl (bG (cb u)))),cH z.2 rfl (bG (c1 (bF J u rfl) rfl (bG (cb (d8 (aI u (aq (d8 (aI u (aq u))))))))))⟩|p i t a=>exactλ{k} d cq=>have z:=z9.lt (K d);have y:=a (D d) cq.2.2;⟨Un S s z.1 cq y.1,(cH z.2 rfl (M (cX (bF J u rfl) rfl) (M (dk (GR S (by rw[cq.1];exact cq.2.1) rfl rfl rfl)) (bG (c1 (bF (d4 (aq J) rfl) u rfl) rfl (bG (cb (d8 (aI u (aI (d8 (aI J (aq J))) (aq (c7 (aI J (aq (bw J u rfl))) y.2))))))))))))⟩|f i l r m Q=>exactλ{k} d cq=>have z:=z9.lt (K d);have x:=m (W5 (Xg (YT _ _) _) (D d)) cq.2.1;have y:=Q (W5 (Xg (YQ _ _) _) (D d)) cq.2.2;⟨Um S s z.1 cq x.1 y.1,(cH z.2 rfl (M (cX (bF J u rfl) rfl) (M (dk (GR S (w6 cq.1) rfl rfl rfl)) (M (cX (bF (d4 (aq J) rfl) u rfl) rfl) (bG (cb (d8 (aI u (aI (c7 (aI J (aq (bw J u rfl))) x.2) (aI (d8 (aI J (aq J))) (aq (c7 (aI J (aq (bw J u rfl))) y.2))))))))))))⟩
end
def g6(E:C)(I:ZI)(n i:Nat):Bool:=match a3 I n with
 |some (some j)=>Nat.beq j (E.bC i)
 |_=>false
def gq(I:ZI)(n:Nat):Bool:=match a3 I n with
 |some none=>true
 |_=>false
noncomputable def g0{α:Type}(b:Bool)(l:List α):List α:=match b with
 |true=>l
 |false=>[]
section
variable(E:C)(I:ZI)(T:Nat->Nat->List aV)
def nf(a m i:Nat):List aV:=g0 (Nat.beq i E.k&&(g6 E I a i&&Nat.blt 1 m)) ((T (a+1) (m-1)).map (aV.p i))
def hT(a m i s:Nat):List aV:=g0 (!(Nat.beq i E.k)&&g6 E I (a+s) i) ((T a s).flatMap λl=>(T (a+s+1) (m-s-1)).map (aV.f i l))
def hz(a m i:Nat):List aV:=nf E I T a m i++(aB 1 (m-2)).flatMap (hT E I T a m i)
def j9(a m:Nat):List aV:=g0 (Nat.beq m 1&&gq I a) [aV.a]++(aB 0 E.R).flatMap (hz E I T a m)
end
def Bt(E:C)(I:ZI)(O:Nat):Nat->Nat->List aV:=
 O.rec (λ_ _=>[]) λ_ S a m=>match m with
  |0=>[]
  |m+1=>j9 E I S a (m+1)
def cc(E:C)(I:ZI)(a m:Nat):List aV:=Bt E I m a m
def u5(f:α->β->γ)(h:a=A)(k:b=c):f a b=f A c:=by rw[h,k]
def DE{l:List α}(h:∀x∈l,f x=g x):l.flatMap f=l.flatMap g:=by
 induction l with|nil=>rfl|cons x l S=>rw[Yb,Yb,h x (.head _),S λy m=>h y (.tail _ m)]
def xm(h:s∈aB 1 (m-2)):1<=s/\s+1<m:=have z:=g8 _ h;⟨z.1,by have p:0<m-2:=Nat.lt_of_add_lt_add_left (W3 z.1 z.2:1+0<_);have h:=z.2;have e:=YJ (Xw (Nat.lt_of_sub_pos p));rw[<-e,Xa 1] at*;exact Yy h 1⟩
def GK(h:∀a b,b<m+1->T a b=d a b):j9 e c T a (m+1)=j9 e c d a (m+1):=by
 refine W0 (g0 (Nat.beq (m+1) 1&&gq c a) [aV.a]++·) (DE λi _=>?_);refine u5 (·++·) ?_ (DE λs f=>?_)
 .unfold nf
  rw[h _ (m+1-1) (Xh m)]
 .have z:=xm f
  unfold hT;rw[h a s (Xr z.2),h _ (m+1-s-1) (W3 (XW _ _) (YH (Xk m) z.1))]
def Vd(f:Nat):∀{g m a:Nat},m<=f->m<=g->Bt c d f a m=Bt c d g a m:=by
 induction f with
 |zero=>exactλ{g m a} h _=>by cases Nat.le_zero.mp h;induction g<;>rfl
 |succ f S=>exactλ{g m a} R i=>by induction m with
  |zero=>induction g<;>rfl
  |succ m=>induction g with|zero=>exact absurd i (Zb m)|succ g=>exact GK λb n X=>S (W5 (XG X) (Y0 R)) (W5 (XG X) (Y0 i))
def o7:cc b c a (m+1)=j9 b c (cc b c) a (m+1):=GK λ_ n X=>Vd m (XG X) (Xe n)
noncomputable def cL(O:ZK):Nat:=
 O.rec 0 λx _ S=>x+S
def Hp{l:ZK}(h:∀x∈l,f x<=g x):cL (l.map f)<=cL (l.map g):=by
 induction l with|nil=>exact Xe _|cons x l S=>exact XY (h x (.head _)) (S λy m=>h y (.tail _ m))
def me{l:ZK}(h:∀x∈l,f x=g x):cL (l.map f)=cL (l.map g):=by
 induction l with|nil=>rfl|cons x l S=>exact u5 (·+·) (h x (.head _)) (S λy m=>h y (.tail _ m))
def zU:(g0 b l).length<=l.length:=by induction b<;>first|exact Xe _|exact Xj _
def v'{l:ZK}:(l.flatMap f).length=cL (l.map λx=>(f x).length):=by
 induction l with|nil=>rfl|cons x l S=>rw[Yb,W8,S];rfl
def Fd{L M:List aV}{g:aV->aV->aV}:(L.flatMap λl=>M.map (g l)).length=L.length*M.length:=by
 induction L with|nil=>exact(Yi _).symm|cons x L S=>rw[Yb,W8,S,Xs,Xx,Nat.add_mul,Nat.one_mul,Xa]
def JK:ZK:=aai [0,1,1,4,10,37,121,451,1639]
def nP(m:Nat):Nat:=lP JK m
def yy(m:Nat):Nat:=cL ((aB 1 (m-2)).map λs=>nP s*nP (m-s-1))
def JJ:((aB 1 8).all λm=>Nat.ble ((match Nat.beq m 1 with|true=>1|false=>0)+(nP (m-1)+3*yy m)) (nP m)):=rfl
def I5(m:Nat):∀{a:Nat},m<=8->(cc c d a m).length<=nP m:=by
 induction m using Nat.strongRecOn with
 |ind m S=>
  intro a q;induction m with
  |zero=>exact Xe 0
  |succ m=>
   have B:=λ{n b}(h:n<m+1)=>S n h (a:=b) (Xw (W4 h q));rw[o7];unfold j9;rw[W8,v'];refine W5 (XY ?_ (W5 (Hp (g:=λi=>match Nat.beq i c.k with|true=>nP m|false=>yy (m+1)) λi _=>?_) ?_)) (WY (Xb.mp JJ (m+1) (gG _ (Xp (Xj m)) (W3 q (Xh 8)))))
   .generalize Nat.beq (m+1) 1=N;induction N with|true=>exact zU|false=>exact Xj _
   .unfold hz nf
    rw[W8,v'];generalize G:Nat.beq i c.k=N;induction N with
    |true=>
     have z:∀l:ZK,cL (l.map λx=>(hT c d (cc c d) a (m+1) i x).length)=0:=λl=>by
      induction l with|nil=>rfl|cons x l f=>exact u5 (·+·) (show(hT c d (cc c d) a (m+1) i x).length=0 by unfold hT;rw[G];rfl) f
     rw[z];exact W5 zU (by rw[Xs];exact B (Xh m))
    |false=>refine(W7 _).symm▸Hp λs e=>?_;have w:=xm e;unfold hT;refine W5 zU ?_;rw[Fd];exact Nat.mul_le_mul (B (Xr w.2)) (B (W3 (XW _ _) (YH (Xk m) w.1)))
   .rw[show m+1-1=m from rfl]
    generalize nP m=x;generalize yy (m+1)=y;cases c
    .show y+(y+0)<=_;omega
    .show y+(y+(x+0))<=_;omega
    .show y+(y+(x+0))<=_;omega
    .show y+(y+(y+0))<=_;omega
    .show y+(y+(y+(x+0)))<=_;omega
    .show y+(y+(y+(x+0)))<=_;omega
def jq(h:Wx l<90000):eC l:=dF (W4 h (WY rfl))
def mC(h:a<90000):Nat.blt a b0:=dF (W4 h (WY rfl))
def md{a b:Nat}(l:b<=a):mB .sub false (I a) (I b) h=some (I (a-b),h):=W0 (λi=>some (V.int i,h)) (Int.ofNat_sub l).symm
def qI(p:ao a ⟨A,h⟩ (.bool x) h)(q:oZ true (b::G) ⟨A,h⟩ (.bool y) h):oZ true (a::b::G) ⟨A,h⟩ (.bool (x&&y)) h:=by
 induction x with|true=>exact jO p rfl q|false=>exact ph p rfl
def b4(T:ZE):Z:=aai ⟨.node (some (.ah .T T 0)) .nil .nil,1⟩
noncomputable def ey(l:List aV):ZF:=l.map aV.v
def rp:Wx (ey l)=l.length:=by unfold ey;rw[c5,Xs]
def Vo:U (ey a) (ey b)=ey (a++b):=by unfold ey;rw[cQ,Yw]
def HF{R:List aV}:R.map (λt=>(g t).v)=ey (R.map g):=Yt.symm
def r8(h:m<=8):(cc b c a m).length<9000:=
 W3 (I5 m h) (dZ (Xb.mp (show((aB 0 9).all λm=>Nat.blt (nP m) 9000)=true by kernel_rfl) m (gG _ (Xj m) (W3 h (Xh 8)))))
abbrev B9:List S:=cA (cm Dl 1)
abbrev uV:List S:=cA (B9.headD .eF)
abbrev yx:List S:=cA ((uV.drop 1).headD .eF)
abbrev B':List S:=cA ((yx.drop 1).headD .eF)
abbrev JL:List S:=cA ((Hy (B'.headD .eF)).headD .eF)
abbrev rY(E:C)(b:ZI)(W:V)(m a:Nat)(F:List aV):ZD:=[(170,W),(157,.ae (WB E b)),(178,.ref 0),(152,I m),(7,I a),(12,.ae (ey F))]
abbrev qe(E:C)(b:ZI)(W:V)(m a i:Nat)(r:V)(F:List aV):ZD:=U (rY E b W m a F) [(22,I i),(24,r)]
def zB(e:au A 178=some (.ref 0))(p:ao b ⟨A,b4 T⟩ (I a) (b4 T))(q:ao f ⟨A,b4 T⟩ (I c) (b4 T))(g:bL T (.t [.ofNat a,.ofNat c])=some (.ae (ey L))):ao (.sub (.F 178) (.ay [b,f])) ⟨A,b4 T⟩ (.ae (ey L)) (b4 T):=
 bw (J e) (d8 (aI p (aq q))) (lO rfl rfl g)
def BR(a:au A 12=some (.ae (ey acc)))(p:ao e ⟨A,h⟩ (.ae (ey r)) h)(l:(acc++r).length<9000)(f:Wy A 12 (.ae (ey (acc++r)))=t):cF (.bY (.F 12) (.a7 .add false (.F 12) e)) ⟨A,h⟩ .next ⟨t,h⟩:=by rw[<-f,<-Vo];rw[W8] at l;exact dk (cV (J a) p ((fN (jq (by rw[iF];exact(by rw[rp,rp];exact W4 l (WY rfl)))) rfl)))
def Vb(g:bL T (.t [.ofNat (a+s+1),.ofNat (m-s-1)])=some (.ae (ey R)))(P:s+1<m)(Q:R.length<9000)(L:List aV):∀{b:List aV},(b++L.flatMap λl=>R.map (aV.f i l)).length<9000->
  cS [69] JL (ey L) ⟨U (qe d e c m a i r b) [(155,I s)],b4 T⟩ .next ⟨U (qe d e c m a i r (b++L.flatMap λl=>R.map (aV.f i l))) [(155,I s)],b4 T⟩:=by
 induction L with
 |nil=>exactλ{b} _=>by rw[List.flatMap_nil,XB];exact dq
 |cons l L S=>
  intro b f;rw[Yb,<-X4] at f⊢;have k:=W3 (by rw[W8];exact Xd _ _) f
  refine cW rfl (M (BR rfl (h5 (c8 (zB rfl (cV (cV J J rfl) u rfl) (cV (cV J J (md (Xw (Xr P)))) u (md (Nat.le_sub_of_add_le (by rw[Xa];exact Xw P)))) g) rfl) (jq (by rw[rp];exact W4 Q (WY rfl))) rfl (HF▸z' (λ_ _=>rfl) λt _=>d8 (aI J (aI J (aq J)))) rfl) k rfl) ba) rfl (S f)
def U3(E:C):((aB 0 E.aD).all λB=> !(Wz Z2 (fB E B))&& !(Wz (fB E B) Z2)):=by induction E<;>kernel_rfl
def HC(P:B<a.aD):Wz Z2 (fB a B)=false/\Wz (fB a B) Z2=false:=
 have z:=a4 (Xb.mp (U3 a) B (gG _ (Xj _) (by rw[W7];exact P)))
 ⟨YM _▸z.1,YM _▸z.2⟩
def HB(X:b<a.length):∃H,a3 a b=some H/\H∈a/\cZ (.ae (WB c a)) (I b) h=some (ff c H):=(m7 a (c5▸X)).elim λH e=>⟨H,e,rE a e,js (by unfold WB;rw[c9,c5];exact X) ((kV a).trans (W0 _ e))⟩
def HA(R:dp a b)(X:c<b.length)(g:i<a.R)(e:au A 157=some (.ae (WB a b)))(p:ao d ⟨A,h⟩ (I c) h)(q:ao f ⟨A,h⟩ (dH a (a.bC i)) h):ao (.aw .eq (.sub (.F 157) d) f) ⟨A,h⟩ (.bool (g6 a b c i)) h:=
 (HB X).elim λo z=>bF (bw (J e) p z.2.2) q (by
  unfold g6;refine z.1▸?_;induction o with|none=>exact W0 some (HC (pV (p:=0) g)).1|some j=>exact W0 some (Aq (R _ z.2.1) (pV (p:=0) g)))
def U2(R:dp d a)(X:b<a.length)(e:au A 157=some (.ae (WB d a)))(p:ao c ⟨A,h⟩ (I b) h):ao (.aw .eq (.sub (.F 157) c) (.lit (.str Z2))) ⟨A,h⟩ (.bool (gq a b)) h:=
 (HB X).elim λo z=>bF (bw (J e) p z.2.2) u (by
  unfold gq;refine z.1▸?_;induction o with|none=>rfl|some B=>exact W0 some (HC (R _ z.2.1)).2)
def tp(h:cJ a b):a=b:=match a,b,h with
 |.i _,.i _,h=>W0 _ (mU.mp h)
 |.s _,.s _,h=>W0 _ (k4.mp h)
 |.t _,.t _,h=>W0 _ (zH.mp h)
def tq(a:aE):cJ a a:=match a with
 |.i _=>mU.mpr rfl
 |.s _=>k4.mpr rfl
 |.t _=>zH.mpr rfl
def vg(d:ZE):bL (cU d q v) p=match cJ q p with
 |true=>some v
 |false=>bL d p:=by
 induction d with
 |nil=>rfl
 |cons x r S=>
  induction x with
  |mk k w=>
  show bL (match cJ k q with|true=>(k,v)::r|false=>(k,w)::cU r q v) p=match cJ q p with|true=>some v|false=>(match cJ k p with|true=>some w|false=>bL r p)
  generalize R:cJ k q=N;induction N with
  |true=>
   have e:=tp R;subst e;show(match cJ k p with|true=>some v|false=>bL r p)=_
   cases cJ k p<;>rfl
  |false=>
   show(match cJ k p with|true=>some w|false=>bL (cU r q v) p)=_
   rw[S];generalize a:cJ k p=N;induction N with
   |false=>rfl
   |true=>have e:=tp a;subst e;exact(show cJ q k=false from XO.mpr λz=>by rw[tp z,tq] at R;nomatch R)▸rfl
def je(E:C)(I:ZI)(T:ZE)(m a:Nat):Prop:=∀b n,0<n->(n<m\/(n=m/\b<a))->b+n<=I.length->bL T (.t [.ofNat b,.ofNat n])=some (.ae (ey (cc E I b n)))
def je.a5(U:je f' ws kvs c' a'):je f' ws (cU kvs (.t [.ofNat a',.ofNat c']) (.ae (ey (cc f' ws a' c')))) c' (a'+1):=λC M Z Y o=>by
 rw[vg];generalize j:cJ (.t [.ofNat a',.ofNat c']) (.t [.ofNat C,.ofNat M])=fi;induction fi with
 |true=>
  have J:=W0 (λk=>match k with|.t o=>o|_=>[]) (tp j)
  have V:=YF (XQ J).1;have W:=YF (XQ (XQ J).2).1;subst V W
  rfl
 |false=>exact U C M Z (Y.imp id λu=>⟨u.1,(Yu (XG u.2)).elim id λcK=>by rw[cK,u.1,tq] at j;nomatch j⟩) o
def je.up(J:je f' ws kvs a' c')(V:ws.length<c'+a'):je f' ws kvs (a'+1) 0:=λo W U M C=>J o W U (M.elim (λj=>(Yu (XG j)).imp id λu=>⟨u,Nat.lt_of_add_lt_add_right (W3 (u▸C) V)⟩) λj=>absurd j.2 (Yk o)) C
def Ub(L:je b d T m a)(R:dp b d)(q:m<=8)(D:a+m<=d.length)(A:i<b.R)(n:Nat):∀{s:Nat}{e:List aV},1<=s->s+n+1<=m\/n=0->(e++(aB s n).flatMap (hT b d (cc b d) a m i)).length<9000->
  cS [155] B' ((aB s n).map I) ⟨qe b d f m a i (e6 b g i) e,b4 T⟩ .next ⟨qe b d f m a i (e6 b g i) (e++(aB s n).flatMap (hT b d (cc b d) a m i)),b4 T⟩:=by
 induction n with
 |zero=>exactλ{s e} _ _ _=>by rw[show(aB s 0).flatMap (hT b d (cc b d) a m i)=[] from rfl,XB];exact dq
 |succ n S=>
  intro s e j X h;have X:=X.elim id λz=>nomatch z;have P:=W4 (Yy (Xq (Xk n)) 1) X;have r:s+1+n+1<=m:=by exact(W9 s 1 n)▸(Xa 1 n)▸X
  rw[show(aB s (n+1)).flatMap (hT b d (cc b d) a m i)=hT b d (cc b d) a m i s++(aB (s+1) n).flatMap (hT b d (cc b d) a m i) from Yb,<-X4] at h⊢;have k:=W3 (by rw[W8];exact Xd _ _) h
  have H:=S (XT j) (.inl r) h;have c:ao (.bool true [(.c6 .not (.sub (.F 24) (.lit (.int 1)))),(.aw .eq (.sub (.F 157) (.a7 .add false (.F 7) (.F 155))) (.sub (.F 24) (.lit (.int 0))))]) ⟨U (qe b d f m a i (e6 b g i) e) [(155,I s)],b4 T⟩ (.bool (!(Nat.beq i b.k)&&g6 b d (a+s) i)) (b4 T):=fX (qI (hK (bw J u rfl) rfl) (h4 (HA R (W4 (Yg (Xr P) a) D) A rfl (cV J J rfl) (bw J u rfl))));unfold hT at k H⊢;cases dO: !(Nat.beq i b.k)&&g6 b d (a+s) i with
  |false=>rw[dO] at c k H;rw[show g0 false ((cc b d a s).flatMap λl=>(cc b d (a+s+1) (m-s-1)).map (aV.f i l))=[] from rfl,XB] at H⊢;exact cW rfl (M (cX c rfl) ba) rfl H
  |true=>
   rw[dO] at c k H;have N:m-s-1<m:=W3 (XW _ _) (YH (W4 (Xk _) (Xw P)) j);have o:a+s+1+(m-s-1)<=d.length:=by rw[Zn,W9 a s 1,W9,Yc (Xw P)];exact D
   exact cW rfl (M (c1 c rfl (M (da (c8 (zB rfl J J (L a s j (.inl (Xr P)) (W5 (Xg (Xw (Xr P)) a) D))) rfl) rfl (Vb (c:=f) (d:=b) (e:=d) (i:=i) (r:=e6 b g i) (L _ _ (Nat.sub_pos_of_lt (Nat.lt_sub_of_add_lt (by rw[Xa];exact P))) (.inl N) o) P (r8 (W5 (Xw N) q)) (cc b d a s) (b:=e) k) rfl) ba)) ba) rfl H
def Ta(L:je b d T m a)(R:dp b d)(q:m<=8)(P:1<=m)(D:a+m<=d.length)(n:Nat):∀{i:Nat}{f:List aV},i+n=b.R->(f++(aB i n).flatMap (hz b d (cc b d) a m)).length<9000->
  cS [22,24] yx (mK ((aB i n).map (e6 b h)) (.ofNat i)) ⟨rY b d g m a f,b4 T⟩ .next ⟨rY b d g m a (f++(aB i n).flatMap (hz b d (cc b d) a m)),b4 T⟩:=by
 induction n with
 |zero=>exactλ{i f} _ _=>by rw[show(aB i 0).flatMap (hz b d (cc b d) a m)=[] from rfl,XB];exact dq
 |succ n S=>
  intro i f e j;have A:=e▸Xq (Xk n);rw[show(aB i (n+1)).flatMap (hz b d (cc b d) a m)=hz b d (cc b d) a m i++(aB (i+1) n).flatMap (hz b d (cc b d) a m) from Yb,<-X4] at j⊢;have H:=S (by rw[<-e,W9,Xa 1]) j
  have k:=W3 (by rw[W8];exact Xd _ _) j
  unfold hz at k H⊢;rw[<-X4] at k H⊢;have l:iu (.range (some (.lit (.int 1))) (.a7 .sub false (.F 152) (.lit (.int 1)))) ⟨qe b d g m a i (e6 b h i) (f++nf b d (cc b d) a m i),b4 T⟩ ((aB 1 (m-2)).map I) .none (b4 T):=by rw[<-j5];exact zF u (cV J u (md P)) rfl (mC (W3 (W5 (XW m 1) q) (WY rfl)))
  exact cW rfl (M ((by
   have j:=(W3 (by rw[W8];exact Xd _ _) k)
   have c:ao (.bool true [(.sub (.F 24) (.lit (.int 1))),(.aw .eq (.sub (.F 157) (.F 7)) (.sub (.F 24) (.lit (.int 0)))),(.aw .gt (.F 152) (.lit (.int 1)))]) ⟨qe b d g m a i (e6 b h i) f,b4 T⟩ (.bool (Nat.beq i b.k&&(g6 b d a i&&Nat.blt 1 m))) (b4 T):=fX (qI (bw J u rfl) (qI (HA R (W4 (Xq P) D) A rfl J (bw J u rfl)) (h4 (bF J u rfl))));unfold nf at j⊢;cases dO:Nat.beq i b.k&&(g6 b d a i&&Nat.blt 1 m)with
   |false=>have c:=dO▸c;rw[show g0 false ((cc b d (a+1) (m-1)).map (aV.p i))=[] from rfl,XB];exact cX c rfl
   |true=>
    rw[dO] at c j;have t:=L (a+1) (m-1) (Nat.sub_pos_of_lt (dZ (a4 (a4 dO).2).2)) (.inl (YH P (Xk 0))) (by rw[W9,Yc P];exact D)
    exact c1 c rfl (M (BR rfl (h5 (c8 (zB rfl (cV J u rfl) (cV J u (md P)) t) rfl) (jq (by rw[rp];exact W4 (r8 (W5 (XW _ _) q)) (WY rfl))) rfl (HF▸z' (λ_ _=>rfl) λt _=>d8 (aI J (aq J))) rfl) j rfl) ba))) (M (da l rfl (Ub (f:=g) (g:=h) L R q D A (m-2) (Xe 1) (by lia) k) rfl) ba)) rfl H
section
variable{E:C}{O:ZK}{G:List dD}{k g X:Nat}{T:ZI}{S:ZE}{R:V}{i a s m n:Nat}{h:Z}
def Ff:Wx (WB E T)=T.length:=by unfold WB;rw[c9,c5]
def uN(h:d+(n+1)<m)(l:b<=d+1):b+n<m:=W3 (Xl l n) (by rw[W9,Xa 1];exact h)
abbrev pa(E:C)(T:ZI)(R:V)(m:Nat):ZD:=[(170,R),(157,.ae (WB E T)),(178,.ref 0),(152,I m)]
def JD(L:je E T S m a)(V:O.length=E.eD.length)(R:dp E T)(q:m<=8)(P:1<=m)(D:a+m<=T.length)(b:Wx S<900):∃l,bE uV ⟨U (pa E T (bN E O G k g X) m) [(7,I a)],b4 S⟩ .next ⟨U (pa E T (bN E O G k g X) m) ((7,I a)::l),b4 (cU S (.t [.ofNat a,.ofNat m]) (.ae (ey (cc E T a m))))⟩:=by
 have c:ao (.bool true [(.aw .eq (.F 152) (.lit (.int 1))),(.aw .eq (.sub (.F 157) (.F 7)) (.lit (.str Z2)))]) ⟨U (pa E T (bN E O G k g X) m) [(7,I a)],b4 S⟩ (.bool (Nat.beq m 1&&gq T a)) (b4 S):=fX (qI (bF J u rfl) (h4 (U2 R (W4 (Xq P) D) rfl J)));have A:cF (uV.headD .eF) ⟨U (pa E T (bN E O G k g X) m) [(7,I a)],b4 S⟩ .next ⟨rY E T (bN E O G k g X) m a (g0 (Nat.beq m 1&&gq T a) [aV.a]),b4 S⟩:=by
  cases dO:Nat.beq m 1&&gq T a with
  |false=>rw[dO] at c;exact cI (jT c rfl (fu du))
  |true=>rw[dO] at c;exact cI (lH c rfl (fu (aq u)))
 have e:cc E T a m=j9 E T (cc E T) a m:=by
  induction m with
  |zero=>nomatch P
  |succ m=>exact o7
 have f:=Ta (g:=bN E O G k g X) (h:=O) L R q P D E.R (i:=0) (f:=g0 (Nat.beq m 1&&gq T a) [aV.a]) (W7 _) (by have z:=r8 (b:=E) (c:=T) (a:=a) q;rw[e] at z;exact z)
 rw[<-ni V] at f;have f:cS [22,24] yx (mK (qj E O) 0) ⟨rY E T (bN E O G k g X) m a (g0 (Nat.beq m 1&&gq T a) [aV.a]),b4 S⟩ .next ⟨rY E T (bN E O G k g X) m a (j9 E T (cc E T) a m),b4 S⟩:=f;rw[<-e] at f;exact⟨_,M A (M (da (EE (bw J u rfl) rfl) rfl f rfl) (M (jy J J (d8 (aI J (aq J))) ((rT (P:=.T) (y:=.t [.ofNat a,.ofNat m]) (T:=S) rfl rfl (dW (W4 b (WY rfl)))).trans rfl)) ba))⟩
def JE(c:O.length=E.eD.length)(R:dp E T)(q:m<=8)(P:1<=m)(n:Nat):∀{a:Nat}{S:ZE},a+n+m=T.length+1->je E T S m a->Wx S+n<800->∃b,cS [7] uV ((aB a n).map I) ⟨pa E T (bN E O G k g X) m,b4 S⟩ .next ⟨pa E T (bN E O G k g X) m,b4 b⟩/\je E T b (m+1) 0/\Wx b<=Wx S+n:=by
 induction n with
 |zero=>exactλ{a S} e L _=>⟨S,dq,L.up (by exact(show a+m=T.length+1 from e)▸Xh _),Xe _⟩
 |succ n d=>
  intro a S e L l;have f:a+1+n+m=T.length+1:=by exact(W9 a 1 n)▸(Xa 1 n)▸e
  exact(JD L c R q P (XG (Zq (Yy (W4 (Xh a) (Xd _ n)) m) f)) (W3 (Xd _ _) (W4 l (WY rfl)))).elim λx z=>(d f L.a5 (uN l pW)).elim λb y=>⟨b,cW rfl z rfl y.1,y.2.1,W5 y.2.2 (by rw[Xa n 1,<-W9];exact Xl pW n)⟩
abbrev wq(E:C)(T:ZI)(R:V):ZD:=[(170,R),(157,.ae (WB E T)),(178,.ref 0)]
def zY(e:au A 157=some (.ae (WB E T))):ao (.bq false .len [(.F 157)]) ⟨A,h⟩ (I T.length) h:=d4 (aq (J e)) (W0 (λn=>some (I n,h)) (Ff))
def Qs(a:O.length=E.eD.length)(R:dp E T)(q:T.length<=8)(n:Nat):∀{m:Nat}{S:ZE},m+n=T.length+1->1<=m->je E T S m 0->Wx S+10*n<700->∃b,cS [152] B9 ((aB m n).map I) ⟨wq E T (bN E O G k g X),b4 S⟩ .next ⟨wq E T (bN E O G k g X),b4 b⟩/\je E T b (T.length+1) 0:=by
 induction n with
 |zero=>exactλ{m S} e _ L _=>⟨S,dq,e▸L⟩
 |succ n c=>
  intro m S e P L l;have D:=XG (Zq (Xq (Xk n)) e);have d:T.length-m+1<=9:=Xp (W5 (XW _ _) q);have f:∀{S},iu (.range none (.a7 .add false (.a7 .sub false (.bq false .len [(.F 157)]) (.F 152)) (.lit (.int 1)))) ⟨pa E T (bN E O G k g X) m,b4 S⟩ ((aB 0 (T.length-m+1)).map I) .none (b4 S):=λ{S}=>by rw[<-j5];exact kI (cV (cV (zY rfl) J (md D)) u rfl) (mC (W3 d (WY rfl)))
  exact(JE a R (W5 D q) P (T.length-m+1) (a:=0) (S:=S) (by rw[W7,XJ,YJ D]) L (by lia)).elim λh z=>(c (m:=m+1) (by rw[<-e,W9,Xa 1]) (XT P) z.2.1 (by have:=z.2.2;lia)).elim λB y=>⟨B,cW rfl (M (da f rfl z.1 rfl) ba) rfl y.1,y.2⟩
end
def KO(t:aV):∀{B:Nat},cg (t.dN+1+B) t.v:=by
 have D:∀{a b B:Nat},a<=b->∃k,b+1+B=a+1+k:=λ{a b B} h=>(Nat.exists_eq_add_of_le h).elim λc e=>⟨c+B,by rw[e,XJ a c 1,W9]⟩
 induction t with|a=>exactλ{B}=>by rw[Xa];rfl|p i t S=>intro B;exact(show(aV.p i t).dN+1+B=t.dN+1+B+1 from XJ (t.dN+1) 1 B)▸qW (cf (by rw[XJ];rfl) (cf S rfl))|f i l r m Q=>intro B;exact(show(aV.f i l r).dN+1+B=max l.dN r.dN+1+B+1 from XJ (max l.dN r.dN+1) 1 B)▸qW (cf (by rw[XJ];rfl) (cf ((D (YT l.dN r.dN)).elim λk e=>e▸m) (cf ((D (YQ l.dN r.dN)).elim λk e=>e▸Q) rfl)))
def rz(h:x∈g0 b l):b=true/\x∈l:=by
 induction b with|true=>exact⟨rfl,h⟩|false=>exact eu h
section
variable{E:C}{O:ZK}{G:List dD}{k g X:Nat}{V:ZI}{h:Z}{S:Prop}{T:Nat->Nat->List aV}{a m:Nat}{t:aV}
def FN(b:t∈j9 E V T a m)(v:t=.a->m=1->gq V a->S)(G:∀L,t=.p E.k L->E.k<E.R->g6 E V a E.k->1<m->L∈T (a+1) (m-1)->S)
  (B:∀i l r s,t=.f i l r->i<E.k->1<=s->s+1<m->g6 E V (a+s) i->l∈T a s->r∈T (a+s+1) (m-s-1)->S):S:=by
 refine(XF.mp b).elim (λh=>?_) λh=>(X5.mp h).elim λi z=>(XF.mp z.2).elim (λh=>?_) λh=>(X5.mp h).elim λs w=>?_
 .have z:=rz h
  exact v (Xf.mp z.2) (W2 (a4 z.1).1) (a4 z.1).2
 .have y:=rz h
  have e:=W2 (a4 y.1).1;have A:=(g8 _ z.1).2;rw[W7,e] at A;rw[e] at y;exact(Xz.mp y.2).elim λL q=>G L q.2.symm A (a4 (a4 y.1).2).1 (dZ (a4 (a4 y.1).2).2) q.1
 .have y:=rz w.2
  have ny:=xm w.1;have A:=(g8 _ z.1).2;rw[W7] at A;have D:i≠E.k:=λe=>by have q:=(a4 y.1).1;rw[e,Xn] at q;exact bb q
  exact(X5.mp y.2).elim λl q=>(Xz.mp q.2).elim λr f=>B i l r s f.2.symm (Zr (XG (W4 A (by induction E<;>exact WY rfl))) D) ny.1 ny.2 (a4 y.1).2 q.1 f.1
def uI(m:Nat):∀{a:Nat}{t:aV},t∈cc E V a m->t.dN<=m/\t.cq E:=by
 induction m using Nat.strongRecOn with
 |ind m S=>
  intro a t b;induction m with
  |zero=>exact eu b
  |succ m=>
   rw[o7] at b;refine FN b (λe _ _=>e▸⟨Xp (Xj _),trivial⟩) (λu e Q _ P H=>?_) λi l r s e A P N _ f F=>?_
   .have z:=S m (Xh m) H
    exact e▸⟨Xp z.1,rfl,Q,z.2⟩
   .have z:=S s (Xr N) f
    have y:=S (m+1-s-1) (W3 (XW _ _) (YH (Xk m) P)) F;exact e▸⟨Xp (Nat.max_le.mpr ⟨W5 z.1 (Xw (Ya N)),W5 y.1 (Nat.sub_le_sub_right (XW (m+1) s) 1)⟩),A,z.2,y.2⟩
def i9(E:C)(V:ZI):List aV:=cc E V 0 V.length
def KP(T:∀t∈l,t.dN<=8):dR (cg 59) (ey l):=B0 λx m=>(Xz.mp m).elim λt z=>z.2▸by
 have e:(59:Nat)=t.dN+1+(58-t.dN):=(W0 (·+1) (Yc (W5 (T t z.1) (by decide):t.dN<=58))).symm.trans (XJ t.dN (58-t.dN) 1)
 exact e▸KO t
def Pk(a:O.length=E.eD.length)(R:dp E V)(q:V.length<=8):aY .pure 131 [bN E O G k g X,.ae (WB E V)] h (.ae (ey (i9 E V))) h:=by
 refine(Qs (G:=G) (k:=k) (g:=g) (X:=X) a R q V.length (S:=[]) (Xa _ _) (Xe 1) (λb n x h=>absurd x (h.elim (λz=>X9 (XG z)) λz=>absurd z.2 (Yk b))) (W3 (W5 (Xu (W7 _)) (XE 10 q)) (WY rfl))).elim λT z=>?_;have e:iu (.range (some (.lit (.int 1))) (.a7 .add false (.bq false .len [(.F 157)]) (.lit (.int 1)))) ⟨wq E V (bN E O G k g X),b4 []⟩ ((aB 1 V.length).map I) .none (b4 []):=by rw[<-j5];exact zF u (cV (zY rfl) u rfl) rfl (mC (W3 (Xp q) (WY rfl)))
 have c:ao (.aw .cC (.F 157) (.ae false [])) ⟨wq E V (bN E O G k g X),b4 T⟩ (.bool (j2 V)) (b4 T):=bF J (fu du) (by induction V<;>rfl)
 refine ks (P:=b4 T) (cf (vc a) (cf (hn (jM λo=>by induction o<;>rfl)) rfl)) rfl rfl rfl (M (cI (P:=b4 []) (mH oD)) (M (da e rfl z.1 rfl) (bG (cb (a:=.ae (ey (i9 E V))) ?_)))) rfl (hn (KP λt d=>W5 (uI _ d).1 q))
 induction V with|nil=>exact jT c rfl (fu du)|cons o r=>exact lH c rfl (bw J (d8 (aI u (aq (zY rfl)))) (lO rfl rfl (z.2 0 (r.length+1) (Xk _) (.inl (Xh _)) (Xu (W7 _)))))
end
def aW(x:ZH)(g:Nat):Nat:=match au x g with
 |some v=>v
 |none=>0
noncomputable def ef(b:Bool)(n:Nat):Nat:=match b with
 |true=>n
 |false=>0
def xJ(a:ZK)(k:Nat):Nat:=match a3 a k with
 |some v=>v
 |none=>0
def es(a:ZK)(P s k:Nat):Bool:=Nat.blt k P&&Nat.beq (xJ a k) s
def kL(a:ZK)(P:Nat)(C:Nat->Nat->Nat->Nat)(s k c g:Nat):Nat:=ef (es a P s k&&Nat.beq (k+1) g) c+ef (Nat.ble k g&&Nat.ble g P) (c*C s k g)
def hC(a:ZK)(P:Nat)(C:Nat->Nat->Nat->Nat)(s:Nat)(f:Nat->Nat)(g:Nat):Nat:=cL ((aB 0 (P+1)).map λk=>kL a P C s k (f k) g)
def o5(a:ZK)(P:Nat)(C:Nat->Nat->Nat->Nat)(O:ZK):(Nat->Nat)->Prop:=
 O.rec (λ_=>True) λs _ S f=>(∀k,f k<jl)/\S (hC a P C s f)
def nj(a:ZK)(P:Nat)(C:Nat->Nat->Nat->Nat)(O:ZK):(Nat->Nat)->Nat->Nat:=
 O.rec (λf=>f) λs _ S f=>S (hC a P C s f)
inductive gu(P:Nat):ZH->Prop where
 |nil:gu P []
 |cons {k v:Nat} {r:ZH}:au r k=none->k<=P->gu P r->gu P ((k,v)::r)
section
variable{x r:ZH}{k g v n P:Nat}
def FA:au (Wy x k v) g=match Nat.beq k g with
 |true=>some v
 |false=>au x g:=by
 induction x with
 |nil=>rfl
 |cons e x S=>
  show au (match Nat.beq e.1 k with|true=>(e.1,v)::x|false=>e::Wy x k v) g=match Nat.beq k g with|true=>some v|false=>(match Nat.beq e.1 g with|true=>some e.2|false=>au x g)
  generalize R:Nat.beq e.1 k=N;induction N with
  |true=>
   show(match Nat.beq e.1 g with|true=>some v|false=>au x g)=_
   rw[W2 R];cases Nat.beq k g<;>rfl
  |false=>
   show(match Nat.beq e.1 g with|true=>some e.2|false=>au (Wy x k v) g)=_
   rw[S];generalize i:Nat.beq e.1 g=N;induction N with
   |false=>rfl
   |true=>rw[show Nat.beq k g=false from ee λz=>by rw[W2 i,z,Xn] at R;nomatch R]
def C1:aW (Wy x k (aW x k+v)) g=aW x g+ef (Nat.beq k g) v:=by
 unfold aW;refine FA▸?_;generalize R:Nat.beq k g=N;induction N with|true=>refine(W2 R)▸?_;rfl|false=>rfl
def gu.a5(o:gu P x)(M:k<=P):gu P (Wy x k v):=by
 induction o with
 |nil=>exact .cons rfl M .nil
 |cons u J o U=>
  rename_i j V r
  show gu P (match Nat.beq j k with|true=>(j,v)::r|false=>(j,V)::Wy r k v)
  generalize C:Nat.beq j k=Y;induction Y with
  |true=>exact .cons u J o
  |false=>exact .cons (by rw[FA,ee λW=>by rw[W,Xn] at C;nomatch C];exact u) J U
def uo{l:ZK}(h:∀x∈l,f x=0):cL (l.map f)=0:=by
 induction l with|nil=>rfl|cons x l S=>exact u5 (·+·) (h x (.head _)) (S λy m=>h y (.tail _ m))
def Uw{f g:Nat->Nat}{l:ZK}:cL (l.map λx=>f x+g x)=cL (l.map f)+cL (l.map g):=by
 induction l with|nil=>rfl|cons x l S=>show f x+g x+cL _=f x+cL _+(g x+cL _);rw[S,Nat.add_add_add_comm]
def Bi{j:Nat}(n:Nat):∀{i:Nat},i<=j->j<i+n->(∀x,x≠j->f x=0)->cL ((aB i n).map f)=f j:=by
 induction n with
 |zero=>exactλh k _=>absurd k (X9 h)
 |succ n S=>
  intro i h k z;show f i+cL ((aB (i+1) n).map f)=f j;refine(Yu h).elim (λl=>?_) λe=>?_
  .rw[z i (Xi l),W7]
   exact S l (by rw[YN];exact k) z
  .rw[e,uo λx m=>z x (XK (W4 (Xh j) (g8 n m).1))]
   rfl
def CZ(h:au r e.1=none):aW (e::r) B=aW r B+ef (Nat.beq e.1 B) e.2:=by
 unfold aW;show(match(match Nat.beq e.1 B with|true=>some e.2|false=>au r B)with|some v=>v|none=>0)=_
 generalize G:Nat.beq e.1 B=N;induction N with|true=>exact(W2 G)▸h▸(W7 _).symm|false=>rfl
def LG{F:Nat->Nat->Nat}(a:∀k,F k 0=0)(h:gu P r):cL (r.map λe=>F e.1 e.2)=cL ((aB 0 (P+1)).map λk=>F k (aW r k)):=by
 induction h with
 |nil=>exact(uo λk _=>a k).symm
 |cons e l h S=>
  rename_i k v r
  have z:∀j,F j (aW ((k,v)::r) j)=F j (aW r j)+ef (Nat.beq k j) (F k v):=λj=>by
   rw[CZ (e:=(k,v)) e];generalize G:Nat.beq k j=N;induction N with|true=>have f:=W2 G;subst f;refine(?_:F k (aW r k+v)=F k (aW r k)+F k v);rw[show aW r k=0 by unfold aW;rw[e],a,W7,W7]|false=>rfl
  rw[me λj _=>z j,Uw,<-S,Bi (P+1) (Xj k) (by rw[W7];exact Yf l) λj b=>by rw[ee (Ne.symm b)];rfl,Xn,Xa]
  rfl
def CW(h:gu P r):∀e∈r,aW r e.1=e.2:=by
 induction h with
 |nil=>exactλ_ h=>eu h
 |cons e l h S=>
  rename_i k v r
  intro x m;rw[CZ e];cases m with
  |head=>rw[show aW r k=0 by unfold aW;rw[e],Xn];exact W7 v
  |tail _ m=>
   rw[S x m,show Nat.beq k x.1=false from ee λz=>?_]
   .rfl
   .have y:=S x m
    have q:=z3 (Xz.mpr ⟨x,m,rfl⟩);exact q.elim λw q=>by rw[<-z,e] at q;exact cB q
end
def n'(c:Nat)(M:Nat->Nat)(O:ZK):ZH->ZH:=
 O.rec (λx=>x) λg _ S x=>S (match Nat.blt 0 (M g)with|true=>Wy x g (aW x g+c*M g)|false=>x)
def pM(b:Bool)(k c:Nat)(x:ZH):ZH:=match b with
 |true=>Wy x (k+1) (aW x (k+1)+c)
 |false=>x
def nz(a:ZK)(P:Nat)(C:Nat->Nat->Nat->Nat)(s:Nat)(O:ZH):ZH->ZH:=
 O.rec (λx=>x) λe _ S x=>S (n' e.2 (C s e.1) (aB e.1 (P+1-e.1)) (pM (es a P s e.1) e.1 e.2 x))
def Nu(n:Nat):∀{g:Nat}{x:ZH}{B:Nat},aW (n' c r (aB g n) x) B=aW x B+ef (Nat.ble g B&&Nat.blt B (g+n)) (c*r B):=by
 induction n with
 |zero=>
   intro g x B;show aW x B=aW x B+ef (Nat.ble g B&&Nat.blt B g) _;rw[show(Nat.ble g B&&Nat.blt B g)=false from XO.mpr λz=>X9 (WY (a4 z).1) (dZ (a4 z).2)]
   rfl
 |succ n S=>
  intro g x B;have d':aW (match Nat.blt 0 (r g)with|true=>Wy x g (aW x g+c*r g)|false=>x) B=aW x B+ef (Nat.beq g B) (c*r g):=by
   generalize G:Nat.blt 0 (r g)=N;induction N with
   |true=>exact C1
   |false=>
    rw[show r g=0 from Nat.eq_zero_of_not_pos λz=>by rw[dF z] at G;nomatch G,ZC]
    cases Nat.beq g B<;>rfl
  show aW (n' c r (aB (g+1) n) _) B=_;rw[S,d',W9];refine W0 (aW x B+·) ?_;generalize i:Nat.beq g B=N;induction N with
  |true=>
   have e:=W2 i;subst e;rw[show Nat.ble (g+1) g=false from XO.mpr λz=>Ze g (WY z),show Nat.ble g g=true from X1 (Xe g),show Nat.blt g (g+(n+1))=true from dF (Xq (Xk n))]
   rfl
  |false=>
   have D:g≠B:=λz=>by rw[z,Xn] at i;nomatch i
   rw[show Nat.ble (g+1) B=Nat.ble g B from XS.mpr ⟨λz=>X1 (XI (WY z)),λz=>X1 (Zr (WY z) D)⟩,show g+1+n=g+(n+1)by rw[W9,Xa 1]]
   exact W7 _
def Ol:aW (pM b k c x) B=aW x B+ef (b&&Nat.beq (k+1) B) c:=by
 induction b with|true=>exact C1|false=>rfl
def T'(r:ZH):∀{x:ZH}{B:Nat},(∀e∈r,e.1<=P)->aW (nz a P X s r x) B=aW x B+cL (r.map λe=>kL a P X s e.1 e.2 B):=by
 induction r with
 |nil=>exactλ_=>rfl
 |cons e r S=>
  intro x B h;refine(?_:aW (nz a P X s r _) B=aW x B+(kL a P X s e.1 e.2 B+cL _));rw[S λy m=>h y (.tail _ m),Nu,Ol,Yc (XT (h e (.head _))),W9,W9];unfold kL;rw[<-W9 (ef (es a P s e.1&&Nat.beq (e.1+1) B) e.2)]
  rfl
def Nt(l:ZK):∀{x:ZH},(∀g∈l,g<=P)->gu P x->gu P (n' c r l x):=by
 induction l with
 |nil=>exactλ_ d=>d
 |cons g l S=>
  intro x h d;refine S (λy m=>h y (.tail _ m)) ?_;generalize Nat.blt 0 (r g)=N;induction N with|true=>exact d.a5 (h g (.head _))|false=>exact d
def Nv(l:ZK):∀{x:ZH},Wx (n' c r l x)<=Wx x+l.length:=by
 induction l with
 |nil=>exact Xe _
 |cons g l S=>
  intro x;refine W5 S ?_;refine(?_:_+l.length<=Wx x+(l.length+1));rw[Xa l.length 1,<-W9];refine Xl ?_ _;generalize Nat.blt 0 (r g)=N;induction N with|true=>exact wb|false=>exact Xt _
def Oj(d:gu P x):gu P (pM (es a P s k) k c x):=by
 generalize G:es a P s k=N;induction N with|true=>exact d.a5 (dZ (a4 G).1)|false=>exact d
def Ef:Wx (pM b k c x)<=Wx x+1:=by
 induction b with|true=>exact wb|false=>exact Xt _
def T9(r:ZH):∀{x:ZH},(∀e∈r,e.1<=P)->gu P x->gu P (nz a P X s r x):=by
 induction r with|nil=>exactλ_ d=>d|cons e r S=>exactλh d=>S (λy m=>h y (.tail _ m)) (Nt _ (λg m=>XG (by have z:=(g8 _ m).2;rw[Yc (XT (h e (.head _)))] at z;exact z)) (Oj d))
def Gk(h:P<11):Wx (n' c r (aB k (P+1-k)) (pM (es a P s k) k c x))<=Wx x+12:=by refine W5 (Nv _) ?_;rw[oR];exact W5 (XY Ef (W5 (XW _ _) h)) (Xu (W9 ..))
def Ua(r:ZH)(h:P<11):∀{x:ZH},Wx (nz a P X s r x)<=Wx x+12*Wx r:=by
 induction r with|nil=>exact Xe _|cons e r S=>exactλ{x}=>W5 S (W5 (Xl (Gk h) _) (Xu (by rw[W9];show _=Wx x+12*(Wx r+1);rw[Yz,Xa 12])))
def gu.le(j:gu c' f'):∀a'∈f',a'.1<=c':=by
 induction j with
 |nil=>exactλ_ j=>eu j
 |cons _ C _ u=>exactλa' o=>by cases o with
  |head=>exact C
  |tail _ o=>exact u a' o
abbrev yA:List S:=cA (cm Dj 1)
abbrev yz:List S:=cA ((yA.drop 1).headD .eF)
abbrev B7:List S:=cA ((yz.drop 1).headD .eF)
abbrev e9(F:Z)(x:ZH):Z:=W F [some (.ah .I (D x) 0)]
abbrev iz(R:V)(a:ZK)(b P:Nat)(T:ZE)(p:Nat):ZD:=aai [(34,R),(157,.ae (a.map I)),(83,I b),(156,I P),(56,.ah .T T),(153,.ref p)]
section
variable{F:Z}{x r:ZH}{A:ZD}{K e:E}{k v p c s P b:Nat}{R:V}{a:ZK}{T:ZE}{X:Nat->Nat->Nat->Nat}
def HO(B:au A 154=some (.ref F.n))(a:ao K ⟨A,e9 F x⟩ (I k) (e9 F x))(aD:ao e ⟨A,e9 F x⟩ (I v) (e9 F x))(f:Wx x<90000):cF (.bY (.sub (.F 154) K) (.a7 .add false (.aC (.F 154) 3 [K,.lit (.int 0)]) e)) ⟨A,e9 F x⟩ .next ⟨A,e9 F (Wy x k (aW x k+v))⟩:=by
 have g:(e9 F x).get F.n=some (.ah .I (D x) 0):=cw (i:=0) _ rfl;have L:gC .I (D x) [I k,.int 0]=some (I (aW x k)):=W0 some (by rw[lk];unfold aW;cases au x k<;>rfl)
 exact jy (cV (d:=I (aW x k+v)) (q9 (J B) g (aI a (aq u)) g (tE g L)) aD rfl) (J B) a ((tB 0 rfl rfl (jq (by unfold D;rw[c9];exact f))).trans (by rw[uD];rfl))
def QS(L:d<jl):mB .mul false (I d) (I m) h=some (I (d*m),h):=by
 refine(?_:Y (bS (Nat.blt d jl) (some (Int.ofNat d*Int.ofNat m))) (λz=>some (V.int z,h))=_);rw[dF L]
 rfl
variable(S:∀s k g,gC .T T [.ay [I s,I k,I g],.int 0]=some (I (X s k g)))
include S in
def Nr(t:F.get p=some (.ah .I (D r) 1))(h:p<F.n)(j:au r k=some c)(L:c<jl)(n:Nat):∀{g:Nat}{x:ZH},Wx x+n<90000->cS [104] B7 ((aB g n).map I) ⟨U (iz R a b P T p) [(46,I s),(154,.ref F.n),(155,I k)],e9 F x⟩ .next ⟨U (iz R a b P T p) [(46,I s),(154,.ref F.n),(155,I k)],e9 F (n' c (X s k) (aB g n) x)⟩:=by
 induction n with
 |zero=>exactλ_=>dq
 |succ n d=>
  intro g x f;have i:cF (B7.headD .eF) ⟨U (iz R a b P T p) [(46,I s),(154,.ref F.n),(155,I k),(104,I g)],e9 F x⟩ .next ⟨U (iz R a b P T p) [(46,I s),(154,.ref F.n),(155,I k),(104,I g),(152,I (X s k g))],e9 F x⟩:=cI (kB J rfl (aI (d8 (aI J (aI J (aq J)))) (aq u)) rfl (ou (S s k g)));have V:∀{B},Nat.blt 0 (X s k g)=B->ao (.aw .gt (.F 152) (.lit (.int 0))) ⟨U (iz R a b P T p) [(46,I s),(154,.ref F.n),(155,I k),(104,I g),(152,I (X s k g))],e9 F x⟩ (.bool B) (e9 F x):=λe=>e▸bF J u rfl;show cS _ _ (I g::(aB (g+1) n).map I) _ _ ⟨_,e9 F (n' c (X s k) (aB (g+1) n) (match Nat.blt 0 (X s k g)with|true=>Wy x g (aW x g+c*X s k g)|false=>x))⟩
  generalize G:Nat.blt 0 (X s k g)=N;induction N with
  |false=>exact cW rfl (M i (M (cX (V G) rfl) ba)) rfl (d (Xr f))
  |true=>
   have E:cZ (.ref p) (I k) (e9 F x)=some (I c):=lO ((pJ _ h).trans t) rfl (by rw[lk,j];rfl)
   exact cW rfl (M i (M (c1 (V G) rfl (M (HO rfl J (cV (bw J J E) J (QS L)) (hs f)) ba)) ba)) rfl (d (uN f wb))
def Om(g:P<=a.length):ao (.bool true [(.aw .lt (.F 155) (.F 156)),(.aw .eq (.sub (.F 157) (.F 155)) (.F 46))]) ⟨U (iz R a b P T p) ((46,I s)::(154,.ref v)::(155,I k)::d),h⟩ (.bool (es a P s k)) h:=by
 have c:ao (.aw .lt (.F 155) (.F 156)) ⟨U (iz R a b P T p) ((46,I s)::(154,.ref v)::(155,I k)::d),h⟩ (.bool (Nat.blt k P)) h:=bF J J rfl;unfold es;generalize G:Nat.blt k P=N;induction N with
 |false=>rw[G] at c;exact fX (ph c rfl)
 |true=>
  rw[G] at c;have f:k<Wx a:=by rw[c5];exact W4 (dZ G) g
  exact(m7 a f).elim λw e=>fX (jO c rfl (h4 (bF (bw J J (js (by rw[c9];exact f) ((kV a).trans (W0 _ e)))) J (by unfold xJ;rw[e];rfl))))
include S in
def Uc(t:F.get p=some (.ah .I (D r) 1))(V:p<F.n)(k:P<=a.length)(H:P<11)(q:ZH):∀{x:ZH},(∀e∈q,au r e.1=some e.2/\e.2<jl/\e.1<=P)->Wx x+12*Wx q<80000->cS [155] yz (q.map λe=>I e.1) ⟨U (iz R a b P T p) [(46,I s),(154,.ref F.n)],e9 F x⟩ .next ⟨U (iz R a b P T p) [(46,I s),(154,.ref F.n)],e9 F (nz a P X s q x)⟩:=by
 induction q with
 |nil=>exactλ_ _=>dq
 |cons e q i=>
  intro x h g;have z:=h e (.head _);have d:Wx x+12+12*Wx q<80000:=W3 (Xu (by show _=Wx x+12*(Wx q+1);rw[Yz,W9,Xa 12])) g
  have f:∀{n},n<80000->n<90000:=λh=>W4 h (WY rfl);have B:=hs d;have Q:=Nr (R:=R) (a:=a) (b:=b) (P:=P) (s:=s) S t V z.1 z.2.1 (P+1-e.1) (g:=e.1) (x:=pM (es a P s e.1) e.1 e.2 x) (f (W3 (XY Ef (W5 (XW _ _) H)) (W3 (Xu (W9 ..)) B)));rw[<-j5] at Q;have c:=Om (R:=R) (b:=b) (T:=T) (p:=p) (s:=s) (k:=e.1) (v:=F.n) (h:=e9 F x) (d:=[]) k;have j:cF (yz.headD .eF) ⟨U (iz R a b P T p) [(46,I s),(154,.ref F.n),(155,I e.1)],e9 F x⟩ .next ⟨U (iz R a b P T p) [(46,I s),(154,.ref F.n),(155,I e.1)],e9 F (pM (es a P s e.1) e.1 e.2 x)⟩:=by
   generalize G:es a P s e.1=N;induction N with|false=>rw[G] at c;exact cX c rfl|true=>rw[G] at c;exact c1 c rfl (M (HO rfl (cV J u rfl) (bw J J (lO ((pJ _ V).trans t) rfl (by rw[lk,z.1];rfl))) (f (hs B))) ba)
  exact cW rfl (M j (M (da (zF J (cV J u rfl) (mC (W3 z.2.2 (Xv H (WY rfl)))) (mC (W3 H (WY rfl)))) rfl Q rfl) ba)) rfl (i (λy m=>h y (.tail _ m)) (W3 (Xl (Gk H) _) d))
end
section
variable{F:Z}{x r:ZH}{p c s P b:Nat}{R:V}{a:ZK}{T:ZE}{X:Nat->Nat->Nat->Nat}
variable(S:∀s k g,gC .T T [.ay [I s,I k,I g],.int 0]=some (I (X s k g)))
def OA:kL a P X s k 0 g=0:=by unfold kL;rw[Yi];cases(es a P s k&&Nat.beq (k+1) g)<;>cases(Nat.ble k g&&Nat.ble g P)<;>rfl
def Hg(d:gu P r):aW (nz a P X s r [])=hC a P X s (aW r):=funext λj=>(T' r d.le).trans ((W7 _).trans (LG (F:=λk c=>kL a P X s k c j) (λ_=>OA) d))
include S in
def UK(t:F.get p=some (.ah .I (D r) 0))(V:p<F.n)(d:gu P r)(h:∀k,aW r k<jl)(g:P<=a.length)(H:P<11)(c:12*Wx r<80000):
  ∃l f,bE yA ⟨U (iz R a b P T p) [(46,I s)],F⟩ .next ⟨U (iz R a b P T F.n) ((46,I s)::l),f⟩/\f.get F.n=some (.ah .I (D (nz a P X s r [])) 0)/\F.n<f.n:=by
 have x:(F.a5 p (some (.ah .I (D r) 1))).get p=some (.ah .I (D r) 1):=by rw[Z.mQ,if_pos rfl]
 have bc:dY (.ref p) (e9 F []) true=some (e9 (F.a5 p (some (.ah .I (D r) 1))) []):=(Fs ((pJ _ V).trans t)).trans (W0 some (zx _ V));have j:dY (.ref p) (e9 (F.a5 p (some (.ah .I (D r) 1))) (nz a P X s r [])) false=some (e9 ((F.a5 p (some (.ah .I (D r) 1))).a5 p (some (.ah .I (D r) 0))) (nz a P X s r [])):=(HL ((pJ (a:=F.a5 p (some (.ah .I (D r) 1))) _ V).trans x)).trans (W0 some (zx (a:=F.a5 p (some (.ah .I (D r) 1))) _ V));have i:xn (.ref p) (e9 F [])=some (r.map λe=>I e.1):=(a6 (sr ((pJ _ V).trans t)) rfl).trans (W0 some (zR.trans Yt));exact⟨_,_,M (cI (P:=e9 F []) (mH oD)) (M (da (c8 J i) bc (Uc (R:=R) (b:=b) (s:=s) (F:=F.a5 p (some (.ah .I (D r) 1))) (r:=r) S x V g H r (x:=[]) (λe m=>⟨(z3 (Xz.mpr ⟨e,m,rfl⟩)).elim λw q=>by have z:=CW d e m;unfold aW at z;rw[q] at z⊢;exact W0 some z,by rw[<-CW d e m];exact h _,d.le e m⟩) (by rw[show Wx ([]:ZH)=0 from rfl,W7];exact c)) j) (M (dk J) ba)),cw (a:=(F.a5 p (some (.ah .I (D r) 1))).a5 p (some (.ah .I (D r) 0))) (i:=0) _ rfl,Xh _⟩
include S in
def UL(k:P<=a.length)(H:P<11)(v:ZK):∀{F:Z}{p:Nat}{r:ZH},F.get p=some (.ah .I (D r) 0)->p<F.n->gu P r->o5 a P X v (aW r)->12 ^ v.length*Wx r<80000->
  ∃f t e,cS [46] yA (v.map I) ⟨iz R a b P T p,F⟩ .next ⟨iz R a b P T f,e⟩/\e.get f=some (.ah .I (D t) 0)/\aW t=nj a P X v (aW r):=by
 induction v with
 |nil=>exactλ{F p r} g _ _ _ _=>⟨p,r,F,dq,g,rfl⟩
 |cons s v m=>
  intro F p r g V d c j;have i:12 ^ v.length*(12*Wx r)<80000:=W3 (Xu (by rw[<-Nat.mul_assoc];rfl)) j
  refine(UK (R:=R) (b:=b) (s:=s) S g V d c.1 k H (W3 (Nat.le_mul_of_pos_left _ (Nat.pow_pos (Xk 11))) i)).elim λl z=>z.elim λn z=>?_;have h:=c.2;rw[<-Hg d] at h;refine(m z.2.1 z.2.2 (T9 r d.le .nil) h (W3 (XE _ (W5 (Ua r H) (Xu (W7 _)))) i)).elim λf y=>y.elim λt y=>y.elim λe y=>⟨f,t,e,cW rfl z.1 rfl y.1,y.2.1,y.2.2.trans ?_⟩;rw[Hg d]
  rfl
include S in
def Wa(e:P<=a.length)(H:P<11)(G:b<=P)(i:d.length<=3)(f:o5 a P X d (aW [(b,1)]))(c:h.get q=some (.ah .T T 0))(x:∀{k h},gW (ct (k+1) h) T=some T)(ft:∀{k},ly (cg (k+1)) T):aY .nV 122 [ko d,.ae (a.map I),I b,I P,.ref q] h (I (nj a P X d (aW [(b,1)]) P)) h:=by
 refine(UL (R:=ko d) (b:=b) S e H d (F:=⟨.node (some (.ah .I (D [(b,1)]) 0)) .nil .nil,1⟩) (p:=0) (r:=[(b,1)]) rfl (Xk 0) (.cons rfl G .nil) f (W3 (Nat.mul_le_mul_right _ (Nat.pow_le_pow_right (Xk 11) i)) (WY rfl))).elim λp z=>z.elim λr z=>z.elim λg z=>?_;have L:gC .I (D r) [I P,.int 0]=some (I (aW r P)):=W0 some (by rw[lk];unfold aW;cases au r P<;>rfl)
 rw[z.2.2] at L;exact Cm (a6 rfl (a6 (a6 rfl (a6 (a6 rfl (a6 (a6 rfl (a6 (a6 (BD c x) rfl) rfl)) rfl)) rfl)) rfl)) (ks (cf (qW u9) (cf (hn u9) (cf rfl (cf rfl (cf (u' ft) rfl))))) rfl rfl rfl (M (k6 9 λ_=>rfl) (M (da (c8 J rfl) rfl z.1 rfl) (bG (cb (q9 J z.2.1 (aI J (aq u)) z.2.1 (tE z.2.1 L)))))) rfl rfl) rfl
end
def vV:ef x a<=a:=by induction x<;>first|exact Xe a|exact Xj a
def kJ:ef x 0=0:=by induction x<;>rfl
def Oy:ef x a*m=ef x (a*m):=by induction x<;>first|rfl|exact Yi m
def J6(h:b<a):Nat.ble a b=false:=XO.mpr λz=>Nat.not_le_of_lt h (WY z)
def qM(h:a<=b):Nat.ble a b:=X1 h
def qq(K:∀k g,X s k g=0):hC a P X s f (B+1)=ef (es a P s B) (f B):=by
 have e:∀k,kL a P X s k (f k) (B+1)=ef (es a P s k&&Nat.beq k B) (f k):=λk=>by
  unfold kL;rw[K,ZC,kJ]
  rfl
 unfold hC;rw[me λk _=>e k]
 by_cases h:B<P+1
 .rw[Bi (P+1) (Xj B) (by rw[W7];exact h) λk R=>by rw[ee R,XN];rfl,Xn,Bool.and_true]
 .rw[uo λk m=>by rw[ee (Xi (W4 (by have z:=(g8 _ m).2;rw[W7] at z;exact z) (YP h))),XN];rfl]
  unfold es;rw[lC (W5 (Xt P) (YP h))]
  rfl
def uw(K:∀k g,X s k g=0):hC a P X s f 0=0:=uo λk _=>by
 unfold kL;rw[K,ZC,kJ,show Nat.beq (k+1) 0=false from rfl,XN]
 rfl
def F7(O:∀k,es a P s k=false):hC a P X s f g=cL ((aB 0 (P+1)).map λk=>ef (Nat.ble k g&&Nat.ble g P) (f k*X s k g)):=me λk _=>by unfold kL;rw[O];exact W7 _
def mG:aW [(b,1)] k=ef (Nat.beq b k) 1:=by
 show(match(match Nat.beq b k with|true=>some 1|false=>none)with|some v=>v|none=>0)=_
 cases Nat.beq b k<;>rfl
def As(O:∀k,es a P s k=false)(G:b<=P):hC a P X s (aW [(b,1)]) g=ef (Nat.ble b g&&Nat.ble g P) (X s b g):=by
 rw[F7 O,Bi (P+1) (Xj b) (by rw[W7];exact Yf G) λk R=>by rw[mG,ee (Ne.symm R)];show ef _ (0*_)=0;rw[Yi];exact kJ,mG,Xn]
 exact W0 (ef _) (Nat.one_mul _)
def F6(O:∀k,es a P s k=false)(x:f 0=0):hC a P X s f P=cL ((aB 0 P).map λB=>f (B+1)*X s (B+1) P):=by
 have E:∀(n i:Nat)(F:Nat->Nat),cL ((aB (i+1) n).map F)=cL ((aB i n).map λB=>F (B+1)):=λn=>by
  induction n with|zero=>exactλ_ _=>rfl|succ n S=>exactλi F=>W0 (F (i+1)+·) (S (i+1) F)
 rw[F7 O];refine(?_:ef _ (f 0*_)+cL ((aB 1 P).map _)=_);rw[x,Yi,kJ,W7,E P 0];exact me λB m=>by
  have z:=(g8 _ m).2;rw[W7] at z;rw[qM z,qM (Xe P)]
  rfl
def Ho(m:Nat):∀{b i:Nat}{a:Nat->Nat},(∀B,B<i+b->a B=0)->cL ((aB i (b+m)).map a)=cL ((aB 0 m).map λt=>a (i+b+t)):=by
 have E:∀(b i:Nat)(a:Nat->Nat),cL ((aB i b).map a)=cL ((aB 0 b).map λt=>a (i+t)):=λb=>by
  induction b with|zero=>exactλ_ _=>rfl|succ b S=>intro i a;show a i+cL ((aB (i+1) b).map a)=a (i+0)+cL ((aB 1 b).map λt=>a (i+t));rw[S (i+1) a,S 1 λt=>a (i+t)];exact W0 (a i+·) (me λt _=>by rw[W9])
 intro b;induction b with
 |zero=>exactλ{i a} _=>by rw[W7];exact E m i a
 |succ b S=>
   intro i a h;rw[YN];show a i+cL ((aB (i+1) (b+m)).map a)=_;rw[h i (Xq (Xk b)),W7,S λB P=>h B (by rw[YN] at P;exact P)]
   exact me λt _=>by rw[YN i b,Nat.add_succ i b]
def xC:ZL->Nat
 |none=>3
 |some j=>4+j
def c0(I:ZI):ZK:=I.map xC
noncomputable def pU(I:ZI)(m b k g:Nat):Bool:=Nat.ble k g&&(Nat.ble g I.length&&(Nat.blt (g-k) m||(Nat.beq (g-k) m&&Nat.blt k b)))
def dG(E:C)(I:ZI)(m b s k g:Nat):Nat:=ef (Nat.beq s (b1 E)&&pU I m b k g) (cc E I k (g-k)).length
section
variable{E:C}{I:ZI}{P s b c m i k n:Nat}
def xK:xJ (c0 I) k=match a3 I k with
 |some o=>xC o
 |none=>0:=by
 unfold xJ c0;rw[kV];cases a3 I k<;>rfl
def Eg:es (c0 I) P (4+E.bC i) k=(Nat.blt k P&&g6 E I k i):=by
 unfold es g6;refine xK▸W0 (Nat.blt k P&&·) ?_;generalize a3 I k=N;induction N with
 |none=>exact ee (Xi (W4 (Xk 3) (Xd _ _)))
 |some o=>induction o with|none=>exact ee (Xi (Xd 4 _))|some j=>exact uW
def Oi:es (c0 I) P 3 k=(Nat.blt k P&&gq I k):=by
 unfold es gq;refine xK▸W0 (Nat.blt k P&&·) ?_;generalize a3 I k=N;induction N with
 |none=>rfl
 |some o=>induction o with|none=>rfl|some j=>exact ee (XK (Xd 4 _))
def vP(R:dp E I):es (c0 I) P (b1 E) k=false:=by
 unfold es;rw[xK,show Nat.beq (match a3 I k with|some o=>xC o|none=>0) (b1 E)=false from ee ?_,XN]
 have e:b1 E=4+E.aD+1:=rfl;generalize h:a3 I k=N;induction N with
 |none=>exactλz=>nomatch z
 |some o=>induction o with|none=>exact Xi (by rw[e,XJ];exact W4 (WY rfl:3<5) (Xd _ _))|some j=>exact Xi (by rw[e];exact XH (Yg (R _ (rE I h)) 4))
def Oh(H:P<=I.length):es (c0 I) P 0 k=false:=by
 unfold es;refine xK▸?_;generalize G:Nat.blt k P=N;induction N with
 |false=>rfl
 |true=>
  refine(m7 I (c5▸W4 (dZ G) H)).elim λo z=>?_;refine z▸?_;induction o with|none=>rfl|some j=>exact ee (XK (W4 (Xk 3) (Xd 4 j)))
def q2(h:s≠b1 E):dG E I m b s k g=0:=by unfold dG;refine(ee h)▸?_;rfl
def q1(h:k+n<=I.length)(l:n<m\/(n=m/\k<b)):dG E I m b (b1 E) k (k+n)=(cc E I k n).length:=by
 unfold dG pU;rw[Xn,qM (Xd k n),qM h,Yp];rw[show(Nat.blt n m||(Nat.beq n m&&Nat.blt k b))=true from X0.mpr (l.imp dF λz=>by rw[z.1,Xn,dF z.2];rfl)]
 rfl
def CN(q:I.length<=8):dG E I m b s k g<9000:=by
 unfold dG;cases dO:Nat.beq s (b1 E)&&pU I m b k g with
 |false=>exact Xk _
 |true=>exact r8 (W5 (XW _ _) (W5 (WY (a4 (a4 (a4 dO).2).2).1) q))
def Uy(n:Nat):∀{i:Nat},cL ((aB i (n+1)).map a)=cL ((aB i n).map a)+a (i+n):=by
 induction n with|zero=>exactλ{i}=>Xa _ _|succ n S=>intro i;refine(?_:a i+cL ((aB (i+1) (n+1)).map a)=a i+cL ((aB (i+1) n).map a)+a (i+(n+1)));rw[S,<-W9,W9 i 1 n,Xa 1 n]
def Ma(x:G 0=0)(P:∀t,t+1=m->G t=0):cL ((aB 0 m).map G)=cL ((aB 1 (m-2)).map G):=match m,P with
 |0,_=>rfl
 |1,_=>x
 |m+2,P=>by
  refine(?_:G 0+cL ((aB 1 (m+1)).map G)=cL ((aB 1 m).map G));rw[Uy,x,P (1+m) (by rw[Xa 1]),W7]
  rfl
def xh(A:i<E.R):4+E.bC i≠b1 E:=Xi (XH (Yg (pV (p:=0) A) 4))
abbrev WK(E:C)(I:ZI)(b m i t:Nat):Nat:=ef (g6 E I (b+t) i) ((cc E I b t).length*(cc E I (b+t+1) (m-t-1)).length)
def V9(R:dp E I)(D:b+m<=I.length)(A:i<E.R)(G:Nat.beq i E.k=false):nj (c0 I) (b+m) (dG E I m c) [b1 E,4+E.bC i,b1 E] (aW [(b,1)]) (b+m)=(hz E I (cc E I) b m i).length:=by
 have O:∀k,es (c0 I) (b+m) (b1 E) k=false:=λk=>vP R;have K:∀k g,dG E I m c (4+E.bC i) k g=0:=λk g=>q2 (xh A);refine(?_:hC _ _ _ (b1 E) (hC _ _ _ (4+E.bC i) (hC _ _ _ (b1 E) (aW [(b,1)]))) _=_);rw[F6 O (uw K),me λj _=>W0 (·*_) ((qq K).trans (W0 (ef _) (As O (Xd b m)))),<-W7 (b+m)];rw[show 0+(b+m)=b+m from W7 _,Ho m λj P=>by rw[J6 (W7 b▸P)];show ef _ 0*_=0;rw[kJ,Yi]]
 have e:∀t∈aB 0 m,ef (es (c0 I) (b+m) (4+E.bC i) (0+b+t)) (ef (Nat.ble b (0+b+t)&&Nat.ble (0+b+t) (b+m)) (dG E I m c (b1 E) b (0+b+t)))*dG E I m c (b1 E) (0+b+t+1) (b+m)=WK E I b m i t:=λt V=>by
  have a:=(g8 _ V).2;rw[W7] at a;have f:b+m=b+t+1+(m-t-1):=by rw[Zn,W9 b t 1,W9,Yc a]
  rw[W7,Eg,dF (Yg a b),qM (Xd b t),qM (Xg (Xw a) b),q1 (W5 (Xg (Xw a) b) D) (.inl a)];rw[show dG E I m c (b1 E) (b+t+1) (b+m)=(cc E I (b+t+1) (m-t-1)).length from f▸q1 (f▸D) (.inl (by rw[Zn];exact YH (W3 (Xj t) a) (Xk t)))]
  exact Oy
 rw[me e,Ma (by unfold WK;rw[show(cc E I b 0).length=0 from rfl,Yi];exact kJ) λt V=>by unfold WK;rw[<-V,Yp,show(cc E I (b+t+1) (1-1)).length=0 from rfl,ZC];exact kJ]
 unfold hz nf;rw[G,W8,v'];refine Eq.trans (me λt _=>?_) (W7 _).symm;unfold hT WK;rw[G];generalize L:g6 E I (b+t) i=N;induction N with|true=>exact Fd.symm|false=>rfl
end
def V'(R:dp a c)(D:b+m<=c.length)(Q:a.k<a.R):nj (c0 c) (b+m) (dG a c m d) [4+a.bC a.k,b1 a] (aW [(b,1)]) (b+m)=(hz a c (cc a c) b m a.k).length:=by
 have O:∀k,es (c0 c) (b+m) (b1 a) k=false:=λk=>vP R;have K:∀k g,dG a c m d (4+a.bC a.k) k g=0:=λk g=>q2 (xh Q);have f:(aB 1 (m-2)).flatMap (hT a c (cc a c) b m a.k)=[]:=by
  generalize aB 1 (m-2)=l;induction l with|nil=>rfl|cons x l S=>rw[Yb,S];unfold hT;rw[Xn];rfl
 refine(?_:hC _ _ _ (b1 a) (hC _ _ _ (4+a.bC a.k) (aW [(b,1)])) _=_);rw[F6 O (uw K),me λj _=>W0 (·*_) (qq K),<-W7 (b+m)];rw[show 0+(b+m)=b+m from W7 _,Ho m λj P=>by rw[mG,ee (XK (W7 b▸P))];show ef _ 0*_=0;rw[kJ,Yi]]
 unfold hz nf;rw[f,XB,Xn];induction m with
 |zero=>cases g6 a c b a.k<;>rfl
 |succ m=>
  refine(?_:_+cL ((aB 1 m).map _)=_);rw[uo λt V=>by
   rw[mG,ee (Xi (by rw[W7];exact Xq (g8 _ V).1))]
   refine(?_:ef _ 0*_=0);rw[kJ,Yi]]
  have e:b+(m+1)=b+1+m:=by rw[W9,Xa 1]
  refine(?_:ef (es (c0 c) (b+(m+1)) (4+a.bC a.k) (0+b+0)) (aW [(b,1)] (0+b+0))*dG a c (m+1) d (b1 a) (0+b+0+1) (b+(m+1))=_);rw[show 0+b+0=b from W7 b,Eg,dF (Xq (Xk m)),mG,Xn,show dG a c (m+1) d (b1 a) (b+1) (b+(m+1))=(cc a c (b+1) m).length from e▸q1 (e▸D) (.inl (Xh m))];generalize g6 a c b a.k=N;induction N with
  |false=>exact Yi _
  |true=>
   refine(?_:1*_=_);rw[Nat.one_mul];induction m with|zero=>rfl|succ m=>exact(Xs _).symm
def V8:nj (c0 a) (b+m) (dG c a m d) [3] (aW [(b,1)]) (b+m)=(g0 (Nat.beq m 1&&gq a b) [aV.a]).length:=by
 have K:∀k g,dG c a m d 3 k g=0:=λk g=>q2 (Xi (Yf (W5 (Xt 3) (Xd 4 c.aD))));show hC _ _ _ 3 (aW [(b,1)]) _=_
 match m,K with
 |0,K=>
  induction b with
  |zero=>exact uw K
  |succ b=>rw[show b+1+0=b+1 from rfl,qq K,mG,ee (Nat.succ_ne_self b)];exact kJ
 |1,K=>rw[qq K,mG,Xn,Oi,dF (Xh b)];cases gq a b<;>rfl
 |m+2,K=>rw[show b+(m+2)=b+m+1+1 from rfl,qq K,mG,ee (Xi (Yf (Xd b m)))];exact kJ
def V7(D:P<=a.length):nj (c0 a) P (dG b a m c) [b1 b,0] f P=0:=by
 have K:∀k g,dG b a m c 0 k g=0:=λk g=>q2 (Xi (Xk _));refine(?_:hC _ _ _ 0 _ P=0);induction P with|zero=>exact uw K|succ e=>rw[qq K,Oh D];rfl
def I7:cc a c b m=j9 a c (cc a c) b m:=by
 induction m with
 |succ m=>exact o7
 |zero=>
  refine(?_:[]=[]++(aB 0 a.R).flatMap (hz a c (cc a c) b 0));rw[List.nil_append];generalize aB 0 a.R=l;induction l with
  |nil=>rfl
  |cons i l S=>rw[Yb,<-S];unfold hz nf;cases Nat.beq i a.k<;>cases g6 a c b i<;>rfl
def S5:cL ((aB 0 a.R).map λi=>(hz a c (cc a c) b m i).length)+(g0 (Nat.beq m 1&&gq c b) [aV.a]).length=(cc a c b m).length:=by rw[I7,j9,W8,v',Xa]
def wo(h:a<9000):a<jl:=W4 h (WY rfl)
def sC:aW [(b,1)] k<jl:=by rw[mG];exact wo (W3 vV (WY rfl))
def Hw(K:∀k g,X s k g=0)(h:∀k,f k<jl):hC a P X s f g<jl:=by
 induction g with|zero=>rw[uw K];exact wo (Xk _)|succ g=>rw[qq K];exact W3 vV (h g)
def RJ(R:dp a c)(q:c.length<=8)(G:b<=P)(i:s≠b1 a):o5 (c0 c) P (dG a c m d) [b1 a,s,b1 a] (aW [(b,1)]):=
 have z:∀k,hC (c0 c) P (dG a c m d) (b1 a) (aW [(b,1)]) k<jl:=λk=>by rw[As (λk=>vP R) G];exact wo (W3 vV (CN q))
 ⟨λ_=>sC,z,λ_=>Hw (λ_ _=>q2 i) z,trivial⟩
def RI(i:s≠b1 a):o5 (c0 c) P (dG a c m d) [s,t] (aW [(b,1)]):=⟨λ_=>sC,λ_=>Hw (λ_ _=>q2 i) λ_=>sC,trivial⟩
def RK(R:dp c a)(q:a.length<=8)(G:b<=P):o5 (c0 a) P (dG c a m d) [b1 c,0] (aW [(b,1)]):=⟨λ_=>sC,λk=>by rw[As (λk=>vP R) G];exact wo (W3 vV (CN q)),trivial⟩
def RH:o5 (c0 a) P (dG d a m c) [s] (aW [(b,1)]):=⟨λ_=>sC,trivial⟩
noncomputable def Gr:Nat->Z0 V
 |0=>none
 |n+1=>some (I (n+1))
def rB(T:ZE):Bool:=aai (T.all λe=>match e.2 with
 |.int _=>true
 |_=>false)
structure fS(a:C)(c:ZI)(T:ZE)(m b:Nat):Prop where
 val:∀s k g,bL T (.t [.ofNat s,.ofNat k,.ofNat g])=Gr (dG a c m b s k g)
 tL:rB T=true
def F3{e:aE×V}(z:(match e.2 with|.int _=>true|_=>false)=true):∃k i,e=(k,.int i):=by
 induction e with
 |mk k v=>induction v using V.casesOn<;>first|exact⟨_,_,rfl⟩|exact bb z
def Rd(m:rB T):gW (ct (k+1) h) T=some T:=by
 induction T with|nil=>rfl|cons e r S=>have z:=a4 m;exact(F3 z.1).elim λk y=>y.elim λi y=>y▸a6 rfl (a6 (S z.2) rfl)
def Rb(m:rB T):ly (cg (k+1)) T:=by
 induction T with|nil=>rfl|cons e r S=>have z:=a4 m;exact(F3 z.1).elim λk y=>y.elim λi y=>y▸S z.2
def Rc(m:rB T):rB (cU T q (.int B)):=by
 induction T with
 |nil=>rfl
 |cons e r S=>
  have z:=a4 m;induction e with
  |mk k v=>
  show rB (match cJ k q with|true=>(k,.int B)::r|false=>(k,v)::cU r q (.int B))=true
  generalize cJ k q=N;induction N with|true=>exact z.2|false=>exact Xy.mpr ⟨z.1,S z.2⟩
def fS.get(u:fS f' ws kvs c' a')(o k j:Nat):gC .T kvs [.ay [I o,I k,I j],.int 0]=some (I (dG f' ws c' a' o k j)):=W0 some (by rw[u.val];cases dG f' ws c' a' o k j<;>rfl)
def CO(h:¬(s=b1 a/\k=b/\g=b+m)):dG a c m (b+1) s k g=dG a c m b s k g:=by
 unfold dG pU;generalize i:Nat.beq s (b1 a)=N;induction N with
 |false=>rfl
 |true=>generalize R:Nat.ble k g=N;induction N with
  |false=>rfl
  |true=>generalize G:Nat.beq (g-k) m=N;induction N with
   |false=>rfl
   |true=>
    have D:k≠b:=λz=>h ⟨(W2 i),z,by rw[<-z,<-(W2 G),Yc (WY R)]⟩
    exact(show Nat.blt k (b+1)=Nat.blt k b from XS.mpr ⟨λz=>dF (Zr (XG (dZ z)) D),λz=>dF (XH (dZ z))⟩)▸rfl
def fS.a5(J:fS f' ws kvs c' a')(hm:a'+c'<=ws.length)(Z:0<(cc f' ws a' c').length):fS f' ws (cU kvs (.t [.ofNat (b1 f'),.ofNat a',.ofNat (a'+c')]) (I (cc f' ws a' c').length)) c' (a'+1):=⟨λU k M=>by
 rw[vg];generalize o:cJ (.t [.ofNat (b1 f'),.ofNat a',.ofNat (a'+c')]) (.t [.ofNat U,.ofNat k,.ofNat M])=C;induction C with
 |true=>
  have j:=W0 (λk=>match k with|.t fi=>fi|_=>[]) (tp o)
  have V:=YF (XQ j).1;have W:=YF (XQ (XQ j).2).1;have Y:=YF (XQ (XQ (XQ j).2).2).1;subst V W Y;rw[q1 hm (.inr ⟨rfl,Xh a'⟩)];generalize cK:(cc f' ws a' c').length=C;induction C with
  |zero=>exact absurd cK (XK Z)
  |succ fl=>rfl
 |false=>rw[CO λu=>by rw[u.1,u.2.1,u.2.2,tq] at o;nomatch o];exact J.val U k M,Rc J.tL⟩
def fS.skip(o:fS f' ws kvs c' a')(M:a'+c'<=ws.length)(J:(cc f' ws a' c').length=0):fS f' ws kvs c' (a'+1):=⟨λC k u=>by
 by_cases j:C=b1 f'/\k=a'/\u=a'+c'
 .have v:=o.val C k u
  rw[j.1,j.2.1,j.2.2] at v⊢;rw[v,q1 M (.inr ⟨rfl,Xh a'⟩),J];unfold dG pU;rw[Yp,lC (Xe c'),lC (Xe a'),XN,Bool.or_false,XN,XN,XN]
  rfl
 .rw[CO j];exact o.val C k u,o.tL⟩
def fS.up(u:fS f' ws kvs a' c')(W:ws.length<c'+a'):fS f' ws kvs (a'+1) 0:=⟨λM k j=>by
 refine(u.val M k j).trans (W0 Gr ?_);unfold dG pU;cases hq:Nat.ble k j&&Nat.ble j ws.length with
 |false=>
  cases h1:Nat.ble k j with
  |false=>rfl
  |true=>rw[h1] at hq;rw[show Nat.ble j ws.length=false from hq];rfl
 |true=>have C:=a4 hq;have U:=WY C.1;have V:=WY C.2;rw[lC (Xj k),XN,Bool.or_false,show(Nat.blt (j-k) a'||(Nat.beq (j-k) a'&&Nat.blt k c'))=Nat.blt (j-k) (a'+1) from XS.mpr ⟨λo=>dF ((X0.mp o).elim (λo=>XH (dZ o)) λo=>Yf (Xu (W2 (a4 o).1))),λo=>X0.mpr ((Yu (XG (dZ o))).imp dF λJ=>by rw[J,Xn];exact dF (by omega))⟩],u.tL⟩
def w7(E:C)(L:Nat->Int)(h:Z):gI (λi=>Y (cZ (.ae (E.i4 L)) (I (i+1)) h) (λR=>bM h R 34)=some (ko (qh (Nat.beq i E.k) (b1 E) (4+E.bC i)))) (aB 0 E.R)/\Y (cZ (.ae (E.i4 L)) (I (E.R+1)) h) (λR=>bM h R 34)=some (ko [3])/\Y (cZ (.ae (E.i4 L)) (I 0) h) (λR=>bM h R 34)=some (ko [b1 E,0]):=by induction E<;>(repeat' apply And.intro)<;>first|exact trivial|kernel_rfl
def GS(E:C)(L:Nat->Int)(K:ZE)(d:Int)(h:Z)(n:Nat):(eH (n+20)).c .inl 92 [cv E L K d,I (b1 E)] h=some (.ae ((aB 1 (E.R+1)).map I),h)/\(eH (n+20)).c .inl 92 [cv E L K d,I E.aG] h=some (.ae [I 0],h):=by induction E<;>exact⟨by kernel_rfl,rfl⟩
abbrev B8:List S:=cA (cm Dk 2)
abbrev B5:List S:=cA (B8.headD .eF)
abbrev se:List S:=cA (B5.headD .eF)
abbrev yw:List S:=cA ((se.drop 1).headD .eF)
abbrev nX(E:C)(a:ZI)(G:V):ZD:=[(33,G),(157,.ae ((c0 a).map I)),(150,.ae [I E.aG,I (b1 E)]),(56,.ref 0)]
abbrev jm(E:C)(a:ZI)(G:V)(m b s F:Nat):ZD:=U (nX E a G) [(105,I m),(83,I b),(46,I s),(152,I F)]
def xb(c:fS d a T m b)(q:a.length<=8)(D:b+m<=a.length)(g:Y (cZ (.ae (d.i4 L)) (I r) (b4 T)) (λR=>bM (b4 T) R 34)=some (ko e))(i:e.length<=3)(j:o5 (c0 a) (b+m) (dG d a m b) e (aW [(b,1)])):
  bE yw ⟨U (jm d a (cv d L h f) m b s acc) [(24,I r)],b4 T⟩ .next ⟨U (jm d a (cv d L h f) m b s (acc+nj (c0 a) (b+m) (dG d a m b) e (aW [(b,1)]) (b+m))) [(24,I r)],b4 T⟩:=by
 have k:b+m<=(c0 a).length:=by unfold c0;rw[Xs];exact D
 exact(jP g).elim λR z=>M (dk (cV J (c7 (aI (a9 (bw (a9 J (rj d L h f _).1) J z.1) z.2) (aI J (aI J (aI (cV J J rfl) (aq J))))) (Wa c.get k (W3 (W5 D q) (WY rfl)) (Xd b m) i j rfl (Rd c.tL) (Rb c.tL))) rfl)) ba
def nH(E:C)(I:ZI)(b m i:Nat):Nat:=(hz E I (cc E I) b m i).length
def S9(c:fS a d T m b)(R:dp a d)(q:d.length<=8)(D:b+m<=d.length)(A:i<a.R):bE yw ⟨U (jm a d (cv a L h f) m b s acc) [(24,I (i+1))],b4 T⟩ .next ⟨U (jm a d (cv a L h f) m b s (acc+nH a d b m i)) [(24,I (i+1))],b4 T⟩:=by
 have g:=(w7 a L (b4 T)).1.lt A;unfold nH;generalize G:Nat.beq i a.k=N;induction N with|true=>have e:=W2 G;subst e;rw[G] at g;have j:=xb (f:=f) (h:=h) (s:=s) (acc:=acc) c q D g (Xt 2) (RI (xh A));rw[show nj (c0 d) (b+m) (dG a d m b) (qh true (b1 a) (4+a.bC a.k)) (aW [(b,1)]) (b+m)=_ from V' R D A] at j;exact j|false=>rw[G] at g;have j:=xb (f:=f) (h:=h) (s:=s) (acc:=acc) c q D g (Xe 3) (RJ R q (Xd b m) (xh A));rw[show nj (c0 d) (b+m) (dG a d m b) (qh false (b1 a) (4+a.bC i)) (aW [(b,1)]) (b+m)=_ from V9 R D A G] at j;exact j
def S'(c:fS a d T m b)(R:dp a d)(q:d.length<=8)(D:b+m<=d.length){s:Nat}(n:Nat):∀{i f:Nat},i+n=a.R->cS [24] yw ((aB (i+1) (n+1)).map I) ⟨jm a d (cv a L h g) m b s f,b4 T⟩ .next ⟨jm a d (cv a L h g) m b s (f+(cL ((aB i n).map (nH a d b m))+(g0 (Nat.beq m 1&&gq d b) [aV.a]).length)),b4 T⟩:=by
 induction n with
 |zero=>intro i f e;have j:=xb (f:=g) (h:=h) (s:=s) (acc:=f) c q D (w7 a L (b4 T)).2.1 (WY rfl) RH;rw[V8,<-show i=a.R from e] at j;refine(?_:cS _ _ [I (i+1)] _ _ ⟨jm a d (cv a L h g) m b s (f+(0+_)),_⟩);rw[W7];exact cW rfl j rfl dq
 |succ n S=>
  intro i f e;have z:=S (i:=i+1) (f:=f+nH a d b m i) (by rw[<-e,W9,Xa 1])
  rw[show f+nH a d b m i+(cL ((aB (i+1) n).map (nH a d b m))+(g0 (Nat.beq m 1&&gq d b) [aV.a]).length)=f+(nH a d b m i+cL ((aB (i+1) n).map (nH a d b m))+(g0 (Nat.beq m 1&&gq d b) [aV.a]).length)by rw[W9,W9]] at z
  exact cW rfl (S9 c R q D (e▸Xq (Xk n))) rfl z
abbrev yH(E:C)(a:ZI)(G:V)(m b:Nat):ZD:=U (nX E a G) [(105,I m),(83,I b)]
def C8(q:aY .inl 92 [cv a L b d,I s] h v h)(e:au A 33=some (cv a L b d))(f:au A 46=some (I s)):ao (.aC (.F 33) 12421 [.F 46]) ⟨A,h⟩ v h:=fJ (J e) (zu a L b d h).1 (by induction a<;>rfl) rfl rfl rfl (aq (J f)) q
def UJ(c:fS a d T m b)(R:dp a d)(q:d.length<=8)(D:b+m<=d.length):bE se ⟨U (yH a d (cv a L f e) m b) [(46,I a.aG)],b4 T⟩ .next ⟨jm a d (cv a L f e) m b a.aG 0,b4 T⟩:=by have j:=xb (f:=e) (h:=f) (s:=a.aG) (acc:=0) c q D (w7 a L (b4 T)).2.2 (Xt 2) (RK R q (Xd b m));rw[V7 D] at j;exact M (dk u) (M (da (c8 (C8 (ft 20 λn=>(GS a L f e (b4 T) n).2) rfl rfl) rfl) rfl (cW rfl j rfl dq) rfl) (M (cX (bF J u rfl) rfl) ba))
def UI(c:fS a d T m b)(R:dp a d)(q:d.length<=8)(D:b+m<=d.length)(j:Wx T<900):∃i,bE se ⟨U (yH a d (cv a L h g) m b) [(46,I (b1 a))],b4 T⟩ .next ⟨jm a d (cv a L h g) m b (b1 a) (cc a d b m).length,b4 i⟩/\fS a d i m (b+1)/\Wx i<=Wx T+1:=by
 have f:=S' (L:=L) (h:=h) (g:=g) (s:=b1 a) c R q D a.R (f:=0) (W7 _);rw[W7 1,W7 (cL _+_),show cL ((aB 0 a.R).map (nH a d b m))+(g0 (Nat.beq m 1&&gq d b) [aV.a]).length=(cc a d b m).length from S5] at f;have V:∀{B},Nat.blt 0 (cc a d b m).length=B->ao (.aw .gt (.F 152) (.lit (.int 0))) ⟨jm a d (cv a L h g) m b (b1 a) (cc a d b m).length,b4 T⟩ (.bool B) (b4 T):=λe=>e▸bF J u rfl;have v:∀{i},cF ((se.drop 2).headD .eF) ⟨jm a d (cv a L h g) m b (b1 a) (cc a d b m).length,b4 T⟩ .next ⟨jm a d (cv a L h g) m b (b1 a) (cc a d b m).length,b4 i⟩->bE se ⟨U (yH a d (cv a L h g) m b) [(46,I (b1 a))],b4 T⟩ .next ⟨jm a d (cv a L h g) m b (b1 a) (cc a d b m).length,b4 i⟩:=λs=>M (dk u) (M (da (c8 (C8 (ft 20 λn=>(GS a L h g (b4 T) n).1) rfl rfl) rfl) rfl f rfl) (M s ba));generalize G:Nat.blt 0 (cc a d b m).length=N;induction N with
 |false=>exact⟨T,v (cX (V G) rfl),c.skip D (Nat.eq_zero_of_not_pos λz=>by rw[dF z] at G;nomatch G),Xt _⟩
 |true=>exact⟨_,v (c1 (V G) rfl (M (jy J J (d8 (aI J (aI J (aq (cV J J rfl))))) ((rT rfl rfl (dW (W4 j (WY rfl)))).trans rfl)) ba)),c.a5 D (dZ G),pW⟩
def JO(R:dp d a)(q:a.length<=8)(n:Nat):∀{b:Nat}{T:ZE},b+n+m=a.length+1->fS d a T m b->Wx T+n<800->∃i,cS [83] B5 ((aB b n).map I) ⟨U (nX d a (cv d L g f)) [(105,I m)],b4 T⟩ .next ⟨U (nX d a (cv d L g f)) [(105,I m)],b4 i⟩/\fS d a i (m+1) 0/\Wx i<=Wx T+n:=by
 induction n with
 |zero=>exactλ{b T} e c _=>⟨T,dq,c.up (by rw[show b+m=a.length+1 from e];exact Xh _),Xe _⟩
 |succ n S=>
  intro b T e c l;have h:b+1+n+m=a.length+1:=by rw[W9 b 1 n,Xa 1 n];exact e
  have D:=XG (Zq (Yy (W4 (Xh b) (Xd _ n)) m) h);exact(UI c R q D (W3 (Xd _ _) (W4 l (WY rfl)))).elim λv z=>(S h z.2.1 (uN l z.2.2)).elim λi y=>⟨i,cW rfl (M (da (c8 J rfl) rfl (cW rfl (UJ c R q D) rfl (cW rfl z.1 rfl dq)) rfl) ba) rfl y.1,y.2.1,W5 y.2.2 (by rw[Xa n 1,<-W9];exact Xl z.2.2 n)⟩
def Vt(E:C)(L:Nat->Int)(K:ZE)(d:Int):∀a,wM Di.body [(33,cv E L K d)] (a+60)=some (.ae [I E.aG,I (b1 E)]):=λa=>by induction E<;>kernel_rfl
def zZ(e:au A 157=some (.ae ((c0 a).map I))):ao (.bq false .len [(.F 157)]) ⟨A,h⟩ (I a.length) h:=d4 (aq (J e)) (W0 (λn=>some (I n,h)) (by unfold c0;rw[c9,c9,c5]))
def PC(R:dp b a)(q:a.length<=8)(n:Nat):∀{m:Nat}{T:ZE},m+n=a.length+1->fS b a T m 0->Wx T+10*n<500->∃i,cS [105] B8 ((aB m n).map I) ⟨nX b a (cv b L f d),b4 T⟩ .next ⟨nX b a (cv b L f d),b4 i⟩/\fS b a i (a.length+1) 0:=by
 induction n with
 |zero=>exactλ{m T} e c _=>⟨T,dq,e▸c⟩
 |succ n S=>
  intro m T e c l;have D:=e▸Xd m (n+1);have lU:a.length+1-m<=9:=W5 (XW _ _) (Xp q);have g:Wx T+10+10*n<500:=W3 (Xu (by rw[Yz,W9,Xa 10])) l
  have h:∀{G},iu (.range none (.a7 .sub false (.a7 .add false (.bq false .len [(.F 157)]) (.lit (.int 1))) (.F 105))) ⟨U (nX b a (cv b L f d)) [(105,I m)],b4 G⟩ ((aB 0 (a.length+1-m)).map I) .none (b4 G):=λ{G}=>by rw[<-j5];exact kI (cV (cV (zZ rfl) u rfl) J (md D)) (mC (W3 lU (WY rfl)))
  exact(JO R q (a.length+1-m) (b:=0) (by rw[W7,YJ D]) c (W3 (Xg (W5 lU (Xt 9)) _) (Xv (hs g) (WY rfl)))).elim λG z=>(S (m:=m+1) (by rw[<-e,W9,Xa 1]) z.2.1 (W3 (Xl (W5 z.2.2 (Xg (W5 lU (Xt 9)) _)) _) g)).elim λB y=>⟨B,cW rfl (M (da h rfl z.1 rfl) ba) rfl y.1,y.2⟩
def Lq(c:dp a b)(q:b.length<=8):aY .pure 123 [cv a L (et G) d,.ae ((c0 b).map I)] h (I (i9 a b).length) h:=by
 have f:fS a b [] 0 0:=⟨λs k g=>by
  unfold dG pU;rw[lC (Xj (g-k)),lC (Xj k),XN,Bool.or_false,XN,XN,XN]
  rfl,rfl⟩
 refine(PC (L:=L) (f:=et G) (d:=d) c q (b.length+1) (W7 _) f (W3 (W5 (Xu (W7 _)) (XE 10 (Xp q))) (WY rfl))).elim λT z=>?_;rw[<-j5] at z;have g:=z.2.get (b1 a) 0 (0+b.length);rw[q1 (Xu (W7 _)) (.inl (Xh _)),W7] at g;have B:aY .pure 121 [cv a L (et G) d] Z.bj (.ae [I a.aG,I (b1 a)]) Z.bj:=Cn (cf lF rfl) rfl rfl rfl (Vt a L (et G) d) rfl;have A:ao (.sub (.aS (.sub (.aS (.F 33) 31) (.lit (.int 0))) 34) (.lit (.int 0))) ⟨nX a b (cv a L (et G) d),b4 T⟩ (I (b1 a)) (b4 T):=(jP (w7 a L (b4 T)).2.2).elim λR y=>bw (a9 (bw (a9 J (rj a L (et G) d _).1) u y.1) y.2) u rfl;exact ks (cf lF (cf (hn u9) rfl)) rfl rfl rfl (M (dk (c7 (aq J) B)) (M (cI (mH oD)) (M (da (kI (cV (zZ rfl) u rfl) (mC (W3 (Xp q) (WY rfl)))) rfl z.1 rfl) (bG (cb (q9 J rfl (aI (d8 (aI A (aI u (aq (zZ rfl))))) (aq u)) rfl (tE rfl g))))))) rfl rfl
structure gK where
 T:V
 aG:Nat
 N:Nat
 R:Nat
 X:Nat->Nat->Int
 D:Nat->Nat
 G:Nat->Int
 L:Nat->Nat
abbrev Bn:ZK:=aai [26,14,105,35,28,29,110,98,75,94]
structure lr(b:gK)(E:Nat)(f:ZF)(c:ZE):Prop where
 cls:∀h,ku b.T h=some 7
 F5:∀h m,(Bn.any λx=>Nat.beq x m)->bM h b.T m=none
 names:∀h,bM h b.T 15=some (.ae f)
 Bo:∀h,bM h b.T 16=some (I b.aG)
 row:∀h q t,q<b.N->t<b.aG->Y (bM h b.T 36) (λe=>Y (cZ e (I q) h) λr=>cZ r (I t) h)=some (.int (b.X q t))
 d7:∀h q,q<b.N->Y (bM h b.T 20) (λp=>cZ p (I q) h)=some (I (b.D q))
 gt:∀h q,q<b.N->∃d,Y (bM h b.T 37) (λa=>cZ a (I q) h)=some (.ah .I d)/\gC .I d [I E,.int (-1)]=some (.int (b.G q))
 c0:∀h,bM h b.T 21=some (.ah .S c)
 left:∀h r,0<r->r<b.R->Y (bM h b.T 17) (λA=>cZ A (I r) h)=some (I E)
 mY:∀h r,r<b.R->Y (bM h b.T 18) (λA=>cZ A (I r) h)=some (I (b.L r))
 nR:∀h r,r<b.R->Y (bM h b.T 19) (λA=>cZ A (I r) h)=some (I 0)
 uu:3<b.aG/\b.aG<60
 Ap:b.aG<=Wx f
section
variable{b:gK}{E:Nat}{f:ZF}{R:ZE}(K:lr b E f R){h:Z}{q t r:Nat}
def sb(e:Y (bM h T a) (λl=>cZ l (I d) h)=some v)(p:au A x=some T)(y:ao c ⟨A,h⟩ (I d) h):ao (.sub (.aS (.F x) a) c) ⟨A,h⟩ v h:=(jP e).elim λ_ z=>bw (a9 (J p) z.1) y z.2
include K
def y3(a:q<b.N)(V:t<b.aG):aY .inl 23 [b.T,I q,I t] h (.int (b.X q t)) h:=(jP (K.row h q t a V)).elim λQ z=>(jP z.2).elim λr y=>cH rfl rfl (bG (cb (bw (bw (a9 J z.1) J y.1) J y.2)))
def yV(a:q<b.N):aY .inl 14 [b.T,I q] h (I (b.D q)) h:=cH rfl rfl (bG (cb (sb (K.d7 h q a) rfl J)))
def Ny(a:q<b.N):aY .inl 24 [b.T,I q,I E] h (.int (b.G q)) h:=(K.gt h q a).elim λd z=>cH rfl rfl (bG (cb (kB (sb z.1 rfl J) rfl (aI J (aq (hK u rfl))) rfl (ou z.2))))
def Pu(x:0<r)(F:r<b.R):aY .inl 9 [b.T,I r] h (I E) h:=cH rfl rfl (bG (cb (sb (K.left h r x F) rfl J)))
def PD(F:r<b.R):aY .inl 10 [b.T,I r] h (I (b.L r)) h:=cH rfl rfl (bG (cb (sb (K.mY h r F) rfl J)))
def JN(F:r<b.R):aY .inl 11 [b.T,I r] h (I 0) h:=cH rfl rfl (bG (cb (sb (K.nR h r F) rfl J)))
def i8(D:(Bn.any λx=>Nat.beq x (ht m)))(R:au Ck.kS (ht m)=some a)(F:Nat.ble (dE.kZ a) (rv m))(p:ao e ⟨A,c⟩ b.T P)(u:gv G ⟨A,P⟩ i N)(g:aY .inl a (b.T::i) N v d):ao (.aC e m G) ⟨A,c⟩ v d:=
 fJ p (K.cls _) (K.F5 _ _ D) rfl R F u g
noncomputable def mv(x:Int)(d:Nat):Int:=match dr x (-1048576)with
 |true=>0
 |false=>match dr x 0 with
  |true=>-(.ofNat d)
  |false=>x
def Jg(c:q<b.N)(V:t<b.aG):aY .inl 16 [b.T,I q,I t] h (.int (mv (b.X q t) (b.D q))) h:=by
 have i:cF (cm Dm 0) ⟨[(6,b.T),(25,I q),(26,I t)],h⟩ .next ⟨[(6,b.T),(25,I q),(26,I t),(8,.int (b.X q t))],h⟩:=cI (i8 K rfl rfl rfl J (aI J (aq J)) (y3 K c V));have p:∀{B},dr (b.X q t) (-1048576)=B->ao (.aw .eq (.F 8) (.d9 (.int (-1048576)))) ⟨[(6,b.T),(25,I q),(26,I t),(8,.int (b.X q t))],h⟩ (.bool B) h:=λe=>bF (J rfl) h6 (W0 some e);have r:∀{B},dr (b.X q t) 0=B->ao (.aw .eq (.F 8) (.lit (.int 0))) ⟨[(6,b.T),(25,I q),(26,I t),(8,.int (b.X q t))],h⟩ (.bool B) h:=λe=>bF (J rfl) u (W0 some e);unfold mv;generalize P:dr (b.X q t) (-1048576)=N;induction N with
 |true=>exact cH rfl rfl (M i (bG (c1 (p P) rfl (bG (cb u)))))
 |false=>
  generalize a:dr (b.X q t) 0=N;induction N with|true=>exact cH rfl rfl (M i (M (cX (p P) rfl) (bG (c1 (r a) rfl (bG (cb (hK (i8 K rfl rfl rfl J (aq J) (yV K c)) rfl)))))))|false=>exact cH rfl rfl (M i (M (cX (p P) rfl) (M (cX (r a) rfl) (bG (cb J)))))
def rC(X:Nat->Int)(O:ZK):Bool:=
 O.rec true λt _ S=>match dr (X t) 0 with
  |true=>S
  |false=>false
def Ln(a:q<b.N)(c:ZK):(∀t∈c,t<b.aG)->∃l,cS [26] (cA (cm Dn 1)) (c.map I) ⟨[(6,b.T),(25,I q)],h⟩ (sS (rC (b.X q) c)) ⟨l,h⟩/\(rC (b.X q) c=true->l=[(6,b.T),(25,I q)]):=by
 induction c with
 |nil=>exactλ_=>⟨_,dq,λ_=>rfl⟩
 |cons t c S=>
  intro V;have p:∀{B},dr (b.X q t) 0=B->ao (.aw .cC (.aC (.F 6) 4124 [(.F 25),(.F 26)]) (.lit (.int 0))) ⟨[(6,b.T),(25,I q),(26,I t)],h⟩ (.bool (!B)) h:=λe=>bF (i8 K rfl rfl rfl J (aI J (aq J)) (y3 K a (V t (.head _)))) u (W0 (λb=>some (!b)) e);unfold rC;dsimp only;generalize P:dr (b.X q t) 0=N;induction N with|false=>exact⟨_,MA rfl (bG (c1 (p P) rfl (bG (cb u)))),λz=>bb z⟩|true=>exact(S λt m=>V t (.tail _ m)).elim λl z=>⟨l,cW rfl (M (cX (p P) rfl) ba) rfl z.1,z.2⟩
def sy(b:gK)(q:Nat):Bool:=match Nat.beq (b.D q) 0 with
 |true=>false
 |false=>rC (b.X q) (aB 0 b.aG)
def Lo(c:q<b.N):aY .inl 18 [b.T,I q] h (.bool (sy b q)) h:=by
 have p:∀{B},Nat.beq (b.D q) 0=B->ao (.aw .eq (.aC (.F 6) 4125 [(.F 25)]) (.lit (.int 0))) ⟨[(6,b.T),(25,I q)],h⟩ (.bool B) h:=λe=>bF (i8 K rfl rfl rfl J (aq J) (yV K c)) u (W0 some e);have d:iu (.range none (.aS (.F 6) 16)) ⟨[(6,b.T),(25,I q)],h⟩ ((aB 0 b.aG).map I) .none h:=by rw[<-j5];exact kI (a9 J (K.Bo _)) (mC (Xv K.uu.2 (WY rfl)))
 unfold sy;generalize P:Nat.beq (b.D q) 0=N;induction N with
 |true=>exact cH rfl rfl (bG (c1 (p P) rfl (bG (cb u))))
 |false=>
  refine(Ln K (h:=h) c (aB 0 b.aG) λt m=>by have z:=(g8 _ m).2;rw[W7] at z;exact z).elim λl f=>?_
  generalize a:rC (b.X q) (aB 0 b.aG)=N;induction N with|true=>rw[a] at f;exact cH rfl rfl (M (cX (p P) rfl) (M (da d rfl f.1 rfl) (bG (cb u))))|false=>rw[a] at f;exact cH rfl rfl (M (cX (p P) rfl) (bG (da d rfl f.1 rfl)))
end
section
variable{b:gK}{E:Nat}{f:ZF}{R:ZE}(K:lr b E f R)
include K
def Mw(j:q<b.N)(d:ZK):∀{a:ZK},(∀t∈d,t<b.aG)->(∀x∈a,x<b.aG)->a.length+d.length<800->∃c:ZK,cS [26] (cA (cm vp 1)) (d.map I) ⟨[(6,b.T),(25,I q),(12,.ref h.n)],W h [some (.ae (a.map I) 0)]⟩ .next ⟨[(6,b.T),(25,I q),(12,.ref h.n)],W h [some (.ae (c.map I) 0)]⟩/\(∀y∈c,y<b.aG)/\c.length<=a.length+d.length:=by
 induction d with
 |nil=>exactλ{a} _ B _=>⟨a,dq,B,Xe _⟩
 |cons t d S=>
  intro a V B f;have skip:∀{l},bE (cA (cm vp 1)) ⟨[(6,b.T),(25,I q),(12,.ref h.n),(26,I t)],W h [some (.ae (a.map I) 0)]⟩ .next ⟨(6,b.T)::(25,I q)::(12,.ref h.n)::l,W h [some (.ae (a.map I) 0)]⟩->∃c:ZK,cS [26] (cA (cm vp 1)) ((t::d).map I) ⟨[(6,b.T),(25,I q),(12,.ref h.n)],W h [some (.ae (a.map I) 0)]⟩ .next ⟨[(6,b.T),(25,I q),(12,.ref h.n)],W h [some (.ae (c.map I) 0)]⟩/\(∀y∈c,y<b.aG)/\c.length<=a.length+(d.length+1):=λk=>(S (λt m=>V t (.tail _ m)) B (Xr f)).elim λc z=>⟨c,cW rfl k rfl z.1,z.2.1,XT z.2.2⟩;have e:ao (.bool true [(.aw .cC (.F 26) (.d9 (.int 1))),(.aw .cC (.F 26) (.d9 (.int 2)))]) ⟨[(6,b.T),(25,I q),(12,.ref h.n),(26,I t)],W h [some (.ae (a.map I) 0)]⟩ (.bool (!(Nat.beq t 1)&& !(Nat.beq t 2))) (W h [some (.ae (a.map I) 0)]):=fX (qI (bF J h6 rfl) (h4 (bF J h6 rfl)));cases oa: !(Nat.beq t 1)&& !(Nat.beq t 2)with
  |false=>rw[oa] at e;exact skip (M (cX e rfl) ba)
  |true=>
   rw[oa] at e;have i:cF (.bY (.F 8) (.aC (.F 6) 4124 [(.F 25),(.F 26)])) ⟨[(6,b.T),(25,I q),(12,.ref h.n),(26,I t)],W h [some (.ae (a.map I) 0)]⟩ .next ⟨[(6,b.T),(25,I q),(12,.ref h.n),(26,I t),(8,.int (b.X q t))],W h [some (.ae (a.map I) 0)]⟩:=cI (i8 K rfl rfl rfl J (aI J (aq J)) (y3 K j (V t (.head _))));have gN:ao (.bool true [(.aw .cC (.F 8) (.lit (.int 0))),(.aw .cC (.F 8) (.d9 (.int (-1048576))))]) ⟨[(6,b.T),(25,I q),(12,.ref h.n),(26,I t),(8,.int (b.X q t))],W h [some (.ae (a.map I) 0)]⟩ (.bool (!(dr (b.X q t) 0)&& !(dr (b.X q t) (-1048576)))) (W h [some (.ae (a.map I) 0)]):=fX (qI (bF J u rfl) (h4 (bF J h6 rfl)));cases ob: !(dr (b.X q t) 0)&& !(dr (b.X q t) (-1048576))with
   |false=>rw[ob] at gN;exact skip (M (c1 e rfl (M i (M (cX gN rfl) ba))) ba)
   |true=>
    rw[ob] at gN;have g:=v8 (b:=h) (L:=[some (.ae (a.map I) 0)]) (A:=[(6,b.T),(25,I q),(12,.ref h.n),(26,I t),(8,.int (b.X q t))]) (m:=4096) 0 rfl (J (a:=12) rfl) rfl (J (a:=26) rfl) (dW (by rw[c9,c5];exact W3 (Xd _ _) (Xv f (WY rfl))))
    rw[show U (a.map I) [I t]=(U a [t]).map I from h3 (b:=[t])] at g;refine(S (λt m=>V t (.tail _ m)) (λx m=>(XF.mp (cQ▸m)).elim (B x) λz=>Xf.mp z▸V t (.head _)) (by rw[cQ,W8,W9,Xa [t].length];exact f)).elim λc z=>⟨c,cW rfl (M (c1 e rfl (M i (M (c1 gN rfl (M (de g rfl) ba)) ba))) ba) rfl z.1,z.2.1,W5 z.2.2 (Xu (by rw[cQ,W8,W9,Xa [t].length];rfl))⟩
def Mv(c:q<b.N):∃a:ZK,aY .inl 17 [b.T,I q] h (.ref h.n) (W h [some (.ae (a.map I) 0)])/\(∀y∈a,y<b.aG)/\a.length<100:=by
 refine(Mw K (h:=h) c (aB 0 b.aG) (a:=[]) (λt m=>by have z:=(g8 _ m).2;rw[W7] at z;exact z) (λ_ h=>nomatch h) (by rw[oR];exact W3 (Xu (W7 _)) (Xv K.uu.2 (WY rfl)))).elim λa z=>⟨a,?_,z.2.1,?_⟩
 .have f:=z.1
  rw[<-j5] at f;exact cH rfl rfl (M (cI (h7 du)) (M (da (kI (a9 J (K.Bo _)) (mC (Xv K.uu.2 (WY rfl)))) rfl f rfl) (bG (cb J))))
 .refine W3 z.2.2 ?_
  rw[oR];exact W3 (Xu (W7 _)) (Xv K.uu.2 (WY rfl))
end
structure kf where
 ak:Nat
 fO:Nat
 e0:ZE
 gj:ZF
 iB:Nat
 j:ZK
 bg:ZF
 bc:V
 aO:Nat
 gy:V
 val:V
def rA:V:=bX [109,111,114,101]
abbrev pk(T H:V)(d:kf):ZD:=aai [(74,T),(80,H),(81,I 5000),(82,.ref 1),(59,.ref d.ak),(72,.ref d.fO),(84,d.bc),(85,I d.iB),(86,d.gy),(77,d.val),(78,.ref 9),(47,.ref 10)]
def xT(p:Nat):Prop:=p≠0/\p≠1/\p≠6/\p≠9/\p≠10
def vy(h:11<=a):xT a:=
 have f:∀{k},k<11->a≠k:=λz=>XK (W4 z h)
 ⟨f (WY rfl),f (WY rfl),f (WY rfl),f (WY rfl),f (WY rfl)⟩
structure bW(h:Z)(T H:V)(a:ZF)(d:kf):Prop where
 i:h.get 0=some (.ins 16 (pk T H d))
 l:h.get 1=some (.ah .I d.e0 0)
 t:h.get 6=some (.ins 15 [(79,.ae a),(7,I d.aO)])
 f:∃P,h.get 9=some (.ae P 0)/\Wx P<100
 m:h.get 10=some (.ae d.gj 0)
 s:h.get d.ak=some (.ae (d.j.map I) 0)
 v:h.get d.fO=some (.ae d.bg 0)
 n:11<=h.n
 k7:d.ak<h.n
 lb:d.fO<h.n
 mf:d.ak≠d.fO
 b6:xT d.ak
 c2:xT d.fO
section
variable{h:Z}{T H:V}{s:ZF}{d:kf}
def kG:(h.a5 p x).get p=x:=(Z.mQ ..).trans (if_pos rfl)
def cE(e:p≠q):(h.a5 p x).get q=h.get q:=(Z.mQ ..).trans (if_neg e)
def Ni(e:q<h.n):(h.new a).get q=h.get q:=(Z.vH h q (some a)).trans (if_neg (XK e))
def D0:(h.new a).get h.n=some a:=(Z.vH h h.n (some a)).trans (if_pos rfl)
def bW.sz(j:bW h T H s d){bc o u:V}:bW (h.a5 0 (some (.ins 16 (pk T H {d with bc:=bc,gy:=o,val:=u,iB:=iB})))) T H s {d with bc:=bc,gy:=o,val:=u,iB:=iB}:=
 ⟨kG,(cE (by decide)).trans j.l,(cE (by decide)).trans j.t,j.f.imp λ_ C=>⟨(cE (by decide)).trans C.1,C.2⟩,(cE (by decide)).trans j.m,(cE j.b6.1.symm).trans j.s,(cE j.c2.1.symm).trans j.v,j.n,j.k7,j.lb,j.mf,j.b6,j.c2⟩
def bW.TB(j:bW h T H s d):bW (h.a5 1 (some (.ah .I e0 0))) T H s {d with e0:=e0}:=
 ⟨(cE (by decide)).trans j.i,kG,(cE (by decide)).trans j.t,j.f.imp λ_ o=>⟨(cE (by decide)).trans o.1,o.2⟩,(cE (by decide)).trans j.m,(cE j.b6.2.1.symm).trans j.s,(cE j.c2.2.1.symm).trans j.v,j.n,j.k7,j.lb,j.mf,j.b6,j.c2⟩
def bW.TJ(j:bW h T H s d):bW (h.a5 6 (some (.ins 15 [(79,.ae s),(7,I a')]))) T H s {d with aO:=a'}:=
 ⟨(cE (by decide)).trans j.i,(cE (by decide)).trans j.l,kG,j.f.imp λ_ o=>⟨(cE (by decide)).trans o.1,o.2⟩,(cE (by decide)).trans j.m,(cE j.b6.2.2.1.symm).trans j.s,(cE j.c2.2.2.1.symm).trans j.v,j.n,j.k7,j.lb,j.mf,j.b6,j.c2⟩
def bW.TC(j:bW h T H s d):bW (h.a5 10 (some (.ae a' 0))) T H s {d with gj:=a'}:=
 ⟨(cE (by decide)).trans j.i,(cE (by decide)).trans j.l,(cE (by decide)).trans j.t,j.f.imp λ_ o=>⟨(cE (by decide)).trans o.1,o.2⟩,kG,(cE j.b6.2.2.2.2.symm).trans j.s,(cE j.c2.2.2.2.2.symm).trans j.v,j.n,j.k7,j.lb,j.mf,j.b6,j.c2⟩
def bW.G3(o:bW h T H s d){j:ZK}:bW (h.a5 d.ak (some (.ae (j.map I) 0))) T H s {d with j:=j}:=
 ⟨(cE o.b6.1).trans o.i,(cE o.b6.2.1).trans o.l,(cE o.b6.2.2.1).trans o.t,o.f.imp λ_ u=>⟨(cE o.b6.2.2.2.1).trans u.1,u.2⟩,(cE o.b6.2.2.2.2).trans o.m,kG,(cE o.mf).trans o.v,o.n,o.k7,o.lb,o.mf,o.b6,o.c2⟩
def bW.G4(j:bW h T H s d):bW (h.a5 d.fO (some (.ae a' 0))) T H s {d with bg:=a'}:=
 ⟨(cE j.c2.1).trans j.i,(cE j.c2.2.1).trans j.l,(cE j.c2.2.2.1).trans j.t,j.f.imp λ_ o=>⟨(cE j.c2.2.2.2.1).trans o.1,o.2⟩,(cE j.c2.2.2.2.2).trans j.m,(cE j.mf.symm).trans j.s,kG,j.n,j.k7,j.lb,j.mf,j.b6,j.c2⟩
def bW.ext(j:bW h T H s d)(C:∀a',a'<h.n->h'.get a'=h.get a')(J:h.n<=h'.n):bW h' T H s d:=
 have o:∀{a'},a'<11->h'.get a'=h.get a':=λu=>C _ (W4 u j.n)
 ⟨(o (by decide)).trans j.i,(o (by decide)).trans j.l,(o (by decide)).trans j.t,j.f.imp λ_ u=>⟨(o (by decide)).trans u.1,u.2⟩,(o (by decide)).trans j.m,(C _ j.k7).trans j.s,(C _ j.lb).trans j.v,W5 j.n J,W4 j.k7 J,W4 j.lb J,j.mf,j.b6,j.c2⟩
def bW.new(j:bW h T H s d):bW (h.new a') T H s d:=j.ext (λ_ o=>Ni o) (Xt _)
def bW.Q9(o:bW h T H s d):bW ((h.new (.ae a' 0)).a5 0 (some (.ins 16 (pk T H {d with fO:=h.n,bg:=a'})))) T H s {d with fO:=h.n,bg:=a'}:=
 have j:=o.new
 ⟨kG,(cE (by decide)).trans j.l,(cE (by decide)).trans j.t,j.f.imp λ_ u=>⟨(cE (by decide)).trans u.1,u.2⟩,(cE (by decide)).trans j.m,(cE o.b6.1.symm).trans j.s,(cE (vy o.n).1.symm).trans D0,j.n,j.k7,Xh _,Xi o.k7,o.b6,vy o.n⟩
def bW.Q7(u:bW h T H s d){j:ZK}:bW ((h.new (.ae (j.map I) 0)).a5 0 (some (.ins 16 (pk T H {d with ak:=h.n,j:=j})))) T H s {d with ak:=h.n,j:=j}:=
 have o:=u.new
 ⟨kG,(cE (by decide)).trans o.l,(cE (by decide)).trans o.t,o.f.imp λ_ C=>⟨(cE (by decide)).trans C.1,C.2⟩,(cE (by decide)).trans o.m,(cE (vy u.n).1.symm).trans D0,(cE u.c2.1.symm).trans o.v,o.n,Xh _,o.lb,XK u.lb,vy u.n,u.c2⟩
def bW.at(o:bW h T H s d){j:Nat}{v:V}(u:au (pk T H d) j=some v):bM h (.ref 0) j=some v:=iY o.i u
def fW(K:bW P T H s a)(X:au (pk T H a) (ht m)=none)(R:au Cj.kS (ht m)=some f)(F:Nat.ble (dE.kZ f) (rv m))(p:ao e ⟨A,x⟩ (.ref 0) P)(u:gv G ⟨A,P⟩ b N)(g:aY .inl f (.ref 0::b) N v t):ao (.aC e m G) ⟨A,x⟩ v t:=
 fJ p (kv K.i) (kF K.i X) rfl R F u g
def Rr{O:ZF}{v:V}:a3 (U O [v]) O.length=some v:=by
 induction O with|nil=>rfl|cons x r S=>exact S
def DX(e:h.get p=some (.ae (U a [v]) l)):cZ (.ref p) (.int (-1)) h=some v:=by
 refine zp e ?_;refine(?_:Y (match Nat.blt 0 (Wx (U a [v]))with|true=>some (Wx (U a [v])-(0+1))|false=>none) (λk=>a3 (U a [v]) k)=_)
 refine(show Wx (U a [v])=a.length+1 by rw[iF,c5];rfl)▸?_
 exact Rr
end
def gE(b:gK)(q:Nat):Nat:=match sy b q with
 |true=>b.D q
 |false=>0
def kl(b:gK)(l:ZE):Prop:=∀q v,bL l (.i (.ofNat q))=some v->v=I (gE b q)
section
variable{b:gK}{E:Nat}{f:ZF}{R:ZE}(B:lr b E f R)
def kl.a5(C:kl b c'):kl b (cU c' (.i (.ofNat a')) (I (gE b a'))):=λu v j=>by
 rw[vg] at j;generalize o:cJ (.i (.ofNat a')) (.i (.ofNat u))=J;induction J with|true=>rw[o] at j;exact(show a'=u from W2 o)▸(WZ j).symm|false=>rw[o] at j;exact C u v j
include B in
def Fw(K:bW h b.T H s d)(W:kl b d.e0)(i:Wx d.e0<900)(g:q<b.N):
  ∃a G,aY .inl 71 [.ref 0,I q] h (I (gE b q)) a/\bW a b.T H s {d with e0:=G}/\kl b G/\Wx G<=Wx d.e0+1:=by
 have f:ao (.aw .j1 (.F 25) (.aS (.F 6) 82)) ⟨[(6,.ref 0),(25,I q)],h⟩ (.bool (!(WE (bL d.e0 (.i (.ofNat q)))))) h:=bF J (a9 J (K.at rfl)) (a6 (EH K.l rfl) rfl);generalize T:bL d.e0 (.i (.ofNat q))=N;induction N with
 |some v=>rw[T] at f;have e:=W q v T;subst e;exact⟨h,d.e0,cH rfl rfl (M (cX f rfl) (bG (cb (bw (a9 J (K.at rfl)) J (lO K.l rfl T))))),K,W,Xt _⟩
 |none=>
  rw[T] at f;have p:=K.TB (e0:=cU d.e0 (.i (.ofNat q)) (I (gE b q)));have c:ao (.aC (.aS (.F 6) 74) 8286 [(.F 25)]) ⟨[(6,.ref 0),(25,I q)],h⟩ (.bool (sy b q)) h:=i8 B rfl rfl rfl (a9 J (K.at rfl)) (aq J) (Lo B g);have k:ao (.ite (.aC (.aS (.F 6) 74) 8286 [(.F 25)]) (.aC (.aS (.F 6) 74) 8221 [(.F 25)]) (.lit (.int 0))) ⟨[(6,.ref 0),(25,I q)],h⟩ (I (gE b q)) h:=by
   unfold gE;generalize L:sy b q=N;induction N with|true=>rw[L] at c;exact lH c rfl (i8 B rfl rfl rfl (a9 J (K.at rfl)) (aq J) (yV B g))|false=>rw[L] at c;exact jT c rfl u
  exact⟨_,_,cH rfl rfl (M (lQ f rfl (M (jy k (a9 J (K.at rfl)) J (rT K.l rfl (dW (W4 i (WY rfl))))) ba)) (bG (cb (bw (a9 J (p.at rfl)) J (lO p.l rfl (by rw[vg,tq])))))),p,W.a5,pW⟩
def Au(K:bW h T H s d)(D:Wx d.gj<900):∃a,aY .inl 73 [.ref 0,A] h .none a/\bW a T H s {d with gj:=U d.gj [A]}/\a.n=h.n:=by have c:ao (.aw .mP (.bq false .len [(.aS (.F 6) 47)]) (.aS (.F 6) 81)) ⟨[(6,.ref 0),(95,A)],h⟩ (.bool false) h:=bF (d4 (aq (a9 J (K.at rfl))) (a6 rfl (a6 (px K.m) rfl))) (a9 J (K.at rfl)) (W0 (λb=>some (!b)) (dF (W4 D (WY rfl:900<=5000))));exact⟨_,gO rfl rfl (M (cX c rfl) (M (de (fY (a9 J (K.at rfl)) K.m (aq J) K.m (hu K.m (dW (W4 D (WY rfl))))) rfl) ba)),K.TC,rfl⟩
def MR(K:bW h T H s d):∃c,aY .inl 75 [.ref 0,a,v] h .none c/\bW c T H s {d with gy:=a,val:=v}:=
 have l:=K.sz (o:=a)
 ⟨_,gO rfl rfl (M (fc J J (k5 K.i rfl)) (M (fc J J (k5 l.i rfl)) ba)),l.sz (bc:=d.bc) (iB:=d.iB) (o:=a) (u:=v)⟩
def Qb(K:bW h T H s d):∃a,aY .inl 70 [.ref 0,t] h .none a/\bW a T H s {d with bc:=t,iB:=d.iB+1}:=
 have l:=K.sz (bc:=t)
 ⟨_,gO rfl rfl (M (fc J J (k5 K.i rfl)) (M (fc (cV (d:=I (d.iB+1)) (a9 J (l.at rfl)) u rfl) J (k5 l.i rfl)) ba)),l.sz (bc:=t) (iB:=d.iB+1) (o:=d.gy) (u:=d.val)⟩
end
def vi:V:=.ins 4 false [(9,bX [36,101,110,100]),(10,bX []),(7,.none),(11,bX [])]
section
variable{b:gK}{E:Nat}{f:ZF}{R:ZE}(B:lr b E f R)
def GN(K:bW h T H s d):ao (.aw .mP (.aS (.F 6) 7) (.bq false .len [(.aS (.F 6) 79)])) ⟨[(6,.ref 6)],h⟩ (.bool (!(Nat.blt d.aO (Wx s)))) h:=bF (a9 J (iY K.t rfl)) (d4 (aq (a9 J (iY K.t rfl))) rfl) rfl
def Q'(K:bW h T H s d)(E:Wx s<=d.aO):aY .inl 62 [.ref 6] h vi h:=by have c:=GN K;rw[lC E] at c;exact cH rfl rfl (bG (c1 c rfl (bG (cb (iC (aI u (aI u (aq u))) (ft 9 λ_=>rfl))))))
def Ra(K:bW h T H s d)(E:a3 s d.aO=some t)(m:d.aO<Wx s)(R:∀h,bM h t 9=some e)(l:∀h,dy .cC e (bX [36,101,110,100]) h=some true):∃a,aY .inl 62 [.ref 6] h t a/\bW a T H s {d with aO:=d.aO+1}:=by have c:=GN K;rw[dF m] at c;exact⟨_,cH rfl rfl (M (cX c rfl) (M (cI (bw (a9 J (iY K.t rfl)) (a9 J (iY K.t rfl)) (js m E))) (M (c1 (bF (a9 J (R _)) u (l _)) rfl (M (fc (cV (a9 J (iY K.t rfl)) u rfl) J (k5 K.t rfl)) ba)) (bG (cb J))))),K.TJ⟩
include B in
def UY(K:bW h b.T H s d)(e:∀h,bM h t 9=some c)(T:gC .S R [c,.int 2]=some (I a))(X:a≠1):aY .inl 72 [.ref 0,t] h (I a) h:=by have f:aY .inl 8 [b.T,c] h (I a) h:=cH rfl rfl (bG (cb (kB (a9 J (B.c0 _)) rfl (aI J (aq h6)) rfl (ou T))));exact cH rfl rfl (M (cI (i8 B rfl rfl rfl (a9 J (K.at rfl)) (aq (a9 J (e _))) f)) (bG (cb (jT (bF (J rfl) h6 (W0 some (ee X))) rfl J))))
end
def AM:dV (λi=>l9 i.e self [] ⟨A,h⟩ P) (P,h):=.val rfl
def j4(p:ao x ⟨A,h⟩ v b)(f:n5 P)(q:dV (λi=>l9 i.e self r ⟨A,b⟩ (Wy P a v)) z):dV (λi=>l9 i.e self (.bY (.aS (.F self) a) x::r) ⟨A,h⟩ P) z:=by
 refine(?_:dV (λi=>match Nat.beq self self with|true=>Y (i.e x ⟨A,h⟩) λp=>bS (n5 P) (l9 i.e self r ⟨A,p.2⟩ (Wy P a p.1))|false=>none) z)
 rw[Xn];exact .Y p (.bR f q)
def gg(Q:ZF):V:=aai (.ins 11 false [(15,.ae Q)])
def lV(t a:V):V:=aai (.ins 10 false [(23,a),(24,I 0),(63,.ae []),(67,t)])
def fC(r:Nat)(X:ZF):V:=.ins 9 false [(23,bX [69]),(24,I r),(63,.ae X)]
def Pr(R:∀h,bM h t 9=some a)(m:jt t=false)(E:jt a=false):aY .eg 10 [t] h (lV t a) h:=by
 have e:r' [(23,a),(24,I 0),(63,V.ae []),(67,t)]=false:=by
  refine(?_:(match jt a with|true=>true|false=>match jt t with|true=>true|false=>false)=false)
  rw[m,E]
 have k:aY .eg 10 [t] h (.ins 10 (r' [(23,a),(24,I 0),(63,V.ae []),(67,t)]) [(23,a),(24,I 0),(63,V.ae []),(67,t)]) h:=
  yK (self:=6) (d:=[67]) (A:=[(67,t)]) rfl rfl rfl rfl rfl rfl (j4 (a9 J (R _)) rfl (j4 u rfl (j4 (fu du) rfl (j4 J rfl AM))))
 rw[e] at k;exact k
def TP(K:bW h T (gg Q) s d)(c:d.bc=t)(R:∀h,bM h t 9=some a)(m:jt t=false)(E:jt a=false)(f:Wx d.gj<900)(i:d.j.length<900)(A:Wx d.bg<900):
  ∃b,aY .inl 78 [.ref 0,I g] h .none b/\bW b T (gg Q) s {d with gj:=U d.gj [.ay [bX [115,104,105,102,116],I g]],j:=U d.j [g],bg:=U d.bg [lV t a],bc:=.none}:=by
 have D:∀{n},n<900->n<1000:=λz=>W4 z (WY rfl);refine(Au (A:=.ay [bX [115,104,105,102,116],I g]) K f).elim λP z=>?_;have l:=z.2.1;have p:=l.G3 (j:=U d.j [g]);have e:=p.G4 (a':=U d.bg [lV t a]);have O:=hu (x:=I g) l.s (dW (by rw[c9,c5];exact D i))
 rw[show U (d.j.map I) [I g]=(U d.j [g]).map I from h3 (b:=[g])] at O;have j:aY .inl 49 [gg Q,t] (P.a5 d.ak (some (.ae ((U d.j [g]).map I) 0))) (lV t a) (P.a5 d.ak (some (.ae ((U d.j [g]).map I) 0))):=cH rfl rfl (bG (cb (iC (aq J) (Pr R m E))));exact⟨_,gO rfl rfl (M (de (fW K rfl rfl rfl J (aq (d8 (aI u (aq J)))) z.1) rfl) (M (de (fY (a9 J (l.at rfl)) l.s (aq J) l.s O) rfl) (M (de (fY (a9 J (p.at rfl)) p.v (aq (fJ (a9 J (p.at rfl)) rfl rfl rfl rfl rfl (aq (a9 J ((p.at rfl).trans (W0 some c)))) j)) p.v (hu p.v (dW (D A)))) rfl) (M (fc u J (k5 e.i rfl)) ba)))),e.sz (bc:=.none) (iB:=d.iB) (o:=d.gy) (u:=d.val)⟩
section
variable{b:gK}{E:Nat}{f:ZF}{R:ZE}(B:lr b E f R){h:Z}{s:ZF}{d:kf}
def ts(K:bW h T H s d)(e:d.j=U a [q]):cZ (.ref d.ak) (.int (-1)) h=some (I q):=by have z:=K.s;rw[e,<-h3] at z;exact DX z
include B in
def Nq(K:bW h b.T H s d)(e:d.j=U c [q])(j:q<b.N)(m:0<r)(F:r<b.R)(i:b.G q=.ofNat g)(k:d.j.length<900)(A:Wx d.bg<900):
  ∃a,aY .inl 81 [.ref 0,I r,v] h .none a/\bW a b.T H s {d with j:=U d.j [g],bg:=U d.bg [v]}:=by
 have D:∀{n},n<900->n<1000:=λz=>W4 z (WY rfl);have p:=K.G3 (j:=U d.j [g]);have O:=hu (x:=I g) K.s (dW (by rw[c9,c5];exact D k))
 rw[show U (d.j.map I) [I g]=(U d.j [g]).map I from h3 (b:=[g])] at O;have f:=Ny B (h:=h) j;rw[i] at f;exact⟨_,gO rfl rfl (M (cI (i8 B rfl rfl rfl (a9 J (K.at rfl)) (aI (bw (a9 J (K.at rfl)) (hK u rfl) (ts K e)) (aq (i8 B rfl rfl rfl (a9 J (K.at rfl)) (aq J) (Pu B m F)))) f)) (M (cX (bF J u rfl) rfl) (M (de (fY (a9 J (K.at rfl)) K.s (aq J) K.s O) rfl) (M (de (fY (a9 J (p.at rfl)) p.v (aq J) p.v (hu p.v (dW (D A)))) rfl) ba)))),p.G4 (a':=U d.bg [v])⟩
def Jf(K:bW h T (gg Q) s d)(X:∀h,cZ (.ae Q) (I r) h=some (bX [69])):aY .inl 80 [.ref 0,I r,.ae args] h (fC r args) h:=by have a:aY .inl 50 [gg Q,I r,.ae args,.none] h (fC r args) h:=cH rfl rfl (M (cI (bw (a9 J rfl) J (X _))) (M (cX (kB J rfl (aq u) rfl rfl) rfl) (bG (cb (iC (aI J (aI J (aq J))) (ft 9 λ_=>rfl))))));exact cH rfl rfl (bG (cb (fJ (a9 J (K.at rfl)) rfl rfl rfl rfl rfl (aI J (aI J (aq u))) a)))
def Bm:mg (U a c) a.length=a:=by
 induction a with
 |nil=>induction c<;>rfl
 |cons x a S=>exact W0 (x::·) S
def C4:q6 (U a c) a.length=c:=by
 induction a with
 |nil=>induction c<;>rfl
 |cons x a S=>exact S
def HY(K:bW h T H s d)(e:au A 6=some (.ref 0))(f:d.bg.length=a):ao (.bq false .len [(.aS (.F 6) 72)]) ⟨A,h⟩ (I a) h:=d4 (aq (a9 (J e) (K.at rfl))) (a6 rfl (a6 (px K.v) (by rw[<-f,<-c5])))
include B in
def SI(K:bW h b.T (gg Q) s d)(G:d.j=U (U a [q]) f5)(aD:d.bg=U H args)(x:a.length=H.length)(E:args.length=b.L r)(O:q<b.N)(R:0<r)(F:r<b.R)(A:b.G q=.ofNat g)(X:∀h,cZ (.ae Q) (I r) h=some (bX [69]))(C:Wx d.gj<900)(o:d.j.length<800)(T:d.bg.length<800):
  ∃c L e i,aY .inl 79 [.ref 0,I r] h .none c/\bW c b.T (gg Q) s {d with gj:=L,ak:=e,fO:=i,j:=U (U a [q]) [g],bg:=U H [fC r args]}/\Wx L<=Wx d.gj+1:=by
 have D:∀{n},n<800->n<900:=λz=>W4 z (WY rfl);refine(Au (A:=.ay [bX [114,101,100,117,99,101],I r]) K C).elim λP z=>?_;have l:=z.2.1;have p:=l.Q9 (a':=H);have j:=p.Q7 (j:=U a [q]);have f:d.bg.length=H.length+b.L r:=by rw[aD,cQ,W8,E]
 have S:(U a [q]).length<800:=by rw[G,cQ,W8] at o;exact W3 (Xd _ _) o
 have N:Wx H<800:=by rw[c5];exact W3 (by rw[f];exact Xd _ _) T
 refine(Nq B (v:=fC r args) j rfl O R F A (D S) (D N)).elim λv y=>?_;have t:d5 (.ref d.fO) P=some (U H args):=by rw[<-aD];exact lX l.v
 have m:=lX p.s;rw[show d.j.map I=U ((U a [q]).map I) (f5.map I) from by rw[G,h3]] at m
 have k:=C7 (A:=[(6,.ref 0),(24,I r),(105,I (b.L r)),(106,I H.length),(77,fC r args),(108,I H.length)]) (a:=.aS (.F 6) 72) (b:=.F 108) (a9 J (l.at rfl)) J t;rw[Bm] at k;have w:=C7 (A:=[(6,.ref 0),(24,I r),(105,I (b.L r)),(106,I H.length),(77,fC r args),(108,I H.length)]) (a:=.aS (.F 6) 59) (b:=.a7 .add false (.F 108) (.lit (.int 1))) (c:=H.length+1) (a9 J (p.at rfl)) (cV J u rfl) m;rw[show H.length+1=((U a [q]).map I).length by rw[Xs,cQ,W8,x];rfl,Bm] at w
 refine⟨v,_,_,_,gO (G:=[(6,.ref 0),(24,I r),(105,I (b.L r)),(106,I H.length),(77,fC r args),(108,I H.length)]) rfl rfl (M (de (fW K rfl rfl rfl J (aq (d8 (aI u (aq J)))) z.1) rfl) (M (cI (a:=105) (A:=[(6,.ref 0),(24,I r)]) (i8 B rfl rfl rfl (a9 J (l.at rfl)) (aq J) (PD B F))) ?_)),y.2,by show Wx (U d.gj _)<=_;rw[iF];exact Xe _⟩
 refine M (dk (cV (cV (HY l rfl f) J (md (X7 _ _))) (i8 B rfl rfl rfl (a9 J (l.at rfl)) (aq J) (JN B F)) ((md (Xj _)).trans (by rw[Nat.sub_zero,YV])))) ?_
 refine M (dk (fW l rfl rfl rfl J (aI J (aq (zm (a9 J (l.at rfl)) J t))) (by rw[C4];exact Jf l X))) ?_
 exact M (dk (cV (HY l rfl f) J ((md (X7 _ _)).trans (by rw[YV])))) (M (kH k J (k5 l.new.i rfl)) (M (kH w J (k5 p.new.i rfl)) (M (de (fW j rfl rfl rfl J (aI J (aq J)) y.1) rfl) ba)))
end
section
variable{b:gK}{E:Nat}{f:ZF}{R:ZE}(B:lr b E f R){h:Z}{s:ZF}{d:kf}{Q:ZF}{H T:V}{X:ZK}{q:Nat}{S:V}
include B in
def F1(K:bW h b.T H s d)(W:kl b d.e0)(f:Wx d.e0<900)(e:d.j=U X [q])(I:q<b.N)(c:d.bc=.none):
  ∃a G,aY .inl 69 [.ref 0] h (.bool (Nat.beq (gE b q) 0)) a/\bW a b.T H s {d with e0:=G}/\kl b G/\Wx G<=Wx d.e0+1:=
 (Fw B K W f I).elim λP z=>z.elim λi z=>⟨P,i,cH rfl rfl (bG (cb (fX (jO (bF (a9 J ((K.at rfl).trans (W0 some c))) u rfl) rfl (h4 (n7 (fW K rfl rfl rfl J (aq (bw (a9 J (K.at rfl)) (hK u rfl) (ts K e))) z.1) u rfl)))))),z.2⟩
def Q3(K:bW h T H s d)(a:d.bc=S)(X:dy .is S .none h=some false):aY .inl 69 [.ref 0] h (.bool false) h:=
 cH rfl rfl (bG (cb (fX (ph (bF (a9 J ((K.at rfl).trans (W0 some a))) u X) rfl))))
abbrev Be(q l:Nat):ZD:=aai [(6,.ref 0),(25,I q),(82,I l)]
include B in
def Hj(K:bW h b.T H s d)(W:kl b d.e0)(f:Wx d.e0<900)(e:d.j=U X [q])(I:q<b.N):
  ∃a G,bW a b.T H s {d with e0:=G}/\kl b G/\Wx G<=Wx d.e0+1/\∀{i c},bE (pF.body.drop 2) ⟨Be q (gE b q),a⟩ i c->bE pF.body ⟨[(6,.ref 0)],h⟩ i c:=
 (Fw B K W f I).elim λP z=>z.elim λg z=>⟨P,g,z.2.1,z.2.2.1,z.2.2.2,λk=>M (dk (bw (a9 J (K.at rfl)) (hK u rfl) (ts K e))) (M (cI (fW K rfl rfl rfl J (aq J) z.1)) k)⟩
end
structure ml(h:Z)(T H:V)(d:kf):Prop where
 i:h.get 0=some (.ins 16 (pk T H d))
 f:∃P,h.get 9=some (.ae P 0)
 m:∃y,h.get 10=some (.ae y 0)
def bW.z(j:bW h' c' a' s' f'):ml h' c' a' f':=⟨j.i,j.f.imp λ_ o=>o.1,_,j.m⟩
section
variable{b:gK}{E:Nat}{f:ZF}{R:ZE}(B:lr b E f R){h:Z}{s:ZF}
include B in
def Q0(K:bW h b.T H s d)(E:ZK):(∀y∈E,y<b.aG)->∃a,eV [22] (.sub (.aS (.aS (.F 6) 74) 15) (.F 22)) none [(6,.ref 0)] (E.map I) h a h:=by
 induction E with|nil=>exactλ_=>⟨[],gF⟩|cons y E S=>exactλL=>(S λz m=>L z (.tail _ m)).elim λa k=>(m7 f (W4 (L y (.head _)) B.Ap)).elim λv e=>⟨v::a,fZ rfl (bw (a9 (a9 J (K.at rfl)) (B.names _)) J (js (W4 (L y (.head _)) B.Ap) e)) k⟩
def D6(K:bW h T H s d):bW (W h [some a]) T H s d:=K.ext (λ_ L=>pJ [some a] L) (Xt _)
include B in
def UX(K:bW h b.T H s d)(e:d.j=U i [q])(k:q<b.N):∃g,aY .inl 83 [.ref 0] h .none g/\ml g b.T H d:=by
 refine(Mv B (h:=h) k).elim λE z=>?_;have l:=D6 (a:=.ae (E.map I) 0) K;have j:aY .inl 82 [.ref 0] h (.ref h.n) (W h [some (.ae (E.map I) 0)]):=cH rfl rfl (bG (cb (i8 B rfl rfl rfl (a9 J (K.at rfl)) (aq (bw (a9 J (K.at rfl)) (hK u rfl) (ts K e))) z.1)));refine(Q0 B (D6 (a:=.ae (E.map I) 1) K) E z.2.1).elim λf m=>l.f.elim λP y=>?_;have n:cF (cm Dv 0) ⟨[(6,.ref 0)],h⟩ .next ⟨[(6,.ref 0),(15,.ae f)],W h [some (.ae (E.map I) 0)]⟩:=
  cI (a:=15) (A:=[(6,.ref 0)]) (s6 (c8 (fW K rfl rfl rfl J du j) (ui (cw (i:=0) _ rfl))) (jq (by rw[c9,c5];exact Xv z.2.2 (WY rfl))) (pS 0 rfl) m (pT 0 rfl))
 have mk:∀a c z x,∃v,aY .eg 13 [a,c,z,x] (W h [some (.ae (E.map I) 0)]) v (W h [some (.ae (E.map I) 0)]):=λa c z x=>⟨_,yK (i:=56) (a:=Dt) rfl rfl rfl rfl rfl rfl (j4 J rfl (j4 J rfl (j4 J rfl (j4 J rfl AM))))⟩;refine(mk d.bc (I q) (.ae f) (.int (Int.ofNat d.iB-1))).elim λL mk=>⟨_,gO rfl rfl (M n (M (de (fY (a9 J (l.at rfl)) y.1 (aq (iC (aI (a9 J (l.at rfl)) (aI (bw (a9 J (l.at rfl)) (hK u rfl) (ts l e)) (aI J (aq (cV (a9 J (l.at rfl)) u rfl))))) mk)) y.1 (hu y.1 (dW (Xv y.2 (WY rfl))))) rfl) ba)),(cE (by decide)).trans l.i,⟨_,kG⟩,⟨_,(cE (by decide)).trans l.m⟩⟩
end
def ym:V:=bX [97,98,111,114,116,101,100]
def uJ:V:=bX [97,99,99,101,112,116,101,100]
structure nO(b:ZE)(t a:V)(n:Nat):Prop where
 k:∀h,bM h t 9=some a
 d:gC .S b [a,.int 2]=some (I n)
 QW:n≠1
 is:∀h,dy .is t .none h=some false
structure fk(b:gK)(e f:ZF)(w:Nat)(j:ZK)(c:ZF)(bc:V)(a:Nat)(h:Z)(d:kf):Prop where
 K:bW h b.T (gg e) f d
 L:kl b d.e0
 l:Wx d.e0+w<700
 m:Wx d.gj+w<700
 s:j.length+w<700
 v:c.length+w<700
 x:(d.gy=rA/\d.aO=a)/\d.j=j/\d.bg=c/\d.bc=bc
def pZ(e:x+(w+1)<700):x+w<700:=Xr e
def m4(e:x+(w+1)<700)(z:y<=x+1):y+w<700:=W3 (Xl z w) (by rw[W9,Xa 1];exact e)
def m3(e:x+w<700):x<900:=W3 (Xd _ _) (Xv e (WY rfl))
def FH(e:x+w<700):x<800:=W3 (Xd _ _) (Xv e (WY rfl))
abbrev gz:List S:=cA (cm zb 1)
abbrev ei:ZD:=aai [(6,.ref 0),(89,.ref 6)]
abbrev gJ(b:gK)(Q s:ZF)(w:Nat)(j:ZK)(D:ZF)(bc:V)(a:Nat)(h:Z):Prop:=∃d,fk b Q s w j D bc a h d
section
variable{b:gK}{E:Nat}{f:ZF}{R:ZE}(B:lr b E f R){h:Z}{s Q:ZF}{w a q:Nat}{I X:ZK}{D:ZF}{T:V}{d:kf}
def fk.vA(j:fk b Q s (w+1) I D T a h d)(o:bW h' b.T (gg Q) s a')(u:kl b a'.e0)(C:Wx a'.e0<=Wx d.e0+1)(J:Wx a'.gj<=Wx d.gj+1)(M:(a'.gy=rA/\a'.aO=a)/\a'.j=I/\a'.bg=D/\a'.bc=T):fk b Q s w I D T a h' a':=
 ⟨o,u,m4 j.l C,m4 j.m J,pZ j.s,pZ j.v,M⟩
include B
def MG(K:bW h b.T H s d)(e:d.j=U X [q])(I:q<b.N):∃c,aY .inl 84 [.ref 0,v] h .none c/\ml c b.T H {d with gy:=ym,val:=.none}:=
 (UX B K e I).elim λP z=>
  have g:=z.2.i
  ⟨_,gO rfl rfl (M (de (fW K rfl rfl rfl J du z.1) rfl) (M (de (fJ J (kv g) (kF g rfl) rfl rfl rfl (aI u (aq u)) (gO rfl rfl (M (fc J J (k5 g rfl)) (M (fc J J (k5 kG rfl)) ba)))) rfl) ba)),
   kG,z.2.f.imp λ_ z=>(cE (by decide)).trans ((cE (by decide)).trans z),z.2.m.imp λ_ z=>(cE (by decide)).trans ((cE (by decide)).trans z)⟩
def MH(G:fk b Q s (w+1) (U X [q]) D .none a h d)(I:q<b.N)(x:gE b q=0)
  (H:∀{h d},bW h b.T (gg Q) s d->d.aO=a->∃c,aY .inl 62 [.ref 6] h t c/\bW c b.T (gg Q) s {d with aO:=A}):
  ∃c g,(∀{i e},bE (gz.drop 1) ⟨ei,c⟩ i e->bE gz ⟨ei,h⟩ i e)/\fk b Q s w (U X [q]) D t A c g:=
 (F1 B G.K G.L (m3 G.l) G.x.2.1 I G.x.2.2.2).elim λP z=>z.elim λl z=>by have p:=z.1;rw[x] at p;refine(H z.2.1 G.x.1.2).elim λN y=>(Qb (t:=t) y.2).elim λf u=>?_;have j:fk b Q s w (U X [q]) D t A f _:=⟨u.2,z.2.2.1,m4 G.l z.2.2.2,pZ G.m,pZ G.s,pZ G.v,⟨G.x.1.1,rfl⟩,G.x.2.1,G.x.2.2.1,rfl⟩;exact⟨f,_,λk=>M (lQ (fW G.K rfl rfl rfl J du p) rfl (M (de (fW z.2.1 rfl rfl rfl J (aq (fJ J (kv z.2.1.t) (kF z.2.1.t rfl) rfl rfl rfl du y.1)) u.1) rfl) ba)) k,j⟩
def MI(G:fk b Q s (w+1) (U X [q]) D .none a h d)(I:q<b.N)(x:gE b q≠0):
  ∃c g,(∀{i e},bE (gz.drop 1) ⟨ei,c⟩ i e->bE gz ⟨ei,h⟩ i e)/\fk b Q s w (U X [q]) D .none a c g:=
 (F1 B G.K G.L (m3 G.l) G.x.2.1 I G.x.2.2.2).elim λP z=>z.elim λf z=>by have p:=z.1;rw[ee x] at p;exact⟨P,_,λk=>M (jW (fW G.K rfl rfl rfl J du p) rfl ba) k,G.vA z.2.1 z.2.2.1 z.2.2.2 (Xt _) G.x⟩
omit B in
def Dz(G:fk b Q s (w+1) I D t a h d)(X:dy .is t .none h=some false):(∀{i c},bE (gz.drop 1) ⟨ei,h⟩ i c->bE gz ⟨ei,h⟩ i c)/\fk b Q s w I D t a h d:=
 ⟨λk=>M (cX (fW G.K rfl rfl rfl J du (Q3 G.K G.x.2.2.2 X)) rfl) k,G.vA G.K G.L (Xt _) (Xt _) G.x⟩
end
def dX:(U x [z]).length=x.length+1:=by rw[cQ,W8];rfl
def E':(U x [z]).length<=(U x y).length+1:=by rw[dX,cQ,W8];exact Xp (Xd _ _)
section
variable{b:gK}{E:Nat}{f:ZF}{R:ZE}(B:lr b E f R){h:Z}{s Q:ZF}{w a q n r g p:Nat}{X D e:ZK}{T H S:ZF}{t P v O:V}
abbrev Je(q n:Nat)(x:Int):ZD:=aai [(6,.ref 0),(25,I q),(82,I 0),(26,I n),(98,.int x)]
def Ul(K:bW h b.T (gg Q) s d)(a:∀{i c},bE (pF.body.drop 2) ⟨Be q (gE b q),l⟩ i c->bE pF.body ⟨[(6,.ref 0)],h⟩ i c)(k:bE (pF.body.drop 2) ⟨Be q (gE b q),l⟩ .next ⟨A,N⟩):bE (gz.drop 1) ⟨ei,h⟩ .next ⟨ei,N⟩:=
 M (de (fW K rfl rfl rfl J du (gO rfl rfl (a k))) rfl) ba
include B
def xt(G:fk b Q s (w+1) (U X [q]) T t a h d)(I:q<b.N)(x:gE b q=0)(e:nO R t P n)(g:n<b.aG):
  ∃c i,(∀{N:Z}{A:ZD},cF (cm pF 5) ⟨Je q n (mv (b.X q n) (b.D q)),c⟩ .next ⟨A,N⟩->bE (gz.drop 1) ⟨ei,h⟩ .next ⟨ei,N⟩)/\fk b Q s w (U X [q]) T t a c i:=
 (Hj B G.K G.L (m3 G.l) G.x.2.1 I).elim λf z=>z.elim λj z=>by have b6:=λ{N:Z}{A:ZD}=>Ul (N:=N) (A:=A) G.K z.2.2.2;rw[x] at b6;exact⟨f,_,λk=>b6 (M (cX (bF J u rfl) rfl) (M (cI (fW z.1 rfl rfl rfl J (aq (a9 J ((z.1.at rfl).trans (W0 some G.x.2.2.2)))) (UY B z.1 e.k e.d e.QW))) (M (cI (i8 B rfl rfl rfl (a9 J (z.1.at rfl)) (aI J (aq J)) (Jg B I g))) (M k ba)))),G.vA z.1 z.2.1 z.2.2.1 (Xt _) G.x⟩
def Vn(G:fk b Q s (w+2) (U X [q]) T t a h d)(I:q<b.N)(x:gE b q=0)(f:nO R t P n)(j:n<b.aG)(m:jt t=false)(k:jt P=false)(E:mv (b.X q n) (b.D q)=.ofNat (g+1))(i:Nat.beq (g+1) 1048576=false):
  ∃c,bE (gz.drop 1) ⟨ei,h⟩ .next ⟨ei,c⟩/\gJ b Q s w (U (U X [q]) [g+1]) (U T [lV t P]) .none a c:=
 (xt B G I x f j).elim λo z=>z.elim λl z=>by have e:=z.2;have O:=λ{N A}=>@z.1 N A;rw[E] at O;refine(TP e.K e.x.2.2.2 f.k m k (m3 e.m) (by rw[e.x.2.1];exact m3 e.s) (by rw[c5,e.x.2.2.1];exact m3 e.v)).elim λN y=>⟨N,O (jW (bF (J rfl) h6 (W0 some i)) rfl (M (lQ (bF J u rfl) rfl (M (de (fW e.K rfl rfl rfl J (aq J) y.1) rfl) ba)) ba)),_,⟨y.2,e.L,pZ e.l,m4 e.m (Xu iF),m4 e.s (Xu dX),m4 e.v (Xu dX),e.x.1,W0 (U · [g+1]) e.x.2.1,W0 (U · [lV t P]) e.x.2.2.1,rfl⟩⟩
def Vj(G:fk b Q s (w+2) (U X [q]) (U H [v]) t a h d)(I:q<b.N)(x:gE b q=0)(T:nO R t P n)(g:n<b.aG)(E:mv (b.X q n) (b.D q)=1048576):
  ∃i c,bE (gz.drop 1) ⟨ei,h⟩ .next ⟨ei,i⟩/\ml i b.T (gg Q) c/\c.gy=uJ/\c.val=v:=
 (xt B G I x T g).elim λj z=>z.elim λl z=>by
  have e:=z.2;have O:=λ{N A}=>@z.1 N A;rw[E] at O;refine(Au e.K (m3 e.m)).elim λN y=>(MR y.2.1).elim λf L=>⟨f,_,O (lQ (bF J h6 rfl) rfl (M (de (fW e.K rfl rfl rfl J (aq (d8 (aq u))) y.1) rfl) (M (de (fW y.2.1 rfl rfl rfl J (aI u (aq (bw (a9 J (y.2.1.at rfl)) (hK u rfl) ?_))) L.1) rfl) ba))),L.2.z,rfl,rfl⟩;have p:=y.2.1.v;rw[show({l with gj:=U l.gj [.ay [bX [97,99,99,101,112,116]]]}:kf).bg=U H [v] from e.x.2.2.1] at p
  exact DX p
def Vk(G:fk b Q s (w+2) (U X [q]) T t a h d)(I:q<b.N)(x:gE b q=0)(f:nO R t P n)(g:n<b.aG)(E:mv (b.X q n) (b.D q)=0):
  ∃i c,bE (gz.drop 1) ⟨ei,h⟩ .next ⟨ei,i⟩/\ml i b.T (gg Q) c/\c.gy=ym/\c.val=.none:=
 (xt B G I x f g).elim λj z=>z.elim λl z=>by have e:=z.2;have O:=λ{N A}=>@z.1 N A;rw[E] at O;exact(MG B e.K e.x.2.1 I).elim λN y=>⟨N,_,O (jW (bF J h6 rfl) rfl (M (jW (bF J u rfl) rfl (M (jW (fX (ph (bF J u rfl) rfl)) rfl (M (de (fW e.K rfl rfl rfl J (aq J) y.1) rfl) ba)) ba)) ba)),y.2,rfl,rfl⟩
def GB(G:fk b Q s (w+1) (U (U D [p]) e) (U H S) O a h d)(f:D.length=H.length)(k:S.length=b.L r)(K:p<b.N)(m:0<r)(F:r<b.R)(v:b.G p=.ofNat g)(L:∀h,cZ (.ae Q) (I r) h=some (bX [69])):
  ∃c,aY .inl 79 [.ref 0,I r] h .none c/\gJ b Q s w (U (U D [p]) [g]) (U H [fC r S]) O a c:=by
 exact(SI B G.K G.x.2.1 G.x.2.2.1 f k K m F v L (m3 G.m) (by rw[G.x.2.1];exact FH G.s) (by rw[G.x.2.2.1];exact FH G.v)).elim λN z=>z.elim λy z=>z.elim λi z=>z.elim λfO z=>⟨N,z.1,_,⟨z.2.1,G.L,pZ G.l,m4 G.m z.2.2,m4 G.s E',m4 G.v E',G.x.1,rfl,rfl,G.x.2.2.2⟩⟩
def Vm(G:fk b Q s (w+2) (U X [q]) (U H S) t a h d)(o:q<b.N)(x:gE b q=0)(T:nO R t P n)(l:n<b.aG)(E:mv (b.X q n) (b.D q)=-(.ofNat (r+1)))
  (m:U X [q]=U (U D [p]) e)(j:D.length=H.length)(k:S.length=b.L (r+1))(K:p<b.N)(F:r+1<b.R)(v:b.G p=.ofNat g)(L:∀h,cZ (.ae Q) (I (r+1)) h=some (bX [69])):
  ∃c,bE (gz.drop 1) ⟨ei,h⟩ .next ⟨ei,c⟩/\gJ b Q s w (U (U D [p]) [g]) (U H [fC (r+1) S]) t a c:=
 (xt B G o x T l).elim λi z=>z.elim λW z=>by have f:=z.2;have O:=λ{N C}=>@z.1 N C;rw[E] at O;rw[m] at f;have A:aY .inl 77 [.ref 0,I n] i (.bool true) i:=cH rfl rfl (bG (cb u));exact(GB B f j k K (Xk _) F v L).elim λN y=>⟨N,O (jW (bF J h6 rfl) rfl (M (jW (bF J u rfl) rfl (M (lQ (fX (jO (bF J u rfl) rfl (h4 (fW f.K rfl rfl rfl J (aq J) A)))) rfl (M (de (fW f.K rfl rfl rfl J (aq (cV u J (by show some (V.int (0- -(Int.ofNat (r+1))),_)=_;rw[Int.sub_neg,Int.zero_add]))) y.1) rfl) ba)) ba)) ba)),y.2⟩
def Vl(G:fk b Q s (w+2) (U X [q]) (U H S) O a h d)(n:q<b.N)(x:gE b q=r+1)
  (m:U X [q]=U (U D [p]) e)(j:D.length=H.length)(k:S.length=b.L (r+1))(K:p<b.N)(F:r+1<b.R)(v:b.G p=.ofNat g)(L:∀h,cZ (.ae Q) (I (r+1)) h=some (bX [69])):
  ∃c,bE (gz.drop 1) ⟨ei,h⟩ .next ⟨ei,c⟩/\gJ b Q s w (U (U D [p]) [g]) (U H [fC (r+1) S]) O a c:=
 (Hj B G.K G.L (m3 G.l) G.x.2.1 n).elim λP z=>z.elim λt z=>by have l:=λ{i o}=>@z.2.2.2 i o;rw[x] at l;have f:=G.vA z.1 z.2.1 z.2.2.1 (Xt _) G.x;rw[m] at f;exact(GB B f j k K (Xk _) F v L).elim λN y=>⟨N,M (de (fW G.K rfl rfl rfl J du (cH rfl rfl (l (bG (lQ (bF J u rfl) rfl (M (de (fW z.1 rfl rfl rfl J (aq J) y.1) rfl) (bG (.val rfl)))))))) rfl) ba,y.2⟩
end
def oI(E:C)(w:Nat->b')(p:Bool)(s:d2):ZM:=match s.i3 with
 |[]=>ub (gQ p 0) (k3 (i6 E.aG 0 s.eP) (i5 E.aG))
 |r::_=>ub (gQ p r) (k1 r E.aG (f6 E.aG r (eO E) s.eP w))
def pz(p:Bool)(s:d2):Nat:=match s.i3 with
 |[]=>gQ p 0
 |r::_=>gQ p r
def nF(E:C)(W:Nat->Nat->b')(s:d2):Nat->b':=match s.i3 with
 |[]=>λ_=>.dI
 |r::_=>eT W E.R r
def uC(l:ZM)(t:Nat):Int:=match a3 l t with
 |some i=>i
 |none=>0
def vF(E:C)(s:d2):Int:=match au (eX E.aG s.eP []) (b1 E)with
 |some n=>.ofNat n
 |none=>-1
def e7(E:C)(q:Nat):d2:=match a3 E.dT q with
 |some s=>s
 |none=>⟨0,[],0,[],[],[]⟩
def om(E:C)(r:Nat):Nat:=match a3 E.mY r with
 |some (.int (.ofNat n))=>n
 |_=>0
def Hu(E:C)(T:V)(w:Nat->Nat->b')(p:Bool):gK where
 T:=T
 aG:=E.aG
 N:=E.dT.length
 R:=E.R+2
 X:=λq t=>uC (oI E (w q) p (e7 E q)) t
 D:=λq=>pz p (e7 E q)
 G:=λq=>vF E (e7 E q)
 L:=om E
section
variable{E:C}{X:Nat->Nat->b'}{p:Bool}
def ze(g:List d2):∀{f:gd},(kE E X p g f).gZ=U f.gZ (g.map λs=>oI E (nF E X s) p s)/\(kE E X p g f).d7=U f.d7 (g.map (pz p))/\(kE E X p g f).gt=U f.gt (g.map λs=>eX E.aG s.eP []):=by
 induction g with
 |nil=>exactλ{f}=>⟨eI.symm,eI.symm,eI.symm⟩
 |cons s g S=>
  intro f;have z:=S (f:=kb E X p f s);have e:(kb E X p f s).gZ=U f.gZ [oI E (nF E X s) p s]/\(kb E X p f s).d7=U f.d7 [pz p s]/\(kb E X p f s).gt=U f.gt [eX E.aG s.eP []]:=match s with
   |⟨_,_,_,_,_,[]⟩=>⟨rfl,rfl,rfl⟩
   |⟨_,_,_,_,_,_::_⟩=>⟨rfl,rfl,rfl⟩
  rw[e.1,e.2.1,e.2.2,eL,eL,eL] at z;exact z
def Tt(I:q<E.dT.length):a3 E.dT q=some (e7 E q):=(m7 E.dT (by rw[c5];exact I)).elim λs e=>by unfold e7;rw[e]
def GL(s:d2):Wx (oI E w p s)=E.aG:=by
 have e:∀{d l},Wx (ub d l)=Wx l:=λ{d l}=>by
  induction d with|zero=>rfl|succ d=>exact c9
 match s with
 |⟨_,_,_,_,_,[]⟩=>exact e.trans AW
 |⟨_,_,_,_,_,_::_⟩=>exact e.trans w9
def zq(a:q<E.dT.length):cZ (.ae ((E.dT.map f).map g)) (I q) h=some (g (f (e7 E q))):=by rw[Yt];exact js (by rw[c9,c5];exact a) ((kV _).trans (W0 (Option.map _) (Tt a)))
def UN(E:C)(G:V)(f:gd)(h:Z):gI (λm=>bM h (gp E G f) m=none) Bn:=by(repeat' apply And.intro)<;>first|rfl|trivial
def Pt(E:C):gI (λr=>a3 E.tv r=some (I (b1 E))) (aB 1 (E.R+1)):=by induction E<;>(repeat' apply And.intro)<;>first|rfl|trivial
def Fg(E:C):gI (λr=>a3 E.mY r=some (I (om E r))/\a3 E.nR r=some (I 0)) (aB 0 (E.R+2)):=by induction E<;>(repeat' apply And.intro)<;>first|rfl|trivial
def Ga{l:List α}:∀{i:Nat},a3 l i=some v->i<Wx l:=by
 induction l with
 |nil=>exactλe=>cB e
 |cons x l S=>
  intro i e;induction i with|zero=>exact Xk _|succ i=>exact Y6 (S e)
def vG(e:a3 l r=some v):cZ (.ae l) (I r) h=some v:=js (Ga e) e
def qp(E:C)(G:V)(X:Nat->Nat->b')(p:Bool):lr (Hu E (gp E G (fL E X p)) (λq=>nF E X (e7 E q)) p) (b1 E) E.names E.c0 where
 cls:=λ_=>rfl
 F5:=λh m z=>(Y5.mp z).elim λx y=>by have e:=(UN E G (fL E X p) h).at y.1;rw[W2 y.2] at e;exact e
 names:=λ_=>rfl
 Bo:=λ_=>rfl
 row:=λh q t a b=>by
  have b:=b;refine a6 (a:=.ae (((E.dT.map λs=>oI E (nF E X s) p s)).map λr=>.ae (r.map .int))) ?_ (a6 (zq a) ?_)
  .show some (V.ae ((kE E X p E.dT mL).gZ.map λr=>.ae (r.map .int)))=_;rw[(ze E.dT).1]
   rfl
  .refine(m7 (oI E (nF E X (e7 E q)) p (e7 E q)) (by rw[GL];exact b)).elim λi e=>?_
   show _=some (V.int (uC _ t));unfold uC;rw[e];exact js (by rw[c9,GL];exact b) ((kV _).trans (W0 (Option.map _) e))
 d7:=λh q a=>by
  refine a6 (a:=.ae ((E.dT.map (pz p)).map I)) ?_ (zq a);show some (V.ae ((kE E X p E.dT mL).d7.map I))=_;rw[(ze (E:=E) (X:=X) (p:=p) E.dT (f:=mL)).2.1]
  rfl
 gt:=λh q a=>by
  refine⟨D (eX E.aG (e7 E q).eP []),a6 (a:=.ae ((E.dT.map λs=>eX E.aG s.eP []).map λg=>.ah .I (D g))) ?_ (zq a),Eq.trans (W0 (λo=>some (rJ (V.int (-1)) o)) (lk (l:=eX E.aG (e7 E q).eP []) (a:=b1 E))) ?_⟩
  .show some (V.ae ((kE E X p E.dT mL).gt.map λg=>.ah .I (D g)))=_;rw[(ze E.dT).2.2]
   rfl
  .show _=some (V.int (vF E (e7 E q)))
   unfold vF;cases au (eX E.aG (e7 E q).eP []) (b1 E)<;>rfl
 c0:=λ_=>rfl
 left:=λh r c F=>a6 rfl (vG ((Pt E).at (gG _ c (by rw[Xa 1];exact F))))
 mY:=λh r F=>a6 rfl (vG ((Fg E).lt F).1)
 nR:=λh r F=>a6 rfl (vG ((Fg E).lt F).2)
 uu:=by show 3<E.aG/\E.aG<60;induction E<;>exact⟨WY rfl,WY rfl⟩
 Ap:=by show E.aG<=Wx E.names;induction E<;>exact WY rfl
end
def P7(E:C)(w:Nat->b')(p:Bool)(s:d2):Nat:=match(match Nat.beq (pz p s) 0 with|true=>false|false=>rC (uC (oI E w p s)) (aB 0 E.aG))with
 |true=>pz p s
 |false=>0
def pO(E:C)(n:Nat):Bool:=Nat.ble 4 n&&Nat.blt n (4+E.k)
noncomputable def jY(E:C):Bool:=Nat.blt E.k E.R
def sM(E:C)(n:Nat):Int:=match Nat.beq n 3 with
 |true=>1
 |false=>match jY E&&Nat.beq n (4+E.bC E.k)with
  |true=>2
  |false=>0
def sL(E:C)(p:Bool)(n:Nat):Int:=match Nat.beq n 0||pO E n with
 |true=>-(.ofNat (E.R+1))
 |false=>-(.ofNat (gQ p (E.R+1)))
def vm(E:C)(n:Nat):Int:=match Nat.beq n 0 with
 |true=>1048576
 |false=>match pO E n with
  |true=>.ofNat (E.go (n-4))
  |false=>0
noncomputable def H5(r s:Int):b'->Int
 |.gY=>r
 |.iy=>0
 |_=>s
def n4(E:C)(p:Bool)(i:Nat)(w:Nat->b')(n:Nat):Int:=match Nat.beq n 0 with
 |true=>-(.ofNat (i+1))
 |false=>match pO E n with
  |true=>H5 (-(.ofNat (i+1))) (.ofNat (E.go (n-4))) (w n)
  |false=>-(.ofNat (gQ p (i+1)))
def BY(E:C)(w:Nat->b'):Bool:=(aB 0 E.k).all λj=>kM (w (4+j))
def oq(E:C)(p:Bool)(w:Nat->b')(i:Nat):Nat:=match p&&BY E w with
 |true=>i+1
 |false=>0
def C.mN(o:C)(j:Nat):Nat:=match j with
 |0=>2+(o.R-o.k)
 |_=>match Nat.blt j 4 with
  |true=>4
  |false=>j+o.k
def qV(E:C)(s:d2)(w:Nat->b')(p:Bool)(e:Nat->Int)(z:Nat):Bool:=((aB 0 E.aG).all λn=>dr (mv (uC (oI E w p s) n) (pz p s)) (e n))&&Nat.beq (P7 E w p s) z
def rN(s:d2)(r:Nat):Bool:=aai (match s.i3 with
 |[]=>Nat.beq r 0
 |x::_=>Nat.beq x r&&Nat.blt 0 r)
def r9(g:Bool->Bool):Bool:=aai (g true&&g false)
def Rn:Nat->b':=hO .dI .dI .dI
def KG(E:C)(q:Nat):Bool:=rN (e7 E q) 0&&(dr (vF E (e7 E q)) (.ofNat (E.mN q))&&(Nat.blt q E.dT.length&&r9 λb=>qV E (e7 E q) (λ_=>.dI) b (sM E) 0))
def KC(E:C)(q:Nat):Bool:=rN (e7 E q) 0&&(Nat.blt q E.dT.length&&r9 λb=>qV E (e7 E q) (λ_=>.dI) b (vm E) 0)
def Ky(E:C):Bool:=rN (e7 E 1) (E.R+1)&&(Nat.blt 1 E.dT.length&&r9 λb=>qV E (e7 E 1) Rn b (sL E b) (gQ b (E.R+1)))
def KD(E:C)(i:Nat):Bool:=rN (e7 E (E.fx i)) (i+1)&&(Nat.blt (E.fx i) E.dT.length&&r9 λb=>jk λx=>jk λy=>jk λz=>qV E (e7 E (E.fx i)) (hO x y z) b (n4 E b i (hO x y z)) (oq E b (hO x y z) i))
def C.os(j:C):ZK:=0::U (match jY j with|true=>[2]|false=>[]) ((aB 0 j.k).map j.go)
def Kz(E:C):Bool:=E.os.all (KG E)&&(KC E (2+(E.R-E.k))&&(Ky E&&(aB 0 E.R).all (KD E)))
def u6(E:C):Kz E:=by induction E<;>kernel_rfl
abbrev o8(E:C)(T:V)(W:Nat->Nat->b')(p:Bool):gK:=Hu E T (λq=>nF E W (e7 E q)) p
abbrev lp(b:gK)(q l:Nat)(e:Nat->Int):Prop:=q<b.N/\gE b q=l/\∀n,n<b.aG->mv (b.X q n) (b.D q)=e n
section
variable{E:C}{T:V}{X:Nat->Nat->b'}{p:Bool}{q n r i B:Nat}
def uL(h:r9 g)(b:Bool):g b:=match b with
 |true=>(a4 h).1
 |false=>(a4 h).2
def u7(I:Nat.blt q E.dT.length)(h:qV E (e7 E q) w p e z)(k:nF E X (e7 E q)=w):lp (o8 E T X p) q z e:=by subst k;exact⟨dZ I,W2 (a4 h).2,λn a=>pN.mp (Xb.mp (a4 h).1 n (gG _ (Xj _) (by rw[W7];exact a)))⟩
def Gx(h:rN s 0):nF E X s=λ_=>.dI:=match s,h with
 |⟨_,_,_,_,_,[]⟩,_=>rfl
 |⟨_,_,_,_,_,_::_⟩,h=>bb (a4 h).2
def Gy(h:rN s (r+1)):nF E X s=eT X E.R (r+1):=match s,h with
 |⟨_,_,_,_,_,[]⟩,h=>bb h
 |⟨_,_,_,_,_,x::_⟩,h=>W0 (eT X E.R) (W2 (a4 h).1)
variable(E T X p)
def vx(h:q∈E.os):lp (o8 E T X p) q 0 (sM E)/\(o8 E T X p).G q=.ofNat (E.mN q):=
 have c:=a4 (Xb.mp (a4 (u6 E)).1 q h);have d:=a4 c.2;have e:=a4 d.2
 ⟨u7 e.1 (uL e.2 p) (Gx c.1),pN.mp d.1⟩
def MC:lp (o8 E T X p) (2+(E.R-E.k)) 0 (vm E):=
 have c:=a4 (a4 (a4 (u6 E)).2).1;have e:=a4 c.2
 u7 e.1 (uL e.2 p) (Gx c.1)
def MB:lp (o8 E T X p) 1 (gQ p (E.R+1)) (sL E p):=
 have c:=a4 (a4 (a4 (a4 (u6 E)).2).2).1;have e:=a4 c.2
 u7 e.1 (uL e.2 p) ((Gy c.1).trans (by unfold eT;rw[Xn];rfl))
def MD(A:i<E.R):lp (o8 E T X p) (E.fx i) (oq E p (eT X E.R (i+1)) i) (n4 E p i (eT X E.R (i+1))):=
 have c:=a4 (Xb.mp (a4 (a4 (a4 (u6 E)).2).2).2 i (gG _ (Xj _) (by rw[W7];exact A)))
 have e:=a4 c.2
 u7 e.1 (H2 (P:=λw=>qV E (e7 E (E.fx i)) w p (n4 E p i w) (oq E p w i)) (uL e.2 p)) (Gy c.1)
variable{E T X p}
def H0(A:i<E.R)(P:B<E.k):eT X E.R (i+1) (4+B)=X i B:=by unfold eT;refine(ee λe=>Xi A (Yr e))▸?_;exact(BE B (gG _ (Xj _) (by rw[W7];exact P))).symm
end
set_option genCtorIdx true in
inductive Fr where
 |P
 |I(l:aV)(B:Nat)
def xA:ZL->Nat
 |none=>3
 |some j=>4+j
def g7(E:C)(o:ZL):V:=.ins 4 false [(9,ff E o),(10,ff E o),(7,.none),(11,ff E o)]
def eE(E:C)(o:ZL):V:=lV (g7 E o) (ff E o)
namespace Fr
def ew(o:C):Fr->Nat
 |P=>o.k
 |I _ j=>j
def iU(J:C):Fr->aV->aV
 |P,o=>.p J.k o
 |I u j,o=>.f j u o
def ok(o:C):Fr->Prop
 |P=>o.k<o.R
 |I _ j=>j<o.k
def n:Fr->Nat
 |P=>2
 |I _ _=>3
end Fr
noncomputable def d0(E:C):aV->V
 |.a=>fC (E.R+1) [eE E none]
 |.p i t=>fC (i+1) [eE E (some (E.bC i)),d0 E t]
 |.f i l r=>fC (i+1) [d0 E l,eE E (some i),d0 E r]
def oy(E:C):List Fr->Nat
 |[]=>0
 |.P::_=>2
 |.I _ j::_=>E.go j
noncomputable def ik(E:C):List Fr->ZK
 |[]=>[0]
 |.P::P=>U (ik E P) [2]
 |.I _ j::P=>U (U (ik E P) [E.mN (oy E P)]) [E.go j]
noncomputable def ip(E:C):List Fr->ZF
 |[]=>[]
 |.P::P=>U (ip E P) [eE E (some (E.bC E.k))]
 |.I l j::P=>U (U (ip E P) [d0 E l]) [eE E (some j)]
noncomputable def fD(E:C)(W:Nat->Nat->b'):List Fr->aV->ZL->Z0 (List Fr×aV)
 |[],t,_=>some ([],t)
 |f::P,t,none=>fD E W P (f.iU E t) none
 |f::P,t,some j=>match W (f.ew E) j with
  |.gY=>fD E W P (f.iU E t) (some j)
  |.iy=>none
  |_=>some (f::P,t)
def p'(f:List Fr->Z0 aV)(j:Nat):Z0 (List Fr×aV)->Z0 aV
 |some (P,t)=>f (.I t j::P)
 |none=>none
noncomputable def xj:Z0 (List Fr×aV)->Z0 aV
 |some (_,t)=>some t
 |none=>none
noncomputable def WC(E:C)(W:Nat->Nat->b'):ZI->Z0 aV->List Fr->Z0 aV
 |[],none,_=>none
 |[],some t,P=>xj (fD E W P t none)
 |none::c,none,P=>WC E W c (some .a) P
 |some j::c,none,P=>match jY E&&Nat.beq j (E.bC E.k)with
  |true=>WC E W c none (.P::P)
  |false=>none
 |none::_,some _,_=>none
 |some j::c,some t,P=>match Nat.blt j E.k with
  |true=>p' (WC E W c none) j (fD E W P t (some j))
  |false=>none
section
variable{E:C}
def xo(P:List Fr):∃a,ik E P=U a [oy E P]/\a.length=(ip E P).length:=by
 induction P with
 |nil=>exact⟨[],rfl,rfl⟩
 |cons f P S=>exact S.elim λs z=>match f with
  |.P=>⟨ik E P,rfl,by show _=(U (ip E P) [_]).length;rw[z.1,dX,dX,z.2]⟩
  |.I t j=>⟨U (ik E P) [E.mN (oy E P)],rfl,by show _=(U (U (ip E P) [_]) [_]).length;rw[z.1,dX,dX,dX,dX,z.2]⟩
def wG(h:∀f∈P,f.ok E):oy E P∈E.os:=match P,h with
 |[],_=>.head _
 |.P::P,h=>by
  have e:jY E:=dF (h _ (.head _):E.k<E.R);show 2∈0::U (match jY E with|true=>[2]|false=>[]) _
  refine e▸cQ▸?_;exact .tail _ (XX _ (.head _))
 |.I t j::P,h=>by show E.go j∈0::U _ ((aB 0 E.k).map E.go);refine cQ▸?_;exact .tail _ (XC _ (Xz.mpr ⟨j,gG _ (Xj _) (by rw[W7];exact h _ (.head _)),rfl⟩))
def vD{f:Fr}(h:f.ok E):f.ew E<E.R:=match f,h with
 |.P,h=>h
 |.I _ _,h=>W4 h (jv E).2.1
def vC(E:C):gI (λB=>E.mN (E.go B)=E.fx B/\om E (B+1)=3) (aB 0 E.k)/\E.fx E.k=4/\om E (E.R+1)=1:=by induction E<;>(repeat' apply And.intro)<;>first|rfl|trivial
def M1(h:E.k<E.R):om E (E.k+1)=2:=by induction E<;>first|rfl|exact absurd h (X9 (WY rfl))
def M8(h:f.ok E):E.mN (oy E (f::P))=E.fx (f.ew E):=match f,h with
 |.P,_=>(vC E).2.1.symm
 |.I _ _,h=>((vC E).1.lt h).1
def Fc{f:Fr}(h:f.ok E):om E (f.ew E+1)=f.n:=match f,h with
 |.P,h=>M1 h
 |.I _ _,h=>((vC E).1.lt h).2
def SA(h:f.ok E):∃e a,U (ik E (f::P)) [E.fx (f.ew E)]=U (ik E P) e/\U (ip E (f::P)) [d0 E t]=U (ip E P) a/\a.length=om E (f.ew E+1)/\fC (f.ew E+1) a=d0 E (f.iU E t):=match f,h with
 |.P,h=>⟨[2,E.fx E.k],[eE E (some (E.bC E.k)),d0 E t],eL,eL,(Fc h).symm,rfl⟩
 |.I l j,h=>⟨[E.mN (oy E P),E.go j,E.fx j],[d0 E l,eE E (some j),d0 E t],eL.trans eL,eL.trans eL,(Fc h).symm,rfl⟩
def Br(E:C):gI (λB=>gC .S E.c0 [dH E B,.int 2]=some (I (4+B))) (aB 0 E.aD)/\gC .S E.c0 [pb,.int 2]=some (I 3)/\gC .S E.c0 [bX [36,101,110,100],.int 2]=some (I 0):=by induction E<;>(repeat' apply And.intro)<;>first|exact trivial|kernel_rfl
def U5(E:C)(h:Z):gI (λB=>dy .cC (dH E B) (bX [36,101,110,100]) h=some true) (aB 0 E.aD):=by induction E<;>(repeat' apply And.intro)<;>first|exact trivial|kernel_rfl
def U4(h:ux E H):nO E.c0 (g7 E H) (ff E H) (xA H)/\(∀h,dy .cC (ff E H) (bX [36,101,110,100]) h=some true)/\xA H<E.aG/\jt (g7 E H)=false/\jt (ff E H)=false:=match H,h with
 |none,_=>⟨⟨λ_=>rfl,(Br E).2.1,by decide,λ_=>rfl⟩,λ_=>rfl,W4 (by decide) (Xw (nD E).1),rfl,rfl⟩
 |some j,h=>⟨⟨λ_=>rfl,(Br E).1.lt h,by show 4+j≠1;lia,λ_=>rfl⟩,λN=>(U5 E N).lt h,Yg h 4,rfl,rfl⟩
def L'(E:C):nO E.c0 vi (bX [36,101,110,100]) 0:=⟨λ_=>rfl,(Br E).2.2,by decide,λ_=>rfl⟩
def eN(E:C):ZF:=bX [36,97,99,99,101,112,116]::j7 [bX [69]] (E.R+1)
def P2(E:C):gI (λr=>a3 (eN E) r=some (bX [69])) (aB 1 (E.R+1)):=by induction E<;>(repeat' apply And.intro)<;>first|rfl|trivial
def Fo(F:r<=E.R):∀h,cZ (.ae (eN E)) (I (r+1)) h=some (bX [69]):=λ_=>vG ((P2 E).at (gG _ (Xp (Xj _)) (by rw[Xa 1];exact Y6 (Yf F))))
end
abbrev B6:E:=nG (cm zb 1)
def yc(E:C)(r:Z0 aV)(d:kf):Prop:=match r with
 |some t=>d.gy=uJ/\d.val=d0 E t
 |none=>d.gy=ym/\d.val=.none
def fj(E:C)(T:V)(r:Z0 aV)(h:Z):Prop:=∃S g,jK B6 gz ⟨ei,h⟩ .next ⟨ei,S⟩/\ml S T (gg (eN E)) g/\yc E r g
structure kj(d:C)(s:ZF)(bc:V)(a:Nat)(c b:V)(n A:Nat):Prop where
 T:nO d.c0 c b n
 n:n<d.aG
 r:jt c=false/\jt b=false
 x:(bc=c/\a=A)\/(bc=.none/\((a3 s a=some c/\A=a+1/\∀h,dy .cC b (bX [36,101,110,100]) h=some true)\/(c=vi/\Wx s<=a/\A=a)))
abbrev dx(E:C)(G:V)(W:Nat->Nat->b')(p:Bool):gK:=o8 E (gp E G (fL E W p)) W p
section
variable{E:C}{G:V}{X:Nat->Nat->b'}{p:Bool}{h P:Z}{s:ZF}{w a A n q:Nat}{T I:ZK}{S:ZF}{R c Q:V}
def CQ(K:ml h b H d)(e:dy .eq d.gy rA h=some B):ao B6 ⟨ei,h⟩ (.bool B) h:=bF (a9 J (iY K.i rfl)) u e
def vh(D:fk b (eN E) s w I S R a h d)(e:b.T=f)(x:bE gz ⟨ei,h⟩ .next ⟨ei,P⟩)(z:fj E f r P):fj E f r h:=
 z.elim λc z=>z.elim λg z=>⟨c,g,uB (CQ D.K.z (by rw[D.x.1.1];rfl)) rfl x z.1,z.2⟩
def C0(D:fk b (eN E) s w I S R a h d)(e:b.T=f)(x:bE gz ⟨ei,h⟩ .next ⟨ei,P⟩)(Z:ml P f (gg (eN E)) g)(o:yc E r g):fj E f r h:=
 vh D e x ⟨P,g,qx (CQ Z (by
  induction r with|none=>refine o.1▸?_;rfl|some t=>refine o.1▸?_;rfl)) rfl,Z,o⟩
def vz(D:fk (dx E G X p) (eN E) s (w+1) (U T [q]) S R a h d)(I:q<(dx E G X p).N)(x:gE (dx E G X p) q=0)(L:kj E s R a c Q n A):
  ∃b g,(∀{i f},bE (gz.drop 1) ⟨ei,b⟩ i f->bE gz ⟨ei,h⟩ i f)/\fk (dx E G X p) (eN E) s w (U T [q]) S c A b g:=by
 refine L.x.elim (λz=>?_) λz=>?_
 .have D:=D
  rw[z.1,z.2] at D;exact⟨h,d,Dz D (L.T.is h)⟩
 .have D:=D
  rw[z.1] at D;refine MH (qp E G X p) D I x λ{h d} K e=>z.2.elim (λy=>?_) λy=>?_
  .have k:=Ra K (e▸y.1) (e▸Ga y.1) L.T.k y.2.2
   rw[e] at k;exact y.2.1▸k
  .refine y.1▸y.2.2▸?_
   subst e;exact⟨h,Q' K y.2.1,K⟩
def r0(D:gJ (dx E G X p) (eN E) s (w+3) (U T [q]) S R a h)(F:lp (dx E G X p) q 0 e)(L:kj E s R a c Q n A)(b:e n=0):fj E (dx E G X p).T none h:=
 D.elim λd D=>(vz D F.1 F.2.1 L).elim λP z=>z.elim λl z=>(Vk (qp E G X p) z.2 F.1 F.2.1 L.T L.n ((F.2.2 n L.n).trans b)).elim λN y=>y.elim λf y=>C0 D rfl (z.1 y.1) y.2.1 y.2.2
def Vi(D:gJ (dx E G X p) (eN E) s (w+3) (U T [q]) (U H [d0 E t]) R a h)(F:lp (dx E G X p) q 0 e)(L:kj E s R a c Q n A)(b:e n=1048576):fj E (dx E G X p).T (some t) h:=
 D.elim λd D=>(vz D F.1 F.2.1 L).elim λP z=>z.elim λl z=>(Vj (qp E G X p) z.2 F.1 F.2.1 L.T L.n ((F.2.2 n L.n).trans b)).elim λN y=>y.elim λf y=>C0 D rfl (z.1 y.1) y.2.1 y.2.2
def Bu(D:gJ (dx E G X p) (eN E) s (w+3) (U T [q]) S R a h)(F:lp (dx E G X p) q 0 e)(L:kj E s R a c Q n A)(f:e n=.ofNat (g+1))(i:g<1000)
  (k:∀b,gJ (dx E G X p) (eN E) s w (U (U T [q]) [g+1]) (U S [lV c Q]) .none A b->fj E (dx E G X p).T r b):fj E (dx E G X p).T r h:=
 D.elim λd D=>(vz D F.1 F.2.1 L).elim λP z=>z.elim λl z=>(Vn (qp E G X p) z.2 F.1 F.2.1 L.T L.n L.r.1 L.r.2 ((F.2.2 n L.n).trans f) (ee (Xi (W3 i (WY rfl))))).elim λN y=>vh D rfl (z.1 y.1) (k N y.2)
def HE(D:gJ (dx E G X p) (eN E) s (w+3) (U T [q]) (U H args) R a h)(F:lp (dx E G X p) q l e)(L:kj E s R a c Q n A)
  (V:l=i+1\/(l=0/\e n=-(.ofNat (i+1))))(v:U T [q]=U (U B [b]) f5)(K:B.length=H.length)(M:args.length=om E (i+1))(O:b<(dx E G X p).N)(u:i<=E.R)(I:(dx E G X p).G b=.ofNat g)
  (k:∀t x f,gJ (dx E G X p) (eN E) s w (U (U B [b]) [g]) (U H [fC (i+1) args]) x f t->kj E s x f c Q n A->fj E (dx E G X p).T r t):fj E (dx E G X p).T r h:=by
 have J:=Y6 (Yf u);refine D.elim λd D=>V.elim (λj=>?_) λj=>?_
 .subst j
  have m:∃P o,(∀{C S},bE (gz.drop 1) ⟨ei,P⟩ C S->bE gz ⟨ei,h⟩ C S)/\fk (dx E G X p) (eN E) s (w+2) (U T [q]) (U H args) R a P o:=L.x.elim (λz=>⟨h,d,Dz D (by exact z.1▸L.T.is h)⟩) λz=>by have D:=D;rw[z.1] at D;exact z.1▸MI (qp E G X p) D F.1 (by exact F.2.1▸YO i)
  exact m.elim λP m=>m.elim λo m=>(Vl (qp E G X p) m.2 F.1 F.2.1 v K M O J I (Fo u)).elim λN y=>vh D rfl (m.1 y.1) (k N R a y.2 L)
 .have F:=F
  rw[j.1] at F;exact(vz D F.1 F.2.1 L).elim λP z=>z.elim λo z=>(Vm (qp E G X p) z.2 F.1 F.2.1 L.T L.n ((F.2.2 n L.n).trans j.2) v K M O J I (Fo u)).elim λN y=>vh D rfl (z.1 y.1) (k N c A y.2 ⟨L.T,L.n,L.r,.inl ⟨rfl,rfl⟩⟩)
end
set_option genCtorIdx true in
inductive xY where
 |h9
 |nu(B:Nat)
 |hk
def w4(E:C)(W:Nat->Nat->b')(F:List Fr->Z0 aV):xY->List Fr->aV->Z0 aV
 |.h9,P,t=>xj (fD E W P t none)
 |.nu j,P,t=>p' F j (fD E W P t (some j))
 |.hk,_,_=>none
def xX(E:C)(c a:V)(n:Nat):xY->Prop
 |.h9=>n=0
 |.nu j=>n=4+j/\j<E.k/\lV c a=eE E (some j)
 |.hk=>Nat.beq n 0=false/\pO E n=false
def tj(h:B<a.k):pO a (4+B)/\Nat.beq (4+B) 0=false:=by
 refine⟨?_,ee (XK (W4 (Xk 3) (Xd 4 B)))⟩;unfold pO;rw[X1 (Xd 4 B),dF (Yg h 4)]
 rfl
def ES(h:kM w):w=.gY:=by induction w<;>first|rfl|exact bb h
def Hn:4+B-4=B:=Yp 4 B
abbrev ta(E:C)(j:Nat):Nat:=3+2*(E.R-E.k)+j
def zt:a.go B=ta a B+1:=by unfold C.go ta;lia
def Np(h:B<a.k):ta a B<1000:=have z:=jv a;W3 (XY (Xg (XE 2 (W5 (XW _ _) z.2.2.1)) 3) (Xw (W4 h z.2.2.2))) (by decide:3+2*4+3<1000)
def Mt(h:B<a.k):n4 a b i w (4+B)=H5 (-(.ofNat (i+1))) (.ofNat (ta a B+1)) (w (4+B)):=by unfold n4;exact((tj h).1)▸((tj h).2)▸Hn▸zt▸rfl
def Dg(h:Nat.beq n 0=false/\pO a n=false):n4 a b i w n=-(.ofNat (gQ b (i+1))):=by unfold n4;rw[h.1,h.2]
def P6:(oq a b w i=i+1/\∀B,B<a.k->kM (w (4+B))=true)\/oq a b w i=0:=by
 unfold oq;cases e:b&&BY a w with
 |true=>exact .inl ⟨rfl,λB P=>Xb.mp (a4 e).2 B (gG _ (Xj _) (by rw[W7];exact P))⟩
 |false=>exact .inr rfl
def gJ.le{j:ZK}{bc:V}{u:Nat}{C:Z}(D:gJ c' ln f' a' j h' bc u C)(M:w'<=a'):gJ c' ln f' w' j h' bc u C:=
 have o:∀{J},J+a'<700->J+w'<700:=λU=>W3 (Xg M _) U
 D.imp λ_ D=>⟨D.K,D.L,o D.l,o D.m,o D.s,o D.v,D.x⟩
abbrev iR(E:C)(P:List Fr):Prop:=∀f∈P,Fr.ok E f
def iR.cons{j:Fr}{o:List Fr}(J:j.ok a')(k:iR a' o):iR a' (j::o):=λC M=>(Xm.mp M).elim (λu=>u▸J) (k C)
abbrev xS(E:C)(G:V)(W:Nat->Nat->b')(p:Bool)(s:ZF)(A e:Nat)(F:List Fr->Z0 aV)(K:xY):Prop:=
 ∀j,K=.nu j->∀a S,iR E a->gJ (dx E G W p) (eN E) s (e+3*a.length) (ik E a) (ip E a) .none A S->fj E (dx E G W p).T (F a) S
def G6{bc:V}{a j q:Nat}{i:Nat->Int}(k:j<b.k)(T:lV c g=eE b (some j))(l:xS b G d short s A e f (.nu j))(ok:iR b P)(I:q=b.mN (oy b P))
  (D:gJ (dx b G d short) (eN b) s (e+3*P.length+6) (U (ik b P) [q]) (U (ip b P) [d0 b t]) bc a h)(X:lp (dx b G d short) q 0 i)(L:kj b s bc a c g n A)(E:i n=.ofNat (ta b j+1)):fj b (dx b G d short).T (f (.I t j::P)) h:=
 Bu D X L E (Np k) λS x=>l j rfl (.I t j::P) S (iR.cons k ok) (by rw[<-zt,T,I] at x;exact x)
def T1(k:xX b c q n i)(v:xS b G d short p A e l i)(P:List Fr):
  ∀{t:aV}{h:Z}{bc:V}{a:Nat},iR b P->gJ (dx b G d short) (eN b) p (e+3*P.length+6) (U (ik b P) [b.mN (oy b P)]) (U (ip b P) [d0 b t]) bc a h->kj b p bc a c q n A->fj b (dx b G d short).T (w4 b d l i P t) h:=by
 induction P with
 |nil=>
  intro t h bc a ok D L;have X:=MC b (gp b G (fL b d short)) d short;induction i with
  |h9=>have k:=k;subst k;exact Vi D X L rfl
  |hk=>exact r0 D X L (by unfold vm;rw[k.1,k.2])
  |nu j=>exact G6 k.2.1 k.2.2 v ok rfl D X L (by exact k.1▸(by unfold vm;rw[(tj k.2.1).1,(tj k.2.1).2,Hn,zt]))
 |cons f P S=>
  intro t h bc a ok D L;have u:=ok f (.head _);have E:iR b P:=λg m=>ok g (.tail _ m);have y:=M8 (P:=P) u;rw[y] at D;have X:=MD b (gp b G (fL b d short)) d short (vD u);have o:(oq b short (eT d b.R (f.ew b+1)) (f.ew b)=f.ew b+1\/(oq b short (eT d b.R (f.ew b+1)) (f.ew b)=0/\n4 b short (f.ew b) (eT d b.R (f.ew b+1)) n=-(.ofNat (f.ew b+1))))->fj b (dx b G d short).T (w4 b d l i P (f.iU b t)) h:=λJ=>(SA u).elim λW z=>z.elim λM z=>(xo P).elim λY s=>by rw[z.2.1] at D;have O:=vx b (gp b G (fL b d short)) d short (wG E);exact HE D X L J (by rw[z.1,s.1]) s.2 z.2.2.1 O.1.1 (Xw (vD u)) O.2 λQ T R x H=>S E (by rw[z.2.2.2,<-s.1] at x;exact x) H
  refine(P6 (a:=b) (b:=short) (w:=eT d b.R (f.ew b+1)) (i:=f.ew b)).elim (λC=>?_) λB=>?_
  .have r:=o (.inl C.1)
   induction i with
   |h9=>exact r
   |hk=>exact r
   |nu j=>
    have w:=C.2 j k.2.1;rw[H0 (vD u) k.2.1] at w;show fj _ _ (p' l j (match d (f.ew b) j with|.gY=>fD b d P (f.iU b t) (some j)|.iy=>none|_=>some (f::P,t))) _
    rw[ES w];exact r
  .have o:=λz=>o (.inr ⟨B,z⟩)
   rw[B] at X;induction i with
   |h9=>have k:=k;subst k;exact o rfl
   |hk=>
    rw[Dg k] at o;induction short with
    |true=>exact o rfl
    |false=>exact r0 D X L (Dg k)
   |nu j=>
    have I:=Mt (i:=f.ew b) (b:=short) (w:=eT d b.R (f.ew b+1)) k.2.1;rw[<-k.1,k.1,H0 (vD u) k.2.1,<-k.1] at I;show fj _ _ (p' l j (match d (f.ew b) j with|.gY=>fD b d P (f.iU b t) (some j)|.iy=>none|_=>some (f::P,t))) _
    have F:=G6 k.2.1 k.2.2 v ok y.symm D X L;generalize K:d (f.ew b) j=N;induction N<;>rw[K] at I
    .exact o I
    .exact F I
    .exact r0 D X L I
    .exact F I
def Gb{a c:List α}:a3 (U a (x::c)) a.length=some x:=by
 induction a with|nil=>rfl|cons y a S=>exact S
def Fn(R:dp a (U pre (H::c))):kj a ((U pre (H::c)).map (g7 a)) .none pre.length (g7 a H) (ff a H) (xA H) (pre.length+1):=
 have z:=U4 (R H (by rw[cQ];exact XC _ (.head _)))
 ⟨z.1,z.2.2.1,z.2.2.2,.inr ⟨rfl,.inl ⟨(kV _).trans (W0 (Option.map _) Gb),rfl,z.2.1⟩⟩⟩
def Fm:kj a ((U pre []).map (g7 a)) .none pre.length vi (bX [36,101,110,100]) 0 pre.length:=
 ⟨L' a,Xv (Xk 4) (nD a).1,⟨rfl,rfl⟩,.inr ⟨rfl,.inr ⟨rfl,by rw[c5,Xs,eI];exact Xe _,rfl⟩⟩⟩
abbrev qB(E:C)(G:V)(W:Nat->Nat->b')(p:Bool)(I:ZI)(m:Nat)(j:ZK)(D:ZF)(a:Nat)(h:Z):Prop:=gJ (dx E G W p) (eN E) (I.map (g7 E)) m j D .none a h
def A9(k:xX b c l n f)(p:xS b G d short (i.map (g7 b)) A e g f)(ok:iR b P)(D:qB b G d short i (e+3*P.length+9) (U (ik b P) [1]) (U (ip b P) [eE b none]) a h)(L:kj b (i.map (g7 b)) .none a c l n A):fj b (dx b G d short).T (w4 b d g f P .a) h:=by
 have X:=MB b (gp b G (fL b d short)) d short;have O:=vx b (gp b G (fL b d short)) d short (wG ok);have m:(gQ short (b.R+1)=b.R+1\/(gQ short (b.R+1)=0/\sL b short n=-(.ofNat (b.R+1))))->fj b (dx b G d short).T (w4 b d g f P .a) h:=λE=>(xo P).elim λq s=>HE D X L E (by rw[s.1]) s.2 (vC b).2.2.symm O.1.1 (Xe _) O.2 λN T R o x=>T1 k p P ok (by rw[<-s.1] at o;exact o) x
 induction short with
 |true=>exact m (.inl rfl)
 |false=>
  induction f with|h9=>exact m (.inr ⟨rfl,by rw[show n=0 from k];rfl⟩)|nu j=>exact m (.inr ⟨rfl,by unfold sL;rw[k.1,(tj k.2.1).1,Bool.or_true]⟩)|hk=>exact r0 D X L (by unfold sL;rw[k.1,k.2];rfl)
abbrev yg(E:C)(G:V)(W:Nat->Nat->b')(p:Bool)(c:ZI):Prop:=∀l P h,dp E (U l c)->iR E P->qB E G W p (U l c) (9*c.length+3*P.length+3) (ik E P) (ip E P) l.length h->fj E (dx E G W p).T (WC E W c none P) h
abbrev BO(E:C)(G:V)(W:Nat->Nat->b')(p:Bool)(c:ZI):Prop:=∀l P h,dp E (U l c)->iR E P->qB E G W p (U l c) (9*c.length+3*P.length+9) (U (ik E P) [1]) (U (ip E P) [eE E none]) l.length h->fj E (dx E G W p).T (WC E W c (some .a) P) h
def my:U a (x::b)=U (U a [x]) b:=(eL (b:=[x])).symm
def Mu:sM a (4+B)=match jY a&&Nat.beq B (a.bC a.k)with|true=>2|false=>0:=by unfold sM;rw[show Nat.beq (4+B) 3=false from ee (by lia),uW]<;>rfl
def TY(P:List Fr)(ok:iR a P)(g:BO a G d short c)(k:yg a G d short c)(l:ZI)(h:Z)(R:dp a (U l (H::c)))(D:qB a G d short (U l (H::c)) (9*c.length+9+3*P.length+3) (ik a P) (ip a P) l.length h):fj a (dx a G d short).T (WC a d (H::c) none P) h:=by
 refine(xo (E:=a) P).elim λf s=>?_;have O:=(vx a (gp a G (fL a d short)) d short (wG ok)).1;have L:=Fn R;rw[s.1] at D;have D:=gJ.le (w':=9*c.length+3*P.length+9+3) D (by lia)
 induction H with
 |none=>refine Bu D O L rfl (Xk _) λS x=>?_;rw[<-s.1,my,<-dX] at x;rw[my] at R;exact g (U l [none]) P S R ok x
 |some j=>
  have I:=Mu (a:=a) (B:=j);show fj _ _ (match jY a&&Nat.beq j (a.bC a.k)with|true=>WC a d c none (.P::P)|false=>none) h
  cases dO:jY a&&Nat.beq j (a.bC a.k)with
  |false=>rw[dO] at I;exact r0 D O L I
  |true=>rw[dO] at I;have b:=a4 dO;have e:=W2 b.2;subst e;refine Bu D O L I (WY rfl) λS x=>?_;rw[<-s.1,my,<-dX] at x;rw[my] at R;exact k (U l [some (a.bC a.k)]) (.P::P) S R (iR.cons (dZ b.1) ok) (x.le (by show 9*c.length+3*(P.length+1)+3<=_;lia))
def TZ(P:List Fr)(ok:iR a P)(m:yg a G b short c)(l:ZI)(h:Z)(R:dp a (U l (H::c)))(D:qB a G b short (U l (H::c)) (9*c.length+9+3*P.length+9) (U (ik a P) [1]) (U (ip a P) [eE a none]) l.length h):fj a (dx a G b short).T (WC a b (H::c) (some .a) P) h:=by
 have L:=Fn R;have D:=gJ.le (w':=9*c.length+3+3*P.length+9) D (by lia)
 have g:xX a (g7 a H) (ff a H) (xA H) .hk->fj a (dx a G b short).T none h:=λO=>A9 (g:=λ_=>none) O (λ_ e=>nomatch e) ok D L;induction H with
 |none=>exact g ⟨rfl,rfl⟩
 |some j=>
  show fj _ _ (match Nat.blt j a.k with|true=>p' (WC a b c none) j (fD a b P .a (some j))|false=>none) h
  generalize d:Nat.blt j a.k=N;induction N with
  |true=>refine A9 (f:=.nu j) ⟨rfl,dZ d,rfl⟩ (λi K k t n f=>?_) ok D L;rw[my,<-dX] at f;rw[my] at R;exact m (U l [some j]) k t R n (f.le (by lia))
  |false=>exact g ⟨ee (by show 4+j≠0;lia),by show(Nat.ble 4 (4+j)&&Nat.blt (4+j) (4+a.k))=false;rw[show Nat.blt (4+j) (4+a.k)=false from lC (Xg (YP λz=>by rw[dF z] at d;nomatch d) 4),XN]⟩
def TX(c:ZI):yg a G b short c/\BO a G b short c:=by
 induction c with
 |nil=>
  refine⟨λl P h R ok D=>(xo (E:=a) P).elim λd s=>?_,λl P h R ok D=>?_⟩
  .rw[s.1] at D
   exact r0 (w:=3*P.length) (D.le (by rw[Yv];lia)) (vx a (gp a G (fL a b short)) b short (wG ok)).1 Fm (by unfold sM;rw[show Nat.beq 0 (4+a.bC a.k)=false from ee (by lia),XN])
  .exact A9 (f:=.h9) (g:=λ_=>none) (e:=0) (Eq.refl 0) (λ_ e=>nomatch e) ok (D.le (by rw[Yv];lia)) Fm
 |cons o c S=>exact⟨λl P h R ok D=>TY P ok S.2 S.1 l h R D,λl P h R ok D=>TZ P ok S.1 l h R D⟩
def oa(T:V)(Q:ZF):Z:=(((eH 40).c .eg 16 [T,gg Q] Z.bj).getD default).2
def ob(T:V)(Q s:ZF):Z:=(((eH 40).c .eg 15 [.ae s] (oa T Q)).getD default).2
def ib(T:V)(Q s:ZF):Z:=(((eH 40).c .inl 64 [.ref 0] (ob T Q s)).getD default).2
def CR:kf:=⟨7,8,[],[],0,[0],[],.none,0,rA,.none⟩
def NK:aY .inl 64 [.ref 0] (ob T Q s) .none (ib T Q s):=ft 40 λ_=>by kernel_rfl
def NH:∃P,(oa T Q).get 0=some (.ins 16 P)/\au P 87=none/\au P 112=none:=⟨[(74,T),(80,gg Q),(81,I 5000),(82,.ref 1),(59,.ref 2),(72,.ref 3),(84,.none),(85,I 0),(86,rA),(77,.none),(78,.ref 4),(47,.ref 5)],by kernel_rfl,rfl,rfl⟩
def NI:∃P,(ob T Q s).get 0=some (.ins 16 P)/\au P 83=none:=⟨[(74,T),(80,gg Q),(81,I 5000),(82,.ref 1),(59,.ref 2),(72,.ref 3),(84,.none),(85,I 0),(86,rA),(77,.none),(78,.ref 4),(47,.ref 5)],by kernel_rfl,rfl⟩
def zv:(ib T Q s).n=11:=by kernel_rfl
def NJ:bW (ib T Q s) T (gg Q) s CR where
 i:=by kernel_rfl
 l:=by kernel_rfl
 t:=by kernel_rfl
 f:=⟨[],by kernel_rfl,WY rfl⟩
 m:=by kernel_rfl
 s:=by kernel_rfl
 v:=by kernel_rfl
 n:=by rw[zv];exact Xe _
 k7:=by rw[zv];exact WY rfl
 lb:=by rw[zv];exact WY rfl
 mf:=by decide
 b6:=⟨by decide,by decide,by decide,by decide,by decide⟩
 c2:=⟨by decide,by decide,by decide,by decide,by decide⟩
def RV(K:ml h T H d)(e:dy .eq d.gy uJ h=some B):∃g,aY .inl 65 [.ref 0] h g h/\bM h g 77=some d.val:=
 K.f.elim λP f=>K.m.elim λy m=>
  have mk:∀a b c x,∃k,aY .eg 14 [a,b,c,x] h (.ins 14 k [(76,a),(77,b),(78,c),(47,x)]) h:=λa b c x=>⟨_,yK rfl rfl rfl rfl rfl rfl (j4 J rfl (j4 J rfl (j4 J rfl (j4 J rfl AM))))⟩
  (mk (.bool B) d.val (.ae P) (.ae y)).elim λk mk=>⟨_,cH rfl rfl (bG (cb (iC (aI (bF (a9 J (iY K.i rfl)) u e) (aI (a9 J (iY K.i rfl)) (aI (d4 (aq (a9 J (iY K.i rfl))) (a6 rfl (a6 (lX f) rfl))) (aq (d4 (aq (a9 J (iY K.i rfl))) (a6 rfl (a6 (lX m) rfl))))))) mk))),rfl⟩
def l8(E:C):Z0 aV->V
 |some t=>d0 E t
 |none=>.none
def QZ:aY .inl 52 [gp a G f] h (.ae (eN a)) h:=ft 30 λn=>by induction a<;>kernel_rfl
def VD:ct 12 h (l8 a r)=some (l8 a r):=match r with
 |none=>rfl
 |some .a=>rfl
 |some (.p _ _)=>rfl
 |some (.f _ _ _)=>rfl
def RW(o:yc a r d):d.val=l8 a r/\∃B,dy .eq d.gy uJ h=some B:=match r,o with
 |none,o=>⟨o.2,false,by rw[o.1];rfl⟩
 |some _,o=>⟨o.2,true,by rw[o.1];rfl⟩
def R4(R:dp a b)(t:b.length<=8)(j:cg 60 (gp a G (fL a c short)))(k:cg 60 (l8 a (WC a c b none []))):
  aY .pure 85 [gp a G (fL a c short),.ae (b.map (g7 a))] h (l8 a (WC a c b none [])) h:=by
 have D:qB a G c short (U [] b) (9*b.length+3*0+3) (ik a []) (ip a []) 0 (ib (gp a G (fL a c short)) (eN a) (b.map (g7 a))):=
  have l:∀{x},x<=1->x+(9*b.length+3*0+3)<700:=λz=>W3 (XY z (Xl (XE 9 t) 3)) (WY rfl)
  ⟨CR,NJ,λq v e=>(nomatch e),l (Xj _),l (Xj _),l (Xe _),l (Xj _),⟨rfl,rfl⟩,rfl,rfl,rfl⟩
 refine((TX b).1 [] [] _ R (λ_ m=>nomatch m) D).elim λf z=>z.elim λA z=>?_;have i:=RW (h:=f) z.2.2;refine i.2.elim λB s=>(RV z.2.1 s).elim λo y=>?_;refine(NH (T:=gp a G (fL a c short)) (Q:=eN a)).elim λC d=>(NI (T:=gp a G (fL a c short)) (Q:=eN a) (s:=b.map (g7 a))).elim λkD p=>?_;have w:aY .inl 67 [.ref 0,.ref 6] (ob (gp a G (fL a c short)) (eN a) (b.map (g7 a))) o f:=cH rfl rfl (M (de (fJ J (kv p.1) (kF p.1 p.2) rfl rfl rfl du NK) rfl) (M (oJ z.1) (bG (cb (fJ J (kv z.2.1.i) (kF z.2.1.i rfl) rfl rfl rfl du y.1)))));have r:aY .inl 66 [.ref 0,.ae (b.map (g7 a))] (oa (gp a G (fL a c short)) (eN a)) o f:=cH rfl rfl (bG (cb (fJ J (kv d.1) (kF d.1 d.2.1) rfl rfl rfl (aq (iC (aq J) (ft 40 λ_=>by kernel_rfl))) w)))
 have u:aY .eg 11 [.ae (eN a)] Z.bj (gg (eN a)) Z.bj:=ft 9 λn=>by kernel_rfl
 have g:=y.2;rw[i.1] at g;exact ks (P:=f) (cf j (cf (hn (jM λo=>by induction o<;>rfl)) rfl)) rfl rfl rfl (bG (cb (a9 (fJ (iC (aI J (aq (iC (aq (c7 (aq J) QZ)) u))) (ft 40 λ_=>by kernel_rfl)) (kv d.1) (kF d.1 d.2.2) rfl rfl rfl (aq J) r) g))) VD k
noncomputable def fg(E:C):aV->ZI->ZI
 |.a,r=>none::r
 |.p i t,r=>some (E.bC i)::fg E t r
 |.f i l u,r=>fg E l (some i::fg E u r)
noncomputable def rU:aV->List Fr->List Fr
 |.a,P=>P
 |.p _ t,P=>rU t (.P::P)
 |.f i l r,P=>rU r (.I l i::P)
noncomputable def lg(E:C):List Fr->ZI->ZI
 |[],r=>r
 |.P::P,r=>lg E P (some (E.bC E.k)::r)
 |.I l j::P,r=>lg E P (fg E l (some j::r))
def dn(E:C)(W:Nat->Nat->b')(t:aV):List Fr->Bool
 |[]=>true
 |f::_=>m8 W (f.ew E) t
def kg(E:C)(W:Nat->Nat->b'):List Fr->Prop
 |[]=>True
 |.P::P=>E.k<E.R/\kg E W P
 |.I l j::P=>(j<E.k/\l.cq E/\eG W l/\ij W j l/\dn E W (.f j l .a) P=true)/\kg E W P
def jN(x:a=true)(y:b=true):(a&&b):=by rw[x,y];rfl
def GC(h:kM (b (f.ew a) B)):fD a b (f::P) t (some B)=fD a b P (f.iU a t) (some B):=by
 refine(?_:(match b (f.ew a) B with|.gY=>fD a b P (f.iU a t) (some B)|.iy=>none|_=>some (f::P,t))=_)
 exact(ES h)▸rfl
def SG(t:aV):∀{P:List Fr},t.cq b->ij a B t->fD b a (rU t P) .a (some B)=fD b a P t (some B):=by
 induction t with|a=>exactλ_ _=>rfl|p i t S=>exactλ{P} w o=>(S w.2.2 (a4 o).2).trans ((GC (w.1▸(a4 o).1:kM (a b.k B)=true)).trans (by refine w.1▸?_;rfl))|f i l r _ S=>exactλ{P} w o=>(S w.2.2 (a4 o).2).trans (GC (a4 o).1)
def SD(t:aV):∀{P:List Fr},t.cq a->fD a b (rU t P) .a none=fD a b P t none:=by
 induction t with|a=>exactλ_=>rfl|p i t S=>exactλ{P} w=>(S w.2.2).trans (by refine w.1▸?_;rfl)|f i l r _ S=>exactλ{P} w=>S w.2.2
def SH(h:dn a b (.f B t L) P):fD a b P t (some B)=some (P,t):=match P,h with
 |[],_=>rfl
 |f::P,h=>by
  have h:=(a4 h).1;show(match b (f.ew a) B with|.gY=>fD a b P (f.iU a t) (some B)|.iy=>none|_=>some (f::P,t))=_
  generalize e:b (f.ew a) B=N;induction N<;>first|rfl|(rw[e] at h;exact bb h)
def Lr(h:dn b a (.f B l r) P):dn b a l P:=match P,h with
 |[],_=>rfl
 |_::_,h=>(a4 h).2
def Th(t:aV):∀{P:List Fr}{y:ZI},t.cq a->eG b t->dn a b t P->WC a b (fg a t y) none P=WC a b y (some .a) (rU t P):=by
 induction t with
 |a=>exactλ_ _ _=>rfl
 |p i t S=>
  intro P y w s c;have s:=a4 s;rw[w.1] at s;rw[w.1];show(match jY a&&Nat.beq (a.bC a.k) (a.bC a.k)with|true=>WC a b (fg a t y) none (.P::P)|false=>none)=_
  rw[show jY a=true from dF w.2.1,Xn];exact S w.2.2 s.2 s.1
 |f i l r m Q=>
  intro P y w s c;have s:=a4 s;have K:=a4 s.2;have I:=a4 K.2;refine(m w.2.1 K.1 (Lr c)).trans ?_;show(match Nat.blt i a.k with|true=>p' (λd=>WC a b (fg a r y) none d) i (fD a b (rU l P) .a (some i))|false=>none)=_
  rw[dF w.1,SG l w.2.1 s.1,SH c];exact Q w.2.2 I.2 I.1
def Td(w:t.cq a)(s:eG b t):WC a b (fg a t []) none []=some t:=(Th t w s rfl).trans (W0 xj (SD t w))
def Cf(g:kg a b (f::P))(w:t.cq a)(s:eG b t)(c:dn a b t (f::P)):
  kg a b P/\(f.iU a t).cq a/\eG b (f.iU a t)/\dn a b (f.iU a t) P/\∀r,lg a P (fg a (f.iU a t) r)=lg a (f::P) (fg a t r):=match f,g with
 |.P,g=>⟨g.2,⟨rfl,g.1,w⟩,jN c s,by induction P<;>rfl,λ_=>rfl⟩
 |.I l j,g=>⟨g.2,⟨g.1.1,g.1.2.1,w⟩,jN g.1.2.2.2.1 (jN g.1.2.2.1 (jN c s)),match P,g.1.2.2.2.2 with
  |[],_=>rfl
  |_::_,z=>z,λ_=>rfl⟩
abbrev ye(E:C)(W:Nat->Nat->b')(u:aV)(r:ZI):Prop:=u.cq E/\eG W u/\fg E u []=r
def SE(P:List Fr):∀{t:aV},kg a b P->t.cq a->eG b t->dn a b t P->xj (fD a b P t none)=some L->ye a b L (lg a P (fg a t [])):=by
 induction P with|nil=>exactλ{t} _ w s _ e=>WZ e▸⟨w,s,rfl⟩|cons f P S=>exactλ{t} g w s c e=>have z:=Cf g w s c;z.2.2.2.2 []▸S z.1 z.2.1 z.2.2.1 z.2.2.2.1 e
def SF(P:List Fr):∀{t:aV},kg a b P->t.cq a->eG b t->dn a b t P->ij b B t->fD a b P t (some B)=some (d,L)->kg a b d/\(L.cq a/\eG b L/\ij b B L/\dn a b (.f B L .a) d=true)/\∀r,lg a d (fg a L r)=lg a P (fg a t r):=by
 have S:∀{P:List Fr}{t:aV},kg a b P->t.cq a->eG b t->ij b B t->dn a b (.f B t .a) P->some (P,t)=some (d,L)->kg a b d/\(L.cq a/\eG b L/\ij b B L/\dn a b (.f B L .a) d=true)/\∀r,lg a d (fg a L r)=lg a P (fg a t r):=λ{P t} g w s o c e=>by
  cases e
  exact⟨g,⟨w,s,o,c⟩,λ_=>rfl⟩
 induction P with
 |nil=>exactλ{t} g w s c o e=>S g w s o rfl e
 |cons f P h=>
  intro t g w s c o e
  replace e:(match b (f.ew a) B with|.gY=>fD a b P (f.iU a t) (some B)|.iy=>none|_=>some (f::P,t))=some (d,L):=e
  generalize k:b (f.ew a) B=N;induction N with
  |gY=>
   rw[k] at e;have z:=Cf g w s c;have Q:kM (b (f.ew a) B):=by refine k▸?_;rfl
   have y:=h z.1 z.2.1 z.2.2.1 z.2.2.2.1 (match f,Q with
    |.P,Q=>jN Q o
    |.I l i,Q=>jN Q o) e
   exact⟨y.1,y.2.1,λr=>(y.2.2 r).trans (z.2.2.2.2 r)⟩
  |iy=>rw[k] at e;exact cB e
  |nx=>rw[k] at e;exact S g w s o (jN (by refine k▸?_;rfl) c) e
  |dI=>rw[k] at e;exact S g w s o (jN (by refine k▸?_;rfl) c) e
def H7:aV.cq a .a:=trivial
def Tb(c:ZI):(∀P,kg a b P->WC a b c none P=some L->ye a b L (lg a P c))/\∀P,kg a b P->WC a b c (some .a) P=some L->ye a b L (lg a P (none::c)):=by
 have i:∀P,dn a b .a P:=λP=>by induction P<;>rfl
 induction c with
 |nil=>exact⟨λP _ e=>(cB e),λP g e=>SE P g H7 rfl (i P) e⟩
 |cons o c S=>exact match o with
  |none=>⟨λP g e=>S.2 P g e,λP g e=>cB e⟩
  |some j=>by
   refine⟨λP g e=>?_,λP g e=>?_⟩
   .replace e:(match jY a&&Nat.beq j (a.bC a.k)with|true=>WC a b c none (.P::P)|false=>none)=some L:=e
    cases dO:jY a&&Nat.beq j (a.bC a.k)with
    |false=>rw[dO] at e;exact cB e
    |true=>rw[dO] at e;exact(W2 (a4 dO).2)▸S.1 (.P::P) ⟨dZ (a4 dO).1,g⟩ e
   .replace e:(match Nat.blt j a.k with|true=>p' (WC a b c none) j (fD a b P .a (some j))|false=>none)=some L:=e
    cases hj:Nat.blt j a.k with
    |false=>rw[hj] at e;exact cB e
    |true=>
     rw[hj] at e;cases hr:fD a b P .a (some j)with
     |none=>rw[hr] at e;exact cB e
     |some p=>rw[hr] at e;have z:=SF P g H7 rfl (i P) rfl hr;have y:=S.1 (.I p.2 j::p.1) ⟨⟨dZ hj,z.2.1⟩,z.1⟩ e;exact⟨y.1,y.2.1,y.2.2.trans (z.2.2 (some j::c))⟩
noncomputable def cx:aV->Nat
 |.a=>1
 |.p _ t=>cx t+1
 |.f _ l r=>cx l+1+cx r
def At(E:C)(I:ZI)(a:Nat):aV->Prop
 |.a=>a3 I a=some none
 |.p i t=>a3 I a=some (some (E.bC i))/\At E I (a+1) t
 |.f i l r=>At E I a l/\a3 I (a+cx l)=some (some i)/\At E I (a+cx l+1) r
def yY{I:ZI}:∀{a:Nat},a3 I a=some x->I.drop a=x::I.drop (a+1):=by
 induction I with
 |nil=>exactλe=>cB e
 |cons w I S=>
  intro a e;induction a with|zero=>exact W0 (·::_) (WZ e)|succ a=>exact S e
def Av{I:ZI}:∀{a:Nat},x::r=I.drop a->a3 I a=some x/\r=I.drop (a+1):=by
 induction I with
 |nil=>intro a e;induction a<;>nomatch e
 |cons w I S=>
  intro a e;induction a with|zero=>exact⟨W0 some (XQ e).1.symm,(XQ e).2⟩|succ a=>exact S e
def JF(t:aV):∀{a:Nat},At b c a t->fg b t (c.drop (a+cx t))=c.drop a:=by
 induction t with
 |a=>exactλh=>(yY h).symm
 |p i t S=>intro a h;have z:=S h.2;rw[W9,Xa 1] at z;exact(W0 (some (b.bC i)::·) z).trans (yY h.1).symm
 |f i l r m Q=>
  intro a h;have z:=Q h.2.2;rw[show a+cx l+1+cx r=a+cx (.f i l r) from by show _=a+(cx l+1+cx r);lia] at z
  refine(?_:fg b l (some i::fg b r _)=_);rw[z,<-yY h.2.1];exact m h.1
def Ws(t:aV):∀{a:Nat}{r:ZI},fg c t r=b.drop a->At c b a t/\r=b.drop (a+cx t):=by
 induction t with|a=>exactλe=>Av e|p i t S=>exactλ{a r} e=>have z:=Av e;have y:=S z.2;⟨⟨z.1,y.1⟩,by rw[y.2,W9,Xa 1];rfl⟩|f i l u m Q=>exactλ{a r} e=>have z:=m e;have y:=Av z.2;have x:=Q y.2;⟨⟨z.1,y.1,x.1⟩,by rw[x.2];exact W0 b.drop (by show a+cx l+1+cx u=a+(cx l+1+cx u);lia)⟩
def xB:g6 b a n i=true↔a3 a n=some (some (b.bC i)):=by
 unfold g6;exact match a3 a n with
 |none=>⟨λh=>(nomatch h),λh=>(nomatch h)⟩
 |some none=>⟨λh=>(nomatch h),λh=>(nomatch h)⟩
 |some (some j)=>⟨λh=>by rw[W2 h],λh=>by cases h;exact Xn _⟩
def Hz:gq a n=true↔a3 a n=some none:=by
 unfold gq;exact match a3 a n with
 |none=>⟨λh=>(nomatch h),λh=>(nomatch h)⟩
 |some none=>⟨λ_=>rfl,λ_=>rfl⟩
 |some (some j)=>⟨λh=>(nomatch h),λh=>(nomatch h)⟩
def mj(t:aV):0<cx t:=match t with
 |.a=>Nat.one_pos
 |.p _ _=>Xk _
 |.f _ _ _=>W4 (Xk _) (Xd _ _)
def yi(m:Nat):∀{a:Nat}{t:aV},t∈cc b c a m->cx t=m/\At b c a t:=by
 induction m using Nat.strongRecOn with
 |ind m S=>
  intro a t V;induction m with
  |zero=>exact eu V
  |succ m=>
   rw[o7] at V;refine FN V (λe h N=>e▸⟨h.symm,Hz.mp N⟩) (λu e Q N P H=>?_) λi l r s e A P N f g F=>?_
   .have z:=S m (Xh m) H
    exact e▸⟨W0 (·+1) z.1,xB.mp N,z.2⟩
   .have z:=S s (Xr N) g
    have y:=S (m+1-s-1) (W3 (XW _ _) (YH (Xk m) P)) F;have d:=xB.mp f;rw[vM A,<-z.1] at d;have n:=y.2;rw[<-z.1] at n;exact e▸⟨by show cx l+1+cx r=_;rw[z.1,y.1,Zn];exact Yc (Xw N),z.2,d,n⟩
def A5(h:b=true)(m:x∈l):x∈g0 b l:=by rw[h];exact m
def yj(m:Nat)(e:cx r=m)(h:r∈j9 b c (cc b c) a m):r∈cc b c a m:=by
 induction m with|zero=>exact absurd e (XK (mj r))|succ m=>rw[o7];exact h
def Ut{a b:Nat}:a+1+b-a-1=b:=by rw[Zn,Yp]
def Qj{a b:Nat}(h:0<b):a<1+(a+1+b-2):=by
 induction b with|zero=>exact absurd h (Yj 0)|succ b=>rw[Xa 1];exact Yf (show a<=a+1+b-1 from (XJ a 1 b).symm▸Xd a b)
def Qy(t:aV):∀{a:Nat},t.cq b->At b c a t->t∈cc b c a (cx t):=by
 induction t with|a=>exactλ_ h=>yj 1 rfl (XX _ (A5 (jN rfl (Hz.mpr h)) (.head _)))|p i u S=>intro a w h;have N:=h.1;rw[w.1] at N⊢;refine yj (cx u+1) rfl (XC _ (X5.mpr ⟨b.k,gG _ (Xj _) (by rw[W7];exact w.2.1),XX _ (A5 (jN (Xn _) (jN (xB.mpr N) (dF (Y6 (mj u))))) (Xz.mpr ⟨u,S w.2.2 h.2,rfl⟩))⟩))|f i l r m Q=>intro a w h;have K:=mj r;have e:cx l+1+cx r-cx l-1=cx r:=Ut;refine yj (cx l+1+cx r) rfl (XC _ (X5.mpr ⟨i,gG _ (Xj _) (by rw[W7];exact w6 w.1),XC _ (X5.mpr ⟨cx l,gG _ (mj l) (Qj K),A5 (jN (by rw[ee (Xi w.1)];rfl) (xB.mpr (by rw[vM w.1];exact h.2.1))) (X5.mpr ⟨l,m w.2.1 h.1,Xz.mpr ⟨r,by rw[e];exact Q w.2.2 h.2.2,rfl⟩⟩)⟩)⟩))
def Aj{α β:Type}{l:List α}{f:α->List β}(P:∀a∈l,(f a).Nodup)(N:l.Pairwise λa b=>∀x∈f a,∀y∈f b,x≠y):(l.flatMap f).Nodup:=List.pairwise_flatMap.mpr ⟨P,N⟩
def Ak{l:List α}{f:α->List β}(k:β->α)(R:∀a x,x∈f a->k x=a)(n:l.Nodup):l.Pairwise λa b=>∀x∈f a,∀y∈f b,x≠y:=n.imp λ{a b} n x B y L e=>n ((R a x B).symm.trans ((W0 k e).trans (R b y L)))
def Al(h:l.Nodup):(g0 b l).Nodup:=match b with
 |true=>h
 |false=>.nil
def FX{l:List α}(h:l.Nodup)(R:∀x y,f x=f y->x=y):(l.map f).Nodup:=List.pairwise_map.mpr (h.imp λ{x y} n e=>n (R _ _ e))
def FY(n:Nat):∀{i:Nat},(aB i n).Nodup:=by
 induction n with|zero=>exact .nil|succ n S=>exactλ{i}=>XZ.mpr ⟨λm=>absurd (g8 _ m).1 (Ze i),S⟩
noncomputable def td:aV->Nat
 |.a=>0
 |.p i _=>i+1
 |.f i _ _=>i+1
noncomputable def wg:aV->aV
 |.f _ l _=>l
 |_=>.a
noncomputable def GQ:aV->aV
 |.f _ _ r=>r
 |.p _ t=>t
 |_=>.a
noncomputable def zO:aV->Bool
 |.p _ _=>true
 |_=>false
def GJ(h:x∈nf b c T a m i):td x=i+1/\zO x:=(Xz.mp (rz h).2).elim λu z=>z.2▸⟨rfl,rfl⟩
def AV(h:x∈hT b c T a m i s):td x=i+1/\zO x=false/\wg x∈T a s:=(X5.mp (rz h).2).elim λl z=>(Xz.mp z.2).elim λr y=>y.2▸⟨rfl,rfl,z.1⟩
def GI(h:x∈hz b c T a m i):td x=i+1:=(XF.mp h).elim (λh=>(GJ h).1) λh=>(X5.mp h).elim λs z=>(AV z.2).1
def S6(R:∀b n,n<m+1->(T b n).Nodup)(f:∀s t,t∈T a s->cx t=s):(j9 c d T a (m+1)).Nodup:=by
 refine Zv.mpr ⟨Al (List.pairwise_singleton _ _),Aj (λi _=>?_) (Ak (λx=>td x-1) (λ_ _ B=>W0 (·-1) (GI B)) (FY _)),λx B y L e=>?_⟩
 .refine Zv.mpr ⟨Al (FX (R _ _ (Xh m)) λx y e=>W0 GQ e),Aj (λs g=>?_) (Ak (λx=>cx (wg x)) (λ_ _ B=>f _ _ (AV B).2.2) (FY _)),λx B y L e=>(X5.mp L).elim λs z=>Bool.noConfusion ((GJ B).2.symm.trans ((W0 zO e).trans (AV z.2).2.1))⟩
  have ny:=xm g;exact Al (Aj (λl _=>FX (R _ _ (W3 (XW _ _) (YH (Xk m) ny.1))) λx y e=>W0 GQ e) (Ak wg (λ_ _ B=>(Xz.mp B).elim λr z=>W0 wg z.2.symm) (R a s (Xr ny.2))))
 .rw[Xf.mp (rz B).2] at e
  exact(X5.mp L).elim λi z=>Nat.noConfusion ((W0 td e).trans (GI z.2))
def I6(m:Nat):∀{a:Nat},(cc c d a m).Nodup:=by
 induction m using Nat.strongRecOn with
 |ind m S=>
  intro a;induction m with|zero=>exact .nil|succ m=>rw[o7];exact S6 (λb n X=>S n X) λs t h=>(yi s h).1
def Wt(t:aV):∀{r:ZI},(fg a t r).length=cx t+r.length:=by
 induction t with|a=>exactλ{r}=>Xa _ _|p i t S=>exactλ{r}=>(W0 (·+1) S).trans (XJ ..)|f i l u m b=>exactλ{r}=>by rw[show fg a (.f i l u) r=fg a l (some i::fg a u r) from rfl,m,Xx,b];show _=cx l+1+cx u+r.length;lia
def AZ(h:WC b c a none []=some t):t∈i9 b a/\eG c t:=by
 have z:=(Tb a).1 [] trivial h;have y:fg b t []=a:=z.2.2;have m:=Qy t z.1 (Ws (a:=0) t y).1;have e:cx t=a.length:=by rw[<-y,Wt];rfl
 rw[e] at m;exact⟨m,z.2.1⟩
def Qz(h:t∈i9 b c)(s:eG a t):WC b a c none []=some t:=by have z:=yi _ h;have y:=JF t z.2;rw[W7,z.1,List.drop_length] at y;have r:=Td (uI _ h).2 s;rw[y] at r;exact r
noncomputable def rI{α:Type}:Z0 α->List α
 |some t=>[t]
 |none=>[]
def RM(D:l.Nodup)(a:∀t∈l,H=some t)(d:∀t,H=some t->t∈l):l=rI H:=by
 induction l with
 |nil=>induction H with
  |none=>rfl
  |some t=>nomatch d t rfl
 |cons t l=>
  rw[a t (.head _)];induction l with|nil=>rfl|cons u l=>exact absurd (WZ ((a t (.head _)).symm.trans (a u (.tail _ (.head _))))) ((Ys.mp D).1 _ (.head _))
def SQ:(i9 c a).filter (eG b)=rI (WC c b a none []):=
 RM ((I6 a.length).sublist List.filter_sublist) (λ_ h=>Qz (Zg.mp h).1 (Zg.mp h).2) λ_ h=>Zg.mpr (AZ h)
def va(h:4<=f):cg f (eE a H):=match f,h with
 |0,h=>nomatch h
 |1,h=>absurd h (by decide)
 |2,h=>absurd h (by decide)
 |3,h=>absurd h (by decide)
 |_+4,_=>by induction H<;>rfl
def yR(h:dR (cg (g+1)) X):cg (g+3) (fC r X):=yP (iS rfl (iS rfl (iS (hn h) rfl)))
def Bz(h:n+3<=f):∃g,f=g+3/\n<=g:=⟨f-3,(YJ (W5 (X7 3 n) h)).symm,Nat.le_sub_of_add_le h⟩
def yS(t:aV):∀{f:Nat},3*t.dN+3<=f->cg f (d0 a t):=by
 induction t with
 |a=>exactλ{f} h=>(Bz h).elim λg z=>z.1▸yR (cf (va (Xp z.2)) rfl)
 |p i t S=>exactλ{f} h=>(Bz h).elim λg z=>z.1▸yR (cf (va (Xp (W5 (X7 3 _) z.2))) (cf (S (XT z.2)) rfl))
 |f i l r m Q=>exactλ{f} h=>(Bz h).elim λg z=>
  have D:∀{d},d<=max l.dN r.dN->3*d+3<=g+1:=λy=>XT (W5 (Xl (XE 3 y) 3) z.2)
  (z.1▸yR (cf (m (D (YT _ _))) (cf (va (Xp (W5 (X7 3 _) z.2))) (cf (Q (D (YQ _ _))) rfl))))
def KN(h:b.length<=8):cg 60 (l8 a (WC a c b none [])):=by
 generalize F:WC a c b none []=N;induction N with|none=>rfl|some t=>exact yS t (W5 (Xl (XE 3 (W5 (uI _ (AZ F).1).1 h)) 3) (WY rfl))
abbrev RB:List S:=cA (cm za 2)
abbrev Gf:E:=nG (cm za 2)
def oF(o s:ZF):Z:=aai ⟨.node (some (.ae o 0)) (.node (some (.ae s 0)) .nil .nil) .nil,2⟩
abbrev tU(v:V):ZD:=aai [(69,v),(12,.ref 0),(70,.ref 1)]
noncomputable def ng(E:C):aV->ZF->ZF
 |.a,o=>U (U o [d0 E .a]) [eE E none]
 |.p i t,o=>U (ng E t (U o [d0 E (.p i t)])) [eE E (some (E.bC i))]
 |.f i l r,o=>ng E l (U (ng E r (U o [d0 E (.f i l r)])) [eE E (some i)])
noncomputable def kY(E:C):aV->ZF->ZF
 |.a,r=>eE E none::d0 E .a::r
 |.p i t,r=>eE E (some (E.bC i))::kY E t (d0 E (.p i t)::r)
 |.f i l u,r=>kY E l (eE E (some i)::kY E u (d0 E (.f i l u)::r))
def qg(l:List α):∀{a:List α},gm (U l [x]) a=x::gm l a:=by
 induction l with|nil=>exact rfl|cons y l S=>exact S
def R'(t:aV):∀{H:ZF},gm (ng a t H) []=kY a t (gm H []):=by
 induction t with|a=>exactλ{H}=>(qg _).trans (W0 (_::·) (qg _))|p i t S=>exactλ{H}=>(qg _).trans (W0 (_::·) (S.trans (W0 (kY a t) (qg _))))|f i l r m Q=>exactλ{H}=>m.trans (W0 (kY a l) ((qg _).trans (W0 (_::·) (Q.trans (W0 (kY a r) (qg _))))))
def AX(t:aV):∀{H:ZF},(ng a t H).length=H.length+2*cx t:=by
 induction t with|a=>exactλ{H}=>by show(U (U H _) _).length=_;rw[dX,dX];rfl|p i t S=>exactλ{H}=>by show(U (ng a t _) _).length=H.length+2*(cx t+1);rw[dX,S,dX];lia|f i l r m Q=>exactλ{H}=>by show(ng a l _).length=H.length+2*(cx l+1+cx r);rw[m,dX,Q,dX];lia
def SP(O:ZF):gm (gm O []) []=O:=by
 have r:∀(l a:ZF),gm l a=l.reverse++a:=λl=>by
  induction l with|nil=>exactλ_=>rfl|cons y l S=>exactλa=>(S (y::a)).trans (by rw[Yn,X4];rfl)
 rw[r,r,XB,XB,List.reverse_reverse]
def Sd:iH gx (.ref 1) 2 [] (oF H (U a [x]))=some (x,oF H a):=by
 have e:wZ (U a [x]) []=some (x,a):=by unfold wZ;rw[qg];refine(?_:some (x,gm (gm a []) [])=_);rw[SP]
 exact a6 e (by kernel_rfl)
def Sl(X:ZF):∀{s:ZF},s.length+X.length<900->cS [71] [.expr (.aC (.F 70) 0 [.F 71])] X ⟨U (tU L) [(65,v)],oF H s⟩ .next ⟨U (tU L) [(65,v)],oF H (U s X)⟩:=by
 induction X with
 |nil=>exactλ{s} _=>by rw[eI];exact dq
 |cons c X S=>
  intro s f;have k:=S (s:=U s [c]) (by rw[dX,W9,Xa 1];exact f)
  rw[eL] at k;exact cW rfl (M (de (fY (J rfl) rfl (aq J) rfl (hu rfl (dW (by rw[c5];exact W3 (Xd _ _) (Xv f (WY rfl)))))) rfl) ba) rfl k
def jG(l:ZF):Prop:=∀x∈l,∀h,ct 11 h x=some x
def pI(x:jG a)(y:jG b):jG (U a b):=λz m=>(XF.mp (cQ▸m)).elim (x z) (y z)
def vE(h:jG l):jG (d0 a t::l):=λx m=>(Xm.mp m).elim (λe=>e▸λh=>by induction t<;>rfl) (h x)
def zg(h:jG l):jG (eE a c::l):=λx m=>(Xm.mp m).elim (λe=>e▸λh=>by induction c<;>rfl) (h x)
def mM:jG []:=λ_ m=>eu m
def Qv{l:ZF}(h:∀x∈l,g x=some x):f3 g l=some l:=by
 induction l with|nil=>rfl|cons x l S=>exact a6 (h x (.head _)) (a6 (S λy m=>h y (.tail _ m)) rfl)
def Gg(A:jG s):ao Gf ⟨tU L,oF H s⟩ (.bool (Nat.blt 0 (Wx s))) (oF H s):=
 bF (J rfl) (fu du) (a6 (a6 (Qv λx m=>A x m _) rfl) (by induction s<;>rfl))
abbrev o6(u:V)(w o s:ZF):Prop:=jK Gf RB ⟨tU u,oF o s⟩ .next ⟨tU u,oF w []⟩
def w0(A:jG (U s [v]))(a:∀h,bM h v 63=some (.ae X))(P:H.length<900)(N:s.length+X.length<900)(k:o6 L w (U H [v]) (U s X)):o6 L w H (U s [v]):=by
 have c:=Gg (L:=L) (H:=H) A;rw[show Nat.blt 0 (Wx (U s [v]))=true from by induction s<;>rfl] at c
 exact uB c rfl (M (cI (fY J rfl du rfl Sd)) (M (de (fY (J rfl) rfl (aq J) rfl (hu rfl (dW (by rw[c5];exact Xv P (WY rfl))))) rfl) (M (da (c8 (a9 J (a _)) rfl) rfl (Sl X N) rfl) ba))) k
def AL(A:jG s)(P:H.length<900)(N:s.length<900)(k:o6 L w (U H [eE a c]) s):o6 L w H (U s [eE a c]):=
 w0 (pI A (zg mM)) (λ_=>rfl) P N (by rw[eI];exact k)
def ot{a n m:Nat}(h:a+n<m):a<m:=W3 (Xd _ _) h
def So(t:aV):∀{H s:ZF},jG s->H.length+2*cx t<900->s.length+2*cx t<900->o6 L w (ng a t H) s->o6 L w H (U s [d0 a t]):=by
 induction t with
 |a=>exactλ{H s} A P N k=>w0 (X:=[eE a none]) (pI A (vE mM)) (λ_=>rfl) (ot P) (Xr N) (AL A (by rw[dX];exact Xr P) (ot N) k)
 |p i t S=>
  intro H s A P N k;have p:=mj t;have P:H.length+2*(cx t+1)<900:=P;have N:s.length+2*(cx t+1)<900:=N;refine w0 (pI A (vE mM)) (λ_=>rfl) (ot P) (by show s.length+2<900;lia) ?_
  rw[my (a:=s)];exact S (pI A (zg mM)) (by rw[dX];lia) (by rw[dX];lia) (AL A (by rw[AX,dX];lia) (ot N) k)
 |f i l r m Q=>
  intro H s A P N k;have p:=mj l;have q:=mj r;have P:H.length+2*(cx l+1+cx r)<900:=P;have N:s.length+2*(cx l+1+cx r)<900:=N;refine w0 (X:=[d0 a l,eE a (some i),d0 a r]) (pI A (vE mM)) (λ_=>rfl) (ot P) (by show s.length+3<900;lia) ?_
  rw[my (a:=s),my (a:=U s _)];have b:=pI A (vE (a:=a) (t:=l) mM);exact Q (pI b (zg mM)) (by rw[dX];lia) (by rw[dX,dX];lia) (AL b (by rw[AX,dX];lia) (by rw[dX];lia) (m A (by rw[dX,AX,dX];lia) (by lia) k))
def KJ(t:aV):∀{r:ZF},t.dN<=8->dR (cg 59) r->dR (cg 59) (kY a t r):=by
 have ey:∀{t:aV},t.dN<=8->cg 59 (d0 a t):=λz=>yS _ (W5 (Xl (XE 3 z) 3) (WY rfl));have b:∀{c},cg 59 (eE a c):=va (WY rfl);induction t with|a=>exactλT F=>cf b (cf (ey T) F)|p i t S=>exactλT F=>cf b (S (XI T) (cf (ey T) F))|f i l r m Q=>exactλT F=>m (W5 (YT _ _) (XI T)) (cf b (Q (W5 (YQ _ _) (XI T)) (cf (ey T) F)))
def Sh(T:t.dN<=8)(L:cx t<=8):aY .pure 47 [d0 a t] h (.ae (kY a t [])) h:=by have lU:0+2*cx t<900:=W3 (Xg (XE 2 L) 0) (WY rfl);have k:o6 (d0 a t) (ng a t []) [] [d0 a t]:=So t mM lU lU (qx (Gg mM) rfl);exact ks (cf (yS t (W5 (Xl (XE 3 T) 3) (WY rfl))) rfl) rfl rfl rfl (M (cI (h7 du)) (M (cI (h7 (aq J))) (M (oJ k) (bG (cb (L3 J rfl)))))) (by rw[R'];rfl) (hn (KJ t T rfl))
section
variable{E:C}{X T v x:V}{F:Z}{R:List (Z0 O)}{D A Q P:ZF}{c:ZL}
abbrev Hv(X:V)(p:Nat):ZD:=aai [(6,X),(64,.ref p)]
abbrev Ls:List S:=cA (cm Dr 1)
abbrev uv(F:Z)(R:List (Z0 O))(D:ZF):Z:=W F (U R [some (.ae D 0)])
abbrev o9(F:Z)(X T:V)(P D:ZF):Prop:=∀R,∃a,cS [65] Ls P ⟨Hv X (F.n+R.length),uv F R D⟩ .next ⟨Hv X (F.n+a.length),uv F a [T]⟩
def TF(l:List α):dU (U l [y]) l.length z=U l [z]:=by
 induction l with|nil=>rfl|cons u l S=>exact W0 (u::·) S
def tN:a3 (U R [z]) R.length=some z:=Gb
def Bv(L:D.length<900)(k:o9 F X T P (U D [.ay [ff E c,ff E c]])):o9 F X T (eE E c::P) D:=λR=>by
 have d:∀h,aY .inl 4 [g7 E c] h (.ay [ff E c,ff E c]) h:=λh=>cH rfl rfl (bG (cb (d8 (aI (a9 J rfl) (aq (a9 J rfl))))));have b:∀h,aY .inl 45 [eE E c] h (.bool true) h:=λh=>cH rfl rfl (bG (cb u));have a:=v8 (A:=[(6,X),(64,.ref (F.n+R.length)),(65,eE E c)]) (m:=4096) R.length rfl (J (a:=64) rfl) tN (fJ (m:=4104) (a9 (a:=67) (J (a:=65) (b:=eE E c) rfl) rfl) rfl rfl rfl rfl rfl du (d _)) (dW (by rw[c5];exact Xv L (WY rfl)))
 rw[TF] at a;exact(k R).imp λ_ f=>cW rfl (M (c1 (fJ J rfl rfl rfl rfl rfl du (b _)) rfl (M (de a rfl) ba)) ba) rfl f
def Jj(a:j2 b)(l:1+Wx b<900):mB .add false (.ay [x]) (.ay b) h=some (.ay (x::b),h):=a6 (a6 rfl (fN rfl (fN a (fN (jq (show Wx b+1<90000 by rw[Xa];exact Xv l (WY rfl))) rfl)))) rfl
def NL:(W F L).new H=W F (U L [some H]):=rk L (B:=[some H])
def Bw(c:j2 A)(oa:Q.length=A.length)(L:D.length+A.length<800)(k:o9 F X T P (U D [.ay (bX [69]::A)])):o9 F X T (fC r Q::P) (U D A):=λR=>by
 have b:∀h,aY .inl 37 [fC r Q] h (.bool false) h:=λh=>cH rfl rfl (bG (cb u));have g:d5 (.ref (F.n+R.length)) (uv F R (U D A))=some (U D A):=lX (cw _ tN);have i:D.length+1<900:=by lia
 have G:1+A.length<900:=by lia
 have O:=zl (A:=[(6,X),(64,.ref (F.n+R.length)),(65,fC r Q),(68,I D.length)]) (a:=.F 64) (b:=.F 68) J J g;have a:=zm (A:=[(6,X),(64,.ref (F.n+R.length)),(65,fC r Q),(68,I D.length)]) (a:=.F 64) (b:=.F 68) J J g;rw[Bm] at O;rw[C4] at a;have d:cF (.bY (.F 68) (.a7 .sub false (.bq false .len [(.F 64)]) (.bq false .len [(.aS (.F 65) 63)]))) ⟨[(6,X),(64,.ref (F.n+R.length)),(65,fC r Q)],uv F R (U D A)⟩ .next ⟨[(6,X),(64,.ref (F.n+R.length)),(65,fC r Q),(68,I D.length)],uv F R (U D A)⟩:=
  dk (A:=[(6,X),(64,.ref (F.n+R.length)),(65,fC r Q)]) (b:=I D.length) (cV (d:=I D.length) (x:=I (D.length+A.length)) (y:=I A.length) (d4 (aq J) (a6 rfl (a6 (px (cw _ tN)) (by show some (V.int (Int.ofNat (Wx (U D A))),_)=_;rw[iF,c5,c5])))) (d4 (aq (a9 (b:=.ae Q) J rfl)) (by rw[<-oa,<-c5];rfl)) ((md (X7 _ _)).trans (by rw[YV])))
 have K:=cI (a:=64) (sZ (c:=.add) (B:=true) O (fu (aq (cV (c:=.add) (B:=false) (d8 (aq (a9 (a:=23) (b:=bX [69]) (J (a:=65) (b:=fC r Q) rfl) rfl))) (d4 (a:=.tuple) (B:=false) (b:=.ay A) (aq a) rfl) (Jj c (by rw[c5];exact G))))) ((fN (jq (by rw[iF];exact Xv (by rw[c5];exact i) (WY rfl))) rfl)))
 rw[NL,D7] at K;exact(k (U R [some (.ae (U D A) 0)])).imp λ_ f=>cW rfl (M (xc (fJ J rfl rfl rfl rfl rfl du (b _)) rfl (M d (M K ba))) ba) rfl f
def Vp(t:aV):∀{P D:ZF},t.cq E->D.length+cx t<790->o9 F X T P (U D [fE E t])->o9 F X T (kY E t P) D:=by
 induction t with
 |a=>exactλ{P D} _ L k=>Bv (Xv (ot L) (WY rfl)) (Bw rfl rfl (Xv L (WY rfl)) k)
 |p i t S=>
  intro P D w L k;have p:=mj t;have L:D.length+(cx t+1)<790:=L;refine Bv (by lia) (S w.2.2 (by rw[dX];lia) ?_)
  rw[eL];exact Bw rfl rfl (by show D.length+2<800;lia) k
 |f i l r m Q=>
  intro P D w L k;have p:=mj l;have q:=mj r;have L:D.length+(cx l+1+cx r)<790:=L;refine m w.2.1 (by lia) (Bv (by rw[dX];lia) (Q w.2.2 (by rw[dX,dX];lia) ?_))
  rw[eL,eL];refine Bw (A:=[fE E l,.ay [ff E (some i),ff E (some i)],fE E r]) rfl rfl (by show D.length+3<800;lia) ?_
  have e:V.ay (bX [69]::[fE E l,.ay [ff E (some i),ff E (some i)],fE E r])=fE E (.f i l r):=by
   refine(?_:_=V.ay [bX [69],fE E l,.ay [dH E (E.bC i),dH E (E.bC i)],fE E r]);rw[vM w.1]
   rfl
  rw[e];exact k
def U7(w:t.cq E)(T:t.dN<=8)(L:cx t<=8):∃R,aY .inl 39 [d0 E t] F (fE E t) (W F R):=by have k:o9 F (d0 E t) (fE E t) (kY E t []) []:=Vp t w (W3 (W5 (Xu (W7 _)) L) (WY rfl)) λR=>⟨R,dq⟩;exact(k []).elim λR f=>⟨_,cH rfl rfl (M (cI (h7 du)) (M (da (c8 (c7 (aq J) (Sh T L)) rfl) rfl f rfl) (bG (cb (bw J u (zp (cw _ tN) rfl))))))⟩
end
def kX(O:Nat):V->Bool:=
 O.rec (λ_=>false) λ_ S v=>match v with
  |.none=>true
  |.bool _=>true
  |.int _=>true
  |.str _=>true
  |.ay l=>dR S l
  |.ae l=>dR S l
  |_=>false
def BZ{l:ZF}(h:dR g l):∀x∈l,g x:=by
 induction l with
 |nil=>exactλy m=>nomatch m
 |cons x l S=>
  have z:(match g x with|true=>dR g l|false=>false)=true:=h
  generalize B:g x=N;induction N with|false=>rw[B] at z;exact bb z|true=>rw[B] at z;exactλy m=>(Xm.mp m).elim (λe=>e▸B) (S z y)
def HR{l:ZF}(h:∀x∈l,g x x=some true):nE g l l=some true:=by
 induction l with|nil=>rfl|cons x l S=>exact a6 (h x (.head _)) (a6 (S λy m=>h y (.tail _ m)) rfl)
def HQ(f:Nat):∀{v:V},kX f v->gs f v v=some true:=by
 induction f with
 |zero=>exactλh=>bb h
 |succ f S=>exactλ{v} h=>match v,h with
  |.none,_=>rfl
  |.bool b,_=>W0 some ((by induction b<;>rfl))
  |.int i,_=>W0 some (pN.mpr rfl)
  |.str s,_=>W0 some (tq (.s s))
  |.ay l,h=>HR λx m=>S (BZ h x m)
  |.ae l,h=>a6 rfl (show(match Nat.beq (Wx l) (Wx l)with|true=>nE (gs f) l l|false=>some false)=_ by rw[Xn];exact HR λx m=>S (BZ h x m))
def WL(p:kX 20 (.ae l)):dy .eq (.ae l) (.ae l) h=some true:=a6 rfl (a6 rfl (HQ 20 p))
def FZ(p:kX 20 (.ae l)):dy .cC (.ae l) (.ae l) h=some false:=show Y (gs 20 (.ae l) (.ae l)) (λr=>some (!r))=_ from a6 (HQ 20 p) rfl
def R9(t:aV):∀{f:Nat},t.dN+2<=f->kX f (fE a t):=by
 have D:∀{n f},n+1+2<=f->∃g,f=g+3/\n+2<=g+2:=λ{n f} h=>(Nat.exists_eq_add_of_le h).elim λk e=>⟨n+k,e.trans (XJ n 3 k),Xl (Xd n k) 2⟩;induction t with|a=>exactλ{f} h=>(D h).elim λg z=>z.1▸rfl|p i t S=>exactλ{f} h=>(D h).elim λg z=>z.1▸(cf rfl (cf rfl (cf (S z.2) rfl)):dR (kX (g+2)) [bX [69],.ay [dH a (a.bC i),dH a (a.bC i)],fE a t]=true)|f i l r m Q=>exactλ{f} h=>(D h).elim λg z=>z.1▸(cf rfl (cf (m (W5 (Xl (YT _ _) 2) z.2)) (cf rfl (cf (Q (W5 (Xl (YQ _ _) 2) z.2)) rfl))):dR (kX (g+2)) [bX [69],fE a l,.ay [dH a (a.bC i),dH a (a.bC i)],fE a r]=true)
abbrev AS(E:C)(W:Nat->Nat->b')(l:List aV):ZF:=(l.filter (eG W)).map (fE E)
def SS(V:b.length=a.eD.length)(s:d1 a.aD G)(e:∀v,au (Wy A 69 v) 170=some (bN a b G d g f))(l:List aV):(∀t∈l,t.dN<=8/\t.cq a)->eV [69] (.call .inl 133 [.F 170,.F 69]) (some (.call .inl 132 [.F 170,.F 69])) A (ey l) h (AS a (br a b G) l) h:=by
 induction l with
 |nil=>exactλ_=>gF
 |cons t l S=>
  intro n;have k:=S λu m=>n u (.tail _ m);have w:=n t (.head _);have z:=Uo (X:=d) (g:=g) (T:=f) (h:=h) V s t (k:=0) (by rw[W7];exact W5 w.1 (WY rfl)) w.2
  have j:gv [.F 170,.F 69] ⟨Wy A 69 t.v,h⟩ [bN a b G d g f,t.v] h:=aI (J (e _)) (aq (J m2));have c:=c7 j z.1;unfold AS at k⊢;generalize i:eG (br a b G) t=N;induction N with|true=>rw[i] at c;rw[X8,i];exact Ab rfl c rfl (c7 j z.2) k|false=>rw[i] at c;rw[X8,i];exact Aa rfl c rfl k
def Rw(E:C)(L:Nat->Int)(K:ZE)(d:Int)(h:Z):aY .inl 91 [cv E L K d,pb] h (I 3) h:=ft 20 λn=>by induction E<;>kernel_rfl
def Rz(e:∀v,au (Wy A 9 v) 33=some (fH a b G d))(c:ZI):dp a c->eV [9] (.aC (.F 33) 57366 [.F 9]) none A (WB a c) h ((c0 c).map I) h:=by
 induction c with
 |nil=>exactλ_=>gF
 |cons o c S=>
  intro R;have n:aY .inl 91 [fH a b G d,ff a o] h (I (xC o)) h:=match o,R o (.head _)with
   |none,_=>Rw a _ _ _ h
   |some j,P=>u2 P
  exact fZ rfl (pB rfl rfl (e _) (J m2) n) (S λj m=>R j (.tail _ m))
def U6(I:ZI):eV [9] (.new 4 [.F 9,.F 9,.lit .none]) none A (WB a I) h (I.map (g7 a)) h:=by
 induction I with
 |nil=>exact gF
 |cons o I S=>
  have mk:aY .eg 4 [ff a o,ff a o,.none] h (g7 a o) h:=ft 9 λn=>by induction o<;>kernel_rfl
  exact fZ rfl (iC (aI (J m2) (aI (J m2) (aq u))) mk) S
section
variable{E:C}{X:ZK}{G:List dD}{T g P n t:Nat}{d:Int}{p:Bool}{N:ZI}{F h:Z}{A:ZD}{L R Q:bo O}{H:Prop}{r:Z0 aV}
abbrev Gv:List S:=cA (cm rb 13)
abbrev uq(E:C)(X:ZK)(G:List dD)(d:Int)(p:Bool):V:=gp E (fH E X G d) (fL E (br E X G) p)
abbrev pR(E:C)(X:ZK)(G:List dD)(T g P:Nat)(d:Int)(p:Bool)(a I t y v H b N:V):ZD:=[(159,a),(160,.ref 1),(170,bN E X G T g P),(181,I),(182,t),(152,y),(33,fH E X G d),(176,v),(13,H),(50,b),(74,uq E X G d p),(175,N)]
def CC:cg 60 (uq E X G d p):=have c:=CP E.dT ⟨[],rfl⟩ ⟨[],rfl⟩;CB c.1 c.2 lF
def MO(a:∀t,r=some t->t.dN<=8/\t.cq E/\cx t<=8)(d:au A 184=some (l8 E r))(b:au A 34=some (.ae ((rI r).map (fE E)))):∃cz,ao (.aw .cC (.ae false [(.ite (.aw .mW (.F 184) (.lit .none)) (.aC (.F 184) 57352 []) (.lit .none))]) (.ite (.aw .cC (.F 34) (.ae false [])) (.F 34) (.ae false [(.lit .none)]))) ⟨A,F⟩ (.bool false) (W F cz):=by
 induction r with
 |none=>exact⟨[],bF (fu (aq (jT (bF (J d) u rfl) rfl u))) (jT (bF (J b) (fu du) rfl) rfl (fu (aq u))) rfl⟩
 |some t=>
  have z:=a t rfl;have e:dy .mW (d0 E t) .none F=some true:=by induction t<;>rfl
  have ft:ku (d0 E t) F=some 9/\bM F (d0 E t) 8=none:=by induction t<;>exact⟨rfl,rfl⟩
  exact(U7 z.2.1 z.1 z.2.2).imp λcz c=>n7 (fu (aq (lH (bF (J d) u e) rfl (fJ (J d) ft.1 ft.2 rfl rfl rfl du c)))) (DU (n7 (J b) (fu du) rfl) rfl (J b)) (FZ (show dR (kX 19) [fE E t]=true from cf (R9 t (W5 (Xl z.1 2) (WY rfl))) rfl))
def Pz(b:au A 34=some (.ae ((rI r).map (fE E)))):ao (.aw .gt (.bq false .len [(.F 34)]) (.lit (.int 1))) ⟨A,h⟩ (.bool false) h:=by induction r<;>exact bF (d4 (aq (J b)) rfl) u rfl
def Wb(V:X.length=E.eD.length)(fl:d1 E.aD G)(O:dg L R Q (n+2) F)(k:∀l x a' B c' w,dg x a' B (c'+2) w->bE Gv ⟨U (pR E X G T g P d p a b c y f i q s) [(180,v)],F⟩ .next ⟨U (pR E X G T g P d p a b c y f i q s) ((180,v)::l),w⟩->H):H:=by
 refine Pm (E:=E) (X:=X) (G:=G) (T:=T) (g:=g) (S:=P) O λN L1 fv Q1 f' h S o j e2=>?_;have e1:aY .pure 131 [bN E X G T g P,.ae (WB E N)] h (.ae (ey (i9 E N))) h:=Pk V o j;have A:∀t∈i9 E N,t.dN<=8/\t.cq E:=λt m=>have z:=uI _ m;⟨W5 z.1 j,z.2⟩;have fs:(i9 E N).length<90000:=Xv (r8 (a:=0) j) (WY rfl);have dv:Wx (WB E N)<90000:=by exact Ff▸W3 j (WY rfl)
 have u:=SS (A:=U (pR E X G T g P d p a b c y f i q s) [(180,v),(157,.ae (WB E N)),(183,.ae (ey (i9 E N)))]) (h:=h) V fl (λ_=>rfl) (i9 E N) A;unfold AS at u;rw[SQ] at u;have D:∀t,WC E (br E X G) N none []=some t->t.dN<=8/\t.cq E/\cx t<=8:=λt e=>have m:=(AZ e).1;⟨(A t m).1,(A t m).2,(yi _ m).1▸j⟩;have C:aY .pure 85 [uq E X G d p,.ae (N.map (g7 E))] h (l8 E (WC E (br E X G) N none [])) h:=R4 o j CC (KN j);have cK:aY .pure 123 [fH E X G d,.ae ((c0 N).map I)] h (I (i9 E N).length) h:=Lq o j;generalize WC E (br E X G) N none []=r at u D C;refine(MO (F:=h) (A:=U (pR E X G T g P d p a b c y f i q s) [(180,v),(157,.ae (WB E N)),(183,.ae (ey (i9 E N))),(34,.ae ((rI r).map (fE E))),(184,l8 E r)]) D rfl rfl).elim λcz fi=>?_;refine wQ (V:=cz) S λK Z Y fp W=>k [(157,.ae (WB E N)),(183,.ae (ey (i9 E N))),(34,.ae ((rI r).map (fE E))),(184,l8 E r)] K Z Y fp _ W ?_;refine M (cI (c7 (aI J (aq J)) e2)) (M (cI (c7 (aI J (aq J)) e1)) (M (cI (h5 (c8 J rfl) (jq (by refine rp▸?_;exact fs)) rfl u rfl)) ?_))
 refine M (cX (fX (jO (Pz rfl) rfl (h4 (bF (c7 (aI J (aq (h5 (c8 J rfl) (jq dv) rfl (Rz (λ_=>rfl) N o) rfl))) cK) (d4 (aq (J rfl)) (W0 (λn=>some (I n,h)) (rp))) (show some (!(Nat.beq _ _))=_ by rw[Xn];rfl))))) rfl) ?_
 exact M (cI (c7 (aI J (aq (h5 (c8 J rfl) (jq dv) rfl (U6 N) rfl))) C)) (M (jW fi rfl ba) ba)
def Wc(o:X.length=E.eD.length)(k:d1 E.aD G)(D:ZF):∀{L R Q:bo O}{n:Nat}{F:Z},dg L R Q (n+2) F->∃a,cS [180] Gv D ⟨pR E X G T g P d p b c e y i m q s,F⟩ .next ⟨pR E X G T g P d p b c e y i m q s,a⟩:=by
 induction D with|nil=>exactλ{_ _ _ _ F} _=>⟨F,dq⟩|cons v D S=>exactλ{_ _ _ _ F} h=>Wb o k h λl w t r A a j x=>(S j).imp λ_ f=>cW rfl x rfl f
end
def R6(l:ZM):∃a:ZM,eV [158] (.a7 .add false (.a7 .mul false (.lit (.int 2)) (.bq false .abs [(.bq false .int [(.F 158)])])) (.bq false .int [(.aw .lt (.F 158) (.lit (.int 0)))])) none A (l.map V.int) h (a.map .int) h:=by
 induction l with|nil=>exact⟨[],gF⟩|cons i l S=>exact S.elim λa k=>⟨_::a,fZ rfl (cV (cV u (d4 (aq (d4 (aq (J m2)) rfl)) rfl) rfl) (d4 (aq (bF (J m2) u rfl)) rfl) rfl) k⟩
def UW{l:List α}:∀{n:Nat},l.length<=n->mg l n=l:=by
 induction l with
 |nil=>exactλ{n} _=>by induction n<;>rfl
 |cons x l S=>
  intro n h;induction n with|zero=>exact absurd h (Zb _)|succ n=>exact W0 (x::·) (S (Y0 h))
def R5{l:ZM}(f:l.length<=63):∃a,aY .inl 124 [.hy (l.map V.int)] Z.bj (.ref 1) a/\dg .nil .nil .nil 2 a:=
 (R6 l).elim λI k=>by
  have A:ao (.gn false (.F 159) none (some (.lit (.int 63)))) ⟨[(159,.hy (l.map V.int))],Z.bj⟩ (.ae (mg (l.map V.int) 63)) Z.bj:=.step (.Y J (.cp rfl (.Y u (.cp (c':=l.map V.int) rfl (.val rfl)))));rw[UW (by rw[Xs];exact f)] at A
  have e:(Z.bj.new (.ae (I.map V.int) 0)).new (.ae [.ref 0,.int 0,.int 0] 0)=eR I 0 0 .nil .nil .nil 2:=by kernel_rfl
  exact⟨_,cH rfl rfl (bG (cb (h7 (a:=[.ref 0,.int 0,.int 0]) (n8 (L0 (c8 A rfl) (jq (by rw[c9,c5];exact W3 f (WY rfl))) rfl k rfl) (aI u (aq u)))))),by rw[e];exact .mk I 0 0⟩
section
variable{E:C}{O:ZK}{G:List dD}{X g T i:Nat}{h:Z}{A:ZD}
def nY(E:C)(W:Nat->Nat->b')(i:Nat):Nat:=((aB 0 E.k).filter λj=>hI (oh (W i j)) true).length
def Rp(V:O.length=E.eD.length)(s:d1 E.aD G)(d:i<E.R)(e:∀v,au (Wy A 166 v) 170=some (bN E O G X g T)/\au (Wy A 166 v) 24=some (e6 E O i))(a:ZK):(∀B∈a,B<E.aD)->
  eV [166] (.F 166) (some (.aw .eq (.call .pure 129 [(.F 170),(.F 24),(.F 166)]) (.lit (.str Z5)))) A (a.map (dH E)) h ((a.filter λB=>hI (oh (br E O G i B)) true).map (dH E)) h:=by
 induction a with
 |nil=>exactλ_=>gF
 |cons B a S=>
  intro P;have k:=S λx m=>P x (.tail _ m);have c:ao (.aw .eq (.call .pure 129 [(.F 170),(.F 24),(.F 166)]) (.lit (.str Z5))) ⟨Wy A 166 (dH E B),h⟩ (.bool (hI (oh (br E O G i B)) true)) h:=
   bF (c7 (aI (J (e _).1) (aI (J (e _).2) (aq (J m2)))) (BI V s d (P B (.head _)))) u (by cases br E O G i B<;>rfl)
  refine X8▸?_;generalize b:hI (oh (br E O G i B)) true=N;induction N with|true=>rw[b] at c;exact Ab rfl c rfl (J m2) k|false=>rw[b] at c;exact Aa rfl c rfl k
def TU:eC E.hU:=by induction E<;>rfl
def Qt(c:O.length=E.eD.length)(s:d1 E.aD G)(e:∀L v,au (Wy (Wy A 24 L) 166 v) 170=some (bN E O G X g T)/\au (Wy (Wy A 24 L) 166 v) 24=some L)(f:∀L,au (Wy A 24 L) 170=some (bN E O G X g T))(b:ZK):(∀i∈b,i<E.R)->
  eV [24] (.bq false .len [(.comp false (.F 166) [166] (.e (.sub (.F 170) (.lit (.int 0)))) (some (.aw .eq (.call .pure 129 [(.F 170),(.F 24),(.F 166)]) (.lit (.str Z5)))))]) none A (b.map (e6 E O)) h (b.map λi=>I (nY E (br E O G) i)) h:=by
 induction b with
 |nil=>exactλ_=>gF
 |cons i b S=>
  intro a;have P:=Rp (h:=h) c s (a i (.head _)) (e _) (aB 0 E.k) λB m=>(W4 (by have z:=(g8 _ m).2;rw[W7] at z;exact z) (jv E).1)
  rw[<-A8] at P;exact fZ rfl (d4 (aq (h5 (c8 (bw (J (f _)) u rfl) rfl) TU rfl P rfl)) (by show some (V.int (Int.ofNat (Wx _)),_)=_;rw[c9,c5];rfl)) (S λx m=>a x (.tail _ m))
def Uu(b:ZK):∀{a:Nat},rX (b.map λi=>I (f i)) (.ofNat a)=some (.ofNat (a+cL (b.map f))):=by
 induction b with|nil=>exact rfl|cons i b S=>exactλ{a}=>(S).trans (W0 (λn=>some (Int.ofNat n)) (W9 ..))
def Tw(b:ZK):(f7 E a true (WD E b)).length=cL (b.map (nY E a)):=by
 induction b with
 |nil=>rfl
 |cons i b S=>
  refine(?_:(f7 E a true (U (j8 i (aB 0 E.k)) (WD E b))).length=nY E a i+cL (b.map (nY E a)));rw[qm,cQ,W8,S];unfold f7 j8 nY;rw[Xs,List.filter_map,Xs]
  rfl
def UM:(gc E a true).length=cL ((aB 0 E.R).map (nY E a)):=by rw[<-Tw,(qT E).2.2.2.2,qm,cQ,W8];refine(?_:(f7 E a true (U (WD E (aB E.k (E.R-E.k))) (WD E (aB 0 E.k)))).length=_);rw[qm,cQ,W8,Xa]
def Ag(m:V)(q:Nat)(O:ZK):ZE->ZE:=
 O.rec (λd=>d) λr _ S d=>S (cU d (.t [.ofNat q,.ofNat r]) m)
def FU(m:V)(O:List d2):ZE->ZE:=
 O.rec (λd=>d) λs _ S d=>S (Ag m s.q s.i3 d)
def Ah(O:List d2):Nat:=aai (O.rec 0 λs _ S=>s.i3.length+S)
def Af(E:C):FU (I (eO E)) E.dT []=ih E/\gW (ct 11 Z.bj) (ih E)=some (ih E)/\Ah E.dT<900:=by induction E<;>exact⟨rfl,rfl,WY rfl⟩
abbrev EY:List S:=cA (cm rb 8)
abbrev OY:List S:=cA (EY.headD .eF)
abbrev v3(T a t y v H X N:V)(m p:Nat):ZD:=aai [(159,T),(160,a),(170,t),(181,y),(182,v),(152,H),(33,X),(176,N),(13,I m),(50,.ref p)]
section
variable{S R t y v H Q N:V}{m:Nat}{s:d2}
def QO(b:ZK):∀{d:ZE},Wx d+b.length<900->cS [22] OY (b.map I) ⟨U (v3 S R t y v H Q N m a.n) [(127,s.v)],W a [some (.ah .T d 0)]⟩ .next ⟨U (v3 S R t y v H Q N m a.n) [(127,s.v)],W a [some (.ah .T (Ag (I m) s.q b d) 0)]⟩/\Wx (Ag (I m) s.q b d)<=Wx d+b.length:=by
 induction b with|nil=>exactλ_=>⟨dq,Xe _⟩|cons r b c=>intro d f;have f:=f;have z:=c (d:=cU d (.t [.ofNat s.q,.ofNat r]) (I m)) (uN f pW);exact⟨cW rfl (M (D4 J J (d8 (aI (a9 J rfl) (aq J))) (tB 0 rfl rfl (dW (Xv (ot f) (WY rfl))))) ba) rfl z.1,W5 z.2 (by rw[Xx,Xa b.length,<-W9];exact Xl pW _)⟩
def QP(g:List d2):∀{d:ZE},Wx d+Ah g<900->cS [127] EY (g.map d2.v) ⟨v3 S R t y v H Q N m a.n,W a [some (.ah .T d 0)]⟩ .next ⟨v3 S R t y v H Q N m a.n,W a [some (.ah .T (FU (I m) g d) 0)]⟩:=by
 induction g with|nil=>exactλ_=>dq|cons s g b=>intro d f;have f:Wx d+(s.i3.length+Ah g)<900:=f;rw[<-W9] at f;have z:=QO (a:=a) (S:=S) (R:=R) (t:=t) (y:=y) (v:=v) (H:=H) (Q:=Q) (N:=N) (m:=m) (s:=s) s.i3 (ot f);exact cW rfl (M (da (c8 (a9 J rfl) rfl) rfl z.1 rfl) ba) rfl (b (W3 (Xl z.2 _) f))
end
def Qx(E:C)(L:Nat->Int)(K:ZE)(d:Int)(O:ZK)(G:List dD)(X g T:Nat)(h:Z)(a b y v H N:V):ao (match cm rb 6 with|.bY _ e=>e|_=>.lit .none) ⟨[(159,a),(160,b),(170,bN E O G X g T),(181,y),(182,v),(152,H),(33,cv E L K d),(176,N)],h⟩ (I (eO E)) h:=eM 40 λn=>by induction E<;>kernel_rfl
end
def PI(l:List b8):tw (l.map b8.jS)=some l.length:=by
 induction l with|nil=>rfl|cons x l S=>exact a6 S rfl
def Nz(E:C)(L:Nat->Int)(K:ZE)(d:Int):bM Z.bj (cv E L K d) 113=some (.int d):=by induction E<;>rfl
def S7(l:List ZM):kX 20 (.ae (l.map λr=>.ae (r.map .int))):=show dR (kX 19) (l.map λr=>V.ae (r.map .int))=true from jM λr=>show dR (kX 18) (r.map V.int)=true from jM λ_=>rfl
def M4(e:h.get p=some (.ah k a 0))(g:gW (ct 11 Z.bj) a=some a):sV (.ref p) h=some (.ah k a,h.a5 p none):=by
 refine(?_:(match h.get p with|some (O.ae a 0)=>Y (f3 (ct 11 Z.bj) a) λl=>some (V.ae l,h.ho p)|some (O.ah k T 0)=>Y (gW (ct 11 Z.bj) T) λl=>some (V.ah k l,h.ho p)|_=>none)=_)
 exact e▸a6 g rfl
def PH(e:(gc a (br a b G) true).length=r)(D:m<3):we (uq a b G (.ofNat (r+m)) short)=some (.bool (Nat.beq m 0)):=by
 have i:=e▸ug (qT a).2.1;have p:Wx ((gc a (br a b G) true).map b8.jS)=r:=by rw[c9,c5,e]
 have S:=PI (gc a (br a b G) true);rw[e] at S;have c:Nat.beq r (r+m)=Nat.beq m 0:=by
  induction m with|zero=>exact Xn r|succ m=>exact ee (Xi (Xq (Xk m)))
 refine a6 rfl (a6 ?_ (a6 (a:=r+m) ?_ (a6 S ?_)))
 .rw[<-(A4).2];rfl
 .rw[Nz];rfl
 .rw[p,Xn,c]
  refine fN rfl (fN (dF (Xv i (WY rfl))) (fN (dF (by lia)) ?_))
  generalize Nat.beq m 0=N;induction N with|false=>rfl|true=>exact a6 rfl (fN (by rw[WL (S7 _)];rfl) rfl)
def Ha(e:au A 74=some T)(g:bM h T n=some (.ae ((gc a (br a c G) b).map b8.jS))):
  ao (.bq false .sorted [(.comp false (.aC (.F 127) 57352 []) [127] (.e (.aS (.F 74) n)) none)]) ⟨A,h⟩ (.ae ((gc a (br a c G) b).map b8.v)) h:=
 d4 (aq (h5 (c8 (a9 (J e) g) rfl) (jq (by rw[c9,c5];exact Xv (ug (qT a).2.1) (WY rfl))) rfl (U8 _) rfl)) (a6 rfl (a6 rfl Ue))
def F0{l:List b8}:dy .cC (.ae (l.map b8.v)) (.ae (l.map b8.v)) h=some false:=FZ (jM λ_=>rfl:dR (kX 19) _=true)
abbrev E8(T W I t:V):ZD:=aai [(159,T),(160,.ref 1),(170,W),(181,I),(182,t)]
def Pj(j:d.length=a.eD.length)(s:d1 a.aD G)(D:m<3)(P:dg L R Q (k+2) h):∃l p,bE (rb.body.drop 3) ⟨E8 T (bN a d G e g f) (.bool b) (I m),h⟩ (.ret (.bool true)) ⟨l,p⟩:=by
 have B:=Qt (A:=E8 T (bN a d G e g f) (.bool b) (I m)) (h:=h) j s (λ_ _=>⟨rfl,rfl⟩) (λ_=>rfl) (aB 0 a.R) λi z=>by have y:=(g8 _ z).2;rw[W7] at y;exact y
 rw[<-ni j] at B;have o:=UM (E:=a) (a:=br a d G);have n:=Uu (f:=nY a (br a d G)) (aB 0 a.R) (a:=0);rw[W7] at n;generalize cL ((aB 0 a.R).map (nY a (br a d G)))=r at o n;have A:Wx (qj a d)<90000:=by rw[ni j];exact(by rw[c9,c5,oR];exact W3 (jv a).2.2.1 (WY rfl))
 have w:aY .pure 120 [fH a d G (.ofNat (r+m))] h (hv a (fH a d G (.ofNat (r+m)))) h:=Cn (cf lF rfl) rfl rfl rfl (Kb a _ _ _) (yQ lF);have F:(W h [some (.ah .T (ih a) 0)]).a5 h.n none=W h [none]:=gT (a:=h) (i:=0) _ rfl;have q:=λ{E H K N O X S:V}=>QP (a:=h) (S:=T) (R:=E) (t:=H) (y:=K) (v:=N) (H:=O) (Q:=X) (N:=S) (m:=eO a) a.dT (d:=[]) (W3 (Xu (W7 _)) (Af a).2.2);rw[(Af a).1] at q;refine wQ (V:=[none]) P λU Z Y a' t=>?_;have C:aY .pure 135 [uq a d G (.ofNat (r+m)) b] (W h [none]) (.bool (Nat.beq m 0)) (W h [none]):=Kf (cf CC rfl) (PH o D);have v:∀c:Bool,dy .cC (.bool c) (.bool c) (W h [none])=some false:=λc=>by induction c<;>rfl
 refine(Wc (b:=T) (c:=.bool b) (e:=I m) (y:=I r) (i:=hv a (fH a d G (.ofNat (r+m)))) (m:=I (eO a)) (q:=.ref h.n) (s:=.ae [.ae ((gc a (br a d G) false).map b8.v),.ae ((gc a (br a d G) true).map b8.v)]) (d:=.ofNat (r+m)) (p:=b) (T:=e) (g:=g) (P:=f) j s (i2 0 3) t).elim λx sO=>?_;exact⟨pR a d G e g f (.ofNat (r+m)) b T (.bool b) (I m) (I r) (hv a (fH a d G (.ofNat (r+m)))) (I (eO a)) (.ref h.n) (.ae [.ae ((gc a (br a d G) false).map b8.v),.ae ((gc a (br a d G) true).map b8.v)]),x,M (dk (d4 (aq (h5 (c8 (bw J u rfl) rfl) (jq A) rfl B rfl)) (a6 rfl (a6 rfl (a6 n rfl))))) (M (dk (c7 (aI J (aq (cV J J rfl))) (Ph j s))) (M (dk (c7 (aq J) w)) (M (dk (Qx a _ _ _ d G e g f h ..)) (M (cI (mH oD)) (M (da (c8 (a9 J rfl) rfl) rfl q rfl) (M (cI (c7 (aI J (n8 (mI J ((M4 (h:=W h [some (.ah .T (ih a) 0)]) (p:=h.n) (cw (a:=h) (i:=0) _ rfl) (Af a).2.1).trans (W0 (λh=>some (V.ah .T (ih a),h)) F))) (aq J))) Pg)) (M (dk (c7 (aI J (aI J (aq J))) (Pd j s))) (M (cX (fX (jO (bF (Ha rfl ((rfl:_=some (V.ae (fL a (br a d G) b).fP)).trans (by rw[A4.1]))) (bw J u rfl) F0) rfl (h4 (bF (c7 (aq J) C) (bF J u rfl) (v _))))) rfl) (M (cX (bF (Ha rfl ((rfl:_=some (V.ae (fL a (br a d G) b).eA)).trans (by rw[A4.2]))) (bw J u rfl) F0) rfl) (M (da (kI u rfl) rfl sO rfl) (bG (cb u))))))))))))⟩
def Pe{l:ZM}(f:l.length<=63):∃a,aY .inl 136 [.hy (l.map V.int)] Z.bj (.bool true) a:=
 (R5 f).elim λP z=>Wi z.2 λE O G k h K L R Q n N b s q p=>sE q (WY rfl) λd t T I r=>sE I (WY rfl) λm e D c w=>(Pj b s D c).elim λg y=>y.elim λx y=>⟨x,cH rfl rfl (M (cI (c7 (aq J) z.1)) (M (cI (c7 (aq J) p)) (M (GW (d8 (n8 (n7 (c7 (aI J (aq u)) r) u rfl) (aq (c7 (aI J (aq u)) w)))) rfl) y)))⟩
def Pa:uG:=λ_ f=>(Pe f).elim λS z=>z.elim λk z=>⟨k,S,by have y:=z 1;rw[Xa] at y;exact y⟩
end Mine.Internal
theorem PySem.Challenge.cw_nn0422_01_holds : PySem.Challenge.rw_nn0422_01.Holds :=
 Mine.Internal.j0 Mine.Internal.Pa
end
