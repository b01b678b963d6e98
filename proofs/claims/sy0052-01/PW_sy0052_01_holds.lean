import PyProof.Rows.All
import Wide.All
import OpenK.AllK
import Lean
import PySem.Challenge.RW_sy0052_01
set_option genSizeOf false
set_option genInjectivity false
set_option genCtorIdx false
set_option linter.all false
set_option bootstrap.genMatcherCode false
set_option Elab.async false
set_option backward.match.sparseCases false
set_option tactic.hygienic false
set_option maxRecDepth 1000000
set_option maxHeartbeats 0
open PySem PySem.Calls PyProof.Rows PySem.W
namespace Mine.Internal
noncomputable section
def cY:=@Bool.and_eq_true_iff
def w9:=@Nat.ble_eq_true_of_le
def bE:=@Nat.le_of_ble_eq_true
def hy:=@Nat.not_lt_zero
def dE:=@Nat.lt_or_ge
def ce:=@Nat.le_antisymm
def eX:=@Nat.le_of_lt_succ
def vz:=@Option.isSome_iff_exists
def kW:=@Option.map_eq_some_iff
def az:=@congrArg
def be:=@List.append_nil
def md:=@Nat.le_of_not_lt
def ik:=@decide_eq_true
def jf:=@Int.ofNat_lt
def fC:=@PySem.W.look_both
def pV:=@List.getElem?_cons_zero
def pr:=@Option.some.injEq
def fq:=@List.mem_append_left
def gu:=@List.mem_append_right
def d0:=@List.mem_append
def b9:=@List.mem_singleton
def bC:=@List.mem_cons
def vP:=@List.not_mem_nil
def e7:=@PySem.Value.type.inj
def dO:=@List.getElem?_append_left
def cc:=@List.getElem?_eq_some_iff
def aQ:=@Option.some.inj
def qe:=@Nat.ne_of_beq_eq_false
def cd:=@Nat.eq_of_beq_eq_true
def bN:=@if_neg
def gs:=@Ne.symm
def ja:=@List.lookup_cons
def aL:=@PySem.wpAny_pure
def as:=@Nat.le_trans
def l7:=@Nat.add_le_add_right
def zH:=@Nat.sub_le_iff_le_add
def ba:=@Nat.le_refl
def kD:=@List.cons_append
def bq:=@List.append_assoc
def iM:=@List.nodup_append
def ef:=@List.length_set
def pn:=@List.getElem?_set_self
def nP:=@List.getElem?_set_ne
def a0:=@List.length_append
def dr:=@List.getElem?_append_right
def er:=@Nat.sub_self
def bX:=@PySem.wpAny_mono
def wx:=@PySem.wpAny_truthy_bool
def aX:=@PySem.wpAny_bind
def dM:=@PySem.wpAny_standAt
def c9:=@PySem.wpAny_holding
def gN:=@Bool.eq_iff_iff
def gV:=@decide_eq_true_iff
def jh:=@Nat.blt_eq
def tz:=@Int.lt_of_lt_of_le
def oF:=@Int.negSucc_lt_zero
def gz:=@Int.natCast_nonneg
def jV:=@decide_eq_false
def k':=@Int.lt_trans
def iR:=@Int.not_lt
def cB:=@Nat.lt_of_lt_of_le
def fj:=@Nat.lt_of_le_of_lt
def q9:=@Nat.not_lt
def fD:=@Nat.succ_le_succ
def fP:=@Bool.and_eq_true
def b4:=@PySem.Heap.get?_push_of_some
def dP:=@PySem.Heap.get?_push_size
def eo:=@List.nodup_cons
def jR:=@List.nodup_nil
def q5:=@List.length_eq_zero_iff
def qF:=@Int.le_trans
def l6:=@PySem.call_meets
def j8:=@Bool.false_ne_true
def dg:=@List.size_toArray
def qE:=@Bool.or_eq_true_iff
def kr:=@LawfulBEq.eq_of_beq
def hA:=@List.length_nil
def cy:=@beq_iff_eq
def cv:=@List.length_cons
def tQ:=@beq_self_eq_true
def eg:=@Nat.beq_refl
def dA:=@List.getElem?_eq_getElem
def ma:=@List.length_take
def b0:=@List.length_drop
def a4:=@Nat.le_of_eq
def fc:=@List.drop_drop
def bx:=@Nat.sub_add_cancel
def gt:=@Nat.le_of_lt
def bK:=@Nat.le_add_right
def cF:=@Nat.add_comm
def bJ:=@Nat.zero_le
def iV:=@List.drop_zero
def fL:=@List.length_reverse
def nR:=@List.take_of_length_le
def eT:=@Nat.zero_add
def gj:=@Nat.sub_le
def lg:=@Bool.false_eq_true
def jI:=@if_false
def t5:=@List.findIdx?_toArray
def su:=@Bool.and_false
def kF:=@PySem.Heap.SameBut.update
def jr:=@PySem.Heap.get?_update_self
def rq:=@beq_eq_false_iff_ne
def pk:=@PySem.Heap.get?_update_other
def bZ:=@if_pos
def hD:=@Nat.succ.inj
def lQ:=@Nat.succ_pos
def tp:=@Int.add_comm
def qJ:=@Int.ofNat_le
def uS:=@Nat.sub_eq_zero_of_le
def tE:=@Int.le_of_lt
def sh:=@List.getElem?_toArray
def sJ:=@of_decide_eq_true
def rY:=@List.contains_cons
def qN:=@Bool.or_true
def qT:=@PySem.W.looks_findIn
def jj:=@Nat.le_succ_of_le
def qj:=@PySem.wpAny_alloc
def pT:=@List.set_append_right
def qW:=@PySem.wpAny_bindName
def oy:=@Nat.le_of_succ_le
def hE:=@List.map_cons
def xo:=@Bool.or_eq_false_iff
def rT:=@List.eq_nil_of_length_eq_zero
def nK:=@List.reverse_cons
def uT:=@PySem.wpAny_newObj_type
def oq:=@PySem.wpAny_field
def pa:=@PySem.codeAny_of_tree
def fF:=@PySem.codeAny_mono
def kL:=@PySem.W.Looks.ld
def hY:=@List.forIn_cons
def jC:=@List.forIn_nil
def B5:=@decide_eq_false_iff_not
def rv:=@PySem.Heap.size_push
def pH:=@Nat.succ_ne_self
def q0:=@PySem.wpAny_loadPart_at
def xj:=@PySem.wpAny_isSubtype_exc
def kh:=@PySem.typeIs_str
def km:=@Nat.not_succ_le_zero
def bT:=@Nat.le_add_left
def n9:=@Nat.lt_irrefl
def uL:=@List.getElem?_drop
def pS:=@List.length_map
def qu:=@Nat.not_lt_of_le
def nN:=@Nat.mod_lt
def o0:=@Nat.lt_succ_self
def sH:=@List.pairwise_cons
def qn:=@List.zip_cons_cons
def r8:=@Nat.min_eq_left
def n7:=@List.take_append_drop
def ew:=@Nat.add_sub_cancel_left
def cz:=@Nat.add_assoc
def s2:=@List.take_left
def tO:=@List.drop_left
def ls:=@Iff.rfl
def nO:=@exists_congr
def sN:=@List.mem_of_getElem?
def eQ:=@List.getElem?_eq_none
def kT:=@Nat.add_sub_cancel'
def iC:=@Nat.le_of_succ_le_succ
def AF:=@List.take_append_of_le_length
def hO:=@Nat.add_le_add_left
def r6:=@List.reverse_append
def o7:=@Nat.ne_of_lt
def gB:=@Nat.mul_succ
def hK:=@Nat.mul_le_mul_left
def se:=@Nat.lt_of_succ_lt
def oJ:=@Int.zero_add
def l5:=@List.ext_getElem?
def n1:=@Nat.lt_trans
def rr:=@Nat.add_right_comm
def dV:=@List.cons.inj
def zx:=@List.length_singleton
noncomputable def Ef:{p:Program//PySem.Challenge.pw_sy0052_01=p}:=by refine⟨?p,?h⟩;case h=>conv=>lhs;reduce
noncomputable def eu:Program:=Ef.1
def QP:PySem.Challenge.pw_sy0052_01=eu:=Ef.2
noncomputable def cp:PySem.W.OpenLaw:={prog:=eu,name:=⟨#[108,97,119]⟩,about:=[⟨#[83,116,114,101,97,109]⟩,⟨#[102,101,101,100]⟩],foot:=12,most:=some 63,bound:=none,writes:=false}
def Qw:PySem.Challenge.rw_sy0052_01=cp:=by show PySem.W.OpenLaw.mk _ _ _ _ _ _ _=PySem.W.OpenLaw.mk _ _ _ _ _ _ _;rw[QP];rfl
def v1:Env:={scope:=eu.main.scope,locals:=mainNs,globals:=mainNs,cells:=[],code:=.ref 13,frame:=some 14}
abbrev xw:List Stmt:=behindTheImports eu
abbrev jB:Code:=.body xw v1
noncomputable def pz:Pos:=⟨0,0,0,0⟩
def S0(w:World)(os:OsState):Shared:=⟨boot_heap w.params,Array.mk [],boot_drawn,boot_toks,os⟩
def Cn(w:World)(os:OsState):Option (Shared×Thread):=topGo treeTable eu w 11 (some<|.ref 6) 12 (S0 w os)<|topStub eu
def ln(w:World)(os:OsState):Shared:=match Cn w os with|some r=>r.1|none=>S0 w os
def Mq(w)(os):Cn w os=some (ln w os,⟨denote treeTable jB,jB,pz,[topFrame pz]⟩):=by kernel_rfl
noncomputable def zU:List Obj->Nat->BT->BT|[],_,t=>t|o::l,i,t=>zU l (i+1)<|t.ins i o
def Ew(w:World)(os:OsState):SharedT:=⟨zU (ln w os).heap.objs.toList 0 .nil,15,(ln w os).heap.life,#[],(ln w os).drawn,(ln w os).toks,os⟩
def Ol(w)(os):(Ew w os).abs=ln w os:=by kernel_rfl
noncomputable def q4:Pos:=⟨964,0,974,53⟩
def nr(w:World)(os:OsState):Option (Flow×SharedT×Code×Pos):=Fast.tw10110043849684766642 Fast.tw14364793385576792824 eu w 11 (some<|.ref 6) 1 7600 (Ew w os)<|piecesOf xw v1 jB pz [topFrame pz]
noncomputable def C4:List Stmt->List Stmt|[]=>[]|s::r=>match r with|[]=>[s]|_::_=>C4 r
def lm:Program:={eu with main:={eu.main with body:=C4 eu.main.body}}
def tj:List Str:=eu.boundNames.filter λn=>!(n==cp.name)
abbrev eH:OpenRow:=cp.row
def F9:(defOf lm eH.name).isSome=true:=by kernel_rfl
def QW:(chainsOk lm&&opensWell eH.prog&&(frees eH.toRowW&&eH.within.isEmpty))=true:=by kernel_rfl
def Bg:eH.wellSaid=true:=by kernel_rfl
def Q3:(!eH.writes||eH.records.isEmpty)=true:=by kernel_rfl
def Nm:opening eu=plainProg eu.main.scope.names:=by kernel_rfl
def Ml:∀s,fenceModules? eu s=some s:=by intro s;kernel_rfl
def za:importedModules eu.main.body=[]:=by kernel_rfl
noncomputable abbrev C6(w:World)(os:OsState)(s:Shared):=(openSeen lm tj [] (λ_=>true) true s,staticsOk [] (S0 w os).heap s.heap&&(namesBound eu s.heap&&(gensDone s&&laidKept (S0 w os).heap s.heap)))
def QT(w:World)(os:OsState):(nr w os).map (λr=>(r.1,r.2.2.1,r.2.2.2,r.2.1.n,C6 w os r.2.1.abs))=some (.next,jB,q4,1153,openGood lm tj,true):=by kernel_rfl
set_option genCtorIdx true in
inductive ey where|len|ord|chr|max|sorted|int|str|tuple|range|exception
inductive V where|none|bool (b:Bool)|int (i:Int)|str (x:List Nat)|tup (l:List V)|ref (i:Nat)|fn (z:Addr)|blt (b:ey)|bm (z:Addr) (i:Nat)|an (lo j:Int)|bY (e:Expr) (sc:Scope) (cl:List (Str×Nat))
inductive au where|list (l:List V)|inst (E:Addr) (f:List (Str×V))|exc (E:Addr) (dj:Option Nat) (ctx:Option Nat)|dict (es:List (Str×V))|cell (v:Option V)
abbrev aq:=List au
abbrev Loc:=List<|Str×V
noncomputable def lim:Nat:=1048576
noncomputable def ar:List Nat->List Nat->Bool
 |[],[]=>true|a::l,b::k=>match Nat.beq a b with|true=>ar l k|false=>false
 |[],_::_=>false|_::_,[]=>false
noncomputable def sq(a b:Str):Bool:=ar a.cps.toList b.cps.toList
noncomputable def aC{f:Type}(x:Str):List (Str×f)->Option f|[]=>none|(k,v)::r=>match sq k x with|true=>some v|false=>aC x r
noncomputable def put{f:Type}(x:Str)(v:f):List (Str×f)->List (Str×f)|[]=>[(x,v)]|(k,u)::r=>match sq k x with|true=>(k,v)::r|false=>(k,u)::put x v r
noncomputable def ke{f:Type}(x:Str):List (Str×f)->List (Str×f)|[]=>[]|(k,u)::r=>match sq k x with|true=>ke x r|false=>(k,u)::ke x r
noncomputable def bi{f:Type}(a:Addr):List (Addr×f)->Option f|[]=>none|(k,v)::r=>match Nat.beq k a with|true=>some v|false=>bi a r
noncomputable def dX(x:Str):List Str->Bool|[]=>false|k::r=>match sq k x with|true=>true|false=>dX x r
noncomputable def aB{h:Sort _}(b:Bool)(x y:h):h:=match b with|true=>x|false=>y
noncomputable def pre:List Nat->List Nat->Bool|[],_=>true|_::_,[]=>false|a::y,b::x=>match Nat.beq a b with|true=>pre y x|false=>false
noncomputable def br(y:List Nat):List Nat->Option Nat
 |[]=>match y with|[]=>some 0|_=>none
 |a::r=>match pre y (a::r)with|true=>some 0|false=>(br y r).map (·+1)
noncomputable def bg(y:List Nat):List Nat->Nat->List Nat->List (List Nat)
 |[],_,U=>[U.reverse]|a::r,w+1,U=>bg y r w U
 |a::r,0,U=>match pre y (a::r)with|true=>U.reverse::bg y r (y.length-1) []|false=>bg y r 0<|a::U
noncomputable def ms:List Nat->Bool|[]=>true|c::r=>match Nat.blt c 256 with|true=>ms r|false=>false
noncomputable def jn(y:List Nat):List (List Nat)->List Nat|[]=>[]|[a]=>a|a::b::r=>a++y++jn y (b::r)
noncomputable def b2(x y:List Nat):Bool:=pre y.reverse x.reverse
noncomputable def mw:List Nat->List Nat->Bool|[],[]=>false|[],_::_=>true|_::_,[]=>false|a::x,b::y=>match Nat.blt a b with|true=>true|false=>match Nat.beq a b with|true=>mw x y|false=>false
noncomputable def du:Int->Int->Bool|.ofNat a,.ofNat b=>Nat.blt a b|.negSucc _,.ofNat _=>true|.ofNat _,.negSucc _=>false|.negSucc a,.negSucc b=>Nat.blt b a
noncomputable def kx:Int->Int->Bool|.ofNat a,.ofNat b=>Nat.beq a b|.negSucc a,.negSucc b=>Nat.beq a b|_,_=>false
noncomputable def d4(i:Int)(n:Nat):Nat:=match i with
 |.ofNat k=>match Nat.ble k n with|true=>k|false=>n
 |.negSucc k=>n-(k+1)
noncomputable def rn(i:Int)(n:Nat):Option Nat:=match i with
 |.ofNat k=>match Nat.blt k n with|true=>some k|false=>none
 |.negSucc k=>match Nat.ble (k+1) n with|true=>some (n-(k+1))|false=>none
noncomputable def fT{f:Type}(lo j:Nat)(x:List f):List f:=(x.drop lo).take<|j-lo
noncomputable def dd(i:Int):Bool:=match i with|.ofNat k=>Nat.blt k 4611686018427387904|.negSucc k=>Nat.blt k 4611686018427387904
noncomputable def cr(n:Nat):Bool:=Nat.ble n lim
set_option genCtorIdx true in
inductive R(f:Type)where|ok (a:f) (H:aq)|exc (i:Nat) (H:aq)
abbrev M(f:Type):=Option<|R f
noncomputable def bd{f h:Type}(m:M f)(k:f->aq->M h):M h:=match m with
 |some (.ok a H)=>k a H|some (.exc i H)=>some<|.exc i H
 |none=>none
noncomputable def rt{f:Type}(a:f)(H:aq):M f:=some<|.ok a H
noncomputable def qO{f h:Type}(m:M f)(k:f->aq->M h):M h:=match m with|some (.ok a H)=>k a H|_=>none
noncomputable def aw{f:Type}(b:Bool)(m:M f):M f:=match b with|true=>m|false=>none
set_option genCtorIdx true in
inductive Fl where|next|brk|cont|ret (v:V)
set_option genCtorIdx true in
inductive RS where|ok (z:Fl) (l:Loc) (H:aq)|exc (i:Nat) (l:Loc) (H:aq)
abbrev MS:=Option RS
structure Fn where
 params:List Str
 dz:List V
 body:List Stmt
 scope:Scope
structure Cl where
 init:Option Addr
 eE:List (Str×Addr)
 exc:Bool
 own:List Str
structure ct where
 G:List (Str×V)
 B:List (Str×ey)
 fns:List (Addr×Fn)
 cls:List (Addr×Cl)
 sub:List (Addr×List Addr)
 hU:Addr
 gh:Addr
 ga:Str
structure bh where
 sc:List (Str×NameKind)
 hd:Option Nat
 lam:Option (Addr×Str)
abbrev ap:=Option Nat->V->List V->aq->M V
noncomputable def b8:List (List Nat)->Nat|[]=>0|x::r=>x.length+b8 r
noncomputable def ob{f h:Type}(o:Option f)(k:f->Option h):Option h:=match o with|some a=>k a|none=>none
noncomputable def nl:V->Option (List V)|.tup l=>some l|_=>none
noncomputable def fw:V->Option Nat|.ref i=>some i|_=>none
noncomputable def ek:V->Option (List Nat)|.str x=>some x|_=>none
noncomputable def fZ:V->Option Int|.int i=>some i|_=>none
noncomputable def lI(a:V):Option Nat:=ob (fZ a) λi=>match i with|.ofNat k=>some k|.negSucc _=>none
noncomputable def jD:Option au->Option (List<|Str×V)|some o=>(match o with|.dict f=>some f|_=>none)|none=>none
noncomputable def dp:Option au->Option (List V)|some o=>(match o with|.list l=>some l|_=>none)|none=>none
noncomputable def oD(a b:V)(H:aq):M V:=match a with
 |.int x=>ob (fZ b) λy=>rt (.int<|x+y) H|.str x=>ob (ek b) λy=>aw (cr<|x.length+y.length)<|rt (.str<|x++y) H
 |.tup x=>ob (nl b) λy=>aw (cr<|x.length+y.length)<|rt (.tup<|x++y) H
 |.ref i=>ob (fw b) λj=>ob (dp H[i]?) λl=>ob (dp H[j]?) λm=>aw (cr<|l.length+m.length)<|rt (.ref H.length)<|H++[.list<|l++m]
 |_=>none
noncomputable def sx(a b:V)(H:aq):M V:=match a with
 |.int x=>ob (fZ b) λy=>aw (dd x||dd y)<|rt (.int<|x*y) H
 |.ref i=>ob (lI b) λk=>ob (dp H[i]?) λl=>aw (Nat.ble k 16&&Nat.ble l.length 16)<|rt (.ref H.length)<|H++[.list (List.replicate k l).flatten]
 |_=>none
noncomputable def ra(a b:V)(c:Int->Int->Bool)(z:Int->Int->Int)(H:aq):M V:=ob (fZ a) λx=>ob (fZ b) λy=>aw (c x y)<|rt (.int<|z x y) H
noncomputable def bin(op:Operator)(a b:V)(H:aq):M V:=match op with|.Add=>oD a b H|.Sub=>ra a b (λ_ _=>true) (λx y=>x-y) H|.Mult=>sx a b H|.FloorDiv=>ra a b (λ_ y=>du 0 y&&dd y) Int.fdiv H|.Mod=>ra a b (λ_ y=>du 0 y) Int.fmod H|.Pow=>ra a b (λx y=>kx x 10&&kx y 18) (λ_ _=>1000000000000000000) H|_=>none
noncomputable def k0:List V->Option (List<|List Nat)|[]=>some []|a::r=>ob (ek a) λx=>ob (k0 r) λl=>some<|x::l
noncomputable def gG:V->Bool|.none=>true|_=>false
noncomputable def all2(z:V->V->Option Bool):List V->List V->Option Bool
 |[],m=>(match m with|[]=>some true|_::_=>some false)
 |a::l,m=>(match m with|[]=>some false|b::m=>ob (z a b) λx=>ob (all2 z l m) λy=>some<|match x with|true=>y|false=>false)
noncomputable def on(z:V->V->Option Bool)(o p:Option au):Option Bool:=ob (dp o) λl=>ob (dp p) λm=>match Nat.beq l.length m.length with|true=>all2 z l m|false=>some false
noncomputable def same:Nat->aq->V->V->Option Bool
 |0,_,_,_=>none
 |n+1,H,a,b=>match a with
  |.none=>(match b with|.none=>some true|.int _=>some false|.str _=>some false|_=>none)|.int x=>(match b with|.int y=>some (kx x y)|.none=>some false|_=>none)|.bool x=>(match b with|.bool y=>some (x==y)|_=>none)|.str x=>(match b with|.str y=>some (ar x y)|.none=>some false|_=>none)|.tup l=>ob (nl b)<|all2 (same n H) l
  |.ref i=>ob (fw b) λj=>on (same n H) H[i]? H[j]?|_=>none
noncomputable def fJ(x:List Nat):List V->Option Bool|[]=>some false|a::r=>ob (ek a) λy=>ob (fJ x r) λq=>some<|match ar x y with|true=>true|false=>q
noncomputable def wU(x:List Nat):au->Option Bool|.list l=>fJ x l|.dict es=>some (aC ⟨x.toArray⟩ es).isSome|_=>none
noncomputable def I9(x:List Nat)(b:V)(H:aq):Option Bool:=match b with|.str y=>some (br x y).isSome|.ref i=>ob H[i]? (wU x)|_=>none
noncomputable def yl(a b:V)(H:aq):Option Bool:=ob (ek a) λx=>I9 x b H
noncomputable def lC(a b:V)(z:Int->Int->Bool):Option Bool:=ob (fZ a) λx=>ob (fZ b) λy=>some<|z x y
noncomputable def pu(a b:V)(z:List Nat->List Nat->Bool):Option Bool:=ob (ek a) λx=>ob (ek b) λy=>some<|z x y
noncomputable def cM(op:CmpOp)(a b:V)(H:aq):Option Bool:=match op with
 |.Lt=>lC a b du
 |.LtE=>(match ek a with|some _=>pu a b λx y=>!mw y x|none=>lC a b λx y=>!du y x)
 |.Gt=>lC a b λx y=>du y x|.GtE=>lC a b λx y=>!du x y|.Eq=>same 40 H a b|.NotEq=>(same 40 H a b).map (!·)|.Is=>(match gG b with|true=>some (gG a)|false=>none)|.IsNot=>(match gG b with|true=>some (!gG a)|false=>none)|.In=>yl a b H|.NotIn=>(yl a b H).map (!·)
noncomputable def sB(i:V)(l:List V):Option V:=ob (fZ i) λn=>ob (rn n l.length) λj=>l[j]?
noncomputable def atS(i:V)(x:List Nat):Option V:=ob (fZ i) λn=>ob (rn n x.length) λj=>ob x[j]? λc=>some<|.str [c]
noncomputable def tJ(i:V):au->Option V|.list l=>sB i l|.dict es=>ob (ek i) λx=>aC ⟨x.toArray⟩ es|_=>none
noncomputable def q'(a i:V)(H:aq):Option V:=match a with|.str x=>atS i x|.tup l=>sB i l|.ref r=>ob H[r]? (tJ i)|_=>none
noncomputable def w7:Option V->Option (Option Int)|none=>some none|some a=>ob (fZ a) λi=>some<|some i
noncomputable def QI(x:List Nat):Option Int->Option Int->Option V
 |none,h=>(match h with|none=>none|some j=>aB (dd j) (some<|.str<|fT 0 (d4 j x.length) x) none)
 |some i,h=>(match h with|none=>aB (dd i) (some<|.str<|fT (d4 i x.length) x.length x) none|some j=>aB (dd i&&dd j) (some<|.str<|fT (d4 i x.length) (d4 j x.length) x) none)
noncomputable def g0(a:V)(lo j:Option V):Option V:=ob (ek a) λx=>ob (w7 lo) λl=>ob (w7 j) λh=>QI x l h
noncomputable abbrev qM:Str:=⟨#[115,116,97,114,116,115,119,105,116,104]⟩
noncomputable abbrev qc:Str:=⟨#[101,110,100,115,119,105,116,104]⟩
noncomputable abbrev mJ:Str:=⟨#[102,105,110,100]⟩
noncomputable abbrev pM:Str:=⟨#[106,111,105,110]⟩
noncomputable abbrev q7:Str:=⟨#[115,112,108,105,116]⟩
noncomputable abbrev tP:Str:=⟨#[114,101,112,108,97,99,101]⟩
noncomputable abbrev hX:Str:=⟨#[97,112,112,101,110,100]⟩
noncomputable abbrev kk:Str:=⟨#[112,111,112]⟩
noncomputable abbrev jc:Str:=⟨#[101,120,116,101,110,100]⟩
noncomputable abbrev p9:Str:=⟨#[95,95,105,110,105,116,95,95]⟩
noncomputable def g6:Option Nat->Int|some k=>k|none=>-1
noncomputable def fU(l:List V)(k:V->M V):M V:=match l with|[]=>none|a::r=>match r with|[]=>k a|_::_=>none
noncomputable def g'(l:List V)(k:V->V->M V):M V:=match l with
 |[]=>none
 |a::r=>match r with|[]=>none|b::r=>match r with|[]=>k a b|_::_=>none
noncomputable def vInt(a:V)(k:Int->M V):M V:=match a with|.int i=>k i|_=>none
noncomputable def r4(a:V)(k:Nat->M V):M V:=vInt a λi=>match i with|.ofNat i=>k i|.negSucc _=>none
noncomputable def vStr(a:V)(k:List Nat->M V):M V:=match a with|.str x=>k x|_=>none
noncomputable def qP(a:V)(k:Nat->M V):M V:=match a with|.ref i=>k i|_=>none
noncomputable def iO(o:Option au)(k:List V->M V):M V:=match o with|some o=>(match o with|.list l=>k l|_=>none)|none=>none
noncomputable def rk(l:List V)(f:List Nat->M V)(k2:List Nat->Nat->M V):M V:=match l with
 |[]=>none
 |a::r=>vStr a λy=>match r with|[]=>f y|b::r=>match r with|[]=>r4 b (k2 y)|_::_=>none
noncomputable def n0(x:List Nat)(k:Nat->M V):M V:=match x with|[]=>none|c::r=>match r with|[]=>k c|_::_=>none
noncomputable def e'(m:Str)(x:List Nat)(args:List V)(H:aq):M V:=
 aB (sq m qM) (rk args (λy=>rt (.bool<|pre y x) H) λy i=>rt (.bool<|Nat.ble i x.length&&pre y (x.drop i)) H)<|
 aB (sq m qc) (rk args (λy=>rt (.bool<|b2 x y) H) λy i=>rt (.bool<|Nat.ble (i+y.length) x.length&&b2 x y) H)<|
 aB (sq m mJ) (rk args (λy=>rt (.int<|g6<|br y x) H) λy i=>aw (Nat.ble 1 y.length)<|rt (.int<|g6<|(br y<|x.drop i).map (·+i)) H)<|
 aB (sq m pM) (fU args λa=>qP a λr=>iO H[r]? λl=>ob (k0 l) λf=>aw (cr<|b8 f+f.length*x.length)<|rt (.str<|jn x f) H)<|
 aB (sq m q7) (fU args λa=>vStr a λy=>aw (Nat.ble 1 y.length&&ms y&&Nat.ble x.length 1000000)<|rt (.ref H.length)<|H++[.list<|(bg y x 0 []).map .str])<|
 aB (sq m tP) (g' args λa b=>vStr a λy=>vStr b λC=>n0 y λc=>n0 C λ_=>match br [c] x with|none=>rt (.str x) H|some _=>none) none
noncomputable def ez(m:Str)(r:Nat)(l:List V)(args:List V)(H:aq):M V:=
 aB (sq m hX) (fU args λv=>aw (cr<|l.length+1)<|rt .none<|H.set r<|.list<|l++[v])<|
 aB (sq m kk) (match args with
  |[]=>match l.getLast? with
   |some v=>rt v<|H.set r<|.list l.dropLast
   |none=>none
  |_::_=>none)<|
 aB (sq m jc) (fU args λa=>qP a λj=>iO H[j]? λn=>aw (cr (l.length+n.length)&&!Nat.beq j r)<|rt .none<|H.set r<|.list<|l++n) none
noncomputable def insI(x:Int):List Int->List Int|[]=>[x]|y::r=>match du y x with|true=>y::insI x r|false=>x::y::r
noncomputable def sortI:List Int->List Int|[]=>[]|x::r=>insI x<|sortI r
noncomputable def mA:List V->Option (List Int)|[]=>some []|a::r=>ob (fZ a) λx=>ob (mA r) λl=>some<|x::l
noncomputable def hI:Nat->Nat->List Nat->List Nat|0,_,U=>U|z+1,n,U=>match Nat.ble 10 n with|true=>hI z (n/10) ((48+n%10)::U)|false=>(48+n)::U
noncomputable def qt(m:Str):Bool:=dX m [qM,qc,mJ,pM,q7,tP]
noncomputable def jW(m:Str):Bool:=dX m [hX,kk,jc]
noncomputable def zv(a:V)(H:aq):M V:=match a with|.str x=>rt (.int x.length) H|.tup l=>rt (.int l.length) H|.ref i=>iO H[i]? λl=>rt (.int l.length) H|_=>none
noncomputable def Du(a:V)(H:aq):M V:=match a with|.int i=>rt (.int i) H|.bool b=>rt (.int<|match b with|true=>1|false=>0) H|_=>none
noncomputable def jX(x y:Int):Int:=match du x y with|true=>y|false=>x
noncomputable def wL(z:ey)(args:List V)(H:aq):M V:=match z with
 |.len=>fU args λa=>zv a H|.ord=>fU args λa=>vStr a λx=>n0 x λc=>rt (.int c) H|.chr=>fU args λa=>r4 a λi=>aw (Nat.ble i 1114111)<|rt (.str [i]) H
 |.max=>g' args λa b=>vInt a λx=>vInt b λy=>rt (.int<|jX x y) H|.sorted=>fU args λa=>qP a λi=>iO H[i]? λl=>ob (mA l) λns=>aw (Nat.ble l.length 20)<|rt (.ref H.length)<|H++[.list<|(sortI ns).map .int]
 |.int=>fU args λa=>Du a H|.str=>fU args λa=>r4 a λi=>aw (Nat.ble i 10000000)<|rt (.str<|hI 30 i []) H
 |.tuple=>fU args λa=>qP a λi=>iO H[i]? λl=>rt (.tup l) H
 |.range=>match args with
  |[]=>none
  |a::r=>vInt a λi=>match r with
   |[]=>aw (dd i)<|rt (.an 0 i) H
   |b::r=>match r with|[]=>vInt b λj=>aw (dd i&&dd j) (rt (.an i j) H)|_::_=>none
 |.exception=>none
noncomputable def j0:V->Option Bool|.bool b=>some b|.none=>some false|_=>none
structure dS where
 e:bh->Loc->Expr->aq->M V
 t:bh->Loc->Expr->aq->M Bool
 s:bh->Stmt->Loc->aq->MS
 wh:bh->Expr->List Stmt->Loc->aq->MS
 fr:bh->Expr->V->Nat->List Stmt->Loc->aq->MS
 lc:bh->Loc->Str->Expr->List Expr->V->Nat->List V->aq->M (List V)
noncomputable def dS.bot:dS:=⟨λ_ _ _ _=>none,λ_ _ _ _=>none,λ_ _ _ _=>none,λ_ _ _ _ _=>none,λ_ _ _ _ _ _ _=>none,λ_ _ _ _ _ _ _ _ _=>none⟩
section
variable(T:ct)(O:ap)(v:dS)
noncomputable def cf(c:bh)(loc:Loc):List Expr->aq->M (List V)|[],H=>rt [] H|x::r,H=>bd (v.e c loc x H) λa H=>bd (cf c loc r H) λl H=>rt (a::l) H
noncomputable def lv(m:MS)(k:Loc->aq->MS):MS:=match m with
 |none=>none
 |some q=>match q with|.exc ..=>some q|.ok z loc H=>match z with|.next=>k loc H|_=>some q
noncomputable def cS(c:bh):List Stmt->Loc->aq->MS
 |[],loc,H=>some<|.ok .next loc H
 |x::r,loc,H=>lv (v.s c x loc H)<|cS c r
noncomputable def sd:Const->Option V
 |.none=>some .none|.bool b=>some<|.bool b
 |.int i=>some<|.int i
 |.str s=>aB (cr s.cps.toList.length) (some<|.str s.cps.toList) none|_=>none
noncomputable abbrev Ao:Str:=⟨#[95,95,99,108,97,115,115,100,105,99,116,95,95]⟩
noncomputable abbrev i7:Str:=⟨#[95,95,100,101,98,117,103,95,95]⟩
noncomputable def wH:au->Option V|.cell v=>v|_=>none
noncomputable def nY(loc:Loc)(x:Str)(H:aq):Option V:=aB (sq x Ao) none<|ob (aC x loc) λb=>ob (fw b) λi=>ob H[i]? wH
noncomputable def vW(x:Str)(o:Option V):Option V:=match o with|some a=>some a|none=>ob (aC x T.B) λb=>some<|.blt b
noncomputable def z7(loc:Loc)(x:Str)(H:aq)(k:NameKind):Option V:=match k with|.local=>aC x loc|.cell=>nY loc x H|.free=>nY loc x H|.globalExplicit=>none|.globalImplicit=>vW T x<|aC x T.G
noncomputable def lG(c:bh)(loc:Loc)(x:Str)(H:aq):Option V:=aB (sq x i7) none<|ob (aC x c.sc)<|z7 T loc x H
noncomputable def g5(c:bh)(loc:Loc)(x:Str)(H:aq):M V:=ob (lG T c loc x H) λa=>rt a H
noncomputable def xR(m:Str)(k:Cl)(i:Nat)(H:aq)(o:Option V):M V:=match o with
 |some b=>aw (dX m k.own)<|rt b H
 |none=>ob (aC m k.eE) λz=>rt (.bm z i) H
noncomputable def Lc(m:Str)(i:Nat)(H:aq)(o:au):M V:=match o with
 |.inst E f=>ob (bi E T.cls) λk=>aB k.exc none<|xR m k i H<|aC m f
 |.exc E h _=>ob (bi E T.cls) λk=>aw k.exc<|ob h λj=>ob (jD H[j]?) λf=>ob (aC m f) λb=>aw (dX m k.own)<|rt b H
 |_=>none
noncomputable def mW(a:V)(m:Str)(H:aq):M V:=ob (fw a) λi=>ob H[i]? (Lc T m i H)
noncomputable def dU(hd:Option Nat)(z:Addr)(D:List V)(H:aq):M V:=ob (bi z T.fns) λ_=>O hd (.fn z) D H
noncomputable def xX(n:Nat)(r:V)(H:aq):M V:=aw (gG r)<|rt (.ref n) H
noncomputable def tN(E:Addr)(b:Bool):au:=match b with|true=>.exc E none none|false=>.inst E []
noncomputable def FA(hd:Option Nat)(E:Addr)(k:Cl)(D:List V)(H:aq):M V:=ob k.init λz=>bd (dU T O hd z (.ref H.length::D)<|H++[tN E k.exc]) λr H'=>xX H.length r H'
noncomputable def nE:Option Nat->Bool|none=>true|some _=>false
noncomputable def Ls(hd:Option Nat)(b:ey):Bool:=match b with|.max=>nE hd|_=>true
noncomputable def sY(hd:Option Nat)(z:Addr)(D:List V)(H:aq)(o:Option Cl):M V:=match o with|some k=>FA T O hd z k D H|none=>dU T O hd z D H
noncomputable def bP(hd:Option Nat)(a:V)(D:List V)(H:aq):M V:=match a with
 |.fn z=>sY T O hd z D H<|bi z T.cls
 |.blt b=>aw (Ls hd b)<|wL b D H
 |.bm z i=>dU T O hd z (.ref i::D) H|.bY ..=>O hd a D H|_=>none
noncomputable def yS:au->Option Addr|.exc E _ _=>some E|_=>none
noncomputable def jg{f:Type}:Option f->Bool|none=>true|some _=>false
noncomputable def m9(D:List V)(H:aq):M V:=g' D λa b=>ob (fw a) λi=>ob (ek b) λ_=>ob H[i]? λo=>ob (yS o) λE=>ob (bi E T.cls) λk=>aw k.exc<|rt .none H
noncomputable def v3(hd:Option Nat)(i:Nat)(m:Str)(H:aq)(args:aq->M (List V))(o:au):M V:=match o with
 |.list _=>aw (jW m)<|bd (args H) λD H=>ob (dp H[i]?) λl=>ez m i l D H
 |.inst E f=>aw (jg<|aC m f)<|ob (bi E T.cls) λk=>aB k.exc none<|ob (aC m k.eE) λz=>bd (args H) λD H=>dU T O hd z (.ref i::D) H
 |_=>none
noncomputable def zq(m:Str)(H:aq)(args:aq->M (List V))(b:ey):M V:=match b with
 |.exception=>aw (sq m p9)<|bd (args H)<|m9 T
 |_=>none
noncomputable def ry(hd:Option Nat)(a:V)(m:Str)(H:aq)(args:aq->M (List V)):M V:=match a with
 |.str x=>aw (qt m)<|bd (args H) λD H=>e' m x D H
 |.blt b=>zq T m H args b|.fn E=>ob (bi E T.cls) λk=>ob (aC m k.eE) λz=>bd (args H) λD H=>dU T O hd z D H|.ref i=>ob H[i]? (v3 T O hd i m H args)|_=>none
noncomputable def vr:Option NameKind->Bool|some .cell=>true|some .free=>true|_=>false
noncomputable def gF(sc:List<|Str×NameKind)(loc:Loc):List (Str×NameKind)->Option (List<|Str×Nat)|[]=>some []|(x,.free)::r=>ob (aC x loc) λa=>ob (fw a) λi=>ob (gF sc loc r) λl=>bif vr (aC x sc)then some ((x,i)::l)else none|_::r=>gF sc loc r
noncomputable def db:List (Str×Nat)->Loc|[]=>[]|(x,i)::r=>(x,.ref i)::db r
noncomputable def eB:List (Str×NameKind)->Loc->aq->Loc×aq
 |[],loc,H=>(loc,H)|(x,.cell)::r,loc,H=>eB r ((x,.ref H.length)::loc)<|H++[.cell none]
 |_::r,loc,H=>eB r loc H
noncomputable def sW(k:aq->M Bool)(u C:Bool)(H:aq):M Bool:=match u with|true=>rt C H|false=>match C with|true=>k H|false=>rt false H
noncomputable def dv{f:Type}:List f->Bool|[]=>true|_::_=>false
noncomputable def nz(c:bh)(loc:Loc)(a:V):List CmpOp->List Expr->aq->M Bool
 |[],_,_=>none
 |op::h,f,H=>match f with|[]=>none|x::f=>bd (v.e c loc x H) λb H=>ob (cM op a b H) λC=>sW (nz c loc b h f) (dv f) C H
noncomputable def tU(op:BoolOp)(b:Bool):Bool:=match op with|.And=>(match b with|true=>false|false=>true)|.Or=>b
noncomputable def s'(c:bh)(loc:Loc)(op:BoolOp):List Expr->aq->M V
 |[],_=>none
 |x::r,H=>match r with
  |[]=>v.e c loc x H
  |_::_=>bd (v.e c loc x H) λa H=>ob (j0 a) λb=>match tU op b with|true=>rt a H|false=>s' c loc op r H
noncomputable def Cq(op:BoolOp):Bool:=match op with|.And=>true|.Or=>false
noncomputable def l2(c:bh)(loc:Loc)(op:BoolOp):List Expr->aq->M Bool
 |[],H=>rt (Cq op) H
 |x::r,H=>bd (v.t c loc x H) λb H=>match tU op b with|true=>rt b H|false=>l2 c loc op r H
noncomputable def mp(c:bh)(loc:Loc)(x:Option Expr)(H:aq):M (Option V):=match x with|none=>rt none H|some x=>bd (v.e c loc x H) λa H=>rt (some a) H
noncomputable def Mb:Expr->Option Expr|.Call z _ _ _=>some z|_=>none
noncomputable def lW(n:Nat)(x:Expr):Bool:=Nat.beq x.ctorIdx n
noncomputable def jN(n:Nat)(x:Expr):Bool:=match lW n x with|true=>false|false=>true
noncomputable def om(x:Expr):Bool:=match Mb x with|none=>true|some z=>jN 23 z
noncomputable def c':List Expr->Bool|[]=>true|x::r=>match jN 22 x with|true=>c' r|false=>false
noncomputable def jS(x:Expr):Bool:=jN 7 x
noncomputable def hR:List Expr->Bool|[]=>true|x::r=>match jS x with|true=>hR r|false=>false
noncomputable def mh(x:Expr):Bool:=jN 8 x&&(jN 9 x&&jN 10 x)
noncomputable def vp(a:Addr)(q:Str):Option (Addr×Str)->Bool|some b=>Nat.beq a b.1&&sq q b.2|none=>false
noncomputable def vq:NameKind->NameKind->Bool|.local,.local=>true|.cell,.cell=>true|.free,.free=>true|.globalImplicit,.globalImplicit=>true|_,_=>false
noncomputable def vg(o:Option NameKind)(k:NameKind):Bool:=match o with|some j=>vq j k|none=>false
noncomputable def s1(all:List<|Str×NameKind):List (Str×NameKind)->Bool|[]=>true|(x,k)::r=>vg (aC x all) k&&s1 all r
noncomputable def it(sc:Scope):Bool:=s1 sc.names sc.names&&(match sc.kind with|.function=>true|_=>false)&&!sc.isGenerator&&!sc.isCoroutine
noncomputable def h5:List (Str×NameKind)->Bool|[]=>true|(_,k)::r=>match vq k .cell with|true=>false|false=>h5 r
noncomputable def eN(aY:V)(H:aq):Bool:=match aY with
 |.str _=>true|.tup _=>true|.an lo j=>dd lo&&dd j
 |.ref r=>match H[r]? with|some (.list _)=>true|_=>false
 |_=>false
noncomputable def kM:Expr->Option (Option Expr×Option Expr)|.Slice lo j none _=>some (lo,j)|_=>none
noncomputable def h8:Expr->Option (Expr×Str×Pos)|.Attribute e m p=>some (e,m,p)|_=>none
noncomputable def lF:Expr->Option Str|.Name x _=>some x|_=>none
noncomputable def s3{f:Type}:List f->Option f|[]=>none|a::r=>match r with|[]=>some a|_::_=>none
noncomputable def un(l:List Comprehension):Option (Str×Expr×List Expr):=ob (s3 l) λg=>aB (kx g.is_async 0) (ob (lF g.target) λx=>some (x,g.iter,g.ifs)) none
noncomputable def BN:Arguments->Bool|⟨[],[],none,[],[],none,[]⟩=>true|_=>false
noncomputable def d7(c:bh)(loc:Loc)(x:Expr)(H:aq):M V:=match x with
 |.Constant k _ _=>ob (sd k) λa=>rt a H|.Name x _=>g5 T c loc x H|.Attribute e m _=>aw (om e)<|bd (v.e c loc e H) λa H=>mW T a m H
 |.Subscript e i _=>match kM i with|some p=>bd (v.e c loc e H) λa H=>bd (mp v c loc p.1 H) λl H=>bd (mp v c loc p.2 H) λh H=>ob (g0 a l h) λr=>rt r H|none=>bd (v.e c loc e H) λa H=>bd (v.e c loc i H) λb H=>ob (q' a b H) λr=>rt r H
 |.Compare l f rs _=>aw (hR rs&&Nat.beq f.length rs.length)<|bd (v.e c loc l H) λa H=>bd (nz v c loc a f rs H) λb H=>rt (.bool b) H
 |.BoolOp op D _=>s' v c loc op D H
 |.UnaryOp op x _=>match op with|.Not=>bd (v.e c loc x H) λa H=>ob (j0 a) λb=>rt (.bool<|!b) H|.USub=>bd (v.e c loc x H) λa H=>ob (fZ a) λi=>rt (.int<|-i) H|_=>none
 |.BinOp l op r _=>bd (v.e c loc l H) λa H=>bd (v.e c loc r H) λb H=>bin op a b H|.IfExp t a b _=>bd (v.t c loc t H) λq H=>match q with|true=>v.e c loc a H|false=>v.e c loc b H
 |.Tuple es _ _=>aw (c' es&&cr es.length)<|bd (cf v c loc es H) λl H=>rt (.tup l) H
 |.List es _=>aw (c' es&&cr es.length)<|bd (cf v c loc es H) λl H=>rt (.ref H.length)<|H++[.list l]
 |.Dict J D _=>match J with|[]=>(match D with|[]=>rt (.ref H.length) (H++[.dict []])|_::_=>none)|_::_=>none
 |.Call z args J p=>match J with
  |[]=>(match h8 z with
   |some q=>aw (om q.1&&c' args&&Nat.blt args.length 30&&Nat.beq q.2.2.endLine p.line)<|bd (v.e c loc q.1 H) λa H=>ry T O c.hd a q.2.1 H<|cf v c loc args
   |none=>aw (c' args)<|bd (v.e c loc z H) λa H=>bd (cf v c loc args H) λD H=>aw (Nat.blt D.length 30)<|bP T O c.hd a D H)
  |_::_=>none
 |.ListComp u j scope _=>ob (un j) λg=>aw (jS g.2.1&&it scope&&nE c.hd)<|ob (gF c.sc loc scope.names) λcl=>bd (v.e c loc g.2.1 H) λaY H=>aw (eN aY H)<|qO (v.lc ⟨scope.names,c.hd,c.lam⟩ (eB scope.names (db cl) H).1 g.1 u g.2.2 aY 0 [] (eB scope.names (db cl) H).2) λl H=>rt (.ref H.length)<|H++[.list l]
 |.Lambda U e scope _=>aw (BN U)<|aw (it scope&&h5 scope.names&&vp T.gh T.ga c.lam)<|ob (gF c.sc loc scope.names) λcl=>rt (.bY e scope cl) H
 |_=>none
noncomputable def stepT(c:bh)(loc:Loc)(x:Expr)(H:aq):M Bool:=match x with
 |.Compare l f rs _=>aw (hR rs&&Nat.beq f.length rs.length)<|bd (v.e c loc l H) λa H=>nz v c loc a f rs H
 |.UnaryOp .Not x _=>bd (v.t c loc x H) λb H=>rt (!b) H|.BoolOp op D _=>l2 v c loc op D H|.IfExp ..=>none|x=>bd (v.e c loc x H) λa H=>ob (j0 a) λb=>rt b H
noncomputable def cE{f:Type}(o:Option f)(k:f->MS):MS:=match o with|some a=>k a|none=>none
noncomputable def fR(b:Bool)(m:MS):MS:=match b with|true=>m|false=>none
noncomputable def d6{f:Type}(m:M f)(loc:Loc)(k:f->aq->MS):MS:=match m with
 |some (.ok a H)=>k a H|some (.exc i H)=>some<|.exc i loc H
 |none=>none
noncomputable def En(o:au):Bool:=match o with|.cell _=>true|_=>false
noncomputable def Kn(a:V)(loc:Loc)(H:aq)(i:Nat):MS:=cE H[i]? λo=>fR (En o)<|some<|.ok .next loc<|H.set i<|.cell<|some a
noncomputable def NA(x:Str)(a:V)(loc:Loc)(H:aq)(k:NameKind):MS:=match k with
 |.local=>some<|.ok .next (put x a loc) H
 |.cell=>cE (aC x loc) λb=>cE (fw b)<|Kn a loc H
 |_=>none
noncomputable def fV(c:bh)(x:Str)(a:V)(loc:Loc)(H:aq):MS:=cE (aC x c.sc)<|NA x a loc H
noncomputable def tR(x:Expr):Bool:=lW 19 x
noncomputable def rO(x:Expr):Bool:=match lF x with|some y=>!sq y i7|none=>lW 16 x||(lW 24 x||(lW 20 x||(lW 5 x||lW 15 x)))
noncomputable def ol:Expr->Option (Expr×Expr)|.BinOp l _ r _=>some (l,r)|.Subscript x i _=>some (x,i)|_=>none
noncomputable def jx:Nat->Expr->Bool
 |0,x=>rO x
 |n+1,x=>match ol x with|some p=>(match jx n p.1 with|true=>true|false=>jx n p.2)|none=>rO x
noncomputable def rc:List Expr->Bool|[]=>true|x::r=>match tR x with|true=>rc r|false=>false
noncomputable def nb:List Expr->Bool|[]=>false|x::r=>match jx 8 x with|true=>true|false=>nb r
noncomputable def my:Expr->Option (List Expr)|.Tuple es _ _=>some es|_=>none
noncomputable def nX(t e:Expr):Bool:=match my t with
 |none=>true
 |some _=>match my e with|none=>true|some D=>match nb D with|true=>true|false=>rc D
noncomputable def Cz(m:MS)(k:Loc->aq->MS):MS:=match m with
 |none=>none
 |some q=>match q with|.exc ..=>none|.ok z loc H=>match z with|.next=>k loc H|_=>none
noncomputable def l0(c:bh):List Expr->List V->Loc->aq->MS
 |[],l,loc,H=>(match l with|[]=>some (.ok .next loc H)|_::_=>none)
 |t::r,l,loc,H=>(match l with|[]=>none|a::l=>cE (lF t) λx=>Cz (fV c x a loc H) λloc H=>l0 c r l loc H)
noncomputable def P5(m:Str)(a:V)(loc:Loc)(H:aq)(E:Addr)(i:Nat)(h x:Option Nat):MS:=match h with
 |none=>some<|.ok .next loc<|H.set i (.exc E (some H.length) x)++[.dict [(m,a)]]
 |some j=>cE (jD H[j]?) λf=>fR (cr (put m a f).length)<|some<|.ok .next loc<|H.set j<|.dict<|put m a f
noncomputable def jA(m:Str)(a:V)(loc:Loc)(i:Nat)(H:aq)(o:au):MS:=match o with
 |.inst E f=>cE (bi E T.cls) λk=>fR (dX m k.own&&cr (put m a f).length)<|some<|.ok .next loc<|H.set i<|.inst E<|put m a f
 |.exc E h x=>cE (bi E T.cls) λk=>fR (k.exc&&dX m k.own)<|P5 m a loc H E i h x
 |_=>none
noncomputable def zf(j a:V)(loc:Loc)(r:Nat)(H:aq)(o:au):MS:=match o with
 |.list l=>cE (lI j) λk=>fR (Nat.blt k l.length)<|some<|.ok .next loc<|H.set r<|.list<|l.set k a
 |.dict es=>cE (ek j) λx=>fR (cr<|es.length+1)<|some<|.ok .next loc<|H.set r<|.dict<|put ⟨x.toArray⟩ a es
 |_=>none
noncomputable def i'(c:bh)(t:Expr)(a:V)(loc:Loc)(H:aq):MS:=match t with
 |.Name x _=>fV c x a loc H|.Tuple f _ _=>cE (nl a) λl=>match c.hd with|none=>l0 c f l loc H|some _=>none
 |.Attribute e m _=>d6 (v.e c loc e H) loc λb H=>cE (fw b) λi=>cE H[i]? (jA T m a loc i H)|.Subscript e i _=>d6 (v.e c loc e H) loc λb H=>d6 (v.e c loc i H) loc λj H=>cE (fw b) λr=>cE H[r]? (zf j a loc r H)|_=>none
noncomputable def jK(H:aq)(i:Nat):Nat->Option Nat->Bool
 |_,none=>true|0,some _=>false
 |n+1,some j=>match Nat.beq i j with
  |true=>false
  |false=>match H[j]? with|some (.exc _ _ c)=>jK H i n c|_=>false
noncomputable def qI:au->Option (Addr×Option Nat)|.exc E f _=>some (E,f)|_=>none
noncomputable def mX(hd:Option Nat)(i:Nat)(H:aq)(p:Addr×Option Nat):Option (Nat×aq):=match hd with
 |none=>some (i,H)
 |some j=>match Nat.beq i j with
  |true=>some (i,H)
  |false=>match jK H i 2 (some j)with|true=>some (i,H.set i<|.exc p.1 p.2<|some j)|false=>none
noncomputable def z3(hd:Option Nat)(i:Nat)(H:aq):Option (Nat×aq):=ob H[i]? λo=>ob (qI o) λp=>ob (bi p.1 T.sub) λ_=>mX hd i H p
noncomputable def m7(hd:Option Nat)(loc:Loc)(a:V)(H:aq):MS:=cE (fw a) λi=>cE (z3 T hd i H) λq=>some<|.exc q.1 loc q.2
noncomputable def Dk:V->Option Addr|.fn d=>some d|_=>none
noncomputable def tV(E:Addr)(aa:V):Option Bool:=ob (Dk aa) λd=>ob (bi E T.sub) λl=>ob (bi d T.sub) λ_=>some<|l.any<|Nat.beq d
noncomputable def wN(k:NameKind):Bool:=match k with|.local=>true|_=>false
noncomputable def lB(x:Str)(q:RS):RS:=match q with|.ok z loc H=>.ok z (ke x loc) H|.exc j loc H=>.exc j (ke x loc) H
noncomputable def uW(c:bh)(i:Nat)(nm:Option Str)(body:List Stmt)(loc:Loc)(H:aq):MS:=match nm with|none=>cS v ⟨c.sc,some i,c.lam⟩ body loc H|some x=>cE (aC x c.sc) λk=>fR (wN k)<|cE (cS v ⟨c.sc,some i,c.lam⟩ body (put x (.ref i) loc) H) λq=>some<|lB x q
noncomputable def rg(c:bh)(i:Nat)(E:Addr):List ExceptHandler->Loc->aq->MS
 |[],loc,H=>some<|.exc i loc H
 |h::r,loc,H=>match h with
  |.ExceptHandler f nm body _=>cE f λt=>cE (lF t) λy=>cE (lG T ⟨c.sc,some i,c.lam⟩ loc y H) λaa=>cE (tV T E aa) λb=>match b with|true=>uW v c i nm body loc H|false=>rg c i E r loc H
noncomputable def rR(c:bh)(f:List ExceptHandler)(i:Nat)(loc:Loc)(H:aq)(o:Option au):MS:=match o with|some (.exc E _ _)=>rg T v c i E f loc H|_=>none
noncomputable def vV(c:bh)(f:List ExceptHandler)(m:MS):MS:=match m with
 |none=>none|some (.ok z loc H)=>some<|.ok z loc H
 |some (.exc i loc H)=>rR T v c f i loc H H[i]?
noncomputable def ei(c:bh)(x:Stmt)(loc:Loc)(H:aq):MS:=match x with
 |.Expr e _=>fR (mh e)<|d6 (v.e c loc e H) loc λ_ H=>some<|.ok .next loc H
 |.Assign u e _=>cE (s3 u) λt=>fR (mh e&&nX t e)<|d6 (v.e c loc e H) loc λa H=>i' T v c t a loc H
 |.AugAssign t op e _=>match op with|.Add=>cE (lF t) λy=>d6 (g5 T c loc y H) loc λa H=>d6 (v.e c loc e H) loc λb H=>cE (fZ a) λi=>cE (fZ b) λj=>fV c y (.int<|i+j) loc H|_=>none
 |.If t a b _=>d6 (v.t c loc t H) loc λq H=>match q with|true=>cS v c a loc H|false=>cS v c b loc H
 |.While t b dJ _=>match dJ with|[]=>v.wh c t b loc H|_::_=>none
 |.For t k b dJ _=>match dJ with
  |[]=>fR (jS k&&nE c.hd)<|d6 (v.e c loc k H) loc λaY H=>fR (eN aY H)<|v.fr c t aY 0 b loc H
  |_::_=>none
 |.Return x _=>match x with
  |none=>some<|.ok (.ret .none) loc H
  |some e=>d6 (v.e c loc e H) loc λa H=>some<|.ok (.ret a) loc H
 |.Raise x y _=>match x with
  |some e=>(match y with|none=>d6 (v.e c loc e H) loc λa H=>m7 T c.hd loc a H|some _=>none)
  |none=>none
 |.Try b f dJ bp _=>match f with
  |[]=>none
  |h::f=>(match dJ with
   |[]=>(match bp with
    |[]=>vV T v c (h::f)<|cS v c b loc H
    |_::_=>none)
   |_::_=>none)
 |.Pass _=>some<|.ok .next loc H
 |.Break _=>some<|.ok .brk loc H
 |.Continue _=>some<|.ok .cont loc H
 |_=>none
noncomputable def tq(c:bh)(t:Expr)(b:List Stmt)(loc:Loc)(H:aq):MS:=d6 (v.t c loc t H) loc λq H=>match q with
 |false=>some<|.ok .next loc H
 |true=>match cS v c b loc H with
  |some (.ok .next loc H)=>v.wh c t b loc H|some (.ok .cont loc H)=>v.wh c t b loc H|some (.ok .brk loc H)=>some<|.ok .next loc H
  |o=>o
noncomputable def dI(aY:V)(k:Nat)(H:aq):Option (Option V):=match aY with
 |.str x=>some<|match x[k]? with|some c=>some (.str [c])|none=>none
 |.tup l=>some l[k]?|.an lo j=>some<|match du (lo+k) j with|true=>some (.int<|lo+k)|false=>none
 |.ref r=>match H[r]? with|some (.list l)=>some l[k]?|_=>none
 |_=>none
noncomputable def mj(c:bh)(t:Expr)(aY:V)(k:Nat)(b:List Stmt)(loc:Loc)(H:aq):MS:=match dI aY k H with
 |none=>none|some none=>some<|.ok .next loc H
 |some (some a)=>match i' T v c t a loc H with
  |some (.ok .next loc H)=>match cS v c b loc H with
   |some (.ok .next loc H)=>v.fr c t aY (k+1) b loc H|some (.ok .cont loc H)=>v.fr c t aY (k+1) b loc H|some (.ok .brk loc H)=>some<|.ok .next loc H
   |o=>o
  |o=>o
noncomputable def mq(c:bh)(loc:Loc)(x:Str)(f:Expr)(h:List Expr)(aY:V)(k:Nat)(U:List V)(H:aq):M (List V):=match dI aY k H with
 |none=>none|some none=>rt U H
 |some (some a)=>match fV c x a loc H with
  |some (.ok .next loc H)=>qO (l2 v c loc .And h H) λq H=>match q with|false=>v.lc c loc x f h aY (k+1) U H|true=>qO (v.e c loc f H) λb H=>aw (cr<|U.length+1)<|v.lc c loc x f h aY (k+1) (U++[b]) H
  |_=>none
noncomputable def step:dS:=⟨d7 T O v,stepT v,ei T v,tq v,mj T v,mq v⟩
end
noncomputable def ev(T:ct)(O:ap):Nat->dS|0=>dS.bot|n+1=>step T O<|ev T O n
noncomputable def yp(m:MS):Option (Loc×aq):=match m with
 |none=>none
 |some q=>match q with|.exc ..=>none|.ok z loc H=>match z with|.next=>some (loc,H)|_=>none
noncomputable def m5(c:bh):List Str->List V->Loc->aq->Option (Loc×aq)
 |[],l,loc,H=>(match l with|[]=>some (loc,H)|_::_=>none)
 |x::r,l,loc,H=>(match l with|[]=>none|a::l=>ob (yp<|fV c x a loc H) λq=>m5 c r l q.1 q.2)
noncomputable def fill(f:Nat)(dz args:List V):Option (List V):=aB (Nat.ble args.length f&&Nat.ble f (args.length+dz.length)) (some<|args++dz.drop (dz.length-(f-args.length))) none
noncomputable def pN(q:RS):M V:=match q with
 |.ok z _ H=>(match z with
  |.ret a=>some<|.ok a H
  |.next=>some<|.ok .none H
  |_=>none)
 |.exc i _ H=>some<|.exc i H
noncomputable def xg(n:Nat)(T:ct)(O:ap)(hd:Option Nat)(lam:Option<|Addr×Str)(z:Fn)(args:List V)(H:aq):M V:=ob (fill z.params.length z.dz args) λD=>ob (m5 ⟨z.scope.names,hd,lam⟩ z.params D (eB z.scope.names [] H).1 (eB z.scope.names [] H).2) λq=>ob (cS (ev T O n) ⟨z.scope.names,hd,lam⟩ z.body q.1 q.2) pN
noncomputable def Am(k:NameKind):Bool:=match k with|.free=>true|_=>false
noncomputable def lL(sc:List<|Str×NameKind):List (Str×Nat)->Bool
 |[]=>true
 |p::r=>match aC p.1 sc with|some k=>Am k&&lL sc r|none=>false
noncomputable def Mg{f:Type}(l:List V)(m:M f):M f:=match l with|[]=>m|_::_=>none
noncomputable def aF(n:Nat)(T:ct)(O:ap):ap:=λhd a args H=>match a with
 |.fn z=>ob (bi z T.fns) λfn=>xg n T O hd (aB (Nat.beq z T.hU) (some (T.gh,T.ga)) none) fn args H|.bY e sc cl=>Mg args<|aw (it sc&&h5 sc.names&&lL sc.names cl)<|(ev T O n).e ⟨sc.names,hd,none⟩ (db cl) e H
 |_=>none
def V.ref.inj(h:V.ref a=V.ref b):a=b:=by injection h
def V.tup.inj(h:V.tup a=V.tup b):a=b:=by injection h
def V.str.inj(h:V.str a=V.str b):a=b:=by injection h
def au.list.inj(h:au.list a=au.list b):a=b:=by injection h
noncomputable def x4:List Expr->List V|[]=>[]|.Constant k _ _::r=>(match sd k with|some a=>a|none=>.none)::x4 r|_::r=>.none::x4 r
noncomputable def AS:List Arg->List Str|[]=>[]|a::r=>a.arg::AS r
def fnOf(a:Arguments)(b:List Stmt)(s:Scope):Fn:=⟨AS a.args,x4 a.defaults,b,s⟩
noncomputable def vC:List Stmt->List Fn->List Fn|[],t=>t|.FunctionDef _ a b _ _ _ s _ _ _::r,t=>fnOf a b s::vC r t|_::r,t=>vC r t
noncomputable def tg:List Stmt->List Fn
 |[]=>[]|.FunctionDef _ a b _ _ _ s _ _ _::r=>fnOf a b s::tg r|.ClassDef _ _ _ b _ _ _ _ _ _ _::r=>vC b<|tg r
 |_::r=>tg r
noncomputable def zg{f:Type}:List Addr->List f->List (Addr×f)|a::r,x::l=>(a,x)::zg r l|_,_=>[]
noncomputable def NM:List Addr:=[21,49,56,63,70,77,84,91,98,105,112,126,147,191,198,206,213,220,228,235,242,249,256,263,270,277,284,291,305,312,317,325,332,346,353,360,367,374,395,402,409,416,437,444,451,458,472,480,487,494,505,512,519,526,533,540,547,554,561,575,582,589,596,603,610,617,631,638,645,652,659,666,673,680,687,694,701,708,715,720,727,734,741,748,755,762,769,783,790,797,804,811,818,825,847,854,861,868,875,882,889,896,918,939,946,953,967,974,981,988,1003,1011,1018,1025,1032,1039,1046,1053,1060,1067,1081,1088,1095,1100,1107,1112,1119,1126,1131,1138,1145,1152]
noncomputable def Qa:List (Str×V):=[(⟨#[95,119,97,108,108]⟩,.fn 21),
 (⟨#[83,80,65,67,69,83,95,99,104,97,114,115]⟩,.str [32,9,10,13]),
 (⟨#[67,72,65,82,95,82,65,78,71,69,83]⟩,.tup [.tup [.int 32,.int 55295],.tup [.int 57344,.int 65533],.tup [.int 65536,.int 1114111]]),
 (⟨#[83,84,65,82,84,95,82,65,78,71,69,83]⟩,.tup [.tup [.int 192,.int 214],.tup [.int 216,.int 246],.tup [.int 248,.int 767],.tup [.int 880,.int 893],.tup [.int 895,.int 8191],.tup [.int 8204,.int 8205],.tup [.int 8304,.int 8591],.tup [.int 11264,.int 12271],.tup [.int 12289,.int 55295],.tup [.int 63744,.int 64975],.tup [.int 65008,.int 65533],.tup [.int 65536,.int 983039]]),
 (⟨#[77,79,82,69,95,82,65,78,71,69,83]⟩,.tup [.tup [.int 183,.int 183],.tup [.int 768,.int 879],.tup [.int 8255,.int 8256]]),
 (⟨#[70,73,82,83,84,95,66,69,89,79,78,68]⟩,.int 128),
 (⟨#[105,115,95,105,110,95,114,97,110,103,101,115]⟩,.fn 49),
 (⟨#[105,115,95,115,112,97,99,101]⟩,.fn 56),
 (⟨#[105,115,95,99,104,97,114]⟩,.fn 63),
 (⟨#[105,115,95,115,109,97,108,108,95,108,101,116,116,101,114]⟩,.fn 70),
 (⟨#[105,115,95,110,97,109,101,95,115,116,97,114,116]⟩,.fn 77),
 (⟨#[105,115,95,110,97,109,101,95,99,104,97,114]⟩,.fn 84),
 (⟨#[102,105,114,115,116,95,111,116,104,101,114]⟩,.fn 91),
 (⟨#[105,115,95,110,109,116,111,107,101,110]⟩,.fn 98),
 (⟨#[105,115,95,110,97,109,101]⟩,.fn 105),
 (⟨#[112,108,97,105,110,95,101,110,100,115]⟩,.fn 112),
 (⟨#[77,97,114,107,117,112,69,114,114,111,114]⟩,.fn 129),
 (⟨#[83,121,110,116,97,120,70,97,117,108,116]⟩,.fn 150),
 (⟨#[69,110,116,105,116,121,70,97,117,108,116]⟩,.fn 162),
 (⟨#[76,105,109,105,116,70,97,117,108,116]⟩,.fn 174),
 (⟨#[67,117,114,115,111,114]⟩,.fn 294),
 (⟨#[68,73,71,73,84,83]⟩,.str [48,49,50,51,52,53,54,55,56,57]),
 (⟨#[72,69,88,95,68,73,71,73,84,83]⟩,.str [48,49,50,51,52,53,54,55,56,57,97,98,99,100,101,102]),
 (⟨#[77,79,83,84,95,68,73,71,73,84,83]⟩,.int 12),
 (⟨#[118,97,108,117,101,95,111,102,95,100,105,103,105,116,115]⟩,.fn 305),
 (⟨#[119,105,116,104,111,117,116,95,110,111,117,103,104,116,115]⟩,.fn 312),
 (⟨#[99,111,100,101,95,111,102]⟩,.fn 317),
 (⟨#[99,104,97,114,95,111,102]⟩,.fn 325),
 (⟨#[112,114,101,100,101,102,105,110,101,100]⟩,.fn 332),
 (⟨#[86,65,76,85,69,95,83,80,65,67,69,83]⟩,.str [9,13,10]),
 (⟨#[71,114,111,119,116,104]⟩,.fn 377),
 (⟨#[80,101,110,100,105,110,103]⟩,.fn 419),
 (⟨#[83,116,97,99,107]⟩,.fn 461),
 (⟨#[103,114,111,119,116,104,95,102,111,114]⟩,.fn 472),
 (⟨#[116,101,120,116,95,105,110,95,118,97,108,117,101]⟩,.fn 480),
 (⟨#[115,105,103,110,95,111,114,95,101,110,116,105,116,121]⟩,.fn 487),
 (⟨#[98,108,97,110,107,95,115,112,97,99,101,115]⟩,.fn 494),
 (⟨#[67,79,77,77,69,78,84]⟩,.str [60,33,45,45]),
 (⟨#[67,68,65,84,65]⟩,.str [60,33,91,67,68,65,84,65,91]),
 (⟨#[68,79,67,84,89,80,69]⟩,.str [60,33,68,79,67,84,89,80,69]),
 (⟨#[79,80,69,78,73,78,71,83]⟩,.tup [.tup [.str [60,33,45,45],.str [99,111,109,109,101,110,116],.str [45,45,62]],.tup [.str [60,33,91,67,68,65,84,65,91],.str [99,100,97,116,97],.str [93,93,62]],.tup [.str [60,33,68,79,67,84,89,80,69],.str [100,111,99,116,121,112,101],.none]]),
 (⟨#[81,85,79,84,69,83]⟩,.str [34,39]),
 (⟨#[109,97,121,95,98,101,99,111,109,101]⟩,.fn 505),
 (⟨#[98,101,104,105,110,100]⟩,.fn 512),
 (⟨#[102,111,117,110,100,95,101,110,100]⟩,.fn 519),
 (⟨#[116,97,103,95,101,110,100]⟩,.fn 526),
 (⟨#[100,111,99,116,121,112,101,95,101,110,100]⟩,.fn 533),
 (⟨#[111,112,101,110,101,100,95,112,105,101,99,101]⟩,.fn 540),
 (⟨#[109,97,114,107,117,112,95,112,105,101,99,101]⟩,.fn 547),
 (⟨#[116,101,120,116,95,101,110,100]⟩,.fn 554),
 (⟨#[104,101,108,100,95,98,114,97,99,107,101,116,115]⟩,.fn 561),
 (⟨#[80,105,101,99,101,115]⟩,.fn 620),
 (⟨#[76,69,84,84,69,82,83]⟩,.str [97,98,99,100,101,102,103,104,105,106,107,108,109,110,111,112,113,114,115,116,117,118,119,120,121,122,65,66,67,68,69,70,71,72,73,74,75,76,77,78,79,80,81,82,83,84,85,86,87,88,89,90]),
 (⟨#[70,73,71,85,82,69,83]⟩,.str [48,49,50,51,52,53,54,55,56,57]),
 (⟨#[99,104,101,99,107,95,99,104,97,114,115]⟩,.fn 631),
 (⟨#[114,101,97,100,95,115,116,97,114,116]⟩,.fn 638),
 (⟨#[114,101,97,100,95,101,113,117,97,108,115]⟩,.fn 645),
 (⟨#[114,101,97,100,95,97,116,116,114,105,98,117,116,101]⟩,.fn 652),
 (⟨#[114,101,97,100,95,101,110,100]⟩,.fn 659),
 (⟨#[114,101,97,100,95,99,111,109,109,101,110,116]⟩,.fn 666),
 (⟨#[114,101,97,100,95,105,110,115,116,114,117,99,116,105,111,110]⟩,.fn 673),
 (⟨#[114,101,97,100,95,99,100,97,116,97]⟩,.fn 680),
 (⟨#[114,101,97,100,95,119,111,114,100,95,118,97,108,117,101]⟩,.fn 687),
 (⟨#[105,115,95,101,110,99,111,100,105,110,103]⟩,.fn 694),
 (⟨#[105,115,95,118,101,114,115,105,111,110]⟩,.fn 701),
 (⟨#[114,101,97,100,95,100,101,99,108,97,114,97,116,105,111,110]⟩,.fn 708),
 (⟨#[105,115,95,112,117,98,108,105,99,95,115,105,103,110]⟩,.fn 715),
 (⟨#[114,101,97,100,95,112,117,98,108,105,99]⟩,.fn 720),
 (⟨#[114,101,97,100,95,115,121,115,116,101,109]⟩,.fn 727),
 (⟨#[114,101,97,100,95,111,117,116,101,114,95,110,97,109,101]⟩,.fn 734),
 (⟨#[114,101,97,100,95,105,110,110,101,114]⟩,.fn 741),
 (⟨#[114,101,97,100,95,100,111,99,116,121,112,101]⟩,.fn 748),
 (⟨#[78,79,84,72,73,78,71]⟩,.int 0),
 (⟨#[65,72,69,65,68]⟩,.int 1),
 (⟨#[87,73,84,72,73,78]⟩,.int 2),
 (⟨#[66,69,72,73,78,68]⟩,.int 3),
 (⟨#[79,82,68,69,82,95,77,65,82,75,95,115,116,114,101,97,109]⟩,.str [65279]),
 (⟨#[77,79,83,84,95,68,69,69,80]⟩,.int 60),
 (⟨#[106,111,105,110,101,100,95,116,101,120,116,115]⟩,.fn 755),
 (⟨#[99,104,101,99,107,95,115,105,103,110,115]⟩,.fn 762),
 (⟨#[105,115,95,100,101,99,108,97,114,97,116,105,111,110]⟩,.fn 769),
 (⟨#[67,111,110,116,101,110,116]⟩,.fn 828),
 (⟨#[83,116,114,101,97,109]⟩,.fn 899),
 (⟨#[83,80,65,67,69,83,95,101,110,116,105,116,105,101,115]⟩,.str [32,9,13,10]),
 (⟨#[84,69,88,84,95,72,69,65,68]⟩,.str [60,63,120,109,108]),
 (⟨#[79,82,68,69,82,95,77,65,82,75,95,101,110,116,105,116,105,101,115]⟩,.str [65279]),
 (⟨#[76,105,109,105,116,115]⟩,.fn 921),
 (⟨#[69,110,116,105,116,121]⟩,.fn 956),
 (⟨#[112,108,97,105,110,95,114,101,102,101,114,101,110,99,101]⟩,.fn 967),
 (⟨#[112,97,115,115,95,104,101,97,100]⟩,.fn 974),
 (⟨#[119,105,116,104,111,117,116,95,104,101,97,100]⟩,.fn 981),
 (⟨#[112,108,97,105,110,95,111,117,116,101,114]⟩,.fn 988),
 (⟨#[69,110,116,105,116,121,84,97,98,108,101]⟩,.fn 1070),
 (⟨#[95,108,97,119,95,112,111,111,108]⟩,.fn 1081),
 (⟨#[95,108,97,119,95,116,97,107,101]⟩,.fn 1088),
 (⟨#[95,108,97,119,95,111,110,101]⟩,.fn 1095),
 (⟨#[95,108,97,119,95,99,117,116]⟩,.fn 1100),
 (⟨#[95,108,97,119,95,102,97,117,108,116,95,111,102]⟩,.fn 1107),
 (⟨#[95,108,97,119,95,115,116,97,121,115]⟩,.fn 1112),
 (⟨#[95,108,97,119,95,119,114,111,110,103]⟩,.fn 1119),
 (⟨#[95,108,97,119,95,114,105,103,104,116]⟩,.fn 1126),
 (⟨#[95,108,97,119,95,105,115,95,106,111,105,110,101,100]⟩,.fn 1131),
 (⟨#[95,108,97,119,95,116,111,108,100,95,114,105,103,104,116]⟩,.fn 1138),
 (⟨#[95,108,97,119,95,100,101,101,112,95,114,105,103,104,116]⟩,.fn 1145),
 (⟨#[108,97,119]⟩,.fn 1152)]
noncomputable def Ja:List (Str×ey):=[(⟨#[108,101,110]⟩,.len),(⟨#[111,114,100]⟩,.ord),(⟨#[99,104,114]⟩,.chr),(⟨#[109,97,120]⟩,.max),(⟨#[115,111,114,116,101,100]⟩,.sorted),(⟨#[105,110,116]⟩,.int),(⟨#[115,116,114]⟩,.str),(⟨#[116,117,112,108,101]⟩,.tuple),(⟨#[114,97,110,103,101]⟩,.range),(⟨#[69,120,99,101,112,116,105,111,110]⟩,.exception)]
noncomputable def Jn:List (Addr×Cl):=[(129,⟨some 126,[(⟨#[95,95,105,110,105,116,95,95]⟩,126)],true,[⟨#[109,101,115,115,97,103,101]⟩]⟩),
 (150,⟨some 147,[(⟨#[95,95,105,110,105,116,95,95]⟩,147)],true,[⟨#[112,108,97,99,101]⟩,⟨#[109,101,115,115,97,103,101]⟩]⟩),
 (162,⟨some 126,[(⟨#[95,95,105,110,105,116,95,95]⟩,126)],true,[⟨#[109,101,115,115,97,103,101]⟩]⟩),
 (174,⟨some 126,[(⟨#[95,95,105,110,105,116,95,95]⟩,126)],true,[⟨#[109,101,115,115,97,103,101]⟩]⟩),
 (294,⟨some 191,[(⟨#[95,95,105,110,105,116,95,95]⟩,191),(⟨#[105,115,95,111,118,101,114]⟩,198),(⟨#[112,101,101,107]⟩,206),(⟨#[108,111,111,107,115]⟩,213),(⟨#[102,97,117,108,116]⟩,220),(⟨#[116,97,107,101]⟩,228),(⟨#[115,107,105,112]⟩,235),(⟨#[101,120,112,101,99,116]⟩,242),(⟨#[117,110,116,105,108]⟩,249),(⟨#[97,104,101,97,100,95,111,102]⟩,256),(⟨#[115,112,97,99,101,115]⟩,263),(⟨#[110,101,101,100,95,115,112,97,99,101,115]⟩,270),(⟨#[110,97,109,101]⟩,277),(⟨#[113,117,111,116,101,100]⟩,284),(⟨#[108,105,110,101,95,111,102]⟩,291)],false,[⟨#[116,101,120,116]⟩,⟨#[97,116]⟩]⟩),
 (377,⟨some 346,[(⟨#[95,95,105,110,105,116,95,95]⟩,346),(⟨#[97,100,100]⟩,353),(⟨#[101,110,116,101,114]⟩,360),(⟨#[108,101,97,118,101]⟩,367),(⟨#[112,117,116,95,105,110]⟩,374)],false,[⟨#[108,105,109,105,116,115]⟩,⟨#[115,105,122,101]⟩,⟨#[111,112,101,110]⟩]⟩),
 (419,⟨some 395,[(⟨#[95,95,105,110,105,116,95,95]⟩,395),(⟨#[105,115,95,111,118,101,114]⟩,402),(⟨#[114,117,110]⟩,409),(⟨#[114,101,102,101,114,101,110,99,101]⟩,416)],false,[⟨#[116,101,120,116]⟩,⟨#[110,97,109,101]⟩,⟨#[97,116]⟩]⟩),
 (461,⟨some 437,[(⟨#[95,95,105,110,105,116,95,95]⟩,437),(⟨#[116,111,112]⟩,444),(⟨#[114,101,102,101,114,101,110,99,101]⟩,451),(⟨#[112,117,116,95,105,110]⟩,458)],false,[⟨#[103,114,111,119,116,104]⟩,⟨#[114,111,119,115]⟩,⟨#[98,101,103,105,110]⟩]⟩),
 (620,⟨some 575,[(⟨#[95,95,105,110,105,116,95,95]⟩,575),(⟨#[102,101,101,100]⟩,582),(⟨#[102,101,101,100,95,112,108,97,105,110]⟩,589),(⟨#[102,105,110,105,115,104]⟩,596),(⟨#[99,117,116]⟩,603),(⟨#[116,97,107,101]⟩,610),(⟨#[116,97,107,101,95,116,101,120,116]⟩,617)],false,[⟨#[116,101,120,116]⟩,⟨#[97,116]⟩,⟨#[112,108,97,99,101]⟩,⟨#[104,101,108,100]⟩,⟨#[115,101,101,110]⟩]⟩),
 (828,⟨some 783,[(⟨#[95,95,105,110,105,116,95,95]⟩,783),(⟨#[114,101,97,100]⟩,790),(⟨#[118,97,108,117,101]⟩,797),(⟨#[115,116,97,114,116]⟩,804),(⟨#[101,110,100]⟩,811),(⟨#[114,101,102,101,114,101,110,99,101]⟩,818),(⟨#[101,110,116,105,116,121,95,101,118,101,110,116,115]⟩,825)],false,[⟨#[101,110,116,105,116,105,101,115]⟩,⟨#[103,114,111,119,116,104]⟩,⟨#[110,97,109,101,115]⟩]⟩),
 (899,⟨some 847,[(⟨#[95,95,105,110,105,116,95,95]⟩,847),(⟨#[102,101,101,100]⟩,854),(⟨#[99,108,111,115,101]⟩,861),(⟨#[116,111,108,100]⟩,868),(⟨#[101,118,101,110,116,115,95,111,102]⟩,875),(⟨#[111,117,116,115,105,100,101]⟩,882),(⟨#[115,112,97,99,101]⟩,889),(⟨#[100,111,99,116,121,112,101]⟩,896)],false,[⟨#[99,111,110,116,101,110,116]⟩,⟨#[111,110,95,100,111,99,116,121,112,101]⟩,⟨#[112,105,101,99,101,115]⟩,⟨#[115,116,97,103,101]⟩,⟨#[104,97,115,95,100,111,99,116,121,112,101]⟩,⟨#[102,97,117,108,116]⟩]⟩),
 (921,⟨some 918,[(⟨#[95,95,105,110,105,116,95,95]⟩,918)],false,[⟨#[109,111,115,116,95,100,101,112,116,104]⟩,⟨#[109,111,115,116,95,115,105,122,101]⟩]⟩),
 (956,⟨some 939,[(⟨#[95,95,105,110,105,116,95,95]⟩,939),(⟨#[105,115,95,111,117,116,101,114]⟩,946),(⟨#[105,115,95,117,110,112,97,114,115,101,100]⟩,953)],false,[⟨#[110,97,109,101]⟩,⟨#[118,97,108,117,101]⟩,⟨#[115,121,115,116,101,109]⟩,⟨#[110,111,116,97,116,105,111,110]⟩]⟩),
 (1070,⟨some 1003,[(⟨#[95,95,105,110,105,116,95,95]⟩,1003),(⟨#[100,101,99,108,97,114,101]⟩,1011),(⟨#[101,110,116,105,116,121]⟩,1018),(⟨#[105,115,95,100,101,99,108,97,114,101,100]⟩,1025),(⟨#[105,115,95,117,110,112,97,114,115,101,100]⟩,1032),(⟨#[111,117,116,101,114,95,116,101,120,116]⟩,1039),(⟨#[116,101,120,116,95,111,102]⟩,1046),(⟨#[114,101,112,108,97,99,101,109,101,110,116]⟩,1053),(⟨#[105,110,110,101,114,95,114,101,112,108,97,99,101,109,101,110,116]⟩,1060),(⟨#[112,97,114,97,109,101,116,101,114]⟩,1067)],false,[⟨#[108,105,109,105,116,115]⟩,⟨#[111,117,116,101,114]⟩,⟨#[103,101,110,101,114,97,108]⟩,⟨#[112,97,114,97,109,101,116,101,114,115]⟩]⟩)]
noncomputable def HT:List (Addr×List Addr):=[(129,[129]),(150,[150,129]),(162,[162,129]),(174,[174,129])]
def R0(b:List Stmt):ct:=⟨Qa,Ja,zg NM<|tg b,Jn,HT,1112,1111,⟨#[95,108,97,119,95,115,116,97,121,115,46,60,108,111,99,97,108,115,62,46]⟩⟩
noncomputable def FO:{t:ct//R0 PySem.Challenge.pw_sy0052_01.main.body=t}:=by refine⟨?p,?h⟩;case h=>conv=>lhs;reduce
noncomputable def tab:ct:=FO.1
section
open Builtin Builtin.ObjectAttr
noncomputable def ey.val:ey->Value|.len=>.builtin "len"|.ord=>.builtin "ord"|.chr=>.builtin "chr"|.max=>.builtin "max"|.sorted=>.builtin "sorted"|.int=>.type "int"|.str=>.type "str"|.tuple=>.type "tuple"|.range=>.type "range"|.exception=>.type "Exception"
noncomputable def lx:Value->Option Addr|.ref a=>some a|_=>none
noncomputable def yK(l:List Value):Bool:=l==[.type "object"]||l==[.type "Exception",.type "BaseException",.type "object"]
noncomputable def qA:List Value->Bool|[]=>false|v::r=>match lx v with|some _=>qA r|none=>yK<|v::r
noncomputable def yb(B:Frag)(E:Addr):Bool:=(clsIn B E).any λf=>qA f.mro
noncomputable def AX(b:Bool):String:=match b with|true=>"BaseException.__getattribute__"|false=>"object.__getattribute__"
noncomputable def vT(B:Frag)(E:Addr):Bool:=(clsIn B E).isSome
noncomputable def D7:Data->Option ClassData|.cls c=>some c|_=>none
noncomputable def Cj:List (Option Value)->Bool
 |[]=>false
 |_::l=>match l with
  |[]=>false
  |_::l=>match l with
   |[]=>false
   |_::l=>match l with
    |[]=>false
    |_::l=>match l with|[]=>false|v::l=>v==some (.builtin "Exception.__new__")&&Nat.beq l.length 1
noncomputable def Cr(E:Addr):List Value->Bool|[]=>false|v::bm=>v==.ref E&&(bm.contains (.type "Exception")&&(!bm.contains (.type "AttributeError")&&!bm.contains (.type "NameError")))
noncomputable def JM(B:Frag)(E:Addr)(o:Obj)(f:ClassData):Bool:=o.cls==.type "type"&&(Cr E f.mro&&(Cj o.slots.toList&&(!f.hasDel&&(specialIn B (.ref E) "__call__"==some (some<|.builtin "type.__call__")&&instIn B (.ref E) (.type "type")==some true))))
noncomputable def yW(o:Option Bool):Bool:=match o with|some b=>b|none=>false
def uy(B:Frag)(E:Addr):Bool:=yW<|ob (B.lookup E) λo=>ob (D7 o.data) λf=>some<|JM B E o f
noncomputable def dm{f:Type}(o:Option f)(z:f->Bool):Bool:=match o with|some y=>z y|none=>false
noncomputable def wB:Value->Option Str|.str x _=>some x|_=>none
noncomputable def DB:Value->Option Int|.int i _=>some i|_=>none
noncomputable def wG:Data->Option (Array Value)|.fields v=>some v|_=>none
noncomputable def DO:Data->Option (Array Value×Nat)|.seq v n=>some (v,n)|_=>none
noncomputable def Dj:Data->Option FuncData|.func z=>some z|_=>none
noncomputable def zP:Data->Bool|.plain=>true|_=>false
end
noncomputable def vm:List Addr->List Addr|[]=>[]|a::l=>a::(a-1)::vm l
noncomputable def hV(T:ct):List Addr:=vm (T.cls.map (·.1))++(cStatics::140::184::199::221::318::473::840::911::996::1004::vm (T.fns.map (·.1)))
noncomputable def gH(g:Addr->Option Obj):List Addr->Frag
 |[]=>[]
 |a::l=>match g a with|some o=>(a,o)::gH g l|none=>gH g l
noncomputable def yo(o:Option CFound)(v:Value):Bool:=match o with|some c=>(match c with|.val u=>u==v|.get ..=>false)|none=>false
noncomputable def xn(B:Frag)(E:Addr)(x:Str):Bool:=(match findIn B (.ref E) x with|some a=>noGet B a|none=>false)&&takerIn B E x==some none
noncomputable def yk(B:Frag)(E:Addr)(p:Str×Addr):Bool:=findIn B (.ref E) p.1==some (some<|.ref p.2)&&(typeIn B (.ref p.2)==some (.type "function")&&(specialIn B (.ref p.2) "__get__"==some (some<|.builtin "function.__get__")&&
 (takesIn B (.ref p.2)==some false&&(!copiedNames.contains p.1&&yo (findCls B (.ref E) (.type "type") p.1) (.ref p.2)))))
def xv(B:Frag)(E:Addr)(k:Cl):Bool:=findIn B (.ref E) "__getattribute__"==some (some<|.builtin<|AX k.exc)&&(findIn B (.ref E) "__getattr__"==some none&&(hasDictIn B E&&((!k.exc||mroIn B E (.type "BaseException")==some true)&&(k.own.all (xn B E)&&(k.eE.all (yk B E)&&
 (findIn B (.ref E) "__setattr__"==some (some<|.builtin "object.__setattr__")&&(yb B E&&(readsIn B E (.type "type")&&specialIn B (.ref E) "__getattribute__"==some (some<|.builtin "type.__getattribute__")))))))))
noncomputable def Qh(B:Frag)(E:Addr):Option Addr->Bool|none=>true|some z=>findIn B (.ref E) "__init__"==some (some<|.ref z)&&typeIn B (.ref z)==some (.type "function")
def wP(B:Frag)(E:Addr)(k:Cl):Bool:=Qh B E k.init&&((match k.exc with|true=>uy B E|false=>makesIn B E)&&keepIn B (.ref E))
def subB(B:Frag)(T:ct)(p:Addr×List Addr):Bool:=mroIn B p.1 (.type "BaseException")==some true&&(typeIn B (.ref p.1)==some (.type "type")&&(vT B p.1&&T.sub.all λq=>mroIn B p.1 (.ref q.1)==some (p.2.any<|Nat.beq q.1)))
def uP(o:Option Obj):Option (List Value):=ob o λo=>ob (DO o.data) λp=>aB (jg o.dict&&(dv o.slots.toList&&(o.cls==.type "tuple"&&Nat.beq p.2 0))) (some p.1.toList) none
def zd(x:List Nat)(v:Value):Bool:=dm (wB v) λy=>ar y.cps.toList x&&Nat.ble x.length lim
mutual
noncomputable def r0 (g:Addr->Option (List Value)):V->Value->Bool
 |.tup l,v=>dm (lx v) λa=>dm (g a) λD=>Nat.ble D.length lim&&mu g l D|.fn z,v=>v==.ref z|.none,v=>v==.none|.bool b,v=>v==.bool b|.int i,v=>dm (DB v)<|kx i
 |.str x,v=>zd x v|.ref _,_=>false|.blt _,_=>false|.bm _ _,_=>false|.an _ _,_=>false|.bY _ _ _,_=>false
noncomputable def mu (g:Addr->Option (List Value)):List V->List Value->Bool|[],D=>(match D with|[]=>true|_::_=>false)|a::l,D=>(match D with|[]=>false|v::D=>r0 g a v&&mu g l D)
end
def rD(o:Option Obj):Option FuncData:=ob o λo=>ob (Dj o.data) λfd=>aB (o.cls==.type "function") (some fd) none
abbrev uB:=Option<|Scope×FuncBody×List (Str×Addr)×Addr×Addr×List Arg×Option Arg×List Arg×Option Arg×List Str
def pL(B:Frag)(z:Addr):uB:=(rD<|B.lookup z).map λfd=>(fd.scope,fd.body,fd.closure,fd.globals,fd.builtins,fd.params.posonlyargs,fd.params.vararg,fd.params.kwonlyargs,fd.params.kwarg,fd.params.args.map (·.arg))
noncomputable def rV(fn:Fn):uB:=some (fn.scope,.stmts fn.body,[],mainGlobals,builtinsNs,[],none,[],none,fn.params)
def D1(B:Frag)(fd:FuncData)(l:List V):Bool:=(dv l&&fd.defaults==.none)||dm (lx fd.defaults) λaa=>dm (uP<|B.lookup aa)<|mu (λ_=>none) l
def B1(B:Frag)(fd:FuncData):Bool:=dm (lx fd.code) λc=>dm (B.lookup c) λo=>dm (wG o.data) λD=>dm (ob (D[1]? :Option Value) wB) λx=>sq x fd.qualname
noncomputable def rF:List Str->Bool|[]=>true|x::l=>!dX x l&&rF l
def AY(B:Frag)(p:Addr×Fn):Bool:=dm (rD<|B.lookup p.1) λfd=>D1 B fd p.2.dz&&B1 B fd
def v7(p:Addr×Fn):Bool:=it p.2.scope&&(rF p.2.params&&Nat.ble p.2.dz.length p.2.params.length)
def Oh(B:Frag)(T:ct):Bool:=dm (rD<|B.lookup T.hU) λfd=>fd.code==.ref T.gh&&sq (fd.qualname++(".<locals>.":Str)) T.ga
def sK(x:Str)(v:Value):Bool:=match v with|.str y _=>sq y x|_=>false
noncomputable def na(x:Str):List DictEntry->Option Value|[]=>none|e::l=>match sK x e.key with|true=>some e.val|false=>na x l
set_option backward.match.sparseCases true in
def lS(g:Addr->Option Obj)(a:Addr)(x:Str):Option Value:=match g a with|some o=>(match o.data with|.dict es _=>na x es.toList|_=>none)|none=>none
set_option backward.match.sparseCases true in
noncomputable def uD(g:Addr->Option Obj)(a:Addr):Bool:=match g a with|some o=>(match o.data with|.dict es _=>es.all (λe=>match e.key with|.str _ _=>true|_=>false)|_=>false)|none=>false
def Qj(g:Addr->Option Obj)(p:Str×V):Bool:=dm (lS g mainGlobals p.1)<|r0 (λa=>uP<|g a) p.2
def zh(g:Addr->Option Obj)(T:ct)(p:Str×ey):Bool:=match aC p.1 T.G with|some _=>true|none=>(lS g mainGlobals p.1).isNone&&lS g builtinsNs p.1==some p.2.val
def Uy(o:Option Obj):Bool:=dm o λo=>o.cls==.type "module"&&(o.dict==some builtinsNs&&zP o.data)
def AU(g:Addr->Option Obj)(a3:Addr):Bool:=dm (ob (lS g mainGlobals "__builtins__") lx) λbm=>!Nat.beq bm builtinsNs&&(!Nat.beq bm mainGlobals&&(!Nat.beq bm a3&&Uy (g bm)))
def yt(o:Option Obj):Bool:=dm o λo=>o.cls==.none&&(jg o.dict&&(dv o.slots.toList&&dm (wG o.data) λD=>dv D.toList))
noncomputable def mY(z:Nat->Bool):Nat->Bool|0=>true|n+1=>match z n with|true=>mY z n|false=>false
noncomputable def C'(o:Option Obj):Bool:=match o with|some o=>!(o.cls==.type "traceback")|none=>true
def xG(T:ct)(B:Frag):Bool:=T.cls.all (λp=>xv B p.1 p.2)&&(T.cls.all (λp=>wP B p.1 p.2)&&T.sub.all (subB B T))
def vk(T:ct)(B:Frag)(a3:Addr):Bool:=T.fns.all (AY B)&&(Oh B T&&(codeHdIn B T.gh a3&&(!((hV T).any<|Nat.beq a3))))
def wi(g:Addr->Option Obj)(n:Nat)(T:ct)(a3:Addr):Bool:=mY (λa=>C'<|g a) n&&(uD g mainGlobals&&(uD g builtinsNs&&(uD g cStatics&&((lS g cStatics "sys.recursionlimit").isNone&&(T.G.all (Qj g)&&(T.B.all (zh g T)&&(AU g a3&&(yt (g a3)&&((g sysModules).isSome&&(!Nat.beq cStatics a3&&!Nat.beq sysModules a3))))))))))
noncomputable def nx(s:SharedT)(a:Addr):Option Obj:=match Nat.blt a s.n with|true=>(s.tree.get a).bind alive|false=>none
noncomputable def Bm(s:SharedT):Bool:=mY (λa=>(s.tree.get a).isSome) s.n
def Ea:tab.fns.all v7=true:=by decide+kernel
def TY(w:World)(os:OsState):(nr w os).map (λr=>(xG tab<|gH (nx r.2.1)<|hV tab,tab.fns.map λp=>pL (gH (nx r.2.1)<|hV tab) p.1))=some (true,tab.fns.map λp=>rV p.2):=by kernel_rfl
def MF(w:World)(os:OsState):(nr w os).map (λr=>vk tab (gH (nx r.2.1)<|hV tab) 1109&&(wi (nx r.2.1) r.2.1.n tab 1109&&Bm r.2.1))=some true:=by kernel_rfl
def e0(f:A)(h:B)(j:E):A/\B/\E:=⟨f,h,j⟩
def GI(f:A)(h:B)(j:E)(k:aa):A/\B/\E/\aa:=⟨f,h,j,k⟩
def ME(f:A)(h:B)(j:E)(k:aa)(u:U):A/\B/\E/\aa/\U:=⟨f,h,j,k,u⟩
def zS(f:A)(h:B)(j:E)(k:aa)(u:U)(x:F):A/\B/\E/\aa/\U/\F:=⟨f,h,j,k,u,x⟩
def a8{A B:f->Prop}(x)(h:A x)(j:B x):∃x,A x/\B x:=⟨x,h,j⟩
def fE{A B E:f->Prop}(x)(h:A x)(j:B x)(k:E x):∃x,A x/\B x/\E x:=⟨x,h,j,k⟩
def RN{A B E aa:f->Prop}(x)(h:A x)(j:B x)(k:E x)(u:aa x):∃x,A x/\B x/\E x/\aa x:=⟨x,h,j,k,u⟩
def Gd{A B E aa U F G:f->Prop}(x)(h:A x)(j:B x)(k:E x)(u:aa x)(y:U x)(z:F x)(C:G x):∃x,A x/\B x/\E x/\aa x/\U x/\F x/\G x:=⟨x,h,j,k,u,y,z,C⟩
def lX{A:f->h->Prop}(x)(y)(j:A x y):∃x y,A x y:=⟨x,y,j⟩
def dZ{A B:f->h->Prop}(x)(y)(j:A x y)(k:B x y):∃x y,A x y/\B x y:=⟨x,y,j,k⟩
def pP{A B E:f->h->Prop}(x)(y)(j:A x y)(k:B x y)(u:E x y):∃x y,A x y/\B x y/\E x y:=⟨x,y,j,k,u⟩
def EE{A B E aa:f->h->Prop}(x)(y)(j:A x y)(k:B x y)(u:E x y)(z:aa x y):∃x y,A x y/\B x y/\E x y/\aa x y:=⟨x,y,j,k,u,z⟩
def u7{A B:f->h->j->Prop}(x)(y)(C)(k:A x y C)(u:B x y C):∃x y C,A x y C/\B x y C:=⟨x,y,C,k,u⟩
def oU{A B E:f->h->j->Prop}(x)(y)(C)(k:A x y C)(u:B x y C)(z:E x y C):∃x y C,A x y C/\B x y C/\E x y C:=⟨x,y,C,k,u,z⟩
def pR{A B E aa:f->h->j->Prop}(x)(y)(C)(k:A x y C)(u:B x y C)(z:E x y C)(D:aa x y C):∃x y C,A x y C/\B x y C/\E x y C/\aa x y C:=⟨x,y,C,k,u,z,D⟩
def GB{A B E aa U:f->h->j->Prop}(x)(y)(C)(k:A x y C)(u:B x y C)(z:E x y C)(D:aa x y C)(I:U x y C):∃x y C,A x y C/\B x y C/\E x y C/\aa x y C/\U x y C:=⟨x,y,C,k,u,z,D,I⟩
def yO{A B E aa U F:f->h->j->Prop}(x)(y)(C)(k:A x y C)(u:B x y C)(z:E x y C)(D:aa x y C)(I:U x y C)(J:F x y C):∃x y C,A x y C/\B x y C/\E x y C/\aa x y C/\U x y C/\F x y C:=⟨x,y,C,k,u,z,D,I,J⟩
def Ku{A B E aa:f->h->j->k->Prop}(x)(y)(C)(u)(z:A x y C u)(D:B x y C u)(I:E x y C u)(J:aa x y C u):∃x y C u,A x y C u/\B x y C u/\E x y C u/\aa x y C u:=⟨x,y,C,u,z,D,I,J⟩
def Kr{A B E aa U:f->h->j->k->Prop}(x)(y)(C)(u)(z:A x y C u)(D:B x y C u)(I:E x y C u)(J:aa x y C u)(N:U x y C u):∃x y C u,A x y C u/\B x y C u/\E x y C u/\aa x y C u/\U x y C u:=⟨x,y,C,u,z,D,I,J,N⟩
def yZ{A:f->h->j->k->z->Prop}(x)(y)(C)(u)(v)(D:A x y C u v):∃x y C u v,A x y C u v:=⟨x,y,C,u,v,D⟩
def Jf{A B:f->h->j->k->z->Prop}(x)(y)(C)(u)(v)(D:A x y C u v)(E:B x y C u v):∃x y C u v,A x y C u v/\B x y C u v:=⟨x,y,C,u,v,D,E⟩
def PK{A B E:f->h->j->k->z->Prop}(x)(y)(C)(u)(v)(D:A x y C u v)(I:B x y C u v)(J:E x y C u v):∃x y C u v,A x y C u v/\B x y C u v/\E x y C u v:=⟨x,y,C,u,v,D,I,J⟩
def uN{A B E aa:f->h->j->k->z->Prop}(x)(y)(C)(u)(v)(D:A x y C u v)(I:B x y C u v)(J:E x y C u v)(N:aa x y C u v):∃x y C u v,A x y C u v/\B x y C u v/\E x y C u v/\aa x y C u v:=⟨x,y,C,u,v,D,I,J,N⟩
def aS{P:Prop}(h:A/\B)(k:A->B->P):P:=by obtain⟨f,j⟩:=h;exact k f j
def c5{P:Prop}(h:A/\B/\E)(k:A->B->E->P):P:=by obtain⟨f,j,u⟩:=h;exact k f j u
def jF{P:Prop}(h:A/\B/\E/\aa)(k:A->B->E->aa->P):P:=by obtain⟨f,j,u,x⟩:=h;exact k f j u x
def oj{P:Prop}(h:A/\B/\E/\aa/\U)(k:A->B->E->aa->U->P):P:=by obtain⟨f,j,u,x,y⟩:=h;exact k f j u x y
def uh{P:Prop}(h:A/\B/\E/\aa/\U/\F)(k:A->B->E->aa->U->F->P):P:=by obtain⟨f,j,u,x,y,z⟩:=h;exact k f j u x y z
def Md{P:Prop}(h:A/\B/\E/\aa/\U/\F/\G/\H)(k:A->B->E->aa->U->F->G->H->P):P:=by obtain⟨f,j,u,x,y,z,C,h'⟩:=h;exact k f j u x y z C h'
def aU{A:f->Prop}{P:Prop}(h:∃x,A x)(k:∀x,A x->P):P:=by obtain⟨x,j⟩:=h;exact k x j
def aZ{A B:f->Prop}{P:Prop}(h:∃x,A x/\B x)(k:∀x,A x->B x->P):P:=by obtain⟨x,j,u⟩:=h;exact k x j u
def dD{A B E:f->Prop}{P:Prop}(h:∃x,A x/\B x/\E x)(k:∀x,A x->B x->E x->P):P:=by obtain⟨x,j,u,y⟩:=h;exact k x j u y
def iA{A B E aa:f->Prop}{P:Prop}(h:∃x,A x/\B x/\E x/\aa x)(k:∀x,A x->B x->E x->aa x->P):P:=by obtain⟨x,j,u,y,z⟩:=h;exact k x j u y z
def Aq{A B E aa U F G:f->Prop}{P:Prop}(h:∃x,A x/\B x/\E x/\aa x/\U x/\F x/\G x)(k:∀x,A x->B x->E x->aa x->U x->F x->G x->P):P:=by obtain⟨x,j,u,y,z,C,D,I⟩:=h;exact k x j u y z C D I
def g8{A:f->j->Prop}{P:Prop}(h:∃x y,A x y)(k:∀x y,A x y->P):P:=by obtain⟨x,y,u⟩:=h;exact k x y u
def bU{A B:f->j->Prop}{P:Prop}(h:∃x y,A x y/\B x y)(k:∀x y,A x y->B x y->P):P:=by obtain⟨x,y,u,z⟩:=h;exact k x y u z
def e6{A B E:f->j->Prop}{P:Prop}(h:∃x y,A x y/\B x y/\E x y)(k:∀x y,A x y->B x y->E x y->P):P:=by obtain⟨x,y,u,z,C⟩:=h;exact k x y u z C
def kG{A B E aa:f->j->Prop}{P:Prop}(h:∃x y,A x y/\B x y/\E x y/\aa x y)(k:∀x y,A x y->B x y->E x y->aa x y->P):P:=by obtain⟨x,y,u,z,C,D⟩:=h;exact k x y u z C D
def Al{A B E aa U F:f->j->Prop}{P:Prop}(h:∃x y,A x y/\B x y/\E x y/\aa x y/\U x y/\F x y)(k:∀x y,A x y->B x y->E x y->aa x y->U x y->F x y->P):P:=by obtain⟨x,y,u,z,C,D,I,J⟩:=h;exact k x y u z C D I J
def RH{A B E aa U F G H:f->j->Prop}{P:Prop}(h:∃x y,A x y/\B x y/\E x y/\aa x y/\U x y/\F x y/\G x y/\H x y)(k:∀x y,A x y->B x y->E x y->aa x y->U x y->F x y->G x y->H x y->P):P:=by obtain⟨x,y,u,z,C,D,I,J,N,h'⟩:=h;exact k x y u z C D I J N h'
def jZ{A B:f->j->u->Prop}{P:Prop}(h:∃x y C,A x y C/\B x y C)(k:∀x y C,A x y C->B x y C->P):P:=by obtain⟨x,y,C,z,D⟩:=h;exact k x y C z D
def ea{A B E:f->j->u->Prop}{P:Prop}(h:∃x y C,A x y C/\B x y C/\E x y C)(k:∀x y C,A x y C->B x y C->E x y C->P):P:=by obtain⟨x,y,C,z,D,I⟩:=h;exact k x y C z D I
def gP{A B E aa:f->j->u->Prop}{P:Prop}(h:∃x y C,A x y C/\B x y C/\E x y C/\aa x y C)(k:∀x y C,A x y C->B x y C->E x y C->aa x y C->P):P:=by obtain⟨x,y,C,z,D,I,J⟩:=h;exact k x y C z D I J
def SO{A B E aa U:f->j->u->Prop}{P:Prop}(h:∃x y C,A x y C/\B x y C/\E x y C/\aa x y C/\U x y C)(k:∀x y C,A x y C->B x y C->E x y C->aa x y C->U x y C->P):P:=by obtain⟨x,y,C,z,D,I,J,N⟩:=h;exact k x y C z D I J N
def yP{A B E aa U F:f->j->u->Prop}{P:Prop}(h:∃x y C,A x y C/\B x y C/\E x y C/\aa x y C/\U x y C/\F x y C)(k:∀x y C,A x y C->B x y C->E x y C->aa x y C->U x y C->F x y C->P):P:=by obtain⟨x,y,C,z,D,I,J,N,O⟩:=h;exact k x y C z D I J N O
def Bi{A B:f->j->z->D->Prop}{P:Prop}(h:∃x y C u,A x y C u/\B x y C u)(k:∀x y C u,A x y C u->B x y C u->P):P:=by obtain⟨x,y,C,u,E,I⟩:=h;exact k x y C u E I
def Fy{A B E:f->j->z->D->Prop}{P:Prop}(h:∃x y C u,A x y C u/\B x y C u/\E x y C u)(k:∀x y C u,A x y C u->B x y C u->E x y C u->P):P:=by obtain⟨x,y,C,u,I,J,N⟩:=h;exact k x y C u I J N
def tH{A B E aa:f->j->z->D->Prop}{P:Prop}(h:∃x y C u,A x y C u/\B x y C u/\E x y C u/\aa x y C u)(k:∀x y C u,A x y C u->B x y C u->E x y C u->aa x y C u->P):P:=by obtain⟨x,y,C,u,I,J,N,O⟩:=h;exact k x y C u I J N O
def Bw{A B E aa U:f->j->z->D->Prop}{P:Prop}(h:∃x y C u,A x y C u/\B x y C u/\E x y C u/\aa x y C u/\U x y C u)(k:∀x y C u,A x y C u->B x y C u->E x y C u->aa x y C u->U x y C u->P):P:=by obtain⟨x,y,C,u,I,J,N,O,T⟩:=h;exact k x y C u I J N O T
def gk{A:f->j->z->D->E->Prop}{P:Prop}(h:∃x y C u v,A x y C u v)(k:∀x y C u v,A x y C u v->P):P:=by obtain⟨x,y,C,u,v,I⟩:=h;exact k x y C u v I
def A5{A B:f->j->z->D->E->Prop}{P:Prop}(h:∃x y C u v,A x y C u v/\B x y C u v)(k:∀x y C u v,A x y C u v->B x y C u v->P):P:=by obtain⟨x,y,C,u,v,I,J⟩:=h;exact k x y C u v I J
def CA{A B E:f->j->z->D->I->Prop}{P:Prop}(h:∃x y C u v,A x y C u v/\B x y C u v/\E x y C u v)(k:∀x y C u v,A x y C u v->B x y C u v->E x y C u v->P):P:=by obtain⟨x,y,C,u,v,J,N,O⟩:=h;exact k x y C u v J N O
def NR{A B E aa:f->j->z->D->I->Prop}{P:Prop}(h:∃x y C u v,A x y C u v/\B x y C u v/\E x y C u v/\aa x y C u v)(k:∀x y C u v,A x y C u v->B x y C u v->E x y C u v->aa x y C u v->P):P:=by obtain⟨x,y,C,u,v,J,N,O,T⟩:=h;exact k x y C u v J N O T
def QJ{A B E aa U:f->j->z->D->I->Prop}{P:Prop}(h:∃x y C u v,A x y C u v/\B x y C u v/\E x y C u v/\aa x y C u v/\U x y C u v)(k:∀x y C u v,A x y C u v->B x y C u v->E x y C u v->aa x y C u v->U x y C u v->P):P:=by obtain⟨x,y,C,u,v,J,N,O,T,W⟩:=h;exact k x y C u v J N O T W
def lY{p:Prop}(h:∀Z:Prop,(p->Z)->Z):p:=h p id
def zb{P:Prop}(h:(a&&b)=true)(k:a=true->b=true->P):P:=k (cY.mp h).1 (cY.mp h).2
def zp{f j:Type _}{a c:f}{b d:j}{P:Prop}(h:(a,b)=(c,d))(k:a=c->b=d->P):P:=by cases h;exact k rfl rfl
@[elab_as_elim] theorem Y {f:Sort _} {a b:f} {p:f->Prop} (e:a=b) (h:p b):p a:=e▸h
def Jb(w)(os):segRun treeTable eu w 11 (some<|.ref 6) 1 1 (ln w os) (blockOf xw v1 jB pz [topFrame pz])=some (.next,ln w os,jB,pz):=by rfl
def QQ(w)(s):topRun treeTable eu w 11 (some<|.ref 6) 3 s ⟨doneF .next,jB,q4,[topFrame pz]⟩=some s:=by rfl
def HI(w)(os):((S0 w os).heap.isNs mainGlobals&&(S0 w os).gens.size==0,(S0 w os).heap.objs.size,(S0 w os).heap.nsMap mainGlobals "__annotations__")=(true,11,some<|.ref 6):=by kernel_rfl
def KU(h:Bm s=true):s.abs.heap.get?=nx s:=by
 funext a;unfold nx;rcases c:Nat.blt a s.n;exact abs_get_none λh=>Bool.noConfusion<|c.symm.trans<|w9 h
 .have j:=bE c;have:∀{n:Nat},mY (λa=>(s.tree.get a).isSome) n=true->∀k,k<n->(s.tree.get k).isSome=true:=λ{n}=>by
   induction n with
   |zero=>intro _ k h;exact absurd h<|hy k
   |succ n u=>intro e k aP;have e:(match(s.tree.get n).isSome with|true=>mY (λa=>(s.tree.get a).isSome) n|false=>false)=true:=e;revert e;rcases f:(s.tree.get n).isSome;intro e;cases e;intro e;rcases dE k n with C|C;exact u e k C;exact Y (ce (eX aP) C) f
  exact aU (vz.mp<|this h a j) λo e=>(abs_get j e).trans<|by refine Y e ?_;rfl
abbrev E7:=Bool×List uB
def sS(s:Shared):E7:=(xG tab (gH s.heap.get?<|hV tab)&&(vk tab (gH s.heap.get?<|hV tab) 1109&&wi s.heap.get? s.heap.objs.size tab 1109),tab.fns.map λp=>pL (gH s.heap.get?<|hV tab) p.1)
def sD(_:World):E7:=(true,tab.fns.map λp=>rV p.2)
def ID(w)(os):∃st,nr w os=some (.next,st,jB,q4)/\C6 w os st.abs=(openGood lm tj,true)/\sS st.abs=sD w:=by refine aZ (kW.mp<|QT w os) λr e f=>aZ (kW.mp<|TY w os) λU j C=>?_;rw[e]at j;cases j;refine aZ (kW.mp<|MF w os) λU j y=>?_;rw[e]at j;cases j;obtain⟨z,st,c,q⟩:=r;refine zp f λu f=>zp f λk f=>zp f λx f=>zp f λh f=>zp f λD E=>?_;clear f;refine zp C λI J=>?_;have u:z=.next:=u;have k:c=jB:=k;have x:q=q4:=x;clear C h f;subst u k x;clear f;refine zb y λN y=>?_;clear f;refine zb y λO T=>?_;have g:=KU T;have W:st.abs.heap.objs.size=st.n:=absHeap_size ..;refine fE st e (Prod.ext D E) ?_;unfold sS sD;refine Y g<|Y W<|Y I<|Y J<|Y N<|Y O ?_;rfl
def Kh(x:(h.heap.isNs mainGlobals&&h.gens.size==0)=true)(y:h.heap.objs.size=k)(z:h.heap.nsMap mainGlobals "__annotations__"=j)(run:topRun tb p w k j N h (topStub p)=some f)(hm:importedModules p.main.body=mods)(l:(staticsOk mods h.heap f.heap&&(namesBound p f.heap&&(gensDone f&&laidKept h.heap f.heap)))=true):topFrom tb p w N h=some f:=by refine zb l λa1 l=>zb l λa2 l=>zb l λfg u=>?_;unfold topFrom;refine Y x<|Y y<|Y z<|Y run<|Y hm ?_;show(match staticsOk mods h.heap f.heap&&namesBound p f.heap&&gensDone f&&laidKept h.heap f.heap with|true=>some f|false=>none)=_;refine Y a1<|Y a2<|Y fg<|Y u ?_;rfl
def K'{f:Type}{z:Shared->f}{x:World->f}(e:fencedOpening treeTable p w N=some j)(t:topFrom treeTable p w N j=some k)(hm:importedModules p.main.body=mods)(l:openSeen q h mods u true k=openGood q h)(y:z k=x w):(openEnds treeTable p w N).map (λs=>(openSeen q h (importedModules p.main.body) u true s,z s))=some (openGood q h,x w):=by unfold openEnds;refine Y e ?_;show(topFrom treeTable p w N j).map _=_;exact Y t<|Y hm<|az some<|Prod.ext l y
noncomputable abbrev wX:Nat:=12+(1+(7600+3))
def Tb(w)(os)(h:nr w os=some (.next,f,jB,q4)):topRun treeTable eu w 11 (some<|.ref 6) wX (S0 w os) (topStub eu)=some f.abs:=by unfold nr at h;rw[<-Fast.te10110043849684766642,<-Fast.te14364793385576792824]at h;have j:=segRun_of h;rw[Ol]at j;have k:=piece_app (rest:=[]) (q:=pz) (N:=3) (r:=f.abs) j<|piece_nil<|QQ w f.abs;rw[be]at k;exact go_top (Mq w os)<|piece_block (Jb w os) k
def PD{o:Option Shared}(e:o.map (λs=>(s.heap,s.gens,s.drawn,s.toks))=some (h,j,d,k)):∃os,o=some ⟨h,j,d,k,os⟩:=by
 obtain⟨⟨f,g,nc,y,os⟩,x,u⟩:=kW.mp e;clear e;obtain⟨rfl,rfl,rfl,rfl⟩:f=h/\g=j/\nc=d/\y=k:=by simpa using u
 exact⟨os,x⟩
def LG:LeftO eu lm tj (λ_=>true) sS sD wX:=λw=>by exact aU (PD<|boot_open (N:=wX) Nm rfl Ml w) λos e=>dD (ID w os) λst f hl h=>zp (HI w os) λu C=>zp C λx y=>zp hl λj k=>K' e (Kh u x y (Tb w os f) za k) za j h
def KQ:(defOf lm eH.name).map (λx=>(eH.prog.theDef eH.name,kwWritten? x.1.params.kwonlyargs x.1.params.kw_defaults))=(defOf lm eH.name).map (λx=>(some (x.1.params,x.1.body,x.1.scope),some x.2)):=by kernel_rfl
def F2:eH.prog.bare:=⟨by kernel_rfl,by kernel_rfl,by kernel_rfl,by kernel_rfl,by kernel_rfl,by kernel_rfl⟩
noncomputable abbrev tu:WTm:=.lt (.lit<|.int 63)<|.len<|.arg 0
def Us(h:WTm.holds [] (.and (.not tu)<|.lit<|.bool true) {args:=[.list l]}=true):l.length<=63:=by
 refine md λC=>?_;have v:WTm.value [] tu {args:=[.list l]}=some (.bool<|decide<|(63:Int)<(l.length:Int)):=by kernel_rfl
 rw[ik<|show(63:Int)<(l.length:Int) from jf.mpr C]at v;have v:WTm.value [] (.not tu) {args:=[.list l]}=some (.bool false):=by rw[WTm.value,v];rfl
 have v:WTm.value [] (.and (.not tu)<|.lit<|.bool true) {args:=[.list l]}=some (.bool false):=by rw[WTm.value,v]
 rw[WTm.holds,v]at h;cases h
theorem ints_of:∀{l},WShape.hasItems [] l .int=true->∃k:List Int,l=k.map .int|[],_=>⟨[],rfl⟩|d::l,h=>by refine zb (show(WShape.has [] d .int&&WShape.hasItems [] l .int)=true from h) λf j=>aU (hasW_int f) λi u=>?_;subst u;refine aU (ints_of j) λk x=>?_;subst x;exact⟨i::k,rfl⟩
def OL(h:eH.toRowW.claim.pre args=true):∃u:List Int,args=[.list<|u.map .int]/\u.length<=63:=by refine zb (show(WShape.hasAll [] args [.list .int]&&WTm.holds [] (.and (.not<|.lt (.lit<|.int 63)<|.len<|.arg 0)<|.lit<|.bool true) {args:=args})=true from h) λf j=>?_;rcases args with _|⟨d,r⟩;cases f;refine zb (show(WShape.has [] d (.list .int)&&WShape.hasAll [] r [])=true from f) λk x=>?_;rcases r;refine aZ (hasW_list k) λl z y=>?_;subst z;refine aU (ints_of y) λu C=>?_;subst C;exact⟨u,rfl,by simpa using Us j⟩;cases x
theorem BQ:∀{u:List Int}{s r},layAllW k cl P ord (u.map .int) s=some r->r.2.heap=s.heap
 |[],s,r,h=>by cases h;rfl
 |i::u,s,r,h=>by refine e6 (layAllW_cons h) λa q f j x=>?_;subst x;cases f;exact(BQ j:_)
def Se:eH.toRowW.promised:=⟨[.list [.int 3,.int 1]],by decide+kernel,by decide+kernel⟩
def SG:decide (cp.foot<=(behindTheImports cp.prog).length)=true:=by kernel_rfl
def Jl:cp.footing.all footLine=true:=by kernel_rfl
def F7:noClassBlock cp.prog cp.footing=true:=by kernel_rfl
def Qq:defStands cp.about cp.above=true:=by kernel_rfl
def JO:cp.namesIt=true:=by kernel_rfl
def Ts:cp.own.contains cp.name=true:=by kernel_rfl
def Ti:(cp.own.eraseDups.length==cp.own.length)=true:=by kernel_rfl
def Gl:noRoadLSs {strict:=true,foot:=some cp.bound',writes:=cp.writes,may:=cp.may} cp.footing=true:=by kernel_rfl
def T5:(cp.bound'.all λn=>!builtinNamed n||cp.about==[n]||!cp.reads n)=true:=by kernel_rfl
def Qc:(cp.own.all λn=>!builtinNamed n)=true:=by kernel_rfl
def Hn:(namesMeet cp.prog cp.above λx n=>!cp.own.contains n)=true:=by kernel_rfl
def Ix:(namesMeet cp.prog cp.footing λsc n=>(!(["type","isinstance","issubclass","getattr","hasattr"]:List Str).contains n||sc.names.lookup n==some .globalImplicit)&&(cp.may !=some n||sc.kind==.module||sc.names.lookup n==some .globalImplicit))=true:=by kernel_rfl
def QC:(namesMeet cp.prog cp.footing λsc n=>sc.kind==.module||sc.names.lookup n !=some .globalExplicit)=true:=by kernel_rfl
def Hg:((["type","isinstance","issubclass","getattr","hasattr"]:List Str).all λn=>cp.about !=[n])=true:=by kernel_rfl
def GP:(!cp.writes||(cp.prog.main.body.flatMap importedNames).all λn=>!cp.reads n)=true:=by kernel_rfl
def It:((cp.prog.main.body.flatMap importedNames).all λn=>!cp.reads n||(drawsOf n cp.prog.main.body).all λf=>f.2 !=("attrgetter":Str)&&f.2 !=("methodcaller":Str))=true:=by kernel_rfl
def I1:cp.most.all (λn=>decide<|63<=n)=true:=by kernel_rfl
def S7:cp.bound.all (λn=>decide<|2^63<=n)=true:=by kernel_rfl
def O3:cp.wellSaid=true:=by unfold OpenLaw.wellSaid;exact fC (fC (fC (fC (fC (fC (fC (fC (fC (fC (fC (fC (fC (fC (fC (fC (fC (fC Bg SG) Jl) F7) I1) S7) Gl) Qq) JO) Hg) T5) GP) It) Ix) Ts) Ti) Qc) Hn) QC
abbrev a6:=List<|Addr×Addr
noncomputable abbrev EK(lo j:Int)(t u v:Tok):Obj:={cls:=.type "range",data:=.fields #[.int lo t,.int j u,.int 1 v]}
noncomputable abbrev DE(f:Str)(body:Expr)(scope:Scope)(cl:List<|Str×Addr)(j h:Value)(c:Addr):FuncData:=kla_fn ⟨#[60,108,97,109,98,100,97,62]⟩ f ⟨[],[],none,[],[],none,[]⟩ body scope cl j (.ref c) h
noncomputable abbrev zW(f:Str)(body:Expr)(scope:Scope)(cl:List<|Str×Addr)(j h:Value)(c:Addr):Obj:={cls:=.type "function",data:=.func<|DE f body scope cl j h c}
def iW(h:Heap)(c:Addr)(q:Str):Prop:=∃o D t,h.get? c=some o/\o.cls=.type "code"/\o.data=.fields D/\D[1]? =some (.str q t)
def iW.rec(k:iW h c q):h.CodeRec (.ref c) q:=let⟨o,D,t,e,_,d,x⟩:=k;⟨c,o,D,t,rfl,e,d,x⟩
def gC(f:a6)(cl:List<|Str×Nat)(k:List<|Str×Addr):Prop:=∀x i,aC x (db cl)=some (.ref i)->∃a d,k.lookup x=some a/\f[i]? =some (a,d)
noncomputable abbrev ir(D:List Value):Obj:={cls:=.type "tuple",data:=.seq D.toArray}
mutual
inductive RV (f:a6) (h:Heap):V->Value->Prop|none:RV f h .none .none|bool {b:Bool}:RV f h (.bool b) (.bool b)|int {i:Int} {t:Tok}:RV f h (.int i) (.int i t)|str {x:List Nat} {t:Tok}:x.length<=lim->RV f h (.str x) (.str ⟨x.toArray⟩ t)|tup {l:List V} {a:Addr} {D:List Value}:h.get? a=some (ir D)->D.length<=lim->aT f h l D->RV f h (.tup l) (.ref a)|ref {i:Nat} {a d:Addr}:f[i]? =some (a,d)->RV f h (.ref i) (.ref a)|fn {z:Addr}:RV f h (.fn z) (.ref z)|blt {b:ey} {v:Value}:v=b.val->RV f h (.blt b) v|an {lo j:Int} {a:Addr} {t u v:Tok}:h.get? a=some (EK lo j t u v)->RV f h (.an lo j) (.ref a)|bY {e:Expr} {sc:Scope} {cl:List (Str×Nat)} {a c:Addr} {q:Str} {k:List (Str×Addr)} {pm ct:Value}:h.get? a=some (zW q e sc k pm ct c)->iW h c q->gC f cl k->RV f h (.bY e sc cl) (.ref a)|bm {z:Addr} {i:Nat} {a d m:Addr}:f[i]? =some (a,d)->h.get? m=some (methodObj (.ref z) (.ref a))->RV f h (.bm z i) (.ref m)
inductive aT (f:a6) (h:Heap):List V->List Value->Prop|nil:aT f h [] []|cons {x:V} {v:Value} {l:List V} {D:List Value}:RV f h x v->aT f h l D->aT f h (x::l) (v::D)
end
inductive bI(P:Params)(f:a6)(h:Heap):List (Str×V)->List DictEntry->Prop|nil:bI P f h [] []|cons {x:Str} {t:Tok} {a:V} {v:Value} {l:List (Str×V)} {es:List DictEntry}:RV f h a v->bI P f h l es->bI P f h ((x,a)::l) (⟨PyData.keyHash P x,.str x t,v⟩::es)
def DZ(h:Heap)(tb:Value):Prop:=tb=.none\/∃t D,tb=.ref t/\h.get? t=some {cls:=.type "traceback",data:=.fields D}/\D.size=11
noncomputable abbrev ep(D:List Value)(n:Nat):Obj:={cls:=.type "list",data:=.seq D.toArray n}
noncomputable abbrev em(E:Addr)(d:Option Addr)(f tb h:Value):Obj:={cls:=.ref E,dict:=d,data:=.fields #[f,tb,h,.none,.bool false,.none]}
def jk(f:a6)(c:Option Nat)(h:Value):Prop:=match c with|none=>h=.none|some j=>∃a d,f[j]? =some (a,d)/\h=.ref a
def jE(f:a6)(j:Option Nat)(d:Option Addr):Prop:=match j with|none=>d=none|some j=>∃a e,f[j]? =some (a,e)/\d=some a
inductive Dw(f:a6)(h:Heap)(l:List V)(p:Addr):Prop|mk (D:List Value) (n:Nat) (e:h.get? p=some (ep D n)) (le:D.length<=lim) (q:aT f h l D)
inductive P6(P:Params)(f:a6)(h:Heap)(E:Addr)(k:List (Str×V))(p d:Addr):Prop|mk (es:List DictEntry) (n:Nat) (e:h.get? p=some (instObj E d)) (e':h.get? d=some (dictOf es n)) (q:bI P f h k es)
inductive SP(f:a6)(h:Heap)(E:Addr)(j c:Option Nat)(p:Addr):Prop|mk (d:Option Addr) (a0 tb cx:Value) (e:h.get? p=some (em E d a0 tb cx)) (dj:jE f j d) (t:DZ h tb) (cx:jk f c cx)
inductive Of(P:Params)(f:a6)(h:Heap)(k:List (Str×V))(p:Addr):Prop|mk (es:List DictEntry) (n:Nat) (e:h.get? p=some (dictOf es n)) (q:bI P f h k es)
inductive G9(f:a6)(h:Heap)(x:V)(p:Addr):Prop|mk (v:Value) (e:h.get? p=some {cls:=.type "cell",data:=.cell (some v)}) (q:RV f h x v)
def RO(P:Params)(f:a6)(h:Heap):au->Addr×Addr->Prop|.list l,p=>Dw f h l p.1|.inst E k,p=>P6 P f h E k p.1 p.2|.exc E j c,p=>SP f h E j c p.1|.dict k,p=>Of P f h k p.1|.cell none,p=>h.get? p.1=some {cls:=.type "cell",data:=.cell none}|.cell (some x),p=>G9 f h x p.1
noncomputable def foot:au->Addr×Addr->List Addr|.list _,p=>[p.1]|.dict _,p=>[p.1]|.inst ..,p=>[p.1,p.2]|.exc ..,p=>[p.1]|.cell _,p=>[p.1]
noncomputable def bz:aq->a6->List Addr|o::H,p::f=>foot o p++bz H f|_,_=>[]
structure kC(P:Params)(h₀:Heap)(f:a6)(H:aq)(h:Heap):Prop where
 len:f.length=H.length
 obj:∀(i:Nat)(o:au)(p:Addr×Addr),H[i]? =some o->f[i]? =some p->RO P f h o p
 nd:(bz H f).Nodup
 new:∀a∈bz H f,h₀.get? a=none
theorem ed:∀{H f}{i:Nat}{o p},H[i]? =some o->f[i]? =some p->∀a∈foot o p,a∈bz H f
 |o::H,p::f,0,o',j,e1,h,a,m=>by simp only[pV,pr]at e1 h;subst e1 h;exact fq _ m
 |o::H,p::f,i+1,o',j,e1,h,a,m=>gu _<|ed (by simpa using e1) (by simpa using h) a m
 |[],_,i,_,_,e1,_,_,_=>by simp at e1
 |_::_,[],i,_,_,_,h,_,_=>by simp at h
theorem m6:∀{H f a},a∈bz H f->∃(i:Nat)(o:au)(p:Addr×Addr),H[i]? =some o/\f[i]? =some p/\a∈foot o p
 |o::H,p::f,a,m=>by rcases d0.mp m with m|m;exact oU 0 o p rfl rfl m;exact ea (m6 m) λi o' j e1 h T=>oU (i+1) o' j (by simpa using e1) (by simpa using h) T
 |[],_,_,m=>nomatch(show _∈([]:List Addr) from m)|_::_,[],_,m=>nomatch(show _∈([]:List Addr) from m)
def mN(v:Value):Prop:=v=.type "list"\/v=.type "dict"\/v=.type "cell"\/∃E,v=.ref E
theorem RO.cls(r:RO P f h o p):∀a∈foot o p,∃b,h.get? a=some b/\mN b.cls:=by intro a m;rcases o with l|⟨E,k⟩|⟨E,k,c⟩|l|x;obtain⟨D,n,e,_,_⟩:=r;simp only[foot,b9]at m;subst m;exact a8 _ e<|.inl rfl;obtain⟨es,n,e1,j,_⟩:=r;simp only[foot,bC,vP,or_false]at m;rcases m with rfl|rfl;exact a8 _ e1<|.inr<|.inr<|.inr ⟨E,rfl⟩;exact a8 _ j<|.inr<|.inl rfl;obtain⟨d,u,tb,y,e1,_⟩:=r;simp only[foot,b9]at m;subst m;exact a8 _ e1<|.inr<|.inr<|.inr ⟨E,rfl⟩;obtain⟨D,n,e,_⟩:=r;simp only[foot,b9]at m;subst m;exact a8 _ e<|.inr<|.inl rfl;simp only[foot,b9]at m;subst m;rcases x with _|x;exact a8 _ r<|.inr<|.inr<|.inl rfl;obtain⟨v,e,_⟩:=r;exact a8 _ e<|.inr<|.inr<|.inl rfl
theorem kC.cls(R:kC P h₀ f H h)(m:a∈bz H f):∃b,h.get? a=some b/\mN b.cls:=by exact ea (m6 m) λi o p e1 j T=>(R.obj i o p e1 j).cls a T
def Sm(o o':Obj):Prop:=o'=o\/(o.cls=.type "frame"/\∃f,o'={o with slots:=f})\/(∃D U:Array Value,o={cls:=.type "traceback",data:=.fields D}/\o'={cls:=.type "traceback",data:=.fields U}/\U.size=D.size)
theorem Sm.trans(x:Sm a b)(y:Sm b c):Sm a c:=by
 rcases x with rfl|⟨f,u,rfl⟩|⟨D,U,rfl,rfl,h⟩;exact y
 .rcases y with rfl|⟨_,z,rfl⟩|⟨D,U,e,_,_⟩;exact .inr<|.inl ⟨f,u,rfl⟩;exact .inr<|.inl ⟨f,z,rfl⟩
  .exfalso
   have:=az Obj.cls e;dsimp only at this;rw[f]at this;exact absurd (e7 this)<|by decide
 .rcases y with rfl|⟨f,_,_⟩|⟨us,C,e,rfl,ht⟩;exact .inr<|.inr ⟨D,U,rfl,rfl,h⟩;exact absurd (e7 f)<|by decide
  .have j:U=us:=by injection e with _ _ k _;injection k
   clear e;subst j;exact .inr<|.inr ⟨D,C,rfl,rfl,ht.trans h⟩
def hZ(F:List Addr)(h h':Heap):Prop:=∀a o,a∉F->h.get? a=some o->∃o',h'.get? a=some o'/\Sm o o'
def hZ.refl(F)(h):hZ F h h:=λ_ o _ e=>⟨o,e,.inl rfl⟩
def hZ.mono(k:hZ F h h')(s:∀a∈F,a∈G):hZ G h h':=λa o n e=>k a o (λm=>n<|s a m) e
def hZ.plain(k:hZ F h h')(n:a∉F)(e:h.get? a=some o)(j:o.cls≠.type "frame")(u:o.cls≠.type "traceback"):h'.get? a=some o:=by refine aZ (k a o n e) λo' x s=>?_;rcases s with rfl|⟨f,_⟩|⟨D,U,rfl,_,_⟩;exact x;exact absurd f j;exact absurd rfl u
theorem hZ.trans(x:hZ F h h')(y:hZ G h' f)(s:∀a∈G,a∈F\/h.get? a=none):hZ F h f:=λa o n e=>by exact aZ (x a o n e) λo' j J=>aZ (y a o' (λm=>(s a m).elim n λC=>by rw[C]at e;cases e) j) λu k z=>a8 u k<|J.trans z
structure al where
 w:World
 h₀:Heap
 os:OsState
 lc:Addr
 a3:Addr
 ar:Str
structure a5(p:Addr)(L:List Addr)(f:a6)(H:aq)(h:Heap)(ab:a6)(H':aq)(h':Heap):Prop where
 ext:∃τ,ab=f++τ
 keep:hZ (p::(L++bz H f)) h h'
 new:∀a∈bz H' ab,a∈bz H f\/h.get? a=none
 live:∀a,h.get? a≠none->h'.get? a≠none
theorem a5.refl(p)(L)(f)(H)(h):a5 p L f H h f H h:=⟨⟨[],by simp⟩,.refl _ _,λ_ m=>.inl m,λ_ e=>e⟩
theorem a5.trans(x:a5 p L f H h ab H' h')(y:a5 p N ab H' h' u j k)(z:∀a∈N,a∈L\/h.get? a=none):a5 p L f H h u j k:=by refine aU x.ext λτ D=>?_;subst D;refine aU y.ext λI E=>?_;subst E;refine⟨⟨τ++I,by simp⟩,x.keep.trans y.keep λa m=>?_,λa m=>?_,λa e=>y.live a<|x.live a e⟩;rcases bC.mp m with rfl|m;exact .inl<|.head _;rcases d0.mp m with m|m;exact(z a m).imp (λC=>.tail _<|fq _ C) id;exact(x.new a m).imp (λC=>.tail _<|gu _ C) id;rcases y.new a m with m|m;exact x.new a m;right;rcases q:h.get? a with _|o;rfl;exact absurd m<|x.live a<|by refine Y q ?_;simp
def fI{i:Nat}(τ:a6)(e:f[i]? =some p):(f++τ)[i]? =some p:=by refine Y (dO (cc.mp e).1) ?_;exact e
def jE.more(τ)(x:jE f j d):jE (f++τ) j d:=by unfold jE at x⊢;split at x;exact x;exact bU x λa e q C=>dZ a e (fI τ q) C
def jk.more(τ)(x:jk f j d):jk (f++τ) j d:=by unfold jk at x⊢;split at x;exact x;exact bU x λa e q C=>dZ a e (fI τ q) C
def ki(v:Value):Prop:=v=.type "tuple"\/v=.type "method"\/v=.type "range"\/v=.type "function"\/v=.type "code"
def ki.ne(c:ki v)(u)(f:(["tuple","method","range","function","code"].contains u)=false):v≠.type u:=by intro e;subst e;rcases c with c|c|c|c|c<;>(injection c with c;subst c;exact absurd f (by decide))
def ki.led(c:ki v)(l:mN v):False:=by rcases l with l|l|l|⟨E,l⟩;exact c.ne "list" (by decide) l;exact c.ne "dict" (by decide) l;exact c.ne "cell" (by decide) l;subst l;rcases c with c|c|c|c|c<;>cases c
def cx(h h':Heap):Prop:=∀a o,h.get? a=some o->ki o.cls->h'.get? a=some o
def cx.refl(h):cx h h:=λ_ _ e _=>e
def cx.trans(x:cx h h')(y:cx h' f):cx h f:=λa o e c=>y a o (x a o e c) c
def iW.keep(k:cx h h')(x:iW h c q):iW h' c q:=let⟨o,D,t,e,c,d,y⟩:=x;⟨o,D,t,k _ _ e<|.inr<|.inr<|.inr<|.inr c,c,d,y⟩
def gC.keep(τ)(c:gC f l k):gC (f++τ) l k:=λx i e=>by exact bU (c x i e) λa d e1 h=>dZ a d e1<|fI τ h
theorem RV.keep(τ)(k:cx h h')(q:RV f h x v):RV (f++τ) h' x v:=
 RV.rec (motive_1:=λx v _=>RV (f++τ) h' x v) (motive_2:=λl D _=>aT (f++τ) h' l D) .none .bool .int (λe=>.str e) (λe l _ r=>.tup (k _ _ e<|.inl rfl) l r) (λe=>.ref<|fI τ e) .fn (λe=>.blt e)
  (λe=>.an<|k _ _ e<|.inr<|.inr<|.inl rfl) (λe c l=>.bY (k _ _ e<|.inr<|.inr<|.inr<|.inl rfl) (c.keep k)<|l.keep τ) (λe m=>.bm (fI τ e)<|k _ _ m<|.inr<|.inl rfl) .nil (λ_ _ r rs=>.cons r rs) q
theorem bI.keep(τ)(k:cx h h')(q:bI P f h l es):bI P (f++τ) h' l es:=by
 induction q with
 |nil=>exact .nil|cons r _ j=>exact .cons (r.keep τ k) j
def aW{j:Type}{p:Prop}{r:j}(e:none=some r):p:=by cases e
def ff{p:Prop}(e:false=true):p:=by cases e
def OX(h:dm o z=true):∃y,o=some y/\z y=true:=by rcases o with _|y;exact ff h;exact a8 y rfl h
def dF{P:Prop}(h:dm o z=true)(k:∀y,o=some y->z y=true->P):P:=aZ (OX h) k
def p6(e:lx v=some a):v=.ref a:=by cases v<;>first|exact az Value.ref (aQ e)|exact aW e
def Ab(e:wB v=some x):∃t,v=.str x t:=by cases v<;>first|exact⟨_,by exact Y (aQ e).symm rfl⟩|exact aW e
def OA(e:DB v=some i):∃t,v=.int i t:=by cases v<;>first|exact⟨_,by exact Y (aQ e).symm rfl⟩|exact aW e
def yM(e:wG d=some a):d=.fields a:=by cases d<;>first|exact az Data.fields (aQ e)|exact aW e
def QS(e:DO d=some p):d=.seq p.1 p.2:=by cases d<;>first|(exact Y (aQ e).symm rfl)|exact aW e
def Qo(e:Dj d=some z):d=.func z:=by cases d<;>first|exact az Data.func (aQ e)|exact aW e
def IR(e:zP d=true):d=.plain:=by cases d<;>first|rfl|exact ff e
inductive oL(f:a6)(i:Nat)(v:Value):Prop|mk (a d:Addr) (hv:v=.ref a) (e:f[i]? =some (a,d))
inductive Ad(x:List Nat)(v:Value):Prop|mk (t:Tok) (h:x.length<=lim) (hv:v=.str ⟨x.toArray⟩ t)
inductive ni(f:a6)(h:Heap)(l:List V)(v:Value):Prop|mk (a:Addr) (D:List Value) (hv:v=.ref a) (e:h.get? a=some (ir D)) (le:D.length<=lim) (q:aT f h l D)
inductive t4(i:Int)(v:Value):Prop|mk (t:Tok) (hv:v=.int i t)
inductive Ce(h:Heap)(lo j:Int)(v:Value):Prop|mk (a:Addr) (t u w:Tok) (hv:v=.ref a) (e:h.get? a=some (EK lo j t u w))
inductive oe(f:a6)(h:Heap)(x:Expr)(sc:Scope)(cl:List (Str×Nat))(v:Value):Prop|mk (a c:Addr) (q:Str) (k:List (Str×Addr)) (pm ct:Value) (hv:v=.ref a) (e:h.get? a=some (zW q x sc k pm ct c)) (ck:iW h c q) (co:gC f cl k)
inductive ou(f:a6)(h:Heap)(z:Addr)(i:Nat)(v:Value):Prop|mk (a d m:Addr) (hv:v=.ref m) (e:f[i]? =some (a,d)) (e':h.get? m=some (methodObj (.ref z) (.ref a)))
def p2(f:a6)(h:Heap)(v:Value):V->Prop|.none=>v=.none|.bool b=>v=.bool b|.int i=>t4 i v|.str x=>Ad x v|.tup l=>ni f h l v|.ref i=>oL f i v|.fn z=>v=.ref z|.blt b=>v=b.val|.an lo j=>Ce h lo j v|.bY e sc cl=>oe f h e sc cl v|.bm z i=>ou f h z i v
section
variable{f:a6}{h:Heap}
def RV.inv(q:RV f h x v):p2 f h v x:=by
 cases q with
 |none=>exact rfl|bool=>exact rfl|int=>exact⟨_,rfl⟩|str h=>exact⟨_,h,rfl⟩|tup a b c=>exact⟨_,_,rfl,a,b,c⟩|ref a=>exact⟨_,_,rfl,a⟩|fn=>exact rfl|blt a=>exact a|an a=>exact⟨_,_,_,_,rfl,a⟩|bY a b c=>exact⟨_,_,_,_,_,_,rfl,a,b,c⟩|bm a b=>exact⟨_,_,_,rfl,a,b⟩
def RV.qG(q:RV f h .none v):v=.none:=q.inv
def RV.so(q:RV f h (.bool b) v):v=.bool b:=q.inv
def RV.cG(q:RV f h (.int i) v):t4 i v:=q.inv
def RV.dT(q:RV f h (.str x) v):Ad x v:=q.inv
def RV.nk(q:RV f h (.tup l) v):ni f h l v:=q.inv
def RV.ex(q:RV f h (.ref i) v):oL f i v:=q.inv
def RV.kA(q:RV f h (.fn z) v):v=.ref z:=q.inv
def RV.tW(q:RV f h (.blt b) v):v=b.val:=q.inv
def RV.T4(q:RV f h (.an a b) v):Ce h a b v:=q.inv
def RV.uX(q:RV f h (.bY e sc cl) v):oe f h e sc cl v:=q.inv
def RV.z1(q:RV f h (.bm z i) v):ou f h z i v:=q.inv
inductive nB(f:a6)(h:Heap)(a:V)(l:List V)(us:List Value):Prop|mk (u:Value) (D:List Value) (hu:us=u::D) (q:RV f h a u) (j:aT f h l D)
inductive Th(f:a6)(h:Heap)(a:V)(us:List Value):Prop|mk (u:Value) (hu:us=[u]) (q:RV f h a u)
inductive IF(f:a6)(h:Heap)(a b:V)(us:List Value):Prop|mk (u w:Value) (hu:us=[u,w]) (q:RV f h a u) (q':RV f h b w)
def pd(f:a6)(h:Heap)(us:List Value):List V->Prop|[]=>us=[]|a::l=>nB f h a l us
def aT.inv(q:aT f h l us):pd f h us l:=by
 cases q with
 |nil=>exact rfl|cons a b=>exact⟨_,_,rfl,a,b⟩
def aT.i0(q:aT f h [] us):us=[]:=q.inv
def aT.eS(q:aT f h (a::l) us):nB f h a l us:=q.inv
def aT.i1(q:aT f h [a] us):Th f h a us:=by obtain⟨u,D,rfl,k,j⟩:=q.eS;exact Y j.i0 ⟨u,rfl,k⟩
def aT.i2(q:aT f h [a,b] us):IF f h a b us:=by obtain⟨u,D,rfl,k,j⟩:=q.eS;clear q;obtain⟨w,rfl,x⟩:=j.i1;exact⟨u,w,rfl,k,x⟩
end
def RV.of(q:p2 f h v x):RV f h x v:=by
 induction x using V.casesOn with
 |none=>exact Y (show v=.none from q) .none|bool=>exact Y (show v=.bool _ from q) .bool|int=>obtain⟨t,rfl⟩:=q;exact .int
 |str=>obtain⟨t,aE,rfl⟩:=q;exact .str aE
 |tup=>obtain⟨a,D,rfl,e,l,q⟩:=q;exact .tup e l q
 |ref=>obtain⟨a,d,rfl,e⟩:=q;exact .ref e
 |fn=>exact Y (show v=.ref _ from q) .fn|blt=>exact .blt q|an=>obtain⟨a,t,u,w,rfl,e⟩:=q;exact .an e
 |bY=>obtain⟨a,c,q,k,C,z,rfl,e,j,co⟩:=q;exact .bY e j co
 |bm=>obtain⟨a,d,m,rfl,e,y⟩:=q;exact .bm e y
def aT.of(q:pd f h us l):aT f h l us:=by rcases l;exact Y (show us=[] from q) .nil;obtain⟨u,D,rfl,j,k⟩:=q;exact .cons j k
def RV.iff:RV f h x v↔p2 f h v x:=⟨RV.inv,RV.of⟩
def aT.iff:aT f h l us↔pd f h us l:=⟨aT.inv,aT.of⟩
theorem aT.keep(τ)(k:cx h h'):∀{D},aT f h l D->aT (f++τ) h' l D:=by
 induction l with
 |nil=>intro D q;exact Y q.i0 .nil
 |cons a l j=>intro D q;obtain⟨u,us,rfl,x,y⟩:=q.eS;exact .cons (x.keep τ k)<|j y
theorem aT.length:∀{D},aT f h l D->D.length=l.length:=by
 induction l with
 |nil=>intro D q;exact Y q.i0 rfl
 |cons a l j=>intro D q;obtain⟨u,us,rfl,x,k⟩:=q.eS;exact az Nat.succ<|j k
def aT.get:∀{D}{i:Nat}{x},aT f h l D->l[i]? =some x->∃v,D[i]? =some v/\RV f h x v:=by
 induction l with
 |nil=>intro D i x q e;exact aW e
 |cons a l j=>
  intro D i x q e;obtain⟨u,us,rfl,k,y⟩:=q.eS;induction i using Nat.casesOn with
  |zero=>exact Y (aQ e).symm<|a8 u rfl k
  |succ i=>exact j (i:=i) y e
def aT.append:∀{D},aT f h l D->aT f h k us->aT f h (l++k) (D++us):=by
 induction l with
 |nil=>intro D q r;exact Y q.i0 r
 |cons a l j=>intro D q r;obtain⟨u,us,rfl,x,y⟩:=q.eS;exact .cons x<|j y r
theorem aT.drop:∀{D} n,aT f h l D->aT f h (l.drop n) (D.drop n):=by
 induction l with
 |nil=>intro D n q;exact Y q.i0<|Y List.drop_nil<|Y List.drop_nil .nil
 |cons a l j=>
  intro D n q;induction n using Nat.casesOn with
  |zero=>exact q|succ n=>obtain⟨u,us,rfl,x,k⟩:=q.eS;exact j n k
theorem aT.set(q:RV f h a u):∀{D k},aT f h l D->aT f h (l.set k a) (D.set k u):=by
 induction l with
 |nil=>intro D k p;exact Y p.i0 .nil
 |cons b l x=>intro D k p;obtain⟨w,us,rfl,y,j⟩:=p.eS;rcases k with _|k;exact .cons q j;exact .cons y<|x j
def Tc:∀{D},aT f h l D->aT f h l.dropLast D.dropLast:=by
 induction l with
 |nil=>intro D q;exact Y q.i0 .nil
 |cons a l k=>intro D q;obtain⟨u,us,rfl,x,j⟩:=q.eS;rcases l with _|⟨b,l⟩;exact Y j.i0 .nil;clear q;obtain⟨w,y,rfl,_,_⟩:=j.eS;exact .cons x<|k j
section
variable{l:List V}{a:V}{r:R V}
inductive One(l:List V)(k:V->M V)(r:R V):Prop|mk (a:V) (hl:l=[a]) (e:k a=some r)
inductive P9(l:List V)(k:V->V->M V)(r:R V):Prop|mk (a b:V) (hl:l=[a,b]) (e:k a b=some r)
def iu(e:fU l k=some r):One l k r:=by rcases l with _|⟨a,l⟩;exact aW e;rcases l;exact⟨a,rfl,e⟩;exact aW e
def uv(e:g' l k=some r):P9 l k r:=by rcases l with _|⟨a,l⟩;exact aW e;rcases l with _|⟨b,l⟩;exact aW e;rcases l;exact⟨a,b,rfl,e⟩;exact aW e
def pC(e:vInt a k=some r):∃i,a=.int i/\k i=some r:=by
 induction a using V.casesOn with
 |int i=>exact a8 i rfl e|_=>exact aW e
def ub(e:r4 a k=some r):∃i,a=.int (Int.ofNat i)/\k i=some r:=by refine aZ (pC e) λi f e=>?_;clear e;subst f;rcases i with i|_;exact a8 i rfl e;exact aW e
def pm(e:vStr a k=some r):∃x,a=.str x/\k x=some r:=by
 induction a using V.casesOn with
 |str x=>exact a8 x rfl e|_=>exact aW e
def r2(e:qP a k=some r):∃i,a=.ref i/\k i=some r:=by
 induction a using V.casesOn with
 |ref i=>exact a8 i rfl e|_=>exact aW e
def wD(e:n0 x k=some r):∃c,x=[c]/\k c=some r:=by rcases x with _|⟨c,l⟩;exact aW e;rcases l;exact a8 c rfl e;exact aW e
def yU(h:n<=lim):¬(n:Int)>=2^63:=by have:n<=1048576:=h;lia
def uz(h:n<=lim):(n:Int)<2^63:=Int.not_le.mp<|yU h
def q2(e:iO o k=some r):∃l,o=some (.list l)/\k l=some r:=by
 rcases o with _|o;exact aW e
 .induction o with|list l=>exact a8 l rfl e|_=>exact aW e
def ua(e:rk l j k2=some r):(∃y,l=[.str y]/\j y=some r)\/∃(y:List Nat)(i:Nat),l=[.str y,.int<|Int.ofNat i]/\k2 y i=some r:=by rcases l with _|⟨a,l⟩;exact aW e;refine aZ (pm e) λy f e=>?_;clear e;subst f;rcases l with _|⟨b,l⟩;exact .inl ⟨y,rfl,e⟩;rcases l;refine aZ (ub e) λi h e=>?_;subst h;exact .inr ⟨y,i,rfl,e⟩;exact aW e
def x5{r:j}(e:ob o k=some r):∃a,o=some a/\k a=some r:=by rcases o with _|a;exact aW e;exact a8 a rfl e
def mm{a:j}{P:Prop}(e:R.ok a H=R.ok b G)(k:a=b->H=G->P):P:=by cases e;exact k rfl rfl
def aK{r:j}{P:Prop}(e:ob o k=some r)(h:∀a,o=some a->k a=some r->P):P:=aZ (x5 e) h
def L'{r:RS}(e:cE o k=some r):∃a,o=some a/\k a=some r:=by rcases o with _|a;exact aW e;exact a8 a rfl e
def dk{r:RS}{P:Prop}(e:cE o k=some r)(h:∀a,o=some a->k a=some r->P):P:=aZ (L' e) h
def vI{r:RS}(e:Cz m k=some r):∃loc H,m=some (.ok .next loc H)/\k loc H=some r:=by
 rcases m with _|q;exact aW e
 .rcases q with⟨z,loc,H⟩|_
  .induction z with|next=>exact dZ loc H rfl e|_=>exact aW e
  exact aW e
def qx(e:nl a=some l):a=.tup l:=by cases a<;>first|(cases e;rfl)|exact aW e
def iK(e:fw a=some i):a=.ref i:=by cases a<;>first|(cases e;rfl)|exact aW e
def jv(e:ek a=some x):a=.str x:=by cases a<;>first|(cases e;rfl)|exact aW e
def fA(e:fZ a=some i):a=.int i:=by cases a<;>first|(cases e;rfl)|exact aW e
def DR(e:lI a=some k):a=.int (Int.ofNat k):=by refine aK e λi h e=>Y (fA h) ?_;rcases i with j|_;cases e;rfl;exact aW e
def uI(e:jD o=some j):o=some (.dict j):=by
 rcases o with _|o;exact aW e
 .induction o with
  |dict j=>cases e;rfl
  |_=>exact aW e
def rh(e:lF i=some x):∃p,i=.Name x p:=by
 induction i using Expr.casesOn with
 |Name y p=>cases e;exact⟨p,rfl⟩
 |_=>exact aW e
def Ff{l:List j}{a:j}(e:s3 l=some a):l=[a]:=by rcases l with _|⟨b,r⟩;exact aW e;rcases r;exact Y (aQ e) rfl;exact aW e
def kc(e:dp o=some l):o=some (.list l):=by
 rcases o with _|o;exact aW e
 .induction o with
  |list=>cases e;rfl
  |_=>exact aW e
def rP(e:gG a=true):a=.none:=by cases a<;>first|rfl|exact ff e
def sr{r:Bool}(e:lC a b z=some r):∃x y,a=.int x/\b=.int y/\z x y=r:=by exact aK e λx aE e=>aK e λy f e=>pP x y (fA aE) (fA f)<|aQ e
def HL{r:Bool}(e:pu a b z=some r):∃x y,a=.str x/\b=.str y/\z x y=r:=by exact aK e λx aE e=>aK e λy f e=>pP x y (jv aE) (jv f)<|aQ e
end
theorem kt:∀{a b},ar a b=true↔a=b
 |[],[]=>by simp[ar]
 |a::l,b::k=>by simp only[ar];rcases h:Nat.beq a b;simp[qe h];refine Y (cd h) ?_;simp[kt]
 |[],_::_=>by simp[ar]
 |_::_,[]=>by simp[ar]
def dn:sq a b=true↔a=b:=by unfold sq;rw[kt];constructor;intro h;obtain⟨⟨a⟩⟩:=a;obtain⟨⟨b⟩⟩:=b;simp only at h;exact Y h rfl;intro h;exact Y h rfl
def Dm:∀{l},dX x l=true->x∈l:=by
 intro l;induction l with
 |nil=>intro e;exact nomatch e
 |cons k r f=>intro e;have e:(match sq k x with|true=>true|false=>dX x r)=true:=e;rcases h:sq k x;rw[h]at e;exact .tail _<|f e;exact Y (dn.mp h).symm<|.head _
def ON(a):sq a a=true:=dn.mpr rfl
def F5(h:a≠b):sq a b=false:=by rcases q:sq a b;rfl;exact absurd (dn.mp q) h
def lw(h:sq a b=false):a≠b:=λe=>by subst e;rw[ON]at h;exact ff<|h.symm
def iw(x y)(v):∀l:List (Str×j),aC y (put x v l)=if y=x then some v else aC y l:=by
 intro l;induction l with
 |nil=>unfold put aC;rcases q:sq x y;simp[(lw q).symm,aC];have:=(dn).mp q;clear q;subst this;simp
 |cons z r h=>rcases z with⟨k,u⟩;unfold put;rcases q:sq k x;simp only[aC];rcases f:sq k y;exact h;have:=(dn).mp f;clear f;subst this;simp[lw q];have:=(dn).mp q;clear q;subst this;simp only[aC];rcases f:sq k y;simp[(lw f).symm];have:=(dn).mp f;clear f;subst this;simp
def Af(x y):∀l:List (Str×j),aC y (ke x l)=if y=x then none else aC y l:=by
 intro l;induction l with
 |nil=>simp[ke,aC]|cons z r f=>rcases z with⟨k,u⟩;simp only[ke];rcases q:sq k x;simp only[aC];rcases h:sq k y;exact f;have:=(dn).mp h;clear h;subst this;simp[lw q];have:=(dn).mp q;clear q;subst this;simp only;refine Y (f) ?_;by_cases e:y=k;simp[e];simp only[bN e,aC,F5<|gs e]
def BP(x):∀l:List (Str×j),l.lookup x=aC x l:=by
 intro l;induction l with
 |nil=>exact rfl
 |cons h r f=>
  rcases h with⟨k,u⟩;simp only[aC];refine Y ja ?_;rcases q:sq k x
  .have:(x==k)=false:=by simpa using(lw q).symm
   simp only[this,f]
  have:=(dn).mp q;clear q;subst this;simp
structure bG where
 A:Around
 hd:Option Nat
 env:Env
 gp:Env
 outer:List Env
 L:Addr
inductive Nt(h₀ h:Heap)(env:Env):Prop|mk (k:env.scope.kind=.function) (L:Addr) (o:Obj) (es:Array DictEntry) (n:Nat) (e:env.frame=some L) (e0:h₀.get? L=none) (eo:h.get? L=some o) (c:o.cls=.type "frame") (d:o.data=.dict es n)
def IT(h₀ h:Heap)(l:List Env):Prop:=∀env∈l,Nt h₀ h env
def eI(f:a6)(hd:Option Nat)(v:Option Value):Prop:=match hd with|none=>v=none|some i=>∃a d,f[i]? =some (a,d)/\v=some (.ref a)
structure gY(env:Env)(f:a6)(h:Heap)(loc:Loc)(m:Str->Option Value):Prop where
 own:∀x,aC x env.scope.names=some .local->∀a,aC x loc=some a->∃v,m x=some v/\RV f h a v
 gR:∀x i,aC x env.scope.names=some .cell\/aC x env.scope.names=some .free->aC x loc=some (.ref i)->∃a d,env.cells.lookup x=some a/\f[i]? =some (a,d)
inductive v2(K:al)(h:Heap):Prop|mk (N:Array Value) (e:h.get? K.a3=some (tabObj N)) (t:TriplesOk N.toList) (c:∀pos cv,codeAmong pos N.toList=some cv->∃c',cv=.ref c'/\iW h c' K.ar)
inductive Hh(L:Addr)(env:Env)(f:a6)(h:Heap)(loc:Loc):Prop|mk (o:Obj) (m:Str->Option Value) (e:h.get? L=some o) (c:o.cls=.type "frame"\/o.cls=.type "dict") (n:h.Ns L m) (l:gY env f h loc m)
structure aV(K:al)(F:bG)(loc:Loc)(f:a6)(H:aq)(s:Shared):Prop where
 base:∀b o,b≠K.a3->K.h₀.get? b=some o->s.heap.get? b=some o
 lam:v2 K s.heap
 tab:∃N,K.h₀.get? K.a3=some (tabObj N)
 mods:∃o,K.h₀.get? sysModules=some o/\sysModules≠K.a3
 rep:kC K.w.params K.h₀ f H s.heap
 gens:s.gens=#[]
 os:s.os=K.os
 stack:F.A.frames=some (F.gp::F.outer)
 locals:F.env.locals=F.L
 kind:F.env.scope.kind=.function
 glob:F.env.globals=mainGlobals
 blt:F.env.builtins=builtinsNs
 new:K.h₀.get? F.L=none
 apart:F.L∉bz H f
 loc:Hh F.L F.env f s.heap loc
 out:IT K.h₀ s.heap (F.gp::F.outer)
 hand:eI f F.hd F.A.handled
inductive hb(H:aq)(i:Nat):Prop|mk (E:Addr) (f c:Option Nat) (e:H[i]? =some (.exc E f c))
section
variable{K:al}{loc:Loc}
theorem aV.toks(R:aV K F loc f H s)(t):aV K F loc f H {s with toks:=t}:=⟨R.base,R.lam,R.tab,R.mods,R.rep,R.gens,R.os,R.stack,R.locals,R.kind,R.glob,R.blt,R.new,R.apart,R.loc,R.out,R.hand⟩
end
inductive eA{j:Type}(K:al)(F:bG)(loc:Loc)(k:j->a6->aq->Shared->Prop)(f:a6)(H:aq)(h:Heap)(a:j)(J:Shared):Prop|mk (ab:a6) (H':aq) (R:aV K F loc ab H' J) (st:a5 K.a3 [F.L] f H h ab H' J.heap) (q:k a ab H' J)
inductive jG(K:al)(F:bG)(loc:Loc)(X:Nat->aq->Prop)(f:a6)(H:aq)(h:Heap)(e:Value)(J:Shared):Prop|mk (ab:a6) (H':aq) (i:Nat) (a d:Addr) (R:aV K F loc ab H' J) (st:a5 K.a3 [F.L] f H h ab H' J.heap) (ei:ab[i]? =some (a,d)) (ee:e=.ref a) (ie:hb H' i) (x:X i H')
def aO{j:Type}(I:Program)(K:al)(F:bG)(loc:Loc)(t:Sem j)(k:j->a6->aq->Shared->Prop)(X:Nat->aq->Prop)(f:a6)(H:aq)(s:Shared):Prop:=wpAny (model I K.w) F.A t (eA K F loc k f H s.heap) (jG K F loc X f H s.heap) s
section
variable{j:Type}{I:Program}{K:al}{F:bG}{loc:Loc}{f:a6}{H:aq}{s:Shared}{k:j->a6->aq->Shared->Prop}{X:Nat->aq->Prop}
def Qb(R:aV K F loc f H s)(h:k a f H s):aO I K F loc (pure a) k X f H s:=aL ⟨f,H,R,.refl ..,h⟩
end
section
variable{K:al}{loc:Loc}{f τ:a6}{h':Heap}
def aV.nZ(R:aV K F loc f H s):K.a3∉F.L::bz H f:=λm=>by refine aU R.tab λo e=>?_;rcases bC.mp m with m|m;rw[m,R.new]at e;exact aW e;rw[R.rep.new _ m]at e;exact aW e
def aV.alive(R:aV K F loc f H s):s.heap.get? F.L≠none:=λq=>by obtain⟨o,m,e,_⟩:=R.loc;rw[q]at e;exact aW e
def kC.alive(R:kC P h₀ f H h)(m:a∈bz H f):h.get? a≠none:=λq=>by refine aZ (R.cls m) λo e _=>?_;rw[q]at e;exact aW e
def qw(R:aV K F loc f H s)(j:∀b o,b∉F.L::bz H f->s.heap.get? b=some o->h'.get? b=some o):cx s.heap h':=λa o e c=>by refine j a o (λm=>?_) e;rcases bC.mp m with m|m;subst m;obtain⟨o',_,h,q,_⟩:=R.loc;rw[e]at h;obtain rfl:=aQ h;rcases q with q|q;exact c.ne "frame" (by decide) q;exact c.ne "dict" (by decide) q;refine aZ (R.rep.cls m) λo' h l=>?_;rw[e]at h;clear m;obtain rfl:=aQ h;exact c.led l
def aV.move(R:aV K F loc f H s)(t:Tok)(x:∀b o,b∉F.L::bz H f->s.heap.get? b=some o->h'.get? b=some o)(live:∀a,s.heap.get? a≠none->h'.get? a≠none)(rep:kC K.w.params K.h₀ (f++τ) H' h')(new:∀a∈bz H' (f++τ),a∈bz H f\/s.heap.get? a=none)(lo:∀o m,s.heap.get? F.L=some o->s.heap.Ns F.L m->gY F.env f s.heap loc m->∃es n T,h'.get? F.L=some {o with data:=.dict es n}/\h'.Ns F.L T/\gY F.env (f++τ) h' ag T):aV K F ag (f++τ) H' {s with heap:=h',toks:=t}/\a5 K.a3 [F.L] f H s.heap (f++τ) H' h':=by
 have fx:=qw R x;obtain⟨oL,n5,I,O,nL,lL⟩:=R.loc;refine ea (lo oL n5 I nL lL) λes n T u n' j=>?_;refine⟨⟨λb o ne e=>x b o (λm=>?_)<|R.base b o ne e,?_,R.tab,R.mods,rep,R.gens,R.os,R.stack,R.locals,R.kind,R.glob,R.blt,R.new,λm=>?_,⟨_,T,u,O,n',j⟩,λenv m=>?_,?_⟩,
  ⟨⟨τ,rfl⟩,λa o na e=>⟨o,x a o (λm=>na ?_) e,.inl rfl⟩,new,live⟩⟩
 rcases bC.mp m with m|m;rw[m,R.new]at e;exact aW e;rw[R.rep.new _ m]at e;exact aW e;obtain⟨N,e,ht,h⟩:=R.lam;refine⟨N,x _ _ R.nZ e,ht,λpos U q=>?_⟩;exact aZ (h pos U q) λJ y k=>a8 J y<|k.keep fx;rcases new _ m with m|m;exact R.apart m;exact R.alive m;obtain⟨k,L,o,W,aa,e1,y,z,C,D⟩:=R.out env m;by_cases q:L=F.L;subst q;rw[I]at z;clear D;obtain rfl:=aQ z;exact⟨k,F.L,_,es,n,e1,y,u,C,rfl⟩;refine⟨k,L,o,W,aa,e1,y,x L o (λm=>?_) z,C,D⟩;rcases bC.mp m with m|m;exact q m;refine aZ (R.rep.cls m) λo' u l=>?_;rw[z]at u;clear m;obtain rfl:=aQ u;rcases l with l|l|l|⟨E,l⟩<;>(rw[C]at l;first|exact absurd (e7 l) (by decide)|cases l)
 have hh:=R.hand;unfold eI at hh⊢;split at hh;exact hh;exact bU hh λa d e q=>dZ a d (fI τ e) q
 .rcases bC.mp m with m|m;exact .tail _<|fq _<|by refine Y m ?_;exact .head _
  exact .tail _<|gu _ m
theorem gY.keep(x:gY env f h loc m)(τ)(k:cx h h'):gY env (f++τ) h' loc m:=by refine⟨λy e a u=>?_,λy i c e=>?_⟩;exact aZ (x.own y e a u) λv e1 r=>a8 v e1<|r.keep τ k;exact bU (x.gR y i c e) λa d e1 j=>dZ a d e1<|fI τ j
theorem Ns.data{h:Heap}(n:h.Ns a m):∃o es k,h.get? a=some o/\o.data=.dict es k:=let⟨o,es,k,e,d,_⟩:=n;⟨o,es,k,e,d⟩
def xI(R:aV K F loc f H s)(j:∀b o,b∉F.L::bz H f->s.heap.get? b=some o->h'.get? b=some o)(qh:∀o,s.heap.get? F.L=some o->h'.get? F.L=some o):∀o m,s.heap.get? F.L=some o->s.heap.Ns F.L m->gY F.env f s.heap loc m->∃es n T,h'.get? F.L=some {o with data:=.dict es n}/\h'.Ns F.L T/\gY F.env (f++τ) h' loc T:=λo m e n l=>by refine ea n λo' es k h d r=>?_;rw[e]at h;obtain rfl:=aQ h;refine oU es k m ?_ ⟨o,es,k,qh _ e,d,r⟩<|l.keep τ<|qw R j;exact Y (qh _ e)<|Y d.symm rfl
def aV.keeps(R:aV K F loc f H s)(t:Tok)(k:∀b o,s.heap.get? b=some o->h'.get? b=some o):aV K F loc f H {s with heap:=h',toks:=t}/\a5 K.a3 [F.L] f H s.heap f H h':=by
 have:=R.move (τ:=[]) (H':=H) (ag:=loc) (h':=h') t (λb o _ e=>k b o e) (λa n q=>?_) ?_ ?_<|xI R (λb o _ e=>k b o e)<|k _;simpa using this;rcases e:s.heap.get? a with _|o;exact n e;rw[k _ _ e]at q;exact aW<|q.symm
 .have fx:cx s.heap h':=λa o e _=>k a o e;refine Y (be ..) ⟨R.rep.len,λi o p e1 j=>?_,R.rep.nd,R.rep.new⟩;have r:=R.rep.obj i o p e1 j;have kp:∀{x v},RV f s.heap x v->RV f h' x v:=λr=>by have:=r.keep [] fx;rwa [be]at this
  have O:∀{x v},aT f s.heap x v->aT f h' x v:=λr=>by have:=r.keep [] fx;rwa [be]at this
  have y:∀{x v},bI K.w.params f s.heap x v->bI K.w.params f h' x v:=λr=>by have:=r.keep [] fx;rwa [be]at this
  rcases o with l|⟨E,h⟩|⟨E,h,c⟩|h|x;obtain⟨D,n,e,l,q⟩:=r;exact⟨D,n,k _ _ e,l,O q⟩;obtain⟨es,n,e,J,q⟩:=r;exact⟨es,n,k _ _ e,k _ _ J,y q⟩;obtain⟨d,z,tb,I,e,q,u,C⟩:=r;refine⟨d,z,tb,I,k _ _ e,q,?_,C⟩;rcases u with u|⟨t,D,e1,j,N⟩;exact .inl u;exact .inr ⟨t,D,e1,k _ _ j,N⟩;obtain⟨es,n,e,q⟩:=r;exact⟨es,n,k _ _ e,y q⟩;rcases x with _|x;exact k _ _ r;obtain⟨v,e,q⟩:=r;exact⟨v,k _ _ e,kp q⟩
 intro a m;rw[be]at m;exact .inl m
end
def aR{z:Nat}(h:a<=b)(k:b+e<=a+z):e<=z:=Nat.le_of_add_le_add_left<|as k<|l7 h _
def a7{z:Nat}(h:a<=b)(i:c<=d)(k:b+(d+e)<=a+(c+z)):e<=z:=aR i<|aR h k
def cT{h:Nat}(i:a<=b)(j:c<=d)(k:e<=z)(l:b+(d+(z+g))<=a+(c+(e+h))):g<=h:=aR k<|a7 i j l
def vL{y:Nat}(i:a<=b)(j:c<=d)(k:e<=z)(m:x<=y)(l:b+(d+(z+(y+g)))<=a+(c+(e+(x+h)))):g<=h:=aR m<|cT i j k l
def cm(a b:Nat):a<=a-b+b:=zH.mp<|ba _
def TbKeep(h h':Heap):Prop:=∀t D,h.get? t=some {cls:=.type "traceback",data:=.fields D}->∃U,h'.get? t=some {cls:=.type "traceback",data:=.fields U}/\U.size=D.size
theorem RO.keep(r:RO P f h o p)(fx:cx h h')(k:∀a∈foot o p,∀ob,h.get? a=some ob->h'.get? a=some ob)(W:TbKeep h h'):RO P (f++τ) h' o p:=by rcases o with l|⟨E,j⟩|⟨E,j,c⟩|j|x;obtain⟨D,n,e,l,q⟩:=r;exact⟨D,n,k _ (.head _) _ e,l,q.keep τ fx⟩;obtain⟨es,n,e,I,q⟩:=r;exact⟨es,n,k _ (.head _) _ e,k _ (.tail _<|.head _) _ I,q.keep τ fx⟩;obtain⟨d,y,tb,C,e,q,u,z⟩:=r;refine⟨d,y,tb,C,k _ (.head _) _ e,q.more τ,?_,z.more τ⟩;rcases u with u|⟨t,D,e1,J,N⟩;exact .inl u;exact aZ (W _ _ J) λU O T=>.inr ⟨t,U,e1,O,T.trans N⟩;obtain⟨es,n,e,q⟩:=r;exact⟨es,n,k _ (.head _) _ e,q.keep τ fx⟩;rcases x with _|x;exact k _ (.head _) _ r;obtain⟨v,e,q⟩:=r;exact⟨v,k _ (.head _) _ e,q.keep τ fx⟩
theorem rZ:∀{H f G τ},f.length=H.length->bz (H++G) (f++τ)=bz H f++bz G τ
 |[],[],_,_,_=>by simp[bz]
 |o::H,p::f,G,τ,e=>by simp only[kD,bz];exact Y (rZ<|by simpa using e)<|Y (bq ..) rfl
 |[],_::_,_,_,e=>by simp at e
 |_::_,[],_,_,e=>by simp at e
theorem sU:∀{H f i o p o'},H[i]? =some o->f[i]? =some p->foot o' p=foot o p->bz (H.set i o') f=bz H f
 |o::H,p::f,0,j,k,o',e1,h,e=>by simp only[pV,pr]at e1 h;subst e1 h;simp only[List.set_cons_zero,bz,e]
 |o::H,p::f,i+1,j,k,o',e1,h,e=>by simp only[List.set_cons_succ,bz];exact Y (sU (by simpa using e1) (by simpa using h) e) rfl
 |[],_,i,_,_,_,e1,_,_=>by simp at e1
 |_::_,[],i,_,_,_,_,h,_=>by simp at h
theorem kw:∀{H f}{i j:Nat}{o o' p x},(bz H f).Nodup->i≠j->H[i]? =some o->f[i]? =some p->H[j]? =some o'->f[j]? =some x->∀a∈foot o p,a∉foot o' x
 |_::H,_::f,0,0,_,_,_,_,_,ne,_,_,_,_,_,_=>absurd rfl ne|_::H,_::f,0,j+1,o,o',p,x,nd,_,e1,h,k,u,a,m=>λT=>by simp only[pV,pr]at e1 h;subst e1 h;have:=(iM.mp nd).2.2 a m a<|ed (by simpa using k) (by simpa using u) a T;exact this rfl
 |_::H,_::f,i+1,0,o,o',p,x,nd,_,e1,h,k,u,a,m=>λT=>by simp only[pV,pr]at k u;subst k u;have:=(iM.mp nd).2.2 a T a<|ed (by simpa using e1) (by simpa using h) a m;exact this rfl
 |_::H,_::f,i+1,j+1,o,o',p,x,nd,ne,e1,h,k,u,a,m=>kw (iM.mp nd).2.1 (λe=>ne<|az (·+1) e) (by simpa using e1) (by simpa using h) (by simpa using k) (by simpa using u) a m|[],_,i,j,_,_,_,_,_,_,e1,_,_,_,_,_=>by simp at e1
 |_::_,[],i,j,_,_,_,_,_,_,_,h,_,_,_,_=>by simp at h
section
variable{K:al}{loc:Loc}
def uV(R:aV K F loc f H s)(j:∀b o,b∉F.L::bz H f->s.heap.get? b=some o->h'.get? b=some o):TbKeep s.heap h':=λt D e=>by
 refine⟨D,j _ _ (λm=>?_) e,rfl⟩;rcases bC.mp m with m|m;subst m;obtain⟨o',_,h,q,_⟩:=R.loc;rw[e]at h;obtain rfl:=aQ h;rcases q with q|q<;>exact absurd (e7 q) (by decide)
 refine aZ (R.rep.cls m) λo' h l=>?_;rw[e]at h;clear m;obtain rfl:=aQ h;rcases l with l|l|l|⟨E,l⟩<;>first|exact absurd (e7 l) (by decide)|cases l
theorem aV.set(R:aV K F loc f H s)(t:Tok)(e1:H[i]? =some o)(h:f[i]? =some p)(x:foot o' p=foot o p)(y:∀b ob,b∉foot o p->s.heap.get? b=some ob->h'.get? b=some ob)(r:cx s.heap h'->RO K.w.params f h' o' p):aV K F loc f (H.set i o') {s with heap:=h',toks:=t}/\a5 K.a3 [F.L] f H s.heap f (H.set i o') h':=by have z:∀b ob,b∉F.L::bz H f->s.heap.get? b=some ob->h'.get? b=some ob:=λb ob n e=>y b ob (λm=>n<|.tail _<|ed e1 h _ m) e;have fx:=qw R z;have D:=r fx;have:=R.move (τ:=[]) (H':=H.set i o') (ag:=loc) (h':=h') t z (λa n q=>?_) ?_ ?_<|xI R z λob e=>y _ _ (λm=>R.apart<|ed e1 h _ m) e;simpa using this;by_cases m:a∈foot o p;refine aZ (D.cls a<|x▸m) λb e _=>?_;rw[q]at e;exact aW e;rcases e:s.heap.get? a with _|ob;exact n e;rw[y _ _ m e]at q;exact aW<|q.symm;refine Y (be ..) ⟨by refine Y ef ?_;exact R.rep.len,λj ob q k u=>?_,by refine Y (sU e1 h x) ?_;exact R.rep.nd,by refine Y (sU e1 h x) ?_;exact R.rep.new⟩;by_cases C:i=j;subst C;have hl:=(cc.mp e1).1;rw[pn hl]at k;obtain rfl:=aQ k;rw[h]at u;obtain rfl:=aQ u;exact D;rw[nP C]at k;have:=(R.rep.obj j ob q k u).keep (τ:=[]) fx (λa m E e=>y a E (λT=>kw R.rep.nd (gs C) k u e1 h a m T) e)<|uV R z;rwa [be]at this;intro a m;rw[be,sU e1 h x]at m;exact .inl m
def aV.add(R:aV K F loc f H s)(t:Tok)(k:∀b ob,s.heap.get? b=some ob->h'.get? b=some ob)(fr:∀a∈foot o p,s.heap.get? a=none/\a≠K.a3)(nd:(foot o p).Nodup)(r:cx s.heap h'->RO K.w.params (f++[p]) h' o p):aV K F loc (f++[p]) (H++[o]) {s with heap:=h',toks:=t}/\a5 K.a3 [F.L] f H s.heap (f++[p]) (H++[o]) h':=by
 have y:∀b ob,b∉F.L::bz H f->s.heap.get? b=some ob->h'.get? b=some ob:=λb ob _ e=>k b ob e;have fx:=qw R y;have z:bz (H++[o]) (f++[p])=bz H f++foot o p:=by refine Y (rZ R.rep.len) ?_;simp[bz]
 refine R.move t y (λa n q=>?_) ?_ (λa m=>?_)<|xI R y λob e=>k _ _ e;rcases e:s.heap.get? a with _|ob;exact n e;rw[k _ _ e]at q;exact aW<|q.symm
 .refine⟨by exact Y a0<|Y a0<|Y R.rep.len rfl,λj ob q h u=>?_,?_,λa m=>?_⟩
  .by_cases x:j<H.length;rw[dO x]at h;rw[dO<|by refine Y R.rep.len ?_;exact x]at u;exact(R.rep.obj j ob q h u).keep fx (λa _ D e=>k _ _ e)<|uV R y
   .have C:j<(H++[o]).length:=(cc.mp h).1;have:j=H.length:=by simp at C;exact ce (aR C<|by simp+arith)<|aR (md x)<|by simp+arith
    clear x C;subst this;rw[dr<|ba _,er]at h;rw[<-R.rep.len,dr<|ba _,er]at u;simp only[pV,pr]at h u;subst h u;exact r fx
  refine Y z (iM.mpr ⟨R.rep.nd,nd,λa m b T q=>?_⟩);subst q;exact R.rep.alive m (fr a T).1;rw[z]at m;rcases d0.mp m with m|m;exact R.rep.new _ m;rcases e:K.h₀.get? a with _|ob;rfl;exact absurd ((R.base a ob (fr a m).2 e).symm.trans (fr a m).1)<|by simp
 rw[z]at m;rcases d0.mp m with m|m;exact .inl m;exact .inr (fr a m).1
end
abbrev jz(h y:Type):=a6->Heap->h->y->Prop
inductive aM{h y:Type}(ρ:jz h y)(r:R h)(v:y)(ab:a6)(H':aq)(J:Shared):Prop|mk (a:h) (e:r=.ok a H') (q:ρ ab J.heap a v)
def a9{h:Type}(r:R h):Nat->aq->Prop:=λi H'=>r=.exc i H'
def Sn{h y:Type}(I:Program)(K:al)(F:bG)(loc:Loc)(ρ:jz h y)(m:M h)(t:Sem y)(f:a6)(H:aq)(s:Shared):Prop:=∀r,m=some r->aO I K F loc t (aM ρ r) (a9 r) f H s
abbrev kz:jz Bool Bool:=λ_ _ a b=>b=a
abbrev aN:jz V Value:=λf h a v=>RV f h a v
abbrev uY:jz (List V) (List Value):=λf h a v=>aT f h a v
section
variable{h y:Type}{I:Program}{K:al}{F:bG}{loc:Loc}{ρ:jz h y}{f C:a6}{H j:aq}{z:Heap}{s:Shared}
def f0(st:a5 K.a3 [F.L] C j z f H s.heap)(h:aO I K F loc t k X f H s):wpAny (model I K.w) F.A t (eA K F loc k C j z) (jG K F loc X C j z) s:=bX h (λ_ _⟨_,_,u,ae,E⟩=>⟨_,_,u,st.trans ae λ_ m=>.inl m,E⟩) λ_ _⟨_,_,i,a,d,u,ae,e1,y,D,x⟩=>⟨_,_,i,a,d,u,st.trans ae λ_ m=>.inl m,e1,y,D,x⟩
def Sn.then(st:a5 K.a3 [F.L] C j z f H s.heap)(h:Sn I K F loc ρ m t f H s)(e:bd m k=some r)(g:∀a v ab H' J,aV K F loc ab H' J->a5 K.a3 [F.L] C j z ab H' J.heap->a5 K.a3 [F.L] f H s.heap ab H' J.heap->ρ ab J.heap a v->k a H'=some r->G v J):wpAny (model I K.w) F.A t G (jG K F loc (a9 r) C j z) s:=by refine lY λU T=>?_;rcases y:m with _|q;clear h;subst y;exact aW e;rcases q with⟨a,H'⟩|⟨i,H'⟩;rw[y]at e;refine T<|bX (h _ y) (λv J⟨ab,E,u,ae,D,q,x⟩=>?_) λev J⟨ab,E,i,D,d,u,ae,e1,N,O,x⟩=>nomatch x;cases q;exact g _ v _ _ J u (st.trans ae λ_ m=>.inl m) ae x e;rw[y]at e;clear g;cases e;refine T<|bX (h _ y) (λv J⟨ab,E,u,ae,D,q,x⟩=>nomatch q) λev J⟨ab,E,W,D,d,u,ae,e1,N,O,x⟩=>?_;cases x;exact⟨ab,_,_,D,d,u,st.trans ae λ_ m=>.inl m,e1,N,O,rfl⟩
def Sn.ok(R:aV K F loc f H s)(x:ρ f s.heap a v)(e:rt a H=some r)(h:t=pure v):aO I K F loc t (aM ρ r) (a9 r) f H s:=by subst h;cases e;exact Qb R ⟨a,rfl,x⟩
def bj(R:aV K F loc f H s)(st:a5 K.a3 [F.L] C j z f H s.heap)(x:ρ f s.heap a v)(e:rt a H=some r):eA K F loc (aM ρ r) C j z v s:=by cases e;exact⟨f,H,R,st,a,rfl,x⟩
def i4(e:aw b m=some r):b=true/\m=some r:=by rcases b;exact aW e;exact⟨rfl,e⟩
def cH{P:Prop}(e:aw b m=some r)(h:b=true->m=some r->P):P:=aS (i4 e) h
theorem RV.at(st:a5 K.a3 [F.L] f H s.heap ab j h')(R:aV K F loc f H s)(q:RV f s.heap x v):RV ab h' x v:=by
 refine aU st.ext λτ k=>?_;subst k;refine q.keep τ λa o e c=>st.keep.plain (λm=>?_) e (c.ne "frame"<|by decide)<|c.ne "traceback"<|by decide
 rcases bC.mp m with m|m;obtain⟨N,h,_⟩:=R.lam;rw[m,h]at e;clear m;cases e;rcases c with c|c|c|c|c<;>cases c
 rcases d0.mp m with m|m;obtain⟨o',_,h,q,_⟩:=R.loc;rw[b9.mp m,h]at e;clear m h;cases e;rcases q with q|q;exact c.ne "frame" (by decide) q;exact c.ne "dict" (by decide) q;refine aZ (R.rep.cls m) λo' h l=>?_;rw[h]at e;clear m h;cases e;exact c.led l
end
def k7(d:Nat)(A:Around):Prop:=A.depth+2*d+30<=recursionLimit/\A.units+8*d+200<=cLine
structure CtxOk(d:Nat)(c:bh)(F:bG):Prop where
 sc:∀x,aC x F.env.scope.names=aC x c.sc\/(aC x c.sc=some .free/\aC x F.env.scope.names=some .cell)
 hd:c.hd=F.hd
 room:k7 d F.A
 lam:∀a q,c.lam=some (a,q)->F.env.code=.ref a/\F.env.qual=q
def CtxOk.kl(E:CtxOk d c F)(h:aC x c.sc=some k):aC x F.env.scope.names=some k\/(k=.free/\aC x F.env.scope.names=some .cell):=by rcases E.sc x with e|⟨e,f⟩;exact .inl<|e.trans h;rw[h]at e;clear h;cases e;exact .inr ⟨rfl,f⟩
def CtxOk.kn(E:CtxOk d c F)(h:aC x c.sc=some k)(n:k≠.free):aC x F.env.scope.names=some k:=(E.kl h).elim id λC=>absurd C.1 n
structure bA(I:Program)(K:al)(d:Nat)(v:dS):Prop where
 e:∀{F:bG}{c:bh}{loc:Loc}{x:Expr}{f:a6}{H:aq}{s:Shared},CtxOk d c F->aV K F loc f H s->Sn I K F loc aN (v.e c loc x H) (eval x F.env) f H s
 t:∀{F:bG}{c:bh}{loc:Loc}{x:Expr}{f:a6}{H:aq}{s:Shared},CtxOk d c F->aV K F loc f H s->Sn I K F loc kz (v.t c loc x H) (isTrue x F.env (eval x F.env)) f H s
section
variable{K:al}
def Ip(x):(⟨x.cps.toList.toArray⟩:Str)=x:=by obtain⟨⟨l⟩⟩:=x;rfl
def L9(R:aV K F loc f H s)(u:sd k=some a)(e:rt a H=some r):aO I K F loc (eval (.Constant k n p) F.env) (aM aN r) (a9 r) f H s:=by
 refine lY λz y=>?_;induction k with
 |none=>cases u;exact y<|wpAny_Constant_none<|bj R (.refl ..) .none e
 |bool=>cases u;exact y<|wpAny_Constant_bool<|bj R (.refl ..) .bool e
 |int=>cases u;exact y<|wpAny_Constant_int<|bj (R.toks _) (.refl ..) .int e
 |str x=>have u:aB (cr x.cps.toList.length) (some<|V.str x.cps.toList) none=some a:=u;revert u;rcases j:cr x.cps.toList.length;intro u;exact aW u;intro u;cases u;refine y<|wpAny_Constant_str<|bj (R.toks _) (.refl ..) ?_ e;have:=RV.str (f:=f) (h:=s.heap) (t:=s.toks)<|bE j;rwa [Ip]at this
 |_=>exact aW u
def xN(q:RV f s.heap a u)(e:j0 a=some b)(h:Q b s):wpAny (model I K.w) A (truthy u) Q U s:=by
 refine lY λk j=>?_;induction a using V.casesOn with
 |none=>refine j<|Y q.qG ?_;cases e;exact λ_ _ _=>h
 |bool=>refine j<|Y q.so ?_;cases e;exact wx h
 |_=>exact aW e
def UL{x y:Sem h}:(match op,b with|.And,false|.Or,true=>x|_,_=>y)=match tU op b with|true=>x|false=>y:=by cases op<;>cases b<;>rfl
def Q4(N:bA I K d v)(E:CtxOk d c F):∀{f H s},aV K F loc f H s->Sn I K F loc aN (s' v c loc op k H) (boolOp p op<|evalEach k F.env) f H s:=by
 induction k with
 |nil=>intro f H s R r e;exact aW e
 |cons x k C=>intro f H s R r e;rcases k with _|⟨y,k⟩;exact N.e E R r e;refine aX (Sn.then (.refl ..) (N.e E R) e λa u ab H' J j st _ q h=>aX<|dM<|aX<|c9<|aK h λb z h=>xN q z ?_);have D:=C j r;cases op<;>cases b<;>first|exact f0 st (D h)|exact aL (bj j st q h)
def OG(C:bA I K d v)(E:CtxOk d c F):∀{f H s},aV K F loc f H s->Sn I K F loc kz (l2 v c loc op k H) (allTrue op k F.env) f H s:=by
 induction k with
 |nil=>intro f H s R r e;refine Y (arm_allTrue_nil ..)<|aL<|bj R (.refl ..) ?_ e;cases op<;>rfl
 |cons x k y=>intro f H s R r e;refine Y (arm_allTrue_cons ..)<|aX<|Sn.then (.refl ..) (C.t E R) e λb u ab H' J h st _ q j=>?_;cases q;have z:=y h r;cases op<;>cases b<;>first|exact f0 st (z j)|exact aL (bj h st rfl j)
def rS(h:jN 22 x=true):starEach (x::l) env=(false,eval x env)::starEach l env:=by cases x<;>first|rfl|exact ff h
def mC(h:c' (x::l)=true):jN 22 x=true/\c' l=true:=by have e:(match jN 22 x with|true=>c' l|false=>false)=true:=h;revert e;rcases k:jN 22 x;intro e;exact ff e;intro e;exact⟨rfl,e⟩
def vh(U:bA I K d v)(E:CtxOk d c F):∀{h f H s},c' h=true->aV K F loc f H s->Sn I K F loc uY (cf v c loc h H) (spliced<|backTo p<|starEach h F.env) f H s:=by
 intro h;induction h with
 |nil=>intro f H s _ R r e;exact wpAny_items_nil<|bj (ρ:=uY) R (.refl ..) aT.nil e
 |cons x h C=>intro f H s ns R r e;unfold cf at e;have D:=(mC ns).2;have he:=rS (l:=h) (env:=F.env) (mC ns).1;refine wpAny_items_cons (Sn.then (.refl ..) (U.e E R) e λa u ab H' J j st _ q y=>?_) he;exact Sn.then st (C D j) y λl us aa T W k ae O N z=>bj (ρ:=uY) k ae (.cons (q.at O j) N) z
def JX(k:bA I K d v)(E:CtxOk d c F)(R:aV K F loc f H s)(e:d7 T O v c loc (.IfExp t a b p) H=some r):aO I K F loc (eval (.IfExp t a b p) F.env) (aM aN r) (a9 r) f H s:=by
 refine wpAny_IfExp<|Sn.then (.refl ..) (k.t E R) e λq u ab H' J j st _ x h=>?_;cases x;cases q<;>simp only at h⊢
 exact f0 st<|k.e E j r h;exact f0 st<|k.e E j r h
end
def gn{f:Type}{r:f}(e:none=some r):False:=nomatch e
def IP(a b):b<a↔Int.negSucc a<Int.negSucc b:=(Nat.succ_lt_succ_iff.symm.trans jf.symm).trans (Int.neg_lt_neg_iff).symm
def hM:∀{a b},du a b=decide (a<b)
 |.ofNat a,.ofNat b=>by show Nat.blt a b=_;rw[gN,gV,jh];exact jf.symm
 |.negSucc a,.ofNat b=>by show true=_;exact(ik<|tz (oF a)<|gz b).symm
 |.ofNat a,.negSucc b=>by show false=_;refine(jV λh=>?_).symm;exact absurd (k' h<|oF b)<|iR.mpr<|gz a
 |.negSucc a,.negSucc b=>by show Nat.blt b a=_;rw[gN,gV,jh];exact IP a b
def oG:∀{a b},kx a b=decide (a=b)
 |.ofNat a,.ofNat b=>by show Nat.beq a b=_;rw[gN,gV,Nat.beq_eq];exact⟨λh=>Y h rfl,λh=>by injection h⟩
 |.negSucc a,.negSucc b=>by show Nat.beq a b=_;rw[gN,gV,Nat.beq_eq];exact⟨λh=>Y h rfl,λh=>by injection h⟩
 |.negSucc a,.ofNat b=>(jV λh=>nomatch h).symm|.ofNat a,.negSucc b=>(jV λh=>nomatch h).symm
def rJ(h:dd i=true):-(4611686018427387904+1)<i/\i<4611686018427387904:=by rcases i with k|k;exact⟨tz (by decide)<|gz k,jf.mpr<|jh.mp h⟩;exact⟨(show-((4611686018427387904+1:Nat):Int)< -((k+1:Nat):Int) from Int.neg_lt_neg<|jf.mpr<|Nat.succ_lt_succ<|jh.mp h),k' (oF k)<|by decide⟩
def Ek(h:dd i=true):Builtin.Int.intBits i<=64:=intBits_le_64 (k' (by decide) (rJ h).1) (k' (rJ h).2<|by decide)
def Nd(h:dd b=true):b.natAbs<2^64:=by
 rcases b with k|k;exact cB (jh.mp h)<|by decide
 exact fj (jh.mp h)<|by decide
def TU(h:dd b=true):¬(Builtin.divisionGoesByPylong a b)=true:=by
 unfold Builtin.divisionGoesByPylong;have f:¬((if b==0 then 0 else b.natAbs.log2/30+1)>300):=by
  split;decide
  .have:b.natAbs.log2<64:=by rw[Nat.log2_lt<|by rename_i q;intro C;exact q<|by simpa using Int.natAbs_eq_zero.mp C];exact Nd h
   exact q9.mpr<|as (fD<|Nat.div_le_self ..)<|as this<|by decide
 simp only[fP,gV,not_and];intro q;exact absurd q f
def hT(h:cr n=true):n<=lim:=bE h
def fp:lim<=sizeLine:=by refine Y sizeLine_eq ?_;decide
section
variable{K:al}{loc:Loc}{H:aq}{s:Shared}
def wk(R:aV K F loc f H s)(e:rt a H=some r)(q:cx s.heap (s.heap.push o)->ρ f (s.heap.push o) a v):eA K F loc (aM ρ r) f H s.heap v {s with heap:=s.heap.push o}:=by have kp:∀b ob,s.heap.get? b=some ob->(s.heap.push o).get? b=some ob:=λb ob e=>b4 o e;exact aS (R.keeps s.toks kp) λh st=>bj h st (q λa ob e _=>kp a ob e) e
theorem RV.fx(q:RV f s.heap x v)(fx:cx s.heap h'):RV f h' x v:=by have:=q.keep [] fx;rwa [be]at this
theorem aT.fx(q:aT f s.heap x v)(fx:cx s.heap h'):aT f h' x v:=by have:=q.keep [] fx;rwa [be]at this
theorem bI.fx(q:bI P f s.heap x v)(fx:cx s.heap h'):bI P f h' x v:=by have:=q.keep [] fx;rwa [be]at this
def aV.isList(R:aV K F loc f H s){i:Nat}(e:H[i]? =some (.list l))(h:f[i]? =some (a,d)):Dw f s.heap l a:=R.rep.obj i _ _ e h
def aV.hP(R:aV K F loc f H s)(e:s.heap.get? a=none):a≠K.a3:=λq=>by obtain⟨N,h,_⟩:=R.lam;rw[q,h]at e;exact aW<|e.symm
def ej(h:Heap):h.get? h.objs.size=none:=Heap.get?_none_of_le<|ba _
def wu(R:aV K F loc f H s)(hl:l.length<=lim)(q:aT f s.heap l D)(e:rt (V.ref H.length) (H++[.list l])=some r):eA K F loc (aM aN r) f H s.heap (.ref s.heap.objs.size) {s with heap:=s.heap.push {cls:=.type "list",data:=.seq D.toArray}}:=by
 have kp:∀b ob,s.heap.get? b=some ob->(s.heap.push {cls:=.type "list",data:=.seq D.toArray}).get? b=some ob:=λb ob e=>b4 _ e;have h:∀a∈foot (.list l) (s.heap.objs.size,0),s.heap.get? a=none/\a≠K.a3:=λa m=>by exact Y (b9.mp m) ⟨ej _,R.hP<|ej _⟩
 have j:cx s.heap (s.heap.push {cls:=.type "list",data:=.seq D.toArray})->RO K.w.params (f++[(s.heap.objs.size,0)]) (s.heap.push {cls:=.type "list",data:=.seq D.toArray}) (.list l) (s.heap.objs.size,0):=λfx=>⟨D,0,dP _ rfl,by refine Y q.length ?_;exact hl,q.keep _ fx⟩;refine aS (R.add (o:=.list l) (p:=(s.heap.objs.size,0)) s.toks kp h (eo.mpr ⟨by simp,jR⟩) j) λk st=>bj (ρ:=aN) k st ?_ e;refine RV.ref (d:=0)<|Y R.rep.len.symm<|Y (dr<|ba _)<|Y (er ..) ?_;rfl
def aT.nil_of(q:aT f h l []):l=[]:=q5.mp<|q.length▸rfl
def HD(q:aT f h l D):∀k,aT f h (List.replicate k l).flatten (List.replicate k D).flatten:=by
 intro k;induction k with
 |zero=>exact .nil|succ k j=>exact Y List.replicate_succ<|Y List.replicate_succ<|Y List.flatten_cons<|Y List.flatten_cons<|q.append<|j
def N9(h:0<=x)(f:x<1000):¬(!Builtin.List.listFitsIndex x)=true:=by unfold Builtin.List.listFitsIndex;rw[ik<|qF (by decide) h,ik<|k' f<|by decide];decide
def M6(f:s.heap.get? a=some (ep D n))(k:0<=x)(j:x<1000)(u:D.length*x.toNat<=256)(h:Q (.ref s.heap.objs.size) {s with heap:=s.heap.push {cls:=.type "list",data:=.seq (List.replicate x.toNat D).flatten.toArray}}):wpAny (model I K.w) A (binaryOp .Mult (.ref a)<|.int x t) Q U s:=by
 have y:D.toArray.size*x.toNat<=256:=by simpa using u
 refine wpAny_binaryOp_repeat_ref (by decide) ⟨_,f,rfl⟩ (λJ=>typeIs_int J x t) noFill_list_mul PySem.F.fills_int_mul PySem.F.slot_int_rmul repeat_list PySem.F.slot_int_index.lookup
  (l6 PySem.F.slot_int_rmul (typeIs_int s x t) PySem.F.entry_int_rmul (PySem.F.args_int_rmul_2 _ _) (lm_int_rmul_list_any x t a D.toArray n none #[])
   ⟨f,rfl,⟨_,f,rfl⟩,l6 PySem.F.slot_list_mul ⟨_,f,rfl⟩ PySem.F.entry_list_mul (PySem.F.args_list_mul_2 _ _)
    (lm_list_mul_any a D.toArray n none #[] x t (N9 k j) (q9.mpr<|as y<|by decide)<|by simp[Builtin.List.listTooLong,sizeLine];exact as ‹_›<|by decide)
    ⟨f,?_⟩⟩)
 exact Y (listMul_foldl_if ..) h
def Nj(k:s.heap.get? a=some (ir D))(u:s.heap.get? b=some (ir f))(hl:D.length+f.length<=lim)(x:D=[]->Q (.ref b) s)(h:f=[]->Q (.ref a) s)(j:Q (.ref s.heap.objs.size) {s with heap:=s.heap.push<|ir<|D++f}):wpAny (model I K.w) A (binaryOp .Add (.ref a)<|.ref b) Q U s:=by
 have y:Q (.ref s.heap.objs.size) {s with heap:=s.heap.push {cls:=Value.type "tuple",data:=Data.seq<|D.toArray++f.toArray}}:=by refine Y (List.append_toArray ..) ?_;exact j
 rcases D with _|⟨v,D⟩;exact concat_meets ⟨_,k,rfl⟩ ⟨_,u,rfl⟩ noFill_tuple_add seq_tuple_add PySem.F.slot_tuple_add PySem.F.entry_tuple_add (PySem.F.args_tuple_add_2 _ _) (tuple_addW0 a b [].toArray f.toArray 0 0 none none #[] #[] rfl) ⟨k,u,x rfl⟩;rcases f with _|⟨w,f⟩;exact concat_meets ⟨_,k,rfl⟩ ⟨_,u,rfl⟩ noFill_tuple_add seq_tuple_add PySem.F.slot_tuple_add PySem.F.entry_tuple_add (PySem.F.args_tuple_add_2 _ _) (tuple_addW1 a b (v::D).toArray [].toArray 0 0 none none #[] #[] j8 rfl) ⟨k,u,h rfl⟩;exact concat_meets ⟨_,k,rfl⟩ ⟨_,u,rfl⟩ noFill_tuple_add seq_tuple_add PySem.F.slot_tuple_add PySem.F.entry_tuple_add (PySem.F.args_tuple_add_2 _ _) (tuple_addW2 a b (v::D).toArray (w::f).toArray 0 0 none none #[] #[] j8 j8<|as hl fp) ⟨k,u,y⟩
section
variable{a b:V}{u J:Value}{r:R V}
inductive KP(a b:V)(c:Int->Int->Bool)(z:Int->Int->Int)(H:aq)(r:R V)(u J:Value):Prop|mk (x y:Int) (t t':Tok) (hu:u=.int x t) (hu':J=.int y t') (k:c x y=true) (e:rt (.int (z x y)) H=some r)
def rm(j:RV f h a u)(C:RV f h b J)(e:ra a b c z H=some r):KP a b c z H r u J:=by refine aK e λx D e=>aK e λy E e=>cH e λk e=>?_;rw[fA D]at j;rw[fA E]at C;obtain⟨t,I⟩:=j.cG;obtain⟨O,N⟩:=C.cG;exact⟨x,y,t,O,I,N,k,e⟩
def Lo(R:aV K F loc f H s)(k:RV f s.heap (.int x) u)(h:RV f s.heap b J)(e:oD (.int x) b H=some r):aO I K F loc (binaryOp .Add u J) (aM aN r) (a9 r) f H s:=by refine aK e λy j e=>?_;rw[fA j]at h;obtain⟨t,rfl⟩:=k.cG;obtain⟨z,rfl⟩:=h.cG;exact AutoIntOps.add_0<|bj (R.toks _) (.refl ..) .int e
def Q'(R:aV K F loc f H s)(C:RV f s.heap (.str x) u)(h:RV f s.heap b J)(e:oD (.str x) b H=some r):aO I K F loc (binaryOp .Add u J) (aM aN r) (a9 r) f H s:=by refine aK e λy j e=>?_;rw[jv j]at h;refine cH e λz e=>?_;obtain⟨t,aE,rfl⟩:=C.dT;obtain⟨E,D,rfl⟩:=h.dT;have hl:=hT z;refine SB.add (λN k=>bj (R.toks _) (.refl ..) ?_ e)<|as (show x.toArray.size+y.toArray.size<=lim from hl) fp;exact Y (show(⟨x.toArray⟩++⟨y.toArray⟩:Str)=⟨(x++y).toArray⟩ from az Str.mk<|List.append_toArray ..)<|.str<|by refine Y a0 ?_;exact hl
def Pf(R:aV K F loc f H s)(W:RV f s.heap (.tup x) u)(T:RV f s.heap b J)(e:oD (.tup x) b H=some r):aO I K F loc (binaryOp .Add u J) (aM aN r) (a9 r) f H s:=by refine aK e λy U e=>?_;rw[qx U]at T;refine cH e λz e=>?_;obtain⟨a,D,rfl,j,O,N⟩:=W.nk;obtain⟨b,ws,rfl,k,E,h⟩:=T.nk;have hl:=hT z;rw[<-N.length,<-h.length]at hl;refine Nj j k hl (λC=>bj R (.refl ..) ?_ e) (λC=>bj R (.refl ..) ?_ e)<|wk R e λfx=>?_;clear e j O hl;subst C;exact Y ((aT.nil_of N))<|.tup k E h;clear e k E hl;subst C;exact Y ((aT.nil_of h))<|Y (be ..)<|.tup j O N;exact .tup (dP _ rfl) (by refine Y a0 ?_;exact hl)<|(N.fx fx).append<|h.fx fx
def HO(R:aV K F loc f H s)(qa:RV f s.heap (.ref i) u)(y:RV f s.heap b J)(e:oD (.ref i) b H=some r):aO I K F loc (binaryOp .Add u J) (aM aN r) (a9 r) f H s:=by
 refine aK e λj U e=>?_;rw[iK U]at y;refine aK e λl x e=>aK e λm W e=>cH e λz e=>?_;obtain⟨a,d,rfl,O⟩:=qa.ex;obtain⟨b,d',rfl,T⟩:=y.ex;have hl:=hT z;obtain⟨D,n,h,la,N⟩:=R.isList (kc x) O;obtain⟨ws,n',k,E,C⟩:=R.isList (kc W) T;refine concat_meets ⟨_,h,rfl⟩ ⟨_,k,rfl⟩ noFill_list_add seq_list_add PySem.F.slot_list_add PySem.F.entry_list_add (PySem.F.args_list_add_2 _ _)
  (list_addW a b D.toArray ws.toArray n n' none none #[] #[]<|by refine Y dg<|Y dg<|Y N.length<|Y C.length ?_;exact as hl fp) ⟨h,k,?_⟩
 exact Y (List.append_toArray ..)<|wu R (by refine Y a0 ?_;exact hl) (N.append C) e
def Ov(R:aV K F loc f H s)(h:RV f s.heap a u)(j:RV f s.heap b J)(e:oD a b H=some r):aO I K F loc (binaryOp .Add u J) (aM aN r) (a9 r) f H s:=by
 induction a using V.casesOn with
 |int=>exact Lo R h j e|str=>exact Q' R h j e|tup=>exact Pf R h j e|ref=>exact HO R h j e|_=>exact aW e
def HU{l:List V}(h:k<=16)(j:l.length<=16):(List.replicate k l).flatten.length<=lim:=by exact Y List.length_flatten<|Y List.map_replicate<|Y List.sum_replicate_nat<|as (Nat.mul_le_mul h j)<|by decide
def KO(R:aV K F loc f H s)(T:RV f s.heap (.ref i) u)(y:RV f s.heap b J)(e:sx (.ref i) b H=some r):aO I K F loc (binaryOp .Mult u J) (aM aN r) (a9 r) f H s:=by
 refine aK e λk O e=>?_;rw[DR O]at y;refine aK e λl x e=>cH e λz e=>?_;obtain⟨a,d,rfl,E⟩:=T.ex;obtain⟨t,rfl⟩:=y.cG;have h:=bE (cY.mp z).1;have j:=bE (cY.mp z).2;obtain⟨D,n,C,U,N⟩:=R.isList (kc x) E;exact M6 C (gz k) (jf.mpr<|fj h<|by decide) (by refine Y N.length ?_;exact as (Nat.mul_le_mul j h)<|by decide)
  (wu R (HU h j) (HD N k) e)
def Sl(R:aV K F loc f H s)(C:RV f s.heap (.int x) u)(j:RV f s.heap b J)(e:sx (.int x) b H=some r):aO I K F loc (binaryOp .Mult u J) (aM aN r) (a9 r) f H s:=by refine aK e λy k e=>?_;rw[fA k]at j;obtain⟨t,rfl⟩:=C.cG;obtain⟨D,rfl⟩:=j.cG;exact cH e λz e=>AutoIntOps.mul_0 (bj (R.toks _) (.refl ..) .int e)<|(qE.mp z).elim (λh=>.of_left<|Ek h) λh=>.of_right<|Ek h
def K3(R:aV K F loc f H s)(h:RV f s.heap a u)(j:RV f s.heap b J)(e:sx a b H=some r):aO I K F loc (binaryOp .Mult u J) (aM aN r) (a9 r) f H s:=by
 induction a using V.casesOn with
 |int=>exact Sl R h j e|ref=>exact KO R h j e|_=>exact aW e
def Bx(h:du 0 y=true):0<y:=by rwa [hM,gV]at h
def PV(R:aV K F loc f H s)(h:RV f s.heap a u)(j:RV f s.heap b J)(e:bin .Sub a b H=some r):aO I K F loc (binaryOp .Sub u J) (aM aN r) (a9 r) f H s:=by obtain⟨x,y,t,k,rfl,rfl,_,e⟩:=rm h j e;exact AutoIntOps.sub_0<|bj (R.toks _) (.refl ..) .int e
def RG(R:aV K F loc f H s)(z:RV f s.heap a u)(D:RV f s.heap b J)(e:bin .FloorDiv a b H=some r):aO I K F loc (binaryOp .FloorDiv u J) (aM aN r) (a9 r) f H s:=by obtain⟨x,y,t,E,rfl,rfl,k,e⟩:=rm z D e;obtain⟨h,j⟩:=cY.mp k;exact AutoIntOps.floordiv_1 (λC=>Int.ne_of_gt (Bx h)<|kr C) (TU j)<|bj (R.toks _) (.refl ..) .int e
def Mr(R:aV K F loc f H s)(h:RV f s.heap a u)(j:RV f s.heap b J)(e:bin .Mod a b H=some r):aO I K F loc (binaryOp .Mod u J) (aM aN r) (a9 r) f H s:=by obtain⟨x,y,t,z,rfl,rfl,k,e⟩:=rm h j e;exact AutoIntOps.mod_1 (λC=>Int.ne_of_gt (Bx k)<|kr C)<|bj (R.toks _) (.refl ..) .int e
def QF(R:aV K F loc f H s)(z:RV f s.heap a u)(C:RV f s.heap b J)(e:bin .Pow a b H=some r):aO I K F loc (binaryOp .Pow u J) (aM aN r) (a9 r) f H s:=by obtain⟨x,y,t,D,rfl,rfl,k,e⟩:=rm z C e;obtain⟨h,j⟩:=cY.mp k;rw[oG,gV]at h j;exact Y h<|Y j<|AutoIntOps.pow_4 (by decide) (by decide) (by decide) (by decide) (by decide)<|bj (R.toks _) (.refl ..) .int e
def MZ(R:aV K F loc f H s)(h:RV f s.heap a u)(j:RV f s.heap b J)(e:bin op a b H=some r):aO I K F loc (binaryOp op u J) (aM aN r) (a9 r) f H s:=by
 induction op with
 |Add=>exact Ov R h j e|Sub=>exact PV R h j e|Mult=>exact K3 R h j e|FloorDiv=>exact RG R h j e|Mod=>exact Mr R h j e|Pow=>exact QF R h j e|_=>exact aW e
end
end
section
open SeqAt
noncomputable def m8(z:V->V->Option Bool)(l m:List V)(j:Nat):Bool:=match l[j]?,m[j]? with|some x,some y=>z x y==some true|_,_=>false
def Bh(e:all2 z (a::l) (b::m)=some r):∃x y,z a b=some x/\all2 z l m=some y/\r=(x&&y):=by refine aK e λx aE e=>aK e λy f e=>pP x y aE f ?_;cases x<;>exact(aQ e).symm
def xb{f:Type}{p:Prop}{j:Nat}{x:f}(e:([]:List f)[j]? =some x):p:=by rw[List.getElem?_nil]at e;exact aW e
def wn:∀{l m r},all2 z l m=some r->(∀(j:Nat) x y,l[j]? =some x->m[j]? =some y->∃q,z x y=some q)/\ r=((List.range<|min l.length m.length).all (m8 z l m)&&l.length==m.length):=by
 intro l;induction l with
 |nil=>intro m r e;rcases m;obtain rfl:=aQ e;exact⟨λj x y e=>xb e,rfl⟩;obtain rfl:=aQ e;exact⟨λj x y e=>xb e,by exact Y hA<|Y (Nat.zero_min ..) rfl⟩
 |cons a l E=>
  intro m r e;rcases m with _|⟨b,m⟩;obtain rfl:=aQ e;exact⟨λj x y _ e=>xb e,by exact Y hA<|Y (Nat.min_zero ..) rfl⟩
  .refine e6 (Bh e) λx y aE D N=>?_;clear e;subst N;refine aS (E D) λh k=>⟨λj u v e1 C=>?_,?_⟩;rcases j with _|j;obtain rfl:=aQ e1;obtain rfl:=aQ C;exact⟨x,aE⟩;exact h j u v e1 C
   .have f:m8 z (a::l) (b::m) 0=x:=by show(z a b==some true)=x;refine Y aE ?_;cases x<;>rfl
    have I:m8 z (a::l) (b::m)∘Nat.succ=m8 z l m:=rfl;have J:(l.length+1==m.length+1)=(l.length==m.length):=by rw[gN,cy,cy,Nat.add_right_cancel_iff]
    exact Y k<|Y cv<|Y cv<|Y (Nat.succ_min_succ ..)<|Y List.range_succ_eq_map<|Y List.all_cons<|Y List.all_map<|Y f<|Y I<|Y J<|Y (Bool.and_assoc ..) rfl
inductive h6(n:Nat)(H:aq):V->V->Bool->Prop|nn:h6 n H .none .none true|qz {i:Int}:h6 n H .none (.int i) false|ns {x:List Nat}:h6 n H .none (.str x) false|w6 {x y:Bool}:h6 n H (.bool x) (.bool y) (x==y)|ii {x y:Int}:h6 n H (.int x) (.int y) (kx x y)|jn {i:Int}:h6 n H (.int i) .none false|ss {x y:List Nat}:h6 n H (.str x) (.str y) (ar x y)|sn {x:List Nat}:h6 n H (.str x) .none false|tt {l m:List V} {r:Bool}:all2 (same n H) l m=some r->h6 n H (.tup l) (.tup m) r|Y {i j:Nat} {l m:List V} {r:Bool}:H[i]? =some (.list l)->H[j]? =some (.list m)->Nat.beq l.length m.length=true->all2 (same n H) l m=some r->h6 n H (.ref i) (.ref j) r|rf {i j:Nat} {l m:List V}:H[i]? =some (.list l)->H[j]? =some (.list m)->Nat.beq l.length m.length=false->h6 n H (.ref i) (.ref j) false
def Df(e:same (n+1) H a b=some r):h6 n H a b r:=by
 induction a using V.casesOn with
 |none=>
  induction b using V.casesOn with
  |none=>obtain rfl:=aQ e;exact .nn
  |int=>obtain rfl:=aQ e;exact .qz
  |str=>obtain rfl:=aQ e;exact .ns
  |_=>exact aW e
 |bool=>
  induction b using V.casesOn with
  |bool=>obtain rfl:=aQ e;exact .w6
  |_=>exact aW e
 |int=>
  induction b using V.casesOn with
  |int=>obtain rfl:=aQ e;exact .ii
  |none=>obtain rfl:=aQ e;exact .jn
  |_=>exact aW e
 |str=>
  induction b using V.casesOn with
  |str=>obtain rfl:=aQ e;exact .ss
  |none=>obtain rfl:=aQ e;exact .sn
  |_=>exact aW e
 |tup l=>exact aK e λm hm e=>Y (qx hm)<|.tt e
 |ref i=>refine aK e λj h e=>Y (iK h)<|aK e λl hl e=>aK e λm hm e=>?_;revert e;rcases f:Nat.beq l.length m.length;intro e;obtain rfl:=aQ e;exact .rf (kc hl) (kc hm) f;intro e;exact .Y (kc hl) (kc hm) f e
 |_=>exact aW e
section
variable{K:al}{loc:Loc}
def aV.inj(R:aV K F loc f H s){j:Nat}(e1:f[i]? =some (a,d))(x:f[j]? =some (a,u))(h:H[i]? =some o)(k:H[j]? =some o'):i=j:=by
 refine Classical.byContradiction λne=>?_;have av:a∈foot o (a,d):=by cases o<;>exact .head _
 have aG:a∈foot o' (a,u):=by cases o'<;>exact .head _
 exact kw R.rep.nd ne h e1 k x a av aG
def AE(C:∀{a b:V}{u:Value}{r:Bool},RV f h a u->RV f h b u->same n H a b=some r->r=true):∀{l m D r},aT f h l D->aT f h m D->all2 (same n H) l m=some r->r=true:=by
 intro l;induction l with
 |nil=>intro m D r q j e;obtain rfl:=q.i0;cases j;obtain rfl:=aQ e;rfl
 |cons x l E=>
  intro m D r q j e;obtain⟨u,us,rfl,I,z⟩:=q.eS;cases j with|cons J N=>
  refine e6 (Bh e) λx y aE k O=>?_;clear e;subst O;exact Y (C I J aE)<|Y (E z N k) rfl
def GZ(R:aV K F loc f H s)(n):∀{a b u r},RV f s.heap a u->RV f s.heap b u->same n H a b=some r->r=true:=by
 induction n with
 |zero=>exact λ_ _ e=>aW e
 |succ n O=>
  intro a b u r T U e;have y:=T.inv;have x:=U.inv;have e:=Df e;clear T U;cases e with
  |nn=>rfl|qz=>obtain⟨_,h⟩:=x;rw[show u=.none from y]at h;exact(by cases h)
  |ns=>obtain⟨_,_,h⟩:=x;rw[show u=.none from y]at h;exact(by cases h)
  |w6=>have h:=Eq.trans (Eq.symm y) x;clear x e;obtain rfl:=PySem.Value.bool.inj h;exact tQ _
  |ii=>obtain⟨_,h⟩:=y;obtain⟨_,h'⟩:=x;rw[h]at h';clear e;refine aS (PySem.Value.int.inj h') λab ae=>?_;subst ab ae;exact Y oG<|ik rfl
  |jn=>obtain⟨_,h⟩:=y;rw[show u=.none from x]at h;exact(by cases h)
  |ss=>obtain⟨_,_,h⟩:=y;obtain⟨_,_,h'⟩:=x;rw[h]at h';cases h';exact kt.mpr rfl
  |sn=>obtain⟨_,_,h⟩:=y;rw[show u=.none from x]at h;exact(by cases h)
  |tt e=>obtain⟨a,D,rfl,ea,_,z⟩:=y;obtain⟨b,ws,h,J,_,aa⟩:=x;obtain rfl:=PySem.Value.ref.inj h;rw[ea]at J;cases J;exact AE O z aa e
  |Y j C _ e=>obtain⟨a,d,rfl,E⟩:=y;obtain⟨b,W,h,I⟩:=x;obtain rfl:=PySem.Value.ref.inj h;obtain rfl:=R.inj E I j C;rw[j]at C;obtain rfl:=au.list.inj<|aQ C;obtain⟨D,k,_,_,z⟩:=R.isList j E;exact AE O z z e
  |rf j C N=>obtain⟨a,d,rfl,E⟩:=y;obtain⟨b,W,h,I⟩:=x;obtain rfl:=PySem.Value.ref.inj h;clear e;obtain rfl:=R.inj E I j C;rw[j]at C;obtain rfl:=au.list.inj<|aQ C;rw[eg]at N;exact absurd N.symm<|by decide
end
section
variable{K:al}
def EV(N:∀{a b:V}{u x:Value}{r:Bool},RV f s.heap a u->RV f s.heap b x->same n H a b=some r->EqAt A s u x r)(q:aT f s.heap l D)(J:aT f s.heap m z)(e:all2 (same n H) l m=some r):∀j h(y:j<z.toArray.size),EqAt A s D.toArray[j] z.toArray[j] (m8 (same n H) l m j):=λj h y=>by
 simp only[dg]at h y;have C:j<l.length:=by refine Y q.length.symm ?_;exact h
 have E:j<m.length:=by refine Y J.length.symm ?_;exact y
 refine aZ (q.get<|dA C) λu e1 O=>?_;refine aZ (J.get<|dA E) λx I T=>?_;rw[dA h]at e1;rw[dA y]at I;refine aU ((wn e).1 j _ _ (dA C)<|dA E) λk aP=>?_;have:=N O T aP;unfold m8;simp only[dA C,dA E,aP,List.getElem_toArray];refine Y (aQ e1)<|Y (aQ I) ?_;cases k<;>exact this
def Bp:((⟨x.toArray⟩:Str)==⟨y.toArray⟩)=ar x y:=by rw[gN,kt,cy];constructor;intro h;simpa using h;intro h;exact Y h rfl
def vb(self:Value.ref a=.ref b->r=true)(h:RcAt A s (.ref a) (.ref b) r):EqAt A s (.ref a) (.ref b) r:=by by_cases f:a=b;clear h;subst f;exact Y (self rfl)<|.same _;exact .of_refs f h
set_option tactic.hygienic true in
def B4(R:aV K F loc f H s)(n):∀{a b u x r A},A.units+n<cLine->RV f s.heap a u->RV f s.heap b x->same n H a b=some r->RcAt A s u x r/\EqAt A s u x r/\RcNeAt A s u x (!r):=by
 induction n with
 |zero=>exact λ_ _ _ e=>aW e
 |succ n ab=>
  intro a b u x r A hu qa qb e;have ih:∀{a b:V}{u x:Value}{r:Bool},RV f s.heap a u->RV f s.heap b x->same n H a b=some r->EqAt A.in1 s u x r:=λqa qb e=>(ab (by refine Y (Around.in1_units ..) ?_;exact aR hu<|by simp+arith) qa qb e).2.1;have U:A.units<cLine:=aR hu<|by simp+arith
  have self:u=x->r=true:=λh=>by subst h;exact GZ R (n+1) qa qb e
  clear hu ab;have C:=qa.inv;have I:=qb.inv;have e:=Df e;clear qa qb;cases e with
  |nn=>exact Y (show u=.none from C)<|Y (show x=.none from I)<|e0 .none_none (.same _) .none_none
  |qz=>obtain⟨_,rfl⟩:=I;exact Y (show u=.none from C)<|e0 (.none_int _ _) (.none_int _ _)<|.none_int _ _
  |ns=>obtain⟨_,_,rfl⟩:=I;exact Y (show u=.none from C)<|e0 (.none_str _ _) (.none_str _ _)<|.none_str _ _
  |w6=>exact Y (show u=.bool _ from C)<|Y (show x=.bool _ from I)<|e0 (.bool_bool _ _) (.bool_bool _ _)<|.bool_bool _ _
  |ii=>
   rename_i i j;obtain⟨_,rfl⟩:=C;obtain⟨_,rfl⟩:=I;have:kx i j=(i==j):=by exact Y oG rfl
   exact Y this<|e0 (.int_int _ _ _ _) (.int_int _ _ _ _)<|.int_int _ _ _ _
  |jn=>obtain⟨_,rfl⟩:=C;exact Y (show x=.none from I)<|e0 (.int_none _ _) (.int_none _ _)<|.int_none _ _
  |ss=>obtain⟨_,_,rfl⟩:=C;obtain⟨_,_,rfl⟩:=I;exact Y Bp.symm<|e0 (.str_str _ _ _ _) (.str_str _ _ _ _)<|.str_str _ _ _ _
  |sn=>obtain⟨_,_,rfl⟩:=C;exact Y (show x=.none from I)<|e0 (.str_none _ _) (.str_none _ _)<|.str_none _ _
  |tt e=>obtain⟨a,D,rfl,N,la,y⟩:=C;obtain⟨b,ws,rfl,O,E,T⟩:=I;have ta:s.heap.IsTuple a D.toArray:=⟨_,N,rfl,_,rfl⟩;have tb:s.heap.IsTuple b ws.toArray:=⟨_,O,rfl,_,rfl⟩;have es:=(wn e).2;have pa:=EV ih y T e;have J:=RcAt.tuples ta tb U pa;have rn:=RcNeAt.tuples ta tb U pa;rw[dg,dg,y.length,T.length,<-es]at J rn;exact e0 J (vb self J) rn
  |Y z hj hb e=>obtain⟨a,d,rfl,ei⟩:=C;obtain⟨b,d',rfl,ej⟩:=I;obtain⟨D,k,N,_,y⟩:=R.isList z ei;obtain⟨ws,k',O,_,T⟩:=R.isList hj ej;have aa:=cd hb;have es:=(wn e).2;have pa:=EV ih y T e;have W:D.toArray.size=ws.toArray.size:=Y dg<|Y dg<|Y y.length<|Y T.length<|Y aa rfl;have J:=RcAt.lists ⟨_,N,rfl,_,rfl⟩ ⟨_,O,rfl,_,rfl⟩ W U pa;have rn:=RcNeAt.lists ⟨_,N,rfl,_,rfl⟩ ⟨_,O,rfl,_,rfl⟩ W U pa;rw[<-aa,Nat.min_self,tQ,Bool.and_true]at es;rw[dg,y.length,<-es]at J rn;exact e0 J (vb self J) rn
  |rf z hj hb=>
   obtain⟨a,d,rfl,ei⟩:=C;obtain⟨b,d',rfl,ej⟩:=I;obtain⟨D,k,N,_,y⟩:=R.isList z ei;obtain⟨ws,k',O,_,T⟩:=R.isList hj ej;have W:(D.toArray.size !=ws.toArray.size)=true:=by exact Y dg<|Y dg<|Y y.length<|Y T.length<|bne_iff_ne.mpr<|qe hb
   have J:=RcAt.lists_lengths ⟨_,N,rfl,_,rfl⟩ ⟨_,O,rfl,_,rfl⟩ W U;exact e0 J (vb self J)<|RcNeAt.lists_lengths ⟨_,N,rfl,_,rfl⟩ ⟨_,O,rfl,_,rfl⟩ W U
end
end
section
open Builtin Builtin.Str StrLaws
theorem iz:∀{y x},pre y x=true↔x.take y.length=y
 |[],x=>by simp[pre]
 |_::_,[]=>by simp[pre]
 |a::y,b::x=>by simp only[pre];rcases h:Nat.beq a b;have:=qe h;simp[gs this];refine Y (cd h) ?_;simp[iz]
def j2(h:pre y x=true):y.length<=x.length:=by have:=az List.length<|iz.mp h;rw[ma]at this;lia
noncomputable abbrev tx(x:List Nat):Str:=⟨x.toArray⟩
def cJ(x):(tx x).length=x.length:=by show x.toArray.size=_;simp
def oc(k:i<=x.length):At (tx x) (tx y) x.length i↔pre y (x.drop i)=true:=by unfold At;rw[subAt_eq,cJ,iz];constructor;rintro⟨_,h⟩;simpa using h;intro h;refine⟨?_,by simpa using h⟩;have:=az List.length h;rw[ma,b0]at this;exact Nat.add_le_of_le_sub' k<|as (a4 this.symm)<|Nat.min_le_right _ _
def qd:∀{x},br y x=none->∀i,i<=x.length->pre y (x.drop i)=false:=by
 intro x;induction x with
 |nil=>
  intro h i k;have:i=0:=by simpa using k
  clear k;subst this;unfold br at h;rcases y;exact aW<|h.symm;rfl
 |cons a r f=>
  intro h i k;unfold br at h;revert h;rcases q:pre y (a::r);intro h;rcases i with _|i;exact q;exact f (by simpa using h) i<|by simpa using k
  intro h;exact aW<|h.symm
def jQ:∀{x j},br y x=some j->j<=x.length/\pre y (x.drop j)=true/\∀k,k<j->pre y (x.drop k)=false:=by
 intro x;induction x with
 |nil=>
  intro j h;unfold br at h;rcases y;obtain rfl:=aQ h;exact e0 (ba _) rfl λk aP=>by grind
  exact aW h
 |cons a r C=>intro j h;unfold br at h;revert h;rcases q:pre y (a::r);intro h;refine aZ (kW.mp h) λk aP D=>?_;clear h;subst D;refine c5 (C aP) λu f z=>e0 (by simpa using u) f λm hm=>?_;rcases m with _|m;exact q;exact z m<|eX ‹_›;intro h;obtain rfl:=aQ h;exact e0 (by simp) q λk aP=>by omega
def qV(x y)(lo C)(hl:1<=C)(O:lo<=x.length\/1<=y.length):(br y (x.drop lo)=none/\occurrences (tx x) (tx y) lo x.length C=[])\/∃j r,br y (x.drop lo)=some j/\occurrences (tx x) (tx y) lo x.length C=(j+lo)::r:=by
 have I:=occ_head_from (tx x) (tx y) lo C hl;rw[cJ]at I;rcases I with⟨u,f⟩|⟨i,r,u,f,z,N⟩
 .refine .inl ⟨?_,u⟩;rcases q:br y (x.drop lo)with _|j;rfl
  .refine c5 (jQ q) λE D _=>?_;rw[fc]at D;rw[b0]at E;have:lo+j<=x.length:=by
    have:=j2 D;rw[b0]at this;rcases O with h|h;exact a7 E (a4<|bx h)<|by simp+arith
    exact gt<|Nat.lt_of_sub_pos<|as h this
   exact absurd ((oc this).mpr D)<|f _<|bK ..
 .have k:i<=x.length:=by have:=z.1;rw[cJ]at this;exact aR this (by simp+arith)
  have g:=(oc k).mp z;rcases q:br y (x.drop lo)with _|j;have:=qd q (i-lo) (by refine Y b0 ?_;exact cT k (cm x.length lo) (a4<|bx<|show lo<=i from aR f<|by simp+arith)<|by simp+arith);rw[fc,show lo+(i-lo)=i by exact ce (aR (a4<|bx<|show lo<=i from aR f<|by simp+arith)<|by simp+arith)<|aR (cm i lo)<|by simp+arith,g]at this;exact ff<|this.symm
  .refine c5 (jQ q) λE D J=>?_;rw[fc]at D;rw[b0]at E;refine .inr ⟨j,r,rfl,?_⟩;refine Y u ?_;have le:lo+j<=x.length:=a7 E (a4<|bx<|show lo<=x.length from a7 f k<|by simp+arith)<|by simp+arith
   have e:i=lo+j:=by rcases Nat.lt_trichotomy i (lo+j)with h|h|h;have:=J (i-lo) (a7 h (a4<|bx<|show lo<=i from aR f<|by simp+arith)<|by simp+arith);rw[fc,show lo+(i-lo)=i by exact ce (aR (a4<|bx<|show lo<=i from aR f<|by simp+arith)<|by simp+arith)<|aR (cm i lo)<|by simp+arith,g]at this;exact ff<|this.symm;exact h;exact absurd ((oc le).mpr D)<|N _ (bK ..) h
   exact Y e<|Y (cF ..) rfl
def Js(x y):Txt.find (tx x) (tx y)=g6 (br y x):=by have:=qV x y 0 1 (ba _)<|.inl<|bJ _;unfold Txt.find;refine Y (cJ ..) ?_;rcases this with⟨u,f⟩|⟨j,r,u,f⟩;rw[iV]at u;exact Y f<|Y u rfl;rw[iV]at u;exact Y f<|Y u rfl
def MH(x y):Txt.contains (tx x) (tx y)=(br y x).isSome:=by have:=qV x y 0 1 (ba _)<|.inl<|bJ _;unfold Txt.contains;refine Y (cJ ..) ?_;rcases this with⟨u,f⟩|⟨j,r,u,f⟩;rw[iV]at u;exact Y f<|Y u rfl;rw[iV]at u;exact Y f<|Y u rfl
def vQ(n i):fromIndex n (Int.ofNat i)=i:=by unfold fromIndex;refine Y (bN<|iR.mpr<|gz i) ?_;show(max 0 (i:Int)).toNat=i;rfl
def S'(x y)(i)(h:1<=y.length):Txt.find3 (tx x) (tx y) (Int.ofNat i)=g6 ((br y<|x.drop i).map (·+i)):=by unfold Txt.find3;refine Y (cJ ..)<|Y (vQ ..) ?_;rcases qV x y i 1 (ba _) (.inr h)with⟨u,f⟩|⟨j,r,u,f⟩;exact Y f<|Y u rfl;exact Y f<|Y u rfl
def Mf(x y):Txt.startswith (tx x) (tx y)=pre y x:=by unfold Txt.startswith;have:=oc (x:=x) (y:=y) (i:=0)<|bJ _;unfold At at this;rw[iV]at this;rw[gN,fP,gV];exact Y (cJ x) this
def S5(x y)(i):Txt.startswith3 (tx x) (tx y) (Int.ofNat i)=(Nat.ble i x.length&&pre y (x.drop i)):=by unfold Txt.startswith3;rw[cJ x,vQ,gN,fP,fP,gV,Nat.ble_eq];by_cases k:i<=x.length;have:=oc (y:=y) k;unfold At at this;rw[this];simp[k];constructor;rintro⟨h,_⟩;grind;rintro⟨h,_⟩;exact absurd h k
def EJ(x y):Txt.endswith (tx x) (tx y)=b2 x y:=by unfold Txt.endswith b2;rw[cJ,cJ,gN,fP,gV,iz,subAt_eq];simp only[fL,cJ,cy];refine Y List.take_reverse ?_;constructor;rintro⟨u,f⟩;rw[List.reverse_inj];rw[nR<|by refine Y b0 ?_;exact a4<|Nat.sub_sub_self<|as (a4 (eT _).symm) u]at f;exact f;intro h;rw[List.reverse_inj]at h;have hl:=az List.length h;rw[b0]at hl;refine⟨by exact a7 (a4 hl.symm) (gj x.length<|x.length-y.length) (by simp+arith),?_⟩;exact Y (nR<|by rw[b0];exact aR (a4 hl)<|by simp+arith)<|Y h rfl
end
section
variable{P:Params}{f:a6}{h:Heap}
def bI.find{j:List (Str×V)}{es:List DictEntry}(q:bI P f h j es)(x:Str):match aC x j with|some a=>∃v,(es.find? λe=>Value.isStrOf x e.key).map (·.val)=some v/\RV f h a v|none=>(es.find? λe=>Value.isStrOf x e.key).map (·.val)=none:=by
 induction q with
 |nil=>rfl
 |@cons y t a v l es r rs k=>
  unfold aC;have aP:Value.isStrOf x (.str y t)=sq y x:=by refine Y (isStr_of ..).symm ?_;show(y==x)=sq y x;rw[gN,cy,dn]
  rcases e:sq y x;simp only[List.find?_cons,aP,e];exact k;simp only[List.find?_cons,aP,e];exact⟨v,rfl,r⟩
def bI.keys(q:bI P f h j es):KeysLit P es:=by
 induction q with
 |nil=>trivial|cons r rs k=>exact⟨⟨_,_,rfl,rfl⟩,k⟩
theorem bI.length(q:bI P f h j es):es.length=j.length:=by
 induction q with
 |nil=>rfl|cons r rs k=>exact Y cv<|Y cv<|Y k rfl
noncomputable def n'(x:Str):List (Str×V)->Option Nat|[]=>none|(k,_)::r=>match sq k x with|true=>some 0|false=>(n' x r).map (·+1)
def bI.findIdx(q:bI P f h j es)(x):es.findIdx? (λe=>e.key.isStr x)=n' x j:=by
 induction q with
 |nil=>rfl
 |@cons y t a v l es r rs k=>
  have aP:(Value.str y t).isStr x=sq y x:=by show(y==x)=sq y x;rw[gN,cy,dn]
  refine Y List.findIdx?_cons ?_;unfold n';simp only[aP];rcases e:sq y x;simp only[lg,jI,k];rfl
theorem bI.put(q:bI P f h j es){x:Str}{t:Tok}{a:V}{v:Value}(r:RV f h a v):bI P f h (put x a j) (match n' x j with|some i=>es.modify i λe=>{e with val:=v}|none=>es++[⟨PyData.keyHash P x,.str x t,v⟩]):=by
 induction q with
 |nil=>exact .cons r .nil|@cons y C b u l es z rs k=>unfold n' Mine.Internal.put;rcases e:sq y x;simp only;revert k;rcases q:n' x l with _|i;intro k;exact .cons z k;intro k;simp only[Option.map_some,List.modify_succ_cons];exact .cons z k;simp only[List.modify_zero_cons];exact .cons r rs
end
noncomputable def e3(es:List DictEntry)(x:Str)(k:Int)(t:Tok)(v:Value):List DictEntry:=match es.findIdx? (λe=>e.key.isStr x)with|some i=>es.modify i λe=>{e with val:=v}|none=>es++[⟨k,.str x t,v⟩]
theorem bI.e3(q:bI P f h j es)(r:RV f h a v):bI P f h (Mine.Internal.put x a j) (Mine.Internal.e3 es x (PyData.keyHash P x) t v):=by unfold Mine.Internal.e3;exact Y (q.findIdx ..)<|q.put r
set_option tactic.hygienic true in
def Up(hd:o.data=.dict es.toArray n)(x)(k)(t)(v):∃h,Obj.putName x k (.str x t) v o={o with data:=.dict (e3 es x k t v).toArray h}:=by obtain⟨c,d,j,u⟩:=o;dsimp only at hd;subst hd;refine Y Obj.putName_eq ?_;unfold Obj.putNameByArray e3;dsimp only;refine Y (t5 ..) ?_;split;rename_i i f;exact Y f ⟨n,by simp⟩;rename_i f;exact Y f ⟨n+1,by simp⟩
def rN(f:s.heap.get? a=some o)(hd:o.data=.dict es.toArray n)(aP:∀e∈es,∃y t,e.key=.str y t)(h:∀h' k,h'.get? a=some {o with data:=.dict (e3 es x (PyData.keyHash w.params x) s.toks v).toArray k}->Heap.SameBut a s.heap h'->Q () {s with heap:=h',toks:=s.toks+1}):wpAny (model I w) A (nsSet a x v) Q U s:=by
 unfold nsSet;refine aX<|aX<|wpAny_askSetting<|aL<|aX<|wpAny_mkText<|aX<|wpAny_loadPart f<|Y hd ?_;dsimp only;have u:es.toArray.any (·.refKey)=false:=by rw[Array.any_eq_false'];intro e he;refine g8 (aP e<|by simpa using he) λy t q=>?_;simp[DictEntry.refKey,q]
 refine Y aRefKeyMayBeTheName_eq ?_;simp only[aRefKeyMayBeTheNameByArray,u,su,lg,jI];refine wpAny_updatePart f<|aU (Up hd x (PyData.keyHash w.params x) s.toks v) λk e=>h _ k ?_<|kF ..;have j:(Obj.putName x (PyData.keyHash w.params x) (.str x s.toks) v o).isFreed=false:=by exact Y e rfl
 have:=jr (Obj.putName x (PyData.keyHash w.params x) (.str x s.toks) v) f j;rw[e]at this;exact this
structure eM(K:al)(T:ct):Prop where
 g:∃mg mb,K.h₀.Ns mainGlobals mg/\K.h₀.Ns builtinsNs mb/\(∀x a,aC x T.G=some a->∃v,mg x=some v/\∀f,RV f K.h₀ a v)/\
  (∀x b,aC x T.G=none->aC x T.B=some b->mg x=none/\mb x=some b.val)
def Bz:("__debug__":Str)=i7:=by decide+kernel
def Li:("__classdict__":Str)=Ao:=by decide+kernel
def sG{f:Type}{m:Option f}{r:f}(e:aB b none m=some r):b=false/\m=some r:=by rcases b;exact⟨rfl,e⟩;exact aW e
def RV.py(q:RV f h x v)(k:cx h h'):RV f h' x v:=by have:=q.keep [] k;rwa [be]at this
section
variable{K:al}{T:ct}{c:bh}{loc:Loc}{H:aq}
def aV.Br(R:aV K F loc f H s)(n:K.h₀.Ns a m):s.heap.Ns a m:=by refine ea n λo es k e d q=>⟨o,es,k,R.base a o (λC=>?_) e,d,q⟩;refine aU R.tab λN h=>?_;clear n;subst C;rw[h]at e;obtain rfl:=aQ e;cases d
def aV.Gy(R:aV K F loc f H s):cx K.h₀ s.heap:=λa o e c=>R.base a o (λC=>by refine aU R.tab λN h=>?_;subst C;rw[h]at e;obtain rfl:=aQ e;rcases c with c|c|c|c|c<;>cases c) e
def kg(x)(env:Env):env.kindOf x=aC x env.scope.names:=BP x _
inductive JT(T:ct)(c:bh)(loc:Loc)(x:Str)(H:aq)(a:V):Prop|loc (aP:aC x c.sc=some .local) (h:aC x loc=some a)|glob (aP:aC x c.sc=some .globalImplicit) (h:vW T x (aC x T.G)=some a)|gR (aP:aC x c.sc=some .cell) (h:nY loc x H=some a)|RE (aP:aC x c.sc=some .free) (h:nY loc x H=some a)
def CC(e:lG T c loc x H=some a):sq x i7=false/\JT T c loc x H a:=by
 refine aS (sG e) λhd e=>aK e λk aP e=>⟨hd,?_⟩;induction k with
 |«local»=>exact .loc aP e|cell=>exact .gR aP e|free=>exact .RE aP e|globalExplicit=>exact aW e|globalImplicit=>exact .glob aP e
inductive Ig(loc:Loc)(x:Str)(H:aq)(a:V):Prop|mk (i:Nat) (f:(x==("__classdict__":Str))=false) (h:aC x loc=some (.ref i)) (j:H[i]? =some (.cell (some a)))
def wj(h:sq x y=false):(x==y)=false:=rq.mpr<|lw h
def HM(e:wH o=some a):o=.cell (some a):=by
 induction o with
 |cell v=>exact Y (show v=some a from e) rfl|_=>exact aW e
def Rq(e:nY loc x H=some a):Ig loc x H a:=by refine aS (sG e) λhd e=>aK e λb j e=>aK e λi h e=>aK e λo f e=>?_;rw[iK h]at j;rw[HM e]at f;exact⟨i,by refine Y Li ?_;exact wj hd,j,f⟩
def Di(R:aV K F loc f H s)(aP:aC x F.env.scope.names=some .cell\/aC x F.env.scope.names=some .free)(e:nY loc x H=some a)(bp:∀u,RV f s.heap a u->Q u s):wpAny (model I K.w) A (loadName F.env x) Q U s:=by obtain⟨i,z,h,y⟩:=Rq e;obtain⟨N,m,J,C,n,l⟩:=R.loc;refine bU (l.gR x i aP h) λD E e1 k=>?_;obtain⟨u,j,q⟩:=R.rep.obj i _ _ y k;exact aP.elim (λaP=>wpAny_loadName_cell R.kind ((kg x F.env).trans aP) e1 ⟨_,j,rfl⟩<|bp u q) λaP=>wpAny_loadName_free R.kind ((kg x F.env).trans aP) e1 ⟨_,j,rfl⟩ (bp u q) z
def QR(R:aV K F loc f H s)(aP:aC x F.env.scope.names=some .local)(e:aC x loc=some a)(bp:∀u,RV f s.heap a u->Q u s):wpAny (model I K.w) A (loadName F.env x) Q U s:=by obtain⟨k,m,j,h,n,l⟩:=R.loc;exact aZ (l.own x aP a e) λu e1 q=>wpAny_loadName_local R.kind ((kg x F.env).trans aP) (by refine Y R.locals ?_;exact n) e1<|bp u q
def J3(G:eM K T)(R:aV K F loc f H s)(aP:aC x F.env.scope.names=some .globalImplicit)(e:vW T x (aC x T.G)=some a)(bp:∀u,RV f s.heap a u->Q u s):wpAny (model I K.w) A (loadName F.env x) Q U s:=by refine kG G.g λE D z C k j=>Y (loadName_read R.kind<|(kg x F.env).trans aP) ?_;unfold loadGlobal;refine Y R.glob<|Y R.blt<|aX<|wpAny_nsGet (R.Br z) ?_;revert e;rcases hg:aC x T.G with _|b;intro e;exact aK e λb y e=>aS (j x b hg y) λe1 h=>Y e1<|aX<|wpAny_nsGet (R.Br C)<|Y h<|aL<|bp _<|aQ e▸.blt rfl;intro e;exact aZ (k x b hg) λu e1 q=>Y e1<|aL<|bp u<|aQ e▸(q f).py R.Gy
def DF(G:eM K T)(E:CtxOk d c F)(R:aV K F loc f H s)(e:lG T c loc x H=some a)(bp:∀u,RV f s.heap a u->Q u s):wpAny (model I K.w) A (loadName F.env x) Q U s:=by rcases(CC e).2 with⟨aP,h⟩|⟨aP,h⟩|⟨aP,h⟩|⟨aP,h⟩;exact QR R (E.kn aP<|by decide) h bp;exact J3 G R (E.kn aP<|by decide) h bp;exact Di R (.inl<|E.kn aP<|by decide) h bp;exact Di R ((E.kl aP).elim .inr λC=>.inl C.2) h bp
def Fg(e:lG T c loc x H=some a):(x==("__debug__":Str))=false:=by exact Y Bz<|wj (CC e).1
def BA(G:eM K T)(E:CtxOk d c F)(R:aV K F loc f H s)(e:g5 T c loc x H=some r):aO I K F loc (loadName F.env x) (aM aN r) (a9 r) f H s/\(x==("__debug__":Str))=false:=by exact aK e λa h e=>⟨DF G E R h λ_ q=>bj R (.refl ..) q e,Fg h⟩
end
set_option tactic.hygienic true in
def ve(es)(x y)(k)(t)(v):nsFind (e3 es x k t v).toArray y=if y=x then some v else nsFind es.toArray y:=by
 unfold e3 nsFind;split
 .rename_i i j;have:=findBy_modify (λn v=>v.isStr n) Value.isStr_inj es.toArray x y v i<|by refine Y (t5 ..) ?_;exact j
  simpa using this
 .rename_i j;have:=findBy_push (λn v=>v.isStr n) es.toArray x y k (.str x t) v (λC=>by show(x==C)=decide (C=x);rw[gN,cy,gV];exact eq_comm)<|by refine Y (t5 ..) ?_;exact j
  simpa using this
set_option tactic.hygienic true in
def C8(h:∀e∈es,∃n t,e.key=.str n t)(x)(k)(t)(v):∀e∈e3 es x k t v,∃n t,e.key=.str n t:=by
 unfold e3;split;rename_i i j;intro e he;have:StrKeys (es.toArray.modify i λe=>{e with val:=v}):=StrKeys.modify (λe m=>h e<|by simpa using m) _ _;exact this e<|by simpa using he
 intro e he;rcases d0.mp he with m|m;exact h e m;exact Y (b9.mp m)<|lX x t rfl
section
variable{K:al}{F:bG}{c:bh}{loc:Loc}{H:aq}{x:Str}{a:V}
inductive Oi(c:bh)(x:Str)(a:V)(loc:Loc)(H:aq)(r:RS):Prop|own (aP:aC x c.sc=some .local) (e:r=.ok .next (put x a loc) H)|gR (i:Nat) (w:Option V) (aP:aC x c.sc=some .cell) (j:aC x loc=some (.ref i)) (k:H[i]? =some (.cell w)) (e:r=.ok .next loc (H.set i (.cell (some a))))
def Ns.uniq{h:Heap}{a:Addr}(n:h.Ns a m)(u:h.Ns a T):T=m:=by refine gP n λo es k e d _ q=>gP u λo' z C j f _ y=>?_;rw[e]at j;rw[<-aQ j,d]at f;funext x;exact Y (q x).symm<|Y (y x).symm<|Y ((Data.dict.inj f).1) rfl
def MI(e:En o=true):∃w,o=.cell w:=by
 induction o with
 |cell w=>exact⟨w,rfl⟩|_=>exact ff e
def JF(e:fR q m=some r):q=true/\m=some r:=by rcases q;exact aW e;exact⟨rfl,e⟩
def iJ{P:Prop}(e:fR q m=some r)(h:q=true->m=some r->P):P:=aS (JF e) h
def yX(e:fV c x a loc H=some r):Oi c x a loc H r:=by
 refine dk e λk aP e=>?_;induction k with
 |«local»=>exact .own aP (aQ e).symm|cell=>refine dk e λb u e=>dk e λi j e=>dk e λo h e=>iJ e λf e=>aU (MI f) λw y=>?_;clear f;subst y;rw[iK j]at u;exact .gR i w aP u h (aQ e).symm
 |_=>exact aW e
def aV.own(R:aV K F loc f H s){es:List DictEntry}(t:Tok)(D:s.heap.get? F.L=some o)(u:h'.get? F.L=some {o with data:=.dict es.toArray n})(y:Heap.SameBut F.L s.heap h')(nn:h'.Ns F.L T)(lo:∀m,s.heap.Ns F.L m->gY F.env f s.heap loc m->cx s.heap h'->gY F.env f h' ag T):aV K F ag f H {s with heap:=h',toks:=t}/\a5 K.a3 [F.L] f H s.heap f H h':=by
 have j:∀b o,b∉F.L::bz H f->s.heap.get? b=some o->h'.get? b=some o:=λb o nm h=>by refine Y (y.2 b λC=>nm<|by rw[C];exact .head _) ?_;exact h
 have fx:=qw R j;have kl:∀b,b≠F.L->h'.get? b=s.heap.get? b:=y.2;have M:=R.move (τ:=[]) (H':=H) (ag:=ag) (h':=h') t j (λb N C=>?_) ?_ (λb m=>.inl<|by rwa [be]at m) λO J x no E=>?_;rw[be]at M;exact M;by_cases z:b=F.L;rw[z,u]at C;exact aW<|C.symm;rw[kl b z]at C;exact N C;refine Y (be ..) ⟨R.rep.len,λi o p e1 k=>?_,R.rep.nd,R.rep.new⟩;have:=(R.rep.obj i o p e1 k).keep (τ:=[]) fx (λb I ob h=>by refine Y (kl b λC=>R.apart<|by rw[<-C];exact ed e1 k _ I) ?_;exact h)<|uV R j;rwa [be]at this;rw[D]at x;obtain rfl:=aQ x;exact oU _ n T u nn<|Y (be ..)<|lo J no E fx
def RO.LU(q:RO P f h (.cell w) p):∃C,h.get? p.1=some {cls:=.type "cell",data:=.cell C}:=by rcases w with _|w;exact⟨_,q⟩;obtain⟨C,e,_⟩:=q;exact⟨_,e⟩
def LC(R:aV K F loc f H s)(q:RV f s.heap a u)(aP:aC x F.env.scope.names=some .cell)(j:aC x loc=some (.ref i))(k:H[i]? =some (.cell w))(h:∀J,aV K F loc f (H.set i<|.cell<|some a) J->a5 K.a3 [F.L] f H s.heap f (H.set i<|.cell<|some a) J.heap->Q () J):wpAny (model I K.w) A (storeName F.env x u) Q U s:=by
 obtain⟨oL,m,eL,W,n,l⟩:=R.loc;refine bU (l.gR x i (.inl aP) j) λE dd e1 z=>aU ((R.rep.obj i _ _ k z).LU) λC y=>?_;unfold storeName;refine Y ((kg x F.env).trans aP) ?_;simp only[show(some NameKind.cell==some NameKind.globalImplicit)=false from rfl,Bool.false_and,lg,jI,R.kind,show(ScopeKind.function==ScopeKind.class)=false from rfl];unfold cellOf;refine Y e1<|aX<|aL<|aX<|wpAny_load y<|wpAny_update y ?_;have O:=jr (h:=s.heap) (λo=>{o with data:=.cell<|some u}) y rfl;obtain⟨D,st⟩:=R.set (h':=s.heap.update E λo=>{o with data:=.cell<|some u}) s.toks (o:=.cell w) (o':=.cell<|some a) k z rfl (λb ob T N=>by refine Y (pk _ _ λC=>T<|by rw[<-C];exact .head _) ?_;exact N)
  (λfx=>⟨u,O,q.py fx⟩)
 exact h _ D st
def RP(l:gY F.env f h loc m)(aP:aC x F.env.scope.names=some .local)(q:RV f h a u)(fx:cx h h'):gY F.env f h' (put x a loc) (λy=>if y=x then some u else m y):=by
 refine⟨λy z b k=>?_,λy i j z=>?_⟩;rw[iw]at k;by_cases C:y=x;rw[bZ C]at k;exact Y (aQ k).symm<|a8 u (bZ C)<|q.py fx;rw[bN C]at k;exact aZ (l.own y z b k) λw e1 r=>a8 w ((bN C).trans e1)<|r.py fx
 .rw[iw]at z;by_cases C:y=x;rw[C,aP]at j;rcases j with j|j<;>cases j
  rw[bN C]at z;exact l.gR y i j z
def LD(R:aV K F loc f H s)(q:RV f s.heap a u)(aP:aC x F.env.scope.names=some .local)(h:∀J,aV K F (put x a loc) f H J->a5 K.a3 [F.L] f H s.heap f H J.heap->Q () J):wpAny (model I K.w) A (storeName F.env x u) Q U s:=by
 refine Y (storeName_local ((kg x F.env).trans aP) (by rw[R.kind];rfl) ..)<|Y R.locals ?_;obtain⟨oL,m,z,cL,n,l⟩:=R.loc;refine g8 (id n) λo' ae O=>?_;obtain⟨es⟩:=ae;refine iA O λk D W aa hm=>?_;rw[z]at D;clear O;obtain rfl:=aQ D;have N:∀e∈es,∃y t,e.key=.str y t:=λe he=>aa e<|List.mem_toArray.mpr he;refine rN z W N λh' n' E sb=>?_;have nn:h'.Ns F.L (λy=>if y=x then some u else m y):=⟨_,_,n',E,rfl,λe he=>C8 N _ _ _ _ e<|List.mem_toArray.mp he,λy=>by refine Y (ve ..) ?_;by_cases C:y=x;exact Y (bZ C)<|(bZ C).symm;refine Y (bN C) ?_;exact(hm y).trans (bN C).symm⟩;obtain⟨T,st⟩:=R.own (s.toks+1) z E sb nn λaf ab j fx=>by rw[Ns.uniq n ab]at j;exact RP j aP q fx
 exact h _ T st
def mO(E:CtxOk d c F)(R:aV K F loc f H s)(q:RV f s.heap a u)(e:fV c x a loc H=some (.ok .next ag H'))(h:∀J,aV K F ag f H' J->a5 K.a3 [F.L] f H s.heap f H' J.heap->Q () J):wpAny (model I K.w) A (storeName F.env x u) Q U s:=by rcases yX e with⟨aP,e⟩|⟨i,w,aP,j,k,e⟩;cases e;exact LD R q (E.kn aP<|by decide) h;cases e;exact LC R q (E.kn aP<|by decide) j k h
end
section
open SeqAt
def uK(x:List Nat)(v:Value):Bool:=match v with|.str C _=>C==tx x|_=>false
theorem CM:∀{a b},mw a b=decide (a<b)
 |[],[]=>by exact Y StrLaws.lt_nil_nil rfl
 |[],b::t=>by exact Y (StrLaws.lt_nil_cons ..) rfl
 |a::r,[]=>by exact Y (StrLaws.lt_cons_nil ..) rfl
 |a::r,b::t=>by
  refine Y (StrLaws.lt_cons_cons ..) ?_;unfold mw;rcases h:Nat.blt a b
  .have k:¬a<b:=λC=>by rw[jh.mpr C]at h;exact ff (h.symm)
   rcases j:Nat.beq a b;have:=qe j;simp[k,this];have:=cd j;clear h k j;subst this;simp[CM]
  have:=jh.mp h;simp[this]
section
variable{K:al}{loc:Loc}{s:Shared}
def aV.HW(R:aV K F loc f H s){i:Nat}(e1:H[i]? =some o)(h:f[i]? =some p):∀a∈foot o p,(a==sysModules)=false:=λa m=>by rw[rq];intro C;subst C;refine aZ R.mods λo' e _=>?_;rw[R.rep.new _<|ed e1 h _ m]at e;exact aW e
def aV.mapOf(R:aV K F loc f H s){i:Nat}(e1:H[i]? =some (.dict h))(k:f[i]? =some (a,j)):∃z,s.heap.MapOf (PySem.strKind I K.w) a z/\∀x,match aC x h with|some b=>∃v,z x=some v/\RV f s.heap b v|none=>z x=none:=by obtain⟨es,n,e,q⟩:=R.rep.obj i _ _ e1 k;refine a8 (λx=>(es.find? λe=>Value.isStrOf x e.key).map (·.val)) ⟨_,es.toArray,n,e,⟨rfl,rfl,rfl⟩,rfl,λe he=>?_,λx=>?_⟩ λx=>q.find x;exact bU (q.keys.all e<|by simpa using he) λx t u k2=>a8 x (by refine Y u ?_;exact strKind_is I K.w x t) k2;show findBy Value.isStrOf es.toArray x=_;unfold findBy;exact Y (List.find?_toArray ..) rfl
def I2(x y):ar y x=ar x y:=by rw[gN,kt,kt];exact eq_comm
def Jg:∀{D r},aT f s.heap l D->fJ x l=some r->(∀v∈D,∃y t,v=.str (tx y) t)/\D.any (uK x)=r:=by
 induction l with
 |nil=>intro D r q e;refine Y q.i0 ?_;obtain rfl:=aQ e;exact⟨λ_ m=>(nomatch m),rfl⟩
 |cons a l I=>intro D r q e;obtain⟨u,us,rfl,C,z⟩:=q.eS;refine aK e λy E e=>aK e λJ bo e=>?_;rw[jv E]at C;clear q;obtain⟨t,_,rfl⟩:=C.dT;refine aS (I z bo) λk j=>⟨λv m=>(bC.mp m).elim (λh=>⟨y,t,h⟩)<|k v,?_⟩;refine Y List.any_cons<|Y j ?_;show((tx y==tx x)||J)=_;refine Y Bp<|Y (I2 ..)<|Y (aQ e).symm ?_;cases ar x y<;>rfl
end
section
variable{K:al}{s:Shared}
def L2(R:aV K F loc f H s)(T:RV f s.heap (.ref i) j)(hl:H[i]? =some (.list l))(e:fJ x l=some r)(z:Bool)(J:Q (.bool<|z^^r) s):wpAny (model I K.w) A (compareOp (if z then .NotIn else .In) (.str (tx x) t) j) Q U s:=by
 obtain⟨ca,dd,rfl,O⟩:=T.ex;obtain⟨D,n,E,la,k⟩:=R.isList hl O;refine aS (Jg k e) λu h=>?_;have he:∀y,y∈D.toArray->EqAt A.in1 s y (.str (tx x) t) (uK x y):=λy m=>by refine g8 (u y<|List.mem_toArray.mp m) λC t' W=>?_;clear m;subst W;exact .str_str _ _ _ _
 have N:D.toArray.any (uK x)=r:=Y h.symm<|Y List.any_toArray rfl;rcases z;exact in_listAt _ ⟨_,E,rfl,_,rfl⟩ he<|by refine Y N ?_;rwa [Bool.false_xor]at J
 exact notIn_listAt _ ⟨_,E,rfl,_,rfl⟩ he<|by refine Y N ?_;rwa [Bool.true_xor]at J
def Ka(R:aV K F loc f H s)(O:RV f s.heap (.ref i) j)(E:H[i]? =some (.dict es))(C:Bool)(h:∀k,Q (.bool<|C^^(aC ⟨x.toArray⟩ es).isSome) {s with toks:=k}):wpAny (model I K.w) A (compareOp (if C then .NotIn else .In) (.str (tx x) t) j) Q U s:=by
 obtain⟨N,T,rfl,D⟩:=O.ex;obtain⟨z,J,y⟩:=R.mapOf E D;have lo:=R.HW E D N<|.head _;have aE:(aC ⟨x.toArray⟩ es).isSome=(z<|tx x).isSome:=by have:=y<|tx x;show(aC (tx x) es).isSome=_;revert this;rcases W:aC (tx x) es with _|b;intro this;exact Y (show z (tx x)=none from this) rfl;intro this;obtain⟨w,e1,_⟩:=this;exact Y e1 rfl
 have u:=h<|s.toks+1;rw[aE]at u;rcases C;exact wpAny_in_of (PySem.strKind_is I K.w (tx x) t) lo J<|by rwa [Bool.false_xor]at u
 exact wpAny_notIn_of (PySem.strKind_is I K.w (tx x) t) lo J<|by rwa [Bool.true_xor]at u
def AR(R:aV K F loc f H s)(J:RV f s.heap a u)(E:RV f s.heap b j)(e:yl a b H=some r)(C:Bool)(h:∀k,Q (.bool<|C^^r) {s with toks:=k}):wpAny (model I K.w) A (compareOp (if C then .NotIn else .In) u j) Q U s:=by
 refine aK e λx aE e=>?_;rw[jv aE]at J;obtain⟨t,_,rfl⟩:=J.dT;induction b using V.casesOn with
 |str y=>
  obtain⟨N,_,rfl⟩:=E.dT;have D:Q (.bool<|C^^r) s:=h s.toks;rw[<-aQ e,<-MH]at D;rcases C;exact SB.contains<|by rwa [Bool.false_xor]at D
  exact SB.notContains<|by rwa [Bool.true_xor]at D
 |ref i=>
  refine aK e λo z e=>?_;induction o with
  |list l=>exact L2 R E z e C<|h s.toks
  |dict es=>obtain rfl:=aQ e;exact Ka R E z C h
  |_=>exact aW e
 |_=>exact aW e
def zc(q:RV f s.heap a u):(u==Value.none)=gG a:=by
 have q:=q.inv;induction a using V.casesOn with
 |none=>exact Y (show u=.none from q) rfl|bool=>exact Y (show u=.bool _ from q) rfl|int=>obtain⟨_,rfl⟩:=q;rfl
 |str=>obtain⟨_,_,rfl⟩:=q;rfl
 |tup=>obtain⟨_,_,rfl,_⟩:=q;rfl
 |ref=>obtain⟨_,_,rfl,_⟩:=q;rfl
 |fn=>exact Y (show u=.ref _ from q) rfl|blt b=>refine Y (show u=b.val from q) ?_;cases b<;>rfl
 |an=>obtain⟨_,_,_,_,rfl,_⟩:=q;rfl
 |bY=>obtain⟨_,_,_,_,_,_,rfl,_⟩:=q;rfl
 |bm=>obtain⟨_,_,_,rfl,_⟩:=q;rfl
def tC(R:aV K F loc f H s)(T:A.units+40<cLine)(E:RV f s.heap a u)(J:RV f s.heap b j)(e:cM op a b H=some r)(h:∀k,Q (.bool r) {s with toks:=k}):wpAny (model I K.w) A (compareOp op u j) Q U s:=by
 have D:Q (.bool r) s:=h s.toks;induction op with
 |Eq=>exact(B4 R 40 T E J e).1 I K.w U Q D|NotEq=>clear h;refine aZ (kW.mp e) λq e1 al=>?_;subst al;exact(B4 R 40 T E J e1).2.2 I K.w U Q D
 |Lt=>clear h;refine bU (sr e) λx y aq ar=>?_;subst aq;refine aS ar λas au=>?_;subst as au;obtain⟨t,rfl⟩:=E.cG;obtain⟨N,rfl⟩:=J.cG;rw[hM]at D;exact lt_int D
 |LtE=>
  rcases z:ek a with _|C
  .have e:lC a b (λx y=>!du y x)=some r:=by
    have e:(match ek a with|some _=>pu a b λx y=>!mw y x|none=>lC a b λx y=>!du y x)=some r:=e
    rwa [z]at e
   clear h z;refine bU (sr e) λx y aa ab=>?_;subst aa;refine aS ab λae af=>?_;subst ae af;clear e;obtain⟨t,rfl⟩:=E.cG;clear e;obtain⟨N,rfl⟩:=J.cG;rw[hM,<-decide_not]at D;exact le_int<|by refine Y (show decide (x<=y)=decide (¬y<x) from decide_eq_decide.mpr iR.symm) ?_;exact D
  .have e:pu a b (λx y=>!mw y x)=some r:=by
    have e:(match ek a with|some _=>pu a b λx y=>!mw y x|none=>lC a b λx y=>!du y x)=some r:=e
    rwa [z]at e
   clear h z;refine bU (HL e) λx y av aw=>?_;subst av;refine aS aw λax W=>?_;subst ax W;clear e;obtain⟨t,_,rfl⟩:=E.dT;clear e;obtain⟨N,_,rfl⟩:=J.dT;rw[CM]at D;exact P.le_str<|by simpa using D
 |Gt=>clear h;refine bU (sr e) λx y ag ah=>?_;subst ag;refine aS ah λai aj=>?_;subst ai aj;obtain⟨t,rfl⟩:=E.cG;obtain⟨N,rfl⟩:=J.cG;rw[hM]at D;exact gt_int D
 |GtE=>clear h;refine bU (sr e) λx y ak am=>?_;subst ak;refine aS am λan ao=>?_;subst an ao;obtain⟨t,rfl⟩:=E.cG;obtain⟨N,rfl⟩:=J.cG;rw[hM,<-decide_not]at D;exact ge_int<|by refine Y (show decide (x>=y)=decide (¬x<y) from decide_eq_decide.mpr iR.symm) ?_;exact D
 |In=>exact AR R E J e false λk=>by refine Y (Bool.false_xor ..) ?_;exact h k
 |NotIn=>clear D;refine aZ (kW.mp e) λq e1 ap=>?_;subst ap;exact AR R E J e1 true λk=>by refine Y (Bool.true_xor ..) ?_;exact h k
 |Is=>have e:(match gG b with|true=>some (gG a)|false=>none)=some r:=e;revert e;rcases O:gG b;intro e;exact aW e;intro e;cases rP O;exact Y J.qG<|is_none<|by refine Y (zc E)<|Y (aQ e) ?_;exact D
 |IsNot=>have e:(match gG b with|true=>some (!gG a)|false=>none)=some r:=e;revert e;rcases O:gG b;intro e;exact aW e;intro e;cases rP O;exact Y J.qG<|isNot_none<|by refine Y (zc E)<|Y (aQ e) ?_;exact D
end
end
section
variable{K:al}
theorem k7.units(h:k7 d A):A.units+40<cLine:=by have:=h.2;exact aR this<|by simp+arith
def PF:∀{x},jS x=true->behindInMarks op x=false|x,h=>by cases x<;>first|rfl|exact ff h
def Cy(h:hR (x::f)=true):jS x=true/\hR f=true:=by unfold hR at h;split at h;rename_i q;exact⟨q,h⟩;exact ff h
abbrev tf:jz Bool Value:=λ_ _ a b=>b=.bool a
def O5(y:bA I K d v)(E:CtxOk d c F)(R:aV K F loc f H s)(q:RV f s.heap a u)(e:(bd (v.e c loc x H) λb H=>ob (cM op a b H) λC=>rt C H)=some r):aO I K F loc (compareChain p u [op] [eval x F.env]) (aM tf r) (a9 r) f H s:=by exact aX<|c9<|Sn.then (.refl ..) (y.e E R) e λb w ab H' J j ae _ k h=>aK h λC hz h=>aX<|dM<|wpAny_operate'<|tC j E.room.units (q.at ae R) k hz λt=>bj (j.toks t) ae rfl h
def N2(y:bA I K d v)(E:CtxOk d c F)(R:aV K F loc f H s)(q:RV f s.heap a u)(e:(bd (v.e c loc x H) λb H=>ob (cM op a b H) λC=>rt C H)=some r):aO I K F loc (testChain p u [op] [eval x F.env]) (aM kz r) (a9 r) f H s:=by exact aX<|c9<|Sn.then (.refl ..) (y.e E R) e λb w ab H' J j ae _ k h=>aK h λC hz h=>aX<|dM<|aX<|wpAny_operate'<|tC j E.room.units (q.at ae R) k hz λt=>c9<|wx<|bj (j.toks t) ae rfl h
def N8{k:V->aq->M Bool}(T:bA I K d v)(E:CtxOk d c F)(R:aV K F loc f H s)(q:RV f s.heap a u)(e:(bd (v.e c loc x H) λb H=>ob (cM op a b H) λC=>sW (k b) false C H)=some r)(h:∀{b:V}{w:Value}{f:a6}{H:aq}{s:Shared},aV K F loc f H s->RV f s.heap b w->Sn I K F loc tf (k b H) (compareChain p w (j::y)<|t::z) f H s):aO I K F loc (compareChain p u (op::j::y)<|eval x F.env::t::z) (aM tf r) (a9 r) f H s:=by refine aX<|c9<|Sn.then (.refl ..) (T.e E R) e λb w ab H' J N ae _ O D=>aK D λC hz D=>aX<|dM<|aX<|c9<|tC N E.room.units (q.at ae R) O hz λt=>aX<|wpAny_release<|aX<|c9<|wx ?_;rcases C;exact aL<|bj (N.toks t) ae rfl D;exact f0 ae<|h (N.toks t) O r D
def JW{k:V->aq->M Bool}(T:bA I K d v)(E:CtxOk d c F)(R:aV K F loc f H s)(q:RV f s.heap a u)(e:(bd (v.e c loc x H) λb H=>ob (cM op a b H) λC=>sW (k b) false C H)=some r)(h:∀{b:V}{w:Value}{f:a6}{H:aq}{s:Shared},aV K F loc f H s->RV f s.heap b w->Sn I K F loc kz (k b H) (testChain p w (j::y)<|t::z) f H s):aO I K F loc (testChain p u (op::j::y)<|eval x F.env::t::z) (aM kz r) (a9 r) f H s:=by refine aX<|c9<|Sn.then (.refl ..) (T.e E R) e λb w ab H' J N ae _ O D=>aK D λC hz D=>aX<|dM<|aX<|c9<|tC N E.room.units (q.at ae R) O hz λt=>aX<|wpAny_release<|aX<|c9<|wx ?_;rcases C;exact aL<|bj (N.toks t) ae rfl D;exact f0 ae<|h (N.toks t) O r D
def D5(h:jS x=true):markedEach [op] [x] (evalEach [x] env)=[eval x env]:=by show[markedBehindIn op x<|eval x env]=_;exact Y (markedBehindIn_of_false<|PF h) rfl
def yR(h:(k::j).length=(y::f).length):∃t u,markedEach (k::j) (y::f) (evalEach (y::f) env)=t::u/\ markedEach (op::k::j) (x::y::f) (evalEach (x::y::f) env)=eval x env::t::u:=by rcases j with _|⟨o,os⟩;rcases f with _|⟨C,z⟩;exact dZ _ _ rfl rfl;exact absurd (hD h) λC=>nomatch C;exact dZ _ _ rfl rfl
def Uz(T:bA I K d v)(E:CtxOk d c F):∀{z a u f H s},k.length=z.length->hR z=true->aV K F loc f H s->RV f s.heap a u->Sn I K F loc tf (nz v c loc a k z H) (compareChain p u k<|markedEach k z<|evalEach z F.env) f H s:=by
 induction k with
 |nil=>intro z a u f H s _ _ _ _ r e;exact aW e
 |cons op k J=>intro z a u f H s hl ns R q r e;rcases z with _|⟨x,z⟩;exact aW e;refine aS (Cy ns) λN O=>?_;have D:=hD hl;rcases z with _|⟨y,z⟩;exact Y (q5.mp D)<|Y (D5 N)<|O5 T E R q e;rcases k with _|⟨U,k⟩;exact absurd D λC=>nomatch C;exact bU (yR D) λt W h j=>Y j<|N8 T E R q e λR q=>h▸J D O R q
def JK(T:bA I K d v)(E:CtxOk d c F):∀{z a u f H s},k.length=z.length->hR z=true->aV K F loc f H s->RV f s.heap a u->Sn I K F loc kz (nz v c loc a k z H) (testChain p u k<|markedEach k z<|evalEach z F.env) f H s:=by
 induction k with
 |nil=>intro z a u f H s _ _ _ _ r e;exact aW e
 |cons op k J=>intro z a u f H s hl ns R q r e;rcases z with _|⟨x,z⟩;exact aW e;refine aS (Cy ns) λN O=>?_;have D:=hD hl;rcases z with _|⟨y,z⟩;exact Y (q5.mp D)<|Y (D5 N)<|N2 T E R q e;rcases k with _|⟨U,k⟩;exact absurd D λC=>nomatch C;exact bU (yR D) λt W h j=>Y j<|JW T E R q e λR q=>h▸J D O R q
end
def y6:∀{h H H' l},cf v c loc h H=some (.ok l H')->l.length=h.length:=by
 intro h;induction h with
 |nil=>intro H H' l e;refine mm (aQ e) λj k=>?_;subst j k;rfl
 |cons x h z=>intro H H' l e;unfold cf at e;revert e;rcases aE:v.e c loc x H with _|q;intro e;exact aW e;intro e;rcases q with⟨a,u⟩|_;simp only[bd]at e;revert e;rcases y:cf v c loc h u with _|q;intro e;exact aW e;intro e;rcases q with⟨f,C⟩|_;refine mm (aQ e) λj k=>?_;subst j k;exact(Y cv<|Y cv<|Y (z y) rfl);cases e;cases e
section
variable{h z:Type}{I:Program}{K:al}{F:bG}{loc:Loc}{ρ:jz h z}{f y:a6}{H j:aq}{u:Heap}{s:Shared}
def Sn.AN(st:a5 K.a3 [F.L] y j u f H s.heap)(h:Sn I K F loc ρ m t f H s)(e:bd m k=some r)(g:∀a v ab H' J,m=some (.ok a H')->aV K F loc ab H' J->a5 K.a3 [F.L] y j u ab H' J.heap->a5 K.a3 [F.L] f H s.heap ab H' J.heap->ρ ab J.heap a v->k a H'=some r->G v J):wpAny (model I K.w) F.A t G (jG K F loc (a9 r) y j u) s:=by rcases z:m with _|q;clear h g;subst z;exact aW e;rcases q with⟨a,H'⟩|⟨i,H'⟩;rw[z]at e;refine bX (h _ z) (λv J⟨ab,E,C,ae,D,q,x⟩=>?_) λev J⟨ab,E,i,D,d,C,ae,e1,N,O,x⟩=>nomatch x;refine mm q λT U=>?_;subst T U;exact g _ v _ _ J z C (st.trans ae λ_ m=>.inl m) ae x e;rw[z]at e;clear g;obtain rfl:=aQ e;refine bX (h _ z) (λv J⟨ab,E,C,ae,D,q,x⟩=>nomatch q) λev J⟨ab,E,W,D,d,C,ae,e1,N,O,x⟩=>?_;cases x;exact⟨ab,_,_,D,d,C,st.trans ae λ_ m=>.inl m,e1,N,O,rfl⟩
def Ck(st:a5 K.a3 [F.L] y j u f H k)(p:eA K F loc (aM ρ r) f H k v J):eA K F loc (aM ρ r) y j u v J:=by obtain⟨ab,H',h,ae,q⟩:=p;exact⟨ab,H',h,st.trans ae λ_ m=>.inl m,q⟩
end
section
variable{K:al}
def K1(N:bA I K d v)(E:CtxOk d c F)(R:aV K F loc f H s)(e:d7 T O v c loc (.Compare l k rs p) H=some r):aO I K F loc (eval (.Compare l k rs p) F.env) (aM aN r) (a9 r) f H s:=by refine cH e λh e=>?_;simp only[fP]at h;unfold aO;refine Y (arm_eval_Compare ..)<|aX<|Sn.then (.refl ..) (N.e E R) e λa u ab H' J j st _ q z=>bX (Sn.then st (Uz N E (cd h.2) h.1 j q) z λb w aa U W y ae _ D C=>?_) (λ_ _ x=>x) λ_ _ x=>x;clear e;subst D;exact bj y ae .bool C
def HP(y:bA I K d v)(E:CtxOk d c F)(R:aV K F loc f H s)(e:stepT v c loc (.Compare l k rs p) H=some r):aO I K F loc (isTrue (.Compare l k rs p) F.env w) (aM kz r) (a9 r) f H s:=by unfold stepT at e;refine cH e λh e=>?_;simp only[fP]at h;unfold aO;exact Y (arm_isTrue_Compare ..)<|aX<|Sn.then (.refl ..) (y.e E R) e λa u ab H' J j st _ q x=>f0 st<|JK y E (cd h.2) h.1 j q r x
def TN(N:bA I K d v)(E:CtxOk d c F)(R:aV K F loc f H s)(e:d7 T O v c loc (.BinOp l op x p) H=some r):aO I K F loc (eval (.BinOp l op x p) F.env) (aM aN r) (a9 r) f H s:=by unfold aO;exact Y (arm_eval_BinOp ..)<|aX<|Sn.then (.refl ..) (N.e E R) e λa u ab H' J j st _ q y=>aX<|c9<|Sn.then st (N.e E j) y λb h aa U W k D ae C z=>aX<|dM<|wpAny_operate'<|f0 D<|MZ k (q.at ae j) C z
def I4(y:bA I K d v)(E:CtxOk d c F)(R:aV K F loc f H s)(e:d7 T O v c loc (.UnaryOp .Not x p) H=some r):aO I K F loc (eval (.UnaryOp .Not x p) F.env) (aM aN r) (a9 r) f H s:=by exact wpAny_UnaryOp<|Sn.then (.refl ..) (y.e E R) e λa u ab H' J j st _ q h=>aK h λb k h=>not_value<|xN q k<|bj j st .bool h
def Ke(y:bA I K d v)(E:CtxOk d c F)(R:aV K F loc f H s)(e:d7 T O v c loc (.UnaryOp .USub x p) H=some r):aO I K F loc (eval (.UnaryOp .USub x p) F.env) (aM aN r) (a9 r) f H s:=by refine wpAny_UnaryOp<|Sn.then (.refl ..) (y.e E R) e λa u ab H' J k st _ q j=>aK j λi h j=>?_;rw[fA h]at q;obtain⟨t,rfl⟩:=q.cG;exact neg_int<|bj (k.toks _) st .int j
def Gv(z:bA I K d v)(E:CtxOk d c F)(R:aV K F loc f H s)(e:d7 T O v c loc (.Tuple x k p) H=some r):aO I K F loc (eval (.Tuple x k p) F.env) (aM aN r) (a9 r) f H s:=by
 refine cH e λh e=>?_;simp only[fP]at h;refine wpAny_Tuple<|Sn.AN (.refl ..) (vh z E h.1 R) e λl D ab H' J y j st _ q u=>?_;have hl:D.length<=lim:=by refine Y q.length<|Y (y6 y) ?_;exact hT h.2
 refine⟨as hl fp,Ck st<|wk j u λfx=>?_⟩;exact .tup (dP _ rfl) hl<|q.fx fx
def Gh(y:bA I K d v)(E:CtxOk d c F)(R:aV K F loc f H s)(e:d7 T O v c loc (.List k p) H=some r):aO I K F loc (eval (.List k p) F.env) (aM aN r) (a9 r) f H s:=by
 refine cH e λh e=>?_;simp only[fP]at h;refine wpAny_List<|Sn.AN (.refl ..) (vh y E h.1 R) e λl D ab H' J x j st _ q u=>?_;have hl:l.length<=lim:=by refine Y (y6 x) ?_;exact hT h.2
 exact⟨as (by refine Y q.length ?_;exact hl) fp,Ck st<|wu j hl q u⟩
def RL(R:aV K F loc f H s)(e:rt (V.ref H.length) (H++[.dict []])=some r):eA K F loc (aM aN r) f H s.heap (.ref s.heap.objs.size) {s with heap:=s.heap.push {cls:=.type "dict",data:=.dict #[]}}:=by
 have kp:∀b ob,s.heap.get? b=some ob->(s.heap.push {cls:=.type "dict",data:=.dict #[]}).get? b=some ob:=λb ob e=>b4 _ e;have h:∀a∈foot (.dict []) (s.heap.objs.size,0),s.heap.get? a=none/\a≠K.a3:=λa m=>by exact Y (b9.mp m) ⟨ej _,R.hP<|ej _⟩
 have j:cx s.heap (s.heap.push {cls:=.type "dict",data:=.dict #[]})->RO K.w.params (f++[(s.heap.objs.size,0)]) (s.heap.push {cls:=.type "dict",data:=.dict #[]}) (.dict []) (s.heap.objs.size,0):=λfx=>⟨[],0,dP _ rfl,.nil⟩;refine aS (R.add (o:=.dict []) (p:=(s.heap.objs.size,0)) s.toks kp h (eo.mpr ⟨by simp,jR⟩) j) λk st=>bj (ρ:=aN) k st ?_ e;refine RV.ref (d:=0)<|Y R.rep.len.symm<|Y (dr<|ba _)<|Y (er ..) ?_;rfl
def Ga(R:aV K F loc f H s)(e:d7 T O v c loc (.Dict [] [] p) H=some r):aO I K F loc (eval (.Dict [] [] p) F.env) (aM aN r) (a9 r) f H s:=by exact wpAny_Dict_empty<|RL R e
def Ah(y:bA I K d v)(E:CtxOk d c F)(R:aV K F loc f H s)(e:(bd (v.e c loc x H) λa H=>ob (j0 a) λb=>rt b H)=some r)(he:isTrue x F.env (eval x F.env)=(do let v<-eval x F.env;standAt x.pos;holding [v] (truthy v))):aO I K F loc (isTrue x F.env<|eval x F.env) (aM kz r) (a9 r) f H s:=by refine isTrue_plain (Sn.then (.refl ..) (y.e E R) e λa u ab H' J j st _ q h=>?_) he;exact aK h λb k h=>xN q k<|bj j st rfl h
set_option tactic.hygienic true in
def AD(h:bA I K d v)(E:CtxOk d c F)(R:aV K F loc f H s)(e:stepT v c loc x H=some r):aO I K F loc (isTrue x F.env<|eval x F.env) (aM kz r) (a9 r) f H s:=by
 rcases x;case Compare=>exact HP h E R e
 case BoolOp op y p=>unfold stepT at e;exact Y (arm_isTrue_BoolOp ..)<|OG h E R r e
 case IfExp=>exact(gn e).elim
 case UnaryOp op x p=>
  rcases op;case Not=>unfold stepT at e;refine isTrue_not<|Sn.then (.refl ..) (h.t E R) e λa u ab H' J j st _ q k=>?_;subst q;exact bj j st rfl k
  all_goals exact Ah h E R e rfl
 all_goals exact Ah h E R e rfl
end
section
open Builtin Builtin.Str StrLaws
set_option tactic.hygienic true in
def xp(h:rn i n=some j):seqIndex? i n=some j/\j<n:=by rcases i with k|k;replace h:(match Nat.blt k n with|true=>some k|false=>none)=some j:=h;rcases q:Nat.blt k n;rw[q]at h;exact aW h;rw[q]at h;have e:=aQ h;subst e;have l:=jh.mp q;refine⟨?_,l⟩;unfold seqIndex?;simp only[];exact(bZ<|by simp only[fP,decide_eq_true_eq];exact⟨gz k,jf.mpr l⟩);replace h:(match Nat.ble (k+1) n with|true=>some (n-(k+1))|false=>none)=some j:=h;rcases q:Nat.ble (k+1) n;rw[q]at h;exact aW h;rw[q]at h;have e:=aQ h;subst e;have l:=bE q;have f:=Nat.sub_lt (cB (lQ k) l)<|lQ k;refine⟨?_,f⟩;unfold seqIndex?;simp only[bZ<|oF k];refine Y (show Int.negSucc k+(n:Int)=((n-(k+1):Nat):Int) from Y (tp ..) (Int.ofNat_sub l).symm)<|Y (bZ<|by simp only[fP,decide_eq_true_eq];exact⟨gz _,jf.mpr f⟩) ?_;rfl
set_option tactic.hygienic true in
def vO(h:rn i n=some j)(C:n<=lim):-(2^63)<=i/\i<2^63:=by
 have f:-(2^63)<=-((lim:Nat):Int):=by decide+kernel
 have u:((lim:Nat):Int)<=2^63:=by decide+kernel
 rcases i with k|k;replace h:(match Nat.blt k n with|true=>some k|false=>none)=some j:=h;rcases q:Nat.blt k n;rw[q]at h;exact aW h;exact⟨qF (by decide)<|gz k,tz (jf.mpr<|cB (jh.mp q) C) u⟩;replace h:(match Nat.ble (k+1) n with|true=>some (n-(k+1))|false=>none)=some j:=h;rcases q:Nat.ble (k+1) n;rw[q]at h;exact aW h;exact⟨qF f<|show-((lim:Nat):Int)<=-((k+1:Nat):Int) from Int.neg_le_neg<|qJ.mpr<|as (bE q) C,k' (oF k)<|by decide⟩
def r1{n:Nat}(h:a<=n):max (0:Int) (min (a:Int) n)=a:=Y (Int.min_eq_left<|qJ.mpr h)<|Int.max_eq_right<|gz a
def zz(a:Nat):¬((a:Int)<0):=iR.mpr<|gz a
def J6(lo y n:Nat)(u:lo<=n)(j:y<=n):strSliceIndices (some (lo:Int)) (some (y:Int)) 1 n=(List.range<|y-lo).map (λk=>lo+k):=by
 simp only[strSliceIndices,sliceRange,zz,jI,r1 u,r1 j,show((1:Int)>0)=True from by simp,if_true];by_cases f:(lo:Int)<y
 .have h:(((y:Int)-lo+1-1)/1).toNat=y-lo:=by rw[Int.add_sub_cancel,Int.ediv_one,Int.toNat_sub]
  simp only[f,if_true,h];refine List.map_congr_left λk _=>?_;rw[Int.one_mul];rfl
 have:y-lo=0:=uS (md λC=>f<|jf.mpr C);simp only[bN f,this];rfl
def oO(i)(n):d4 i n<=n:=by unfold d4;split;split;rename_i h;exact bE h;exact ba _;exact gj ..
def imax(a b:Nat):max (0:Int) ((b:Int)-(a:Int))=((b-a:Nat):Int):=by rw[Int.max_comm,<-Int.ofNat_toNat,Int.toNat_sub]
def OD(i)(n:Nat):max (0:Int) (min (if i<0 then i+n else i) n)=(d4 i n:Nat):=by
 unfold d4;rcases i with k|k
 .refine Y (bN<|show¬(Int.ofNat k<0) from iR.mpr<|gz k) ?_;simp only;rcases h:Nat.ble k n
  .have:¬k<=n:=λC=>by rw[Nat.ble_eq.mpr C]at h;exact ff (h.symm)
   exact Y (Int.min_eq_right<|qJ.mpr<|Nat.le_of_not_le this)<|Int.max_eq_right<|gz n
  exact Y (Int.min_eq_left<|qJ.mpr<|bE h)<|Int.max_eq_right<|gz k
 refine Y (bZ<|oF k) ?_;refine Y (Int.min_eq_left<|Int.add_le_of_le_sub_right<|by rw[Int.sub_self];exact tE<|oF k) ?_;rw[tp];exact imax (k+1) n
def x0(i j)(n):strSliceIndices (some i) (some j) 1 n=strSliceIndices (some (d4 i n:Int)) (some (d4 j n:Int)) 1 n:=by simp only[strSliceIndices,show((1:Int)>0)=True from by simp,if_true,OD,zz,jI,r1<|oO i n,r1<|oO j n]
def va(x){lo y:Nat}(j:lo<=x.length)(f:y<=x.length)(e:strSliceIndices l u 1 x.length=strSliceIndices (some (lo:Int)) (some (y:Int)) 1 x.length):Txt.slice (tx x) l u=tx (fT lo y x):=by
 unfold Txt.slice;refine Y (cJ ..)<|Y e<|Y (J6 lo y _ j f) ?_;unfold fT;split
 .rename_i h;have hl:y-lo=x.length:=by simpa using h
  have k:lo=0:=ce (cT f (a4 hl.symm) (a4<|bx<|show lo<=y from cT j (a4 hl.symm) (gj y lo)<|by simp+arith)<|by simp+arith)<|by simp+arith
  clear j e h;subst k;exact Y hl<|Y iV<|Y List.take_length rfl
 by_cases h:lo<=y;have:=picks x (y-lo) lo (a7 f (a4<|bx<|show lo<=y from aR h<|by simp+arith)<|by simp+arith);simp only[tx,sh];exact Y this rfl;exact Y (show y-lo=0 by grind) rfl
def Gc(x)(i j):Txt.slice (tx x) (some i) (some j)=tx (fT (d4 i x.length) (d4 j x.length) x):=va x (oO _ _) (oO _ _) (x0 i j _)
def FP(x)(j):Txt.slice (tx x) none (some j)=tx (fT 0 (d4 j x.length) x):=va x (bJ _) (oO _ _) (by exact Y (sliceIdx_none_lo ..)<|Y (x0 0 j ..) rfl)
def RX(x)(i):Txt.slice (tx x) (some i) none=tx (fT (d4 i x.length) x.length x):=
 va x (oO _ _) (ba _) (by
  refine Y (sliceIdx_none_hi ..)<|Y (x0 i ..) ?_;have:d4 (x.length:Int) x.length=x.length:=by show(match Nat.ble x.length x.length with|true=>_|false=>_)=_;cases Nat.ble x.length x.length<;>rfl
  exact Y this rfl)
section
variable{K:al}{v:dS}{f:a6}
def uE{g0:Expr}(h:ItemOn (model I w) A U o i Q s)(y:subscripted g0 false o i=operate j (getItem o i)):wpAny (model I w) A (subscriptTail k g0 o i) Q U s:=let⟨_,_,hl,f,hg⟩:=h;tail_any f hl hg y
def t7(g0)(o i):∃f,subscripted g0 false o i=operate f (getItem o i):=by
 induction g0 using Expr.casesOn with
 |Slice a b c=>cases c<;>exact⟨_,rfl⟩
 |_=>exact⟨_,rfl⟩
def pO(q:aT f h l D){j:Nat}(e:l[j]? =some x):∃u,D.toArray[j]? =some u/\RV f h x u:=by exact aZ (q.get e) λu e1 r=>a8 u (by simpa using e1) r
def Q6(f:-(2^63)<=n)(J:n<2^63):fitsSsize n=true:=by unfold fitsSsize;rw[jV<|iR.mpr f,jV<|Int.not_le.mpr J];rfl
def HV(aE:x.length<=lim)(N:RV f s.heap i z)(e:atS i x=some b)(h:∀w k,RV f s.heap b w->Q w {s with toks:=k}):ItemOn (model I K.w) A U (.str (tx x) t) z Q s:=by
 refine aK e λn C e=>aK e λj D e=>aK e λch E e=>?_;rw[fA C]at N;obtain⟨T,rfl⟩:=N.cG;cases e;clear e;refine aS (xp D) λy O=>?_;have J:=vO D aE;have u:Txt.charAt (tx x) n=some ch:=by unfold Txt.charAt;exact Y (cJ ..)<|Y y<|(sh ..).trans E
 refine SB.item (Q6 J.1 J.2) (by exact Y u rfl) ?_;exact Y (show Txt.item (tx x) n=tx [ch] by unfold Txt.item;rw[u];rfl)<|h _ _<|.str<|show(1:Nat)<=lim by decide
def Mt(qa:RV f s.heap (.tup l) u)(N:RV f s.heap i z)(e:sB i l=some b)(h:∀w k,RV f s.heap b w->Q w {s with toks:=k}):ItemOn (model I K.w) A U u z Q s:=by
 obtain⟨ta,D,rfl,O,W,x⟩:=qa.nk;refine aK e λn C e=>aK e λj E e=>?_;rw[fA C]at N;obtain⟨t',rfl⟩:=N.cG;refine aS (xp E) λy ab=>?_;have J:=vO E<|by refine Y x.length.symm ?_;exact W
 refine aZ (pO x e) λw T aa=>?_;have ht:PyProof.Rows.IsTup s.heap ta D.toArray:=⟨_,O,rfl,_,rfl⟩;exact⟨"tuple",_,PyProof.Rows.slot_tuple_getitem.lookup,ht.typeIs,PyProof.Rows.getItem_tuple ht J.1 J.2 (by refine Y dg<|Y x.length ?_;exact y) T<|h _ s.toks aa⟩
def Q5(R:aV K F loc f H s)(qa:RV f s.heap (.ref r) u)(hl:H[r]? =some (.list l))(qi:RV f s.heap i z)(e:sB i l=some b)(h:∀w k,RV f s.heap b w->Q w {s with toks:=k}):ItemOn (model I K.w) A U u z Q s:=by
 obtain⟨ra,rd,rfl,er⟩:=qa.ex;obtain⟨D,ae,ea,la,x⟩:=R.isList hl er;refine aK e λn C e=>aK e λj T e=>?_;rw[fA C]at qi;obtain⟨t',rfl⟩:=qi.cG;refine aS (xp T) λy aa=>?_;have hr:=vO T<|by refine Y x.length.symm ?_;exact la
 refine aZ (pO x e) λw ew ab=>?_;have W:s.heap.IsList ra D.toArray:=⟨_,ea,rfl,_,rfl⟩;refine⟨"list",_,slot_list_getitem.lookup,W.typeIs,?_⟩;have J:=h _ s.toks ab;have ar:=x.length;clear h R x e la;unfold seqIndex? at y;by_cases O:n<0;rw[bZ O]at y;dsimp only at y;split at y;rename_i E;have E:=cY.mp E;clear e T aa;cases y;have N:=sJ E.1;exact wpAny_getItem_list_neg W O (by refine Y dg<|Y ar ?_;omega) hr.1 (by refine Y dg<|Y ar ?_;exact ew) J;exact aW y;rw[bN O]at y;dsimp only at y;split at y;clear e T aa;cases y;exact wpAny_getItem_list W (iR.mp O) hr.2 ew J;exact aW y
def F6(R:aV K F loc f H s)(N:RV f s.heap (.ref r) u)(J:H[r]? =some (.dict es))(e:aC ⟨x.toArray⟩ es=some b)(h:∀w k,RV f s.heap b w->Q w {s with toks:=k}):ItemOn (model I K.w) A U u (.str (tx x) y) Q s:=by obtain⟨T,rd,rfl,D⟩:=N.ex;refine aZ (R.mapOf (I:=I) J D) λz C j=>?_;have:=j<|tx x;rw[show aC (tx x) es=some b from e]at this;exact aZ this λw E O=>⟨"dict",_,slot_dict_getitem.lookup,C.typeIs,wpAny_getItem_of (PySem.strKind_is I K.w (tx x) y) C E<|h _ _ O⟩
def Sp(R:aV K F loc f H s)(C:RV f s.heap a u)(y:RV f s.heap i z)(e:q' a i H=some b)(h:∀w k,RV f s.heap b w->Q w {s with toks:=k}):ItemOn (model I K.w) A U u z Q s:=by
 induction a using V.casesOn with
 |str x=>obtain⟨t,aE,rfl⟩:=C.dT;exact HV aE y e h
 |tup l=>exact Mt C y e h
 |ref r=>
  refine aK e λo j e=>?_;induction o with
  |list l=>exact Q5 R C j y e h|dict es=>refine aK e λx aE e=>?_;rw[jv aE]at y;obtain⟨D,_,rfl⟩:=y.dT;exact F6 R C j e h
  |_=>exact aW e
 |_=>exact aW e
def Ln(W:bA I K d v)(E:CtxOk d c F)(R:aV K F loc f H s)(e:(bd (v.e c loc x H) λa H=>bd (v.e c loc i H) λb H=>ob (q' a b H) λr=>rt r H)=some r):aO I K F loc (eval (.Subscript x i p) F.env) (aM aN r) (a9 r) f H s:=by exact Subscript_<|Sn.then (.refl ..) (W.e E R) e λa u ab H' J y st _ q D=>Sn.then st (W.e E y) D λb z ah aa ag C U ae O h=>aK h λb' N h=>aU (t7 i u z) λaf j=>uE (Sp C (q.at ae y) O N λw k T=>bj (C.toks k) U T h) j
def hJ:jz (Option V) Value:=λf h a v=>match a with|none=>v=.none|some a=>RV f h a v
def Fs(k:bA I K d v)(E:CtxOk d c F)(R:aV K F loc f H s):Sn I K F loc hJ (mp v c loc x H) (evalPart x F.env) f H s:=λr e=>by rcases x with _|x;exact aL<|bj (ρ:=hJ) (a:=none) R (.refl ..) rfl e;unfold mp at e;exact bX (Sn.then (G:=eA K F loc (aM hJ r) f H s.heap) (.refl ..) (k.e E R) e λa u ab H' J h st _ q j=>bj (ρ:=hJ) (a:=some a) h st q j) (λ_ _ x=>x) λ_ _ x=>x
theorem hJ.at{v:Value}(st:a5 K.a3 [F.L] f H s.heap ab h h')(R:aV K F loc f H s)(q:hJ f s.heap x v):hJ ab h' x v:=by rcases x with _|x;exact q;exact RV.at st R q
def xV{f:Type}{x r:f}(e:aB c (some x) none=some r):x=r:=by rcases c;exact aW e;exact aQ e
def Sv(l:Option Int)(v:Value):Prop:=match l with|none=>v=.none|some i=>t4 i v
def hJ.int{lo:Option V}{v:Value}(q:hJ f h lo v)(e:w7 lo=some l):Sv l v:=by rcases lo with _|a;cases e;exact q;refine aK e λi y e=>?_;cases e;have q:RV f h a v:=q;rw[fA y]at q;exact q.cG
def xM{x:List Nat}{lo:Nat}(aE:x.length<=lim):(fT lo y x).length<=lim:=by unfold fT;exact Y ma<|Y b0<|as (Nat.min_le_right ..)<|as (gj ..) aE
def Gn{lo:Option V}(R:aV K F loc f H s)(O:RV f s.heap a u)(ql:hJ f s.heap lo l)(z:hJ f s.heap y h)(e:g0 a lo y=some b)(bo:∀w J,aV K F loc f H J->a5 K.a3 [F.L] f H s.heap f H J.heap->RV f J.heap b w->Q w J):ItemOn (model I K.w) A U u (.ref s.heap.objs.size) Q {s with heap:=s.heap.push {cls:=.type "slice",data:=.fields #[l,h,.none]}}:=by
 refine aK e λx aE e=>aK e λaa hl e=>aK e λN hh e=>?_;rw[jv aE]at O;obtain⟨t,aE,rfl⟩:=O.dT;have ql:=ql.int hl;have z:=z.int hh;clear hl hh;have kp:KeptByPush (λJ=>aV K F loc f H J/\a5 K.a3 [F.L] f H s.heap f H J.heap):=λJ ob k x=>by clear ql z aE;refine aS (x.1.keeps (h':=J.heap.push ob) k λb o e=>b4 _ e) λW st=>?_;exact⟨W,x.2.trans st λ_ m=>.inl m⟩
 have E:(tx x).length<=sizeLine:=by refine Y (cJ ..) ?_;exact as aE fp
 have T:(λJ=>aV K F loc f H J/\a5 K.a3 [F.L] f H s.heap f H J.heap) s:=⟨R,.refl ..⟩;rcases aa with _|i;obtain rfl:l=.none:=ql;rcases N with _|j;exact aW e;obtain⟨C,rfl⟩:=z;obtain rfl:=xV e;exact SBG.sliceItem_ns kp T (λJ C D=>bo _ J D.1 D.2<|by refine Y (FP ..) ?_;exact .str<|xM aE) E;obtain⟨C,rfl⟩:=ql;rcases N with _|j;obtain rfl:h=.none:=z;obtain rfl:=xV e;exact SBG.sliceItem_sn kp T (λJ C D=>bo _ J D.1 D.2<|by refine Y (RX ..) ?_;exact .str<|xM aE) E;obtain⟨ab,rfl⟩:=z;obtain rfl:=xV e;exact SBG.sliceItem_ss kp T (λJ C D=>bo _ J D.1 D.2<|by refine Y (Gc ..) ?_;exact .str<|xM aE) E
def KE(aa:bA I K d v)(E:CtxOk d c F){lo:Option Expr}(R:aV K F loc f H s)(e:d7 T O v c loc (.Subscript x (.Slice lo y none k) p) H=some r):aO I K F loc (eval (.Subscript x (.Slice lo y none k) p) F.env) (aM aN r) (a9 r) f H s:=by exact Subscript_<|Sn.then (.refl ..) (aa.e E R) e λa u ar al ap D ag _ q ab=>wpAny_Slice<|Sn.then ag (Fs aa E D) ab λl vl as am aq z ai ah ql af=>Sn.then ai (Fs aa E z) af λh vh au an ak W aj N qh C=>Y (evalPart_none ..)<|aL<|aK C λb hb C=>aU (t7 (.Slice lo y none k) u<|.ref ak.heap.objs.size) λao j=>uE (Gn W ((q.at ah D).at N z) (hJ.at N z ql) qh hb λw J U ae qw=>bj U (aj.trans ae λ_ m=>.inl m) qw C) j
end
end
section
open Builtin Builtin.ObjectAttr
def S4(self):∀{l},qA l=true->refuseLoop self "__setattr__" l=pure ()/\l.contains (.type "object")=true:=by
 intro l;induction l with
 |nil=>exact ff
 |cons v r f=>intro e;have e:(match lx v with|some _=>qA r|none=>yK<|v::r)=true:=e;revert e;rcases h:lx v with _|c;intro e;rcases qE.mp e with e|e;exact Y (cy.mp e) ⟨PySem.F.store_object.passes self,by decide+kernel⟩;exact Y (cy.mp e) ⟨PySem.F.store_Exception.passes self,by decide+kernel⟩;intro e;have:=f e;exact Y (p6 h)<|Y (refuseLoop_ref ..) ⟨this.1,by exact Y rY<|Y this.2<|Y (qN ..) rfl⟩
structure r3(B:Frag)(E:Addr)(k:Cl):Prop where
 fy:findIn B (.ref E) "__getattribute__"=some (some (.builtin (AX k.exc)))
 aP:findIn B (.ref E) "__getattr__"=some none
 hh:hasDictIn B E=true
 aE:k.exc=true->mroIn B E (.type "BaseException")=some true
 own:∀x,dX x k.own=true->(∃attr,findIn B (.ref E) x=some attr/\noGet B attr=true)/\takerIn B E x=some none
 eE:∀x z,aC x k.eE=some z->findIn B (.ref E) x=some (some (.ref z))/\typeIn B (.ref z)=some (.type "function")/\specialIn B (.ref z) "__get__"=some (some (.builtin "function.__get__"))/\
  takesIn B (.ref z)=some false/\copiedNames.contains x=false/\findCls B (.ref E) (.type "type") x=some (.val (.ref z))
 set:findIn B (.ref E) "__setattr__"=some (some (.builtin "object.__setattr__"))
 po:yb B E=true
 reads:readsIn B E (.type "type")=true
 Pa:specialIn B (.ref E) "__getattribute__"=some (some (.builtin "type.__getattribute__"))
def eL(h:Heap):Prop:=∀b o,h.get? b=some o->o.cls≠.type "traceback"
structure TabC(K:al)(T:ct)(B:Frag):Prop where
 base:∀a o,B.lookup a=some o->K.h₀.get? a=some o/\a≠K.a3
 cls:∀E k,bi E T.cls=some k->r3 B E k
 fH:eL K.h₀
 sub:∀E l,bi E T.sub=some l->mroIn B E (.type "BaseException")=some true/\typeIn B (.ref E)=some (.type "type")/\vT B E=true/\∀aa f,bi aa T.sub=some f->mroIn B E (.ref aa)=some (l.any (Nat.beq aa))
theorem bI.lookIn{P:Params}{f:a6}{h:Heap}{y:List (Str×V)}{es:List DictEntry}(q:bI P f h y es)(x:Str)(n:Nat):match aC x y with|some a=>∃v,lookIn x (dictOf es n)=some (some v)/\RV f h a v|none=>lookIn x (dictOf es n)=some none:=by
 have k:es.any (·.refKey)=false:=by
  induction q with
  |nil=>rfl|cons r rs u=>exact Y List.any_cons<|Y u rfl
 have j:=q.find x;have e1:(es.find? λe=>Value.isStrOf x e.key)=es.find? (·.key.isStr x):=by congr 1;funext e;exact(isStr_of x e.key).symm▸rfl
 rw[e1]at j;refine Y (lookIn_dict ..) ?_;unfold getL;revert j;induction hl:aC x y with
 |some a=>
  intro j;refine aZ j λv e r=>?_;revert e;induction hz:es.find? (·.key.isStr x)with
  |none=>exact aW
  |some en=>intro e;obtain rfl:=aQ e;exact a8 _ rfl r
 |none=>
  intro j;induction hz:es.find? (·.key.isStr x)with
  |none=>simp only[k];rfl
  |some en=>rw[hz]at j;exact aW<|j.symm
def Pb:builtinKind "BaseException.__getattribute__"=some .slot:=by decide+kernel
def Hp:splitId "BaseException.__getattribute__"=some ("BaseException","__getattribute__"):=by decide+kernel
def Im(X:B.In s.heap)(O:InstAt s.heap x D E C)(fy:findIn B (.ref E) "__getattribute__"=some (some<|.builtin "BaseException.__getattribute__"))(aP:findIn B (.ref E) "__getattr__"=some none)(hm:mroIn B E (.type "BaseException")=some true)(j:findObj B E C name=some (.value v))(hh:handedIn v=true)(h:Q v {s with toks:=s.toks+1}):wpAny (model I w) A (getAttr (.ref x) name z) Q U s:=by obtain⟨f,g,d,t,os⟩:=s;have k:=O.type (M:=model I w);have u:=qT (M:=model I w) X fy;have y:=qT (M:=model I w) X aP;have J:=looks_mroIn (M:=model I w) X hm;have N:=looks_find (M:=model I w) X O j;unfold getAttr getAttrBy;refine aX<|wpAny_mkText<|c9<|aX<|k.at<|aX<|u.at ?_;dsimp only;refine Y (show(onTheHeap (Value.ref E)&&Value.builtin "BaseException.__getattribute__"==Value.builtin "object.__getattribute__")=false from by rw[show(Value.builtin "BaseException.__getattribute__"==Value.builtin "object.__getattribute__")=false from by decide+kernel,su])<|Y (bN<|by decide) ?_;unfold getAttrByItsOwn hookBefore;refine Y (bZ<|show onTheHeap (Value.ref E)=true from rfl)<|aX<|y.at<|aX<|wpAny_attempt<|c9 ?_;unfold callGetattribute;refine Y (show(z&&onTheHeap (Value.builtin "BaseException.__getattribute__"))=false from su _)<|Y (bN<|by decide) ?_;unfold boundAndCalled;refine Y (PySem.F.excAttr_ValueError.ga.bind ..)<|aX<|aL ?_;show wpAny _ _ (call (.builtin "BaseException.__getattribute__") [.ref x,.str name t]) _ _ _;refine wpAny_call<|codeAny_call_builtin PySem.F.excAttr_ValueError.ga.plain PySem.F.entry_bexc_ga<|@check_slot (model I w) _ _ _ "BaseException.__getattribute__" "BaseException" "__getattribute__" (.ref x) [.str name t] [] _ Pb Hp (k.andThen J) (PySem.F.args_bexc_ga (.ref x)<|.str name t) ?_;unfold Builtin.«object.__getattribute__»;refine aX<|aL<|aX<|aL<|aX<|k.at<|aX<|N.at<|aL ?_;show wpAny _ _ (handedOut v) _ _ _;exact Y (handedOut_of hh)<|aL h
section
variable{I:Program}{K:al}{d:Nat}{T:ct}{B:Frag}{O:ap}{v:dS}{F:bG}{c:bh}{loc:Loc}{f:a6}{H:aq}{s:Shared}
theorem TabC.In(G:TabC K T B)(R:aV K F loc f H s):B.In s.heap:=λa o e=>R.base a o (G.base a o e).2 (G.base a o e).1
def RV.handed(q:RV f h a u):handedIn u=true:=by
 induction a using V.casesOn with
 |none=>exact Y q.qG rfl|bool=>exact Y q.so rfl|int=>obtain⟨_,rfl⟩:=q.cG;rfl
 |str=>obtain⟨_,_,rfl⟩:=q.dT;rfl
 |tup=>obtain⟨_,_,rfl⟩:=q.nk;rfl
 |ref=>obtain⟨_,_,rfl⟩:=q.ex;rfl
 |fn=>exact Y q.kA rfl|blt b=>refine Y q.tW ?_;cases b<;>first|rfl|decide+kernel
 |an=>obtain⟨_,_,_,_,rfl⟩:=q.T4;rfl
 |bY=>obtain⟨_,_,_,_,_,_,rfl⟩:=q.uX;rfl
 |bm=>obtain⟨_,_,_,rfl⟩:=q.z1;rfl
def aV.Ec(R:aV K F loc f H s){i:Nat}(e1:H[i]? =some (.inst E y))(j:f[i]? =some p):∃es n h,InstAt s.heap p.1 h E (some<|dictOf es n)/\h.dict=some p.2/\bI K.w.params f s.heap y es:=by obtain⟨es,n,D,J,N⟩:=R.rep.obj i _ _ e1 j;exact oU es n _ ⟨D,rfl,rfl,J⟩ rfl N
def aV.excAt(R:aV K F loc f H s){i:Nat}{c:Option Nat}(e1:H[i]? =some (.exc E (some j) c))(h:f[i]? =some p)(k:H[j]? =some (.dict y)):∃es n x,InstAt s.heap p.1 x E (some<|dictOf es n)/\bI K.w.params f s.heap y es:=by obtain⟨d,z,tb,C,D,⟨aa,I,J,rfl⟩,_⟩:=R.rep.obj i _ _ e1 h;obtain⟨es,n,N,u⟩:=R.rep.obj j _ _ k J;exact u7 es n _ ⟨D,rfl,rfl,N⟩ u
def DK(X:B.In s.heap)(u:r3 B E k)(T:InstAt s.heap x z E<|some<|dictOf es n)(q:bI K.w.params f s.heap y es)(N:aC m y=some b)(hm:dX m k.own=true)(h:∀w,RV f s.heap b w->Q w {s with toks:=s.toks+1}):wpAny (model I K.w) A (getAttr (.ref x) m j) Q U s:=by have:=q.lookIn m n;rw[N]at this;refine aZ this λw e C=>aS (u.own m hm) λO _=>aZ O λW D J=>?_;have fy:=u.fy;revert fy;rcases aE:k.exc;intro fy;exact get_value X T fy (findObj_own u.hh D J e) C.handed<|h w C;intro fy;exact Im X T fy u.aP (u.aE aE) (findObj_own u.hh D J e) C.handed<|h w C
section
variable{i:Nat}{m:Str}{u:Value}{r:R V}{E:Addr}{k:Cl}{y:List (Str×V)}
def Pk(G:TabC K T B)(R:aV K F loc f H s)(q:RV f s.heap (.ref i) u)(h:H[i]? =some (.inst E y))(aP:bi E T.cls=some k)(aE:k.exc=false)(e:xR m k i H (aC m y)=some r):aO I K F loc (getAttr u m true) (aM aN r) (a9 r) f H s:=by
 have X:=G.In R;have W:=G.cls E k aP;have fy:=W.fy;rw[aE]at fy;obtain⟨x,dx,rfl,ei⟩:=q.ex;refine ea (R.Ec h ei) λes n ox ab ae q=>?_;revert e;rcases hb:aC m y with _|b
 .intro e;refine aK e λz j e=>uh (W.eE m z j) λD J N h4 h5 _=>?_;have hl:=q.lookIn m n;rw[hb]at hl;refine aZ (any_some W.hh) λcd O hd=>?_;have fo:findObj B E (some<|dictOf es n) m=some (.bind (.builtin "function.__get__")<|.ref z):=by
   unfold findObj;have U:PySem.W.ownOf cd (some<|dictOf es n) m=some none:=by unfold PySem.W.ownOf;exact Y (bZ hd) hl
   refine Y O<|Y (Option.bind_some ..)<|Y D<|Y (Option.bind_some ..) ?_;refine(az (λC=>Option.bind C _) N).trans ?_;refine(az (λC=>Option.bind C _) h4).trans ?_;refine(az (λC=>Option.bind C _) U).trans ?_;exact bN<|by rw[h5];exact j8
  exact get_bind X ab fy fo W.aP<|wpAny_call<|fn_get X J<|handed_on rfl<|wk (R.toks<|s.toks+1) e λfx=>.bm ei<|dP _ rfl
 intro e;exact cH e λhm e=>DK X W ab q hb hm λw aa=>bj (R.toks _) (.refl ..) aa e
def OU(G:TabC K T B)(R:aV K F loc f H s)(q:RV f s.heap (.ref i) u)(h:H[i]? =some (.exc E z C))(aP:bi E T.cls=some k)(e:(ob z λj=>ob (jD H[j]?) λy=>ob (aC m y) λb=>aw (dX m k.own)<|rt b H)=some r):aO I K F loc (getAttr u m true) (aM aN r) (a9 r) f H s:=by obtain⟨x,W,rfl,D⟩:=q.ex;refine aK e λj hd e=>aK e λy N e=>aK e λb J e=>cH e λhm e=>?_;rw[hd]at h;exact jZ (R.excAt h D<|uI N) λes n ox U q=>DK (G.In R) (G.cls E k aP) U q J hm λw O=>bj (R.toks _) (.refl ..) O e
def GX(G:TabC K T B)(R:aV K F loc f H s)(q:RV f s.heap a u)(e:mW T a m H=some r):aO I K F loc (getAttr u m true) (aM aN r) (a9 r) f H s:=by
 refine aK e λi j e=>aK e λo h e=>?_;rw[iK j]at q;induction o with
 |inst E y=>exact aK e λk aP e=>aS (sG e) λaE e=>Pk G R q h aP aE e|exc E z x=>exact aK e λk aP e=>cH e λaE e=>OU G R q h aP e|_=>exact aW e
end
def Fx(h:om o=true):attributeBase o m env t=t:=by
 induction o using Expr.casesOn with
 |Call z args f p=>cases z<;>first|rfl|exact ff h
 |_=>rfl
def Qe(G:TabC K T B)(y:bA I K d v)(E:CtxOk d c F)(R:aV K F loc f H s)(e:d7 T O v c loc (.Attribute x m p) H=some r):aO I K F loc (eval (.Attribute x m p) F.env) (aM aN r) (a9 r) f H s:=by refine cH e λk e=>?_;unfold aO;refine Y (arm_eval_Attribute ..)<|Y (Fx k)<|aX<|Sn.then (.refl ..) (y.e E R) e λa u ab H' J h st _ q j=>aX<|dM<|aX<|c9<|bX (f0 st<|GX G h q j) (λw z C=>?_) λ_ _ C=>C;exact aX<|wpAny_letTemporaryGo<|aL C
end
def p4(f:a6)(h:Heap):Fl->Flow->Prop|.next,.next=>True|.brk,.brk=>True|.cont,.cont=>True|.ret a,.ret v=>RV f h a v|_,_=>False
inductive cR(K:al)(F:bG)(r:RS)(f:a6)(H:aq)(h:Heap)(j:Flow)(J:Shared):Prop|mk (z:Fl) (ag:Loc) (ab:a6) (H':aq) (e:r=.ok z ag H') (R:aV K F ag ab H' J) (st:a5 K.a3 [F.L] f H h ab H' J.heap) (q:p4 ab J.heap z j)
inductive ci(K:al)(F:bG)(r:RS)(f:a6)(H:aq)(h:Heap)(e:Value)(J:Shared):Prop|mk (ag:Loc) (ab:a6) (H':aq) (i:Nat) (a d:Addr) (er:r=.exc i ag H') (R:aV K F ag ab H' J) (st:a5 K.a3 [F.L] f H h ab H' J.heap) (ei:ab[i]? =some (a,d)) (ee:e=.ref a) (ie:hb H' i)
def rX(I:Program)(K:al)(F:bG)(m:MS)(t:Sem Flow)(f:a6)(H:aq)(s:Shared):Prop:=∀r,m=some r->wpAny (model I K.w) F.A t (cR K F r f H s.heap) (ci K F r f H s.heap) s
section
variable{h N:Type}{I:Program}{K:al}{F:bG}{loc:Loc}{ρ:jz h N}{f D:a6}{H y:aq}{C:Heap}{s:Shared}
def Sn.ic(st:a5 K.a3 [F.L] D y C f H s.heap)(h:Sn I K F loc ρ m t f H s)(e:d6 m loc k=some r)(g:∀a v ab H' J,aV K F loc ab H' J->a5 K.a3 [F.L] D y C ab H' J.heap->a5 K.a3 [F.L] f H s.heap ab H' J.heap->ρ ab J.heap a v->k a H'=some r->G v J):wpAny (model I K.w) F.A t G (ci K F r D y C) s:=by rcases u:m with _|q;clear h;subst u;exact aW e;rcases q with⟨a,H'⟩|⟨i,H'⟩;rw[u]at e;refine bX (h _ u) (λv J⟨ab,E,j,ae,z,q,x⟩=>?_) λev J⟨ab,E,i,z,d,j,ae,e1,N,O,x⟩=>nomatch x;refine mm q λT U=>?_;subst T U;exact g _ v _ _ J j (st.trans ae λ_ m=>.inl m) ae x e;rw[u]at e;clear g;obtain rfl:=aQ e;refine bX (h _ u) (λv J⟨ab,E,j,ae,z,q,x⟩=>nomatch q) λev J⟨ab,E,W,z,d,j,ae,e1,N,O,x⟩=>?_;cases x;exact⟨loc,ab,_,_,z,d,rfl,j,st.trans ae λ_ m=>.inl m,e1,N,O⟩
def fl(R:aV K F loc f H s)(st:a5 K.a3 [F.L] D y C f H s.heap)(x:p4 f s.heap z j)(e:some (RS.ok z loc H)=some r):cR K F r D y C j s:=by obtain rfl:=aQ e;exact⟨z,loc,f,H,rfl,R,st,x⟩
def cR.from(st:a5 K.a3 [F.L] D y C ab H' h')(p:cR K F r ab H' h' j J):cR K F r D y C j J:=by obtain⟨z,l,h,f,e,R,ae,x⟩:=p;exact⟨z,l,h,f,e,R,st.trans ae λ_ m=>.inl m,x⟩
def ci.from(st:a5 K.a3 [F.L] D y C ab H' h')(p:ci K F r ab H' h' e J):ci K F r D y C e J:=by obtain⟨l,k,f,i,a,d,e1,R,ae,x1,h,j⟩:=p;exact⟨l,k,f,i,a,d,e1,R,st.trans ae λ_ m=>.inl m,x1,h,j⟩
theorem rX.from(st:a5 K.a3 [F.L] D y C f H s.heap)(h:rX I K F m t f H s)(e:m=some r):wpAny (model I K.w) F.A t (cR K F r D y C) (ci K F r D y C) s:=bX (h r e) (λ_ _ p=>p.from st) λ_ _ p=>p.from st
end
section
variable{K:al}
def a5.fx(st:a5 K.a3 [F.L] f H s.heap ab H' h')(R:aV K F loc f H s):cx s.heap h':=λa o h j=>by
 refine st.keep.plain (λm=>?_) h (j.ne "frame"<|by decide)<|j.ne "traceback"<|by decide
 rcases bC.mp m with m|m;obtain⟨N,k,_⟩:=R.lam;rw[m,k]at h;clear m;obtain rfl:=aQ h;rcases j with c|c|c|c|c<;>cases c
 rcases d0.mp m with m|m;obtain⟨o',_,k,q,_⟩:=R.loc;rw[b9.mp m,k]at h;clear m;clear m;obtain rfl:=aQ h;rcases q with q|q;exact j.ne "frame" (by decide) q;exact j.ne "dict" (by decide) q;refine aZ (R.rep.cls m) λo' k l=>?_;rw[k]at h;clear m;clear m;obtain rfl:=aQ h;exact j.led l
def aT.at(st:a5 K.a3 [F.L] f H s.heap ab H' h')(R:aV K F loc f H s)(q:aT f s.heap x v):aT ab h' x v:=by have fx:=st.fx R;refine aU st.ext λτ h=>?_;clear st;subst h;exact q.keep τ fx
end
section
variable{B:Frag}{E x:Addr}{s:Shared}
def zw{R:Result->Shared->Prop}{ox:Obj}{od:Option Obj}{name:Str}{C:Tok}{v:Value}(X:B.In s.heap)(W:InstAt s.heap x ox E od)(k:yb B E=true)(ht:takerIn B E name=some none)(h:∀b,wpAny (model I w) A.in1 (storeInOwnDict (.ref x) (.ref E) (.str name C) name v b) (λbp J=>match bp with|.done z=>R (.ok z) J|.again u=>u.quiet=true/\codeAny (model I w) A u R J) (λe J=>R (.error e) J) s):codeAny (model I w) A (.call (.builtin "object.__setattr__") ⟨[.ref x,.str name C,v],[]⟩) R s:=by
 have y:=PySem.F.store_object;refine aZ (any_some k) λD j f=>?_;have T:=S4 (.ref x) f;have ne:D.mro.isEmpty=false:=by induction q:D.mro using List.casesOn with|nil=>rw[q]at f;simp[qA]at f|cons _ _=>rfl
 have sub:Looks (model I w) s.heap (isInstance (.ref x)<|.type "object") true:=W.type.andThen<|looks_mroIn X<|by unfold mroIn;exact Y j<|Y (Option.bind_some ..)<|Y (bN<|by rw[ne];decide)<|Y T.2 rfl
 refine codeAny_call_builtin y.slot.plain y.entry<|@check_slot (model I w) _ _ s "object.__setattr__" "object" "__setattr__" (.ref x) [.str name C,v] [] _ y.kind y.split sub (y.args (.ref x) (.str name C) v)<|aZ (Option.bind_eq_some_iff.mp ht) λN ha U=>?_;have hm:Looks (model I w) s.heap (mroOf<|.ref E) D.mro:=(looks_clsIn X j).andThen .now;have L3:Looks (model I w) s.heap (storeTaker? N) none:=by rcases N with _|a;cases U;exact .now;refine aZ (kW.mp U) λb O aa=>(looks_takesIn X O).andThen ?_;clear O;rcases b;exact .now;exact aW<|aa.symm
 exact Y (osa_eq ..)<|Y (refuse_eq ..)<|aX<|aX<|W.type.here<|aX<|hm.here<|Y T.1<|aL<|aX<|W.type.here<|aX<|(qT X ha).here<|aX<|L3.here<|h _
def B'(X:B.In s.heap)(D:r3 B E k)(ab:InstAt s.heap x O E<|some<|dictOf es n)(hd:O.dict=some J)(q:bI P f s.heap z es)(hm:dX m k.own=true)(hz:(e3 es m (PyData.keyHash w.params m) (s.toks+1) u).length<=lim)(h:∀h' T,h'.get? J=some (dictOf (e3 es m (PyData.keyHash w.params m) (s.toks+1) u) T)->Heap.SameBut J s.heap h'->Q () {s with heap:=h',toks:=s.toks+2}):wpAny (model I w) A (setAttr (.ref x) m u) Q U s:=by refine set_plain X ab D.set<|zw X ab D.po (D.own m hm).2 λb=>?_;have X':B.In ({s with toks:=s.toks+1}:Shared).heap:=X;refine aZ (any_some D.hh) λcd j ae=>?_;obtain⟨aE,aa,C,N⟩:=ab;obtain⟨oc,ag,af,ah⟩:=O;dsimp only at aa hd N;subst aa hd;dsimp only at N;refine aX<|aL<|aX<|aX<|wpAny_loadPart aE<|aX<|(looks_clsIn X' j).here<|Y ae<|aL<|aX<|aL<|aX<|rN N rfl (λe he=>?_) λh' T W sb=>?_;exact bU (q.keys.all e he) λy t e1 _=>⟨y,t,e1⟩;refine aX<|wpAny_lookBehind W (pastItsLine_dict ?_) ?_;exact Y dg<|jj<|as hz fp;exact aL<|h h' T W sb
end
section
variable{K:al}
def GC(G:TabC K T B)(R:aV K F loc f H s)(e1:H[i]? =some (.inst E z))(j:f[i]? =some p)(aP:bi E T.cls=some k)(hm:dX m k.own=true)(hl:(put m a z).length<=lim)(q:RV f s.heap a u)(h:∀J,aV K F loc f (H.set i<|.inst E<|put m a z) J->a5 K.a3 [F.L] f H s.heap f (H.set i<|.inst E<|put m a z) J.heap->Q () J):wpAny (model I K.w) A (setAttr (.ref p.1) m u) Q U s:=by
 obtain⟨es,n,y,N,O⟩:=R.rep.obj i _ _ e1 j;have aa:InstAt s.heap p.1 (instObj E p.2) E (some<|dictOf es n):=⟨y,rfl,rfl,N⟩;have he:=O.e3 (t:=s.toks+1) q (x:=m);refine B' (G.In R) (G.cls E k aP) aa rfl O hm (by refine Y he.length ?_;exact hl) λh' n' eh D=>?_;have ne:p.1≠p.2:=λC=>by rw[C,N]at y;cases y
 obtain⟨W,st⟩:=R.set (h':=h') (s.toks+2) (o:=.inst E z) (o':=.inst E<|put m a z) e1 j rfl
  (λb ob nb eb=>by refine Y (D.2 b λC=>nb<|by rw[C];exact .tail _<|.head _) ?_;exact eb)
  (λfx=>⟨_,n',by refine Y (D.2 p.1 ne) ?_;exact y,eh,he.fx fx⟩)
 exact h _ W st
def Lg{i:Nat}(G:TabC K T B)(R:aV K F loc f H s)(e1:H[i]? =some (.exc E (some j) ab))(e2:f[i]? =some p)(D:H[j]? =some (.dict z))(aP:bi E T.cls=some k)(hm:dX m k.own=true)(hl:(put m a z).length<=lim)(q:RV f s.heap a u)(h:∀J,aV K F loc f (H.set j<|.dict<|put m a z) J->a5 K.a3 [F.L] f H s.heap f (H.set j<|.dict<|put m a z) J.heap->Q () J):wpAny (model I K.w) A (setAttr (.ref p.1) m u) Q U s:=by
 obtain⟨d,a0,tb,cx,y,⟨aa,e',N,rfl⟩,_⟩:=R.rep.obj i _ _ e1 e2;obtain⟨es,n,O,W⟩:=R.rep.obj j _ _ D N;have ae:InstAt s.heap p.1 (em E (some aa) a0 tb cx) E (some<|dictOf es n):=⟨y,rfl,rfl,O⟩;have he:=W.e3 (t:=s.toks+1) q (x:=m);refine B' (G.In R) (G.cls E k aP) ae rfl W hm (by refine Y he.length ?_;exact hl) λh' n' eh sb=>?_;obtain⟨R',st⟩:=R.set (h':=h') (s.toks+2) (o:=.dict z) (o':=.dict<|put m a z) D N rfl
  (λb ob nb eb=>by refine Y (sb.2 b λC=>nb<|by rw[C];exact .head _) ?_;exact eb)
  (λfx=>⟨_,n',eh,he.fx fx⟩)
 exact h _ R' st
def Oj(G:TabC K T B)(R:aV K F loc f H s)(e1:H[i]? =some (.exc E none z))(e2:f[i]? =some p)(aP:bi E T.cls=some k)(hm:dX m k.own=true)(q:RV f s.heap a u)(h:∀τ J,aV K F loc (f++τ) (H.set i (.exc E (some H.length) z)++[.dict [(m,a)]]) J->a5 K.a3 [F.L] f H s.heap (f++τ) (H.set i (.exc E (some H.length) z)++[.dict [(m,a)]]) J.heap->Q () J):wpAny (model I K.w) A (setAttr (.ref p.1) m u) Q U s:=by
 obtain⟨d,a0,tb,cx,y,N,O,h4⟩:=R.rep.obj i _ _ e1 e2;have N:d=none:=N;subst N;have X:=G.In R;have x:=G.cls E k aP;have ap:InstAt s.heap p.1 (em E none a0 tb cx) E none:=⟨y,rfl,rfl,trivial⟩;refine set_plain X ap x.set<|zw (s:={s with toks:=s.toks+1}) X ap x.po (x.own m hm).2 λb=>?_;have X':B.In ({s with toks:=s.toks+1}:Shared).heap:=X;refine aZ (any_some x.hh) λcd j an=>aX<|aL<|aX<|aX<|wpAny_loadPart y<|aX<|(looks_clsIn X' j).here<|Y an ?_;have kp:∀b ob,s.heap.get? b=some ob->(s.heap.push {cls:=.type "dict",data:=.dict #[]}).get? b=some ob:=λb ob e=>b4 _ e;have W:s.heap.get? s.heap.objs.size=none:=ej _;obtain⟨ae,ai⟩:=R.add (o:=.dict []) (p:=(s.heap.objs.size,0)) (h':=s.heap.push {cls:=.type "dict",data:=.dict #[]}) (s.toks+1) kp
  (λa m=>by refine Y (b9.mp m) ?_;exact⟨W,R.hP W⟩) (eo.mpr ⟨by simp,jR⟩) (λfx=>⟨[],0,dP _ rfl,.nil⟩)
 show wpAny _ _ (alloc {cls:=.type "dict",data:=.dict #[]}>>=_) _ _ _;refine aX<|qj<|aX<|wpAny_update (kp _ _ y) ?_;have ah:=(cc.mp e1).1;have ak:(H++[au.dict []])[i]? =some (.exc E none z):=by refine Y (dO ah) ?_;exact e1
 have al:(f++[(s.heap.objs.size,0)])[i]? =some p:=fI _ e2;have hD:(f++[(s.heap.objs.size,0)])[H.length]? =some (s.heap.objs.size,0):=by refine Y R.rep.len.symm<|Y (dr<|ba _)<|Y (er ..) ?_;rfl
 have up:((s.heap.push {cls:=.type "dict",data:=.dict #[]}).update p.1 λo=>{o with dict:=some s.heap.objs.size}).get? p.1=some (em E (some s.heap.objs.size) a0 tb cx):=by exact Y (jr _ (kp _ _ y) rfl) rfl
 obtain⟨af,ab⟩:=ae.set (h':=(s.heap.push {cls:=.type "dict",data:=.dict #[]}).update p.1 λo=>{o with dict:=some s.heap.objs.size}) (s.toks+1) (o:=.exc E none z) (o':=.exc E (some H.length) z) ak al rfl
  (λb ob nb eb=>((kF _ _ _).2 b λC=>nb<|by refine Y C ?_;exact .head _).trans eb)
  (λfx=>⟨_,a0,tb,cx,up,⟨_,_,hD,rfl⟩,by rcases O with O|⟨t,D,z1,z2,z3⟩;exact .inl O;exact .inr ⟨t,D,z1,((kF _ _ _).2 t λC=>by rw[C,y]at z2;cases z2).trans<|kp _ _ z2,z3⟩,h4.more _⟩)
 have pD:s.heap.objs.size≠p.1:=λC=>by rw[<-C,W]at y;exact aW y
 have Dat:((s.heap.push {cls:=.type "dict",data:=.dict #[]}).update p.1 λo=>{o with dict:=some s.heap.objs.size}).get? s.heap.objs.size=some (dictOf [] 0):=((kF _ _ _).2 _ pD).trans (dP _ rfl);have aa:=((q.at ai R).at ab ae);generalize aq:((s.heap.push {cls:=.type "dict",data:=.dict #[]}).update p.1 λo=>{o with dict:=some s.heap.objs.size})=ao at af ab up Dat aa⊢;refine aL (a:=some s.heap.objs.size)<|aX<|aL<|aX<|rN (s:={s with heap:=ao,toks:=s.toks+1}) Dat rfl (λe he=>by cases he) λh' n' e' sb=>aX<|wpAny_lookBehind e' (pastItsLine_dict ?_) ?_;exact jj<|show 1<=sizeLine by decide
 refine aL ?_;have am:((H++[au.dict []]).set i<|.exc E (some H.length) z)[H.length]? =some (.dict []):=by refine Y (nP<|by grind)<|Y (dr<|ba _)<|Y (er ..) ?_;rfl
 obtain⟨ag,aj⟩:=af.set (h':=h') (s.toks+2) (o:=.dict []) (o':=.dict [(m,a)]) am hD rfl
  (λb ob nb eb=>(sb.2 b λC=>nb<|by refine Y C ?_;exact .head _).trans eb)
  (λfx=>⟨_,n',e',(bI.cons aa .nil).fx fx⟩)
 have eq:((H++[au.dict []]).set i<|.exc E (some H.length) z).set H.length (.dict [(m,a)])=H.set i (.exc E (some H.length) z)++[.dict [(m,a)]]:=by refine Y (List.set_append_left _ _ ah)<|Y (pT _ _<|by rw[ef];exact ba _)<|Y ef<|Y (er ..) ?_;rfl
 rw[eq]at ag aj;exact h _ _ ag<|(ai.trans ab λ_ m=>.inl m).trans aj λ_ m=>.inl m
end
end
section
open Builtin
def u5{h:Heap}(z)(j:h.get? a=some (ep D n)):∃f,(h.update a<|Obj.mapSeq z).get? a=some (ep (z D.toArray).toList f):=by
 refine aU (Obj.data_mapSeq (o:=ep D n) rfl z) λf hd=>⟨f,?_⟩;refine Y (jr _ j<|Obj.isFreed_of_seq hd) ?_;have:Obj.mapSeq z (ep D n)={cls:=.type "list",data:=(Obj.mapSeq z<|ep D n).data}:=by unfold Obj.mapSeq ep;rfl
 exact Y this<|Y hd rfl
def Gs(j:s.heap.get? l=some (ep D n))(aP:k<D.length)(u:i=(k:Int))(f:Builtin.List.listFitsIndex i=true)(z:∀h' x,h'.get? l=some (ep (D.set k v) x)->Heap.SameBut l s.heap h'->Q () {s with heap:=h'}):wpAny (model I w) A (setItem (.ref l) (.int i t) v) Q U s:=by
 have h:s.TypeIs (.ref l) "list":=⟨_,j,rfl⟩;unfold setItem;refine c9<|aX<|wpAny_sequenceKey h (by decide) ?_;refine aX (wpAny_callSpecial?_slot h slot_list_setitem
  (wpAny_call_entry slot_list_setitem h entry_list_setitem ?_<|args_list_setitem _ _ _))
 show wpAny _ _ (Builtin.List.listSubscript? (.int i t)>>=_) _ _ s;refine aX<|wpAny_listSubscript_int f ?_;clear f;subst u;have C:D.toArray[k]? =some D[k]:=by refine Y sh ?_;exact dA aP
 show wpAny _ _ ((seqItemAt l k>>=λr=>pure<|r.map (k,·))>>=_) _ _ s;refine aX<|aX<|wpAny_seqItemAt j rfl<|aL<|Y C ?_;show wpAny _ _ (setSeqItemAt l k v>>=_) _ _ s;refine aU (u5 (·.setIfInBounds k v) j) λx y=>?_;have bo:=z _ x (by refine Y y ?_;simp)<|kF ..;exact aX<|wpAny_setSeqItemAt j rfl<|aL ⟨.none,rfl,aL bo⟩
def FV(j:s.heap.get? l=some (ep D n))(aP:k<D.length)(h:(k:Int)<2^63)(f:∀h' u,h'.get? l=some (ep (D.set k v) u)->Heap.SameBut l s.heap h'->Q () {s with heap:=h'}):wpAny (model I w) A (setItem (.ref l) (.int (.ofNat k) t) v) Q U s:=Gs j aP rfl (fitsIndex_of (gz k) h) f
def z8(j:s.heap.get? l=some (ep D n))(y:D.length<=lim)(u:∀h' f,h'.get? l=some (ep (D++[x]) f)->Heap.SameBut l s.heap h'->Q .none {s with heap:=h'}):wpAny (model I w) A (call (.builtin "list.append") [.ref l,x]) Q U s:=by
 refine wpAny_call_entry slot_list_append ⟨_,j,rfl⟩ entry_list_append ?_<|args_list_append _ _;show wpAny _ _ (updateSeq l (·.push x)>>=λ_=>ret .none) _ _ s;refine aU (u5 (·.push x) j) λf k=>?_;have:=u _ f (by refine Y k ?_;simp)<|kF ..;have h:D.toArray.size<=sizeLine:=by refine Y dg ?_;exact as y fp
 refine aX<|wpAny_updateSeq j rfl (hz:=h) (_hz':=by simpa using h)<|aL ⟨.none,rfl,this⟩
def J7(j:P=w.params)(q:bI P f h k es):KeysOf (PySem.strKind I w) es.toArray:=λe he=>by subst j;exact bU (q.keys.all e<|by simpa using he) λx t u k2=>a8 x (by refine Y u ?_;exact strKind_is I w x t) k2
def Lr(es:List DictEntry)(x):es.toArray.findIdx? (λe=>(PySem.strKind I w).is x e.key)=es.findIdx? (λe=>e.key.isStr x):=by refine Y (t5 ..) ?_;congr 1;funext e;exact(isStr_of x e.key).symm▸rfl
def Gj(j:s.heap.get? d=some (dictOf es n))(q:bI w.params f s.heap k es)(hz:es.length<=lim)(h:∀h' C,h'.get? d=some (dictOf (e3 es x (PyData.keyHash w.params x) t v) C)->Heap.SameBut d s.heap h'->Q () {s with heap:=h',toks:=s.toks+1}):wpAny (model I w) A (dictSet d (.str x t) v) Q U s:=by
 have aP:=J7 (I:=I) rfl q;have y:=strKind_is I w x t;have z:es.toArray.size<=sizeLine:=by refine Y dg ?_;exact as hz fp
 unfold dictSet;refine c9<|aX<|(PySem.strKind I w).pyHash y ?_;unfold dictSetHashed;refine c9<|aX<|wpAny_dictFind_of (s:={s with toks:=s.toks+1}) y j rfl aP<|Y (Lr ..) ?_;induction u:es.findIdx? (λe=>e.key.isStr x)with
 |some i=>refine aX<|wpAny_rule<|aX<|wpAny_updateDict (s:={s with toks:=s.toks+1}) j rfl<|wpAny_point<|h _ n ?_<|kF ..;unfold e3;refine Y u ?_;have:=jr (h:=s.heap) (Obj.mapDict (·.modify i λe=>{e with val:=v})) j rfl;refine Y this ?_;exact az (λa=>some<|Obj.mapDict (λ_=>a)<|dictOf es n)<|List.modify_toArray ..
 |none=>refine aX<|wpAny_rule<|wpAny_updateDictKeys (hz:=z) (s:={s with toks:=s.toks+1}) j rfl<|h _ (n+1) ?_<|kF ..;unfold e3;refine Y u ?_;have:=jr (h:=s.heap) (Obj.mapDictKeys (·.push ⟨PyData.keyHash w.params x,.str x t,v⟩)) j rfl;exact this.trans<|az (λa=>some<|Obj.mapDictKeys (λ_=>a)<|dictOf es n)<|List.push_toArray ..
section
variable{K:al}
def Ht(R:aV K F loc f H s)(e1:H[i]? =some (.dict k))(D:f[i]? =some p)(hl:k.length<=lim)(q:RV f s.heap a u)(h:∀J,aV K F loc f (H.set i<|.dict<|put x a k) J->a5 K.a3 [F.L] f H s.heap f (H.set i<|.dict<|put x a k) J.heap->Q () J):wpAny (model I K.w) A (setItem (.ref p.1) (.str x t) u) Q U s:=by
 obtain⟨es,n,y,j⟩:=R.rep.obj i _ _ e1 D;have z:s.TypeIs (.ref p.1) "dict":=⟨_,y,rfl⟩;unfold setItem;refine c9<|aX<|wpAny_sequenceKey z (by decide) ?_;refine aX (wpAny_callSpecial?_slot z slot_dict_setitem
  (wpAny_call_entry slot_dict_setitem z entry_dict_setitem ?_<|args_dict_setitem _ _ _))
 show wpAny _ _ (Builtin.Dict.notOrdered "__setitem__" ⟨[.ref p.1,.str x t,u],[]⟩>>=_) _ _ s;refine aX<|wpAny_notOrdered_dict z ?_;show wpAny _ _ (dictSet p.1 (.str x t) u>>=_) _ _ s;refine aX<|Gj y j (by refine Y j.length ?_;exact hl) λh' T O sb=>aL ⟨.none,rfl,aL ?_⟩;obtain⟨E,st⟩:=R.set (s.toks+1) (o':=.dict<|put x a k) e1 D rfl
  (λb ob W N=>by refine Y (sb.2 b λC=>W<|by rw[C];exact .head _) ?_;exact N)
  (λfx=>⟨_,T,O,(j.e3 q (x:=x) (t:=t)).fx fx⟩)
 exact h _ E st
def NO(R:aV K F loc f H s)(e1:H[i]? =some (.list l))(z:f[i]? =some p)(aP:k<l.length)(q:RV f s.heap a u)(h:∀J,aV K F loc f (H.set i<|.list<|l.set k a) J->a5 K.a3 [F.L] f H s.heap f (H.set i<|.list<|l.set k a) J.heap->Q () J):wpAny (model I K.w) A (setItem (.ref p.1) (.int (.ofNat k) t) u) Q U s:=by
 obtain⟨D,n,y,x,j⟩:=R.rep.obj i _ _ e1 z;have hl:=j.length;have aa:D.length<=1048576:=x;refine FV y (a7 aP (a4 hl.symm)<|by simp+arith) (by omega) λh' T O sb=>?_;obtain⟨E,st⟩:=R.set s.toks (o':=.list<|l.set k a) e1 z rfl
  (λb ob W N=>by refine Y (sb.2 b λC=>W<|by rw[C];exact .head _) ?_;exact N)
  (λfx=>⟨D.set k u,T,O,by refine Y ef ?_;exact x,(aT.set q j).fx fx⟩)
 exact h _ E st
def PE(E:CtxOk d c F)(N):∀{l D loc H s},aV K F loc f H s->aT f s.heap l D->a5 K.a3 [F.L] C j k f H s.heap->l0 c N l loc H=some r->wpAny (model I K.w) F.A (assignInOrder ((assignEach N F.env).map (·.2)) D) (λ_ J=>cR K F r C j k .next J) U s:=by
 induction N with
 |nil=>
  intro l D loc H s R q st e;rcases l
  .exact Y q.i0<|aL<|fl (z:=.next) R st trivial e
  exact aW e
 |cons t N T=>intro l D loc H s R q st e;rcases l with _|⟨a,l⟩;exact aW e;obtain⟨u,us,rfl,W,y⟩:=q.eS;refine dk e λx aE e=>aU (rh aE) λp aa=>?_;clear aE;subst aa;refine bU (vI e) λag H' h e=>?_;show wpAny (model I K.w) F.A (do holding _ (assign (.Name x p) F.env _);assignInOrder ((assignEach N F.env).map (·.2)) _) _ U s;exact aX<|c9<|Y (arm_assign_Name ..)<|aX<|dM<|qW<|mO E R W h λJ O ae=>T O (y.at ae R) (st.trans ae λ_ m=>.inl m) e
end
def zK(e:fV c x a loc H=some r):∃ag H',r=.ok .next ag H':=by rcases yX e with⟨_,e⟩|⟨_,_,_,_,_,e⟩;exact lX _ _ e;exact lX _ _ e
section
variable{K:al}{F:bG}
def z6(hh:A.handled=none)(R:aV K F loc f H s)(q:RV f s.heap (.tup l) u)(x:n=l.length)(h:∀D J,aV K F loc f H J->a5 K.a3 [F.L] f H s.heap f H J.heap->aT f J.heap l D->Q D J):wpAny (model I K.w) A (unpackItems u n none) Q U s:=by obtain⟨a,D,rfl,z,E,j⟩:=q.nk;obtain rfl:n=D.toArray.size:=Y x<|Y dg<|Y j.length rfl;refine unpackItems_tuple hh (show IsTup s.heap a D.toArray from⟨_,z,rfl,_,rfl⟩) λh' he=>?_;have k:=λb o e=>he b o (λC=>by rw[C,ej]at e;exact aW e) e;exact aS (R.keeps s.toks k) λy st=>Y List.toList_toArray<|h D _ y st<|j.fx λa o e _=>k a o e
theorem eI.none(x:eI f hd A)(e:hd=none):A=none:=by subst e;exact x
def KV:∀{l loc H r},l0 c j l loc H=some r->(assignEach j F.env).length=l.length/\(assignEach j F.env).findIdx? (·.1)=none:=by
 induction j with
 |nil=>intro l loc H r e;rcases l;exact⟨rfl,rfl⟩;exact aW e
 |cons t j k=>intro l loc H r e;rcases l with _|⟨a,l⟩;exact aW e;refine dk e λx aE e=>aU (rh aE) λp u=>?_;clear aE;subst u;refine bU (vI e) λag H' _ e=>aS (k e) λf h=>⟨az Nat.succ f,?_⟩;show((false,assign (.Name x p) F.env)::assignEach j F.env).findIdx? _=none;refine Y List.findIdx?_cons<|Y h ?_;rfl
def SM(E:CtxOk d c F)(R:aV K F loc f H s)(q:RV f s.heap (.tup l) u)(st:a5 K.a3 [F.L] aa N O f H s.heap)(hd:c.hd=none)(e:l0 c h l loc H=some r):wpAny (model I K.w) F.A (assign (.Tuple h k p) F.env u) (λ_ J=>cR K F r aa N O .next J) (ci K F r aa N O) s:=by have hh:=R.hand.none<|E.hd.symm.trans hd;refine aS (KV (F:=F) e) λy z=>Y (arm_assign_Tuple ..)<|aX<|dM ?_;unfold unpack;exact Y z<|aX<|c9<|z6 hh R q y λD J x ae j=>PE E h x j (st.trans ae λ_ m=>.inl m) e
def PY(G:TabC K T B)(R:aV K F loc f H s)(qb:RV f s.heap (.ref i) w)(q:RV f s.heap a u)(st:a5 K.a3 [F.L] aa N O f H s.heap)(h:H[i]? =some o)(e:jA T m a loc i H o=some r):wpAny (model I K.w) A (setAttr w m u) (λ_ J=>cR K F r aa N O .next J) U s:=by
 obtain⟨xa,xd,rfl,W⟩:=qb.ex;induction o with
 |inst C' x=>refine dk e λk aP e=>iJ e λC e=>?_;have C:=cY.mp C;exact GC G R h W aP C.1 (hT C.2) q λab D E=>fl (z:=.next) D (st.trans E λ_ m=>.inl m) trivial e
 |exc C' dj ae=>
  refine dk e λk aP e=>iJ e λC e=>?_;have C:=cY.mp C;rcases dj with _|j
  .exact Oj G R h W aP C.2 q λτ ab D E=>fl (z:=.next) D (st.trans E λ_ m=>.inl m) trivial e
  .exact dk e λx hj e=>iJ e λy e=>Lg G R h W (uI hj) aP C.2 (hT y) q λab D E=>fl (z:=.next) D (st.trans E λ_ m=>.inl m) trivial e
 |_=>exact aW e
def Pt(R:aV K F loc f H s)(qb:RV f s.heap (.ref i) w)(C:RV f s.heap j x)(q:RV f s.heap a u)(st:a5 K.a3 [F.L] aa N O f H s.heap)(h:H[i]? =some o)(e:zf j a loc i H o=some r):wpAny (model I K.w) A (setItem w x u) (λ_ J=>cR K F r aa N O .next J) U s:=by
 obtain⟨xa,xd,rfl,W⟩:=qb.ex;induction o with
 |list l=>refine dk e λk aP e=>iJ e λE e=>?_;rw[DR aP]at C;obtain⟨t,rfl⟩:=C.cG;exact NO R h W (jh.mp E) q λab D T=>fl (z:=.next) D (st.trans T λ_ m=>.inl m) trivial e
 |dict es=>refine dk e λy hy e=>iJ e λE e=>?_;rw[jv hy]at C;obtain⟨t,_,rfl⟩:=C.dT;exact Ht R h W (oy<|hT E) q λab D T=>fl (z:=.next) D (st.trans T λ_ m=>.inl m) trivial e
 |_=>exact aW e
def Dz(G:TabC K T B)(aj:bA I K d v)(E:CtxOk d c F)(R:aV K F loc f H s)(q:RV f s.heap a u)(st:a5 K.a3 [F.L] aa N O f H s.heap)(e:i' T v c t a loc H=some r):wpAny (model I K.w) F.A (assign t F.env u) (λ_ J=>cR K F r aa N O .next J) (ci K F r aa N O) s:=by
 induction t using Expr.casesOn with
 |Name x p=>refine g8 (zK e) λag H' al=>?_;subst al;exact Y (arm_assign_Name ..)<|aX<|dM<|qW<|mO E R q e λJ D ae=>fl (z:=.next) D (st.trans ae λ_ m=>.inl m) trivial rfl
 |Tuple ts k p=>refine dk e λl hl e=>?_;rw[qx hl]at q;revert e;rcases hd:c.hd;intro e;exact SM E R q st hd e;exact aW
 |Attribute x m p=>refine Y (arm_assign_Attribute ..)<|aX<|c9<|Sn.ic st (aj.e E R) e λb w ab H' J D af ae q' U=>dk U λi h U=>dk U λo y U=>?_;rw[iK h]at q';exact aX<|dM<|aX<|c9<|bX (PY G D q' (q.at ae R) af y U) (λ_ _ C=>wpAny_release C) λ_ _ C=>C
 |Subscript x i p=>refine Y (arm_assign_Subscript ..)<|aX<|c9<|Sn.ic st (aj.e E R) e λb w ab H' J D af ae q' U=>aX<|c9<|Sn.ic af (aj.e E D) U λj w' ao am an ai ak ah qj W=>dk W λi h W=>dk W λo y W=>?_;rw[iK h]at q';exact aX<|dM<|aX<|c9<|bX (Pt ai (q'.at ah D) qj ((q.at ae R).at ah D) ak y W) (λ_ _ C=>wpAny_release C) λ_ _ C=>C
 |_=>exact aW e
end
def Tj(e:(!sq x i7)=true):constantsAlone n (.Name x p)=false:=by
 have:sq x i7=false:=by induction h:sq x i7 with|true=>rw[h]at e;exact ff e|false=>rfl
 cases n<;>(show(x==("__debug__":Str))=false;refine Y Bz ?_;exact wj this)
def Dv(e:rO x=true):constantsAlone n x=false:=by
 induction x using Expr.casesOn with
 |Name x p=>exact Tj e|Call|List|Attribute|IfExp|Compare=>cases n<;>rfl
 |_=>exact ff e
def Ql(e:ol x=some q)(n):constantsAlone (n+1) x=(constantsAlone n q.1&&constantsAlone n q.2):=by cases x<;>first|(cases e;rfl)|exact aW e
def Qy:∀{n x},jx n x=true->constantsAlone n x=false:=by
 intro n;induction n with
 |zero=>exact Dv
 |succ n f=>
  intro x e;have e:(match ol x with|some p=>(match jx n p.1 with|true=>true|false=>jx n p.2)|none=>rO x)=true:=e
  revert e;rcases h:ol x with _|q;intro e;exact Dv e;intro e;refine Y (Ql h ..) ?_;have e:(match jx n q.1 with|true=>true|false=>jx n q.2)=true:=e;rcases h:jx n q.1;rw[h]at e;exact Y (f e)<|Y (su ..) rfl;exact Y (f h) rfl
def QO:∀{l},nb l=true->l.all (constantsAlone 8)=false:=by
 intro l;induction l with
 |nil=>exact ff
 |cons x l f=>intro e;unfold nb at e;refine Y List.all_cons ?_;rcases h:jx 8 x;rw[h]at e;exact Y (f e)<|Y (su ..) rfl;exact Y (Qy h) rfl
def Nr(e:tR x=true):foldedForSure n x=true:=by
 induction x using Expr.casesOn with
 |Constant=>cases n<;>rfl
 |_=>exact ff e
def RB:∀{l},rc l=true->l.all (foldedForSure 8)=true:=by
 intro l;induction l with
 |nil=>exact λ_=>rfl|cons x l f=>intro e;have e:(match tR x with|true=>rc l|false=>false)=true:=e;refine Y List.all_cons ?_;revert e;rcases h:tR x;intro e;exact ff e;intro e;exact Y (Nr h)<|Y (f e) rfl
def Un{z:Expr->Option Str}{f:List Expr}(e:(f.filterMap z).length=f.length):f.map z=(f.filterMap z).map some:=by
 induction f with
 |nil=>rfl
 |cons t f j=>
  rcases h:z t with _|n;rw[List.filterMap_cons_none h,cv]at e;exact absurd (List.length_filterMap_le z f)<|by rw[e];exact Nat.not_succ_le_self _
  rw[List.filterMap_cons_some h]at e⊢;exact Y hE<|Y h<|az _<|j<|hD e
def BS(e:my x=some es):∃k p,x=.Tuple es k p:=by cases x<;>first|(cases e;exact⟨_,_,rfl⟩)|exact aW e
def lt(env:Env)(t:Expr)(m:Sem<|Option<|List Str):Prop:=m=pure none\/
  ∃(h:List Expr)(k:Nat)(p:Pos)(f:List Str),t=Expr.Tuple h k p/\m=pure (some f)/\(f.length=2\/f.length=3)/\f.eraseDups.length=f.length/\(∀x∈f,env.kindOf x=some .local)/\h.length=f.length/\
   ∀(i:Nat)(x:Str),f[i]? =some x->∃p:Pos,h[i]? =some (Expr.Name x p)
def lt.dJ [Decidable c](h:¬c->lt env t m):lt env t (if c then pure none else m):=by by_cases C:c;exact .inl<|bZ C;exact Y (bN C)<|h C
abbrev z'(env:Env)(t e:Expr):Prop:=lt env t<|swappedStores [t] e env
def zN(e:(!b)=false):b=true:=by rcases b;exact ff e.symm;rfl
def E3{b:Nat}(e:(a !=b)=false):a=b:=kr<|zN e
set_option backward.match.sparseCases true in
def zX{env:Env}{l:Nat}{y:Expr}{x:Str}(h:(match y with|.Name u pos=>if env.kindOf u==some .local&&pos.line==l then some u else none|_=>none)=some x):env.kindOf x=some .local/\∃p,y=.Name x p:=by
 induction y using Expr.casesOn with
 |Name u p=>have h:(if env.kindOf u==some .local&&p.line==l then some u else none)=some x:=h;rcases q:env.kindOf u==some .local&&p.line==l;rw[q]at h;exact aW h;rw[q]at h;obtain rfl:=aQ h;exact⟨cy.mp (cY.mp q).1,p,rfl⟩
 |_=>exact aW h
def Ub(h:nX (.Tuple z k p) (.Tuple D E I)=true):z' env (.Tuple z k p) (.Tuple D E I):=by
 have f:D.all (foldedForSure 8)=true\/D.all (constantsAlone 8)=false:=by have h:(match nb D with|true=>true|false=>rc D)=true:=h;rcases C:nb D;rw[C]at h;exact .inl<|RB h;exact .inr<|QO C
 clear h;refine lt.dJ λj=>lt.dJ λ_=>lt.dJ λu=>lt.dJ λT=>?_;rcases f with f|f;exact absurd f T;refine Y (bN<|by rw[f];decide) ?_;have O:=zN (xo.mp (xo.mp<|Bool.eq_false_iff.mpr j).1).1;have u:=xo.mp<|Bool.eq_false_iff.mpr u;have J:=E3 u.1;refine .inr ⟨z,k,p,_,rfl,rfl,?_,E3 u.2,?_,J.symm,?_⟩;exact Y J<|(qE.mp O).imp kr kr;intro x m;exact aZ (List.mem_filterMap.mp m) λy _ N=>(zX N).1;intro i x aE;have:=List.getElem?_map.symm.trans<|(az (λl=>l[i]?)<|Un J).trans<|List.getElem?_map.trans<|az (Option.map some) aE;exact aZ (kW.mp this) λy N e=>aU (zX e).2 λq e=>⟨q,e▸N⟩
def Ag(h:my t=none\/my e=none)(hl:∀f p,t≠Expr.List f p):swappedStores [t] e env=pure none:=by
 induction t using Expr.casesOn with
 |Tuple f k p=>
  induction e using Expr.casesOn with
  |Tuple=>exact h.elim (λC=>nomatch C) λC=>nomatch C|_=>rfl
 |List f p=>exact absurd rfl<|hl f p
 |_=>rfl
def J9(h:nX t e=true)(hl:∀f p,t≠Expr.List f p):z' env t e:=by rcases ht:my t with _|f;exact .inl<|Ag (.inl ht) hl;rcases he:my e with _|D;exact .inl<|Ag (.inr he) hl;clear hl;refine g8 (BS ht) λk p j=>?_;clear ht;subst j;refine g8 (BS he) λx y u=>?_;clear he;subst u;exact Ub h
section
variable{K:al}{d:Nat}{F:bG}{c:bh}{loc:Loc}{H:aq}
def aV.locs{ag:Loc}(R:aV K F loc f H s)(h:∀x,aC x loc=aC x ag):aV K F ag f H s:=by obtain⟨o,m,e,q,n,l⟩:=R.loc;refine⟨R.base,R.lam,R.tab,R.mods,R.rep,R.gens,R.os,R.stack,R.locals,R.kind,R.glob,R.blt,R.new,R.apart,⟨o,m,e,q,n,λx aE a k=>?_,λx i aE j=>?_⟩,R.out,R.hand⟩;rw[<-h x]at k;exact l.own x aE a k;rw[<-h x]at j;exact l.gR x i aE j
def ur(E:CtxOk d c F)(aP:F.env.kindOf x=some .local)(loc)(H):fV c x a loc H=some (.ok .next (put x a loc) H):=by
 rw[kg]at aP;have f:=(E.sc x).elim (λe=>e.symm.trans aP) λe=>absurd (aP.symm.trans e.2)<|by decide
 show cE (aC x c.sc) _=_;exact Y f rfl
def Jr(l:List Str):l.eraseDups.length<=l.length:=by
 induction h:l.length using Nat.strongRecOn generalizing l with
 |_ n f=>rcases l with _|⟨a,l⟩;exact bJ _;refine Y List.eraseDups_cons (Y cv ?_);have j:(l.filter λb=>!b==a).length<=l.length:=List.length_filter_le ..;rw[cv]at h;subst h;exact fD<|as (f _ (Nat.lt_succ_of_le j) _ rfl) j
def Lt:∀{l:List Str},l.eraseDups.length=l.length->l.Nodup:=by
 intro l;induction l with
 |nil=>exact λ_=>.nil
 |cons a l k=>
  intro h;rw[List.eraseDups_cons,cv,cv]at h;have h:=hD h;have j:=ce (List.length_filter_le ..)<|by refine Y h.symm ?_;exact Jr _
  have f:=List.length_filter_eq_length_iff.mp j;rw[List.filter_eq_self.mpr f]at h;refine eo.mpr ⟨λm=>?_,k h⟩;have:=f a m;rw[tQ]at this;exact nomatch this
end
section
variable{K:al}{F:bG}{loc:Loc}
def BY(h:mh x=true):swapsWith x t n env=pure false:=by unfold swapsWith;cases x<;>first|rfl|exact ff h
noncomputable def putAll:List Str->List V->Loc->Loc|[],_,loc=>loc|n::ns,l,loc=>match l with|[]=>loc|a::l=>putAll ns l<|put n a loc
def O2:∀{ns l}{loc ag:Loc},(∀C,aC C loc=aC C ag)->∀C,aC C (putAll ns l loc)=aC C (putAll ns l ag):=by
 intro ns;induction ns with
 |nil=>exact λh=>h|cons n ns f=>intro l loc ag h;rcases l with _|⟨a,l⟩;exact h;exact f λC=>Y (iw ..)<|Y (iw ..)<|Y (h ..) rfl
def Pq:∀{ns l}{loc:Loc},n∉ns->∀C,aC C (putAll ns l<|put n a loc)=aC C (put n a<|putAll ns l loc):=by
 intro ns;induction ns with
 |nil=>exact λ_ _=>rfl|cons m ns f=>intro l loc h C;rcases l with _|⟨b,l⟩;rfl;refine(O2 (loc:=put m b<|put n a loc) (ag:=put n a<|put m b loc) (λy=>?_) C).trans (f (l:=l) (loc:=put m b loc) (λk=>h<|.tail _ k) C);refine Y (iw ..)<|Y (iw ..)<|Y (iw ..)<|Y (iw ..) ?_;by_cases j:y=m;subst j;exact Y (bZ rfl)<|Y (bZ rfl)<|Y (bN λk=>h<|by rw[k];exact .head _) rfl;exact Y (bN j)<|Y (bN j) rfl
def putAll_snoc:∀{ns l loc},l.length=ns.length->putAll (ns++[n]) (l++[a]) loc=put n a (putAll ns l loc):=by
 intro ns;induction ns with
 |nil=>intro l loc h;exact Y (rT h) rfl
 |cons m ns f=>intro l loc h;rcases l with _|⟨b,l⟩;cases h;exact f<|hD h
def Ha:∀{ns l loc},ns.Nodup->l.length=ns.length->∀C,aC C (putAll ns.reverse l.reverse loc)=aC C (putAll ns l loc):=by
 intro ns;induction ns with
 |nil=>intro l loc _ h C;exact Y (rT h) rfl
 |cons n ns f=>intro l loc nd h C;rcases l with _|⟨a,l⟩;cases h;have nd:=eo.mp nd;have h:=hD h;exact Y nK<|Y nK<|Y (putAll_snoc<|by rw[fL,fL,h])<|Y (iw ..)<|Y (f nd.2 h ..)<|(iw ..).symm.trans (Pq nd.1 C).symm
def aT.rev:∀{l D},aT f h l D->aT f h l.reverse D.reverse:=by
 intro l;induction l with
 |nil=>intro D q;exact Y q.i0 .nil
 |cons a l j=>intro D q;obtain⟨u,us,rfl,k,y⟩:=q.eS;exact Y nK<|Y nK<|(j y).append<|.cons k .nil
def Ut(E:CtxOk d c F):∀{ns l D loc s},(∀x∈ns,F.env.kindOf x=some .local)->aV K F loc f H s->aT f s.heap l D->l.length=ns.length->(∀J,aV K F (putAll ns l loc) f H J->a5 K.a3 [F.L] f H s.heap f H J.heap->Q () J)->wpAny (model I K.w) F.A (assignInOrder (ns.map λn=>bindName F.env n) D) Q U s:=by
 intro ns;induction ns with
 |nil=>intro l D loc s _ R q h k;obtain rfl:=rT h;exact Y q.i0<|aL<|k s R<|.refl ..
 |cons n ns N=>intro l D loc s aP R q h k;rcases l with _|⟨a,l⟩;cases h;obtain⟨u,us,rfl,O,y⟩:=q.eS;show wpAny (model I K.w) F.A (do holding us (bindName F.env n u);assignInOrder (ns.map λn=>bindName F.env n) us) Q U s;exact aX<|c9<|qW<|mO E R O (ur E (aP n<|.head _) _ _) λaa z j=>N (λx m=>aP x<|.tail _ m) z (y.at j R) (hD h) λW C T=>k W C<|j.trans T λ_ m=>.inl m
def Si(E:CtxOk d c F):∀{ns k l loc r},(∀x∈ns,F.env.kindOf x=some .local)->k.length=ns.length->(∀(i:Nat) x,ns[i]? =some x->∃p,k[i]? =some (Expr.Name x p))->l0 c k l loc H=some r->l.length=ns.length/\r=.ok .next (putAll ns l loc) H:=by
 intro ns;induction ns with
 |nil=>intro k l loc r _ hl _ e;rw[rT hl]at e;rcases l;obtain rfl:=aQ e;exact⟨rfl,rfl⟩;exact aW e
 |cons n ns u=>intro k l loc r aP hl hg e;rcases k with _|⟨t,k⟩;cases hl;rcases l with _|⟨a,l⟩;exact aW e;refine aU (hg 0 n rfl) λp ht=>?_;obtain rfl:=aQ ht;refine bU (vI e) λ_ _ f e=>?_;rw[ur E<|aP n<|.head _]at f;cases f;exact aS (u (λx m=>aP x<|.tail _ m) (hD hl) (λi x aE=>hg (i+1) x aE) e) λj h=>⟨az Nat.succ j,h⟩
def Jj(E:CtxOk d c F){O:List Str}(R:aV K F loc f H s)(q:RV f s.heap a u)(st:a5 K.a3 [F.L] C k z f H s.heap)(hd:O.eraseDups.length=O.length)(T:∀x∈O,F.env.kindOf x=some .local)(ab:N.length=O.length)(aa:∀(i:Nat)(x:Str),O[i]? =some x->∃p:Pos,N[i]? =some (Expr.Name x p))(e:cE (nl a) (λl=>match c.hd with|none=>l0 c N l loc H|some _=>none)=some r):wpAny (model I K.w) F.A (do let h<-unpackItems u O.length none;assignInOrder (O.reverse.map λn=>bindName F.env n) h.reverse;pure Flow.next) (cR K F r C k z) (ci K F r C k z) s:=by
 refine dk e λl hl e=>?_;rw[qx hl]at q;revert e;rcases J:c.hd
 .intro e;have hh:=R.hand.none<|E.hd.symm.trans J;refine aS (Si E T ab aa e) λj ag=>?_;clear e;subst ag;exact aX<|z6 hh R q j.symm λD ah U ae y=>aX<|Ut E (λx m=>T x<|List.mem_reverse.mp m) U y.rev (Y fL<|Y fL<|Y j rfl) λai W af=>aL ⟨.next,_,f,H,rfl,W.locs<|Ha (Lt hd) j,(st.trans ae λ_ m=>.inl m).trans af λ_ m=>.inl m,trivial⟩
 exact aW
def Rs(e:i' T v c t a loc H=some r):assignEach [t] F.env=[(false,assign t F.env)]:=by cases t<;>first|rfl|exact aW e
def Sz(G:TabC K T B)(af:bA I K d v)(E:CtxOk d c F)(R:aV K F loc f H s)(e:ei T v c (.Assign [t] x p) loc H=some r):wpAny (model I K.w) F.A (exec (.Assign [t] x p) F.env) (cR K F r f H s.heap) (ci K F r f H s.heap) s:=by
 refine iJ e λD e=>?_;have D:=cY.mp D;refine Y (exec_Assign ..)<|aX<|dM<|Y (show swapsWithSole [t] x p.line F.env=pure false from BY D.1)<|aX<|aL<|Y (bN<|by decide)<|aX<|Sn.ic (.refl ..) (af.e E R) e λa u ab H' J O st _ q z=>?_;have nl:∀N p,t≠Expr.List N p:=λN p C=>by clear e;clear e;subst C;exact aW z
 rcases J9 D.2 nl with j|⟨N,k,tp,U,rfl,j,y,hd,ae,aa,W⟩;refine Y j (Y (Rs z)<|aX<|aL ?_);show wpAny _ _ (do assignAll u [assign t F.env];pure Flow.next) _ _ J;exact aX<|bX (Dz G af E O q st z) (λ_ _ C=>aL C) λ_ _ C=>C;refine Y j (aX<|aL ?_);show wpAny _ _ (do rule "assign.swapped-stores";let h<-unpackItems u U.length none;assignInOrder (U.reverse.map λn=>bindName F.env n) h.reverse;pure Flow.next) _ _ J;exact aX<|wpAny_rule<|Jj E O q st hd ae aa W z
end
end
section
variable{K:al}{loc:Loc}
def Sm.plain(x:Sm o o')(h:o.cls≠.type "frame")(f:o.cls≠.type "traceback"):o'=o:=by rcases x with x|⟨x,_⟩|⟨D,U,rfl,_,_⟩;exact x;exact absurd x h;exact absurd rfl f
theorem Sm.data(x:Sm o o')(f:o.cls≠.type "traceback"):o'.data=o.data/\o'.cls=o.cls:=by rcases x with rfl|⟨_,h,rfl⟩|⟨D,U,rfl,_,_⟩;exact⟨rfl,rfl⟩;exact⟨rfl,rfl⟩;exact absurd rfl f
def mN.nf(l:mN v):v≠.type "frame"/\v≠.type "traceback":=by rcases l with l|l|l|⟨E,l⟩<;>subst l<;>exact⟨(λe=>by first|exact absurd (e7 e) (by decide)|cases e),λe=>by first|exact absurd (e7 e) (by decide)|cases e⟩
def aV.note(R:aV K F loc f H s){i:Nat}(ei:f[i]? =some (a,d))(u:H[i]? =some (.exc E O c))(ai:jE f O z)(ah:jk f c I)(W:∀b o,b≠a->s.heap.get? b=some o->∃o',h'.get? b=some o'/\Sm o o')(kb:∀b o,K.h₀.get? b=some o->s.heap.get? b=some o->h'.get? b=some o)(ha:h'.get? a=some (em E z J tb I))(ht:DZ h' tb)(t:Tok):aV K F loc f H {s with heap:=h',toks:=t}/\a5 K.a3 [F.L] f H s.heap f H h':=by
 obtain⟨d0,b0,an,ak,g1,g3,g4,g5⟩:=R.rep.obj i _ _ u ei;have af:∀b o,s.heap.get? b=some o->mN o.cls->b≠a->h'.get? b=some o:=λb o e l ne=>by exact aZ (W b o ne e) λo' T x=>Y T<|Y (x.plain l.nf.1 l.nf.2) rfl
 have fx:cx s.heap h':=λb o e cc=>by
  have ne:b≠a:=λC=>by rw[C,g1]at e;obtain rfl:=aQ e;rcases cc with c|c|c|c|c<;>cases c
  exact aZ (W b o ne e) λo' T x=>Y T<|Y (x.plain (cc.ne "frame"<|by decide)<|cc.ne "traceback"<|by decide) rfl
 have tk:TbKeep s.heap h':=λt D e=>by
  have ne:t≠a:=λC=>by rw[C,g1]at e;cases e
  refine aZ (W t _ ne e) λo' T x=>?_;rcases x with rfl|⟨x,_⟩|⟨us,aj,x,rfl,y⟩;exact a8 D T rfl;exact absurd (e7 x)<|by decide
  injection x with _ _ x _;injection x with x;subst x;exact a8 aj T y
 have aF:a≠F.L:=λC=>R.apart<|by refine Y C.symm ?_;exact ed u ei _<|.head _
 have ag:a≠K.a3:=λC=>R.nZ<|.tail _<|by refine Y C.symm ?_;exact ed u ei _<|.head _
 refine⟨⟨λb o ne e=>kb b o e<|R.base b o ne e,?_,R.tab,R.mods,⟨R.rep.len,λj o p e1 U=>?_,R.rep.nd,R.rep.new⟩,R.gens,R.os,R.stack,R.locals,R.kind,R.glob,R.blt,R.new,R.apart,?_,λenv m=>?_,R.hand⟩,
  ⟨⟨[],by simp⟩,λb o nb e=>W b o (λC=>nb<|.tail _<|gu _<|by refine Y C ?_;exact ed u ei _<|.head _) e,λ_ m=>.inl m,λb nb=>?_⟩⟩
 .obtain⟨N,e,ht,h⟩:=R.lam;refine aZ (W _ _ (gs ag) e) λo' T x=>?_;have:=x.plain (λC=>by cases C) λC=>by cases C
  clear x;subst this;refine⟨N,T,ht,λpos cv q=>?_⟩;clear ht;exact aZ (h pos cv q) λc' U k=>a8 c' U<|k.keep fx
 by_cases ij:j=i;subst ij;rw[u]at e1;rw[ei]at U;obtain rfl:=aQ e1;obtain rfl:=aQ U;exact⟨z,J,tb,I,ha,ai,ht,ah⟩;have r:=R.rep.obj j o p e1 U;have:=r.keep (τ:=[]) fx (λb m ob eb=>by refine aZ (r.cls b m) λal ab l=>?_;rw[eb]at ab;obtain rfl:=aQ ab;exact af b ob eb l λC=>kw R.rep.nd ij e1 U u ei b m<|by refine Y C ?_;exact .head _) tk;rwa [be]at this
 .obtain⟨o,m,e,q,nn,l⟩:=R.loc;refine aZ (W _ _ (gs aF) e) λo' T x=>?_;have aE:=x.data λC=>by rcases q with q|q<;>rw[q]at C<;>exact absurd (e7 C) (by decide)
  refine ea nn λam aa k' ae z r=>?_;rw[e]at ae;obtain rfl:=aQ ae;refine⟨o',m,T,by refine Y aE.2 ?_;exact q,⟨o',aa,k',T,by refine Y aE.1 ?_;exact z,r⟩,?_⟩;have:=l.keep [] fx;rwa [be]at this
 .obtain⟨k,L,o,aa,n',e1,U,e3,e4,e5⟩:=R.out env m;have ne:L≠a:=λC=>by rw[C,g1]at e3;obtain rfl:=aQ e3;cases e4
  refine aZ (W _ _ ne e3) λo' T x=>?_;have aE:=x.data λC=>by rw[e4]at C;exact absurd (e7 C)<|by decide
  exact⟨k,L,o',aa,n',e1,U,T,aE.2.trans e4,aE.1.trans e5⟩
 by_cases C:b=a;refine Y C<|Y ha ?_;simp;rcases e:s.heap.get? b with _|o;exact absurd e nb;refine aZ (W b o C e) λo' T _=>Y T ?_;simp
def iT(h:Heap)(a:Addr):Prop:=∃E k f t j,h.get? a=some (em E k f (.ref t) j)
def aV.frames(R:aV K F loc f H s):s.heap.FunFrames K.h₀ (F.gp::F.outer):=by
 have:=R.out;generalize F.gp::F.outer=l at this;induction l with
 |nil=>trivial|cons env l x=>obtain⟨k,L,o,es,n,e1,h,j,y,u⟩:=this env<|.head _;exact⟨by refine Y k ?_;decide,⟨L,o,e1,h,j,λD C=>by rw[u]at C;cases C⟩,x λe m=>this e<|.tail _ m⟩
theorem aV.frame(R:aV K F loc f H s):∃L,F.gp.frame=some L:=by obtain⟨_,L,_,_,_,e,_⟩:=R.out F.gp<|.head _;exact⟨L,e⟩
def aV.old(R:aV K F loc f H s)(k:eL K.h₀)(e:s.heap.get? t=some o)(c:o.cls=.type "traceback"):K.h₀.get? t=none:=by
 rcases q:K.h₀.get? t with _|ob;rfl
 .exfalso
  by_cases C:t=K.a3;obtain⟨N,h,_⟩:=R.lam;rw[C,h]at e;obtain rfl:=aQ e;cases c;have:=R.base t ob C q;rw[e]at this;obtain rfl:=aQ this;exact k t _ q c
def aV.Rx(R:aV K F loc f H s){i:Nat}(u:H[i]? =some o)(h:f[i]? =some p):∀a∈foot o p,K.h₀.get? a=none:=λa m=>R.rep.new a<|ed u h a m
end
section
variable{K:al}
def Hc:Obj.mapFields (·.setIfInBounds 1 v) (em E d f tb h)=em E d f v h:=rfl
def A7(R:aV K F loc f H s)(k:eL K.h₀){i:Nat}(ei:f[i]? =some (a,d))(u:H[i]? =some (.exc E O c))(he:s.heap.get? a=some (em E x z (.ref t) j))(ab:jE f O x)(aa:jk f c j)(ht:s.heap.get? t=some {cls:=.type "traceback",data:=.fields D})(y:D.size=11)(h:∀J,aV K F loc f H J->a5 K.a3 [F.L] f H s.heap f H J.heap->J.heap.get? a=some (em E x z (.ref t) j)->Q () J):wpAny (model I K.w) A (setField (.ref t) 3 v) Q U s:=by
 refine wpAny_setField ht rfl (aR (a4 y.symm)<|by simp+arith) ?_;have T:t≠a:=λC=>by rw[C,he]at ht;cases ht
 have W:=jr (Obj.mapFields (·.setIfInBounds 3 v)) ht rfl;have N:∀b,b≠t->(s.heap.update t<|Obj.mapFields (·.setIfInBounds 3 v)).get? b=s.heap.get? b:=λb nb=>pk _ _<|gs nb;obtain⟨R',st⟩:=R.note ei u ab aa
  (λb o ne e=>by by_cases C:b=t;clear he h T N;subst C;rw[ht]at e;obtain rfl:=aQ e;exact a8 _ W<|.inr<|.inr ⟨_,_,rfl,rfl,by simp⟩;exact a8 o (by refine Y (N b C) ?_;exact e)<|.inl rfl)
  (λb o e e'=>by refine Y (N b λC=>by rw[C,R.old k ht rfl]at e;exact aW e) ?_;exact e')
  (by refine Y (N a<|gs T) ?_;exact he) (.inr ⟨t,_,rfl,W,by simp[y]⟩) s.toks
 exact h _ R' st<|by show(s.heap.update t _).get? a=_;refine Y (N a<|gs T) ?_;exact he
def CQ(hF:F.env=F.gp)(hA:A.frames=F.A.frames)(R:aV K F loc f H s)(hL:F.env.frame=some L){i:Nat}(ei:f[i]? =some (a,d))(u:H[i]? =some (.exc E O c))(he:s.heap.get? a=some (em E aa ab tb T))(ap:jE f O aa)(ao:jk f c T)(h:∀J,aV K F loc f H J->a5 K.a3 [F.L] f H s.heap f H J.heap->iT J.heap a->Q () J):wpAny (model I K.w) A (do let z<-frameOf F.env;let pl<-entryPlaceOf L y;let b<-EntryCells.newEntry ae z .none (rawInt L) .none pl;setField (.ref a) 1 b) Q U s:=by
 have hl:=R.frames;have al:=R.stack;have aj:=R.out;rw[<-hF]at hl al aj;have aq:a∉(F.env::F.outer).filterMap (·.frame):=λhm=>by refine aS (hl.mem hm) λ_ au=>aZ au λo x ar=>?_;rw[he]at x;obtain rfl:=aQ x;exact ar _ rfl
 refine aX<|wpAny_frameOf_fun (hA.trans al) hl hL λj ah=>aX<|wpAny_entryPlaceOf λpl ak=>?_;unfold EntryCells.newEntry newFields;refine aX<|uT ?_<|ak.sizeOk5 _ _ _ _ _;have ai:j.get? a=some (em E aa ab tb T):=(ah.2.1 a aq).trans he;generalize am:({cls:=.type "traceback",dict:=none,data:=.fields ([ae,.ref L,.none,rawInt L,.none]++(if pl.isEmpty then List.replicate 6 Value.none else pl)).toArray}:Obj)=ot;have af:=b4 ot ai;refine wpAny_setField af rfl (by show 1<6;decide) ?_;have an:j.objs.size≠a:=Nat.ne_of_gt<|Heap.lt_size ai;have ag:=jr (Obj.mapFields (·.setIfInBounds 1 (Value.ref j.objs.size))) af rfl;rw[Hc]at ag;have W:=(pk (j.push ot) (Obj.mapFields (·.setIfInBounds 1 (Value.ref j.objs.size)))<|gs an).trans<|dP j<|by clear af;subst am;rfl
 have keep:∀b o,b≠a->j.get? b=some o->((j.push ot).update a<|Obj.mapFields (·.setIfInBounds 1 (Value.ref j.objs.size))).get? b=some o:=λb o ne e=>by refine Y (pk _ _<|gs ne) ?_;exact b4 _ e
 have fr:∀b,b∈(F.env::F.outer).filterMap (·.frame)->K.h₀.get? b=none/\∃o,s.heap.get? b=some o/\o.cls=.type "frame":=λb m=>by refine aZ (List.mem_filterMap.mp m) λenv me ef=>?_;obtain⟨k,N,o,es,n,e1,e2,e3,e4,e5⟩:=aj env me;rw[e1]at ef;clear m;obtain rfl:=aQ ef;exact⟨e2,o,e3,e4⟩
 have as:∃D,ot={cls:=.type "traceback",data:=.fields D}/\D.size=11:=by clear af ag W keep;subst am;refine a8 _ rfl ?_;rcases ak with rfl|⟨_,_,_,_,_,_,_,rfl⟩<;>simp
 refine aZ as λtv e1 e2=>?_;have W:=W.trans<|az some e1;obtain⟨R',st⟩:=R.note ei u ap ao
  (λb o ne e=>by by_cases m:b∈(F.env::F.outer).filterMap (·.frame);refine aS (fr b m) λ_ av=>aZ av λaw q1 q2=>?_;rw[e]at q1;clear W;obtain rfl:=aQ q1;exact aU (ah.2.2 b o e) λsl hb=>a8 _ (keep b _ ne hb)<|.inr<|.inl ⟨q2,sl,rfl⟩;exact a8 o (keep b _ ne<|(ah.2.1 b m).trans e)<|.inl rfl)
  (λb o e e'=>by
   have m:b∉(F.env::F.outer).filterMap (·.frame):=λm=>by rw[(fr b m).1]at e;exact aW e
   have ne:b≠a:=λC=>by rw[C,R.Rx u ei a<|.head _]at e;exact aW e
   exact keep b _ ne<|(ah.2.1 b m).trans e')
  ag (.inr ⟨_,tv,rfl,W,e2⟩) s.toks
 exact h _ R' st ⟨E,aa,ab,_,T,ag⟩
def rM(T:F.env=F.gp)(W:A.frames=F.A.frames)(R:aV K F loc f H s)(k:eL K.h₀)(x:f[i]? =some (a,d))(ie:hb H i)(h:∀J,aV K F loc f H J->a5 K.a3 [F.L] f H s.heap f H J.heap->iT J.heap a->Q () J):wpAny (model I K.w) A (noteFrame (.ref a) F.env) Q U s:=by obtain⟨E,O,c,u⟩:=ie;obtain⟨dd,a0,tb,cx,z,D,g4,N⟩:=R.rep.obj i _ _ u x;refine aU R.frame λL C=>?_;rw[<-T]at C;unfold noteFrame;simp only[C];refine aX (oq (x:=tb) z rfl rfl ?_);rcases g4 with rfl|⟨t,ts,rfl,ht,y⟩;exact Y (bN (by decide)) (CQ T W R C x u z D N h);refine Y (bZ (show(Value.ref t !=Value.none)=true from by simp)) (aX (oq (x:=ts[3]'(aR (a4 y.symm) (by simp+arith))) ht rfl (Array.getElem?_eq_getElem _) ?_));split;exact aL (h _ R (.refl ..) ⟨E,dd,a0,t,cx,z⟩);exact aX (A7 R k x u z D N ht y λaf aa ab g=>CQ T W aa C x u g D N λJ R' ae j=>h J R' (ab.trans ae λ_ m=>.inl m) j)
def mK(R:aV K F loc f H s)(k:eL K.h₀)(j:f[i]? =some (a,d))(ie:hb H i)(h:∀J,aV K F loc f H J->a5 K.a3 [F.L] f H s.heap f H J.heap->(iT s.heap a->iT J.heap a)->Q () J):wpAny (model I K.w) A (setFlight (.ref a) fr) Q U s:=by obtain⟨E,O,c,u⟩:=ie;obtain⟨N,C,tb,D,x,T,W,g5⟩:=R.rep.obj i _ _ u j;unfold setFlight;refine aX<|oq (x:=tb) x rfl rfl ?_;rcases W with rfl|⟨t,ts,rfl,ht,y⟩;exact Y (bN<|by decide)<|aL<|h _ R (.refl ..) id;exact Y (bZ<|show(Value.ref t !=Value.none)=true from by simp)<|A7 R k j u x T g5 ht y λab z aa g=>h _ z aa λ_=>⟨E,N,C,t,D,g⟩
end
section
open Builtin
structure ft(d:Nat)(c:bh)(F:bG):Prop extends CtxOk d c F where
 im:F.env=F.gp
def fv(K:al)(F:bG)(r:RS)(f:a6)(H:aq)(h:Heap)(res:Result)(J:Shared):Prop:=match res with|.ok z=>cR K F r f H h z J|.error e=>ci K F r f H h e J/\∃a,e=.ref a/\iT J.heap a
structure eW(I:Program)(K:al)(d:Nat)(v:dS):Prop where
 s:∀{F:bG}{c:bh}{loc:Loc}{x:Stmt}{f:a6}{H:aq}{s:Shared},ft d c F->aV K F loc f H s->rX I K F (v.s c x loc H) (exec x F.env) f H s
 wh:∀{F:bG}{c:bh}{loc:Loc}{t:Expr}{b:List Stmt}{f:a6}{H:aq}{s:Shared}{r:RS},ft d c F->aV K F loc f H s->v.wh c t b loc H=some r->
  codeAny (model I K.w) F.A (.whileLoop t b [] F.env) (fv K F r f H s.heap) s
section
variable{K:al}
def ka(O:eW I K d v)(E:ft d c F):∀{loc f H s},aV K F loc f H s->rX I K F (cS v c h loc H) (execs h F.env) f H s:=by
 induction h with
 |nil=>intro loc f H s R r e;exact wpAny_execs_nil<|fl (z:=.next) R (.refl ..) trivial e
 |cons x h N=>
  intro loc f H s R r e;have e:lv (v.s c x loc H) (cS v c h)=some r:=e;revert e;rcases u:v.s c x loc H with _|q;exact aW
  .intro e;refine wpAny_execs_cons<|bX (O.s E R q u) (λj J⟨z,ag,ab,H',eq,k,st,x⟩=>?_) λev J⟨ag,ab,H',i,a,y,eq,k,st,e1,C,D⟩=>?_
   .clear u;subst eq;cases z<;>cases j<;>first|(exact x.elim;done)|skip
    exact(N k).from st e
    .cases e;exact⟨_,_,ab,_,rfl,k,st,trivial⟩
    .cases e;exact⟨_,_,ab,_,rfl,k,st,trivial⟩
    cases e;exact⟨_,_,ab,_,rfl,k,st,x⟩
   clear u;subst eq;cases e;exact⟨ag,ab,_,_,a,y,rfl,k,st,e1,C,D⟩
def SF(R:aV K F loc f H s):interactive F.env=false:=by unfold interactive;exact Y R.kind rfl
def Jx(y:bA I K d v)(E:CtxOk d c F)(R:aV K F loc f H s)(e:ei T v c (.Expr x p) loc H=some r):wpAny (model I K.w) F.A (exec (.Expr x p) F.env) (cR K F r f H s.heap) (ci K F r f H s.heap) s:=by refine iJ e λk e=>wpAny_Expr_any (Sn.ic (.refl ..) (y.e E R) e λa u ab H' J h st _ q j=>fl (z:=.next) h st trivial j) (SF R)<|BY k
def Ir(k:bA I K d v)(W:eW I K d v)(E:ft d c F)(R:aV K F loc f H s)(e:ei T v c (.If t a b p) loc H=some r):wpAny (model I K.w) F.A (exec (.If t a b p) F.env) (cR K F r f H s.heap) (ci K F r f H s.heap) s:=by refine wpAny_If<|Sn.ic (.refl ..) (k.t E.toCtxOk R) e λq u ab H' J h st _ x j=>?_;cases x;rcases q;exact(ka W E h).from st j;exact(ka W E h).from st j
def I5(k:bA I K d v)(E:CtxOk d c F)(R:aV K F loc f H s)(e:ei T v c (.Return x p) loc H=some r):wpAny (model I K.w) F.A (exec (.Return x p) F.env) (cR K F r f H s.heap) (ci K F r f H s.heap) s:=by rcases x with _|x;exact wpAny_Return_none<|fl (z:=.ret .none) R (.refl ..) RV.none e;exact wpAny_Return_some<|Sn.ic (.refl ..) (k.e E R) e λa u ab H' J h st _ q j=>fl (z:=.ret a) h st q j
def RI(G:eM K T)(ak:bA I K d v)(E:CtxOk d c F)(R:aV K F loc f H s)(e:ei T v c (.AugAssign (.Name y q) .Add x p) loc H=some r):wpAny (model I K.w) F.A (exec (.AugAssign (.Name y q) .Add x p) F.env) (cR K F r f H s.heap) (ci K F r f H s.heap) s:=by have k:Sn I K F loc aN (g5 T c loc y H) (loadName F.env y) f H s:=λr e=>(BA G E R e).1;refine wpAny_AugAssign_Name<|Sn.ic (.refl ..) k e λa u ao ai al J aa _ D N=>Sn.ic aa (ak.e E J) N λb w ap aj am U ae ab O C=>?_;have D:=D.at ab J;refine dk C λi h C=>dk C λj hj C=>?_;rw[fA h]at D;rw[fA hj]at O;obtain⟨t,rfl⟩:=D.cG;clear D;obtain⟨t',rfl⟩:=O.cG;refine g8 (zK C) λag H' ah=>?_;clear e N D;subst ah;exact AutoIntOps.iadd_0<|mO E (U.toks _) .int C λan W af=>fl (z:=.next) W (ae.trans af λ_ m=>.inl m) trivial rfl
end
section
variable{R:Result->Shared->Prop}{s:Shared}
def NY{f body env}(h:wpAny (model I w) A (isTrue f env<|eval f env) (λb y=>match b with
    |true=>wpAny (model I w) A (execs body env) (λz u=>match z with|.next|.cont=>codeAny (model I w) A (.whileLoop f body [] env) R u|.brk=>R (.ok .next) u|.ret v=>R (.ok<|.ret v) u) (notedBy (model I w) A env λe J=>R (.error e) J) y
    |false=>R (.ok .next) y)
    (notedBy (model I w) A env λe J=>R (.error e) J) s):codeAny (model I w) A (.whileLoop f body [] env) R s:=by refine pa ?_;show wpAny _ A ((whileTurn f body [] env).onRaise λx=>do noteFrame x env;theTreesLotGoes x) _ _ s;refine wpAny_noted ?_;simp only[whileTurn];refine aX<|bX h (λb y j=>?_) λ_ _ h'=>h';rcases b;simp only[lg,jI]at j⊢;exact aX<|wpAny_execs_nil<|aL j;simp only[if_true]at j⊢;refine aX<|bX j (λz u k=>?_) λ_ _ h'=>h';rcases z with _|_|_|v;exact aL ⟨rfl,k⟩;exact aL k;exact aL ⟨rfl,k⟩;exact aL k
end
section
variable{K:al}
def ci.qU(D:F.env=F.gp)(k:eL K.h₀)(x:ci K F r y f u e s):notedBy (model I K.w) F.A F.env (λe J=>fv K F r y f u (.error e) J) e s:=by obtain⟨l,ab,H',i,a,C,eq,R,st,e1,rfl,h⟩:=x;exact rM D rfl R k e1 h λJ z ae j=>⟨⟨l,ab,H',i,a,C,eq,z,st.trans ae λ_ m=>.inl m,e1,rfl,h⟩,a,rfl,j⟩
def sZ(k:eL K.h₀)(x:fv K F r y f u (.error e) s):cameBackBy (model I K.w) F.A F.env (ci K F r y f u) e s:=by refine aS x λN O=>?_;obtain⟨l,ab,H',i,a,D,eq,R,st,e1,rfl,z⟩:=N;refine aZ O λT h j=>?_;cases h;refine gk j λE d' U t W g=>?_;unfold cameBackBy;exact aX<|oq (x:=.ref t) g rfl rfl<|Y (bN<|by simp)<|mK R k e1 z λJ C ae _=>⟨l,ab,H',i,a,D,eq,C,st.trans ae λ_ m=>.inl m,e1,rfl,z⟩
theorem fv.from(st:a5 K.a3 [F.L] y f u ab H' h')(x:fv K F r ab H' h' res s):fv K F r y f u res s:=by rcases res with e|z;exact⟨x.1.from st,x.2⟩;exact cR.from st x
def yG(k:eL K.h₀)(af:bA I K d v)(W:eW I K d v)(E:ft d c F)(R:aV K F loc f H s)(e:tq v c t b loc H=some r):codeAny (model I K.w) F.A (.whileLoop t b [] F.env) (fv K F r f H s.heap) s:=by
 unfold tq at e;refine NY (bX (Sn.ic (.refl ..) (af.t E.toCtxOk R) e (G:=λq D=>match q with
    |true=>wpAny (model I K.w) F.A (execs b F.env) (λz U=>match z with|.next|.cont=>codeAny (model I K.w) F.A (.whileLoop t b [] F.env) (fv K F r f H s.heap) U|.brk=>fv K F r f H s.heap (.ok .next) U|.ret v=>fv K F r f H s.heap (.ok<|.ret v) U) (notedBy (model I K.w) F.A F.env λe J=>fv K F r f H s.heap (.error e) J) D
    |false=>fv K F r f H s.heap (.ok .next) D) λq u ab H' J R' st _ x h=>?_) (λ_ _ C=>C) λ_ _ C=>C.qU E.im k)
 cases x;rcases q
 .exact fl (z:=.next) R' st trivial h
 .dsimp only at h⊢;revert h;rcases O:cS v c b loc H' with _|q;intro h;cases h
  .intro h;refine bX (ka W E R' q O) (λj D⟨z,ag,N,aa,eq,y,T,x⟩=>?_) λev D⟨ag,N,aa,i,a,dd,eq,y,T,e1,e2,ie⟩=>?_
   .clear O;subst eq;have ae:=st.trans T λ_ m=>.inl m;have again:v.wh c t b ag aa=some r->codeAny (model I K.w) F.A (.whileLoop t b [] F.env) (fv K F r f H s.heap) D:=λe=>fF (W.wh E y e) λ_ _ C=>C.from ae;cases z<;>cases j<;>first|(exact x.elim;done)|skip
    exact again h
    .clear e again;cases h;exact⟨.next,_,N,_,rfl,y,ae,trivial⟩
    exact again h;clear e again;cases h;exact⟨.ret _,_,N,_,rfl,y,ae,x⟩
   clear O;subst eq;clear e;cases h;exact ci.qU E.im k ⟨ag,N,_,_,a,dd,rfl,y,st.trans T λ_ m=>.inl m,e1,e2,ie⟩
def Rf(k:eL K.h₀)(W:eW I K d v)(E:ft d c F)(R:aV K F loc f H s)(e:ei T v c (.While t b [] p) loc H=some r):wpAny (model I K.w) F.A (exec (.While t b [] p) F.env) (cR K F r f H s.heap) (ci K F r f H s.heap) s:=by have e:=e;refine wpAny_While<|fF (W.wh E R e) λres J C=>?_;rcases res with e|z;exact sZ k C;exact C
end
def Ft:entryFor table "proto.unchain"=some Builtin.«proto.unchain»:=entryFor_of_tree<|by kernel_rfl
section
variable{R:Result->Shared->Prop}
def De(j:s.heap.get? a=some o)(hd:o.data=.fields D)(f:D[2]? =some .none)(h:R (.ok<|.ret .none) s):codeAny (model I w) A (.builtin "proto.unchain" ⟨[v,.ref a,k,.bool u],[]⟩) R s:=by refine codeAny_builtin Ft ?_;unfold Builtin.«proto.unchain»;exact aX<|oq j hd f<|Y (bZ<|by decide)<|aL h
def Lh(j:s.heap.get? a=some o)(hd:o.data=.fields D)(f:D[2]? =some (.ref b))(u:s.heap.get? b=some o')(x:o'.data=.fields U)(k:U[2]? =some .none)(z:Value.ref b≠v)(y:b≠a)(h:R (.ok<|.ret .none) s):codeAny (model I w) A (.builtin "proto.unchain" ⟨[v,.ref a,.ref a,.bool false],[]⟩) R s:=by refine codeAny_builtin Ft ?_;unfold Builtin.«proto.unchain»;exact aX<|oq j hd f<|Y (bN<|by simp)<|Y (bN<|by simpa using z)<|Y (bN<|by simpa using y)<|aX<|aL<|aL<|And.intro (Code.quiet_builtin _ (by decide+kernel)) (De u x k h)
end
section
variable{K:al}{T:ct}{H:aq}
def uo(h:jK H i (n+1) (some j)=true):Nat.beq i j=false/\∃E z c,H[j]? =some (.exc E z c)/\jK H i n c=true:=by
 have e:(match Nat.beq i j with|true=>false|false=>match H[j]? with|some (.exc _ _ c)=>jK H i n c|_=>false)=true:=h;revert e;rcases k:Nat.beq i j
 .intro e;rcases f:H[j]? with _|o;rw[f]at e;exact ff e
  .induction o with
   |exc E z c=>rw[f]at e;exact⟨rfl,E,z,c,rfl,e⟩
   |_=>rw[f]at e;exact ff e
 exact ff
def Ks(h:jK H i 0 c=true):c=none:=by rcases c with _|j;rfl;exact ff h
def O'(R:aV K F loc f H s)(ei:f[i]? =some (a,x))(T:f[j]? =some (u,D))(ie:hb H i)(e:jK H i 2 (some j)=true)(h:Q .none s):wpAny (model I K.w) A (runValue<|.builtin "proto.unchain" ⟨[.ref a,.ref u,.ref u,.bool false],[]⟩) Q U s:=by refine wpAny_runValue<|aS (uo e) λap ag=>jZ ag λE z c O e=>?_;obtain⟨dd,a0,tb,cx,N,g3,g4,g5⟩:=R.rep.obj j _ _ O T;rcases c with _|k;rw[show cx=.none from g5]at N;exact De N rfl rfl h;refine bU g5 λak dk J ah=>?_;subst ah;refine aS (uo e) λae ai=>jZ ai λC' am c' aP e=>?_;rw[Ks e]at aP;obtain⟨al,aj,aq,aa,W,an,ao,ab⟩:=R.rep.obj k _ _ aP J;rw[show aa=.none from ab]at W;obtain⟨Ci,fi,ci,y⟩:=ie;refine Lh N rfl rfl W rfl rfl (λC=>?_) (λC=>?_) h;exact qe ae<|R.inj ei (Value.ref.inj C▸J) y aP;have af:=R.inj T (C▸J) O aP;subst af;rw[O]at aP;cases aP
inductive J'(T:ct)(hd:Option Nat)(i:Nat)(H:aq)(r:Nat×aq):Prop|mk (E:Addr) (z ctx:Option Nat) (l:List Addr) (y:H[i]? =some (.exc E z ctx)) (hl:bi E T.sub=some l) (e:mX hd i H (E,z)=some r)
def Sf(e:qI o=some p):∃f,o=.exc p.1 p.2 f:=by
 induction o with
 |exc E z f=>obtain rfl:=aQ e;exact⟨f,rfl⟩
 |_=>exact aW e
def HZ(e:z3 T hd i H=some r):J' T hd i H r:=by refine aK e λo y e=>aK e λp f e=>aK e λl hl e=>aU (Sf f) λh j=>?_;rw[j]at y;exact⟨p.1,p.2,h,l,y,hl,e⟩
inductive GA(hd:Option Nat)(i:Nat)(H:aq)(p:Addr×Option Nat)(r:Nat×aq):Prop|none (h:hd=none) (e:r=(i,H))|same (h:hd=some i) (e:r=(i,H))|add (j:Nat) (h:hd=some j) (n:Nat.beq i j=false) (f:jK H i 2 (some j)=true) (e:r=(i,H.set i (.exc p.1 p.2 (some j))))
def RY(e:mX hd i H p=some r):GA hd i H p r:=by rcases hd with _|j;exact .none rfl (aQ e).symm;have e:(match Nat.beq i j with|true=>some (i,H)|false=>match jK H i 2 (some j)with|true=>some (i,H.set i<|.exc p.1 p.2<|some j)|false=>none)=some r:=e;revert e;rcases h:Nat.beq i j;intro e;revert e;rcases f:jK H i 2 (some j);intro e;exact aW e;intro e;exact .add j rfl h f (aQ e).symm;intro e;exact .same (Y (cd h) rfl) (aQ e).symm
def Uq(R:aV K F loc f H s)(ei:f[i]? =some (a,x))(y:H[i]? =some (.exc E z c))(ej:f[j]? =some (k,u))(h:∀J,aV K F loc f (H.set i<|.exc E z<|some j) J->a5 K.a3 [F.L] f H s.heap f (H.set i<|.exc E z<|some j) J.heap->Q () J):wpAny (model I K.w) A (setField (.ref a) 2<|.ref k) Q U s:=by
 obtain⟨dd,a0,tb,cx,N,g3,T,g5⟩:=R.rep.obj i _ _ y ei;unfold setField updateField;refine aX<|wpAny_load N ?_;dsimp only;refine Y (bZ<|show 2<#[a0,tb,cx,Value.none,Value.bool false,Value.none].size from(by decide:2<6))<|wpAny_update N ?_;have eh:=jr (h:=s.heap) (Obj.mapFields (·.setIfInBounds 2 (Value.ref k))) N rfl;have eo:∀b,b≠a->(s.heap.update a<|Obj.mapFields (·.setIfInBounds 2 (Value.ref k))).get? b=s.heap.get? b:=λb W=>pk _ _<|gs W;obtain⟨R',st⟩:=R.set (h':=s.heap.update a<|Obj.mapFields (·.setIfInBounds 2 (Value.ref k))) s.toks (o:=.exc E z c) (o':=.exc E z<|some j) y ei rfl
  (λb ob W eb=>by refine Y (eo b λC=>W<|by rw[C];exact .head _) ?_;exact eb)
  (λfx=>⟨dd,a0,tb,.ref k,eh,g3,by rcases T with T|⟨t,D,z1,O,z3⟩;exact .inl T;refine .inr ⟨t,D,z1,?_,z3⟩;refine Y (eo t (λC=>by rw[C]at O;dsimp only at N;rw[N]at O;cases O)) ?_;exact O,k,u,ej,rfl⟩)
 exact h _ R' st
def QN(R:aV K F loc f H s)(N:f[i]? =some (a,x))(y:H[i]? =some (.exc E z u))(e:mX F.hd i H (E,z)=some q)(h:∀J,q.1=i->aV K F loc f q.2 J->a5 K.a3 [F.L] f H s.heap f q.2 J.heap->hb q.2 i->U (.ref a) J):wpAny (model I K.w) F.A (raiseNew (.ref a):Sem k) Q U s:=by have hh:=R.hand;unfold raiseNew;refine aX<|wpAny_handled ?_;rcases RY e with⟨hd,e⟩|⟨hd,e⟩|⟨j,hd,aa,W,e⟩;subst e;exact Y (show F.A.handled=none from hh.none hd)<|aX<|aL<|wpAny_throw<|h s rfl R (.refl ..) ⟨E,z,u,y⟩;subst e;unfold eI at hh;rw[hd]at hh;refine bU hh λT dj D O=>?_;rw[N]at D;refine zp (aQ D) λab ae=>?_;subst ab ae;refine Y O ?_;dsimp only;exact Y (bN<|by simp)<|wpAny_throw<|h s rfl R (.refl ..) ⟨E,z,u,y⟩;subst e;unfold eI at hh;rw[hd]at hh;refine bU hh λT dj D O=>Y O ?_;dsimp only;refine aS (uo W) λ_ af=>jZ af λCj fj cj hj _=>?_;have ne:T≠a:=λC=>qe aa<|R.inj N (C▸D) y hj;exact Y (bZ<|by simpa using ne)<|aX<|c9<|O' R N D ⟨E,z,u,y⟩ W<|aX<|Uq R N y D λJ R' st=>wpAny_throw<|h _ rfl R' st ⟨E,z,some j,by exact Y (pn (cc.mp y).1) rfl⟩
section
variable{i:Nat}
def H6(G:TabC K T B)(R:aV K F loc f H s)(D:f[i]? =some (a,u))(y:H[i]? =some (.exc E z j))(hl:bi E T.sub=some l)(h:Q (.ref a) s):wpAny (model I K.w) A (excFromValue (.ref a) k) Q U s:=by obtain⟨W,N,tb,O,x,g3,g4,g5⟩:=R.rep.obj _ _ _ y D;refine aS (G.sub E l hl) λJ _=>?_;have T0:Looks (model I K.w) s.heap (typeOf<|.ref a) (.ref E):=(kL x).andThen .now;have C:=looks_mroIn (M:=model I K.w) (G.In R) J;have j6:Looks (model I K.w) s.heap (isType<|.ref a) false:=(kL x).andThen .now;unfold excFromValue isExcClass;refine aX<|aX<|j6.here<|aL<|Y (bN<|by decide) ?_;unfold isInstance;exact aX<|aX<|T0.here<|C.here<|aL h
def GK(G:TabC K T B)(R:aV K F loc f H s)(x:f[i]? =some (a,k))(y:H[i]? =some (.exc E z j))(hl:bi E T.sub=some l)(h:Q (.ref a) s):wpAny (model I K.w) A (raisedInstance<|.ref a) Q U s:=by obtain⟨N,D,tb,J,C,O,W,g5⟩:=R.rep.obj _ _ _ y x;refine c5 (G.sub E l hl) λ_ k2 _=>?_;have T0:Looks (model I K.w) s.heap (typeOf<|.ref a) (.ref E):=(kL C).andThen .now;have u:=looks_typeIn (M:=model I K.w) (G.In R) k2;unfold raisedInstance;exact aX<|T0.here<|aX<|u.here<|Y (bZ<|by decide)<|aL h
end
def Ky(G:TabC K T B)(ai:bA I K d v)(E:CtxOk d c F)(R:aV K F loc f H s)(e:ei T v c (.Raise (some x) none p) loc H=some r):wpAny (model I K.w) F.A (exec (.Raise (some x) none p) F.env) (cR K F r f H s.heap) (ci K F r f H s.heap) s:=by show wpAny _ F.A (do standAt p;raiseStmt F.env (some<|do let v<-eval x F.env;standAt p;pure v) none) _ _ s;refine aX<|dM ?_;unfold raiseStmt;refine aX<|aX<|Sn.ic (.refl ..) (ai.e E R) e λaA u al ah ag D ab _ q k=>aX<|dM<|aL<|dk k λi ha k=>dk k λaa C k=>?_;rw[iK ha]at q;obtain⟨a,W,rfl,j⟩:=q.ex;obtain⟨J,z,U,l,y,hl,C⟩:=HZ C;obtain⟨dd,a0,tb,cx,g1,_⟩:=D.rep.obj _ _ _ y j;have j6:Looks (model I K.w) ag.heap (isType<|.ref a) false:=(kL g1).andThen .now;refine aX<|aL<|aX<|c9<|H6 G D j y hl ?_;dsimp only;refine aX<|j6.here<|Y (bN<|by decide)<|aX<|GK G D j y hl<|aX<|mK D G.fH j ⟨J,z,U,y⟩ λaj N ae _=>?_;rw[E.hd]at C;refine QN N j y C λak h O af ie=>?_;clear e C;obtain rfl:=aQ k;exact⟨loc,_,_,_,a,W,rfl,O,(ab.trans ae λ_ m=>.inl m).trans af λ_ m=>.inl m,by refine Y h ?_;exact j,rfl,by refine Y h ?_;exact ie⟩
end
def LP{es:List DictEntry}(j:s.heap.get? a=some o)(hd:o.data=.dict es.toArray n)(aP:∀e∈es,∃y t,e.key=.str y t)(aE:(nsFind es.toArray x).isSome=true)(h:∀h'(u:List DictEntry) T,h'.get? a=some {o with data:=.dict u.toArray T}->(∀e∈u,∃y t,e.key=.str y t)->(∀y,y≠x->nsFind u.toArray y=nsFind es.toArray y)->Heap.SameBut a s.heap h'->Q true {s with heap:=h'}):wpAny (model I w) A (nsDel a x) Q U s:=by
 have z:es.toArray.any (·.key.isStr x)=true:=by simp only[nsFind,findBy,Option.isSome_map]at aE;rw[Array.find?_isSome]at aE;refine aZ aE λe he k=>?_;rw[Array.any_eq_true];obtain⟨i,f,rfl⟩:=Array.mem_iff_getElem.mp he;exact⟨i,f,k⟩
 have J:nsHas x o=pure true:=by refine Y nsHas_eq ?_;unfold nsHasByArray;refine Y hd ?_;show(if(es.toArray.any λC=>C.key.isStr x)=true then _ else _)=_;exact Y (bZ z) rfl
 unfold nsDel;refine aX<|wpAny_loadPart j<|Y J<|aX<|aL<|Y (bZ rfl)<|aX<|wpAny_updatePart j<|aL ?_;obtain⟨cl,D,W,E⟩:=o;dsimp only at hd;subst hd;rcases f:es.toArray.findIdx? (·.key.isStr x)with _|i
 .exfalso
  rw[Array.findIdx?_eq_none_iff]at f;rw[Array.any_eq_true]at z;obtain⟨i,N,k⟩:=z;have:=f _<|Array.getElem_mem N;rw[k]at this;exact ff<|this.symm
 .have eq:Obj.dropName x ⟨cl,D,.dict es.toArray n,E⟩=⟨cl,D,.dict (es.eraseIdx i).toArray<|n+1,E⟩:=by refine Y Obj.dropName_eq ?_;simp only[Obj.dropNameByArray,f,List.eraseIdxIfInBounds_toArray]
  have e1:=jr (Obj.dropName x) j<|by exact Y eq rfl
  rw[eq]at e1;refine h _ (es.eraseIdx i) (n+1) e1 (λe he=>aP e<|List.mem_of_mem_eraseIdx he) (λy O=>?_)<|kF ..;have:=nsFind_erase_other f O;rwa [List.eraseIdxIfInBounds_toArray]at this
section
variable{K:al}
def Bu(R:aV K F loc f H s)(aP:aC x F.env.scope.names=some .local)(h:∀J,aV K F (ke x loc) f H J->a5 K.a3 [F.L] f H s.heap f H J.heap->(∀b,b≠F.L->J.heap.get? b=s.heap.get? b)->Q () J):wpAny (model I K.w) A (do bindName F.env x .none;unbindBehindTheSuite F.env x p) Q U s:=by
 have af:F.env.kindOf x=some .local:=by refine Y (kg ..) ?_;exact aP
 obtain⟨oL,m,E,cL,nn,l⟩:=R.loc;refine gP nn λo' es k W N ae hm=>?_;rw[E]at W;obtain rfl:=aQ W;obtain⟨es⟩:=es;refine aX<|qW<|Y (storeName_local af (by rw[R.kind];rfl) ..)<|Y R.locals<|rN E N (λe he=>ae e<|by simpa using he) λj az ai ar=>?_;unfold unbindBehindTheSuite;refine wpAny_onRaise ?_;unfold unbindName;refine aX<|wpAny_point<|aX ?_;unfold deleteName;simp only[af];refine Y (show(F.env.scope.kind==.class||(F.env.scope.kind==.module&&F.env.locals !=F.env.globals))=false from by rw[R.kind];rfl)<|Y (bN<|by decide)<|Y R.locals ?_;have an:=C8 (λe he=>ae e<|by simpa using he) x (PyData.keyHash K.w.params x) s.toks .none;refine aX<|LP (s:={s with heap:=j,toks:=s.toks+1}) ai rfl an (by refine Y (ve ..) ?_;simp) λam aj aq aa ao ak as=>?_;refine Y (bN<|by decide)<|aL<|wpAny_point ?_;have sb:=ar.trans as;obtain⟨R',st⟩:=R.own (ag:=ke x loc) (h':=am) (T:=nsFind aj.toArray) (s.toks+1) E aa sb ⟨_,_,aq,aa,rfl,λe he=>ao e (by simpa using he),λ_=>rfl⟩ λay ap ah fx=>by refine gP ap λaA aw ax ab O _ al=>?_;rw[E]at ab;obtain rfl:=aQ ab;rw[N]at O;refine aS (PySem.Data.dict.inj O) λau av=>?_;subst au av;refine⟨λy z a D=>?_,λy i cy z=>?_⟩;rw[Af]at D;by_cases C:y=x;rw[bZ C]at D;exact aW D;rw[bN C]at D;refine aZ (ah.own y z a D) λu e1 r=>a8 u ?_<|r.py fx;exact Y (ak y C)<|Y (ve ..)<|Y (bN C)<|Y (al y) e1;rw[Af]at z;by_cases C:y=x;rw[bZ C]at z;exact aW z;rw[bN C]at z;exact ah.gR y i cy z
 exact h _ R' st sb.2
end
section
variable{R:Result->Shared->Prop}
def Uv(h:wpAny (model I w) A (setFlight e none) (λ_ j=>wpAny (model I w) A (execs body env) (λz k=>R (.ok z) k) (notedBy (model I w) A env λx k=>R (.error x) k) j) (notedBy (model I w) A env λx j=>R (.error x) j) s):codeAny (model I w) A (.handlers e [.ExceptHandler none none body pos] env) R s:=by refine pa ?_;show wpAny _ A (do return Fin.done (<-(handleWith e env [.ExceptHandler none none body pos]).onRaise (λx=>do noteFrame x env;theTreesLotGoes x))) _ _ s;refine aX<|wpAny_noted ?_;unfold handleWith;exact aX<|dM<|aX<|bX h (λ_ j f=>bX f (λz k u=>aL u) λ_ _ x=>x) λ_ _ x=>x
def Nx(h:wpAny (model I w) A (setFlight e none) (λ_ D=>wpAny (model I w) A (storeName env n e) (λ_ E=> wpAny (model I w) A (execs body env) (λz k=>R (.ok z) k) (λx k=>wpAny (model I w) A (noteFrame x env) (λ_ N=> wpAny (model I w) A (do bindName env n .none;unbindBehindTheSuite env n pos) (λ_ u=>wpAny (model I w) A (PySem.passOn "try.except-as" x env:Sem Flow) (λ_ _=>False) (notedBy (model I w) A env λx J=>R (.error x) J) u) (λy u=>wpAny (model I w) A (setFlight x none) (λ_ W=>(notedBy (model I w) A env λx J=>R (.error x) J) y W) (notedBy (model I w) A env λx J=>R (.error x) J) u) N) (notedBy (model I w) A env λx J=>R (.error x) J) k) E) (notedBy (model I w) A env λx J=>R (.error x) J) D) (notedBy (model I w) A env λx J=>R (.error x) J) s):codeAny (model I w) A (.handlers e [.ExceptHandler none (some n) body pos] env) R s:=by refine pa ?_;show wpAny _ A (do return Fin.done (<-(handleWith e env [.ExceptHandler none (some n) body pos]).onRaise (λx=>do noteFrame x env;theTreesLotGoes x))) _ _ s;refine aX<|wpAny_noted ?_;unfold handleWith;refine aX<|dM<|aX<|bX h (λ_ D f=>?_) λ_ _ x=>x;refine aX<|qW<|bX f (λ_ E O=>?_) λ_ _ x=>x;refine aX<|wpAny_attempt<|bX O (λz k C=>aL<|aL C) λx k C=>aX<|bX C (λ_ N T=>?_) λ_ _ y=>y;refine aX<|c9<|wpAny_onRaise<|bX T (λ_ u U=>?_) λ_ _ y=>y;exact bX U (λ_ _ j=>j.elim) λ_ _ y=>y
end
noncomputable abbrev bG.mk'(F:bG)(i:Nat)(a:Addr):bG:={F with A:=F.A.mark<|some<|.ref a,hd:=some i}
section
variable{K:al}{loc:Loc}
def aV.mark(R:aV K F loc f H s)(j:f[i]? =some (a,h)):aV K (F.mk' i a) loc f H s:=⟨R.base,R.lam,R.tab,R.mods,R.rep,R.gens,R.os,R.stack,R.locals,R.kind,R.glob,R.blt,R.new,R.apart,R.loc,R.out,⟨a,h,j,rfl⟩⟩
def aV.unmark(R:aV K (F.mk' i a) loc f H s)(h:eI f F.hd F.A.handled):aV K F loc f H s:=⟨R.base,R.lam,R.tab,R.mods,R.rep,R.gens,R.os,R.stack,R.locals,R.kind,R.glob,R.blt,R.new,R.apart,R.loc,R.out,h⟩
def eI.more(h:eI f hd v)(st:a5 p L f H h₀ ab H' h'):eI ab hd v:=by refine aU st.ext λτ j=>?_;clear st;subst j;unfold eI at h⊢;split at h;exact h;exact bU h λa d e q=>dZ a d (fI τ e) q
def CtxOk.mark(E:CtxOk d c F)(i)(a):CtxOk d ⟨c.sc,some i,c.lam⟩ (F.mk' i a):=⟨E.sc,rfl,E.room,E.lam⟩
theorem cR.unmark(h:eI k F.hd F.A.handled)(p:cR K (F.mk' i a) r k u f j s):cR K F r k u f j s:=by obtain⟨z,l,ab,H',e,R,st,x⟩:=p;exact⟨z,l,ab,H',e,R.unmark<|h.more st,st,x⟩
theorem ci.unmark(h:eI k F.hd F.A.handled)(p:ci K (F.mk' i a) r k u f e s):ci K F r k u f e s:=by obtain⟨l,ab,H',i,a,d,e1,R,st,x1,j,x⟩:=p;exact⟨l,ab,H',i,a,d,e1,R.unmark<|h.more st,st,x1,j,x⟩
def Bd(u:eL K.h₀)(R:aV K F loc f H s)(D:f[i]? =some (a,y))(N:hb H i)(j:iT s.heap a)(h:∀J,aV K F loc f H J->a5 K.a3 [F.L] f H s.heap f H J.heap->iT J.heap a->U (.ref a) J):wpAny (model I K.w) A (PySem.passOn z (.ref a) F.env:Sem x) Q U s:=by refine gk (id j) λE W O t T g=>?_;unfold PySem.passOn;exact aX<|oq (x:=.ref t) g rfl rfl<|Y (bN<|by simp)<|aX<|mK R u D N λJ C ae k=>wpAny_throw<|h J C ae<|k j
def Sa(e:Dk a=some d):a=.fn d:=by
 induction a using V.casesOn with
 |fn=>exact Y (aQ e) rfl|_=>exact aW e
def Ux(G:TabC K T B)(R:aV K F loc f H s){i:Nat}(ei:f[i]? =some (a,C))(x:H[i]? =some (.exc E y z))(q:RV f s.heap aa u)(e:tV T E aa=some b)(h:Q b s):wpAny (model I K.w) A (excMatches (.ref a) u) Q U s:=by
 refine aK e λj hD e=>aK e λl hl e=>aK e λk O e=>?_;rw[Sa hD]at q;refine Y q.kA ?_;rw[<-aQ e]at h;clear e;obtain⟨dd,a0,tb,cx,g1,g3,g4,g5⟩:=R.rep.obj _ _ _ x ei;refine jF (G.sub E l hl) λ_ _ _ k4=>jF (G.sub j k O) λk1 k2 k3 _=>?_;have X:=G.In R;have T0:Looks (model I K.w) s.heap (typeOf<|.ref a) (.ref E):=(kL g1).andThen .now;have W:=looks_typeIn (M:=model I K.w) X k2;have L2:=looks_subIn (M:=model I K.w) X<|show subIn B (.type "type") (.type "tuple")=some false from by show(fastBuiltinMro "type").map _=_;decide+kernel
 have L3:=looks_mroIn (M:=model I K.w) X k1;have L4:=looks_mroIn (M:=model I K.w) X<|k4 j k O;have j6:Looks (model I K.w) s.heap (isType<|.ref j) true:=by
  refine aU (vz.mp k3) λcd D=>?_;unfold clsIn at D;rcases J:B.lookup j with _|⟨_,_,dt,_⟩;rw[J]at D;exact aW D
  .rw[J]at D;induction dt using Data.casesOn with|cls c=>exact(kL<|X _ _ J).andThen .now|_=>exact aW D
 unfold excMatches isInstance isExcClass;refine aX<|aX<|W.here<|L2.here<|aX<|aL ?_;dsimp only;refine aX<|Y (hY ..)<|aX<|aX<|aX<|j6.here<|Y (bZ rfl)<|L3.here<|Y (bN<|by decide)<|aL ?_;dsimp only;refine Y jC<|aL<|aX<|T0.here<|aX<|Y (hY ..)<|aX<|aX<|L4.here ?_;rcases N:l.any (Nat.beq j);rw[N]at h;refine Y (bN<|by decide)<|aL ?_;dsimp only;exact Y jC<|aL<|aL h;rw[N]at h;exact Y (bZ rfl)<|aL<|aL<|aL h
end
section
variable{I:Program}{K:al}{F:bG}{loc:Loc}
theorem p4.at(st:a5 K.a3 [F.L] f H s.heap ab H' h')(R:aV K F loc f H s)(q:p4 f s.heap z j):p4 ab h' z j:=by cases z<;>cases j<;>first|exact q|exact RV.at st R q
def aV.UB(R:aV K F loc f H s)(j:f[i]? =some (a,h))(k:hb H i):a≠F.L:=λC=>by obtain⟨E,fs,c,hi⟩:=k;exact R.apart<|by refine Y C.symm ?_;exact ed hi j _<|.head _
def iT.keep(j:iT h a)(e:h'.get? a=h.get? a):iT h' a:=by exact gk j λE d f t k g=>⟨E,d,f,t,k,e.trans g⟩
def RJ(a):(Value.ref a)≠byPass:=λq=>by cases q
def Bs(f:F.env=F.gp)(y:eL K.h₀)(h:eI u F.hd F.A.handled)(p:ci K (F.mk' i a) r u D N e s):notedBy (model I K.w) (F.mk' i a).A F.env (λe J=>cameBackBy (model I K.w) F.A F.env (ci K F r u D N) e J) e s:=by refine bX (ci.qU f y p) (λ_ J C=>?_) λe J C=>?_;exact sZ y ⟨C.1.unmark h,C.2⟩;exact sZ y ⟨C.1.unmark h,C.2⟩
section
variable{a:Addr}{pos:Pos}
def I6(e:wN k=true):k=.local:=by
 induction k with
 |«local»=>rfl|_=>exact ff e
def Iw(h₀:eI u F.hd F.A.handled)(aP:aC x F.env.scope.names=some .local)(p:cR K (F.mk' i a) q u D N z s):wpAny (model I K.w) F.A (do bindName F.env x .none;unbindBehindTheSuite F.env x pos) (λ_ s=>cR K F (lB x q) u D N z s) (ci K F (lB x q) u D N) s:=by obtain⟨C,l,ab,H',eq,k,h,E⟩:=p;subst eq;have f:=k.unmark<|h₀.more h;exact Bu f aP λJ y j _=>⟨C,_,_,_,rfl,y,h.trans j λ_ m=>.inl m,E.at j f⟩
def Jq(G:TabC K T B)(E:ft d c F){ev:Value}(h₀:eI u F.hd F.A.handled)(aP:aC x F.env.scope.names=some .local)(p:ci K (F.mk' i a) q u D N ev s):wpAny (model I K.w) (F.mk' i a).A (noteFrame ev F.env) (λ_ aj=> wpAny (model I K.w) (F.mk' i a).A (do bindName F.env x .none;unbindBehindTheSuite F.env x pos) (λ_ z=>wpAny (model I K.w) (F.mk' i a).A (PySem.passOn "try.except-as" ev F.env:Sem Flow) (λ_ _=>False) (notedBy (model I K.w) (F.mk' i a).A F.env λf J=>cameBackBy (model I K.w) F.A F.env (ci K F (lB x q) u D N) f J) z) (λy z=>wpAny (model I K.w) (F.mk' i a).A (setFlight ev none) (λ_ O=>(notedBy (model I K.w) (F.mk' i a).A F.env λf J=>cameBackBy (model I K.w) F.A F.env (ci K F (lB x q) u D N) f J) y O) (notedBy (model I K.w) (F.mk' i a).A F.env λf J=>cameBackBy (model I K.w) F.A F.env (ci K F (lB x q) u D N) f J) z) aj) (notedBy (model I K.w) (F.mk' i a).A F.env λf J=>cameBackBy (model I K.w) F.A F.env (ci K F (lB x q) u D N) f J) s:=by obtain⟨l,ab,H',k,b,db,eq,U,af,h,rfl,j⟩:=p;subst eq;exact rM (F:=F.mk' i a) E.im rfl U G.fH h j λz C ag ae=>Bu (F:=F.mk' i a) C aP λO W ah kk=>Bd (F:=F.mk' i a) G.fH W h j (ae.keep<|kk b<|C.UB h j) λal aa ai ak=>Bs E.im G.fH h₀ ⟨_,_,_,_,b,db,rfl,aa,((af.trans ag λ_ m=>.inl m).trans ah λ_ m=>.inl m).trans ai λ_ m=>.inl m,h,rfl,j⟩
def E0(k:Flow->Shared->Prop)(U:Value->Shared->Prop):Except Value Flow->Shared->Prop|.ok z=>k z|.error x=>U x
def Bt(I:Program)(K:al)(F:bG)(U:Value->Shared->Prop)(pos:Pos)(k:Shared->Prop):Option Str->Shared->Prop|none=>k|some n=>wpAny (model I K.w) F.A (do bindName F.env n .none;unbindBehindTheSuite F.env n pos) (λ_=>k) U
def RW(G:TabC K T B)(W:eW I K d v)(E:ft d c F)(h₀:eI u F.hd F.A.handled)(J:f[i]? =some (a,h))(ie:hb H i)(R:aV K (F.mk' i a) loc f H s)(st:a5 K.a3 [F.L] u D N f H s.heap)(e:uW v c i nm body loc H=some r):codeAny (model I K.w) (F.mk' i a).A (.handlers (.ref a) [.ExceptHandler none nm body pos] F.env) (E0 (λz=>Bt I K F (ci K F r u D N) pos (cR K F r u D N z) nm)<|cameBackBy (model I K.w) F.A F.env<|ci K F r u D N) s:=by
 have y:=E.toCtxOk.mark i a;have U:ft d ⟨c.sc,some i,c.lam⟩ (F.mk' i a):=⟨y,E.im⟩;rcases nm with _|x;refine Uv (mK R G.fH J ie λaf C O _=>?_);have j:=st.trans O λ_ m=>.inl m;exact bX (ka W U C r e) (λ_ _ p=>cR.unmark h₀<|cR.from j p) λ_ _ p=>Bs E.im G.fH h₀<|ci.from j p
 .refine dk e λk aP e=>iJ e λhl e=>dk e λq em e=>?_;obtain rfl:=aQ e;rw[I6 hl]at aP;have aP:=E.kn aP<|by decide
  refine Nx<|mK R G.fH J ie λaf C O _=>?_;have j:=st.trans O λ_ m=>.inl m;refine mO (F:=F.mk' i a) y C (.ref J) (ur y ((kg x F.env).trans aP) _ _) λag ab ae=>?_;have aa:=j.trans ae λ_ m=>.inl m;exact bX (ka W U ab q em) (λ_ _ p=>Iw h₀ aP<|cR.from aa p) λ_ _ p=>Jq G E h₀ aP<|ci.from aa p
def RF(G:TabC K T B)(Gg:eM K T)(E:ft d c F)(W:f[i]? =some (a,J))(hi:H[i]? =some (.exc k fs D))(R:aV K F loc f H s)(en:lG T ⟨c.sc,some i,c.lam⟩ loc y H=some aa)(ec:tV T k aa=some b)(ht:b=true->codeAny (model I K.w) (F.mk' i a).A (.handlers (.ref a) [.ExceptHandler none nm body pos] F.env) (E0 (λz=>Bt I K F U pos (Q z) nm)<|cameBackBy (model I K.w) F.A F.env U) s)(j:b=false->wpAny (model I K.w) F.A (handleBy (.ref a) F.env O) Q U s):wpAny (model I K.w) F.A (handleBy (.ref a) F.env<|.ExceptHandler (some<|.Name y N) nm body pos::O) Q U s:=by
 refine wpAny_handleBy_cons (codeAny_handlers_test<|wpAny_Name (DF (F:=F.mk' i a) (A:=(F.mk' i a).A) Gg (E.toCtxOk.mark i a) (R.mark (F:=F) W) en λu qD=>Ux G R W hi qD ec ?_)<|Fg en)<|RJ a;rcases b;exact j rfl
 .rcases nm with _|x;exact fF (ht rfl) λC _ h=>by cases C<;>exact h
  exact fF (ht rfl) λC _ h=>by cases C<;>exact h
def Qd(G:TabC K T B)(Gg:eM K T)(W:eW I K d v)(E:ft d c F)(h₀:eI u F.hd F.A.handled)(U:f[i]? =some (a,z))(hi:H[i]? =some (.exc k fs x))(O)(R:aV K F loc f H s)(j:iT s.heap a)(st:a5 K.a3 [F.L] u D N f H s.heap)(e:rg T v c i k O loc H=some r):wpAny (model I K.w) F.A (handleBy (.ref a) F.env O) (cR K F r u D N) (ci K F r u D N) s:=by
 have ie:hb H i:=⟨k,fs,x,hi⟩;induction O with
 |nil=>obtain rfl:=aQ e;exact wpAny_handleBy_nil<|Bd G.fH R U ie j λJ R' ae ag=>⟨loc,f,H,i,a,z,rfl,R',st.trans ae λ_ m=>.inl m,U,rfl,ie⟩
 |cons h O ih=>obtain⟨ty,nm,body,pos⟩:=h;refine dk e λt ab e=>?_;subst ab;refine dk e λy hy e=>aU (rh hy) λyp af=>?_;clear hy;subst af;exact dk e λaa en e=>dk e λb ec e=>RF G Gg E U hi R en ec (λC=>RW G W E h₀ U ie (R.mark U) st<|by rw[C]at e;exact e) λC=>ih<|by rw[C]at e;exact e
end
def Ju(e:rR T v c O i l H o=some r):∃E fs f,o=some (.exc E fs f)/\rg T v c i E O l H=some r:=by
 rcases o with _|o;exact aW e
 .induction o with|exc E fs f=>exact u7 E fs f rfl e|_=>exact aW e
def HR(G:TabC K T B)(Gg:eM K T)(W:eW I K d v)(E:ft d c F)(R:aV K F loc f H s)(e:ei T v c (.Try b (h::O) [] [] p) loc H=some r):wpAny (model I K.w) F.A (exec (.Try b (h::O) [] [] p) F.env) (cR K F r f H s.heap) (ci K F r f H s.heap) s:=by
 have y:=G.fH;have e:vV T v c (h::O) (cS v c b loc H)=some r:=e;revert e;rcases D:cS v c b loc H with _|q;exact aW
 .intro e;refine wpAny_Try_except<|bX (ka W E R q D) (λj U⟨z,l,ab,H',eq,u,J,x⟩=>?_) λev U⟨l,ab,H',i,a,d',eq,u,J,C,ea,N⟩=>?_
  .clear D;subst eq;obtain rfl:=aQ e;have:cR K F (.ok z l H') f H s.heap j U:=⟨z,l,ab,H',rfl,u,J,x⟩;cases z<;>cases j<;>first|(exact x.elim;done)|exact wpAny_execs_nil this|exact this
  clear D;subst eq ea;exact rM E.im rfl u y C N λaj aa ag af=>mK aa y C N λak ae ah k=>jZ (Ju e) λCc fs ai hi e=>Qd G Gg W E R.hand C hi _ ae (k af) ((J.trans ag λ_ m=>.inl m).trans ah λ_ m=>.inl m) e
end
def jm(v:Value):Prop:=∃n,v=.type n/\(n="list_iterator"\/n="tuple_iterator"\/n="range_iterator"\/n="str_ascii_iterator"\/n="str_iterator")
def jm.ne(c:jm v)(u)(h:(["list_iterator","tuple_iterator","range_iterator","str_ascii_iterator","str_iterator"].contains u)=false):v≠.type u:=by intro e;refine aZ c λn f c=>?_;rw[e]at f;obtain rfl:=PySem.Value.type.inj f;rcases c with rfl|rfl|rfl|rfl|rfl<;>exact absurd h (by decide)
def jm.led(c:jm v)(l:mN v):False:=by rcases l with l|l|l|⟨E,l⟩;exact c.ne "list" (by decide) l;exact c.ne "dict" (by decide) l;exact c.ne "cell" (by decide) l;refine aZ c λn e _=>?_;rw[l]at e;cases e
def jm.fix(c:jm v)(l:ki v):False:=by rcases l with l|l|l|l|l;exact c.ne "tuple" (by decide) l;exact c.ne "method" (by decide) l;exact c.ne "range" (by decide) l;exact c.ne "function" (by decide) l;exact c.ne "code" (by decide) l
section
variable{K:al}{loc:Loc}
def aV.pf(R:aV K F loc f H s)(t:Tok)(e:s.heap.get? x=some o)(c:jm o.cls)(u:K.h₀.get? x=none)(E:∀b ob,b≠x->s.heap.get? b=some ob->h'.get? b=some ob):aV K F loc f H {s with heap:=h',toks:=t}:=by
 have fx:cx s.heap h':=λb ob z cb=>E b ob (λC=>by rw[C,e]at z;obtain rfl:=aQ z;exact c.fix cb) z;have ab:K.a3≠x:=λC=>by obtain⟨N,y,_⟩:=R.lam;rw[C,e]at y;clear e;obtain rfl:=aQ y;refine aZ c λn q _=>?_;cases q
 have T:F.L≠x:=λC=>by obtain⟨o',_,y,q,_⟩:=R.loc;rw[C,e]at y;obtain rfl:=aQ y;rcases q with q|q;exact c.ne "frame" (by decide) q;exact c.ne "dict" (by decide) q
 refine⟨λb ob ne z=>E b ob (λC=>by rw[C,u]at z;exact aW z)<|R.base b ob ne z,?_,R.tab,R.mods,⟨R.rep.len,λj o p e1 I=>?_,R.rep.nd,R.rep.new⟩,R.gens,R.os,R.stack,R.locals,R.kind,R.glob,R.blt,R.new,R.apart,?_,λenv m=>?_,R.hand⟩;obtain⟨N,y,ht,h⟩:=R.lam;refine⟨N,E _ _ ab y,ht,λpos cv q=>?_⟩;exact aZ (h pos cv q) λc' I k=>a8 c' I<|k.keep fx;have r:=R.rep.obj j o p e1 I;have:=r.keep (τ:=[]) fx (λb m ob z=>E b ob (λC=>by refine aZ (r.cls b m) λaf W l=>?_;rw[C,e]at W;obtain rfl:=aQ W;exact c.led l) z) λt D O=>⟨D,E _ _ (λC=>by rw[C,e]at O;clear e;obtain rfl:=aQ O;exact c.ne "traceback" (by decide) rfl) O,rfl⟩;rwa [be]at this;obtain⟨o',m,y,q,⟨ae,es,k,aa,dd,r⟩,l⟩:=R.loc;refine⟨o',m,E _ _ T y,q,⟨ae,es,k,E _ _ T aa,dd,r⟩,?_⟩;have:=l.keep [] fx;rwa [be]at this;obtain⟨k,L,o',es,n,e1,I,J,U,e5⟩:=R.out env m;exact⟨k,L,o',es,n,e1,I,E _ _ (λC=>by rw[C,e]at J;obtain rfl:=aQ J;exact c.ne "frame" (by decide) U) J,U,e5⟩
def a5.pf(st:a5 p L y u k f H h)(j:k.get? z=none)(E:∀b ob,b≠z->h.get? b=some ob->h'.get? b=some ob):a5 p L y u k f H h':=by refine⟨st.ext,λa o D e=>?_,st.new,λa D C=>?_⟩;exact aZ (st.keep a o D e) λo' I x=>a8 o' (E _ _ (λC=>by rw[C,j]at e;exact aW e) I) x;rcases q:h.get? a with _|ob;exact st.live a D q;rw[E a ob (λC=>D<|by refine Y C ?_;exact j) q]at C;exact aW<|C.symm
end
def e4(f:a6)(h:Heap)(aY:V)(k:Nat)(u:Addr):Prop:=match aY with|.str x=>x.length<=lim/\∃t,h.IsStrIter u "str_ascii_iterator" (tx x) t k\/h.IsStrIter u "str_iterator" (tx x) t k|.tup l=>∃t D,PyProof.Rows.IsTupIter h u t k/\h.get? t=some (ir D)/\aT f h l D|.an lo j=>IsRangeIter h u (lo+k) (j-lo-k) 1\/(j<=lo+k/\∃x left,IsRangeIter h u x left 1/\left<=0)|.ref r=>∃a d,f[r]? =some (a,d)/\h.IsListIter u a k|_=>False
def e4.obj(x:e4 f h aY k j):∃o,h.get? j=some o/\jm o.cls:=by
 cases aY<;>try(exact x.elim)
 obtain⟨_,t,⟨o,e,c,_⟩|⟨o,e,c,_⟩⟩:=x;exact a8 o e ⟨_,c,by simp⟩;exact a8 o e ⟨_,c,by simp⟩;exact bU x λt D u _=>dD u λo e c _=>a8 o e ⟨_,c,by simp⟩;exact bU x λa d _ y=>dD y λo e c _=>a8 o e ⟨_,c,by simp⟩;rcases x with x|⟨_,_,_,x,_⟩;exact a8 _ x ⟨_,rfl,by simp⟩;exact a8 _ x ⟨_,rfl,by simp⟩
section
variable{K:al}
def e4.move(x:e4 f h aY k u)(e:h'.get? u=h.get? u)(τ)(es:ab=f++τ)(fx:cx h h'):e4 ab h' aY k u:=by
 subst es;cases aY<;>try(exact x.elim)
 refine aS x λhl I=>aU I λt x=>⟨hl,t,?_⟩;rcases x with⟨o,z,c,y⟩|⟨o,z,c,y⟩;exact .inl ⟨o,e.trans z,c,y⟩;exact .inr ⟨o,e.trans z,c,y⟩;exact e6 x λt D J E j=>dD J λo z c y=>⟨t,D,⟨o,e.trans z,c,y⟩,fx _ _ E<|.inl rfl,j.keep τ fx⟩;exact bU x λa d C N=>dD N λo z c y=>⟨a,d,fI τ C,o,e.trans z,c,y⟩;rcases x with x|⟨aE,a,b,x,l⟩;exact .inl<|e.trans x;exact .inr ⟨aE,a,b,e.trans x,l⟩
theorem e4.at(x:e4 f s.heap aY k h)(st:a5 K.a3 [F.L] f H s.heap ab H' h')(R:aV K F loc f H s):e4 ab h' aY k h:=by
 refine aZ x.obj λo e c=>aU st.ext λτ es=>x.move ?_ τ es<|st.fx R;refine Y e<|st.keep.plain (λm=>?_) e (c.ne "frame"<|by decide)<|c.ne "traceback"<|by decide
 rcases bC.mp m with m|m;obtain⟨N,j,_⟩:=R.lam;rw[m,j]at e;clear m;obtain rfl:=aQ e;refine aZ c λn q _=>?_;cases q;rcases d0.mp m with m|m;obtain⟨o',_,j,q,_⟩:=R.loc;rw[b9.mp m,j]at e;clear m;obtain rfl:=aQ e;rcases q with q|q;exact c.ne "frame" (by decide) q;exact c.ne "dict" (by decide) q;refine aZ (R.rep.cls m) λo' j l=>?_;rw[j]at e;clear m;obtain rfl:=aQ e;exact c.led l
end
section
variable{R:Result->Shared->Prop}{s:Shared}
def HJ{j f body env}(h:wpAny (model I w) A (pyNext f) (λr y=>match r with
   |none=>R (.ok .next) y
   |some v=>wpAny (model I w) A (letOwnedTupleGo j f v) (λ_ C=>
     wpAny (model I w) A (assign j env v) (λ_ D=>wpAny (model I w) A (execs body env) (λz u=>match z with|.next|.cont=>codeAny (model I w) A (.forLoop j f body [] env) R u|.brk=>R (.ok .next) u|.ret v=>R (.ok<|.ret v) u) (notedBy (model I w) A env λe J=>R (.error e) J) D) (notedBy (model I w) A env λe J=>R (.error e) J) C) (notedBy (model I w) A env λe J=>R (.error e) J) y) (notedBy (model I w) A env λe J=>R (.error e) J) s):
  codeAny (model I w) A (.forLoop j f body [] env) R s:=by refine pa ?_;show wpAny _ A ((forTurn j f body [] env).onRaise λx=>do noteFrame x env;theTreesLotGoes x) _ _ s;refine wpAny_noted ?_;simp only[forTurn];refine aX<|dM<|aX<|wpAny_onRaise<|bX h (λr y E=>?_) λ_ _ h'=>dM h';rcases r with _|v;exact aL ⟨rfl,codeAny_block<|wpAny_execs_nil E⟩;refine aX (bX E (λ_ C N=>?_) λ_ _ h'=>h');refine aX<|bX N (λ_ D O=>aX<|bX O (λz u k=>?_) λ_ _ h'=>h') λ_ _ h'=>h';rcases z with _|_|_|v;exact aL ⟨rfl,k⟩;exact aL k;exact aL ⟨rfl,k⟩;exact aL k
def EA(e:s.heap.get? f=some o)(c:jm o.cls)(h:Q () s):wpAny (model I w) A (letOwnedTupleGo (.Tuple es k p) (.ref f) v) Q U s:=by
 induction v with
 |ref a=>
  refine aX<|wpAny_load e<|aZ c λn j c=>Y j ?_;induction o.data with
  |fields D=>dsimp only;refine Y (bN ?_)<|aL h;rcases c with rfl|rfl|rfl|rfl|rfl<;>simp
  |_=>exact aL h
 |_=>exact aL h
def Dd(e:s.heap.get? f=some o)(c:jm o.cls)(h:Q () s):wpAny (model I w) A (letOwnedTupleGo j (.ref f) v) Q U s:=by
 induction j using Expr.casesOn with
 |Tuple=>exact EA e c h|List _ p=>exact EA (es:=[]) (k:=0) (p:=p) e c h|_=>exact aL h
end
section
variable{K:al}
def l1(R:aV K F loc f H s):K.h₀.get? s.heap.objs.size=none:=by rcases q:K.h₀.get? s.heap.objs.size with _|o;rfl;by_cases C:s.heap.objs.size=K.a3;exact absurd C<|R.hP<|ej _;have:=R.base _ o C q;rw[ej]at this;exact aW this
def Lk(e:(match o with|some (au.list _)=>true|_=>false)=true):∃l,o=some (.list l):=by
 rcases o with _|o;exact ff e
 .induction o with|list l=>exact⟨l,rfl⟩|_=>exact ff e
def Np{k:Nat}(e:(match o with|some (au.list l)=>some l[k]? |_=>none)=some r):∃l,o=some (.list l)/\r=l[k]? :=by
 rcases o with _|o;exact aW e
 .induction o with|list l=>exact⟨l,rfl,(aQ e).symm⟩|_=>exact aW e
def Fa(lo j):Builtin.Range.rangeSize lo j 1=if lo<j then j-lo else 0:=by unfold Builtin.Range.rangeSize;refine Y (bZ<|by decide) ?_;split;rw[Int.ediv_one,Int.sub_add_cancel];rfl
def n3(f:-4611686018427387905<=x)(h:x<9223372036854775808):Builtin.Range.rangeFitsLong x=true:=by unfold Builtin.Range.rangeFitsLong;rw[ik<|qF (by decide) f,ik<|tz h<|by decide];rfl
def TR{lo:Int}(h:-(4611686018427387904+1)<lo/\lo<4611686018427387904)(f:-(4611686018427387904+1)<j/\j<4611686018427387904):Builtin.Range.small lo j 1=true:=by
 unfold Builtin.Range.small;rw[Fa,n3 (tE h.1)<|k' h.2<|by decide,n3 (tE f.1)<|k' f.2<|by decide,n3 (by decide)<|by decide];have k:=n3 (tE f.1)<|k' f.2<|by decide
 by_cases q:lo<j;rw[bZ q,n3 (qF (by decide)<|tE<|Int.sub_pos_of_lt q)<|tz (Int.sub_lt_sub_of_lt_of_le f.2<|Int.add_one_le_of_lt h.1)<|by decide,bZ (show(1:Int)>0 by decide),show j+((1:Int)-1)=j from Int.add_zero j,k,qN];rfl;rw[bN q,n3 (by decide)<|by decide];rfl
set_option tactic.hygienic true in
def CK(R:aV K F loc f H s)(q:RV f s.heap aY u)(e:eN aY H=true)(h:∀o,e4 f (s.heap.push o) aY 0 s.heap.objs.size->Q (.ref s.heap.objs.size) {s with heap:=s.heap.push o}):wpAny (model I K.w) A (pyIter u) Q U s:=by
 cases q<;>try exact ff e
 rename_i x t aE;rcases N:(tx x).cps.all (·<128);exact wpAny_pyIter_wide N<|h _ ⟨aE,t,.inr ⟨_,dP _ rfl,rfl,rfl⟩⟩;exact wpAny_pyIter_ascii N<|h _ ⟨aE,t,.inl ⟨_,dP _ rfl,rfl,rfl⟩⟩;rename_i l a D C T y;have fx:cx s.heap (s.heap.push {cls:=.type "tuple_iterator",data:=.fields #[.ref a,.int 0 0]}):=λb o e _=>b4 _ e;exact PyProof.Rows.iter_tuple (show IsTup s.heap a D.toArray from⟨_,C,rfl,_,rfl⟩)<|h _ ⟨a,D,⟨_,dP _ rfl,rfl,rfl⟩,b4 _ C,y.fx fx⟩;rename_i i a O J;have e:=e;obtain⟨l,hl⟩:=Lk e;obtain⟨D,n,C,T,y⟩:=R.isList hl J;exact wpAny_pyIter_list (show s.heap.IsList a D.toArray from⟨_,C,rfl,_,rfl⟩)<|h _ ⟨a,O,J,_,dP _ rfl,rfl,rfl⟩;rename_i lo j a t k z C;have e:=cY.mp<|show(dd lo&&dd j)=true from e;refine wpAny_pyIter_range C (TR (rJ e.1)<|rJ e.2)<|h _ ?_;refine Y (Fa lo j) ?_;by_cases E:lo<j;refine Y (bZ E) (.inl ?_);have:=dP s.heap (o:={cls:=.type "range_iterator",data:=.fields #[rawInt lo,rawInt<|j-lo,rawInt 1]}) rfl;exact Y (show lo+((0:Nat):Int)=lo by simp+arith)<|Y (show j-lo-((0:Nat):Int)=j-lo by simp+arith) this;refine Y (bN E)<|.inr ⟨qF (iR.mp E)<|Int.le_of_eq (Int.add_zero lo).symm,lo,0,dP _ rfl,by decide⟩
set_option tactic.hygienic true in
def CH(hh:A.handled=none)(R:aV K F loc f H s)(x:e4 f s.heap aY k aa)(hn:K.h₀.get? aa=none)(O:E.get? aa=none)(st:a5 K.a3 [F.L] N z E f H s.heap)(e:dI aY k H=some res)(h0:res=none->∀J,aV K F loc f H J->a5 K.a3 [F.L] N z E f H J.heap->(∀b ob,b≠aa->s.heap.get? b=some ob->J.heap.get? b=some ob)->Q none J)(h:∀a u J,res=some a->aV K F loc f H J->a5 K.a3 [F.L] N z E f H J.heap->(∀b ob,b≠aa->s.heap.get? b=some ob->J.heap.get? b=some ob)->RV f J.heap a u->e4 f J.heap aY (k+1) aa->Q (some u) J):wpAny (model I K.w) A (pyNext<|.ref aa) Q U s:=by
 refine aZ x.obj λo eo c=>?_;have go:∀(h':Heap)(t:Tok),(∀b ob,b≠aa->s.heap.get? b=some ob->h'.get? b=some ob)->aV K F loc f H {s with heap:=h',toks:=t}/\a5 K.a3 [F.L] N z E f H h'/\cx s.heap h':=λh' t W=>⟨R.pf t eo c hn W,st.pf O W,λb ob eb cb=>W b ob (λC=>by rw[C,eo]at eb;obtain rfl:=aQ eb;exact c.fix cb) eb⟩;have af:∀h',Heap.ExtBut aa s.heap h'->res=none->Q none {s with heap:=h'}:=λh' he hr=>by exact c5 (go h' s.toks he) λR' ae _=>h0 hr _ R' ae he
 cases aY<;>try(exact x.elim)
 .rename_i x';refine aS x λhl ah=>aU ah λt x=>?_;have e:res=(match x'[k]? with|some c=>some (V.str [c])|none=>none):=(aQ e).symm;rcases aP:x'[k]? with _|ch
  .have ab:(tx x').cps[k]? =none:=by simpa using aP
   rw[aP]at e;rcases x with x|x;exact wpAny_pyNext_ascii_end hh x ab λh' he=>af h' he e;exact wpAny_pyNext_wide_end hh x ab λh' he=>af h' he e
  .have ab:(tx x').cps[k]? =some ch:=by simpa using aP
   rw[aP]at e;rcases x with x|x;refine wpAny_pyNext_ascii_item x ab λh' j sb=>?_;have W:∀b ob,b≠aa->s.heap.get? b=some ob->h'.get? b=some ob:=λb ob nb eb=>(sb.2 b nb).trans eb;exact c5 (go h' (s.toks+1) W) λR' ae fx=>h _ _ _ e R' ae W (.str<|show(1:Nat)<=lim by decide) ⟨hl,t,.inl j⟩;refine wpAny_pyNext_wide_item x ab λh' j sb=>?_;have W:∀b ob,b≠aa->s.heap.get? b=some ob->h'.get? b=some ob:=λb ob nb eb=>(sb.2 b nb).trans eb;exact c5 (go h' (s.toks+1) W) λR' ae fx=>h _ _ _ e R' ae W (.str<|show(1:Nat)<=lim by decide) ⟨hl,t,.inr j⟩
 .rename_i l;refine e6 x λt D x et y=>?_;have e:res=l[k]? :=(aQ e).symm;have T:IsTup s.heap t D.toArray:=⟨_,et,rfl,_,rfl⟩;rcases aP:l[k]? with _|a
  .have ab:D.toArray[k]? =none:=by refine Y sh ?_;rw[List.getElem?_eq_none_iff]at aP⊢;exact Y y.length aP
   exact PyProof.Rows.next_tuple_end hh x T ab λh' he=>af h' he<|e.trans aP
  refine aZ (pO y aP) λu eu qu=>PyProof.Rows.next_tuple_item x T eu λh' j sb=>?_;have W:∀b ob,b≠aa->s.heap.get? b=some ob->h'.get? b=some ob:=λb ob nb eb=>(sb.2 b nb).trans eb;exact c5 (go h' s.toks W) λR' ae fx=>h _ _ _ (e.trans aP) R' ae W (qu.fx fx) ⟨t,D,j,fx _ _ et<|.inl rfl,y.fx fx⟩
 .rename_i r;refine bU x λa d' ea x=>?_;have e:(match H[r]? with|some (au.list l)=>some l[k]? |_=>none)=some res:=e;refine aZ (Np e) λl hl e=>?_
  .obtain⟨D,n,eb,la,y⟩:=R.isList hl ea;have T:s.heap.IsList a D.toArray:=⟨_,eb,rfl,_,rfl⟩;rcases aP:l[k]? with _|b
   .have ab:D.toArray[k]? =none:=by refine Y sh ?_;rw[List.getElem?_eq_none_iff]at aP⊢;exact Y y.length aP
    exact wpAny_pyNext_list_end hh x T ab λh' he=>af h' he<|e.trans aP
   refine aZ (pO y aP) λu eu qu=>wpAny_pyNext_list_item x T eu λh' j sb=>?_;have W:∀b ob,b≠aa->s.heap.get? b=some ob->h'.get? b=some ob:=λb ob nb eb=>(sb.2 b nb).trans eb;exact c5 (go h' s.toks W) λR' ae fx=>h _ _ _ (e.trans aP) R' ae W (qu.fx fx) ⟨a,d',ea,j⟩
 rename_i lo j;have e:res=(match du (lo+k) j with|true=>some (V.int<|lo+k)|false=>none):=(aQ e).symm;revert e;rcases aP:du (lo+k) j;intro e;rw[hM,B5]at aP;rcases x with x|⟨_,_,_,x,hl⟩;exact wpAny_pyNext_range_end hh x (Y (Int.sub_sub ..)<|Int.sub_nonpos_of_le<|iR.mp aP) λh' he=>af h' he e;exact wpAny_pyNext_range_end hh x hl λh' he=>af h' he e;intro e;rw[hM,gV]at aP;rcases x with x|⟨aE,_⟩;refine wpAny_pyNext_range_item x (Y (Int.sub_sub ..)<|Int.sub_pos_of_lt aP) λh' ag sb=>?_;have W:∀b ob,b≠aa->s.heap.get? b=some ob->h'.get? b=some ob:=λb ob nb eb=>(sb.2 b nb).trans eb;exact c5 (go h' (s.toks+1) W) λR' ae fx=>h _ _ _ e R' ae W .int<|.inl<|Y (show lo+((k+1:Nat):Int)=lo+(k:Int)+1 by simp+arith)<|Y (show j-lo-((k+1:Nat):Int)=j-lo-(k:Int)-1 by simp+arith) ag;exact absurd aP<|iR.mpr aE
end
structure oo(I:Program)(K:al)(d:Nat)(v:dS):Prop where
 fr:∀{F:bG}{c:bh}{loc:Loc}{t:Expr}{aY:V}{k:Nat}{it:Addr}{b:List Stmt}{f C:a6}{H y:aq}{h:Heap}{s:Shared}{r:RS},ft d c F->F.hd=none->aV K F loc f H s->e4 f s.heap aY k it->K.h₀.get? it=none->h.get? it=none->
  a5 K.a3 [F.L] C y h f H s.heap->v.fr c t aY k b loc H=some r->codeAny (model I K.w) F.A (.forLoop t (.ref it) b [] F.env) (fv K F r C y h) s
section
variable{K:al}
def AW(G:TabC K T B)(ar:bA I K d v)(W:eW I K d v)(Z:oo I K d v)(E:ft d c F)(hd:F.hd=none)(R:aV K F loc f H s)(x:e4 f s.heap aY k U)(O:K.h₀.get? U=none)(N:h.get? U=none)(st:a5 K.a3 [F.L] C y h f H s.heap)(e:mj T v c t aY k b loc H=some r):codeAny (model I K.w) F.A (.forLoop t (.ref U) b [] F.env) (fv K F r C y h) s:=by
 have D:=G.fH;unfold mj at e;revert e;rcases en:dI aY k H with _|res;exact aW
 .intro e;refine HJ<|CH (R.hand.none hd) R x O N st en (λhr J R' ae _=>?_) λa u J hr R' ae _ q x'=>?_
  .clear en;subst hr;exact fl (z:=.next) R' ae trivial e
  .clear en;subst hr;dsimp only at e;obtain⟨o,eo,co⟩:=x'.obj;refine Dd eo co ?_;revert e;rcases es:i' T v c t a loc H with _|rs;exact aW
   .intro e;refine bX (Dz G ar E.toCtxOk R' q (.refl ..) es) (λ_ ap⟨z,l,ao,ak,eq,ab,af,xx⟩=>?_) λev ap⟨l,ao,ak,i,a',dd,eq,ab,af,e1,e2,ie⟩=>?_
    .clear es;subst eq;cases z<;>try(exact xx.elim)
     dsimp only at e;have aq:=x'.at af R';have am:=ae.trans af λ_ m=>.inl m;revert e;rcases em:cS v c b l ak with _|q;exact aW
     .intro e;refine bX (ka W E ab q em) (λj an⟨z,ai,ah,al,eq,aa,ag,xx⟩=>?_) λev an⟨ai,ah,al,i,a',dd,eq,aa,ag,e1,e2,ie⟩=>?_
      .clear em;subst eq;have aj:=am.trans ag λ_ m=>.inl m;have again:v.fr c t aY (k+1) b ai al=some r->codeAny (model I K.w) F.A (.forLoop t (.ref U) b [] F.env) (fv K F r C y h) an:=λe=>Z.fr E hd aa (aq.at ag ab) O N aj e;cases z<;>cases j<;>first|(exact xx.elim;done)|skip
       exact again e
       .clear xx again;obtain rfl:=aQ e;exact⟨.next,_,ah,_,rfl,aa,aj,trivial⟩
       exact again e;clear again;obtain rfl:=aQ e;exact⟨.ret _,_,ah,_,rfl,aa,aj,xx⟩
      clear em;subst eq;obtain rfl:=aQ e;exact ci.qU E.im D ⟨ai,ah,_,_,a',dd,rfl,aa,am.trans ag λ_ m=>.inl m,e1,e2,ie⟩
    clear es;subst eq;obtain rfl:=aQ e;exact ci.qU E.im D ⟨l,ao,_,_,a',dd,rfl,ab,ae.trans af λ_ m=>.inl m,e1,e2,ie⟩
def B9(h:jS x=true):foldedSetIterable x env v=pure v:=by cases x<;>first|rfl|exact ff h
def Mw(G:TabC K T B)(ab:bA I K d v)(Z:oo I K d v)(E:ft d c F)(R:aV K F loc f H s)(e:ei T v c (.For t i b [] p) loc H=some r):wpAny (model I K.w) F.A (exec (.For t i b [] p) F.env) (cR K F r f H s.heap) (ci K F r f H s.heap) s:=by
 have D:=G.fH;refine iJ e λy e=>?_;simp only[fP]at y;have hd:F.hd=none:=by have:=y.2;rw[E.hd]at this;rcases q:F.hd;rfl;rw[q]at this;exact ff this
 refine wpAny_For (Sn.ic (.refl ..) (ab.e E.toCtxOk R) e λaY u ae aa N j U _ q k=>?_) λx=>B9 y.1;refine iJ k λh k=>CK j q h λo x=>aS (j.keeps (h':=N.heap.push o) N.toks λb ob e=>b4 _ e) λO W=>?_;refine fF (Z.fr E hd O x (l1 j) (ej _) W k) λres J C=>?_;have C:=fv.from U C;rcases res with e|z;exact sZ D C;exact C
end
section
variable{K:al}{loc:Loc}
def aV.back(R:aV K F loc f H s)(y:aV K j ag ab H' J)(st:a5 K.a3 h f H s.heap ab H' J.heap)(W:∀a∈h,s.heap.get? a=none):aV K F loc ab H' J:=by
 refine aU st.ext λτ ae=>?_;subst ae;have old:∀{b o},s.heap.get? b=some o->b∉bz H f->b≠K.a3->∃o',J.heap.get? b=some o'/\Sm o o':=λ{b o} e nf D=>st.keep b o (λm=>by rcases bC.mp m with m|m;exact D m;rcases d0.mp m with m|m;rw[W b m]at e;exact aW e;exact nf m) e;have fx:cx s.heap J.heap:=λb o e c=>by
  have nf:b∉bz H f:=λm=>by refine aZ (R.rep.cls m) λo' u l=>?_;rw[u]at e;obtain rfl:=aQ e;exact c.led l
  have D:b≠K.a3:=λm=>by obtain⟨N,u,_⟩:=R.lam;rw[m,u]at e;obtain rfl:=aQ e;rcases c with c|c|c|c|c<;>cases c
  exact aZ (old e nf D) λo' u x=>Y u<|Y (x.plain (c.ne "frame"<|by decide)<|c.ne "traceback"<|by decide) rfl
 have aa:F.L≠K.a3:=λC=>R.nZ<|by refine Y C.symm ?_;exact .head _
 refine⟨y.base,y.lam,R.tab,R.mods,y.rep,y.gens,y.os,R.stack,R.locals,R.kind,R.glob,R.blt,R.new,λm=>?_,?_,λenv m=>?_,R.hand.more st⟩;rcases st.new _ m with m|m;exact R.apart m;exact R.alive m
 .obtain⟨o,m,e,q,⟨af,es,k,O,T,r⟩,l⟩:=R.loc;rw[e]at O;obtain rfl:=aQ O;refine aZ (old e R.apart aa) λo' u x=>?_;have aE:=x.data λC=>by rcases q with q|q<;>rw[q]at C<;>exact absurd (e7 C) (by decide)
  exact⟨o',m,u,by refine Y aE.2 ?_;exact q,⟨o',es,k,u,by refine Y aE.1 ?_;exact T,r⟩,l.keep τ fx⟩
 .obtain⟨k,L,o,es,n,e1,U,z,E,I⟩:=R.out env m;have nf:L∉bz H f:=λm=>by refine aZ (R.rep.cls m) λo' u l=>?_;rw[u]at z;clear m I;obtain rfl:=aQ z;exact l.nf.1 E
  have D:L≠K.a3:=λC=>by obtain⟨N,u,_⟩:=R.lam;rw[C,u]at z;clear I;obtain rfl:=aQ z;cases E
  refine aZ (old z nf D) λo' u x=>?_;have aE:=x.data λC=>by rw[E]at C;exact absurd (e7 C)<|by decide
  exact⟨k,L,o',es,n,e1,U,u,aE.2.trans E,aE.1.trans I⟩
def aV.EC(R:aV K F loc f H s)(t:Tok)(e:s.heap.get? x=some o)(c1:¬ki o.cls)(ab:∀env∈F.gp::F.outer,env.frame≠some x)(U:o.cls≠.type "traceback")(O:x≠F.L)(nl:x≠K.a3)(nf:x∉bz H f)(h:K.h₀.get? x=none)(z:∀b ob,b≠x->s.heap.get? b=some ob->h'.get? b=some ob):aV K F loc f H {s with heap:=h',toks:=t}:=by have fx:cx s.heap h':=λb ob y W=>z b ob (λC=>by rw[C,e]at y;obtain rfl:=aQ y;exact c1 W) y;refine⟨λb ob ne y=>z b ob (λC=>by rw[C,h]at y;exact aW y)<|R.base b ob ne y,?_,R.tab,R.mods,⟨R.rep.len,λj o p e1 E=>?_,R.rep.nd,R.rep.new⟩,R.gens,R.os,R.stack,R.locals,R.kind,R.glob,R.blt,R.new,R.apart,?_,λenv m=>?_,R.hand⟩;obtain⟨N,I,ht,u⟩:=R.lam;refine⟨N,z _ _ (gs nl) I,ht,λpos cv q=>?_⟩;exact aZ (u pos cv q) λT E k=>a8 T E<|k.keep fx;have r:=R.rep.obj j o p e1 E;have:=r.keep (τ:=[]) fx (λb m ob y=>z b ob (λC=>nf<|by refine Y C.symm ?_;exact ed e1 E b m) y) λt D J=>⟨D,z _ _ (λC=>by rw[C,e]at J;clear e c1;obtain rfl:=aQ J;exact U rfl) J,rfl⟩;rwa [be]at this;obtain⟨o',m,I,q,⟨ae,es,k,aa,dd,r⟩,l⟩:=R.loc;refine⟨o',m,z _ _ (gs O) I,q,⟨ae,es,k,z _ _ (gs O) aa,dd,r⟩,?_⟩;have:=l.keep [] fx;rwa [be]at this;obtain⟨k,L,o',es,n,e1,E,e3,e4,e5⟩:=R.out env m;exact⟨k,L,o',es,n,e1,E,z _ _ (λC=>ab env m<|Y e1<|Y C rfl) e3,e4,e5⟩
def aV.turn(R:aV K F loc f H s)(t:Tok)(e:s.heap.get? j=some o)(c1:¬ki o.cls)(c2:o.cls≠.type "frame")(x:o.cls≠.type "traceback")(I:j≠F.L)(J:j≠K.a3)(nf:j∉bz H f)(h:K.h₀.get? j=none)(E:∀b ob,b≠j->s.heap.get? b=some ob->h'.get? b=some ob):aV K F loc f H {s with heap:=h',toks:=t}:=R.EC t e c1 (λenv m C=>by obtain⟨k,L,o',es,n,e1,y,u,z,D⟩:=R.out env m;rw[C]at e1;clear y;obtain rfl:=aQ e1;rw[e]at u;clear D;obtain rfl:=aQ u;exact c2 z) x I J nf h E
def aV.adopt(R:aV K F loc f H s)(nd:(foot o p).Nodup)(nf:∀a∈foot o p,a≠F.L/\a∉bz H f/\K.h₀.get? a=none)(r:RO K.w.params (f++[p]) s.heap o p):aV K F loc (f++[p]) (H++[o]) s:=by
 have fx:cx s.heap s.heap:=.refl _;have x:bz (H++[o]) (f++[p])=bz H f++foot o p:=by refine Y (rZ R.rep.len) ?_;simp[bz]
 refine⟨R.base,R.lam,R.tab,R.mods,⟨by exact Y a0<|Y a0<|Y R.rep.len rfl,λj ob q h k=>?_,?_,λa m=>?_⟩,R.gens,R.os,R.stack,R.locals,R.kind,R.glob,R.blt,R.new,λm=>?_,?_,R.out,?_⟩
 .by_cases u:j<H.length;rw[dO u]at h;rw[dO<|by refine Y R.rep.len ?_;exact u]at k;exact(R.rep.obj j ob q h k).keep fx (λa _ z e=>e) λt D e=>⟨D,e,rfl⟩
  .have y:j<(H++[o]).length:=(cc.mp h).1;have:j=H.length:=by simp at y;exact ce (aR y<|by simp+arith)<|aR (md u)<|by simp+arith
   clear u y;subst this;rw[dr<|ba _,er]at h;rw[<-R.rep.len,dr<|ba _,er]at k;simp only[pV,pr]at h k;subst h k;exact r
 refine Y x (iM.mpr ⟨R.rep.nd,nd,λa m b T q=>?_⟩);subst q;exact(nf a T).2.1 m;rw[x]at m;rcases d0.mp m with m|m;exact R.rep.new _ m;exact(nf a m).2.2;rw[x]at m;rcases d0.mp m with m|m;exact R.apart m;exact(nf _ m).1 rfl;obtain⟨o',m,e,q,n,l⟩:=R.loc;exact⟨o',m,e,q,n,l.keep _ fx⟩;have hh:=R.hand;unfold eI at hh⊢;split at hh;exact hh;exact bU hh λa d e q=>dZ a d (fI _ e) q
end
def a5.fresh(st:a5 p L f H h ab H' h')(k:∀a∈L,h.get? a=none):a5 p N f H h ab H' h':=
 ⟨st.ext,λa o j e=>st.keep a o (λm=>by
  rcases bC.mp m with m|m;exact j<|by refine Y m ?_;exact .head _
  rcases d0.mp m with m|m;rw[k a m]at e;exact aW e;exact j<|.tail _<|gu _ m) e,st.new,st.live⟩
def a5.adopt(st:a5 p L f H h ab H' h')(hl:ab.length=H'.length)(bo:∀a∈foot o q,h.get? a=none):a5 p L f H h (ab++[q]) (H'++[o]) h':=by refine aU st.ext λτ j=>?_;subst j;refine⟨⟨τ++[q],by simp⟩,st.keep,λa m=>?_,st.live⟩;rw[rZ hl]at m;rcases d0.mp m with m|m;exact st.new a m;exact .inr<|bo a<|by simpa[bz]using m
def i8(f:a6)(loc:Loc)(ae:List<|Str×Addr):Prop:=∀x i,aC x loc=some (.ref i)->∃a d,ae.lookup x=some a/\f[i]? =some (a,d)
def i8.more(x:i8 f loc ae)(τ):i8 (f++τ) loc ae:=λy i e=>by exact bU (x y i e) λa d e1 h=>dZ a d e1<|fI τ h
def gC.gR(c:gC f cl k):i8 f (db cl) k:=c
section
variable{K:al}
theorem pj(z)(j:∀name kind ae,z (name,kind) ae=if kind==.cell then(do let a<-alloc {cls:=.type "cell",data:=.cell none};pure (.yield<|(name,a)::ae))else pure<|.yield ae):∀N{y C ae f H k s Q},aV K F loc f H s->i8 f y ae->eB N y H=(C,k)->(∀ab J D,aV K F loc ab k J->a5 K.a3 [F.L] f H s.heap ab k J.heap->i8 ab C D->(∀b o,s.heap.get? b=some o->J.heap.get? b=some o)->Q D J)->wpAny (model I K.w) A (forIn N ae z) Q U s
 |[],y,C,ae,f,H,k,s,Q,R,ok,e,h=>by refine zp e λah ai=>?_;subst ah ai;exact Y jC<|aL<|h f s ae R (.refl ..) ok λ_ _ e=>e
 |(name,kind)::r,y,C,ae,f,H,k,s,Q,R,ok,e,h=>by
  refine Y (hY ..)<|Y (j ..) ?_;rcases aP:kind==NameKind.cell
  .refine Y (bN<|by decide) ?_;have E:kind≠.cell:=by simpa using aP
   have e':eB r y H=(C,k):=by refine Y e.symm ?_;cases kind<;>first|rfl|exact absurd rfl E
   exact aX<|aL<|pj z j r R ok e' h
  .have E:kind=.cell:=by simpa using aP
   clear aP;subst E;refine Y (bZ rfl)<|aX<|aX<|qj<|aL ?_;have kp:∀b ob,s.heap.get? b=some ob->(s.heap.push {cls:=.type "cell",data:=.cell none}).get? b=some ob:=λb ob e=>b4 _ e;obtain⟨O,st⟩:=R.add (o:=.cell none) (p:=(s.heap.objs.size,0)) (h':=s.heap.push {cls:=.type "cell",data:=.cell none}) s.toks kp
    (λa m=>by refine Y (b9.mp m) ?_;exact⟨ej _,R.hP<|ej _⟩) (eo.mpr ⟨by simp,jR⟩) (λfx=>dP _ rfl)
   have hl:(f++[(s.heap.objs.size,0)])[H.length]? =some (s.heap.objs.size,0):=by refine Y R.rep.len.symm<|Y (dr<|ba _)<|Y (er ..) ?_;rfl
   refine pj z j r O (λx i u=>?_) e λab J D T ag af aa=>?_
   .unfold aC at u;rcases q:sq name x
    .rw[q]at u;refine bU (ok x i u) λW d' e1 e2=>dZ W d' ?_<|fI _ e2;refine Y ja ?_;have:(x==name)=false:=by simpa using(lw q).symm
     exact Y this e1
    have:=dn.mp q;subst this;rw[q]at u;obtain rfl:=V.ref.inj<|aQ u;exact dZ _ _ (by simp) hl
   exact h ab J D T (st.trans ag λ_ m=>.inl m) af λb o e=>aa b o<|kp b o e
end
def GN(h:vq a b=true):a=b:=by cases a<;>cases b<;>first|rfl|exact ff h
def Qi(h:vg o k=true):o=some k:=by rcases o with _|j;exact ff h;exact az some<|GN h
def G3{all:List (Str×NameKind)}:s1 all l=true->∀p∈l,aC p.1 all=some p.2:=by
 induction l with
 |nil=>exact λ_ _ m=>nomatch m|cons q r f=>intro e p m;have e:=(cY).mp<|show(vg (aC q.1 all) q.2&&s1 all r)=true from e;rcases bC.mp m with C|m;subst C;exact Qi e.1;exact f e.2 p m
def GH{f:Type}{a r:f}{P:Prop}(e:(bif b then some a else none)=some r)(k:b=true->a=r->P):P:=by cases b;exact aW e;exact k rfl<|aQ e
def zL{P:Prop}(e:gF sc loc ((x,.free)::r)=some cl)(k:∀i l,vr (aC x sc)=true->aC x loc=some (.ref i)->gF sc loc r=some l->(x,i)::l=cl->P):P:=aK (show ob (aC x loc) (λa=>ob (fw a) λi=>ob (gF sc loc r) λl=>bif vr (aC x sc)then some ((x,i)::l)else none)=some cl from e) λa f e=>aK e λi N e=>aK e λl hl e=>GH e λu e=>k i l u (f.trans<|az some<|iK N) hl e
structure zJ(sc:Scope):Prop where
 ns:∀p∈sc.names,aC p.1 sc.names=some p.2
 kind:sc.kind=.function
 gen:sc.isGenerator=false
 co:sc.isCoroutine=false
def xJ(h:it sc=true):zJ sc:=by unfold it at h;simp only[fP,Bool.not_eq_true']at h;refine⟨G3 h.1.1.1,?_,h.1.2,h.2⟩;have:=h.1.1.2;cases q:sc.kind<;>rw[q]at this<;>first|rfl|exact ff this
def KeysIn(all:List<|Str×NameKind)(loc:Loc):Prop:=∀x a,aC x loc=some a->∃k,(k=.cell\/k=.free)/\aC x all=some k
def zZ{all:List (Str×NameKind)}:∀{j loc ag H H'},(∀p∈j,aC p.1 all=some p.2)->KeysIn all loc->eB j loc H=(ag,H')->KeysIn all ag:=by
 intro j;induction j with
 |nil=>intro _ _ _ _ _ k e;refine zp e λD E=>?_;subst D E;exact k
 |cons C r z=>
  rcases C with⟨x,kd⟩;intro loc ag H H' f k e;have u:=λp m=>f p<|.tail _ m;rcases kd;case cell=>refine z u (λy a h=>?_)<|show eB r ((x,.ref H.length)::loc) (H++[.cell none])=(ag,H') from e;simp only[aC]at h;rcases q:sq x y;rw[q]at h;exact k y a h;have:=dn.mp q;clear h q;subst this;exact a8 .cell (.inl rfl)<|f _<|.head _
  all_goals exact z u k<|show eB r loc H=(ag,H') from e
def LK{all:List (Str×NameKind)}:∀{k cl},(∀p∈k,aC p.1 all=some p.2)->gF sc loc k=some cl->KeysIn all (db cl):=by
 intro k;induction k with
 |nil=>intro _ _ e;obtain rfl:=aQ e;exact λx a h=>aW h
 |cons C r z=>
  rcases C with⟨x,kd⟩;intro cl f e;have u:=λp m=>f p<|.tail _ m;rcases kd;case free=>refine zL e λi l _ _ hl e=>?_;subst e;intro y a j;simp only[db,aC]at j;rcases q:sq x y;rw[q]at j;exact z u hl y a j;have:=dn.mp q;clear j q;subst this;exact a8 .free (.inr rfl)<|f _<|.head _
  all_goals exact z u<|show gF sc loc r=some cl from e
section
variable{K:al}
set_option tactic.hygienic true in
def FI(E:CtxOk d c F)(R:aV K F loc f H s)(O:∀name kind W,z (name,kind) W=if kind==.free then(do let a<-cellOf F.env name;pure (.yield<|(name,a)::W))else pure<|.yield W):∀{aa cl} U,gF c.sc loc aa=some cl->∃W,forIn aa U z=pure W/\(∀x i,aC x (db cl)=some (.ref i)->W.lookup x=F.env.cells.lookup x/\∃a dd,F.env.cells.lookup x=some a/\f[i]? =some (a,dd))/\∀x,aC x (db cl)=none->W.lookup x=U.lookup x:=by
 intro aa;induction aa with
 |nil=>intro cl U e;obtain rfl:=aQ e;exact fE U (Y jC rfl) (λx i h=>nomatch h) λ_ _=>rfl
 |cons q9 r ab=>
  rcases q9 with⟨x,kd⟩;intro cl U e;by_cases aP:kd=.free
  .subst aP;refine zL e λi l u N hl e=>?_;subst e;have ae:aC x F.env.scope.names=some .cell\/aC x F.env.scope.names=some .free:=by
    revert u;rcases q:aC x c.sc with _|k;exact ff
    .intro u;cases k<;>first|exact ff u|skip
     exact .inl<|E.kn q<|by decide
     exact(E.kl q).elim .inr λC=>.inl C.2
   obtain⟨oL,m,eL,cL,n,lo⟩:=R.loc;refine bU (lo.gR x i ae N) λa dd e1 e2=>dD (ab ((x,a)::U) hl) λW J D I=>fE W ?_ (λy j T=>?_) λy T=>?_;refine Y (hY ..) (Y (O ..)<|Y (bZ<|show(NameKind.free==NameKind.free)=true from rfl) ?_);unfold cellOf;exact Y e1 J
   .unfold db aC at T;rcases q:sq x y;rw[q]at T;exact D y j T
    .have:=dn.mp q;subst this;rw[q]at T;obtain rfl:=V.ref.inj<|aQ T;refine⟨?_,a,dd,e1,e2⟩;rcases q2:aC x (db l)with _|b;refine Y (I x q2)<|Y e1 ?_;simp
     .have:∃j,b=.ref j:=by
       have af:∀(l:List<|Str×Nat)(b:V),aC x (db l)=some b->∃j,b=.ref j:=by
        intro l;induction l with
        |nil=>intro b h;exact aW h
        |cons p l ih=>intro b h;unfold db aC at h;split at h;obtain rfl:=aQ h;exact⟨_,rfl⟩;exact ih b h
       exact af l b q2
      refine aU this λj ag=>?_;subst ag;exact(D x j q2).1
   .unfold db aC at T;revert T;rcases q:sq x y
    .intro T;refine Y (I y T)<|Y ja ?_;have:(y==x)=false:=by simpa using(lw q).symm
     exact Y this rfl
    intro T;exact aW<|T.symm
  .have e':gF c.sc loc r=some cl:=by refine Y e.symm ?_;cases kd<;>first|rfl|exact absurd rfl aP
   refine dD (ab U e') λW J D I=>fE W ?_ D I;exact Y (hY ..)<|Y (O ..)<|Y (bN<|by simpa using aP) J
def zQ(E:CtxOk d c F)(R:aV K F loc f H s)(e:gF c.sc loc scope.names=some cl):∃h,closureFor scope F.env=pure h/\gC f cl h:=by simp only[closureFor];refine dD (FI (z:=λx r=>if(x.snd==NameKind.free)=true then(do let a<-cellOf F.env x.fst;pure (ForInStep.yield<|(x.fst,a)::r))else pure<|ForInStep.yield r) E R (λ_ _ _=>rfl) [] e) λh J D _=>a8 h ?_ λx i k=>?_;exact Y J rfl;exact aS (D x i k) λI C=>bU C λa j u y=>dZ a j (I.trans u) y
end
noncomputable abbrev ro(env:Env):Expr->Bool->Sem (ForInStep Bool):=λc r=>if r=true then do let ok<-isTrue c env (eval c env);pure (ForInStep.yield ok)else pure<|ForInStep.yield r
section
variable{I:Program}{w:World}{A:Around}{R:Result->Shared->Prop}{s:Shared}
def Mh(u k iter)(y)(scope)(pos)(h U)(env):compTurn (.ListComp u [⟨k,iter,y,0⟩] scope pos) 0 h U env=(standAt iter.pos>>=λ_=>pyNext h>>=λr=>match r with
   |none=>pure<|.done .next
   |some v=>letOwnedTupleGo k h v>>=λ_=>assign k env v>>=λ_=>
    (forIn y true<|ro env)>>=λok=>
    if ok=true then(eval u env>>=λx=>call (.builtin "list.append") [U,x]>>=λ_=>pure ())>>=λ_=>again<|.compLoop (.ListComp u [⟨k,iter,y,0⟩] scope pos) 0 h U env
    else again<|.compLoop (.ListComp u [⟨k,iter,y,0⟩] scope pos) 0 h U env):=by rfl
def Ua{u iter:Expr}{y:List Expr}{scope:Scope}{pos:Pos}{f U:Value}{env:Env}(h:wpAny (model I w) A (pyNext f) (λr z=>match r with
   |none=>R (.ok .next) z
   |some v=>wpAny (model I w) A (letOwnedTupleGo u f v) (λ_ J=>wpAny (model I w) A (assign u env v) (λ_ N=>
     wpAny (model I w) A (forIn y true<|ro env) (λok D=>match ok with|true=>wpAny (model I w) A (eval k env) (λx O=>wpAny (model I w) A (call (.builtin "list.append") [U,x]) (λ_ T=>codeAny (model I w) A (.compLoop (.ListComp k [⟨u,iter,y,0⟩] scope pos) 0 f U env) R T) (λ_ _=>False) O) (λ_ _=>False) D|false=>codeAny (model I w) A (.compLoop (.ListComp k [⟨u,iter,y,0⟩] scope pos) 0 f U env) R D) (λ_ _=>False) N) (λ_ _=>False) J) (λ_ _=>False) z) (λ_ _=>False) s):
  codeAny (model I w) A (.compLoop (.ListComp k [⟨u,iter,y,0⟩] scope pos) 0 f U env) R s:=by refine pa ?_;show wpAny _ A ((compTurn (.ListComp k [⟨u,iter,y,0⟩] scope pos) 0 f U env).onRaise λx=>do noteFrame x env;theTreesLotGoes x) _ _ s;refine wpAny_noted<|Y (Mh ..)<|aX<|dM<|aX<|bX h (λr z j=>?_) λ_ _ C=>C.elim;rcases r with _|v;exact aL j;refine aX (bX j (λ_ J W=>aX<|bX W (λ_ N aa=>aX<|bX aa (λok D E=>?_) λ_ _ C=>C.elim) λ_ _ C=>C.elim) λ_ _ C=>C.elim);rcases ok;exact Y (bN<|by decide)<|aL ⟨rfl,E⟩;exact Y (bZ rfl)<|aX<|aX<|bX E (λx O ab=>aX<|bX ab (λ_ T ae=>aL<|aL ⟨rfl,ae⟩) λ_ _ C=>C.elim) λ_ _ C=>C.elim
end
def OK:∀{f:List Expr},(forIn f false (ro env):Sem Bool)=pure false:=by
 intro f;induction f with
 |nil=>exact Y jC rfl|cons x f h=>refine Y (hY ..) ?_;show(pure (ForInStep.yield false)>>=_:Sem Bool)=_;exact h
def u8(e:qO m k=some r):∃a H,m=some (.ok a H)/\k a H=some r:=by rcases m with _|q;exact aW e;rcases q with⟨a,H⟩|_;exact dZ a H rfl e;exact aW e
section
variable{I:Program}{K:al}{d:Nat}{v:dS}{F:bG}{c:bh}{loc:Loc}{f ag:a6}{H T:aq}{j:Heap}{s:Shared}
def Sn.zl(h:Sn I K F loc ρ m t f H s)(e:m=some (.ok a H'))(g:∀w ab J,aV K F loc ab H' J->a5 K.a3 [F.L] f H s.heap ab H' J.heap->ρ ab J.heap a w->G w J):wpAny (model I K.w) F.A t G (λ_ _=>False) s:=by refine bX (h _ e) (λw J⟨ab,k,j,ae,u,q,x⟩=>?_) λev J⟨ab,k,i,u,d,j,ae,e1,y,z,x⟩=>nomatch x;cases q;exact g w ab J j ae x
def S3(T:bA I K d v)(E:CtxOk d c F):∀{f H H' s q G},aV K F loc f H s->l2 v c loc .And h H=some (.ok q H')->(∀ab J,aV K F loc ab H' J->a5 K.a3 [F.L] f H s.heap ab H' J.heap->G q J)->wpAny (model I K.w) F.A (forIn h true<|ro F.env) G (λ_ _=>False) s:=by
 induction h with
 |nil=>intro f H H' s q G R e g;cases e;exact Y jC<|aL<|g f s R<|.refl ..
 |cons x h C=>intro f H H' s q G R e g;unfold l2 at e;refine Y (hY ..) ?_;revert e;rcases k:v.t c loc x H with _|D;intro e;exact aW e;intro e;rcases D with⟨b,y⟩|⟨i,y⟩;simp only[bd]at e;refine aX ?_;show wpAny _ _ (if true=true then(do let ok<-isTrue x F.env (eval x F.env);pure (ForInStep.yield ok))else pure<|ForInStep.yield true) _ _ _;refine Y (bZ rfl)<|aX<|Sn.zl (T.t E R) k λw O N j u x=>aL ?_;cases x;rcases b;clear k;cases e;dsimp only;exact Y OK<|aL<|g O N j u;exact C j e λab J z ae=>g ab J z<|u.trans ae λ_ m=>.inl m;cases e
def LstAt(K:al)(F:bG)(f:a6)(H:aq)(h:Heap)(aa:Addr)(U:List V):Prop:=(∃D n,h.get? aa=some (ep D n)/\D.length<=lim/\aT f h U D)/\aa≠F.L/\aa≠K.a3/\aa∉bz H f/\K.h₀.get? aa=none
theorem LstAt.at(x:LstAt K F f H s.heap aa U)(st:a5 K.a3 [F.L] f H s.heap ab H' h')(R:aV K F loc f H s):LstAt K F ab H' h' aa U:=by refine oj x λk h N O j=>e6 k λD n e hl q=>⟨⟨D,n,?_,hl,q.at st R⟩,h,N,λm=>?_,j⟩;refine st.keep.plain (λm=>?_) e (by intro C;exact absurd (e7 C)<|by decide) (by intro C;exact absurd (e7 C)<|by decide);rcases bC.mp m with m|m;exact N m;rcases d0.mp m with m|m;exact h<|b9.mp m;exact O m;rcases st.new _ m with m|m;exact O m;rw[e]at m;exact aW<|m.symm
def w4(K:al)(F:bG)(aa:Addr)(r:R<|List V)(f:a6)(H:aq)(h:Heap)(res:Result)(J:Shared):Prop:=res=.ok .next/\∃l ab H' ag,r=.ok l H'/\aV K F ag ab H' J/\a5 K.a3 [F.L] f H h ab H' J.heap/\LstAt K F ab H' J.heap aa l
structure o9(I:Program)(K:al)(d:Nat)(v:dS):Prop where
 lc:∀{F:bG}{c:bh}{loc:Loc}{x:Str}{elt:Expr}{ifs:List Expr}{aY:V}{k:Nat}{U:List V}{it aa:Addr}{f ag:a6}{H T:aq}{j:Heap}{s:Shared}{r:R (List V)}{px:Pos}{iter:Expr}{scope:Scope}{pos:Pos},
  CtxOk d c F->F.hd=none->aV K F loc f H s->e4 f s.heap aY k it->K.h₀.get? it=none->j.get? it=none->a5 K.a3 [F.L] ag T j f H s.heap->LstAt K F f H s.heap aa U->j.get? aa=none->aa≠it->
  v.lc c loc x elt ifs aY k U H=some r->codeAny (model I K.w) F.A (.compLoop (.ListComp elt [⟨.Name x px,iter,ifs,0⟩] scope pos) 0 (.ref it) (.ref aa) F.env) (w4 K F aa r ag T j) s
set_option tactic.hygienic true in
def H8(aK:bA I K d v)(af:o9 I K d v)(E:CtxOk d c F)(hd:F.hd=none){iter:Expr}(R:aV K F loc f H s)(xi:e4 f s.heap aY k ab)(hn:K.h₀.get? ab=none)(hf:j.get? ab=none)(st:a5 K.a3 [F.L] ag T j f H s.heap)(la:LstAt K F f H s.heap aa U)(hD:j.get? aa=none)(ne:aa≠ab)(e:mq v c loc x ah ai aY k U H=some r):codeAny (model I K.w) F.A (.compLoop (.ListComp ah [⟨.Name x px,iter,ai,0⟩] scope pos) 0 (.ref ab) (.ref aa) F.env) (w4 K F aa r ag T j) s:=by
 unfold mq at e;revert e;rcases en:dI aY k H with _|res;exact aW
 .intro e;have lk:∀{J:Shared},(∀b ob,b≠ab->s.heap.get? b=some ob->J.heap.get? b=some ob)->LstAt K F f H J.heap aa U:=λ{J} kx=>by refine oj la λaI h N O h4=>e6 aI λD n ed hl q=>⟨⟨D,n,kx aa _ ne ed,hl,q.fx λb ob W cb=>kx b ob (λC=>?_) W⟩,h,N,O,h4⟩;refine aZ xi.obj λo eo co=>?_;rw[C,eo]at W;clear eo;cases W;exact co.fix cb
  refine Ua<|CH (R.hand.none hd) R xi hn hf st en (λhr J R' ae kx=>?_) λa u J hr R' ae kx q x'=>?_;clear en;subst hr;cases e;exact⟨rfl,U,f,H,loc,rfl,R',ae,lk kx⟩
  .clear en;subst hr;dsimp only at e;refine aZ x'.obj λo eo co=>Dd eo co ?_;have aB:=lk kx;revert e;rcases hs:fV c x a loc H with _|q;intro e;exact aW e;intro e;rcases q with⟨z,aP,aL⟩|_
   .cases z<;>try exact aW e
    refine Y (arm_assign_Name ..)<|aX<|dM<|qW<|mO E R' q hs λaR al am=>?_;have aE:=ae.trans am λ_ m=>.inl m;have aC:=aB.at am R';have aH:=x'.at am R';refine bU (u8 e) λb aM W e=>S3 aK E al W λaT aS aj an=>?_;have as:=aE.trans an λ_ m=>.inl m;have ar:=aC.at an al;have au:=aH.at an al;rcases b;exact af.lc E hd aj au hn hf as ar hD ne e
    .dsimp only at e⊢;refine bU (u8 e) λy aN ey e=>cH e λaz e=>Sn.zl (aK.e E aj) ey λw aU ap aw ao qy=>?_;have aF:=as.trans ao λ_ m=>.inl m;have aD:=ar.at ao aj;have av:=au.at ao aj;refine oj aD λaJ h N O h4=>e6 aJ λD n ed hl qv=>?_;have aA:=qv.length;refine z8 ed hl λh' n' ay sb=>?_;have ak:∀b ob,b≠aa->ap.heap.get? b=some ob->h'.get? b=some ob:=λb ob nb W=>(sb.2 b nb).trans W;have fx:cx ap.heap h':=λb ob W cb=>ak b ob (λC=>by rw[C,ed]at W;cases W;exact cb.ne "list" (by decide) rfl) W;have ax:=aw.turn ap.toks ed (λcb=>cb.ne "list" (by decide) rfl) (by intro C;exact absurd (e7 C)<|by decide) (by intro C;exact absurd (e7 C)<|by decide) h N O h4 ak;have aG:=aF.pf hD ak;refine af.lc E hd ax ?_ hn hf aG ⟨⟨D++[w],n',ay,?_,?_⟩,h,N,O,h4⟩ hD ne e;exact aZ av.obj λaQ aq aO=>av.move (by refine Y aq ?_;exact ak ab _ (gs ne) aq) [] (by simp) fx;have:=hT az;simp only[a0,cv,hA];exact a7 (a4 aA) this<|by simp+arith
     exact(qv.fx fx).append<|.cons (qy.fx fx) .nil
   exact aW e
end
def y2(env:Env)(x):∀h,aC x (h.map λ(n,k)=>if(k==NameKind.free&&env.scope.kind==.function&&env.kindOf n==some .cell)then(n,NameKind.cell)else(n,k))=aC x h\/ (aC x h=some .free/\aC x (h.map λ(n,k)=>if(k==NameKind.free&&env.scope.kind==.function&&env.kindOf n==some .cell)then(n,NameKind.cell)else(n,k))=some .cell):=by
 intro h;induction h with
 |nil=>exact .inl rfl
 |cons y r u=>
  rcases y with⟨n,k⟩;have j:=u;refine Y hE ?_;unfold aC;rcases q:sq n x;by_cases f:(k==NameKind.free&&env.scope.kind==.function&&env.kindOf n==some .cell)=true;refine Y (bZ f) ?_;simp only[q];exact j;refine Y (bN f) ?_;simp only[q];exact j
  .by_cases f:(k==NameKind.free&&env.scope.kind==.function&&env.kindOf n==some .cell)=true
   .refine Y (bZ f) ?_;simp only[fP,cy]at f;simp only[q,f.1.1];exact .inr ⟨trivial,trivial⟩
   .refine Y (bN f) ?_;simp only[q];exact .inl trivial
section
variable{K:al}{F:bG}{loc:Loc}{f:a6}{H:aq}{j:Heap}{s:Shared}
def NW(x:e4 f s.heap aY k u)(h:Q (.ref u) s):wpAny (model I K.w) A (pyIter<|.ref u) Q U s:=by
 cases aY<;>try(exact x.elim)
 obtain⟨_,t,x|x⟩:=x;exact wpAny_pyIter_striter_ascii x h;exact wpAny_pyIter_striter_wide x h;exact bU x λt D y _=>dD y λo e c j=>wpAny_pyIter_tupleiter ⟨o,e,c,j⟩ h;exact bU x λa d _ x=>wpAny_pyIter_listiter x h;rcases x with x|⟨_,_,_,x,_⟩;exact wpAny_pyIter_rangeiter x h;exact wpAny_pyIter_rangeiter x h
def yn{h:Heap}(e:h.get? E=some {cls,data:=.dict #[]}):h.Ns E (λ_=>none):=⟨_,#[],0,e,rfl,λ_ he=>by simp at he,λ_=>rfl⟩
def RD(h:Q (.ref s.heap.objs.size) {s with heap:=s.heap.push {cls:=.type "list",data:=.seq #[]}}):wpAny (model I K.w) A (newList []) Q U s:=uT h (by show 0<=sizeLine;exact bJ _)
noncomputable def AL(F:bG)(env:Env)(E:Addr):bG:={A:=F.A,hd:=F.hd,env:=env,gp:=F.gp,outer:=F.outer,L:=E}
def Pm(keys:KeysIn scope.names loc)(ok:i8 f loc ae):gY (compEnvC scope ae E F.env) f h loc (λ_=>none):=by
 refine⟨λy j a x=>?_,λy i _ D=>ok y i D⟩;refine aZ (keys y a x) λk aP z=>?_;have j:=j;rcases y2 F.env y scope.names with C|⟨_,C⟩;have u:=(show aC y (relabel scope F.env).names=_ from C).symm.trans j;rw[z]at u;rcases aP with rfl|rfl<;>cases u
 cases(show aC y (relabel scope F.env).names=_ from C).symm.trans j
inductive HY(K:al)(F:bG)(aa I:Addr)(aY:V)(loc:Loc)(σ₁:a6)(H₁:aq)(j:Heap)(f:a6)(H:aq)(s:Shared):Prop|mk (R:aV K F loc f H s) (st:a5 K.a3 [F.L] σ₁ H₁ j f H s.heap) (xi:e4 f s.heap aY 0 I) (la:LstAt K F f H s.heap aa [])
def NH{j:Shared}(sk:scope.kind=.function)(ai:aV K F loc z D h)(T:∀b ob,h.heap.get? b=some ob->j.heap.get? b=some ob)(af:h.heap.get? k=none)(ah:h.heap.get? aa=none)(ab:K.h₀.get? k=none)(ag:K.h₀.get? aa=none)(Dl:aa≠K.a3)(CD:aa≠k)(O:j.heap.get? k=some {cls:=.type "dict",data:=.dict #[]})(Dat:j.heap.get? aa=some (ep [] 0))(W:e4 z j.heap aY 0 I)(f:aV K F loc u x y)(N:a5 K.a3 [F.L] z D j.heap u x y.heap)(J:∀b ob,j.heap.get? b=some ob->y.heap.get? b=some ob)(ok:i8 u E ae)(keys:KeysIn scope.names E):HY K (AL F (compEnvC scope ae k F.env) k) aa I aY E z D h.heap u x y:=by
 have nw:∀{a:Addr},j.heap.get? a=none->h.heap.get? a=none:=λ{a} C=>by rcases q:h.heap.get? a with _|ob;rfl;rw[T _ _ q]at C;exact aW C.symm
 have nf:∀{a:Addr}{ob:Obj},h.heap.get? a=none->j.heap.get? a=some ob->a∉bz x u:=λC z' m=>(N.new _ m).elim (λm=>ai.rep.alive m C) λm=>aW<|m.symm.trans z';refine⟨⟨f.base,f.lam,f.tab,f.mods,f.rep,f.gens,f.os,f.stack,rfl,sk,f.glob,f.blt,ab,nf af O,⟨_,_,J _ _ O,.inr rfl,yn<|J _ _ O,Pm keys ok⟩,f.out,f.hand⟩,
  ⟨N.ext,λa o _ e=>⟨o,J _ _<|T a o e,.inl rfl⟩,λa m=>(N.new a m).imp id nw,λa na C=>?_⟩,?_,⟨⟨[],0,J _ _ Dat,bJ _,.nil⟩,CD,Dl,nf ah Dat,ag⟩⟩
 rcases q:h.heap.get? a with _|ob;exact na q;exact aW<|C.symm.trans<|J _ _<|T _ _ q;exact aZ W.obj λob U co=>aU N.ext λτ aj=>W.move (by refine Y U ?_;exact J _ _ U) τ aj λa o e _=>J _ _ e
def RQ(W:aV K F loc E y x)(ak:a5 K.a3 [F.L] f H s.heap E y x.heap)(U:x.heap.get? u.L=none)(af:x.heap.get? aa=none)(ai:K.h₀.get? u.L=none)(Cl:u.L≠K.a3)(CD:aa≠u.L)(e:rt (.ref z.length) (z++[.list l])=some r)(C:w4 K u aa (.ok l z) E y x.heap res J):compPost (model I K.w) F.A (jG K F loc (a9 r) f H s.heap) none (eA K F loc (aM aN r) f H s.heap) (.ref aa) u.L res J:=by
 refine aS C λe1 al=>tH al λh ab H' ag e2 O ae aj=>?_;subst e1;refine mm e2 λam an=>?_;subst am an;obtain⟨oC,mC,eC,j,nC,lC⟩:=O.loc;refine⟨mC,nC,λh' sb=>?_⟩;have kx:∀b ob,b≠u.L->J.heap.get? b=some ob->h'.get? b=some ob:=λb ob nb T=>(sb.2 b nb).trans T;have fr:∀a∈[u.L],x.heap.get? a=none:=λa m=>by refine Y (b9.mp m) ?_;exact U
 have Rb:=W.back O ae fr;have ah:¬ki oC.cls:=λcb=>by rcases j with j|j<;>exact cb.ne _ (by decide) j
 have Rt:=Rb.EC (h':=h') J.toks eC ah (λenv m C=>by obtain⟨k,L,o',es,n,e1,e2,e3,e4,e5⟩:=W.out env m;rw[C]at e1;clear e2;obtain rfl:=aQ e1;exact aW<|U.symm.trans e3) (λC=>by rcases j with j|j<;>(rw[j]at C;exact absurd (e7 C) (by decide))) (λC=>W.alive<|by refine Y C.symm ?_;exact U) Cl O.apart ai kx;refine oj aj λao g1 g2 g3 g4=>e6 ao λD n ed hl qv=>?_;have fx:cx J.heap h':=λb ob T cb=>kx b ob (λC=>by rw[C,eC]at T;obtain rfl:=aQ T;exact ah cb) T;have Ra:=Rt.adopt (o:=.list l) (p:=(aa,0)) (eo.mpr ⟨vP,jR⟩) (λa m=>by refine Y (b9.mp m) ?_;exact⟨λC=>W.alive (by refine Y C.symm ?_;exact af),g3,g4⟩) ⟨D,n,kx _ _ CD ed,hl,(qv.fx fx).keep _<|.refl _⟩;have kU:=((ae.fresh (N:=[F.L]) fr).pf U kx).adopt (q:=(aa,0)) (o:=.list l) O.rep.len λa m=>by refine Y (b9.mp m) ?_;exact af
 refine bj (ρ:=aN) Ra (ak.trans kU λ_ m=>.inl m) (RV.ref (d:=0) ?_) e;refine Y O.rep.len.symm<|Y (dr<|ba _)<|Y (er ..) ?_;rfl
def vt{h:Heap}(e:(h.push o).get? a=none):h.get? a=none:=by rcases q:h.get? a with _|ob;rfl;exact aW<|e.symm.trans<|b4 _ q
def IZ(aG:bA I K d v)(af:o9 I K d v)(E:CtxOk d c F)(R:aV K F loc f H s)(e:d7 T O v c loc (.ListComp D [⟨.Name x px,k,z,0⟩] scope p) H=some r):aO I K F loc (eval (.ListComp D [⟨.Name x px,k,z,0⟩] scope p) F.env) (aM aN r) (a9 r) f H s:=by
 refine cH e λhb e=>zb hb λhb ag=>zb hb λax aw=>?_;have hd:F.hd=none:=by rw[E.hd]at ag;rcases q:F.hd;rfl;rw[q]at ag;exact ff ag
 have W:=xJ aw;refine aK e λcl aj e=>aZ (zQ E R aj) λcs au as=>?_;unfold aO;refine Y (eval_ListComp ..)<|wpAny_comprehension_free (use:=none) (g:=⟨.Name x px,k,z,0⟩) (gs:=[]) rfl (λy=>B9 ax) au W.kind (λy m hy=>Y (BP ..)<|Y (W.ns y m)<|Y hy rfl) ?_;show wpAny _ F.A (eval k F.env) _ _ s;refine Sn.then (.refl ..) (aG.e E R) e λaY u aI aE j N am _ q U=>cH U λh U=>bU (u8 U) λl aF el U=>CK N q h λo xi=>RD ?_;simp only[newFunctionEnv,Option.isSome_some,if_true];refine aX<|qj ?_;have ak:∀b ob,j.heap.get? b=some ob->(((j.heap.push o).push {cls:=.type "list",data:=.seq #[]}).push {cls:=.type "dict",data:=.dict #[]}).get? b=some ob:=λb ob e=>b4 _<|b4 _<|b4 _ e;refine aS (N.keeps j.toks ak) λap _=>aU am.ext λaD ar=>?_;refine aX<|pj (F:=F) (loc:=loc) _ (λname kind ae=>by cases av:kind==NameKind.cell<;>simp[av]) scope.names ap (by refine Y ar ?_;exact(as.keep aD).gR) rfl λaJ aH ae aq aC az ay=>?_;refine aX<|Y jC<|aL<|aL ?_;have ah:=vt<|vt<|ej<|(j.heap.push o).push {cls:=.type "list",data:=.seq #[]};have aa:=vt<|ej<|j.heap.push o;refine aS (N.keeps (h':=j.heap.push o) j.toks λb ob e=>b4 _ e) λai _=>?_;refine aS (N.keeps (h':=(j.heap.push o).push {cls:=.type "list",data:=.seq #[]}) j.toks λb ob e=>b4 _<|b4 _ e) λab _=>?_;have Cl:=ab.hP<|ej _;have CD:(j.heap.push o).objs.size≠((j.heap.push o).push {cls:=.type "list",data:=.seq #[]}).objs.size:=by refine Y (rv (j.heap.push o) ..) ?_;exact(pH _).symm
 clear hb;obtain⟨Rc,aB,an,la⟩:=NH (ae:=ae) W.kind N ak ah aa (l1 ab) (l1 ai) (ai.hP<|ej _) CD (dP _ rfl) (b4 _<|dP _ rfl)
  (xi.move (by refine aZ xi.obj λob eo co=>?_;refine Y eo ?_;exact b4 _<|b4 _ eo) [] (by simp) λa o e _=>b4 _<|b4 _ e) aq aC ay az (zZ (all:=scope.names) W.ns (LK W.ns aj) rfl)
 have ao:CtxOk d ⟨scope.names,c.hd,c.lam⟩ (AL F (compEnvC scope ae ((j.heap.push o).push {cls:=.type "list",data:=.seq #[]}).objs.size F.env) ((j.heap.push o).push {cls:=.type "list",data:=.seq #[]}).objs.size):=⟨λy=>y2 F.env y scope.names,E.hd,E.room,E.lam⟩;have DI:(j.heap.push o).objs.size≠j.heap.objs.size:=by refine Y (rv ..) ?_;exact pH _
 have al:=λ{aA:Pos}=>fF (af.lc (px:=aA) (iter:=k) (scope:=scope) (pos:=p) ao hd Rc an (l1 N) (ej _) aB la aa DI el) λres J C=>RQ (I:=I) N am ah aa (l1 ab) Cl CD U C;exact codeAny_compStart_list al<|NW an al
end
end
section
open Builtin Builtin.ObjectAttr Builtin.Getset_descriptor
inductive xA(M:Model)(h:Heap)(E:Addr):Prop|mk {nm q N d6 bm hdct sn sub ab col dd k0 k1 k2 k3 k5} (hC:h.get? E=some (excClassObj nm q E N d6 bm hdct sn sub ab col dd k0 k1 k2 k3 k5 "Exception.__new__")) (hB:bm.contains (.type "Exception")=true) (hA:bm.contains (.type "AttributeError")=false) (hN:bm.contains (.type "NameError")=false)
  (call:Looks M h (specialOf (.ref E) "__call__") (some (.builtin "type.__call__"))) (typ:Looks M h (isInstance (.ref E) (.type "type")) true)
def Rz(e:yW o=true):o=some true:=by rcases o with _|b;exact ff e;rw[show b=true from e]
def GY(e:D7 x=some c):x=.cls c:=by
 induction x with
 |cls=>rw[aQ e]|_=>exact aW e
def Sb{f:Type}{l:List f}(e:l.length=1):∃a,l=[a]:=by rcases l with _|⟨a,l⟩;exact absurd e Nat.zero_ne_one;exact⟨a,by rw[q5.mp<|hD e]⟩
inductive KA(l:List (Option Value)):Prop|mk (k0 k1 k2 k3 k5:Option Value) (h:l=[k0,k1,k2,k3,some (.builtin "Exception.__new__"),k5])
def Lz(e:Cj l=true):KA l:=by rcases l with _|⟨k,l⟩;exact ff e;rcases l with _|⟨u,l⟩;exact ff e;rcases l with _|⟨k2,l⟩;exact ff e;rcases l with _|⟨x,l⟩;exact ff e;rcases l with _|⟨v,l⟩;exact ff e;exact zb e λf j=>aU (Sb<|cd j) λy h=>⟨k,u,k2,x,y,by rw[kr f,h]⟩
inductive PN(E:Addr)(l:List Value):Prop|mk (bm:List Value) (h:l=.ref E::bm) (f:bm.contains (.type "Exception")=true) (j:bm.contains (.type "AttributeError")=false) (k:bm.contains (.type "NameError")=false)
def ui(e:(!b)=true):b=false:=by rcases b;rfl;exact ff e
def NJ(e:Cr E l=true):PN E l:=by rcases l with _|⟨v,bm⟩;exact ff e;exact zb e λh e=>zb e λf e=>zb e λj k=>⟨bm,by rw[kr h],f,ui j,ui k⟩
def Db{M:Model}(X:B.In h)(e:uy B E=true):xA M h E:=by refine aK (Rz e) λo f e=>aK e λz j e=>?_;have e:=aQ e;refine zb e λO e=>zb e λx e=>zb e λy e=>zb e λT e=>zb e λU W=>?_;clear e;obtain⟨k0,k1,k2,k3,k5,k⟩:=Lz y;clear e;obtain⟨bm,hm,e1,D,I⟩:=NJ x;have u:=X _ _ f;clear f y e;obtain⟨N,dd,data,⟨sl⟩⟩:=o;clear x e;obtain⟨nm,d6,J,ns,qn,hd,sn,sub,ab,aa,C⟩:=z;rw[show N=_ from kr O,show data=_ from GY j,show J=_ from hm,show sl=_ from k,show C=false from ui T]at u;exact⟨u,e1,D,I,looks_specialIn X<|kr U,looks_instIn X<|kr W⟩
section
variable{R:Result->Shared->Prop}{h:Heap}{os:OsState}
variable{d6:List Value}{sub:List Value}
def Sh(D:h.get? E=some (excClassObj nm q E N d6 bm u sn sub f j k x y k2 z C "Exception.__new__"))(T:bm.contains (.type "Exception")=true)(O:bm.contains (.type "AttributeError")=false)(U:bm.contains (.type "NameError")=false)(ae:rest.length<=sizeLine)(bo:R (.ok<|.ret<|.ref<|h.objs.size+1) ⟨(h.push {cls:=.type "tuple",data:=.seq rest.toArray}).push<|em E none (.ref h.objs.size) .none .none,g,d,t,os⟩):codeAny (model I w) A (.call (.builtin "Exception.__new__") ⟨.ref E::rest,[]⟩) R ⟨h,g,d,t,os⟩:=by
 have F:=PySem.F.excBase_Exception;have J:(Value.ref E::bm).contains (.type "Exception")=true:=by rw[rY,T,qN]
 have W:(Value.ref E::bm).contains (.type "AttributeError")=false:=by rw[rY,O];rfl
 have aa:(Value.ref E::bm).contains (.type "NameError")=false:=by rw[rY,U];rfl
 have af:=F.noStar;have ab:=F.ends;refine codeAny_call_builtin_code (Code.quiet_builtin _ F.quiet) ?_
 delta checkBuiltinCall
 refine Y F.newKind<|Y F.newSplit ?_;dsimp only
 repeat(first|refine q0 D ?_|(refine xj D ?_;rw[J])|refine wpAny_staticBase_exc D ?_|refine wpAny_madeBy_exc D ?_|simp only[bne_self_eq_false,lg,jI]|wp_step)
 refine PySem.codeAny_builtinAt F.entry ?_;unfold Builtin.«BaseException.__new__»;refine PySem.wpAt_bind ?_;show PySem.wpAt _ _ _ (stack>>=_) _ _ _;refine PySem.wpAt_bind<|PySem.wpAt_stack λp below=>PySem.wpAt_of_wpAny ?_
 wp_walk
 refine PySem.wpAt_of_wpAny ?_;rw[F.owner]
 repeat(first|with_reducible refine wpAny_madeHere_exc F.canon D ?_|with_reducible refine q0 D ?_|(with_reducible refine xj D ?_;first|rw[J]|rw[W]|rw[aa])|wp_step)
 show R _ _;rw[rv];exact bo
def Gq(af:xA (model I w) h E)(T:rest.length<=sizeLine)(f:Looks (model I w) h (typeLookup (.ref E) "__init__")<|some init)(D:∀self,Looks (model I w) h (bindSpecial init self) (init,[self]))(bo:codeAny (model I w) (A.under<|.builtin "type.__call__" ⟨.ref E::rest,[]⟩) (.call init ⟨.ref (h.objs.size+1)::rest,[]⟩) (InitBack (h.objs.size+1) R) ⟨(h.push {cls:=.type "tuple",data:=.seq rest.toArray}).push<|em E none (.ref h.objs.size) .none .none,g,d,t,os⟩):codeAny (model I w) A (.call (.ref E) ⟨rest,[]⟩) R ⟨h,g,d,t,os⟩:=by
 obtain @⟨nm,q,N,d6,bm,ab,sn,sub,W,aa,dd,k0,k1,k2,k3,k5,j,x,u,z,call,U⟩:=af;refine pa ?_;show wpAny _ _ (callAny (.ref E) _) _ _ _;refine nd_load j ?_;show wpAny _ _ (callAny.viaDunder (.ref E) _) _ _ _;unfold callAny.viaDunder;refine aX<|call.at ?_;dsimp only;rw[tc_bind];refine aX<|aL<|aX<|aL<|aL (a:=Fin.again<|.call (.builtin "type.__call__") ⟨.ref E::rest,[]⟩)<|And.intro rfl (codeAny_call_builtin_at (Code.quiet_builtin _ (by decide+kernel)) entry_typeCall (check_slot tc_kind tc_split U (tc_args _ _ _) ?_));unfold Builtin.«type.__call__»
 repeat(first|with_reducible refine q0 j ?_|with_reducible refine wpAny_madeBy_exc j ?_|wp_step)
 refine Sh j x u z T ?_;have k:∀b o,h.get? b=some o->((h.push {cls:=.type "tuple",data:=.seq rest.toArray}).push<|em E none (.ref h.objs.size) .none .none).get? b=some o:=λb o e=>b4 _<|b4 _ e;have aE:((h.push {cls:=.type "tuple",data:=.seq rest.toArray}).push<|em E none (.ref h.objs.size) .none .none).get? (h.objs.size+1)=some (em E none (.ref h.objs.size) .none .none):=by heap_get
 have t1:Looks (model I w) ((h.push {cls:=.type "tuple",data:=.seq rest.toArray}).push<|em E none (.ref h.objs.size) .none .none) (typeOf<|.ref<|h.objs.size+1) (.ref E):=(kL aE).andThen .now;have y:=k _ _ j;have O:(Value.ref E::bm).contains (.ref E)=true:=by simp
 have i1:=f.keeps k;have b1:=(D<|.ref<|h.objs.size+1).keeps k;unfold isInstance callSpecial? specialOf
 repeat(first|with_reducible refine q0 aE ?_|(with_reducible refine xj y ?_;rw[O])|with_reducible refine wpAny_call ?_|lk|wp_step)
 refine fF bo λr J C=>?_;rcases r with e|(v|_|_|_)<;>first|exact C|exact C.elim|skip
 obtain⟨rfl,C⟩:=C;exact aL<|aL C
end
section
variable{os:OsState}
def GQ(af:xA (model I w) h E)(he:h.get? e=some (em E k f tb j))(bo:∀h',(∀b o,b≠e->h.get? b=some o->h'.get? b=some o)->h'.get? e=some (em E k (.ref h.objs.size) tb j)->Q .none ⟨h',g,d,t,os⟩):wpAny (model I w) A (call (.builtin "Exception.__init__") [.ref e,v]) Q U ⟨h,g,d,t,os⟩:=by
 have F:=PySem.F.excBase_Exception;obtain @⟨nm,q,N,d6,bm,aa,sn,sub,O,T,W,k0,k1,k2,k3,k5,u,z,hA,hN,call,ae⟩:=af;have C:(Value.ref E::bm).contains (.type "Exception")=true:=Y rY<|Y z<|Y (qN ..) rfl;have ab:=F.noStar;refine wpAny_call<|codeAny_call_builtin F.init.plain F.initEntry ?_
 delta checkBuiltinCall
 refine Y F.initKind<|Y F.initSplit<|Y F.initRow ?_;dsimp only
 repeat(first|with_reducible refine q0 he ?_|with_reducible refine q0 u ?_|(with_reducible refine xj u ?_;refine Y C ?_)|wp_step)
 have bp:Q .none ⟨(h.push {cls:=Value.type "tuple",data:=Data.seq #[v]}).update e<|Obj.mapFields λx=>x.setIfInBounds 0<|Value.ref h.objs.size,g,d,t,os⟩:=by have D:=b4 {cls:=Value.type "tuple",data:=Data.seq #[v]} he;refine bo _ (λb o J y=>?_) ?_;refine Y (pk _ _<|gs J) ?_;exact b4 _ y;refine Y (jr _ D rfl) ?_;rfl
 cases f<;>first|exact wpAny_letGo (aL bp)|exact aL (aL bp)
end
structure EM(B:Frag)(E:Addr)(k:Cl):Prop where
 init:∀z,k.init=some z->findIn B (.ref E) "__init__"=some (some (.ref z))/\typeIn B (.ref z)=some (.type "function")
 made:(match k.exc with|true=>uy B E|false=>makesIn B E)=true
 kp:keepIn B (.ref E)=true
structure qQ(B:Frag)(z:Addr)(fn:Fn)(fd:FuncData):Prop where
 obj:∃o,B.lookup z=some o/\o.cls=.type "function"/\o.data=.func fd
 scope:fd.scope=fn.scope
 body:fd.body=.stmts fn.body
 pA:fd.closure=[]
 glob:fd.globals=mainGlobals
 blt:fd.builtins=builtinsNs
 par:fd.params.posonlyargs=[]/\fd.params.vararg=none/\fd.params.kwonlyargs=[]/\fd.params.kwarg=none/\fd.params.args.map (·.arg)=fn.params
 dz:(fn.dz=[]/\fd.defaults=.none)\/∃aa D,fd.defaults=.ref aa/\B.lookup aa=some (ir D)/\∀f h,aT f h fn.dz D
 code:∃c oc D t,fd.code=.ref c/\B.lookup c=some oc/\oc.data=.fields D/\D[1]? =some (.str fd.qualname t)
 sc:zJ fn.scope
 nd:fn.params.Nodup
 dl:fn.dz.length<=fn.params.length
structure cu(K:al)(T:ct)(B:Frag):Prop extends TabC K T B where
 wZ:∀E k,bi E T.cls=some k->EM B E k
 fns:∀z fn,bi z T.fns=some fn->∃fd,qQ B z fn fd
 lam:∀fn fd,bi T.hU T.fns=some fn->qQ B T.hU fn fd->fd.code=.ref T.gh/\fd.qualname++".<locals>."=T.ga
 lc:CodeHd K.h₀ T.gh K.a3
 ar:T.ga++"<lambda>"=K.ar
 M4:∃mg,K.h₀.Ns mainGlobals mg/\K.h₀.BuiltinsAt mg K.a3
 lim:K.h₀.NoLimit
 Pz:cStatics≠K.a3
def hL(K:al)(F:bG)(loc:Loc)(r:R V)(f:a6)(H:aq)(h:Heap)(res:Result)(J:Shared):Prop:=match res with|.ok (.ret v)=>eA K F loc (aM aN r) f H h v J|.ok _=>False|.error e=>jG K F loc (a9 r) f H h e J
def ip(K:al)(F:bG)(loc:Loc)(r:R V)(f:a6)(H:aq)(h:Heap)(res:Result)(J:Shared):Prop:=∃ab H',aV K F loc ab H' J/\a5 K.a3 [] f H h ab H' J.heap/\match res with|.ok (.ret v)=>aM aN r v ab H' J|.ok _=>False|.error e=>∃i a d,ab[i]? =some (a,d)/\e=.ref a/\hb H' i/\r=.exc i H'
def gq(d:Nat)(A:Around):Prop:=A.depth+2*d+29<=recursionLimit/\A.units+8*d+196<=cLine
structure de(I:Program)(K:al)(d:Nat)(O:ap):Prop where
 call:∀{F:bG}{loc:Loc}{f:a6}{H:aq}{s:Shared}{a:V}{u:Value}{D:List V}{us:List Value}{r:R V},gq d F.A->aV K F loc f H s->RV f s.heap a u->aT f s.heap D us->O F.hd a D H=some r->
  codeAny (model I K.w) F.A (.call u ⟨us,[]⟩) (hL K F loc r f H s.heap) s
def h7(M:Model)(h:Heap)(z:Value):Prop:=∃k,(k=Keeper.frame\/k=Keeper.machine\/k=Keeper.boundFrame)/\Looks M h (keeperOf z) k
def h7.blt{M:Model}(n:∀a,z≠.ref a):h7 M h z:=by refine⟨.machine,.inr<|.inl rfl,?_⟩;cases z<;>first|exact .now|exact absurd rfl (n _)
def h7.fn{M:Model}(e:h.get? z=some o)(d:o.data=.func fd):h7 M h (.ref z):=by refine⟨.frame,.inl rfl,(kL e).andThen ?_⟩;exact Y d .now
def h7.bm{M:Model}(e:h.get? m=some (methodObj (.ref z) self))(f:h.get? z=some o)(d:o.data=.func fd):h7 M h (.ref m):=by refine⟨.boundFrame,.inr<|.inr rfl,(kL e).andThen ?_⟩;exact(kL f).andThen<|Y d .now
section
variable{K:al}{F:bG}{loc:Loc}{f:a6}{H:aq}{s:Shared}
def lJ(W:bA I K d v)(E:CtxOk d c F)(ns:c' args=true)(st:a5 K.a3 [F.L] u j k f H s.heap)(R:aV K F loc f H s)(e:bd (cf v c loc args H) y=some r)(g:∀D us ab H' J,aV K F loc ab H' J->a5 K.a3 [F.L] u j k ab H' J.heap->a5 K.a3 [F.L] f H s.heap ab H' J.heap->aT ab J.heap D us->y D H'=some r->h7 (model I K.w) J.heap z/\wpAny (model I K.w) F.A (call z<|first++us) (eA K F loc (aM aN r) u j k) (jG K F loc (a9 r) u j k) J):wpAny (model I K.w) F.A (callWith pos z first (backTo pos<|starEach args F.env) []) (eA K F loc (aM aN r) u j k) (jG K F loc (a9 r) u j k) s:=by
 have plain:∀{l:List Expr},c' l=true->(backTo pos<|starEach l F.env).any (·.1)=false:=by
  intro l;induction l with
  |nil=>intro _;rfl
  |cons x l O=>intro n;have T:=(mC n).2;refine Y (rS (mC n).1) ?_;show(false||(backTo pos<|starEach l F.env).any (·.1))=false;exact Y (O T) rfl
 refine callWith_of (P:=λh=>h7 (model I K.w) h z) (by exact Y (plain ns) rfl) (λh x=>x) ?_;rcases args with _|⟨x,l⟩
 .refine evalArgs_nil3 ?_;have:=g [] [] f H s R st (.refl ..) .nil<|by simpa[cf,bd,rt]using e
  exact this
 .have he:=rS (l:=l) (env:=F.env) (mC ns).1;have ev:backTo pos (starEach (x::l) F.env)=(false,eval x F.env)::backTo pos (starEach l F.env):=by exact Y he rfl
  exact Y ev<|evalArgs_plain<|Y ev.symm<|Sn.then st (vh W E ns R) e λD us ab H' J C ae U q N=>g D us ab H' J C ae U q N
def aV.around(R:aV K F loc f H s)(h:u.frames=F.A.frames)(hh:u.handled=F.A.handled):aV K {F with A:=u} loc f H s:=⟨R.base,R.lam,R.tab,R.mods,R.rep,R.gens,R.os,h.trans R.stack,R.locals,R.kind,R.glob,R.blt,R.new,R.apart,R.loc,R.out,by have:=R.hand;show eI f F.hd u.handled;refine Y hh ?_;exact this⟩
def k7.o(h:k7 d F.A):gq d F.A:=⟨by have:=h.1;exact gt ‹_›,by have:=h.2;exact aR this<|by simp+arith⟩
def cu.fnAt(G:cu K T B)(R:aV K F loc f H s)(e:bi z T.fns=some fn):∃fd o,qQ B z fn fd/\s.heap.get? z=some o/\o.cls=.type "function"/\o.data=.func fd:=by exact aU (G.fns z fn e) λfd ok=>dD ok.obj λo e1 h j=>EE fd o ok (G.toTabC.In R _ _ e1) h j
def xr(e:dU T O hd z D H=some r):(∃fn,bi z T.fns=some fn)/\O hd (.fn z) D H=some r:=by exact aK e λfn h e=>⟨⟨fn,h⟩,e⟩
theorem h7.dU(G:cu K T B)(j:aV K F loc f H s)(e:dU T O hd z D H'=some r):h7 (model I K.w) s.heap (.ref z):=by exact aS (xr e) λu _=>aU u λfn h=>kG (G.fnAt j h) λfd o _ e1 _ k=>.fn e1 k
def hL.from(st:a5 K.a3 [F.L] u j k ab H' h')(x:hL K F loc r ab H' h' res J):hL K F loc r u j k res J:=by unfold hL at x⊢;split at x;obtain⟨z,f,h,y,q⟩:=x;exact⟨z,f,h,st.trans y λ_ m=>.inl m,q⟩;exact x.elim;obtain⟨z,f,i,a,C,h,y,q,D,E,I⟩:=x;exact⟨z,f,i,a,C,h,st.trans y λ_ m=>.inl m,q,D,E,I⟩
def od(h:codeAny (model I K.w) F.A (.call u ⟨us,[]⟩) (hL K F loc r f H s.heap) s):aO I K F loc (call u us) (aM aN r) (a9 r) f H s:=by refine wpAny_call<|fF h λres J x=>?_;unfold hL at x;split at x<;>first|exact x|exact x.elim
def A9(j:aV K F loc f H s){x:Shared}(k:a5 K.a3 [F.L] f H s.heap (f++[p]) (H++[o]) x.heap)(h:aV K {F with A:=u} loc ab H' J)(ae:a5 K.a3 [F.L] (f++[p]) (H++[o]) x.heap ab H' J.heap):aV K F loc ab H' J/\a5 K.a3 [F.L] f H s.heap ab H' J.heap:=⟨⟨h.base,h.lam,h.tab,h.mods,h.rep,h.gens,h.os,j.stack,h.locals,h.kind,h.glob,h.blt,h.new,h.apart,h.loc,h.out,j.hand.more<|k.trans ae λ_ m=>.inl m⟩,k.trans ae λ_ m=>.inl m⟩
def wd{o:au}(h:aV K F loc f H s):(f++[p])[H.length]? =some p:=by refine Y h.rep.len.symm<|Y (dr<|ba _)<|Y (er ..) ?_;rfl
def y7(aE:p.1=x)(D:aV K F loc f H s){N:Shared}(I:a5 K.a3 [F.L] f H s.heap (f++[p]) (H++[o]) N.heap)(e:bd (some y) (λa H'=>xX H.length a H')=some r)(C:hL K {F with A:=u} loc y (f++[p]) (H++[o]) N.heap res J):InitBack x (hL K F loc r f H s.heap) res J:=by
 subst aE;unfold InitBack;rcases res with ev|j;obtain⟨ab,H',i,a,O,k,ae,e1,T,U,x⟩:=C;cases x;obtain rfl:=aQ e;obtain⟨z,E⟩:=A9 D I k ae;exact⟨ab,_,i,a,O,z,E,e1,T,U,rfl⟩
 .induction j with
  |ret v=>obtain⟨ab,H',k,ae,a,x,q⟩:=C;subst x;obtain⟨h,e⟩:=i4 e;rw[rP h]at q;have q:=q;refine Y q.qG ?_;obtain rfl:=aQ e;obtain⟨z,E⟩:=A9 D I k ae;refine⟨rfl,ab,_,z,E,_,rfl,?_⟩;obtain⟨τ,rfl⟩:=ae.ext;exact RV.ref<|fI _<|wd (o:=o) D
  |_=>exact C.elim
end
structure hF(I:Program)(K:al):Prop where
 blt:∀{F:bG}{loc:Loc}{f:a6}{H:aq}{s:Shared}{b:ey}{D:List V}{us:List Value}{r:R V},F.A.depth+30<=recursionLimit->F.A.units+200<=cLine->(b=.max->F.hd=none)->aV K F loc f H s->aT f s.heap D us->wL b D H=some r->
  aO I K F loc (call b.val us) (aM aN r) (a9 r) f H s
section
variable{K:al}
def np(G:cu K T B)(W:de I K d O)(j:gq d F.A)(h:aV K F loc f H s)(q:aT f s.heap D us)(e:dU T O F.hd z D H=some r):codeAny (model I K.w) F.A (.call (.ref z) ⟨us,[]⟩) (hL K F loc r f H s.heap) s:=W.call j h .fn q (xr e).2
def Q7{A:Around}{id:String}(h:Code.envs (.builtin id args)=[]):(A.under<|.builtin id args).frames=A.frames:=by show pushEnvs (Code.envs<|.builtin id args) A.frames=A.frames;exact Y h rfl
def TO(f:k7 d A)(h:(A.under c).depth=A.depth+1)(h':(A.under c).units=A.units+1):gq d (A.under c):=⟨by have:=f.1;refine Y h ?_;exact aR this (by simp+arith),by have:=f.2;refine Y h' ?_;exact aR this<|by simp+arith⟩
def Pw(G:cu K T B)(W:de I K d O)(hr:k7 d F.A)(u:aV K F loc f H s)(aP:bi E T.cls=some k)(hu:us.length<=sizeLine)(q:aT f s.heap D us)(e:FA T O F.hd E k D H=some r):codeAny (model I K.w) F.A (.call (.ref E) ⟨us,[]⟩) (hL K F loc r f H s.heap) s:=by
 have X:=G.toTabC.In u;have ck:=G.wZ E k aP;refine aK e λz j e=>aS (ck.init z j) λi1 i2=>?_;have hm:=ck.made;obtain⟨h,g,nc,t,os⟩:=s;have ae:gq d (F.A.under<|.builtin "type.__call__" ⟨.ref E::us,[]⟩):=TO hr rfl rfl;have ab:=Q7 (A:=F.A)<|show Code.envs (.builtin "type.__call__" ⟨.ref E::us,[]⟩)=[] from rfl;have Dn:h.get? h.objs.size=none:=ej _;have U:h.get? (h.objs.size+1)=none:=Heap.get?_none_of_le<|Nat.le_succ _;revert e;rcases x:dU T O F.hd z (.ref H.length::D) (H++[tN E k.exc])with _|y;exact aW
 .intro e;revert hm x;rcases aE:k.exc
  .intro hm x;refine make_core (makes_of X hm) (qT X i1) (λself=>bind_fn X self i2) (.inl rfl) ?_;have kp:∀b ob,h.get? b=some ob->((h.push emptyDict).push<|instObj E h.objs.size).get? b=some ob:=λb ob e=>b4 _<|b4 _ e;obtain⟨aa,N⟩:=u.add (o:=.inst E []) (p:=(h.objs.size+1,h.objs.size)) (h':=(h.push emptyDict).push<|instObj E h.objs.size) t kp
    (λa m=>by rcases bC.mp m with rfl|m;exact⟨U,u.hP U⟩;refine Y (b9.mp m) ?_;exact⟨Dn,u.hP Dn⟩) (eo.mpr ⟨λm=>pH _<|b9.mp m,eo.mpr ⟨λm=>(vP m),jR⟩⟩)
    (λfx=>⟨[],0,Heap.get?_push_at (rv ..).symm rfl,b4 _<|dP _ rfl,.nil⟩)
   exact fF (np (F:={F with A:=F.A.under<|.builtin "type.__call__" ⟨.ref E::us,[]⟩}) G W ae (aa.around ab rfl) (.cons (.ref<|wd (o:=.inst E []) u)<|q.at N u) x) λres J C=>y7 rfl u N e C
  .intro hm x;refine Gq (Db X hm) hu (qT X i1) (λself=>bind_fn X self i2) ?_;have kp:∀b ob,h.get? b=some ob->((h.push {cls:=.type "tuple",data:=.seq us.toArray}).push<|em E none (.ref h.objs.size) .none .none).get? b=some ob:=λb ob e=>b4 _<|b4 _ e;obtain⟨aa,N⟩:=u.add (o:=.exc E none none) (p:=(h.objs.size+1,0)) (h':=(h.push {cls:=.type "tuple",data:=.seq us.toArray}).push<|em E none (.ref h.objs.size) .none .none) t kp
    (λa m=>by refine Y (b9.mp m) ?_;exact⟨U,u.hP U⟩) (eo.mpr ⟨λm=>(vP m),jR⟩)
    (λfx=>⟨none,_,_,_,Heap.get?_push_at (rv ..).symm rfl,rfl,.inl rfl,rfl⟩)
   exact fF (np (F:={F with A:=F.A.under<|.builtin "type.__call__" ⟨.ref E::us,[]⟩}) G W ae (aa.around ab rfl) (.cons (.ref<|wd (o:=.exc E none none) u)<|q.at N u) x) λres J C=>y7 rfl u N e C
def Oa(e:nE o=true):o=none:=by rcases o;rfl;exact ff e
def K5(G:cu K T B)(W:de I K d O)(af:hF I K)(x:k7 d F.A)(h:aV K F loc f H s)(E:RV f s.heap a u)(hu:us.length<=sizeLine)(q:aT f s.heap D us)(e:bP T O F.hd a D H=some r):h7 (model I K.w) s.heap u/\aO I K F loc (call u us) (aM aN r) (a9 r) f H s:=by
 induction a using V.casesOn with
 |fn z=>refine Y E.kA ?_;have e:sY T O F.hd z D H (bi z T.cls)=some r:=e;revert e;rcases aP:bi z T.cls with _|k;intro e;exact⟨.dU G h e,od<|np G W x.o h q e⟩;intro e;exact aZ (keeps_K (G.wZ _ _ aP).kp _<|G.toTabC.In h) λkk aa ab=>⟨⟨kk,aa,ab⟩,od<|Pw G W x h aP hu q e⟩
 |blt b=>refine Y E.tW<|cH e λJ e=>?_;exact⟨.blt (λa C=>by cases b<;>cases C),af.blt (by have:=x.1;exact aR this<|by simp+arith) (by have:=x.2;exact aR this<|by simp+arith) (λC=>Oa<|by rw[C]at J;exact J) h q e⟩
 |bY=>obtain⟨a,c',qn,k,pm,ct,rfl,e1,y,N⟩:=E.uX;exact⟨.fn e1 rfl,od<|W.call x.o h (.bY e1 y N) q e⟩
 |bm z i=>obtain⟨a,d',m,rfl,e1,y⟩:=E.z1;exact aS (xr e) λae _=>aU ae λfn j=>kG (G.fnAt h j) λfd o _ U _ g2=>⟨.bm y U g2,od<|method_call y<|np G W x.o h (.cons (.ref e1) q) e⟩
 |_=>exact aW e
end
structure fM(I:Program)(K:al):Prop where
 str:∀m,qt m=true->∃id,Slot "str" m id/\typeOf (.builtin id)=pure (.type "method_descriptor")/\∀{F:bG}{loc:Loc}{f:a6}{H:aq}{s:Shared}{x:List Nat}{t:Tok}{D:List V}{us:List Value}{r:R V},
  x.length<=lim->aV K F loc f H s->aT f s.heap D us->e' m x D H=some r->aO I K F loc (call (.builtin id) (.str ⟨x.toArray⟩ t::us)) (aM aN r) (a9 r) f H s
 list:∀m,jW m=true->∃id,Slot "list" m id/\typeOf (.builtin id)=pure (.type "method_descriptor")/\∀{F:bG}{loc:Loc}{f:a6}{H:aq}{s:Shared}{i:Nat}{a d:Addr}{l D:List V}{us:List Value}{r:R V},
  H[i]? =some (.list l)->f[i]? =some (a,d)->aV K F loc f H s->aT f s.heap D us->ez m i l D H=some r->aO I K F loc (call (.builtin id) (.ref a::us)) (aM aN r) (a9 r) f H s
def LI:typeOf (.type "Exception")=pure (.type "type"):=by kernel_rfl
def JU:Manifest.isStub "Exception"=false:=by decide+kernel
def M0(X:B.In s.heap)(ht:typeOf (.type T)=pure (.type "type"))(k:Manifest.isStub T=false)(e:findCls B (.type T) (.type "type") name=some (.val v))(hh:handedIn v=true)(h:Q (v,[]) {s with toks:=s.toks+1}):wpAny (model I w) A (getMethod (.type T) name pl) Q U s:=by
 have u:opaqueClassAbove (.type T)=pure none:=by unfold opaqueClassAbove;dsimp only;exact Y k rfl
 have f:Looks (model I w) s.heap (typeOf<|.type T) (.type "type"):=Looks.of_pure ht;have hg:findIn B (.type "type") "__getattribute__"=some (some<|.builtin "type.__getattribute__"):=type_tga;unfold getMethod specialOf;refine aX<|aX<|f.here<|(qT X hg).here ?_;dsimp only;refine Y (bZ canon_tga)<|aX<|bX (Q:=λv=>Q (v,[])) (E:=U) ?_ (λ_ _ C=>aL C) λ_ _ C=>C;have j:Looks (model I w) s.heap (opaqueClassAbove<|.type T) none:=Looks.of_pure u;refine cls_open X j f hg (looks_hook X (r:=none)<|by rfl) (by show subIn B _ _=_;rfl) e
  (aL<|by show wpAny _ _ (handedOut v) _ _ _;refine Y (handedOut_of hh) ?_;exact aL h)
def Qr(B):findCls B (.type "Exception") (.type "type") p9=some (.val<|.builtin "Exception.__init__"):=by rfl
section
variable{I:Program}{K:al}{F:bG}{loc:Loc}{y:a6}{H h:aq}{j:Heap}{s:Shared}
def Sx(e:H[i]? =some o):H.set i o=H:=by refine aU (cc.mp e) λhl e=>?_;exact Y e.symm<|List.set_getElem_self hl
def Iz(G:cu K T B)(y:aV K F loc f H s){i:Nat}(e1:H[i]? =some (.exc E J z))(W:f[i]? =some (a,N))(aP:bi E T.cls=some k)(aE:k.exc=true)(e:rt V.none H=some r):aO I K F loc (call (.builtin "Exception.__init__") [.ref a,v]) (aM aN r) (a9 r) f H s:=by
 have X:=G.toTabC.In y;have hm:=(G.wZ E k aP).made;rw[aE]at hm;obtain⟨dd,a0,tb,cx,x,u,j,h4⟩:=y.rep.obj i _ _ e1 W;obtain⟨h,g,nc,t,os⟩:=s;refine GQ (Db X hm) x λh' kx ha=>?_;obtain⟨U,aa⟩:=y.set (h':=h') t (o:=.exc E J z) (o':=.exc E J z) e1 W rfl (λb ob nb eb=>kx b ob (λC=>nb<|by refine Y C ?_;exact .head _) eb)
  (λfx=>⟨dd,_,tb,cx,ha,u,by rcases j with j|⟨t,D,z1,O,z3⟩;exact .inl j;exact .inr ⟨t,D,z1,kx _ _ (λC=>by dsimp only at x;rw[C,x]at O;cases O) O,z3⟩,h4⟩)
 rw[Sx e1]at U aa;exact bj (ρ:=aN) U aa .none e
def MethP(I:Program)(K:al)(F:bG)(loc:Loc)(args:List Expr)(pos:Pos)(y:a6)(h:aq)(j:Heap)(r:R V)(fx:Value×List Value)(s:Shared):Prop:=wpAny (model I K.w) F.A (callWith pos fx.1 fx.2 (backTo pos<|starEach args F.env) []) (eA K F loc (aM aN r) y h j) (jG K F loc (a9 r) y h j) s
def mg(I:Program)(K:al)(F:bG)(loc:Loc)(args:List Expr)(pos:Pos)(pl:Sem Bool)(y:a6)(h:aq)(j:Heap)(r:R V)(u:Value)(m:Str)(s:Shared):Prop:=wpAny (model I K.w) F.A (getMethod u m pl) (MethP I K F loc args pos y h j r) (jG K F loc (a9 r) y h j) s
def OV(M:fM I K)(aa:bA I K d v)(E:CtxOk d c F)(ns:c' args=true)(st:a5 K.a3 [F.L] y h j f H s.heap)(N:aV K F loc f H s)(T:RV f s.heap (.str x) u)(e:aw (qt m) (bd (cf v c loc args H) λD H=>e' m x D H)=some r):mg I K F loc args pos pl y h j r u m s:=by obtain⟨t,aE,rfl⟩:=T.dT;exact cH e λhm e=>dD (M.str m hm) λid U W k=>getMethod_builtin (T:="str") (kh _ _ _) PySem.F.plainAttrs_str U W (λa e=>by cases e)<|lJ aa E ns st N e λD us ab H' J z ae af q O=>⟨.blt (λa C=>by cases C),f0 ae<|k aE z q O⟩
def HQ(M:fM I K)(ag:bA I K d v)(E:CtxOk d c F)(ns:c' args=true)(st:a5 K.a3 [F.L] y h j f H s.heap)(T:aV K F loc f H s)(qa:RV f s.heap (.ref i) u)(N:H[i]? =some (.list l))(e:aw (jW m) (bd (cf v c loc args H) λD H=>ob (dp H[i]?) λl=>ez m i l D H)=some r):mg I K F loc args pos pl y h j r u m s:=by obtain⟨a,d',rfl,U⟩:=qa.ex;refine cH e λhm e=>dD (M.list m hm) λid sl ty k=>?_;obtain⟨D,n,x,_⟩:=T.isList N U;refine getMethod_builtin (T:="list") ⟨_,x,rfl⟩ PySem.F.plainAttrs_list sl ty (λa e=>by obtain rfl:=PySem.Value.ref.inj e;exact a8 _ x rfl)<|lJ ag E ns st T e λD us ab H' J R' ae W q O=>⟨.blt (λa C=>by cases C),?_⟩;refine aK O λz aa O=>aU W.ext λτ af=>?_;clear e W;subst af;exact f0 ae<|k (kc aa) (fI τ U) R' q O
def Kw(e:jg o=true):o=none:=by rcases o with _|a;rfl;exact ff e
def LS(G:cu K T B)(W:de I K d O)(ah:bA I K d v)(E:CtxOk d c F)(ns:c' args=true)(st:a5 K.a3 [F.L] y h j f H s.heap)(Rl:aV K F loc f H s)(qa:RV f s.heap (.ref i) u)(N:H[i]? =some (.inst U C))(e:(aw (jg<|aC m C)<|ob (bi U T.cls) λk=>aB k.exc none<|ob (aC m k.eE) λz=>bd (cf v c loc args H) λD H=>dU T O c.hd z (.ref i::D) H)=some r):mg I K F loc args pos pl y h j r u m s:=by obtain⟨a,d',rfl,ei⟩:=qa.ex;refine cH e λhb e=>aK e λk aP e=>aS (sG e) λaE e=>aK e λz x e=>?_;have ck:=G.cls U k aP;refine ea (Rl.Ec N ei) λes n ox ag ai q=>c5 (ck.eE m z x) λav aG _=>?_;have fy:=ck.fy;rw[aE]at fy;have hl:=q.lookIn m n;rw[Kw hb]at hl;refine method_fn (G.toTabC.In Rl) ag fy ck.aP av aG (by show(lookIn m<|dictOf es n).map _=some false;exact Y hl rfl) ?_;refine lJ ah E ns st Rl e λD us ab H' J R' ae aa q e'=>?_;rw[E.hd]at e';refine⟨.dU G R' e',f0 ae<|od<|np G W E.room.o R' (.cons ?_ q) e'⟩;refine aU aa.ext λτ af=>?_;clear e R' ae aa q;subst af;exact .ref<|fI τ ei
def Mp(G:cu K T B)(W:de I K d O)(aa:bA I K d v)(E:CtxOk d c F)(ns:c' args=true)(st:a5 K.a3 [F.L] y h j f H s.heap)(C:aV K F loc f H s)(qa:RV f s.heap (.fn z) u)(e:(ob (bi z T.cls) λk=>ob (aC m k.eE) λz=>bd (cf v c loc args H) λD H=>dU T O c.hd z D H)=some r):mg I K F loc args pos pl y h j r u m s:=by refine Y qa.kA<|aK e λk aP e=>aK e λg x e=>?_;have N:=G.cls z k aP;refine uh (N.eE m g x) λav aG da fN m5 m6=>method_cls (G.toTabC.In C) N.Pa<|cls_value (G.toTabC.In C) N.reads m6 rfl<|lJ (s:={s with toks:=s.toks+1}) aa E ns st (C.toks _) e λD us ab H' J R' ae af q U=>?_;rw[E.hd]at U;exact⟨.dU G R' U,f0 ae<|od<|np G W E.room.o R' q U⟩
def Tu(e:yS o=some E):∃h f,o=.exc E h f:=by
 induction o with
 |exc j h f=>exact lX h f<|Y (aQ e) rfl
 |_=>exact aW e
def S6(G:cu K T B)(j:aV K F loc f H s)(q:aT f s.heap D us)(e:m9 T D H=some r):aO I K F loc (call (.builtin "Exception.__init__") us) (aM aN r) (a9 r) f H s:=by obtain⟨a,b,rfl,e⟩:=uv e;refine aK e λi C e=>aK e λx _ e=>aK e λo N e=>aK e λE h e=>aK e λk aP e=>cH e λaE y=>?_;rw[iK C]at q;clear e;obtain⟨u,w,rfl,J,_⟩:=q.i2;clear e q;obtain⟨p,W,rfl,z⟩:=J.ex;refine g8 (Tu h) λdj U O=>?_;clear h e;subst O;exact Iz G j N z aP aE y
def N1(G:cu K T B)(O:bA I K d v)(E:CtxOk d c F)(ns:c' args=true)(st:a5 K.a3 [F.L] y h j f H s.heap)(k:aV K F loc f H s)(N:RV f s.heap (.blt b) u)(e:zq T m H (cf v c loc args) b=some r):mg I K F loc args pos pl y h j r u m s:=by
 induction b with
 |exception=>exact Y N.tW<|cH e λhm e=>Y (show m=p9 from dn.mp hm)<|M0 (G.toTabC.In k) LI JU (Qr B) rfl<|lJ (s:={s with toks:=s.toks+1}) O E ns st (k.toks _) e λD us ab H' J x ae U q z=>⟨.blt (λa C=>by cases C),f0 ae<|S6 G x q z⟩
 |_=>exact aW e
def K7(G:cu K T B)(W:de I K d O)(M:fM I K)(z:bA I K d v)(E:CtxOk d c F)(ns:c' args=true)(st:a5 K.a3 [F.L] y h j f H s.heap)(k:aV K F loc f H s)(x:RV f s.heap (.ref i) u)(N:H[i]? =some o)(e:v3 T O c.hd i m H (cf v c loc args) o=some r):mg I K F loc args pos pl y h j r u m s:=by
 induction o with
 |list=>exact HQ M z E ns st k x N e|inst=>exact LS G W z E ns st k x N e|_=>exact aW e
def Qk(G:cu K T B)(W:de I K d O)(M:fM I K)(z:bA I K d v)(E:CtxOk d c F)(ns:c' args=true)(st:a5 K.a3 [F.L] y h j f H s.heap)(k:aV K F loc f H s)(x:RV f s.heap a u)(e:ry T O c.hd a m H (cf v c loc args)=some r):mg I K F loc args pos pl y h j r u m s:=by
 induction a using V.casesOn with
 |str=>exact OV M z E ns st k x e|blt=>exact N1 G z E ns st k x e|fn=>exact Mp G W z E ns st k x e|ref=>exact aK e λo N e=>K7 G W M z E ns st k x N e|_=>exact aW e
def JB(n:c' l=true):(backTo p<|starEach l env).all (!·.1)=true:=by
 induction l with
 |nil=>rfl|cons x l f=>have h:=(mC n).2;refine Y (rS (mC n).1) ?_;show(true&&(backTo p<|starEach l env).all (!·.1))=true;exact Y (f h) rfl
def TM(n:c' l=true)(h:l.length<30):methodCallForm (l.length+([]:List Keyword).length) (backTo p<|starEach l env) (backToKw p<|keywordEach [] env)=true:=by unfold methodCallForm;exact Y (JB n)<|ik h
def Gu(h:Nat.beq f.endLine p.line=true):methodCallPos true x env f p=pure p:=by unfold methodCallPos;refine Y (cd h) ?_;simp
def Qn(G:cu K T B)(W:de I K d O)(M:fM I K)(ae:bA I K d v)(E:CtxOk d c F)(y:aV K F loc f H s)(e:d7 T O v c loc (.Call (.Attribute x m k) args [] p) H=some r):aO I K F loc (eval (.Call (.Attribute x m k) args [] p) F.env) (aM aN r) (a9 r) f H s:=by refine cH e λh e=>?_;simp only[fP]at h;refine aS h λU N=>aS U λaa D=>aS aa λh ns=>?_;unfold aO;refine Y (arm_eval_Call ..)<|Y (Fx h)<|aX<|Sn.then (.refl ..) (ae.e E y) e λa u ab H' J j st _ q z=>aX<|dM ?_;unfold methodCall;refine Y (TM ns<|bE D)<|Y (Gu N)<|aX<|c9 ?_;unfold calleeOf;refine Y (bZ rfl)<|bX (Qk (pos:=p) G W M ae E ns st j q z) (λfx af C=>?_) λ_ _ C=>C;exact aX<|aL C
end
end
section
open Builtin Builtin.Str StrLaws
noncomputable def gb(y:List Nat):List Nat->Nat->Nat->List Nat
 |[],_,_=>[]|_::r,w+1,i=>gb y r w<|i+1
 |a::r,0,i=>match pre y (a::r)with|true=>i::gb y r (y.length-1) (i+1)|false=>gb y r 0<|i+1
def Jz(x y)(T:1<=y.length):∀r i E free,r=x.drop i->i<=x.length->E.size<=i->(forIn (List.range' i<|r.length+1) (E,free)<|occBody (tx x) (tx y) x.length<|x.length+1).run.fst.toList=E.toList++gb y r (free-i) i:=by
 intro r;induction r with
 |nil=>
  intro i E free I j f;have z:x.length<=i:=by have:=az List.length I;rw[b0]at this;simp at this;exact a7 (a4 this.symm) (cm x.length i)<|by simp+arith
  refine Y hA<|Y List.range'_succ<|Y List.range'_zero<|Y (hY ..) ?_;have k:¬(((E.size<x.length+1/\free<=i)/\i+(tx y).length<=x.length)/\subAt (tx x) (tx y) i=true):=λh=>by have:=h.1.2;rw[cJ]at this;exact km 0<|cT T z this<|by simp+arith
  unfold occBody;refine Y (bN k) ?_;show E.toList=_;unfold gb;simp
 |cons a r U=>
  intro i E free I j f;have N:i<x.length:=by have:=az List.length I;rw[b0,cv]at this;exact a7 (a4 this) (a4<|bx<|show i<=x.length from aR j<|by simp+arith)<|by simp+arith
  have O:r=x.drop (i+1):=by exact Y fc.symm<|Y I.symm rfl
  refine Y cv<|Y List.range'_succ<|Y (hY ..) ?_;have J:=oc (x:=x) (y:=y) j;rw[<-I]at J;unfold At at J;by_cases u:free<=i
  .refine Y (uS u) ?_;unfold gb;rcases D:pre y (a::r)
   .have k:¬(((E.size<x.length+1/\free<=i)/\i+(tx y).length<=x.length)/\subAt (tx x) (tx y) i=true):=λh=>by have:=J.mp ⟨h.1.2,h.2⟩;rw[D]at this;exact ff this
    conv=>lhs;unfold occBody
    refine Y (bN k) ?_;show(forIn (List.range' (i+1)<|r.length+1) (E,free)<|occBody (tx x) (tx y) x.length<|x.length+1).run.fst.toList=_;exact Y (U (i+1) _ _ O N<|jj ‹_›)<|Y (show free-(i+1)=0 by omega) rfl
   .have C:=J.mpr D;have k:(((E.size<x.length+1/\free<=i)/\i+(tx y).length<=x.length)/\subAt (tx x) (tx y) i=true):=⟨⟨⟨by exact a7 j f (by simp+arith),u⟩,C.1⟩,C.2⟩;conv=>lhs;unfold occBody
    refine Y (bZ k) ?_;show(forIn (List.range' (i+1)<|r.length+1) (E.push i,i+(tx y).length)<|occBody (tx x) (tx y) x.length<|x.length+1).run.fst.toList=_;refine Y (U (i+1) _ _ O N<|by rw[Array.size_push];exact fD ‹_›)<|Y (cJ ..)<|Y (show i+y.length-(i+1)=y.length-1 by exact ce (a7 (cm y.length 1) (a4<|bx<|show i+1<=i+y.length from aR T<|by simp+arith)<|by simp+arith)<|a7 (cm (i+y.length)<|i+1) (a4<|bx<|show 1<=y.length from aR T<|by simp+arith)<|by simp+arith) ?_;simp
  .have k:¬(((E.size<x.length+1/\free<=i)/\i+(tx y).length<=x.length)/\subAt (tx x) (tx y) i=true):=λh=>u h.1.1.2;conv=>lhs;unfold occBody
   refine Y (bN k) ?_;show(forIn (List.range' (i+1)<|r.length+1) (E,free)<|occBody (tx x) (tx y) x.length<|x.length+1).run.fst.toList=_;refine Y (U (i+1) _ _ O N<|aR f<|by simp+arith)<|Y (show free-i=(free-(i+1))+1 by exact ce (a7 (cm free<|i+1) (a4<|bx<|show i<=free from aR (Nat.lt_of_not_le u)<|by simp+arith)<|by simp+arith)<|a7 (cm free i) (a4<|bx<|show i+1<=free from aR (Nat.lt_of_not_le u)<|by simp+arith)<|by simp+arith) ?_;rfl
def rU(x y)(f:1<=y.length):occurrences (tx x) (tx y) 0 (tx x).length ((tx x).length+1)=gb y x 0 0:=by refine Y (occ_eq ..)<|Y (cJ ..) ?_;have:=Jz x y f x 0 #[] 0 (by simp) (bJ _)<|bJ _;refine Y (show x.length+1-0=x.length+1 by rfl)<|Y this ?_;simp
def xO(x)(i j):strSub (tx x) i j=tx ((x.drop i).take<|j-i):=by show Str.mk (x.toArray.extract i j)=_;exact Y List.extract_toArray rfl
theorem sb(x y)(E:1<=y.length):∀r i w start U,r=x.drop i->i<=x.length->(w=0->start<=i/\U.reverse=(x.drop start).take (i-start))->(0<w->U=[]/\start=i+w)->(bg y r w U).map tx=partsFrom (tx x) y.length start (gb y r w i)
 |[],i,w,start,U,k,j,I,h=>by
  have z:i=x.length:=by have:=az List.length k;rw[b0]at this;simp at this;exact ce (aR j<|by simp+arith)<|a7 (a4 this.symm) (cm x.length i)<|by simp+arith
  unfold bg gb partsFrom;refine Y (cJ ..)<|Y (xO ..) ?_;show[tx U.reverse]=_;rcases w with _|w;exact Y ((I rfl).2)<|Y z rfl;refine aS (h<|bT ..) λu f=>Y u (Y f ?_);have:x.length-(i+(w+1))=0:=uS<|as (a4 z.symm)<|bK ..;exact Y this<|Y List.take_zero rfl
 |a::r,i,w+1,start,U,k,j,I,h=>by
  have J:i<x.length:=by have:=az List.length k;rw[b0,cv]at this;exact a7 (a4 this) (a4<|bx<|show i<=x.length from aR j<|by simp+arith)<|by simp+arith
  have N:r=x.drop (i+1):=by exact Y fc.symm<|Y k.symm rfl
  refine aS (h<|by simp+arith) λu f=>?_;unfold bg gb;refine sb x y E r (i+1) w start U N J (λC=>?_) λC=>⟨u,by exact ce (aR (a4 f)<|by simp+arith)<|aR (a4 f.symm)<|by simp+arith⟩;refine⟨by exact a7 (a4 f) (a4 C) (by simp+arith),?_⟩;exact Y u<|Y (show i+1-start=0 by exact ce (a7 (a4 f.symm) (a4<|bx<|show start<=i+1 from a7 (a4 f) (a4 C)<|by simp+arith)<|by simp+arith)<|by simp+arith)<|Y List.take_zero rfl
 |a::r,i,0,start,U,k,j,I,h=>by
  have J:i<x.length:=by have:=az List.length k;rw[b0,cv]at this;exact a7 (a4 this) (a4<|bx<|show i<=x.length from aR j<|by simp+arith)<|by simp+arith
  have N:r=x.drop (i+1):=by exact Y fc.symm<|Y k.symm rfl
  refine aS (I rfl) λf u=>?_;unfold bg gb;rcases D:pre y (a::r)
  .dsimp only;refine sb x y E r (i+1) 0 start (a::U) N J (λ_=>⟨by exact jj ‹_›,?_⟩) λC=>absurd C<|n9 0;refine Y nK<|Y u<|Y (show i+1-start=(i-start)+1 by exact ce (a7 (cm i start) (a4<|bx<|show start<=i+1 from aR f<|by simp+arith)<|by simp+arith)<|a7 (cm (i+1) start) (a4<|bx<|show start<=i from aR f<|by simp+arith)<|by simp+arith)<|Y List.take_add_one ?_;congr 1;refine Y uL<|Y (show start+(i-start)=i by exact ce (aR (a4<|bx<|show start<=i from aR f<|by simp+arith)<|by simp+arith)<|aR (cm i start)<|by simp+arith) ?_;have:x[i]? =(a::r)[0]? :=by refine Y k<|Y uL ?_;rfl
   exact Y this rfl
  dsimp only;refine Y hE ?_;unfold partsFrom;refine Y (xO ..)<|Y u.symm ?_;congr 1;refine sb x y E r (i+1) (y.length-1) (i+y.length) [] N J (λC=>?_) λC=>⟨rfl,by exact ce (aR (cm y.length 1)<|by simp+arith)<|aR (a4<|bx<|show 1<=y.length from aR E<|by simp+arith)<|by simp+arith⟩;refine⟨by exact a7 (a4 C) (cm y.length 1) (by simp+arith),?_⟩;exact Y (show i+1-(i+y.length)=0 by exact ce (a7 E (a4<|bx<|show i+y.length<=i+1 from a7 (a4 C) (cm y.length 1)<|by simp+arith)<|by simp+arith)<|by simp+arith)<|Y List.take_zero rfl
def Mn(x y)(f:1<=y.length):partsBetween (tx x) (occurrences (tx x) (tx y) 0 (tx x).length<|(tx x).length+1) (tx y).length=(bg y x 0 []).map tx:=by exact Y (rU x y f)<|Y (partsBetween_eq ..)<|Y (cJ ..)<|Y (sb x y f x 0 0 0 [] (by simp) (bJ _) (λ_=>⟨ba _,by simp⟩) λC=>by decide) rfl
noncomputable def lZ(y:List Nat):List (List Nat)->List Nat|[]=>[]|a::r=>y++a++lZ y r
theorem z9(y a):∀r,jn y (a::r)=a++lZ y r
 |[]=>by simp[jn,lZ]
 |b::r=>by show a++y++jn y (b::r)=_;refine Y (z9 y b r) ?_;simp[lZ,bq]
def Me(y):∀r U,((r.map tx).foldl (λU p=>U++(tx y).cps++p.cps) U.toArray)=(U++lZ y r).toArray:=by
 intro r;induction r with
 |nil=>intro U;simp[lZ]
 |cons a r f=>
  intro U;refine Y hE<|Y List.foldl_cons ?_;have:U.toArray++(tx y).cps++(tx a).cps=(U++y++a).toArray:=by simp
  refine Y this<|Y (f ..) ?_;simp[lZ,bq]
def rI(y)(N):glued (tx y) (N.map tx)=tx (jn y N):=by unfold glued;rcases N with _|⟨a,r⟩;rfl;refine Y (z9 ..) ?_;show Str.mk (((r.map tx)).foldl (λ(U:Array Nat) p=>U++(tx y).cps++p.cps) a.toArray)=_;exact Y (Me ..) rfl
def KY(k)(N)(n):(N.map tx).toArray.foldl (λU p=>U+p.length+k) n=n+b8 N+N.length*k:=by
 refine Y (Array.foldl_toList ..).symm ?_;show(N.map tx).foldl (λU p=>U+p.length+k) n=_;induction N generalizing n with
 |nil=>simp[b8]|cons a r f=>rw[hE,List.foldl_cons,f,cJ,cv,b8,Nat.succ_mul];exact ce (by simp+arith)<|by simp+arith
def TQ:∀{D k},aT f h l D->k0 l=some k->∃N,D=strValues N/\N.map (·.1)=k.map tx:=by
 induction l with
 |nil=>intro D k q e;exact Y q.i0<|Y (aQ e).symm<|a8 ([]) rfl rfl
 |cons a l z=>intro D k q e;obtain⟨u,us,rfl,y,C⟩:=q.eS;refine aK e λx aE e=>aK e λI e1 e=>?_;rw[jv aE]at y;obtain⟨t,_,rfl⟩:=y.dT;refine aZ (z C e1) λN E j=>?_;subst E;exact Y (aQ e).symm<|a8 ((tx x,t)::N) rfl<|Y hE<|Y j<|Y hE rfl
def P':∀{N:List (List Nat)}(t:Tok),(∀p∈N,p.length<=lim)->aT f h (N.map .str) (strsFrom t<|N.map tx):=by
 intro N;induction N with
 |nil=>intro _ _;exact .nil
 |cons p N j=>intro t hl;exact .cons (.str<|hl p<|.head _)<|j (t+1) λq m=>hl q<|.tail _ m
def OM:qM=("startswith":Str):=by decide+kernel
def IH:qc=("endswith":Str):=by decide+kernel
def LV:mJ=("find":Str):=by decide+kernel
def O7:pM=("join":Str):=by decide+kernel
def M5:q7=("split":Str):=by decide+kernel
def HA:tP=("replace":Str):=by decide+kernel
def L8(x y)(i)(t u v):Gives («str.endswith» ⟨[.str x t,.str y u,.int i v],[]⟩) (.val<|.bool<|fromIndex x.length i+y.length<=x.length&&subAt x y (x.length-y.length)):=by show Gives (ret<|.bool<|fromIndex x.length i+y.length<=min x.length x.length&&subAt x y (min x.length x.length-y.length)) _;exact Y (Nat.min_self ..)<|.of_eq rfl
def T7(x y)(i):(decide (fromIndex (tx x).length (Int.ofNat i)+(tx y).length<=(tx x).length)&&subAt (tx x) (tx y) ((tx x).length-(tx y).length))=(Nat.ble (i+y.length) x.length&&b2 x y):=by
 refine Y (cJ ..)<|Y (cJ ..)<|Y (vQ ..) ?_;have:=EJ x y;unfold Txt.endswith at this;rw[cJ,cJ]at this;by_cases h:i+y.length<=x.length;have j:(0+y.length<=x.length):=aR h (by simp+arith);rw[ik j,Bool.true_and]at this;exact Y (ik h)<|Y this<|Y (Nat.ble_eq.mpr h) rfl
 .have f:Nat.ble (i+y.length) x.length=false:=by rcases q:Nat.ble (i+y.length) x.length;rfl;exact absurd (bE q) h
  exact Y (jV h)<|Y f rfl
def PC:∀{y},ms y=true->Builtin.Str.strKind (tx y)=1:=by
 intro y h;unfold Builtin.Str.strKind;have:(tx y).cps.all (λc=>decide<|c<256)=true:=by
  show y.toArray.all _=true;refine Y List.all_toArray ?_;induction y with
  |nil=>rfl|cons c r j=>unfold ms at h;split at h;rename_i f;exact Y List.all_cons<|Y (j h)<|Y (Bool.and_true ..)<|ik<|bE f;exact ff h
 exact Y (bZ this) rfl
def QE(h:n<=lim):tooLong n=false:=by have k:=fp;unfold tooLong;exact jV<|by lia
theorem tn(y):∀r w U,∀p∈bg y r w U,p.length<=U.length+r.length
 |[],w,U,p,m=>by unfold bg at m;refine Y (b9.mp m) ?_;simp
 |a::r,w+1,U,p,m=>by unfold bg at m;have:=tn y r w U p m;simp;exact jj ‹_›
 |a::r,0,U,p,m=>by
  unfold bg at m;split at m;rcases bC.mp m with rfl|m;simp;have:=tn y r _ [] p m;simp at this⊢;exact aR this<|by simp+arith
  have:=tn y r 0 (a::U) p m;simp at this⊢;exact aR this<|by simp+arith
theorem sj(y):∀r w U,(bg y r w U).length<=r.length+1
 |[],w,U=>by unfold bg;simp
 |a::r,w+1,U=>by unfold bg;have:=sj y r w U;simp;exact jj ‹_›
 |a::r,0,U=>by unfold bg;split;have:=sj y r (y.length-1) [];simp;omega;have:=sj y r 0 (a::U);simp;exact jj ‹_›
def F'(h:br [a] x=none):(occurrences (tx x) (tx [a]) 0 (tx x).length<|(tx x).length+1).isEmpty=true:=by have:=qV x [a] 0 (x.length+1) (bT ..)<|.inl<|bJ _;rw[iV]at this;refine Y (cJ ..) ?_;rcases this with⟨_,z⟩|⟨j,r,k,_⟩;exact Y z rfl;rw[h]at k;exact aW k
section
variable{K:al}
def Hi(W:aV K F loc f H s)(aE:x.length<=1000000)(U:1<=y.length)(T:ms y=true)(e:rt (.ref H.length) (H++[.list<|(bg y x 0 []).map .str])=some r):aO I K F loc (call (.builtin "str.split") [.str (tx x) t,.str (tx y) u]) (aM aN r) (a9 r) f H s:=by
 have hl:x.length<=lim:=as aE<|by decide
 have ah:∀p∈bg y x 0 [],p.length<=lim:=λp m=>by have:=tn y x 0 [] p m;simp at this;exact as ‹_› ‹_›
 have af:(bg y x 0 []).length<=lim:=by
  have:=sj y x 0 [];have:x.length+1<=lim:=as (fD aE)<|by decide
  exact as ‹_› ‹_›
 have bp:∀{D:List Value}{J:Shared},aT f s.heap ((bg y x 0 []).map .str) D->J={s with heap:=s.heap.push {cls:=.type "list",data:=.seq D.toArray},toks:=J.toks}->eA K F loc (aM aN r) f H s.heap (.ref s.heap.objs.size) J:=λ{D J} q es=>by
  obtain⟨R',st⟩:=W.add (o:=.list<|(bg y x 0 []).map .str) (p:=(s.heap.objs.size,0)) (h':=s.heap.push {cls:=.type "list",data:=.seq D.toArray}) J.toks (λb ob e=>b4 _ e)
   (λa m=>by refine Y (b9.mp m) ?_;exact⟨ej _,W.hP<|ej _⟩) (eo.mpr ⟨by simp,jR⟩)
   (λfx=>⟨D,0,dP _ rfl,by refine Y q.length<|Y (pS ..) ?_;exact af,q.keep _ fx⟩)
  refine Y es<|bj (ρ:=aN) R' st (RV.ref (d:=0) ?_) e;refine Y W.rep.len.symm<|Y (dr<|ba _)<|Y (er ..) ?_;rfl
 have aP:decide (Builtin.Str.strKind (tx x)<Builtin.Str.strKind (tx y))=false:=by
  refine Y (PC T) ?_;have:1<=Builtin.Str.strKind (tx x):=by unfold Builtin.Str.strKind;split<;>(try split)<;>decide
  exact jV<|qu<|aR this<|by simp+arith
 have ae:=Mn x y U;have ag:((tx y).length==0)=false:=by refine Y (cJ ..) ?_;simp;intro C;clear T e;subst C;simp at U
 have fU:gb y x 0 0=[]->bg y x 0 []=[x]:=λC=>by
  have z:=ae;rw[rU x y U,C]at z;have E:(bg y x 0 []).map tx=[tx x]:=by refine Y z.symm<|Y (partsBetween_eq ..) ?_;unfold partsFrom;refine Y (cJ ..)<|Y (xO ..) ?_;simp
  revert E;rcases q:bg y x 0 []with _|⟨p,N⟩;intro E;cases E;intro E;rcases N;simp only[hE,List.map_nil,List.cons.injEq,and_true]at E;have:=az (λC:Str=>C.cps.toList) E;simpa using this;cases E
 by_cases aa:x.length<y.length
 .have ab:gb y x 0 0=[]:=by
   rcases q:gb y x 0 0 with _|⟨i,l⟩;rfl
   .exfalso
    have k:=qV x y 0 (x.length+1) (bT ..)<|.inl<|bJ _;have z:=rU x y U;rw[cJ]at z;rw[z,q]at k;rcases k with⟨_,h⟩|⟨j,r',h,_⟩;cases h;refine c5 (jQ h) λg1 g2 _=>?_;have:=j2 g2;simp at this;exact km 0<|cT aa this (gj x.length j)<|by simp+arith
  refine l6 PySem.F.slot_str_split (kh _ _ _) PySem.F.entry_str_split (PySem.F.args_str_split_2 _ _) (meets_str_split_cannot_occur (tx x) (tx y) t u<|by exact Y (cJ ..)<|Y (cJ ..)<|Y (ik aa) rfl) ?_;refine bp (D:=[.str (tx x) t]) ?_ rfl;exact Y (fU ab)<|.cons (.str hl) .nil
 .have k:(decide ((tx x).length<(tx y).length)||decide (Builtin.Str.strKind (tx x)<Builtin.Str.strKind (tx y)))=false:=by exact Y aP (Y (cJ ..)<|Y (cJ ..)<|Y (jV aa) rfl)
  rcases O:(occurrences (tx x) (tx y) 0 (tx x).length ((tx x).length+1)).isEmpty;refine l6 PySem.F.slot_str_split (kh _ _ _) PySem.F.entry_str_split (PySem.F.args_str_split_2 _ _) (meets_str_split_sep (tx x) (tx y) t u k ag O (by refine Y (cJ ..) ?_;exact as hl fp)<|by refine Y ae<|Y (pS ..) ?_;exact as af fp) ?_;exact Y ae<|bp (P' _ ah) rfl
  .refine l6 PySem.F.slot_str_split (kh _ _ _) PySem.F.entry_str_split (PySem.F.args_str_split_2 _ _) (meets_str_split_not_found (tx x) (tx y) t u k ag O) (bp (D:=[.str (tx x) t]) ?_ rfl);have ab:gb y x 0 0=[]:=by refine Y (rU x y U).symm ?_;exact List.isEmpty_iff.mp O
   exact Y (fU ab)<|.cons (.str hl) .nil
end
end
section
variable{K:al}{loc:Loc}
def PS:hX=("append":Str):=by decide+kernel
def PP:kk=("pop":Str):=by decide+kernel
def J5:jc=("extend":Str):=by decide+kernel
def aV.DM(R:aV K F loc f H s)(e1:H[i]? =some (.list l))(u:f[i]? =some (a,d))(h:s.heap.get? a=some (ep D n))(z)(y:(z D.toArray).toList=U)(hl:j.length<=lim)(q:aT f s.heap j U):aV K F loc f (H.set i<|.list j) {s with heap:=s.heap.update a<|Obj.mapSeq z}/\a5 K.a3 [F.L] f H s.heap f (H.set i<|.list j) (s.heap.update a<|Obj.mapSeq z):=by
 refine aU (u5 z h) λE k=>?_;rw[y]at k;exact R.set s.toks e1 u rfl
  (λb ob I x=>((kF _ _ _).2 b λC=>I<|by refine Y C ?_;exact .head _).trans x)
  (λfx=>⟨U,E,k,by refine Y q.length ?_;exact hl,q.fx fx⟩)
def FG(q:aT f h l D)(e:l.getLast?=some v):∃u,D[D.length-1]? =some u/\RV f h v u/\aT f h l.dropLast D.dropLast:=by
 have j:l[l.length-1]? =some v:=by refine Y List.getLast?_eq_getElem?.symm ?_;exact e
 refine aZ (q.get j) λu k x=>fE u (by refine Y q.length ?_;exact k) x ?_;exact Tc q
def T8(e1:H[i]? =some (.list l))(h:f[i]? =some (a,d))(R:aV K F loc f H s)(q:aT f s.heap D us)(e:ez hX i l D H=some r):aO I K F loc (call (.builtin "list.append")<|.ref a::us) (aM aN r) (a9 r) f H s:=by
 have e:=e;obtain⟨v,rfl,e⟩:=iu e;obtain⟨u,rfl,T⟩:=q.i1;obtain⟨y,e⟩:=i4 e;obtain⟨W,n,E,J,j⟩:=R.isList e1 h;refine z8 E J λh' N z U=>?_;obtain⟨k,st⟩:=R.set s.toks (o':=.list<|l++[v]) e1 h rfl
  (λb ob O x=>(U.2 b λC=>O<|by refine Y C ?_;exact .head _).trans x)
  (λfx=>⟨W++[u],N,z,by refine Y a0<|Y j.length ?_;exact hT y,(j.fx fx).append<|.cons (T.fx fx) .nil⟩)
 exact bj (ρ:=aN) k st .none e
def Su(e1:H[i]? =some (.list l))(k:f[i]? =some (a,d))(R:aV K F loc f H s)(q:aT f s.heap D us)(e:ez kk i l D H=some r):aO I K F loc (call (.builtin "list.pop")<|.ref a::us) (aM aN r) (a9 r) f H s:=by
 rcases D
 .obtain rfl:=q.i0;have e:(match l.getLast? with
   |some v=>rt v<|H.set i<|.list l.dropLast
   |none=>none)=some r:=e
  revert e;rcases C:l.getLast? with _|v;intro e;exact(gn e).elim;intro e;obtain⟨h,n,j,x,y⟩:=R.isList e1 k;refine dD (FG y C) λu E k2 J=>l6 PySem.F.slot_list_pop ⟨_,j,rfl⟩ PySem.F.entry_list_pop (PySem.F.args_list_pop_1 _) (PySem.MeetsSeq.list_pop_last a h.toArray n u (by simpa using E)<|by refine Y dg ?_;exact as x fp) ⟨j,?_⟩;obtain⟨z,st⟩:=R.DM e1 k j (λN=>N.eraseIdxIfInBounds<|h.toArray.size-1) (by show((h.toArray).eraseIdxIfInBounds<|h.toArray.size-1).toList=_;exact Y Array.toList_eraseIdxIfInBounds<|Y dg<|Y List.eraseIdx_length_sub_one rfl) (by refine Y List.length_dropLast<|Y y.length.symm ?_;exact as (gj ..) x) J;exact bj z st (k2.at st R) e
 exact(gn e).elim
def Rj(e1:H[i]? =some (.list l))(J:f[i]? =some (a,d))(R:aV K F loc f H s)(q:aT f s.heap D us)(e:ez jc i l D H=some r):aO I K F loc (call (.builtin "list.extend")<|.ref a::us) (aM aN r) (a9 r) f H s:=by
 have e:=e;obtain⟨v,rfl,e⟩:=iu e;obtain⟨u,rfl,q1⟩:=q.i1;refine aZ (r2 e) λj aa e=>?_;subst aa;obtain⟨b,d',rfl,W⟩:=q1.ex;refine aZ (q2 e) λk aP e=>cH e λy e=>?_;have hl:=hT (cY.mp y).1;obtain⟨T,n,z,g2,N⟩:=R.isList e1 J;obtain⟨E,n',k1,k2,O⟩:=R.isList aP W;have h:T.toArray.size+E.toArray.size<=sizeLine:=by refine Y dg<|Y dg<|Y N.length<|Y O.length ?_;exact as hl fp
 refine l6 PySem.F.slot_list_extend ⟨_,z,rfl⟩ PySem.F.entry_list_extend (PySem.F.args_list_extend_2 _ _) (PySem.AutoSeq1.list_extend_list_list_0 a T.toArray n b E.toArray n' ?_ (as ‹_›<|by decide)<|jj ‹_›) ⟨z,k1,?_⟩;simp only[fP,not_and];intro _ C;exact absurd (sJ C)<|q9.mpr h;refine aS (R.DM e1 J z (λx=>x++E.toArray) (by simp) (by refine Y a0 ?_;exact hl)<|N.append O) λU st=>?_;exact bj U st .none e
def Jc(m)(hm:jW m=true):∃id,Slot "list" m id/\typeOf (.builtin id)=pure (.type "method_descriptor")/\∀{F loc f H s i a d l D us r},H[i]? =some (.list l)->f[i]? =some (a,d)->aV K F loc f H s->aT f s.heap D us->ez m i l D H=some r->aO I K F loc (call (.builtin id)<|.ref a::us) (aM aN r) (a9 r) f H s:=by
 induction h:sq hX m with
 |true=>clear hm;obtain rfl:=dn.mp h;exact fE ("list.append") (by refine Y PS ?_;exact PySem.F.slot_list_append) PySem.F.type_list_append T8
 |false=>
 induction j:sq kk m with
 |true=>clear hm h;obtain rfl:=dn.mp j;exact fE ("list.pop") (by refine Y PP ?_;exact PySem.F.slot_list_pop) PySem.F.type_list_pop Su
 |false=>
 rcases k:sq jc m;unfold jW dX dX dX dX at hm;rw[h,j,k]at hm;exact ff hm;clear hm h j;obtain rfl:=dn.mp k;exact fE ("list.extend") (by refine Y J5 ?_;exact PySem.F.slot_list_extend) PySem.F.type_list_extend Rj
end
section
open Builtin Builtin.Str StrLaws
section
variable{I:Program}{K:al}
def Ow(j:aV K F loc f H s)(q:aT f s.heap D us)(e:e' qM x D H=some r):aO I K F loc (call (.builtin "str.startswith")<|.str (tx x) t::us) (aM aN r) (a9 r) f H s:=by have e:=e;rcases ua e with⟨y,rfl,e⟩|⟨y,i,rfl,e⟩;obtain⟨u,rfl,h⟩:=q.i1;obtain⟨C,k,rfl⟩:=h.dT;refine call_gives PySem.F.slot_str_startswith (kh _ _ _) PySem.F.entry_str_startswith (PySem.F.args_str_startswith_2 _ _) (gives_str_startswith _ _ _ _) ?_;have:=Mf x y;unfold Txt.startswith at this;exact Y (show(0+(tx _).length<=(tx x).length&&subAt (tx x) (tx _) 0)=_ from this)<|bj j (.refl ..) .bool e;obtain⟨u,w,rfl,h,z⟩:=q.i2;obtain⟨C,k,rfl⟩:=h.dT;obtain⟨E,rfl⟩:=z.cG;exact SC.startswith3<|Y (S5 ..)<|bj j (.refl ..) .bool e
def Tt(j:aV K F loc f H s)(q:aT f s.heap D us)(e:e' qc x D H=some r):aO I K F loc (call (.builtin "str.endswith")<|.str (tx x) t::us) (aM aN r) (a9 r) f H s:=by have e:=e;rcases ua e with⟨y,rfl,e⟩|⟨y,i,rfl,e⟩;obtain⟨u,rfl,h⟩:=q.i1;obtain⟨C,k,rfl⟩:=h.dT;refine call_gives PySem.F.slot_str_endswith (kh _ _ _) PySem.F.entry_str_endswith (PySem.F.args_str_endswith_2 _ _) (gives_str_endswith _ _ _ _) ?_;have:=EJ x y;unfold Txt.endswith at this;exact Y (show(0+(tx _).length<=(tx x).length&&subAt (tx x) (tx _) ((tx x).length-(tx _).length))=_ from this)<|bj j (.refl ..) .bool e;obtain⟨u,w,rfl,h,z⟩:=q.i2;obtain⟨C,k,rfl⟩:=h.dT;obtain⟨E,rfl⟩:=z.cG;exact call_gives PySem.F.slot_str_endswith (kh _ _ _) PySem.F.entry_str_endswith (PySem.F.args_str_endswith_3 _ _ _) (L8 _ _ _ _ _ _)<|Y (T7 ..)<|bj j (.refl ..) .bool e
def Tp(k:aV K F loc f H s)(q:aT f s.heap D us)(e:e' mJ x D H=some r):aO I K F loc (call (.builtin "str.find")<|.str (tx x) t::us) (aM aN r) (a9 r) f H s:=by have e:=e;rcases ua e with⟨y,rfl,e⟩|⟨y,i,rfl,e⟩;obtain⟨u,rfl,j⟩:=q.i1;obtain⟨C,h,rfl⟩:=j.dT;refine call_gives PySem.F.slot_str_find (kh _ _ _) PySem.F.entry_str_find (PySem.F.args_str_find_2 _ _) (gives_str_find _ _ _ _) ?_;show(Made.int<|Txt.find (tx x)<|tx _).post _ _;exact Y (Js ..)<|bj (k.toks _) (.refl ..) .int e;obtain⟨u,w,rfl,j,z⟩:=q.i2;obtain⟨C,h,rfl⟩:=j.dT;obtain⟨E,rfl⟩:=z.cG;obtain⟨h,e⟩:=i4 e;exact SC.find3<|Y (S' _ _ _<|bE h)<|bj (k.toks _) (.refl ..) .int e
theorem Fe:∀f,(jn x f).length<=b8 f+f.length*x.length
 |[]=>by simp[jn,b8]
 |[a]=>by simp[jn,b8]
 |a::b::r=>by have:=Fe (x:=x)<|b::r;show(a++x++jn x (b::r)).length<=a.length+b8 (b::r)+(r.length+1+1)*x.length;refine Y a0<|Y a0<|Y (Nat.succ_mul ..) ?_;simp only[cv]at this;exact aR this<|by simp+arith
def Iu{j:Nat}(D:aV K F loc f H s)(U:f[j]? =some (a,d))(hj:H[j]? =some (.list l))(aa:k0 l=some u)(e:aw (cr<|b8 u+u.length*x.length) (rt (V.str<|jn x u) H)=some r):aO I K F loc (call (.builtin "str.join") [.str (tx x) t,.ref a]) (aM aN r) (a9 r) f H s:=by
 refine cH e λh e=>?_;have hl:=hT h;obtain⟨ws,n,W,g2,E⟩:=D.isList hj U;refine aZ (TQ E aa) λN ab z=>?_;clear g2 E;subst ab;refine l6 PySem.F.slot_str_join (kh _ _ _) PySem.F.entry_str_join (PySem.F.args_str_join_2 _ _) (meets_str_join_list (tx x) t a N ?_) ⟨⟨_,W,rfl,_,rfl⟩,?_⟩;refine Y z ?_;have:=KY (tx x).length u 0;rw[cJ,eT]at this;exact Y (show(u.map tx).toArray.foldl (λx1 x2=>x1+x2.length+(tx x).length) 0=b8 u+u.length*x.length from by rw[cJ];exact this)<|QE hl
 .have C:=as (Fe u) hl;have bp:∀T k,eA K F loc (aM aN r) f H s.heap (.str (tx<|jn x u) T) {s with toks:=k}:=λT k=>bj (D.toks k) (.refl ..) (.str C) e;match N,u,z,bp with
  |[p],u,z,bp=>show eA K F loc (aM aN r) f H s.heap (.str p.1 p.2) s;rcases u with _|⟨y,u⟩;simp at z;rcases u;simp only[hE,List.map_nil,List.cons.injEq,and_true]at z;exact Y z<|bp p.2 s.toks;simp at z
  |[],u,z,bp=>refine⟨?_,?_⟩;show(glued (tx x)<|([]:List<|Str×Tok).map (·.1)).length<=sizeLine;exact Y z<|Y (rI ..)<|Y (cJ ..)<|as C fp;show eA K F loc (aM aN r) f H s.heap (.str (glued (tx x)<|([]:List<|Str×Tok).map (·.1)) s.toks) {s with toks:=s.toks+1};exact Y z<|Y (rI ..)<|bp _ _
  |p::J::O,u,z,bp=>refine⟨?_,?_⟩;show(glued (tx x)<|(p::J::O).map (·.1)).length<=sizeLine;exact Y z<|Y (rI ..)<|Y (cJ ..)<|as C fp;show eA K F loc (aM aN _) f H s.heap (.str (glued (tx x)<|(p::J::O).map (·.1)) s.toks) {s with toks:=s.toks+1};exact Y z<|Y (rI ..)<|bp _ _
def FU(h:aV K F loc f H s)(q:aT f s.heap D us)(e:e' pM x D H=some r):aO I K F loc (call (.builtin "str.join")<|.str (tx x) t::us) (aM aN r) (a9 r) f H s:=by have e:=e;obtain⟨v,rfl,e⟩:=iu e;obtain⟨u,rfl,C⟩:=q.i1;refine aZ (r2 e) λj E e=>?_;subst E;obtain⟨a,d,rfl,k⟩:=C.ex;exact aZ (q2 e) λl y e=>aK e λJ z e=>Iu h k y z e
def PJ(k:aV K F loc f H s)(q:aT f s.heap D us)(e:e' q7 x D H=some r):aO I K F loc (call (.builtin "str.split")<|.str (tx x) t::us) (aM aN r) (a9 r) f H s:=by have e:=e;obtain⟨v,rfl,e⟩:=iu e;obtain⟨u,rfl,z⟩:=q.i1;refine aZ (pm e) λy C e=>?_;subst C;obtain⟨J,E,rfl⟩:=z.dT;refine cH e λj e=>?_;have j:=cY.mp j;have h:=cY.mp j.1;exact Hi k (bE j.2) (bE h.1) h.2 e
def Tx(aE:x.length<=lim)(E:aV K F loc f H s)(q:aT f s.heap D us)(e:e' tP x D H=some r):aO I K F loc (call (.builtin "str.replace")<|.str (tx x) t::us) (aM aN r) (a9 r) f H s:=by
 have e:g' D (λa b=>vStr a λy=>vStr b λC=>n0 y λc=>n0 C λ_=>match br [c] x with|none=>rt (.str x) H|some _=>none)=some r:=e
 obtain⟨v,w,rfl,e⟩:=uv e;obtain⟨u,k,rfl,J,N⟩:=q.i2;refine aZ (pm e) λy O e=>?_;subst O;refine aZ (pm e) λC T e=>?_;subst T;refine aZ (wD e) λc U e=>?_;subst U;refine aZ (wD e) λc' W z=>?_;subst W;obtain⟨t',hy,rfl⟩:=J.dT;obtain⟨aa,hz,rfl⟩:=N.dT;revert z;rcases h:br [c] x;intro z;have j:=F' h;exact call_gives PySem.F.slot_str_replace (kh _ _ _) PySem.F.entry_str_replace (PySem.F.args_str_replace_3 _ _ _) (gives_str_replace _ _ _ _ _ _ λC=>by rw[j]at C;exact ff<|C.symm)<|Y j<|Y (Bool.true_or ..)<|Y (bZ rfl)<|bj E (.refl ..) (.str aE) z;intro z;exact(gn z).elim
def NI(I)(K):fM I K:=by refine⟨λm hm=>?_,λm hm=>Jc m hm⟩;have h:=Dm hm;clear hm;rcases bC.mp h with rfl|h;exact fE ("str.startswith") (by refine Y OM ?_;exact PySem.F.slot_str_startswith) PySem.F.type_str_startswith λ_ R q e=>Ow R q e;rcases bC.mp h with rfl|h;exact fE ("str.endswith") (by refine Y IH ?_;exact PySem.F.slot_str_endswith) PySem.F.type_str_endswith λ_ R q e=>Tt R q e;rcases bC.mp h with rfl|h;exact fE ("str.find") (by refine Y LV ?_;exact PySem.F.slot_str_find) PySem.F.type_str_find λ_ R q e=>Tp R q e;rcases bC.mp h with rfl|h;exact fE ("str.join") (by refine Y O7 ?_;exact PySem.F.slot_str_join) PySem.F.type_str_join λ_ R q e=>FU R q e;rcases bC.mp h with rfl|h;exact fE ("str.split") (by refine Y M5 ?_;exact PySem.F.slot_str_split) PySem.F.type_str_split λ_ R q e=>PJ R q e;obtain rfl:=b9.mp h;exact fE ("str.replace") (by refine Y HA ?_;exact PySem.F.slot_str_replace) PySem.F.type_str_replace λaE R q e=>Tx aE R q e
end
end
def Dc:∀n,n<10->(Nat.digitChar n).toNat=48+n:=by decide
theorem Dh:∀z g n U ds,n<10^(z+1)->n<g->ds.map Char.toNat=U->(Nat.toDigitsCore 10 g n ds).map Char.toNat=hI (z+1) n U
 |z,0,n,U,ds,_,h,_=>absurd h<|hy _
 |z,g+1,n,U,ds,x,y,e=>by
  unfold Nat.toDigitsCore hI;dsimp only;by_cases E:n<10
  .refine Y (bZ<|Nat.div_eq_of_lt E) ?_;have f:Nat.ble 10 n=false:=by rcases q:Nat.ble 10 n;rfl;exact absurd E<|q9.mpr<|bE q
   exact Y f<|Y hE<|Y e<|Y (Nat.mod_eq_of_lt E)<|Y (Dc n E) rfl
  have f:Nat.ble 10 n=true:=Nat.ble_eq.mpr (aR (md E)<|by simp+arith);refine Y (bN λC=>(Nat.div_eq_zero_iff.mp C).elim (λC=>absurd C<|by decide) E)<|Y f ?_;dsimp only;rcases z with _|z;exact absurd (show n<10 from x) E;refine Dh z g (n/10) _ _ ?_ (cB (Nat.div_lt_self (cB (by decide)<|md E)<|by decide)<|eX y) (by exact Y hE<|Y e<|Y (Dc _<|nN _<|by decide) rfl);rw[Nat.div_lt_iff_lt_mul<|by decide];rw[Nat.pow_succ]at x;exact x
def NE(h:n<=10000000):Str.ofString (toString<|Int.ofNat n)=⟨(hI 30 n []).toArray⟩:=by refine Y (Str.ofString_eq_toList ..) ?_;show Str.mk ((String.ofList<|Nat.toDigits 10 n).toList.map Char.toNat).toArray=_;refine Y String.toList_ofList ?_;unfold Nat.toDigits;exact Y (Dh 29 (n+1) n [] [] (fj h<|by decide) (o0 _) rfl) rfl
def MG:∀z n U,(hI z n U).length<=U.length+z:=by
 intro z;induction z with
 |zero=>intro n U;unfold hI;simp
 |succ z f=>
  intro n U;unfold hI;split;have:=f (n/10) ((48+n%10)::U);simp at this⊢;exact aR this<|by simp+arith
  simp
def insI_perm(x):∀l,(insI x l).Perm (x::l):=by
 intro l;induction l with
 |nil=>exact .refl _|cons y r f=>simp only[insI];split;exact((f).cons y).trans<|.swap ..;exact .refl _
def sortI_perm:∀l,(sortI l).Perm l:=by
 intro l;induction l with
 |nil=>exact .refl _|cons x r f=>exact(insI_perm x _).trans<|(f).cons x
def Ul(x):∀{l},l.Pairwise (·<=·)->(insI x l).Pairwise (·<=·):=by
 intro l;induction l with
 |nil=>intro _;simp[insI]
 |cons y r j=>intro h;simp only[insI];have h':=sH.mp h;split;rename_i f;rw[hM,gV]at f;refine sH.mpr ⟨λC m=>?_,j h'.2⟩;rcases bC.mp ((insI_perm x r).mem_iff.mp m)with rfl|m;lia;exact h'.1 C m;rename_i f;rw[hM,B5]at f;refine sH.mpr ⟨λC m=>?_,h⟩;rcases bC.mp m with rfl|m;omega;have:=h'.1 C m;omega
def PI:∀l,(sortI l).Pairwise (·<=·):=by
 intro l;induction l with
 |nil=>simp[sortI]|cons x r f=>exact Ul x<|f
theorem yY:∀{l k:List Int},l.Perm k->l.Pairwise (·<=·)->k.Pairwise (·<=·)->l=k
 |[],k,p,_,_=>(List.nil_perm.mp p).symm|a::l,[],p,_,_=>by simpa using p.length_eq
 |a::l,b::k,p,x,y=>by
  have f:=sH.mp x;have h:=sH.mp y;have j:a=b:=by have av:=p.mem_iff.mp<|.head _;have aG:=p.mem_iff.mpr<|.head _;rcases bC.mp av with e|av;exact e;rcases bC.mp aG with e|aG;exact e.symm;have:=h.1 a av;have:=f.1 b aG;grind
  clear y;subst j;exact Y (yY (List.Perm.cons_inv p) f.2 h.2) rfl
def Mk:∀{D ns},aT f h l D->mA l=some ns->IntsAre D ns:=by
 induction l with
 |nil=>intro D ns q e;exact Y q.i0<|Y (aQ e).symm .nil
 |cons a l k=>intro D ns q e;obtain⟨u,us,rfl,j,y⟩:=q.eS;refine aK e λx aE e=>aK e λz e1 e=>?_;rw[fA aE]at j;clear q;obtain⟨t,rfl⟩:=j.cG;exact Y (aQ e).symm<|.cons _ _<|k y e1
def wy(q:IntsAre D ns):aT f h (ns.map .int) D:=by
 induction q with
 |nil=>exact .nil|cons n t _ j=>exact .cons .int j
section
variable{K:al}{F:bG}{loc:Loc}{f:a6}{H:aq}{s:Shared}{r:R V}{u:Value}
def Oq(y:aV K F loc f H s)(q:RV f s.heap a u)(e:zv a H=some r):aO I K F loc (call ey.len.val [u]) (aM aN r) (a9 r) f H s:=by
 induction a using V.casesOn with
 |str x=>obtain⟨t,aE,rfl⟩:=q.dT;have h:Str.length ⟨x.toArray⟩=x.length:=dg;refine PySem.P.len_str (by refine Y h ?_;exact yU aE) ?_;exact bj (y.toks<|s.toks+1+1) (.refl ..) (by refine Y h ?_;exact .int) e
 |tup l=>obtain⟨a,D,rfl,z,hl,j⟩:=q.nk;refine PyProof.Rows.len_tuple ⟨_,z,rfl,_,rfl⟩ (by refine Y dg ?_;exact uz hl) ?_;exact Y dg<|Y j.length<|bj (y.toks<|s.toks+1+1) (.refl ..) .int e
 |ref i=>obtain⟨a,d,rfl,C⟩:=q.ex;refine aZ (q2 e) λl k e=>?_;obtain⟨D,n,z,hl,j⟩:=y.isList k C;refine Calls.call_len_list ⟨_,z,rfl,_,rfl⟩ (by refine Y dg ?_;exact uz hl) ?_;exact Y dg<|Y j.length<|bj (y.toks<|s.toks+1+1) (.refl ..) .int e
 |_=>exact(gn e).elim
def Kc{i:Nat}(h:aV K F loc f H s)(q:RV f s.heap (.int i) u)(e:aw (Nat.ble i 1114111) (rt (V.str [i]) H)=some r):aO I K F loc (call ey.chr.val [u]) (aM aN r) (a9 r) f H s:=by obtain⟨t,rfl⟩:=q.cG;obtain⟨k,e⟩:=i4 e;exact chr_of_range (gz i) (qJ.mpr<|bE k)<|bj (h.toks _) (.refl ..) (.str<|show 1<=lim by decide) e
def P7{hd:Option Nat}{x y:Int}{w:Value}(hh:F.A.handled=none)(k:aV K F loc f H s)(q:RV f s.heap (.int x) u)(C:RV f s.heap (.int y) w)(e:rt (V.int<|jX x y) H=some r):aO I K F loc (call ey.max.val [u,w]) (aM aN r) (a9 r) f H s:=by obtain⟨t,rfl⟩:=q.cG;obtain⟨E,rfl⟩:=C.cG;refine max_two_ints hh λh' D z=>aS (k.keeps D z) λj st=>bj j st ?_ e;unfold jX;refine Y hM ?_;by_cases h:x<y;exact Y (bZ h)<|Y (ik h) .int;exact Y (bN h)<|Y (jV h) .int
def Hb(C:aV K F loc f H s)(q:RV f s.heap (.ref i) u)(k:H[i]? =some (.list l))(U:mA l=some ns)(e:aw (Nat.ble l.length 20) (rt (V.ref H.length)<|H++[.list<|(sortI ns).map .int])=some r):aO I K F loc (call ey.sorted.val [u]) (aM aN r) (a9 r) f H s:=by
 obtain⟨a,d,rfl,O⟩:=q.ex;obtain⟨hl,e⟩:=i4 e;have hl:=bE hl;obtain⟨J,n,T,_,j⟩:=C.isList k O;have D:=j.length;have ii:=Mk j U;refine sorted_ints ⟨_,T,rfl,_,rfl⟩ ii (by refine Y D ?_;exact fj hl<|by decide) λout aa a1 a2 fg=>?_;obtain rfl:aa=sortI ns:=yY (a2.trans (sortI_perm ns).symm) fg<|PI ns;obtain⟨c,z⟩:=sortedAll_at s.heap J out;have E:s.heap.get? (s.heap.objs.size+1)=none:=Heap.get?_none_of_le<|Nat.le_succ _;have W:out.toList.length<=lim:=by have x:=(wy (f:=f) (h:=s.heap) a1).length;have y:=(wy (f:=f) (h:=s.heap) ii).length;rw[pS]at y;exact Y x<|Y (pS ..)<|Y ((sortI_perm ns).length_eq)<|Y y.symm<|Y D<|as hl<|by decide
 clear hl;obtain⟨N,st⟩:=C.add (o:=.list<|(sortI ns).map .int) (p:=(s.heap.objs.size+1,0)) (h':=sortedAll s.heap J out) s.toks (λb ob e=>sortedAll_old e)
  (λa m=>by refine Y (b9.mp m) ?_;exact⟨E,C.hP E⟩) (eo.mpr ⟨nofun,jR⟩)
  (λfx=>⟨out.toList,c,by exact Y z rfl,W,wy a1⟩)
 exact bj (ρ:=aN) N st (RV.ref (d:=0)<|by refine Y C.rep.len.symm<|Y (dr<|ba _)<|Y (er ..) ?_;rfl) e
def R5(h:aV K F loc f H s)(q:RV f s.heap a u)(e:Du a H=some r):aO I K F loc (call ey.int.val [u]) (aM aN r) (a9 r) f H s:=by
 induction a using V.casesOn with
 |int i=>obtain⟨t,rfl⟩:=q.cG;exact PySem.call_int_int<|bj h (.refl ..) .int e
 |bool b=>obtain rfl:=q.so;exact PySem.call_int_bool<|bj (h.toks _) (.refl ..) (by cases b<;>exact .int) e
 |_=>exact(gn e).elim
def Qt{i:Nat}(x:aV K F loc f H s)(q:RV f s.heap (.int i) u)(e:aw (Nat.ble i 10000000) (rt (V.str<|hI 30 i []) H)=some r):aO I K F loc (call ey.str.val [u]) (aM aN r) (a9 r) f H s:=by
 obtain⟨t,rfl⟩:=q.cG;obtain⟨k,e⟩:=i4 e;have k:=bE k;refine PySem.P.str_of_int ?_ ?_;show i.log2<1920;by_cases h:i=0;clear q e k;subst h;decide;rw[Nat.log2_lt h];exact fj k<|cB (by decide:10000000<2^24)<|Nat.pow_le_pow_right (by decide)<|by decide
 have j:=NE k;rw[show(Int.ofNat i)=(i:Int) from rfl]at j;exact Y j<|bj (x.toks _) (.refl ..) (.str<|as (MG 30 i [])<|by decide) e
def IU(h:aV K F loc f H s)(q:RV f s.heap (.ref i) u)(k:H[i]? =some (.list l))(e:rt (V.tup l) H=some r):aO I K F loc (call ey.tuple.val [u]) (aM aN r) (a9 r) f H s:=by
 obtain⟨a,d,rfl,z⟩:=q.ex;obtain⟨x,n,C,hl,j⟩:=h.isList k z;refine call_tuple_list (items:=x.toArray) ⟨_,C,rfl,_,rfl⟩ (λh' D=>?_)<|by refine Y dg ?_;exact as hl fp
 refine aS (h.keeps (h':=h'.push {cls:=.type "tuple",data:=.seq x.toArray}) s.toks λb ob e=>b4 _<|D b ob e) λy st=>?_;exact bj (ρ:=aN) y st (.tup (dP _ rfl) hl<|j.at st h) e
def PU(j:aV K F loc f H s)(q:RV f s.heap (.int i) u)(e:rt (V.an 0 i) H=some r):aO I K F loc (call ey.range.val [u]) (aM aN r) (a9 r) f H s:=by obtain⟨t,rfl⟩:=q.cG;refine call_range_1 ?_;obtain⟨h,st⟩:=j.keeps (s.toks+1+1) λb ob e=>b4 _ e;exact bj h st (.an<|dP _ rfl) e
def QH(k:aV K F loc f H s)(q:RV f s.heap (.int i) u)(x:RV f s.heap (.int j) w)(e:rt (V.an i j) H=some r):aO I K F loc (call ey.range.val [u,w]) (aM aN r) (a9 r) f H s:=by obtain⟨t,rfl⟩:=q.cG;obtain⟨y,rfl⟩:=x.cG;refine call_range_2 ?_;obtain⟨h,st⟩:=k.keeps (s.toks+1) λb ob e=>b4 _ e;exact bj h st (.an<|dP _ rfl) e
def JQ{hd:Option Nat}{b:ey}{D:List V}{us:List Value}(hh:b=.max->F.A.handled=none)(z:aV K F loc f H s)(q:aT f s.heap D us)(e:wL b D H=some r):aO I K F loc (call b.val us) (aM aN r) (a9 r) f H s:=by
 induction b with
 |len=>obtain⟨a,rfl,e⟩:=iu e;obtain⟨u,rfl,h⟩:=q.i1;exact Oq z h e
 |ord=>obtain⟨a,rfl,e⟩:=iu e;obtain⟨u,rfl,h⟩:=q.i1;refine aZ (pm e) λx J e=>?_;subst J;refine aZ (wD e) λc O e=>?_;subst O;obtain⟨t,aE,rfl⟩:=h.dT;exact PySem.P.ord_of_char<|bj (z.toks _) (.refl ..) .int e
 |chr=>obtain⟨a,rfl,e⟩:=iu e;obtain⟨u,rfl,h⟩:=q.i1;refine aZ (ub e) λi T e=>?_;subst T;exact Kc z h e
 |max=>obtain⟨a,b,rfl,e⟩:=uv e;obtain⟨u,w,rfl,h,C⟩:=q.i2;refine aZ (pC e) λx U e=>?_;subst U;refine aZ (pC e) λy W e=>?_;subst W;exact P7 (hd:=hd) (hh rfl) z h C e
 |sorted=>obtain⟨a,rfl,e⟩:=iu e;obtain⟨u,rfl,h⟩:=q.i1;refine aZ (r2 e) λi aa e=>?_;subst aa;exact aZ (q2 e) λl k e=>aK e λns E e=>Hb z h k E e
 |int=>obtain⟨a,rfl,e⟩:=iu e;obtain⟨u,rfl,h⟩:=q.i1;exact R5 z h e
 |str=>obtain⟨a,rfl,e⟩:=iu e;obtain⟨u,rfl,h⟩:=q.i1;refine aZ (ub e) λi ab e=>?_;subst ab;exact Qt z h e
 |tuple=>obtain⟨a,rfl,e⟩:=iu e;obtain⟨u,rfl,h⟩:=q.i1;refine aZ (r2 e) λi ae e=>?_;subst ae;exact aZ (q2 e) λl k e=>IU z h k e
 |range=>rcases D with _|⟨a,D⟩;exact(gn e).elim;refine aZ (pC e) λi af e=>?_;subst af;rcases D with _|⟨b,D⟩;obtain⟨u,rfl,h⟩:=q.i1;exact PU z h (i4 e).2;rcases D;obtain⟨u,w,rfl,h,C⟩:=q.i2;refine aZ (pC e) λj N e=>?_;subst N;exact QH z h C (i4 e).2;exact(gn e).elim
 |exception=>exact(gn e).elim
end
def Km(I)(K):hF I K:=⟨λ{F loc f H s b D us r} hd j hh h q e=>JQ (hd:=none) (λC=>h.hand.none<|hh C) h q e⟩
section
open Builtin Builtin.ObjectAttr Builtin.Getset_descriptor
section
variable{K:al}
def Ld(G:cu K T B)(W:de I K d O)(af:hF I K)(ag:bA I K d v)(E:CtxOk d c F)(k:aV K F loc f H s)(ns:c' args=true)(e:(bd (v.e c loc x H) λa H=>bd (cf v c loc args H) λD H=>aw (Nat.blt D.length 30)<|bP T O c.hd a D H)=some r)(he:eval (.Call x args [] p) F.env=(do callWith p (<-eval x F.env) [] (backTo p<|starEach args F.env) [])):aO I K F loc (eval (.Call x args [] p) F.env) (aM aN r) (a9 r) f H s:=by
 unfold aO;refine Y he<|aX<|Sn.then (.refl ..) (ag.e E k) e λa u ab H' J j st _ q z=>lJ ag E ns st j z λD us aj ah ai y U ae aa h=>cH h λC h=>?_;rw[E.hd]at h;have hl:us.length<=sizeLine:=by refine Y aa.length ?_;have:D.length<30:=bE C;exact as (gt this)<|by decide
 exact aS (K5 G W af E.room y (q.at ae j) hl aa h) λN k2=>⟨N,f0 U k2⟩
end
end
theorem Fo:∀{P:List Str}{us:List Value},a∉P->(P.zip us).lookup a=none
 |[],_,_=>by simp
 |_::_,[],_=>by simp
 |p::P,u::us,n=>by
  refine Y qn<|Y ja ?_;have f:(a==p)=false:=rq.mpr λC=>n<|by refine Y C ?_;exact .head _
  exact Y f<|Fo λm=>n<|.tail _ m
theorem xl:∀{P:List Str}{us:List Value},a∈P->P.length=us.length->((P.zip us).lookup a).isSome=true
 |p::P,u::us,m,e=>by
  refine Y qn<|Y ja ?_;rcases h:a==p;rcases bC.mp m with rfl|m;simp at h;exact xl m<|by simpa using e
  rfl
 |[],_,m,_=>nomatch m|_::_,[],_,e=>by simp at e
theorem AP:∀{P:List Str}{W}(S:List<|Str×Value),P.Nodup->P.length=W.length->(∀p∈P,S.lookup p=(P.zip W).lookup p)->(P.filterMap λn=>(S.lookup n).map (n,·))=P.zip W
 |[],[],_,_,_,_=>rfl
 |p::P,w::W,S,nd,e,h=>by
  have j:=h p<|.head _;rw[qn,ja,tQ]at j;refine Y List.filterMap_cons<|Y j<|Y qn ?_;show(p,w)::_=_;congr 1;refine AP S (eo.mp nd).2 (by simpa using e) λq m=>Y (h q<|.tail _ m)<|Y qn<|Y ja ?_;have f:(q==p)=false:=rq.mpr λC=>(eo.mp nd).1<|by refine Y C.symm ?_;exact m
  exact Y f rfl
 |[],_::_,_,_,e,_=>by simp at e
 |_::_,[],_,_,e,_=>by simp at e
section
variable{z:Str×Value->List (Str×Value)->Sem (ForInStep (List (Str×Value)))}(j:∀n d S,z (n,d) S=if(S.lookup n).isNone then pure (.yield (S++[(n,d)]))else pure (.yield S))
include j
omit j in
theorem Hm(S T:List<|Str×Value)(x):(S++T).lookup x=(S.lookup x).or (T.lookup x):=by
 induction S with
 |nil=>simp|cons p S f=>obtain⟨k,v⟩:=p;refine Y kD<|Y ja<|Y ja ?_;rcases x==k;exact f;rfl
theorem Ue:∀{l S},(l.map (·.1)).Nodup->(∀p∈l,S.lookup p.1=none)->forIn l S z=pure (S++l):=by
 intro l;induction l with
 |nil=>intro S _ _;exact Y jC<|Y (be ..) rfl
 |cons u l k=>
  rcases u with⟨n,d⟩;intro S nd h;refine Y (hY ..)<|Y (j ..)<|Y (h (n,d)<|.head _)<|Y (bZ<|by rfl) ?_;show forIn l (S++[(n,d)]) z=_;rw[hE]at nd;rw[k (eo.mp nd).2 λp m=>?_];exact Y (bq ..) rfl
  .refine Y (Hm ..) (Y (h p<|.tail _ m) ?_);show[(n,d)].lookup p.1=none;refine Y ja ?_;have f:(p.1==n)=false:=rq.mpr λC=>(eo.mp nd).1<|by refine Y C.symm ?_;exact List.mem_map_of_mem (f:=(·.1)) m
   exact Y f rfl
theorem Jd:∀{l k S},(∀p∈l,(S.lookup p.1).isSome=true)->(k.map (·.1)).Nodup->(∀p∈k,S.lookup p.1=none)->forIn (l++k) S z=pure (S++k):=by
 intro l;induction l with
 |nil=>intro k S _ nd h;exact Ue j nd h
 |cons x l u=>
  rcases x with⟨n,d⟩;intro k S h nd h';refine Y kD<|Y (hY ..)<|Y (j ..) ?_;have:=h (n,d)<|.head _;have f:(S.lookup n).isNone=false:=by rcases q:S.lookup n;rw[q]at this;exact ff this;rfl
  refine Y f<|Y (bN<|by decide) ?_;show forIn (l++k) S z=_;exact u (λp m=>h p<|.tail _ m) nd h'
end
inductive E2(P:List Str)(us ds:List Value):Prop|mk (A B aa:List Str) (u0 u1 d0 d1:List Value) (hP:P=(A++B)++aa) (hu:us=u0++u1) (hd:ds=d0++d1) (f:A.length=u0.length) (j:B.length=u1.length) (u:B.length=d0.length) (h4:aa.length=d1.length)
def UK(h:P.length=a+b+c)(j:us.length=a+b)(hd:ds.length=b+c):E2 P us ds:=by
 have f:(P.take<|a+b).length=a+b:=by refine Y ma<|Y h ?_;exact r8<|bK _ _
 refine⟨(P.take<|a+b).take a,(P.take<|a+b).drop a,P.drop<|a+b,us.take a,us.drop a,ds.take b,ds.drop b,?_,?_,?_,?_,?_,?_,?_⟩;exact Y (n7 ..)<|Y (n7 ..) rfl;exact Y (n7 ..) rfl;exact Y (n7 ..) rfl;exact Y ma<|Y f<|Y ma<|Y j rfl;exact Y b0<|Y f<|Y b0<|Y j rfl;exact Y b0<|Y f<|Y ma<|Y hd<|Y (ew ..)<|Y (r8<|bK _ _) rfl;exact Y b0<|Y h<|Y b0<|Y hd<|Y (ew ..)<|Y (ew ..) rfl
def G7(hd:ds.length<=P.length)(hg:us.length<=P.length)(k:P.length<=us.length+ds.length):E2 P us ds:=by exact aU (Nat.exists_eq_add_of_le hg) λc f=>aU (Nat.exists_eq_add_of_le' hd) λa j=>aU (Nat.exists_eq_add_of_le<|show a<=us.length from Nat.le_of_add_le_add_right<|j▸k) λb h=>UK (Y f<|Y h rfl) h<|Nat.add_left_cancel<|Y j.symm<|Y f<|Y h<|Y (cz ..) rfl
def S1{f:Type}{o:Option f}(h:o.isSome=true):¬o.isNone=true:=by rcases o with _|a;exact ff h;exact λC=>Bool.noConfusion C
def TK(f:fd.params.posonlyargs=[])(j:fd.params.vararg=none)(u:fd.params.kwonlyargs=[])(h4:fd.params.kwarg=none)(W:fd.params.args.map (·.arg)=(A++B)++aa)(nd:((A++B)++aa).Nodup)(y:(h.getD #[]).toList=N++d1)(l1:A.length=I.length)(l2:B.length=J.length)(l3:B.length=N.length)(l4:aa.length=d1.length):∃k,bindArgs fd ⟨I++J,[]⟩=seqItems? fd.defaults>>=k/\k h=pure (((A++B)++aa).zip<|(I++J)++d1):=by
 have O:(A++B).length=(I++J).length:=Y a0<|Y a0<|Y l1<|Y l2 rfl;have a3:((A++B)++aa).length=(I++J).length+aa.length:=Y a0<|Y O rfl;have ld:(N++d1).length=B.length+aa.length:=Y a0<|Y l3<|Y l4 rfl;have e0:(N++d1).length-((A++B)++aa).length=0:=by exact uS<|Y ld<|Y a0<|Y a0<|Y (cz ..)<|bT _ _
 have e1:((A++B)++aa).length-(N++d1).length=A.length:=Y ld<|Y a0<|Y a0<|Y (cz ..)<|Y (Nat.add_sub_cancel ..) rfl;have hz:((A++B)++aa).zip (I++J)=(A++B).zip (I++J):=by have C:=List.zip_append (r₁:=aa) (r₂:=([]:List Value)) O;rw[be,List.zip_nil_right,be]at C;exact C
 have xC:((A++B)++aa).take A.length=A:=by refine Y (bq ..) ?_;exact s2
 have dA:((A++B)++aa).drop A.length=B++aa:=by refine Y (bq ..) ?_;exact tO
 have ab:(List.filter (λn=>(List.lookup n<|(A++B).zip<|I++J).isNone) A)=[]:=by rw[List.filter_eq_nil_iff];exact λn m=>S1<|xl (fq _ m) O
 have ae:aa.Nodup:=nd.sublist<|List.sublist_append_right _ _;have apart:∀n∈aa,n∉A++B:=λn m T=>(iM.mp nd).2.2 n T n m rfl;have D:=Jd (z:=λx(U:List (Str×Value))=>if(List.lookup x.fst U).isNone=true then pure (ForInStep.yield<|U++[(x.fst,x.snd)])else pure<|ForInStep.yield U) (λn d S=>rfl)
  (l:=B.zip N) (k:=aa.zip d1) (S:=(A++B).zip<|I++J)
  (λp m=>xl (gu _ (List.of_mem_zip (a:=p.1) (b:=p.2) m).1) O)
  (by refine Y (List.map_fst_zip<|a4 l4) ?_;exact ae)
  (λp m=>Fo<|apart _ (List.of_mem_zip (a:=p.1) (b:=p.2) m).1)
 have rest:((A++B)++aa).zip ((I++J)++d1)=(A++B).zip (I++J)++aa.zip d1:=List.zip_append O;have e2:(List.drop (((A++B)++aa).length-(N++d1).length)<|(A++B)++aa).zip (N++d1)=B.zip N++aa.zip d1:=Y e1<|Y dA<|Y (List.zip_append l3) rfl;obtain⟨nm,qn,⟨po,ar,va,ko,kd,kw,df⟩,bd,sc,gl,cl,dz,af,E,pm,an,co,ct,bl⟩:=fd;subst f j u h4;refine a8 _ rfl ?_;dsimp only[List.map_nil,List.nil_append]at W⊢;refine Y W<|Y y ?_;clear W y;refine(bN ?_).trans ?_;intro C;have:=sJ (cY.mp C).1;exact absurd (show((A++B)++aa).length<(I++J).length from this)<|q9.mpr<|by refine Y a3 ?_;exact bK _ _
 refine(bN ?_).trans ?_;show¬(!(List.filter (λn=>(List.lookup n<|((A++B)++aa).zip<|I++J).isNone)<|List.take (((A++B)++aa).length-(List.drop ((N++d1).length-((A++B)++aa).length)<|N++d1).length)<|(A++B)++aa).isEmpty)=true;refine Y e0<|Y iV<|Y e1<|Y xC<|Y hz<|Y ab ?_;decide;refine(az (λm=>Bind.bind m _) (?_:forIn _ _ _=pure ((A++B).zip (I++J)++aa.zip d1))).trans ?_;show forIn ((List.drop (((A++B)++aa).length-(List.drop ((N++d1).length-((A++B)++aa).length)<|N++d1).length)<|(A++B)++aa).zip<|List.drop ((N++d1).length-((A++B)++aa).length)<|N++d1) (((A++B)++aa).zip<|I++J) _=_;rw[e0,iV,e2,hz];exact D;show(pure (List.filterMap (λn=>Option.map (λx=>(n,x))<|List.lookup n<|(A++B).zip (I++J)++aa.zip d1)<|((A++B)++aa)++[]):Sem _)=_;exact Y (be ..)<|Y rest.symm<|Y (AP _ nd (by rw[a0,a0 (as:=I++J),O,l4]) λp _=>rfl) rfl
def xY(f:fd.params.posonlyargs=[])(j:fd.params.vararg=none)(u:fd.params.kwonlyargs=[])(E:fd.params.kwarg=none)(I:fd.params.args.map (·.arg)=P)(nd:P.Nodup)(y:(h.getD #[]).toList=ds)(hd:ds.length<=P.length)(hg:us.length<=P.length)(J:P.length<=us.length+ds.length):∃k,bindArgs fd ⟨us,[]⟩=seqItems? fd.defaults>>=k/\k h=pure (P.zip<|us++ds.drop (ds.length-(P.length-us.length))):=by obtain⟨A,B,aa,O,T,D,d1,rfl,rfl,rfl,x,z,l3,C⟩:=G7 hd hg J;have N:(A++B).length=(O++T).length:=Y a0<|Y a0<|Y x<|Y z rfl;exact Y (a0 (as:=A++B))<|Y N<|Y (ew ..)<|Y (a0 (as:=D))<|Y C<|Y (Nat.add_sub_cancel ..)<|Y tO<|TK f j u E I nd y x z l3 C
section
variable{K:al}{F:bG}{loc:Loc}{s:Shared}
def Pr(e:yp m=some q):m=some (.ok .next q.1 q.2):=by
 rcases m with _|r;exact aW e
 .rcases r with⟨z,loc,H⟩|_
  .induction z with
   |next=>obtain rfl:=aQ e;rfl
   |_=>exact aW e
  exact aW e
def BG(E:CtxOk d c F)(z)(k:∀n v u,z (n,v) u=(do storeName F.env n v;pure (.yield u))):∀{D us loc H s},aV K F loc f H s->aT f s.heap D us->m5 c C D loc H=some q->(∀J,aV K F q.1 f q.2 J->a5 K.a3 [F.L] f H s.heap f q.2 J.heap->Q ⟨⟩ J)->wpAny (model I K.w) A (forIn (C.zip us) PUnit.unit z) Q U s:=by
 induction C with
 |nil=>intro D us loc H s R j e h;rcases D;obtain rfl:=aQ e;exact Y List.zip_nil_left<|Y jC<|aL<|h s R<|.refl ..;exact aW e
 |cons x C W=>intro D us loc H s R j e h;rcases D with _|⟨a,D⟩;exact aW e;obtain⟨u,us,rfl,q1,q2⟩:=j.eS;exact aK e λp y e=>Y qn<|Y (hY ..)<|Y (k ..)<|aX<|aX<|mO E R q1 (Pr y) λaa T N=>aL<|W T (q2.at N R) e λJ O ae=>h J O<|N.trans ae λ_ m=>.inl m
def CR(e:fill f dz args=some D):args.length<=f/\f<=args.length+dz.length/\D=args++dz.drop (dz.length-(f-args.length)):=by unfold fill at e;revert e;rcases h:(Nat.ble args.length f&&Nat.ble f (args.length+dz.length));intro e;exact aW e;intro e;obtain rfl:=aQ e;rw[fP]at h;exact e0 (bE h.1) (bE h.2) rfl
def aV.nolimit(G:cu K T B)(R:aV K F loc f H s):s.heap.NoLimit:=G.lim.at λo e=>R.base _ o G.Pz e
def w8(k:aV K F loc f H s)(j:aV K h ag ab H' J)(st:a5 K.a3 [h.L] f H s.heap ab H' J.heap)(x:s.heap.get? h.L=none)(q:RV ab J.heap a u)(e:some (R.ok a H')=some r):ip K F loc r f H s.heap (.ok<|.ret u) J:=by
 obtain rfl:=aQ e;have hl:∀a∈[h.L],s.heap.get? a=none:=λa m=>by refine Y (b9.mp m) ?_;exact x
 exact⟨ab,H',k.back j st hl,st.fresh hl,a,rfl,q⟩
def IM(u:aV K F loc f H s)(k:aV K h ag ab H' J)(st:a5 K.a3 [h.L] f H s.heap ab H' J.heap)(y:s.heap.get? h.L=none)(x:ab[i]? =some (a,j))(z:hb H' i)(e:some (R.exc i H')=some r):ip K F loc r f H s.heap (.error<|.ref a) J:=by
 obtain rfl:=aQ e;have hl:∀a∈[h.L],s.heap.get? a=none:=λa m=>by refine Y (b9.mp m) ?_;exact y
 exact⟨ab,H',u.back k st hl,st.fresh hl,i,a,j,x,rfl,z,rfl⟩
def ip.weak(x:ip K F loc r f H h res J):hL K F loc r f H h res J:=by
 refine e6 x λab H' R st q=>?_;have ae:a5 K.a3 [F.L] f H h ab H' J.heap:=st.fresh λa m=>by cases m
 rcases res with e|c;exact gP q λi a d e1 j k u=>⟨ab,H',i,a,d,R,ae,e1,j,k,u⟩
 .cases c<;>first|exact q.elim|skip
  exact⟨ab,H',R,ae,q⟩
noncomputable def enter(F:bG)(env:Env)(L:Addr):bG:=⟨F.A.deeper env,F.hd,env,env,F.gp::F.outer,L⟩
noncomputable abbrev li:Obj:={cls:=.type "frame",data:=.dict #[]}
inductive G2(env:Env)(L:Addr):Prop|mk (loc:env.locals=L) (kind:env.scope.kind=.function) (glob:env.globals=mainGlobals) (blt:env.builtins=builtinsNs) (fr:env.frame=some L)
def GG(keys:KeysIn env.scope.names loc)(C:i8 f loc env.cells):gY env f h loc (λ_=>none):=by refine⟨λy u a x=>?_,λy i _ z=>C y i z⟩;refine aZ (keys y a x) λk aP j=>?_;rw[j]at u;clear j;obtain rfl:=aQ u;rcases aP with aP|aP<;>cases aP
def DC{J:Shared}(Rl:aV K F loc f H s)(hL:s.heap.get? L=none)(Lh:K.h₀.get? L=none)(O:∀b ob,s.heap.get? b=some ob->J.heap.get? b=some ob)(W:J.heap.get? L=some li)(I:aV K F loc z D y)(U:a5 K.a3 [F.L] f H J.heap z D y.heap)(T:∀b o,J.heap.get? b=some o->y.heap.get? b=some o)(ab:i8 z E env.cells)(keys:KeysIn env.scope.names E)(ok:G2 env L):aV K (enter F env L) E z D y/\a5 K.a3 [L] f H s.heap z D y.heap:=by
 obtain⟨j,h,k,u,x⟩:=ok;have N:=T _ _ W;have nw:∀{a:Addr},J.heap.get? a=none->s.heap.get? a=none:=λ{a} C=>by rcases q:s.heap.get? a with _|ob;rfl;rw[O _ _ q]at C;exact aW<|C.symm
 refine⟨⟨I.base,I.lam,I.tab,I.mods,I.rep,I.gens,I.os,?_,j,h,k,u,Lh,λm=>?_,⟨_,_,N,.inl rfl,yn N,GG keys ab⟩,λaa m=>?_,I.hand⟩,
  ⟨U.ext,λa o _ e=>⟨o,T _ _<|O a o e,.inl rfl⟩,λa m=>(U.new a m).imp id nw,λa na C=>?_⟩⟩
 show(F.A.frames).map (env::·)=_;exact Y Rl.stack rfl;rcases U.new _ m with C|C;exact Rl.rep.alive C hL;exact aW<|C.symm.trans W;rcases bC.mp m with rfl|m;exact⟨h,L,_,_,_,x,Lh,N,rfl,rfl⟩;exact I.out aa m;rcases q:s.heap.get? a with _|ob;exact na q;rw[T _ _<|O _ _ q]at C;exact aW<|C.symm
def E9(f:gq (d+1) F.A)(hl:∀a q,lam=some (a,q)->env.code=.ref a/\env.qual=q):CtxOk d ⟨env.scope.names,F.hd,lam⟩ (enter F env L):=by
 refine⟨λx=>.inl rfl,rfl,⟨?_,?_⟩,hl⟩;have h:=f.1;show F.A.depth+1+2*d+30<=recursionLimit;exact aR h<|by simp+arith
 have h:=f.2;show F.A.units+3+8*d+200<=cLine;exact aR h<|by simp+arith
def yV(G:cu K T B)(O:h.env=h.gp)(N:A.frames=h.A.frames)(z:aV K F loc f H s)(y:aV K h ag ab H' J)(st:a5 K.a3 [h.L] f H s.heap ab H' J.heap)(U:s.heap.get? h.L=none)(k:ab[i]? =some (a,j))(u:hb H' i)(e:some (R.exc i H')=some r):wpAny (model I K.w) A (leaving h.env<|.ref a) (λ_ x=>ip K F loc r f H s.heap (.error<|.ref a) x) (λE x=>ip K F loc r f H s.heap (.error E) x) J:=by unfold leaving;exact aX<|rM O N y G.fH k u λae C W _=>mK C G.fH k u λaf D aa _=>IM z D ((st.trans W λ_ m=>.inl m).trans aa λ_ m=>.inl m) U k u e
def CD(X:B.In s.heap)(ok:qQ B z fn fd)(q:aT f s.heap D us)(f1:D.length<=fn.params.length)(j:fn.params.length<=D.length+fn.dz.length):∃O,aT f s.heap (D++fn.dz.drop (fn.dz.length-(fn.params.length-D.length))) O/\∀{Q U A},Q (fn.params.zip O) s->wpAny (model I K.w) A (bindArgs fd ⟨us,[]⟩) Q U s:=by refine oj ok.par λy C E J N=>?_;have T:=q.length;rw[<-T]at f1 j⊢;rcases ok.dz with⟨d1,fk⟩|⟨aa,ds,d1,fk,mV⟩;rw[d1]at j⊢;refine a8 (us++[]) (by refine Y List.drop_nil<|Y (be ..)<|Y (be ..) ?_;exact q) λ{Q U A} bo=>?_;exact aZ (xY (us:=us) (ds:=[]) (h:=none) y C E J N ok.nd rfl (bJ _) f1 j) λk u k2=>Y u<|Y fk<|aX<|aL<|Y k2<|Y List.drop_nil<|aL bo;have x:=(mV f s.heap).length;rw[<-x]at j⊢;refine a8 (us++ds.drop (ds.length-(fn.params.length-us.length))) (q.append<|(mV _ _).drop _) λ{Q U A} bo=>aZ (xY (us:=us) (ds:=ds) (h:=some ds.toArray) y C E J N ok.nd rfl (by refine Y x ?_;exact ok.dl) f1 j) λk u k2=>?_;exact Y u<|Y d1<|aX<|wpAny_seqItems (X _ _ fk) rfl<|Y k2<|aL bo
def Nf(G:cu K T B)(W:eW I K d v)(U:A.deeper env=h.A)(hE:env=h.env)(u:aV K F loc f H s)(SC:ft d c h)(E:aV K h ag ab H' J)(st:a5 K.a3 [h.L] f H s.heap ab H' J.heap)(z:s.heap.get? h.L=none)(y:cS v c body ag H'=some q)(e:pN q=some r):codeAny (model I K.w) A (.func body env) (ip K F loc r f H s.heap) J:=by
 subst hE;refine codeAny_func<|Y U<|bX (ka W SC E q y) (λj ae⟨O,aa,af,D,eq,k,C,x⟩=>?_) λev ae⟨aa,af,D,i,a,dd,eq,k,C,e1,N,ie⟩=>?_
 .clear y;subst eq;have st:=st.trans C λ_ m=>.inl m;induction O with
  |next=>cases j<;>first|exact x.elim|exact w8 u k st z .none e
  |ret a=>cases j<;>first|exact x.elim|exact w8 u k st z x e
  |_=>exact aW e
 clear y;subst eq N;exact yV G SC.im rfl u k (st.trans C λ_ m=>.inl m) z e1 ie e
def DS{ob:Obj}(e:s.heap.get? b=some ob):({s with heap:=s.heap.push o}:Shared).heap.get? b=some ob:=b4 _ e
def CB(G:cu K T B)(W:eW I K d v)(hr:gq (d+1) F.A)(C:aV K F loc f H s)(k:bi z T.fns=some fn)(q:aT f s.heap D us)(ak:fill fn.params.length fn.dz D=some U)(O:m5 ⟨fn.scope.names,F.hd,aB (Nat.beq z T.hU) (some (T.gh,T.ga)) none⟩ fn.params U (eB fn.scope.names [] H).1 (eB fn.scope.names [] H).2=some aa)(eb:cS v ⟨fn.scope.names,F.hd,aB (Nat.beq z T.hU) (some (T.gh,T.ga)) none⟩ fn.body aa.1 aa.2=some rs)(e3:pN rs=some r):codeAny (model I K.w) F.A (.call (.ref z) ⟨us,[]⟩) (ip K F loc r f H s.heap) s:=by
 refine kG (G.fnAt C k) λfd o ok h aw hd=>c5 (CR ak) λf1 j as=>?_;subst as;refine tH ok.code λcc oc aj ct c1 c2 c3 c4=>codeAny_call_function (cB (cB (o0 _) (by have:=hr.1;exact aR this<|by simp+arith))<|ba recursionLimit) h hd (by refine Y ok.scope ?_;exact ok.sc.co) (by refine Y ok.scope ?_;exact ok.sc.gen) ok.body ⟨cc,oc,aj,ct,c1,(G.toTabC.In C) _ _ c2,c3,c4⟩ ?_;refine aZ (CD (I:=I) (K:=K) (G.toTabC.In C) ok q f1 j) λaz ap args=>args<|Y ok.scope<|Y ok.glob<|Y ok.pA<|Y ok.blt ?_;simp only[newFunctionEnv,Option.isSome_none,lg,jI];refine aX<|qj ?_;have J:=ej s.heap;refine aS (C.keeps (h':=s.heap.push li) s.toks λb ob e=>b4 _ e) λRa _=>?_;refine aX<|pj (F:=F) (loc:=loc) (y:=[]) _ (λname kind ae=>by cases am:kind==NameKind.cell<;>simp[am]) fn.scope.names Ra (λx i ex=>by exact aW ex) rfl λaA ax ae ah aq ao an=>?_;have en:=DC (env:={scope:=fn.scope,locals:=s.heap.objs.size,globals:=mainGlobals,cells:=ae,qual:=fd.qualname++".<locals>.",func:=some z,code:=fd.code,frame:=some s.heap.objs.size,builtins:=builtinsNs}) C J (l1 C) (λ_ _ e=>DS e) (dP _ rfl) ah aq an ao
  (zZ (all:=fn.scope.names) ok.sc.ns (λx a E=>by exact aW E) rfl) ⟨rfl,ok.sc.kind,rfl,rfl,rfl⟩
 refine aS en λai ag=>?_;have ab:=E9 (F:=F) (env:={scope:=fn.scope,locals:=s.heap.objs.size,globals:=mainGlobals,cells:=ae,qual:=fd.qualname++".<locals>.",func:=some z,code:=fd.code,frame:=some s.heap.objs.size,builtins:=builtinsNs}) (L:=s.heap.objs.size) (lam:=aB (Nat.beq z T.hU) (some (T.gh,T.ga)) none) hr (λa qq E=>by revert E;rcases O:Nat.beq z T.hU;intro E;exact aW E;intro E;refine zp (aQ E) λau av=>?_;subst au av;have al:=cd O;subst al;exact G.lam fn fd k ok);exact aX (BG ab _ (λn v u=>rfl) ai (ap.at (ag.fresh (N:=[F.L]) λa m=>by refine Y (b9.mp m) ?_;exact J) C) O λay af ar=>aL ⟨aV.nolimit G af,Nf G W rfl rfl C ⟨ab,rfl⟩ af (ag.trans ar λ_ m=>.inl m) J eb e3⟩)
def Pe(G:cu K T B)(W:eW I K d<|ev T O n)(E:gq (d+1) F.A)(h:aV K F loc f H s)(k:bi z T.fns=some fn)(q:aT f s.heap D us)(e:xg n T O F.hd (aB (Nat.beq z T.hU) (some (T.gh,T.ga)) none) fn D H=some r):codeAny (model I K.w) F.A (.call (.ref z) ⟨us,[]⟩) (ip K F loc r f H s.heap) s:=by exact aK e λU C e1=>aK e1 λaa y j=>aK j λrs x u=>CB G W E h k q C y x u
end
def Ry:∀{l},TriplesOk l->codeAmong pos (l++[a,b,c])=some y->codeAmong pos l=some y\/y=c:=by
 intro l h
 fun_induction TriplesOk l with
 |case1=>
  intro e;induction a with
  |int l t=>
   induction b with
   |int k u=>have e:(if l==pos.line&&k==pos.col then some c else none)=some y:=e;revert e;rcases q:l==pos.line&&k==pos.col;intro e;exact aW e;intro e;exact .inr (aQ e).symm
   |_=>exact aW e
  |_=>exact aW e
 |case2 z t C u x rest D=>intro e;have e:(if z==pos.line&&C==pos.col then some x else codeAmong pos<|rest++[a,b,c])=some y:=e;show(if z==pos.line&&C==pos.col then some x else codeAmong pos rest)=some y\/_;revert e;rcases q:z==pos.line&&C==pos.col;intro e;exact D h e;intro e;exact .inl e
 |case3 l f j=>exact h.elim
section
variable{M:Model}
def yN(u:h.CodeRec (.ref c) q)(ht:h.TableAt c P #[]):iW h c q:=by refine tH u λz o D t e g d x=>?_;obtain rfl:=PySem.Value.ref.inj e;refine aS ht λy _=>kG y λC E j f k _=>?_;rw[g]at j;clear k;obtain rfl:=aQ j;exact⟨o,D,t,g,f,d,x⟩
def K8(ak:closureFor scope env=pure pA)(am:env.globals=mainGlobals)(hg:s.heap.Ns mainGlobals j)(W:env.code=.ref c)(E:CodeHd s.heap c P)(z:s.heap.get? P=some (tabObj N))(ht:TriplesOk N.toList)(ag:codeAmong pos N.toList=none)(C:mainGlobals≠P)(hb:s.heap.BuiltinsAt j P)(h:∀u ai h' y,Heap.ExtBut P s.heap h'->iW h' u f->h'.get? P=some (tabObj<|N++#[rawInt pos.line,rawInt pos.col,.ref u])->Q (.ref h'.objs.size) {s with heap:=h'.push<|kla_obj name f params body scope pA ((j "__name__").getD .none) u ai,toks:=y}):wpAny M A (makeFunction name f params (.expr body) scope env [] [] [] pos k) Q U s:=by
 refine Y (makeFunction_eq ..) ?_;simp only[List.zip_nil_right,List.filterMap_nil,List.isEmpty_nil,if_true,pure_bind];refine RH hb λbm ob J ae _ af O T ab aa=>?_;unfold makeTail;refine Y ak<|Y am<|aX<|aL ?_;rcases pA with _|⟨q,r⟩;simp only[List.isEmpty_nil,if_true];exact aX<|aL<|aX<|wpAny_functionCodeX W (E.code z ht) (E.tab z) ag λu h' y aE al an _ D I x=>dD x λP' _ _ x=>aX<|wpAny_builtinsFor (hg.extBut aE C) J ae (aE _ _ af O) T ab aa<|aX<|wpAny_nsGet (hg.extBut aE C)<|aX<|aL<|uT (h u .none h' y aE (yN D x) I.2)<|by size_fits
 simp only[List.isEmpty_cons,lg,jI];refine aX<|wpAny_newTextTuple<|aX<|wpAny_functionCodeX W ((E.keeps λb o e=>b4 _ e).code (b4 _ z) ht) ((E.keeps λb o e=>b4 _ e).tab<|b4 _ z) ag λu h' y aE al an _ D I x=>?_;refine dD x λP' _ _ x=>?_;have ah:Heap.ExtBut P s.heap h':=λb o aj e=>aE b o aj<|b4 _ e;exact aX<|wpAny_builtinsFor ((hg.push _).extBut aE C) J ae (ah _ _ af O) T ab aa<|aX<|wpAny_nsGet ((hg.push _).extBut aE C)<|aX<|aL<|uT (h u _ h' y ah (yN D x) I.2)<|by size_fits
end
section
variable{K:al}{T:ct}{loc:Loc}{s:Shared}
def aV.grow(R:aV K F loc f H s)(t:Tok)(aE:Heap.ExtBut K.a3 s.heap h')(hl:v2 K h'):aV K F loc f H {s with heap:=h',toks:=t}/\a5 K.a3 [F.L] f H s.heap f H h':=by
 have h:=λb ob x e=>aE b ob x e;obtain⟨N,J,_⟩:=R.lam;have fx:cx s.heap h':=λb ob u U=>h b ob (λC=>by rw[C,J]at u;obtain rfl:=aQ u;rcases U with c|c|c|c|c<;>cases c) u;refine⟨⟨λb ob ne u=>h b ob ne<|R.base b ob ne u,hl,R.tab,R.mods,⟨R.rep.len,λj o p e1 y=>?_,R.rep.nd,R.rep.new⟩,R.gens,R.os,R.stack,R.locals,R.kind,R.glob,R.blt,R.new,R.apart,?_,λenv m=>?_,R.hand⟩,
  ⟨⟨[],by simp⟩,λb o x e=>⟨o,h b o (λC=>x<|by refine Y C ?_;exact .head _) e,.inl rfl⟩,λ_ m=>.inl m,λb x=>?_⟩⟩
 have r:=R.rep.obj j o p e1 y;have:=r.keep (τ:=[]) fx (λb m ob u=>h b ob (λC=>R.nZ<|.tail _<|by refine Y C.symm ?_;exact ed e1 y b m) u) λt D I=>⟨D,h _ _ (λC=>by rw[C,J]at I;cases I) I,rfl⟩;rwa [be]at this
 .obtain⟨o',m,z,q,⟨ab,es,k,aa,W,r⟩,l⟩:=R.loc;have T:F.L≠K.a3:=λC=>R.nZ<|by refine Y C.symm ?_;exact .head _
  refine⟨o',m,h _ _ T z,q,⟨ab,es,k,h _ _ T aa,W,r⟩,?_⟩;have:=l.keep [] fx;rwa [be]at this
 obtain⟨k,L,o',es,n,e1,y,E,O,e5⟩:=R.out env m;exact⟨k,L,o',es,n,e1,y,h _ _ (λC=>by rw[C,J]at E;obtain rfl:=aQ E;cases O) E,O,e5⟩;by_cases C:b=K.a3;obtain⟨ae,z,_⟩:=hl;refine Y C<|Y z ?_;simp;rcases q:s.heap.get? b with _|o;exact absurd q x;refine Y (h b o C q) ?_;simp
inductive Il(K:al)(T:ct)(h:Heap):Prop|mk (mg:Str->Option Value) (gne:mainGlobals≠K.a3) (hg:h.Ns mainGlobals mg) (hb:h.BuiltinsAt mg K.a3) (f:CodeHd h T.gh K.a3)
def I7(G:cu K T B)(h:aV K F loc f H s):Il K T s.heap:=by
 refine aZ G.M4 λmg hg W=>aU h.tab λab x=>?_;have u:mainGlobals≠K.a3:=λC=>by refine ea hg λo es n j N _=>?_;rw[C,x]at j;obtain rfl:=aQ j;cases N
 refine⟨mg,u,?_,?_,?_⟩;exact jZ hg λo es n j rest=>⟨o,es,n,h.base _ _ u j,rest⟩;exact Al W λbm o b1 z E k I J=>⟨bm,o,b1,z,E,k,h.base _ _ k I,J⟩;refine gk G.lc λo D O tf U y=>Bi y λtg aa text tt c1 rest=>⟨o,D,O,tf,U,tg,aa,text,tt,h.base _ _ (λC=>?_) c1,rest⟩;rw[C,x]at c1;clear y;obtain rfl:=aQ c1;cases rest.1
def F1(e:vp a q o=true):o=some (a,q):=by rcases o with _|p;exact ff e;exact zb e λf j=>Y (cd f)<|Y (dn.mp j) rfl
def Eb{y:Tok}(E:gC f cl j)(z:aV K F loc f H {s with heap:=h',toks:=y})(I:a5 K.a3 [F.L] f H s.heap f H h')(aP:iW h' h K.ar)(e:rt (.bY x scope cl) H=some r):eA K F loc (aM aN r) f H s.heap (.ref h'.objs.size) {s with heap:=h'.push<|kla_obj ⟨#[60,108,97,109,98,100,97,62]⟩ K.ar ⟨[],[],none,[],[],none,[]⟩ x scope j u h k,toks:=y}:=by refine aS (z.keeps (h':=h'.push<|kla_obj ⟨#[60,108,97,109,98,100,97,62]⟩ K.ar ⟨[],[],none,[],[],none,[]⟩ x scope j u h k) y λb ob e=>b4 _ e) λC J=>?_;exact bj (ρ:=aN) C (I.trans J λ_ m=>.inl m) (RV.bY (dP _ rfl) (aP.keep λb ob D _=>b4 _ D) E) e
def Oc(G:cu K T B)(E:CtxOk d c F)(j:aV K F loc f H s)(e:(aw (it scope&&h5 scope.names&&vp T.gh T.ga c.lam)<|ob (gF c.sc loc scope.names) λcl=>rt (.bY x scope cl) H)=some r):aO I K F loc (eval (.Lambda ⟨[],[],none,[],[],none,[]⟩ x scope p) F.env) (aM aN r) (a9 r) f H s:=by
 refine cH e λhb e=>aS (E.lam _ _<|F1 (cY.mp hb).2) λae am=>aK e λcl ak e=>aZ (zQ E j ak) λcs ag ab=>?_;obtain⟨mg,al,ah,W,aa⟩:=I7 G j;obtain⟨N,J,y,af⟩:=j.lam;unfold aO;refine Y (arm_eval_Lambda ..)<|aX<|aL<|aX<|c9<|aL ?_;have bo:F.env.qual++"<lambda>"=K.ar:=by refine Y am ?_;exact G.ar
 rcases h:codeAmong p N.toList with _|u
 .refine K8 ag j.glob ah ae aa J y h al W λD ai h' U aE aP an=>?_;rw[bo]at aP⊢;have hl:v2 K h':=by
   refine⟨_,an,?_,λpos u q=>?_⟩;simpa using TriplesOk_snoc _ _ _ _ y
   .have q:codeAmong pos (N.toList++[rawInt p.line,rawInt p.col,.ref D])=some u:=by simpa using q
    rcases Ry y q with q|rfl;refine aZ (af pos u q) λaj e2 k2=>a8 aj e2 (k2.keep λb ob k cb=>aE b ob (λC=>?_) k);rw[C,J]at k;clear e q;obtain rfl:=aQ k;rcases cb with c|c|c|c|c<;>cases c
    exact a8 D rfl aP
  exact aS (j.grow U aE hl) λz O=>Eb ab z O aP e
 refine aZ (af p u h) λD ao aP=>?_;subst ao;exact kla_makeFunctionHit ag j.glob ah ae aa J y h W λai h' U kx ap=>Y bo<|aS (j.keeps U kx) λz O=>Eb ab z O (aP.keep λb ob k _=>kx _ _ k) e
end
def Fz(e:h5 h=true):eB h loc H=(loc,H):=by
 induction h with
 |nil=>rfl|cons p r f=>obtain⟨x,k⟩:=p;unfold h5 at e;split at e;exact ff e;rename_i aP;have:=f e;cases k<;>first|exact this|(exact absurd aP (by decide))
def R3(e:lL sc cl=true):KeysIn sc (db cl):=by
 induction cl with
 |nil=>intro x a h;exact aW h
 |cons p r u=>intro x a h;have e:(match aC p.1 sc with|some k=>Am k&&lL sc r|none=>false)=true:=e;revert e;rcases aP:aC p.1 sc with _|k;intro e;exact ff e;intro e;refine zb e λf j=>?_;have h:(match sq p.1 x with|true=>some (V.ref p.2)|false=>aC x<|db r)=some a:=h;rcases q:sq p.1 x;rw[q]at h;exact u j x a h;refine Y (dn.mp q).symm ?_;exact a8 k (.inr<|by cases k<;>first|rfl|exact ff f) aP
section
variable{I:Program}{K:al}{d:Nat}{F:bG}{loc:Loc}{f:a6}{H:aq}{s:Shared}
def Je(G:cu K T B)(ap:bA I K d<|ev T O n)(hr:gq (d+1) F.A)(j:aV K F loc f H s)(q:RV f s.heap (.bY x sc cl) u)(J:(it sc&&h5 sc.names&&lL sc.names cl)=true)(e:(ev T O n).e ⟨sc.names,F.hd,none⟩ (db cl) x H=some r):codeAny (model I K.w) F.A (.call u ⟨[],[]⟩) (ip K F loc r f H s.heap) s:=by
 refine zb J λJ ag=>zb J λaj ai=>?_;have N:=xJ aj;obtain⟨fa,c',qn,k,pm,ct,rfl,e1,E,e3⟩:=q.uX;refine kla_callFunE (cB (cB (o0 _) (by have:=hr.1;exact aR this<|by simp+arith))<|ba recursionLimit) e1 rfl N.co N.gen rfl E.rec<|aZ (xY (fd:=DE qn x sc k pm ct c') (P:=[]) (us:=[]) (ds:=[]) (h:=none) rfl rfl rfl rfl rfl jR rfl (ba _) (ba _)<|ba _) λkk k1 k2=>Y k1<|aX<|aL<|Y k2<|aL ?_;simp only[newFunctionEnv,Option.isSome_none,lg,jI];refine aX<|qj ?_;have z:=ej s.heap;refine aS (j.keeps (h':=s.heap.push li) s.toks λb ob e=>b4 _ e) λRa _=>?_;refine aX<|pj (F:=F) (loc:=loc) (y:=db cl) _ (λname kind ae=>by cases ah:kind==NameKind.cell<;>simp[ah]) sc.names Ra e3.gR (Fz ai) λar aq ae af am al ak=>?_;obtain⟨W,aa⟩:=DC (env:={scope:=sc,locals:=s.heap.objs.size,globals:=mainGlobals,cells:=ae,qual:=qn++".<locals>.",func:=some fa,code:=.ref c',frame:=some s.heap.objs.size,builtins:=builtinsNs}) j z (l1 j) (λ_ _ e=>DS e) (dP _ rfl) af am ak al
  (R3 ag) ⟨rfl,N.kind,rfl,rfl,rfl⟩
 refine Y List.zip_nil_left<|Y jC<|aX<|aL<|aL ⟨aV.nolimit G W,?_⟩;refine kla_codeExpr<|bX (ap.e (E9 hr λ_ _ C=>aW C) W r e) (λw an⟨ao,ab,D,U,a,eq,x⟩=>?_) λev an⟨ao,ab,i,a,dd,D,U,e1,E,ie,eq⟩=>?_;subst eq;exact w8 j D (aa.trans U λ_ m=>.inl m) z x rfl;have eq:=eq;subst eq E;exact yV G rfl rfl j D (aa.trans U λ_ m=>.inl m) z e1 ie rfl
def Good(I:Program)(K:al)(d:Nat)(hd:Option Nat)(a:V)(D:List V)(H:aq)(r:R V):Prop:=∀{F:bG}{loc:Loc}{f:a6}{s:Shared}{u:Value}{us:List Value},gq d F.A->F.hd=hd->aV K F loc f H s->RV f s.heap a u->aT f s.heap D us->
  codeAny (model I K.w) F.A (.call u ⟨us,[]⟩) (ip K F loc r f H s.heap) s
def Good.run(G:cu K T B)(J:bA I K d<|ev T O n)(W:eW I K d<|ev T O n)(e:aF n T O hd a D H=some r):Good I K (d+1) hd a D H r:=by
 intro F loc f s u us k C j y q;subst C;induction a using V.casesOn with
 |fn z=>exact Y y.kA<|aK e λfn h e=>Pe G W k j h q e
 |bY x sc cl=>rcases D;exact Y q.i0<|cH e λE e=>Je G J k j y E e;exact aW e
 |_=>exact aW e
def ta(G:cu K T B)(y:bA I K d<|ev T O n)(W:eW I K d<|ev T O n):de I K (d+1) (aF n T O):=by refine⟨λ{F loc f H s a u D us r} j h k q e=>?_⟩;exact fF (Good.run G y W e j rfl h k q) λ_ _ x=>x.weak
end
section
variable{K:al}
set_option tactic.hygienic true in
def KW(e:kM i=some q):∃p,i=.Slice q.1 q.2 none p:=by
 cases i<;>try(exact aW e)
 rename_i lo f st p;rcases st;obtain rfl:=aQ e;exact⟨p,rfl⟩;exact aW e
def HK(e:h8 i=some q):i=.Attribute q.1 q.2.1 q.2.2:=by
 cases i<;>try(exact aW e)
 obtain rfl:=aQ e;rfl
def y'(e:h8 x=none):eval (.Call x args [] p) env=(do callWith p (<-eval x env) [] (backTo p<|starEach args env) []):=by cases x<;>first|rfl|exact aW (e.symm)
def FD{f:Type}{m:Option f}{r:f}(e:aB b m none=some r):b=true/\m=some r:=by rcases b;exact aW e;exact⟨rfl,e⟩
def Qg(e:un j=some q):∃p,j=[⟨.Name q.1 p,q.2.1,q.2.2,0⟩]:=by refine aK e λg hg e=>aS (FD e) λh e=>aK e λx aE e=>aU (rh aE) λp f=>?_;clear aE;obtain⟨k,y,u,U⟩:=g;rw[oG,gV]at h;exact Y (Ff hg)<|Y (aQ e).symm<|Y (show U=0 from h)<|Y (show k=_ from f) ⟨p,rfl⟩
def IW(e:BN a=true):a=⟨[],[],none,[],[],none,[]⟩:=by
 obtain⟨a,b,c,d,z,g,h⟩:=a;induction a using List.casesOn with
 |cons=>exact ff e|nil=>
 induction b using List.casesOn with
 |cons=>exact ff e|nil=>
 induction c with
 |some=>exact ff e|none=>
 induction d using List.casesOn with
 |cons=>exact ff e|nil=>
 induction z using List.casesOn with
 |cons=>exact ff e|nil=>
 induction g with
 |some=>exact ff e|none=>
 rcases h;rfl;exact ff e
def JY(C:eM K T)(E:CtxOk d c F)(R:aV K F loc f H s)(e:g5 T c loc y H=some r):aO I K F loc (eval (.Name y p) F.env) (aM aN r) (a9 r) f H s:=by obtain⟨h,hd⟩:=BA C E R e;unfold aO at h⊢;show wpAny _ _ (do standAt p;if y==("__debug__":Str)then _ else _) _ _ _;exact aX<|dM<|Y hd h
def UD(u:bA I K d v)(E:CtxOk d c F)(R:aV K F loc f H s)(e:d7 T O v c loc (.Subscript x i p) H=some r):aO I K F loc (eval (.Subscript x i p) F.env) (aM aN r) (a9 r) f H s:=by
 rcases h:kM i with _|q
 .have j:(match kM i with|some p=>bd (v.e c loc x H) λa H=>bd (mp v c loc p.1 H) λl H=>bd (mp v c loc p.2 H) λh H=>ob (g0 a l h) λr=>rt r H|none=>bd (v.e c loc x H) λa H=>bd (v.e c loc i H) λb H=>ob (q' a b H) λr=>rt r H)=some r:=e
  rw[h]at j;exact Ln u E R j
 refine aU (KW h) λy k=>?_;clear h;subst k;exact KE u E R e
def MU(G:cu K T B)(W:de I K d O)(M:fM I K)(af:hF I K)(k:bA I K d v)(E:CtxOk d c F)(R:aV K F loc f H s)(e:d7 T O v c loc (.Call z args [] p) H=some r):aO I K F loc (eval (.Call z args [] p) F.env) (aM aN r) (a9 r) f H s:=by
 rcases h:h8 z with _|q
 .have j:(match h8 z with
   |some q=>aw (om q.1&&c' args&&Nat.blt args.length 30&&Nat.beq q.2.2.endLine p.line)<|bd (v.e c loc q.1 H) λa H=>ry T O c.hd a q.2.1 H<|cf v c loc args
   |none=>aw (c' args)<|bd (v.e c loc z H) λa H=>bd (cf v c loc args H) λD H=>aw (Nat.blt D.length 30)<|bP T O c.hd a D H)=some r:=e
  rw[h]at j;exact cH j λns j=>Ld G W af k E R ns j<|y' h
 rw[HK h]at e⊢;exact Qn G W M k E R e
def Oo(y:bA I K d v)(Z:o9 I K d v)(E:CtxOk d c F)(R:aV K F loc f H s)(e:d7 T O v c loc (.ListComp k j sc p) H=some r):aO I K F loc (eval (.ListComp k j sc p) F.env) (aM aN r) (a9 r) f H s:=by refine aK e λq h u=>aU (Qg h) λpx x=>?_;clear e h;subst x;exact IZ (T:=T) (O:=O) y Z E R u
def LR(G:cu K T B)(E:CtxOk d c F)(R:aV K F loc f H s)(e:d7 T O v c loc (.Lambda U x sc p) H=some r):aO I K F loc (eval (.Lambda U x sc p) F.env) (aM aN r) (a9 r) f H s:=by refine cH e λh j=>?_;clear e;obtain rfl:=IW h;exact Oc G E R j
def zu(G:cu K T B)(C:eM K T)(W:de I K d O)(M:fM I K)(af:hF I K)(j:bA I K d v)(Z:o9 I K d v)(E:CtxOk d c F)(R:aV K F loc f H s)(e:d7 T O v c loc x H=some r):aO I K F loc (eval x F.env) (aM aN r) (a9 r) f H s:=by
 induction x using Expr.casesOn with
 |Constant k u p=>exact aK e λa h e=>L9 R h e|Name y p=>exact JY C E R e|Attribute=>exact Qe G.toTabC j E R e|Subscript=>exact UD j E R e|Compare=>exact K1 j E R e|BoolOp=>exact Q4 j E R r e
 |UnaryOp op=>
  induction op with
  |Not=>exact I4 j E R e|USub=>exact Ke j E R e|_=>exact aW e
 |BinOp=>exact TN j E R e|IfExp=>exact JX j E R e|Tuple=>exact Gv j E R e|List=>exact Gh j E R e|Dict J D=>rcases J;rcases D;exact Ga R e;exact aW e;exact aW e
 |Call z args J=>rcases J;exact MU G W M af j E R e;exact aW e
 |ListComp=>exact Oo j Z E R e|Lambda=>exact LR G E R e|_=>exact aW e
def ym(G:cu K T B)(C:eM K T)(u:bA I K d v)(W:eW I K d v)(Z:oo I K d v)(E:ft d c F)(R:aV K F loc f H s)(e:ei T v c x loc H=some r):wpAny (model I K.w) F.A (exec x F.env) (cR K F r f H s.heap) (ci K F r f H s.heap) s:=by
 induction x using Stmt.casesOn with
 |Expr=>exact Jx u E.toCtxOk R e|Assign N=>exact dk e λt h e=>Y (Ff h)<|Sz G.toTabC u E.toCtxOk R e
 |AugAssign t op x p=>
  induction op with
  |Add=>refine dk e λy D e=>aU (rh D) λp J=>?_;clear D;subst J;exact RI C u E.toCtxOk R e
  |_=>exact aW e
 |If=>exact Ir u W E R e|While t b dJ=>rcases dJ;exact Rf G.fH W E R e;exact aW e
 |For t i b dJ=>rcases dJ;exact Mw G.toTabC u Z E R e;exact aW e
 |Return=>exact I5 u E.toCtxOk R e|Raise x y=>rcases x with _|x;exact aW e;rcases y;exact Ky G.toTabC u E.toCtxOk R e;exact aW e
 |Try b k dJ bp=>rcases k with _|⟨h,k⟩;exact aW e;rcases dJ;rcases bp;exact HR G.toTabC C W E R e;exact aW e;exact aW e
 |Pass=>exact Y (arm_exec_Pass ..)<|aX<|dM<|aL<|fl (z:=.next) (j:=.next) R (.refl ..) trivial e
 |Break=>exact Y (arm_exec_Break ..)<|aX<|dM<|aL<|fl (z:=.brk) (j:=.brk) R (.refl ..) trivial e
 |Continue=>exact Y (arm_exec_Continue ..)<|aX<|dM<|aL<|fl (z:=.cont) (j:=.cont) R (.refl ..) trivial e
 |_=>exact aW e
end
def mf{K:al}(G:cu K T B)(C:eM K T)(M:fM I K)(af:hF I K)(W:de I K d O):∀n,bA I K d (ev T O n)/\eW I K d (ev T O n)/\oo I K d (ev T O n)/\o9 I K d (ev T O n):=by
 intro n;induction n with
 |zero=>exact⟨⟨λ_ _ _ e=>(gn e).elim,λ_ _ _ e=>(gn e).elim⟩,⟨λ_ _ _ e=>(gn e).elim,λ_ _ e=>(gn e).elim⟩,⟨λ_ _ _ _ _ _ _ e=>(gn e).elim⟩,⟨λ_ _ _ _ _ _ _ _ _ _ e=>(gn e).elim⟩⟩
 |succ n u=>
  refine jF (u) λj S Z L=>?_;refine⟨⟨λE R r e=>zu G C W M af j L E R e,λE R r e=>AD j E R e⟩,⟨λE R r e=>ym G C j S Z E R e,λE R e=>yG G.fH j S E R e⟩,
   ⟨λE hd R x h f st e=>AW G.toTabC j S Z E hd R x h f st e⟩,⟨λE hd R z h f st y k ne e=>H8 j L E hd R z h f st y k ne e⟩⟩
def gq.mono(h:d<=f)(x:gq f A):gq d A:=⟨by have:=x.1;exact cT h h this (by simp+arith),by have:=x.2;grind⟩
theorem de.mono{K:al}(h:d<=f)(x:de I K d O):de I K f O:=⟨λj R k q e=>x.call (j.mono h) R k q e⟩
set_option tactic.hygienic true in
def de.or{K:al}(x:de I K d S)(y:de I K d O):de I K d (λhd a args H=>match S hd a args H with|some r=>some r|none=>O hd a args H):=by refine⟨λ{F loc f H s a u D us r} h R j q e=>?_⟩;split at e;rename_i z k;obtain rfl:=aQ e;exact x.call h R j q k;exact y.call h R j q e
mutual
noncomputable def bl (ρ:Nat->Nat):V->V
 |.tup l=>.tup<|bF ρ l
 |.ref i=>.ref<|ρ i
 |.bm z i=>.bm z<|ρ i
 |.bY e sc cl=>.bY e sc<|cl.map λp=>(p.1,ρ p.2)
 |.none=>.none|.bool b=>.bool b|.int i=>.int i|.str x=>.str x|.fn z=>.fn z|.blt b=>.blt b|.an a b=>.an a b
noncomputable def bF (ρ:Nat->Nat):List V->List V|[]=>[]|a::l=>bl ρ a::bF ρ l
end
mutual
noncomputable def ib (aa:Nat->Prop):V->Prop|.tup l=>ij aa l|.ref i=>aa i|.bm _ i=>aa i|.bY _ _ cl=>∀p∈cl,aa p.2|.none=>True|.bool _=>True|.int _=>True|.str _=>True|.fn _=>True|.blt _=>True|.an _ _=>True
noncomputable def ij (aa:Nat->Prop):List V->Prop|[]=>True|a::l=>ib aa a/\ij aa l
end
noncomputable def f9(ρ:Nat->Nat):List (Str×V)->List (Str×V)|[]=>[]|(x,a)::l=>(x,bl ρ a)::f9 ρ l
noncomputable def j9(aa:Nat->Prop):List (Str×V)->Prop|[]=>True|(_,a)::l=>ib aa a/\j9 aa l
noncomputable def bn(ρ:Nat->Nat):au->au
 |.list l=>.list<|bF ρ l
 |.inst E k=>.inst E<|f9 ρ k
 |.exc E j c=>.exc E (j.map ρ)<|c.map ρ
 |.dict k=>.dict<|f9 ρ k
 |.cell v=>.cell<|v.map<|bl ρ
def je(aa:Nat->Prop):au->Prop|.list l=>ij aa l|.inst _ k=>j9 aa k|.exc _ j c=>(∀i,j=some i->aa i)/\∀i,c=some i->aa i|.dict k=>j9 aa k|.cell v=>∀a,v=some a->ib aa a
section
variable{aa:Nat->Prop}{ρ:Nat->Nat}{f ab:a6}{h:Heap}
def Et:aC x (db<|cl.map λp=>(p.1,ρ p.2))=some (.ref i)↔∃j,aC x (db cl)=some (.ref j)/\i=ρ j:=by
 induction cl with
 |nil=>constructor;intro e;exact aW e;rintro⟨_,e,_⟩;exact aW e
 |cons p r f=>obtain⟨y,k⟩:=p;simp only[hE,db,aC];rcases sq y x;exact f;constructor;intro e;clear f;obtain rfl:=V.ref.inj<|aQ e;exact a8 k rfl rfl;rintro⟨j,e,rfl⟩;clear f;obtain rfl:=V.ref.inj<|aQ e;rfl
def Cw(e:aC x (db cl)=some (.ref i)):∃p∈cl,p.2=i:=by
 induction cl with
 |nil=>exact aW e|cons p r f=>obtain⟨y,k⟩:=p;simp only[db,aC]at e;rcases q:sq y x;rw[q]at e;exact aZ (f e) λp m e=>a8 p (.tail _ m) e;rw[q]at e;clear f;obtain rfl:=V.ref.inj<|aQ e;exact a8 _ (.head _) rfl
variable(u:∀i,aa i->ab[ρ i]? =f[i]?)
include u
omit u in
theorem ni.bl(k:∀D,aT ab h (bF ρ l) D↔aT f h l D):ni ab h (bF ρ l) v↔ni f h l v:=⟨λ⟨a,D,j,e,le,q⟩=>⟨a,D,j,e,le,(k D).mp q⟩,λ⟨a,D,j,e,le,q⟩=>⟨a,D,j,e,le,(k D).mpr q⟩⟩
theorem oL.bl(d:aa i):oL ab (ρ i) v↔oL f i v:=⟨λ⟨a,b,h,e⟩=>⟨a,b,h,(u i d).symm.trans e⟩,λ⟨a,b,h,e⟩=>⟨a,b,h,(u i d).trans e⟩⟩
theorem ou.bl(d:aa i):ou ab h z (ρ i) v↔ou f h z i v:=⟨λ⟨a,b,m,j,e,C⟩=>⟨a,b,m,j,(u i d).symm.trans e,C⟩,λ⟨a,b,m,j,e,C⟩=>⟨a,b,m,j,(u i d).trans e,C⟩⟩
theorem gC.bl(d:∀p∈cl,aa p.2):gC ab (cl.map λp=>(p.1,ρ p.2)) k↔gC f cl k:=by refine⟨λc x i h=>?_,λc x i h=>?_⟩;refine bU (c x (ρ i)<|Et.mpr ⟨i,h,rfl⟩) λa y z k2=>aZ (Cw h) λp m D=>?_;subst D;exact dZ a y z<|(u _<|d p m).symm.trans k2;refine aZ (Et.mp h) λj C E=>?_;subst E;refine bU (c x j C) λa y z k2=>aZ (Cw C) λp m I=>?_;subst I;exact dZ a y z<|(u _<|d p m).trans k2
theorem oe.bl(d:∀p∈cl,aa p.2):oe ab h e sc (cl.map λp=>(p.1,ρ p.2)) v↔oe f h e sc cl v:=⟨λ⟨a,c,q,k,z,x,y,e,j,co⟩=>⟨a,c,q,k,z,x,y,e,j,(gC.bl u d).mp co⟩,λ⟨a,c,q,k,z,x,y,e,j,co⟩=>⟨a,c,q,k,z,x,y,e,j,(gC.bl u d).mpr co⟩⟩
omit u in
theorem nB.bl(x:∀v,RV ab h (bl ρ a) v↔RV f h a v)(y:∀D,aT ab h (bF ρ l) D↔aT f h l D):nB ab h (bl ρ a) (bF ρ l) us↔nB f h a l us:=⟨λ⟨u,D,k,q,j⟩=>⟨u,D,k,(x u).mp q,(y D).mp j⟩,λ⟨u,D,k,q,j⟩=>⟨u,D,k,(x u).mpr q,(y D).mpr j⟩⟩
omit u in
theorem RV.fB(k:p2 ab h v x↔p2 f h v y):RV ab h x v↔RV f h y v:=RV.iff.trans<|k.trans RV.iff.symm
omit u in
theorem aT.fB(k:pd ab h v x↔pd f h v y):aT ab h x v↔aT f h y v:=aT.iff.trans<|k.trans aT.iff.symm
mutual
theorem RV.eJ:∀{x:V}{v:Value},ib aa x->(RV ab h (bl ρ x) v↔RV f h x v)
 |.tup l,v,d=>RV.fB<|ni.bl λD=>aT.eJ d
 |.ref i,v,d=>RV.fB<|oL.bl u d
 |.bm z i,v,d=>RV.fB<|ou.bl u d
 |.bY e sc cl,v,d=>RV.fB<|oe.bl u d
 |.none,v,d=>RV.fB ls|.bool b,v,d=>RV.fB ls|.int i,v,d=>RV.fB ls|.str x,v,d=>RV.fB ls|.fn z,v,d=>RV.fB ls|.blt b,v,d=>RV.fB ls|.an a b,v,d=>RV.fB ls
theorem aT.eJ:∀{l:List V}{D:List Value},ij aa l->(aT ab h (bF ρ l) D↔aT f h l D)|[],D,d=>aT.fB ls|a::l,D,d=>aT.fB<|nB.bl (λv=>RV.eJ d.1) λD=>aT.eJ d.2
end
def xs(P:Params)(f:a6)(h:Heap)(es:List DictEntry):List (Str×V)->Prop|[]=>es=[]|p::l=>∃t v r,es=⟨PyData.keyHash P p.1,.str p.1 t,v⟩::r/\RV f h p.2 v/\bI P f h l r
omit u in
theorem bI.iff:bI P f h l es↔xs P f h es l:=by
 refine⟨λq=>?_,λq=>?_⟩
 .cases q with|nil=>exact rfl|cons r rs=>exact⟨_,_,_,rfl,r,rs⟩
 rcases l with _|⟨p,l⟩;rw[show es=[] from q];exact .nil;refine jZ q λt v r u x=>?_;clear q;subst u;exact aS x λj k=>.cons j k
omit u in
theorem bI.fB(k:xs P ab h v x↔xs P f h v y):bI P ab h x v↔bI P f h y v:=bI.iff.trans<|k.trans bI.iff.symm
theorem bI.eJ:∀{es},j9 aa l->(bI P ab h (f9 ρ l) es↔bI P f h l es):=by
 induction l with
 |nil=>exact λ_=>bI.fB ls|cons p l j=>exact λd=>bI.fB<|nO λt=>nO λv=>nO λr=>and_congr_right λ_=>and_congr (RV.eJ u d.1)<|j d.2
theorem RO.eJ(d:je aa o):RO P ab h (bn ρ o) p↔RO P f h o p:=by
 rcases o with l|⟨E,k⟩|⟨E,j,c⟩|k|v;exact⟨λ⟨D,n,e,l,q⟩=>⟨D,n,e,l,(aT.eJ u d).mp q⟩,λ⟨D,n,e,l,q⟩=>⟨D,n,e,l,(aT.eJ u d).mpr q⟩⟩;exact⟨λ⟨D,n,e,I,q⟩=>⟨D,n,e,I,(bI.eJ u d).mp q⟩,λ⟨D,n,e,I,q⟩=>⟨D,n,e,I,(bI.eJ u d).mpr q⟩⟩
 .have z:∀x,jE ab (j.map ρ) x↔jE f j x:=λx=>by rcases j with _|j;exact .rfl;exact nO λa=>nO λe=>by rw[u j<|d.1 j rfl]
  have O:∀x,jk ab (c.map ρ) x↔jk f c x:=λx=>by rcases c with _|j;exact .rfl;exact nO λa=>nO λe=>by rw[u j<|d.2 j rfl]
  exact⟨λ⟨x,y,tb,C,e,h,t,c⟩=>⟨x,y,tb,C,e,(z _).mp h,t,(O _).mp c⟩,λ⟨x,y,tb,C,e,h,t,c⟩=>⟨x,y,tb,C,e,(z _).mpr h,t,(O _).mpr c⟩⟩
 exact⟨λ⟨D,n,e,q⟩=>⟨D,n,e,(bI.eJ u d).mp q⟩,λ⟨D,n,e,q⟩=>⟨D,n,e,(bI.eJ u d).mpr q⟩⟩;rcases v with _|a;exact .rfl;exact⟨λ⟨v,e,q⟩=>⟨v,e,(RV.eJ u<|d a rfl).mp q⟩,λ⟨v,e,q⟩=>⟨v,e,(RV.eJ u<|d a rfl).mpr q⟩⟩
omit u
theorem iZ:foot (bn ρ o) p=foot o p:=by cases o<;>rfl
end
theorem xE:∀{H f},(∀(i:Nat) o p,H[i]? =some o->f[i]? =some p->(foot o p).Nodup)->(∀(i j:Nat) o o' p h,i≠j->H[i]? =some o->f[i]? =some p->H[j]? =some o'->f[j]? =some h->∀a∈foot o p,a∉foot o' h)->(bz H f).Nodup|[],_,_,_=>(.nil:([]:List Addr).Nodup)|_::_,[],_,_=>(.nil:([]:List Addr).Nodup)|o::H,p::f,a,b=>by refine iM.mpr ⟨a 0 o p rfl rfl,xE (λi o p e1 k=>a (i+1) o p e1 k) λi j o o' p h ne e1 k u z=>b (i+1) (j+1) o o' p h (λC=>ne<|hD C) e1 k u z,λx m y T e=>?_⟩;subst e;exact ea (m6 T) λj o' h e1 k T=>b 0 (j+1) o o' p h (Nat.succ_ne_zero j).symm rfl rfl e1 k x m T
def wT{i:Nat}(nd:(bz H f).Nodup)(e1:H[i]? =some o)(h:f[i]? =some p):(foot o p).Nodup:=by
 induction H generalizing f i with
 |nil=>simp at e1
 |cons o' H j=>
  induction f using List.casesOn with
  |nil=>simp at h
  |cons k f=>
   induction i using Nat.casesOn with
   |zero=>simp at e1 h;clear j;subst e1 h;exact(iM.mp nd).1
   |succ i=>exact j (iM.mp nd).2.1 (by simpa using e1)<|by simpa using h
def Kept(n:Nat)(y:List Nat)(i:Nat):Prop:=i<n\/i∈y
structure A4(ρ:Nat->Nat)(y:List Nat)(x Hs' H H':aq):Prop where
 inj:∀i j,i<x.length->j<x.length->ρ i=ρ j->i=j
 obj:∀i o,x[i]? =some o->H[ρ i]? =some (bn ρ o)/\je (·<x.length) o
 nw:∀m i,y[m]? =some i->ρ i=H.length+m
 zi:∀i∈y,x.length<=i/\i<Hs'.length
 le:x.length<=Hs'.length
 knd:y.Nodup
 len:H'.length=H.length+y.length
 Dl:∀i o,Kept x.length y i->Hs'[i]? =some o->H'[ρ i]? =some (bn ρ o)/\je (Kept x.length y) o
 rest:∀j,j<H.length->(∀i,i<x.length->ρ i≠j)->H'[j]? =H[j]?
noncomputable def Po(ρ:Nat->Nat)(H':aq):R V->R V|.ok a _=>.ok (bl ρ a) H'|.exc i _=>.exc (ρ i) H'
def Ih(aa:Nat->Prop)(f:aq):R V->Prop|.ok a H=>ib aa a/\H=f|.exc i H=>aa i/\H=f
section
variable{K:al}{loc:Loc}
def aV.Ro(R:aV K F loc f H s):aV K F [] f H s:=⟨R.base,R.lam,R.tab,R.mods,R.rep,R.gens,R.os,R.stack,R.locals,R.kind,R.glob,R.blt,R.new,R.apart,by obtain⟨o,m,e,q,n,l⟩:=R.loc;exact⟨o,m,e,q,n,⟨λx _ a h=>(aW h),λx i _ h=>(aW h)⟩⟩,R.out,R.hand⟩
def aV.other(R:aV K F [] f H s)(hh:F.hd=none)(rep:kC K.w.params K.h₀ ab H' s.heap)(k:F.L∉bz H' ab):aV K F [] ab H' s:=
 ⟨R.base,R.lam,R.tab,R.mods,rep,R.gens,R.os,R.stack,R.locals,R.kind,R.glob,R.blt,R.new,k,by
  obtain⟨o,m,e,q,n,l⟩:=R.loc;exact⟨o,m,e,q,n,⟨λx _ a j=>(aW j),λx i _ j=>(aW j)⟩⟩,R.out,by
  have h:=R.hand;rw[hh]at h⊢;exact h⟩
def TJ(st:a5 p L f H h ab H' h')(n:∀t o,h.get? t=some o->o.cls=.type "traceback"->t∉p::(L++bz H f)):TbKeep h h':=λt D e=>by
 refine aZ (st.keep t _ (n t _ e rfl) e) λo' y x=>?_;rcases x with rfl|⟨j,_⟩|⟨us,z,e1,rfl,u⟩;exact a8 D y rfl;exact absurd (e7 j)<|by decide
 injection e1 with _ _ k _;injection k with k;subst k;exact a8 z y u
def Good.lift(g:Good I K d none a D x r)(L:A4 ρ y x ae H H')(oa:ib (·<x.length) a)(ov:ij (·<x.length) D)(or:Ih (Kept x.length y) ae r):Good I K d none (bl ρ a) (bF ρ D) H (Po ρ H' r):=by
 intro F loc f s u us hr hF R qa q;have al:=R.rep.len;obtain⟨aa,hl,aj⟩:∃aa:a6,aa.length=x.length/\∀i,i<x.length->f[ρ i]? =aa[i]? :=by refine a8 ((List.range x.length).map λi=>(f[ρ i]?).getD (0,0)) (by simp) λi U=>?_;obtain⟨o,eo⟩:∃o,x[i]? =some o:=⟨_,dA U⟩;have z:=(cc.mp (L.obj i o eo).1).1;rw[<-al]at z;simp[U,dA z]
 have aA:kC K.w.params K.h₀ aa x s.heap:=by
  have ab:∀i o p,x[i]? =some o->aa[i]? =some p->H[ρ i]? =some (bn ρ o)/\f[ρ i]? =some p:=λi o p e1 W=>⟨(L.obj i o e1).1,by rw[aj i (cc.mp e1).1];exact W⟩;refine⟨hl,λi o p e1 W=>(RO.eJ (λi U=>aj i U) (L.obj i o e1).2).mp<|R.rep.obj (ρ i) _ p (ab i o p e1 W).1 (ab i o p e1 W).2,xE (λi o p e1 W=>?_) λi j o o' p p' ne e1 W e3 e4 a m T=>?_,λa m=>?_⟩;have:=wT R.rep.nd (ab i o p e1 W).1 (ab i o p e1 W).2;rwa [iZ]at this;have U:=(cc.mp e1).1;have hj:=(cc.mp e3).1;exact kw R.rep.nd (λC=>ne<|L.inj i j U hj C) (ab i o p e1 W).1 (ab i o p e1 W).2 (ab j o' p' e3 e4).1 (ab j o' p' e3 e4).2 a (by rw[iZ];exact m)<|by rw[iZ];exact T
  exact ea (m6 m) λi o p e1 W m=>R.rep.new a<|ed (ab i o p e1 W).1 (ab i o p e1 W).2 a<|by rw[iZ];exact m
 have sub:∀a∈bz x aa,∃k o p,k<x.length/\H[ρ k]? =some o/\f[ρ k]? =some p/\a∈foot o p:=λa m=>by refine ea (m6 m) λi o p e1 W m=>?_;have U:=(cc.mp e1).1;exact pR i _ p U ((L.obj i o e1).1) (by rw[aj i U];exact W)<|by rw[iZ];exact m
 have aq:∀a∈bz x aa,a∈bz H f:=λa m=>by exact gP (sub a m) λk o p _ e1 W m=>ed e1 W a m
 have R0:=R.Ro.other hF aA λm=>R.apart<|aq _ m;refine fF (g hr hF R0 ((RV.eJ (λi U=>aj i U) oa).mp qa)<|(aT.eJ (λi U=>aj i U) ov).mp q) λres J⟨aO,ag,R1,af,ah⟩=>?_;have hH:ag=ae:=by
  rcases res with e|c;refine gP ah λi a' d' _ _ _ aI=>?_;subst aI;exact or.2
  .cases c<;>first|exact ah.elim|skip
   obtain⟨a',rfl,_⟩:=ah;exact or.2
 subst hH;refine aU af.ext λam aJ=>?_;subst aJ;have ax:=R1.rep.len;obtain⟨τ,ay,ap⟩:∃τ:a6,τ.length=y.length/\∀i,Kept x.length y i->(f++τ)[ρ i]? =(aa++am)[i]? :=by refine a8 (y.map λi=>((aa++am)[i]?).getD (0,0)) (by simp) λi U=>?_;by_cases hn:i<x.length;obtain⟨o,eo⟩:∃o,x[i]? =some o:=⟨_,dA hn⟩;have z:=(cc.mp (L.obj i o eo).1).1;rw[dO (by rw[al];exact z),dO (by rw[hl];exact hn),aj i hn];have U:i∈y:=U.resolve_left hn;refine aU (List.mem_iff_getElem?.mp U) λm em=>?_;have z:=(L.zi i U).2;rw[<-ax]at z;rw[L.nw m i em,<-al,dr<|bK ..,ew];simp[em,dA z]
 have fx:cx s.heap J.heap:=(af.fresh λa m=>by cases m).fx R0;have kt:TbKeep s.heap J.heap:=TJ af λt o e c m=>by rcases bC.mp m with m|m;obtain⟨N,e',_⟩:=R.lam;rw[m,e']at e;obtain rfl:=aQ e;cases c;refine aZ (R0.rep.cls m) λo' e' l=>?_;rw[e]at e';obtain rfl:=aQ e';exact l.nf.2 c
 have ai:∀i,i<H'.length->(∃j,Kept x.length y j/\ρ j=i)\/(i<H.length/\∀j,j<x.length->ρ j≠i):=λi U=>by
  by_cases z:i<H.length;by_cases O:∃j,j<x.length/\ρ j=i;exact aZ O λj hj e=>.inl ⟨j,.inl hj,e⟩;exact .inr ⟨z,λj hj e=>O ⟨j,hj,e⟩⟩
  .have O:i-H.length<y.length:=by have:=L.len;exact cT U (a4 this) (a4<|bx<|show List.length H<=i from aR (md z)<|by simp+arith) (by simp+arith)
   obtain⟨j,ej⟩:∃j,y[i-H.length]? =some j:=⟨_,dA O⟩;exact .inl ⟨j,.inr<|sN ej,by rw[L.nw _ _ ej];exact ce (aR (a4<|bx<|show List.length H<=i from aR (md z)<|by simp+arith)<|by simp+arith)<|aR (cm i<|List.length H)<|by simp+arith⟩
 have ak:∀j o p,Kept x.length y j->H'[ρ j]? =some o->(f++τ)[ρ j]? =some p->∃o',ag[j]? =some o'/\(aa++am)[j]? =some p/\o=bn ρ o'/\je (Kept x.length y) o':=λj o p hj e1 W=>by have hl:j<ag.length:=hj.elim (λh=>cB h L.le) λh=>(L.zi j h).2;obtain⟨o',eo⟩:∃o',ag[j]? =some o':=⟨_,dA hl⟩;refine aS (L.Dl j o' hj eo) λz O=>?_;rw[z]at e1;obtain rfl:=aQ e1;exact RN o' eo (by rw[<-ap j hj];exact W) rfl O
 have left:∀i o p,i<H.length->(∀j,j<x.length->ρ j≠i)->H'[i]? =some o->(f++τ)[i]? =some p->H[i]? =some o/\f[i]? =some p:=λi o p z O e1 W=>by rw[L.rest i z O]at e1;rw[dO<|by rw[al];exact z]at W;exact⟨e1,W⟩
 have ar:∀i o p,i<H.length->(∀j,j<x.length->ρ j≠i)->H[i]? =some o->f[i]? =some p->∀a∈foot o p,a∉bz ag (aa++am):=λi o p z O e1 W a m T=>by rcases af.new a T with T|C;exact gP (sub a T) λk o' p' aP e3 e4 T=>kw R.rep.nd (O k aP) e3 e4 e1 W a T m;exact R.rep.alive (ed e1 W a m) C
 have lt:∀i o,H'[i]? =some o->i<H'.length:=λi o e=>(cc.mp e).1;have new:∀a∈bz H' (f++τ),a∈bz H f\/(a∈bz ag (aa++am)/\s.heap.get? a=none):=λa m=>by refine ea (m6 m) λi o p e1 W m=>?_;rcases ai i (lt i o e1)with⟨j,hj,rfl⟩|⟨z,O⟩;refine iA (ak j o p hj e1 W) λo' e3 e4 aK _=>?_;subst aK;rw[iZ]at m;have T:=ed e3 e4 a m;rcases af.new a T with C|C;exact .inl<|aq a C;exact .inr ⟨T,C⟩;exact aS (left i o p z O e1 W) λe3 e4=>.inl<|ed e3 e4 a m
 have aB:kC K.w.params K.h₀ (f++τ) H' J.heap:=by
  refine⟨by rw[a0,al,ay,L.len],λi o p e1 W=>?_,xE (λi o p e1 W=>?_) λi j o o' p p' ne e1 W e3 e4 a m T=>?_,λa m=>?_⟩
  .rcases ai i (lt i o e1)with⟨j,hj,rfl⟩|⟨z,O⟩;refine iA (ak j o p hj e1 W) λo' e3 e4 aL ok=>?_;subst aL;exact(RO.eJ ap ok).mpr<|R1.rep.obj j o' p e3 e4
   .refine aS (left i o p z O e1 W) λe3 e4=>(R.rep.obj i o p e3 e4).keep fx (λa m ob eb=>?_) kt;refine aZ ((R.rep.obj i o p e3 e4).cls a m) λaM as l=>?_;rw[eb]at as;obtain rfl:=aQ as;refine af.keep.plain (λT=>?_) eb l.nf.1 l.nf.2;rcases bC.mp T with T|T;exact R.nZ<|.tail _<|by rw[<-T];exact ed e3 e4 a m
    exact gP (sub a T) λk o' p' aP e5 e6 T=>kw R.rep.nd (O k aP) e5 e6 e3 e4 a T m
  rcases ai i (lt i o e1)with⟨j,hj,rfl⟩|⟨z,O⟩;refine iA (ak j o p hj e1 W) λo' e3 e4 aC _=>?_;subst aC;rw[iZ];exact wT R1.rep.nd e3 e4;exact aS (left i o p z O e1 W) λe3 e4=>wT R.rep.nd e3 e4;rcases ai i (lt i o e1)with⟨k,aP,rfl⟩|⟨z,O⟩;refine iA (ak k o p aP e1 W) λaN e5 e6 aD _=>?_;subst aD;rw[iZ]at m;rcases ai j (lt j o' e3)with⟨l,hl,rfl⟩|⟨an,ao⟩;refine iA (ak l o' p' hl e3 e4) λaz e7 e8 aE _=>?_;subst aE;rw[iZ]at T;exact kw R1.rep.nd (λC=>ne<|by rw[C]) e5 e6 e7 e8 a m T;exact aS (left j o' p' an ao e3 e4) λe7 e8=>ar j o' p' an ao e7 e8 a T<|ed e5 e6 a m;refine aS (left i o p z O e1 W) λe5 e6=>?_;rcases ai j (lt j o' e3)with⟨l,hl,rfl⟩|⟨an,ao⟩;refine iA (ak l o' p' hl e3 e4) λaz e7 e8 aF _=>?_;subst aF;rw[iZ]at T;exact ar i o p z O e5 e6 a m<|ed e7 e8 a T;exact aS (left j o' p' an ao e3 e4) λe7 e8=>kw R.rep.nd ne e5 e6 e7 e8 a m T;rcases new a m with m|⟨m,_⟩;exact R.rep.new a m;exact R1.rep.new a m
 have au:∀a∈bz H' (f++τ),a∈bz H f\/s.heap.get? a=none:=λa m=>(new a m).imp id And.right;have aw:F.L∉bz H' (f++τ):=λm=>by rcases au _ m with m|m;exact R.apart m;exact R.alive m
 have av:a5 K.a3 [] f H s.heap (f++τ) H' J.heap:=⟨⟨τ,rfl⟩,af.keep.mono λa m=>by rcases bC.mp m with rfl|m;exact .head _;exact .tail _<|aq a m,au,af.live⟩;refine⟨f++τ,H',R.back (R1.other hF aB aw) av (λa m=>by cases m),av,?_⟩;rcases res with e|c;refine gP ah λi a' d' e1 W aG aH=>?_;obtain⟨E,j,c,e3⟩:=aG;subst aH;exact aS (L.Dl i _ or.1 e3) λz _=>pR (ρ i) a' d' (by rw[ap i or.1];exact e1) W ⟨E,_,_,z⟩ rfl
 .cases c<;>first|exact ah.elim|skip
  obtain⟨a',rfl,q'⟩:=ah;exact⟨bl ρ a',rfl,(RV.eJ ap or.1).mpr q'⟩
end
section
mutual
noncomputable def c0:V->List Nat|.tup l=>ck l|.ref i=>[i]|.bm _ i=>[i]|.bY _ _ cl=>cl.map (·.2)|.none=>[]|.bool _=>[]|.int _=>[]|.str _=>[]|.fn _=>[]|.blt _=>[]|.an _ _=>[]
noncomputable def ck:List V->List Nat|[]=>[]|a::l=>c0 a++ck l
end
noncomputable def tK:List (Str×V)->List Nat|[]=>[]|p::l=>c0 p.2++tK l
noncomputable def yH(o:Option Nat):List Nat:=match o with|none=>[]|some i=>[i]
noncomputable def bH:au->List Nat|.list l=>ck l|.inst _ f=>tK f|.exc _ j c=>yH j++yH c|.dict f=>tK f|.cell v=>match v with|none=>[]|some a=>c0 a
noncomputable def bu(i:Nat):List Nat->Bool|[]=>false|k::l=>match Nat.beq k i with|true=>true|false=>bu i l
noncomputable def gm:List Nat->Bool|[]=>true|k::l=>match bu k l with|true=>false|false=>gm l
noncomputable def cQ(z:Nat->Bool):List Nat->Bool|[]=>true|k::l=>match z k with|true=>cQ z l|false=>false
noncomputable def bb(i:Nat):List Nat->Nat|[]=>0|k::l=>match Nat.beq k i with|true=>0|false=>bb i l+1
noncomputable def reach(n:Nat)(H:aq)(f done:List Nat):Option (List Nat):=match n with
 |0=>none
 |n+1=>match f with
  |[]=>some done
  |i::t=>match bu i done with|true=>reach n H t done|false=>ob H[i]? λo=>reach n H (bH o++t)<|done++[i]
noncomputable def ca(ρ:Nat->Nat)(H:aq):List Nat->aq|[]=>[]|k::l=>(match H[k]? with|some o=>bn ρ o|none=>.cell none)::ca ρ H l
noncomputable def cn(ρ:Nat->Nat)(H:aq)(l:List Nat)(x:aq):aq:=match l with
 |[]=>H
 |k::l=>match x with|[]=>H|o::x=>cn ρ (H.set k<|bn ρ o) l x
termination_by structural l
noncomputable def dG(z:Nat->Bool)(H:aq):List Nat->Bool
 |[]=>true
 |k::l=>match H[k]? with|some o=>(match cQ z (bH o)with|true=>dG z H l|false=>false)|none=>false
noncomputable def ec(n:Nat)(y:List Nat)(i:Nat):Bool:=match Nat.blt i n with|true=>true|false=>bu i y
noncomputable def bt(H:aq)(J y:List Nat)(i:Nat):Nat:=match J[i]? with|some k=>k|none=>H.length+bb i y
noncomputable def cA:aq->Nat->List Nat|[],_=>[]|o::H,n=>match n with|0=>[]|n+1=>bH o++cA H n
noncomputable def upTo:Nat->List Nat->List Nat|0,l=>l|n+1,l=>upTo n<|n::l
def back(H:aq)(J:List Nat)(b:V)(x:aq)(k:(Nat->Nat)->aq->M V):M V:=
 ob (reach 4000 x (c0 b++cA x J.length)<|upTo J.length []) λkl=>
  match(Nat.ble J.length x.length&&(gm (kl.drop J.length)&&(cQ (λi=>Nat.ble J.length i) (kl.drop J.length)&&(cQ (ec J.length<|kl.drop J.length) (c0 b)&&(dG (ec J.length<|kl.drop J.length) x (upTo J.length [])&&dG (ec J.length<|kl.drop J.length) x (kl.drop J.length))))))with
  |true=>k (bt H J<|kl.drop J.length)<|cn (bt H J<|kl.drop J.length) H J x++ca (bt H J<|kl.drop J.length) x (kl.drop J.length)
  |false=>none
def lV(H:aq)(J:List Nat)(q:R V):M V:=match q with
 |.ok b x=>back H J b x λρ H'=>some<|.ok (bl ρ b) H'
 |.exc i x=>back H J (.ref i) x λρ H'=>some<|.exc (ρ i) H'
def bD(X:List V->aq->M V)(D:List V)(H:aq):M V:=
 ob (reach 4000 H (ck D) []) λJ=>match(gm J&&(cQ (λi=>bu i J) (ck D)&&dG (λi=>bu i J) H J))with
  |true=>ob (X (bF (λi=>bb i J) D)<|ca (λi=>bb i J) H J)<|lV H J
  |false=>none
theorem eV:∀{l},bu i l=true↔i∈l|[]=>⟨λh=>(nomatch h),λh=>(nomatch h)⟩|k::l=>by show(match Nat.beq k i with|true=>true|false=>bu i l)=true↔_;rcases h:Nat.beq k i;exact eV.trans ⟨λm=>.tail _ m,λm=>(bC.mp m).resolve_left λe=>by rw[e,eg]at h;exact ff<|h.symm⟩;exact⟨λ_=>by refine Y (cd h) ?_;exact .head _,λ_=>rfl⟩
def y8:∀{l},gm l=true->l.Nodup:=by
 intro l;induction l with
 |nil=>intro _;exact .nil
 |cons k l f=>intro h;have h:(match bu k l with|true=>false|false=>gm l)=true:=h;revert h;rcases e:bu k l;intro h;exact eo.mpr ⟨λm=>(by rw[eV.mpr m]at e;exact ff<|e.symm),f h⟩;exact ff
def sL:∀{l},cQ z l=true->∀i∈l,z i=true:=by
 intro l;induction l with
 |nil=>intro _ _ m;exact nomatch m
 |cons k l f=>intro h i m;have h:(match z k with|true=>cQ z l|false=>false)=true:=h;revert h;rcases e:z k;intro h;exact ff h;intro h;rcases bC.mp m with rfl|m;exact e;exact f h i m
def vw:∀{l},dG z H l=true->∀k∈l,∃o,H[k]? =some o/\∀i∈bH o,z i=true:=by
 intro l;induction l with
 |nil=>intro _ _ m;exact nomatch m
 |cons k l j=>intro h i m;have h:(match H[k]? with|some o=>(match cQ z (bH o)with|true=>dG z H l|false=>false)|none=>false)=true:=h;revert h;rcases e:H[k]? with _|o;intro h;exact ff h;intro h;have h:(match cQ z (bH o)with|true=>dG z H l|false=>false)=true:=h;revert h;rcases f:cQ z (bH o);intro h;exact ff h;intro h;rcases bC.mp m with rfl|m;exact a8 o e<|sL f;exact j h i m
def qi:∀{l},i∈l->l[bb i l]? =some i:=by
 intro l;induction l with
 |nil=>intro m;exact nomatch m
 |cons k l f=>
  intro m;have e:bb i (k::l)=match Nat.beq k i with|true=>0|false=>bb i l+1:=rfl;rcases h:Nat.beq k i;exact Y e<|Y h<|f<|(bC.mp m).resolve_left λe=>by rw[e,eg]at h;exact ff<|h.symm
  exact Y e<|Y h<|Y (cd h) rfl
theorem ly:∀{l},l.Nodup->l[k]? =some i->bb i l=k
 |[],_,e=>nomatch e
 |a::l,nd,e=>by
  have nd:=eo.mp nd;have f:bb i (a::l)=match Nat.beq a i with|true=>0|false=>bb i l+1:=rfl;induction k using Nat.casesOn with
  |zero=>obtain rfl:a=i:=aQ e;exact Y f<|Y (eg ..) rfl
  |succ k=>
   have m:i∈l:=sN e;induction h:Nat.beq a i with
   |true=>exact absurd (cd h▸m) nd.1|false=>exact Y f<|Y h<|az (·+1)<|ly nd.2 e
section
variable{aa u:Nat->Prop}{z g:Nat->Nat}
mutual
theorem oT:∀{a:V},(∀i∈c0 a,aa i)->ib aa a
 |.tup _,h=>mr h|.ref _,h=>h _<|.head _
 |.bm _ _,h=>h _<|.head _
 |.bY _ _ _,h=>λ_ m=>h _<|List.mem_map_of_mem m
 |.none,_=>trivial|.bool _,_=>trivial|.int _,_=>trivial|.str _,_=>trivial|.fn _,_=>trivial|.blt _,_=>trivial|.an _ _,_=>trivial
theorem mr:∀{l:List V},(∀i∈ck l,aa i)->ij aa l|[],_=>trivial|_::_,h=>⟨oT λi m=>h i<|fq _ m,mr λi m=>h i<|gu _ m⟩
end
def BE:∀{l},(∀i∈tK l,aa i)->j9 aa l:=by
 intro l;induction l with
 |nil=>intro _;exact trivial
 |cons j k f=>rcases j with⟨_,_⟩;intro h;exact⟨oT λi m=>h i<|fq _ m,f λi m=>h i<|gu _ m⟩
def i5(h:∀i∈bH o,aa i):je aa o:=by rcases o with l|⟨E,f⟩|⟨E,j,c⟩|f|v;exact mr h;exact BE h;exact⟨λi e=>h i<|fq _<|by refine Y e ?_;exact .head _,λi e=>h i<|gu _<|by refine Y e ?_;exact .head _⟩;exact BE h;exact λa e=>oT λi m=>h i<|by refine Y e ?_;exact m
variable(d:∀i,aa i->u (z i))
include d
mutual
theorem wa:∀{a:V},ib aa a->ib u (bl z a)
 |.tup _,h=>sg h|.ref _,h=>d _ h|.bm _ _,h=>d _ h|.bY _ _ _,h=>λp m=>by refine aZ (List.mem_map.mp m) λq T e=>?_;exact Y e.symm<|d _<|h q T
 |.none,_=>trivial|.bool _,_=>trivial|.int _,_=>trivial|.str _,_=>trivial|.fn _,_=>trivial|.blt _,_=>trivial|.an _ _,_=>trivial
theorem sg:∀{l:List V},ij aa l->ij u (bF z l)|[],_=>trivial|_::_,h=>⟨wa h.1,sg h.2⟩
end
theorem BD:∀{l},j9 aa l->j9 u (f9 z l):=by
 intro l;induction l with
 |nil=>intro _;exact trivial
 |cons j k f=>rcases j with⟨_,_⟩;intro h;exact⟨wa d h.1,f h.2⟩
theorem JP(h:je aa o):je u (bn z o):=by rcases o with l|⟨E,f⟩|⟨E,j,c⟩|f|v;exact sg d h;exact BD d h;refine⟨λi e=>?_,λi e=>?_⟩;rcases j with _|j;exact aW e;obtain rfl:=aQ e;exact d _<|h.1 j rfl;rcases c with _|j;exact aW e;obtain rfl:=aQ e;exact d _<|h.2 j rfl;exact BD d h;rcases v with _|b;exact λa e=>nomatch e;exact λa e=>by obtain rfl:=aQ e;exact wa d<|h b rfl
omit d
variable(b:∀i,aa i->g (z i)=i)
include b
mutual
theorem wC:∀{a:V},ib aa a->bl g (bl z a)=a
 |.tup _,h=>az V.tup<|qZ h
 |.ref _,h=>az V.ref<|b _ h
 |.bm _ _,h=>az (V.bm _)<|b _ h
 |.bY _ _ cl,h=>by
  have:∀cl:List (Str×Nat),(∀p∈cl,aa p.2)->(cl.map λp=>(p.1,z p.2)).map (λp=>(p.1,g p.2))=cl:=λcl h=>by
   induction cl with
   |nil=>rfl|cons p r ih=>show(p.1,g<|z p.2)::_=_;exact Y (b _<|h p<|.head _)<|Y (ih λq m=>h q<|.tail _ m) rfl
  exact az (V.bY _ _)<|this cl h
 |.none,_=>rfl|.bool _,_=>rfl|.int _,_=>rfl|.str _,_=>rfl|.fn _,_=>rfl|.blt _,_=>rfl|.an _ _,_=>rfl
theorem qZ:∀{l:List V},ij aa l->bF g (bF z l)=l|[],_=>rfl|_::_,h=>by show bl g (bl z _)::bF g (bF z _)=_;exact Y (wC h.1)<|Y (qZ h.2) rfl
end
theorem ER:∀{l},j9 aa l->f9 g (f9 z l)=l:=by
 intro l;induction l with
 |nil=>intro _;exact rfl
 |cons j k f=>rcases j with⟨_,_⟩;intro h;show(_,bl g<|bl z _)::f9 g (f9 z _)=_;exact Y (wC b h.1)<|Y (f h.2) rfl
theorem Bb(h:je aa o):bn g (bn z o)=o:=by
 rcases o with l|⟨E,f⟩|⟨E,j,c⟩|f|v;exact az au.list<|qZ b h;exact az (au.inst E)<|ER b h
 .have e:∀j:Option Nat,(∀i,j=some i->aa i)->(j.map z).map g=j:=λj h=>by rcases j with _|i;rfl;exact az some<|b i<|h i rfl
  show au.exc E ((j.map z).map g) ((c.map z).map g)=_;exact Y (e j h.1)<|Y (e c h.2) rfl
 exact az au.dict<|ER b h;rcases v with _|a;rfl;exact az (λa=>au.cell<|some a)<|wC b<|h a rfl
end
theorem nJ:∀{l}{i k:Nat}{o},l[i]? =some k->H[k]? =some o->(ca ρ H l)[i]? =some (bn ρ o)
 |[],_,_,_,e,_=>nomatch e|a::l,0,k,o,e,h=>by obtain rfl:a=k:=aQ e;show some (match H[a]? with|some o=>bn ρ o|none=>.cell none)=_;exact Y h rfl
 |a::l,i+1,k,o,e,h=>nJ (l:=l) (i:=i) e h
def oV:∀{l},(ca ρ H l).length=l.length:=by
 intro l;induction l with
 |nil=>exact rfl|cons _ l f=>exact az (·+1)<|f
theorem iy:∀{l H x},(cn ρ H l x).length=H.length|[],_,_=>rfl|_::_,_,[]=>rfl|k::l,H,o::x=>(iy (l:=l) (H:=H.set k<|bn ρ o) (x:=x)).trans ef
theorem wY:∀{l H x},j∉l->(cn ρ H l x)[j]? =H[j]?|[],_,_,_=>rfl|_::_,_,[],_=>rfl|k::l,H,o::x,n=>(wY (l:=l) (H:=H.set k<|bn ρ o) (x:=x) λm=>n<|.tail _ m).trans<|nP λe=>n<|by refine Y e ?_;exact .head _
theorem pB:∀{l H x}{i k:Nat}{o},l.Nodup->(∀k∈l,k<H.length)->l[i]? =some k->x[i]? =some o->(cn ρ H l x)[k]? =some (bn ρ o)
 |[],_,_,_,_,_,_,_,e,_=>nomatch e|_::_,_,[],_,_,_,_,_,_,e=>nomatch e
 |a::l,H,p::x,i,k,o,nd,h,e,f=>by
  have nd:=eo.mp nd;induction i using Nat.casesOn with
  |zero=>obtain rfl:a=k:=aQ e;obtain rfl:p=o:=aQ f;exact(wY (l:=l) (H:=H.set a<|bn ρ p) (x:=x) nd.1).trans<|pn<|h a<|.head _
  |succ i=>exact pB (l:=l) (H:=H.set a<|bn ρ p) (x:=x) (i:=i) nd.2 (λk m=>by refine Y ef ?_;exact h k<|.tail _ m) e f
def mem_upTo:∀{n l},i<n\/i∈l->i∈upTo n l:=by
 intro n;induction n with
 |zero=>intro _ h;exact h.resolve_left<|hy _
 |succ n f=>intro l h;exact f (l:=n::l)<|h.elim (λh=>(dE i n).imp id λg=>by refine Y (ce (eX h) g) ?_;exact .head _) λm=>.inr<|.tail _ m
def e8(h:(a&&b)=true):a=true/\b=true:=cY.mp h
section
variable{K:al}{J:List Nat}
def s5(e:back H J b x k=some r):∃y,k (bt H J y) (cn (bt H J y) H J x++ca (bt H J y) x y)=some r/\J.length<=x.length/\y.Nodup/\(∀i∈y,J.length<=i)/\(∀i∈c0 b,Kept J.length y i)/\(∀i,Kept J.length y i->∃o,x[i]? =some o/\∀j∈bH o,Kept J.length y j)/\∀H' f u,f.length=J.length->back H' f b x u=u (bt H' f y) (cn (bt H' f y) H' f x++ca (bt H' f y) x y):=by
 refine aK e λkl aP e=>?_;generalize T:kl.drop J.length=y at e;have kp:∀i,ec J.length y i=true->Kept J.length y i:=λi h=>by have h:(match Nat.blt i J.length with|true=>true|false=>bu i y)=true:=h;rcases e:Nat.blt i J.length;rw[e]at h;exact .inr<|eV.mp h;exact .inl<|bE e
 revert e;rcases c:(Nat.ble J.length x.length&&(gm y&&(cQ (λi=>Nat.ble J.length i) y&&(cQ (ec J.length y) (c0 b)&&(dG (ec J.length y) x (upTo J.length [])&&dG (ec J.length y) x y)))));exact aW
 .intro e;have z:=c;refine zb c λc1 c=>zb c λc2 c=>zb c λD c=>zb c λI c=>zb c λN O=>Gd y e (bE c1) (y8 c2) (λi m=>bE<|sL D i m) (λi m=>kp i<|sL I i m) (λi m=>?_) λH' f u hl=>?_;exact aZ (m.elim (λh=>vw N i<|mem_upTo<|.inl h) λh=>vw O i h) λo C E=>a8 o C λj m=>kp j<|E j m
  .unfold back;refine Y hl<|Y aP ?_;show(match(Nat.ble J.length x.length&&(gm (kl.drop J.length)&&(cQ (λi=>Nat.ble J.length i) (kl.drop J.length)&&(cQ (ec J.length<|kl.drop J.length) (c0 b)&&(dG (ec J.length<|kl.drop J.length) x (upTo J.length [])&&dG (ec J.length<|kl.drop J.length) x (kl.drop J.length))))))with
    |true=>u (bt H' f<|kl.drop J.length)<|cn (bt H' f<|kl.drop J.length) H' f x++ca (bt H' f<|kl.drop J.length) x (kl.drop J.length)
    |false=>none)=_
   exact Y T<|Y z rfl
def AK{b:V}{x:aq}{y:List Nat}(nd:J.Nodup)(cl:∀k∈J,∃o,H[k]? =some o/\∀i∈bH o,i∈J)(le:J.length<=x.length)(ab:y.Nodup)(W:∀i∈y,J.length<=i)(T:∀i,Kept J.length y i->∃o,x[i]? =some o/\∀j∈bH o,Kept J.length y j):A4 (bt H J y) y (ca (λi=>bb i J) H J) x H (cn (bt H J y) H J x++ca (bt H J y) x y):=by
 have I:∀{i},i<J.length->∃k,J[i]? =some k:=λh=>⟨_,dA h⟩;have z:∀{i k},J[i]? =some k->bt H J y i=k:=λe=>by unfold bt;exact Y e rfl
 have U:∀{m i},y[m]? =some i->bt H J y i=H.length+m:=λ{m i} e=>by have:J[i]? =none:=eQ<|W i<|sN e;unfold bt;refine Y this ?_;show H.length+bb i y=_;exact Y (ly ab e) rfl
 have O:∀k,k∈J->bt H J y (bb k J)=k:=λk m=>z<|qi m;have kl:∀k∈J,k<H.length:=λk m=>by refine aZ (cl k m) λo e _=>?_;exact(cc.mp e).1
 have pl:=oV (ρ:=λi=>bb i J) (H:=H) (l:=J);refine⟨λi j f D e=>?_,λi o e=>?_,λm i e=>U e,λi m=>?_,by refine Y pl ?_;exact le,ab,by exact Y a0<|Y iy<|Y oV rfl,λi o kp e=>?_,λj D n=>?_⟩;rw[pl]at f D;refine aU (I f) λk C=>aU (I D) λl E=>?_;rw[z C,z E]at e;subst e;exact Y (ly nd C).symm<|Y (ly nd E).symm rfl
 .have f:i<J.length:=by refine Y pl.symm ?_;exact(cc.mp e).1
  refine aU (I f) λk C=>aZ (cl k<|sN C) λo' E u=>?_;rw[nJ C E]at e;obtain rfl:=aQ e;have ok:=i5 (aa:=(·∈J)) u;refine⟨?_,JP (λi m=>?_) ok⟩;exact Y (z C)<|Y (Bb O ok) E;exact Y pl<|(cc.mp<|qi m).1
 exact Y pl<|aZ (T i<|.inr m) λo e _=>⟨W i m,(cc.mp e).1⟩;rw[pl]at kp⊢;refine aZ (T i kp) λo' N h=>?_;rw[N]at e;obtain rfl:=aQ e;refine⟨?_,i5 h⟩;by_cases f:i<J.length;refine aU (I f) λk C=>?_;have aP:=kl k<|sN C;refine Y (z C)<|Y (dO<|by rw[iy];exact aP) ?_;exact pB nd kl C N;refine aU (List.mem_iff_getElem?.mp<|kp.resolve_left f) λm hm=>Y (U hm) (Y (dr<|by rw[iy];exact bK ..)<|Y iy<|Y (ew ..) ?_);exact nJ hm N;refine Y (dO<|by rw[iy];exact D) ?_;exact wY λm=>n (bb j J) (by refine Y pl ?_;exact(cc.mp<|qi m).1)<|O j m
def Jv{X:List V->aq->M V}(g:∀D H r,X D H=some r->Good I K d none (.fn z) D H r)(e:bD X D H=some r):Good I K d none (.fn z) D H r:=by
 obtain⟨J,_,e⟩:=x5 e;revert e;rcases c:(gm J&&(cQ (λi=>bu i J) (ck D)&&dG (λi=>bu i J) H J));exact aW
 .intro e;obtain⟨c1,c⟩:=e8 c;obtain⟨c2,c3⟩:=e8 c;obtain⟨q,eq,e⟩:=x5 e;have nd:=y8 c1;have cl:∀k∈J,∃o,H[k]? =some o/\∀i∈bH o,i∈J:=λk m=>by obtain⟨o,C,E⟩:=vw c3 k m;exact a8 o C λi m=>eV.mp<|E i m
  have pl:=oV (ρ:=λi=>bb i J) (H:=H) (l:=J);have T:=mr (aa:=(·∈J)) (l:=D) λi m=>eV.mp<|sL c2 i m;have U:ij (·<(ca (λi=>bb i J) H J).length) (bF (λi=>bb i J) D):=sg (λi m=>by refine Y pl ?_;exact(cc.mp<|qi m).1) T;have gd:Good I K d none (.fn z) (bF (λi=>bb i J) D) (ca (λi=>bb i J) H J) q:=g _ _ _ eq;have W:∀y,bF (bt H J y) (bF (λi=>bb i J) D)=D:=λy=>qZ (λk m=>by unfold bt;exact Y (qi m) rfl) T;rcases q with⟨b,x⟩|⟨i,x⟩
  .have e:back H J b x (λρ H'=>some<|.ok (bl ρ b) H')=some r:=e;obtain⟨y,e,le,O,N,j,h,_⟩:=s5 (b:=b) e;obtain rfl:=aQ e;refine Y (W y).symm ?_;intro F loc f s u us;exact gd.lift (AK (b:=b) nd cl le O N h) trivial U ⟨by refine Y pl ?_;exact oT j,rfl⟩
  .have e:back H J (.ref i) x (λρ H'=>some<|.exc (ρ i) H')=some r:=e;obtain⟨y,e,le,O,N,j,h,_⟩:=s5 (b:=.ref i) e;obtain rfl:=aQ e;refine Y (W y).symm ?_;intro F loc f s u us;exact gd.lift (AK (b:=.ref i) nd cl le O N h) trivial U ⟨by refine Y pl ?_;exact j i<|.head _,rfl⟩
end
def gg(a:V):Prop:=c0 a=[]/\∀z,bl z a=a
def aH(l:List V):Prop:=ck l=[]/\∀z,bF z l=l
def cC(o:au):Prop:=bH o=[]/\∀z,bn z o=o
def aH.nil:aH []:=⟨rfl,λ_=>rfl⟩
def aH.cons{a:V}{l:List V}(h:gg a)(k:aH l):aH (a::l):=⟨by show c0 a++ck l=[];exact Y h.1<|Y k.1 rfl,λz=>by show bl z a::bF z l=_;exact Y (h.2 ..)<|Y (k.2 ..) rfl⟩
theorem gg.tup(k:aH l):gg (.tup l):=⟨k.1,λz=>az V.tup<|k.2 z⟩
theorem gg.str:gg (.str x):=⟨rfl,λ_=>rfl⟩
theorem gg.int:gg (.int x):=⟨rfl,λ_=>rfl⟩
theorem gg.bool:gg (.bool x):=⟨rfl,λ_=>rfl⟩
theorem gg.none:gg .none:=⟨rfl,λ_=>rfl⟩
theorem cC.list(k:aH l):cC (.list l):=⟨k.1,λz=>az au.list<|k.2 z⟩
end
section
def qv:∀{l},bi a l=some v->(a,v)∈l:=by
 intro l;induction l with
 |nil=>intro e;exact nomatch e
 |cons j r f=>rcases j with⟨k,u⟩;intro e;have e:(match Nat.beq k a with|true=>some u|false=>bi a r)=some v:=e;revert e;rcases h:Nat.beq k a;intro e;exact .tail _<|f e;intro e;cases e;exact Y (cd h)<|.head _
def xS:∀{l},aC x l=some v->(x,v)∈l:=by
 intro l;induction l with
 |nil=>intro e;exact nomatch e
 |cons j r f=>rcases j with⟨k,u⟩;intro e;have e:(match sq k x with|true=>some u|false=>aC x r)=some v:=e;revert e;rcases h:sq k x;intro e;exact .tail _<|f e;intro e;cases e;exact Y (dn.mp h).symm<|.head _
def yi:∀{l},(gH g l).lookup a=some o->g a=some o/\a∈l:=by
 intro l;induction l with
 |nil=>intro e;exact nomatch e
 |cons b l f=>intro e;simp only[gH]at e;revert e;rcases h:g b with _|p;intro e;exact⟨(f e).1,.tail _ (f e).2⟩;intro e;rw[ja]at e;revert e;rcases c:a==b;intro e;exact⟨(f e).1,.tail _ (f e).2⟩;intro e;cases e;exact Y (cy.mp c) ⟨h,.head _⟩
def sy(h:(!b)=true):b=false:=by induction b with|false=>rfl|true=>cases h
def jd{f:Type}{z:f->Bool}{l:List f}(h:l.all z=true){a:f}(m:a∈l):z a=true:=List.all_eq_true.mp h a m
def KR(h:xn B E x=true):(∃k,findIn B (.ref E) x=some k/\noGet B k=true)/\takerIn B E x=some none:=by unfold xn at h;refine zb h λf j=>⟨?_,cy.mp j⟩;revert f;rcases c:findIn B (.ref E) x with _|a;intro f;cases f;intro f;exact a8 a rfl f
def OF(h:yo o v=true):o=some (.val v):=by unfold yo at h;rcases o with _|c;cases h;rcases c with u|_;exact Y (cy.mp h) rfl;cases h
def JV(h:yk B E p=true):findIn B (.ref E) p.1=some (some<|.ref p.2)/\typeIn B (.ref p.2)=some (.type "function")/\specialIn B (.ref p.2) "__get__"=some (some<|.builtin "function.__get__")/\ takesIn B (.ref p.2)=some false/\copiedNames.contains p.1=false/\findCls B (.ref E) (.type "type") p.1=some (.val<|.ref p.2):=by unfold yk at h;exact zb h λf h=>zb h λj h=>zb h λu h=>zb h λk h=>zb h λx y=>zS (cy.mp f) (cy.mp j) (cy.mp u) (cy.mp k) (sy x)<|OF y
def Uu(h:xv B E k=true):r3 B E k:=by unfold xv at h;refine zb h λf h=>zb h λj h=>zb h λu h=>zb h λy h=>zb h λD h=>zb h λI h=>zb h λJ h=>zb h λN h=>zb h λO C=>⟨cy.mp f,cy.mp j,u,λe=>?_,λx m=>KR<|jd D<|Dm m,λx z e=>JV<|jd I<|xS e,cy.mp J,N,O,cy.mp C⟩;rw[e]at y;exact cy.mp y
def O6(h:wP B E k=true):EM B E k:=by unfold wP at h;refine zb h λf h=>zb h λj u=>⟨λz e=>?_,j,u⟩;rw[e]at f;have f:=f;exact zb f λa b=>⟨cy.mp a,cy.mp b⟩
def Ng{T:ct}(h:T.sub.all (subB B T)=true)(e:bi E T.sub=some l):mroIn B E (.type "BaseException")=some true/\typeIn B (.ref E)=some (.type "type")/\vT B E=true/\∀aa k,bi aa T.sub=some k->mroIn B E (.ref aa)=some (l.any<|Nat.beq aa):=by have h:=jd h<|qv e;unfold subB at h;exact zb h λf h=>zb h λj h=>zb h λu y=>GI (cy.mp f) (cy.mp j) u λaa k x=>cy.mp<|jd y<|qv x
def AJ{f:Type}{a r:f}(e:aB b (some a) none=some r):b=true/\a=r:=by rcases b;exact aW e;exact⟨rfl,aQ e⟩
def BM(e:jg o=true):o=none:=by rcases o;rfl;exact ff e
def sO(e:dv l=true):l=[]:=by rcases l;rfl;exact ff e
def Ed{o:Obj}(f:o.cls=c)(j:o.dict=none)(u:o.data=d)(h:o.slots.toList=[]):o={cls:=c,data:=d}:=by obtain⟨_,_,_,⟨_⟩⟩:=o;subst f j u;exact az (Obj.mk _ _ _)<|az Array.mk h
def zt(h:uP o=some D):o=some (ir D):=by refine aK h λo y g=>aK g λp x k=>aS (AJ k) λk aP=>Y y<|Y aP.symm<|zb k λf k=>zb k λj k=>zb k λu z=>az some<|Ed (cy.mp u) (BM f) ?_<|sO j;exact Y (QS x)<|Y (cd z) rfl
def S8(e:zd x v=true):RV f h (.str x) v:=by refine dF e λy j e=>aU (Ab j) λt u=>?_;clear j;subst u;exact zb e λe1 k=>Y (show y=⟨x.toArray⟩ from az Str.mk<|by rw[<-kt.mp e1])<|.str<|bE k
def Hw(e:mu g (a::l) D=true):∃u us,D=u::us/\r0 g a u=true/\mu g l us=true:=by rcases D with _|⟨u,us⟩;exact ff e;exact dZ u us rfl<|e8 e
def IA(e:mu g [] D=true):D=[]:=by rcases D;rfl;exact ff e
mutual
theorem Cf {g:Addr->Option (List Value)} {h:Heap} (hg:∀a D,g a=some D->h.get? a=some (ir D)) (f:a6):∀{x:V}{v:Value},r0 g x v=true->RV f h x v
 |.tup _,_,e=>by exact dF e λa ha e=>dF e λD c e=>Y (p6 ha)<|.tup (hg a D c) (bE (e8 e).1)<|yc hg f (e8 e).2
 |.fn z,v,e=>by refine Y (cy.mp<|show(v==.ref z)=true from e) ?_;exact .fn
 |.none,v,e=>by refine Y (cy.mp<|show(v==.none)=true from e) ?_;exact .none
 |.bool b,v,e=>by refine Y (cy.mp<|show(v==.bool b)=true from e) ?_;exact .bool
 |.int i,_,e=>by refine dF e λj hj e=>aU (OA hj) λt z_2=>?_;clear hj;subst z_2;exact Y (sJ<|oG.symm.trans e) .int
 |.str _,_,e=>S8 e|.ref _,_,e=>ff e|.blt _,_,e=>ff e|.bm _ _,_,e=>ff e|.an _ _,_,e=>ff e|.bY _ _ _,_,e=>ff e
theorem yc {g:Addr->Option (List Value)} {h:Heap} (hg:∀a D,g a=some D->h.get? a=some (ir D)) (f:a6):∀{l:List V}{D:List Value},mu g l D=true->aT f h l D
 |[],_,e=>by refine Y (IA e) ?_;exact .nil
 |_::_,_,e=>by refine bU (Hw e) λu us z_3 z_4=>?_;clear e;subst z_3;exact aS z_4 λe1 e2=>.cons (Cf hg f e1)<|yc hg f e2
end
def Q1:nsFind es x=na x es.toList:=by
 obtain⟨l⟩:=es;unfold nsFind findBy;refine Y (List.find?_toArray ..) ?_;show(l.find? λe=>e.key.isStr x).map (·.val)=na x l;induction l with
 |nil=>rfl
 |cons e l f=>
  have aP:e.key.isStr x=sK x e.key:=by
   induction h:e.key with
   |str y t=>show(y==x)=sq y x;rw[gN,cy,dn]
   |_=>rfl
  show((e::l).find? λe=>e.key.isStr x).map (·.val)=(match sK x e.key with|true=>some e.val|false=>na x l);refine Y List.find?_cons<|Y aP ?_;rcases sK x e.key;exact f;rfl
section
variable{h:Heap}
set_option backward.match.sparseCases true in
def qf:h.nsMap a x=lS h.get? a x:=by unfold Heap.nsMap lS;rcases h.get? a with _|o;rfl;show(match o.data with|.dict es _=>nsFind es x|_=>none)=(match o.data with|.dict es _=>na x es.toList|_=>none);cases o.data<;>first|rfl|exact Q1
end
def CW(e:rD o=some fd):∃p,o=some p/\p.cls=.type "function"/\p.data=.func fd:=by exact aK e λo y g=>aK g λz f k=>aS (AJ k) λk aP=>fE o y (cy.mp k)<|aP▸Qo f
def Jw:∀{l},rF l=true->l.Nodup:=by
 intro l;induction l with
 |nil=>intro _;exact .nil
 |cons x l y=>
  intro h;refine zb (show(!dX x l&&rF l)=true from h) λf j=>eo.mpr ⟨λm=>?_,y j⟩;have:∀{l:List Str},x∈l->dX x l=true:=λ{l}=>by
   induction l with
   |nil=>exact λm=>nomatch m|cons k r u=>intro m;show(match sq k x with|true=>true|false=>dX x r)=true;rcases bC.mp m with rfl|m;exact Y (dn.mpr rfl) rfl;refine Y (u m) ?_;cases sq k x<;>rfl
  rw[this m]at f;cases f
def Rg(e:D1 B fd l=true):(l=[]/\fd.defaults=.none)\/∃aa D,fd.defaults=.ref aa/\B.lookup aa=some (ir D)/\∀f h,aT f h l D:=by rcases qE.mp e with e|e;exact .inl ⟨sO (e8 e).1,cy.mp (e8 e).2⟩;exact dF e λaa j e=>dF e λD k e=>.inr ⟨aa,D,p6 j,zt k,λf h=>yc (λa D C=>aW C) f e⟩
def PO(e:B1 B fd=true):∃c h D t,fd.code=.ref c/\B.lookup c=some h/\h.data=.fields D/\D[1]? =some (.str fd.qualname t):=by refine dF e λc f e=>dF e λo y e=>dF e λD j e=>dF e λx aE e=>aK aE λv k aE=>aU (Ab aE) λt u=>?_;clear aE;subst u;exact Ku c o D t (p6 f) y (yM j)<|Y k<|Y (dn.mp e) rfl
def HB(e1:AY B (z,fn)=true)(E:v7 (z,fn)=true)(f:pL B z=rV fn):∃fd,qQ B z fn fd:=by refine dF e1 λfd q e1=>?_;unfold pL at f;rw[q]at f;refine zb e1 λd1 fk=>zb E λI h=>zb h λh J=>?_;have f:=aQ f;simp only[Prod.mk.injEq]at f;exact Md f λa1 a2 fg k u x y N=>c5 N λC D j=>⟨fd,CW q,a1,a2,fg,k,u,⟨x,y,C,D,j⟩,Rg d1,PO fk,xJ I,Jw h,bE J⟩
end
def JL:∀{n},mY z n=true->∀k,k<n->z k=true:=by
 intro n;induction n with
 |zero=>intro _ k h;exact absurd h<|hy k
 |succ n f=>intro e k h;have e:(match z n with|true=>mY z n|false=>false)=true:=e;revert e;rcases u:z n;intro e;exact ff e;intro e;rcases dE k n with C|C;exact f e k C;exact Y (ce (eX h) C) u
def TH(h:C' (some o)=true):o.cls≠.type "traceback":=λe=>by have h:=sy<|show(!(o.cls==.type "traceback"))=true from h;rw[e]at h;exact Bool.noConfusion<|(tQ _).symm.trans h
def qg{a b:Nat}(h:(!Nat.beq a b)=true):a≠b:=λe=>by have h:=sy h;rw[e,eg]at h;exact ff<|h.symm
def Kl{h:Heap}(e:AU h.get? a3=true):h.BuiltinsAt (h.nsMap mainGlobals) a3:=by refine dF e λbm f e=>aK f λv j f=>?_;rw[p6 f]at j;exact zb e λe1 e=>zb e λk e=>zb e λu e=>dF e λo q e=>zb e λf1 e=>⟨bm,o,qf.trans j,qg e1,qg k,qg u,q,cy.mp f1,cy.mp (e8 e).1,IR (e8 e).2⟩
def KC(e:yt o=true):o=some (tabObj #[]):=by refine dF e λo f g=>Y f<|zb g λe1 g=>zb g λh g=>zb g λj g=>dF g λD k g=>az some<|Ed (cy.mp e1) (BM h) ?_<|sO j;exact Y (yM k)<|az Data.fields<|az Array.mk<|sO g
structure qH(h:Heap)(T:ct)(a3:Addr):Prop where
 a1:xG T (gH h.get? (hV T))=true
 a2:vk T (gH h.get? (hV T)) a3=true
 fg:wi h.get? h.objs.size T a3=true
 pt:(T.fns.map λp=>pL (gH h.get? (hV T)) p.1)=T.fns.map λp=>rV p.2
def Ho(X:qH h T a3):eL h:=λb o e=>by refine zb X.fg λf1 _=>?_;have:=JL f1 b<|Heap.lt_size e;rw[e]at this;exact TH this
section
variable{K:al}{T:ct}{h:Heap}(X:qH h T K.a3)(j:∀b o,h.get? b=some o->K.h₀.get? b=some o)(x:eL K.h₀)(f:T.fns.all v7=true)(bo:T.ga++(Str.ofString "<lambda>")=K.ar)
include X
theorem Rl:∀a∈hV T,a≠K.a3:=λa m e=>by refine zb X.a2 λ_ x=>zb x λ_ x=>zb x λ_ x=>?_;have:=List.any_eq_false.mp (sy x) a m;rw[e]at this;exact this<|eg _
include j x f bo
theorem zj:cu K T (gH h.get?<|hV T):=by refine zb X.a1 λb1 y=>zb y λb2 b3=>zb X.a2 λd1 y=>zb y λfk y=>zb y λmV _=>zb X.fg λf1 y=>zb y λI y=>zb y λJ y=>zb y λf4 y=>zb y λN y=>zb y λO y=>zb y λU y=>zb y λf8 y=>zb y λf9 y=>zb y λ_ y=>zb y λW _=>⟨⟨λa o e=>⟨j _ _ (yi e).1,Rl X a (yi e).2⟩,λE k e=>Uu<|jd b1<|qv e,x,λE l e=>Ng b3 e⟩,λE k e=>O6<|jd b2<|qv e,λz fn e=>?_,λfn fd e ok=>?_,codeHd_of_K (λa o e=>j _ _ (yi e).1) mV,bo,⟨_,(Heap.Ns.of_isNs I).keeps j,?_⟩,⟨_,(Heap.Ns.of_isNs f4).keeps j,?_⟩,qg W⟩;have m:=qv e;exact HB (jd d1 m) (jd f m)<|List.map_inj_left.mp X.pt _ m;refine dD ok.obj λo u C D=>dF fk λaa q fk=>dD (CW q) λp W g2 g3=>?_;clear y g2;obtain rfl:=aQ<|u.symm.trans W;clear y W q;obtain rfl:=Data.func.inj<|D.symm.trans g3;exact⟨cy.mp (e8 fk).1,dn.mp (e8 fk).2⟩;exact Al (Kl f8) λbm o e1 e2 e3 e4 e5 e6=>⟨bm,o,e1,e2,e3,e4,j _ _ e5,e6⟩;exact Y qf<|Option.isNone_iff_eq_none.mp N
omit x f bo in
theorem EO:eM K T:=by refine zb X.fg λf1 y=>zb y λI y=>zb y λJ y=>zb y λf4 y=>zb y λN y=>zb y λO y=>zb y λU y=>⟨_,_,(Heap.Ns.of_isNs I).keeps j,(Heap.Ns.of_isNs J).keeps j,λx a e=>?_,λx b e1 h=>?_⟩;have:=jd O (xS e);exact dF this λv c this=>a8 v (by refine Y qf ?_;exact c) λf=>Cf (λa D e=>j _ _<|zt e) f this;have:=jd U (xS h);unfold zh at this;rw[e1]at this;exact zb this λu C=>Y qf<|Y qf ⟨Option.isNone_iff_eq_none.mp u,cy.mp C⟩
omit j x f bo in
theorem A8:h.get? K.a3=some (tabObj #[]):=by exact zb X.fg λ_ y=>zb y λ_ y=>zb y λ_ y=>zb y λ_ y=>zb y λ_ y=>zb y λ_ y=>zb y λ_ y=>zb y λ_ y=>zb y λf y=>KC f
omit j x f bo in
theorem Uc:∃o,h.get? sysModules=some o/\sysModules≠K.a3:=by exact zb X.fg λ_ y=>zb y λ_ y=>zb y λ_ y=>zb y λ_ y=>zb y λ_ y=>zb y λ_ y=>zb y λ_ y=>zb y λ_ y=>zb y λf y=>zb y λu y=>zb y λ_ C=>aU (vz.mp u) λo e=>a8 o e<|qg C
end
theorem Bj(z)(f:∀name kind ae,z (name,kind) ae=if kind==.cell then(do let a<-alloc {cls:=.type "cell",data:=.cell none};pure (.yield<|(name,a)::ae))else pure<|.yield ae):∀j{ae s Q},h5 j=true->Q ae s->wpAny (model I w) A (forIn j ae z) Q U s
 |[],ae,s,Q,e,h=>by exact Y jC<|aL h
 |(name,kind)::r,ae,s,Q,e,h=>by
  refine Y (hY ..)<|Y (f ..) ?_;have e:=e;induction kind with
  |cell=>exact ff e|_=>exact aX<|aL<|Bj z f r e h
structure t9(K:al)(h:Heap)(a:V)(u:Value)(J:Shared):Prop where
 val:∃ab,RV ab J.heap a u
 old:∀b o,b≠K.a3->h.get? b=some o->J.heap.get? b=some o
 tab:∃N,J.heap.get? K.a3=some (tabObj N)
 os:J.os=K.os
 gens:J.gens=#[]
section
variable{K:al}
def L3(G:cu K T B)(W:eW I K d v)(hr:gq (d+1) callerA)(h0:K.h₀=s.heap)(hg:s.gens=#[])(O:s.os=K.os)(hl:s.heap.get? K.a3=some (tabObj #[]))(hm:∃o,s.heap.get? sysModules=some o/\sysModules≠K.a3)(f:bi z T.fns=some fn)(E:h5 fn.scope.names=true)(q:aT [] s.heap D us)(ap:fill fn.params.length fn.dz D=some U)(hb:m5 ⟨fn.scope.names,none,none⟩ fn.params U [] []=some aa)(eb:cS v ⟨fn.scope.names,none,none⟩ fn.body aa.1 aa.2=some rs)(e3:pN rs=some (.ok a H')):codeAny (model I K.w) callerA (.call (.ref z) ⟨us,[]⟩) (λres J=>∃u,res=.ok (.ret u)/\t9 K s.heap a u J) s:=by
 refine aU (G.fns z fn f) λfd ok=>dD ok.obj λo e1 aD hd=>?_;have X:B.In s.heap:=λa o e=>h0▸(G.base a o e).1;refine c5 (CR ap) λf1 y aw=>?_;subst aw;refine tH ok.code λcc oc an ct c1 c2 c3 c4=>codeAny_call_function (by decide) (X _ _ e1) hd (by refine Y ok.scope ?_;exact ok.sc.co) (by refine Y ok.scope ?_;exact ok.sc.gen) ok.body ⟨cc,oc,an,ct,c1,X _ _ c2,c3,c4⟩ ?_;refine aZ (CD X ok q f1 y) λav ar args=>args<|Y ok.scope<|Y ok.glob<|Y ok.pA<|Y ok.blt ?_;simp only[newFunctionEnv,Option.isSome_none,lg,jI];refine aX<|qj ?_;have aj:=ej s.heap;refine aX<|Bj _ (λname kind ae=>by cases aE:kind==NameKind.cell<;>simp) fn.scope.names E ?_;have kp:∀b ob,s.heap.get? b=some ob->(s.heap.push li).get? b=some ob:=λb ob e=>b4 _ e;have Lf:(s.heap.push li).get? s.heap.objs.size=some li:=dP _ rfl;generalize af:({scope:=fn.scope,locals:=s.heap.objs.size,globals:=mainGlobals,cells:=[],qual:=fd.qualname++".<locals>.",func:=some z,code:=fd.code,frame:=some s.heap.objs.size,builtins:=builtinsNs}:Env)=env;have o1:env.locals=s.heap.objs.size:=Y af.symm rfl;have k:env.scope.kind=.function:=by refine Y af.symm ?_;exact ok.sc.kind
 have o3:env.globals=mainGlobals:=Y af.symm rfl;have o4:env.builtins=builtinsNs:=Y af.symm rfl;have o5:env.frame=some s.heap.objs.size:=Y af.symm rfl;have o6:env.scope.names=fn.scope.names:=Y af.symm rfl;have o7:env.cells=[]:=Y af.symm rfl;have am:aV K ⟨callerA.deeper env,none,env,env,[],s.heap.objs.size⟩ [] [] [] {s with heap:=s.heap.push li}:=
  ⟨λb o _ e=>kp _ _<|h0▸e,⟨#[],kp _ _ hl,trivial,λpos cv e=>(nomatch e)⟩,⟨#[],h0▸hl⟩,by refine aZ hm λo e n=>?_;exact⟨o,h0▸e,n⟩,⟨rfl,λi o p e=>(nomatch e),.nil,λa m=>(nomatch m)⟩,hg,O,rfl,o1,k,o3,o4,h0▸aj,λm=>(nomatch m),
   ⟨_,_,Lf,.inl rfl,yn Lf,⟨λx _ a ea=>(aW ea),λx i _ ea=>(aW ea)⟩⟩,λaC m=>(by obtain rfl:=b9.mp m;exact⟨k,_,_,_,_,o5,h0▸aj,Lf,rfl,rfl⟩),rfl⟩
 have ai:CtxOk d ⟨fn.scope.names,none,none⟩ ⟨callerA.deeper env,none,env,env,[],s.heap.objs.size⟩:=by
  refine⟨λx=>.inl<|Y o6 rfl,rfl,⟨?_,?_⟩,λa q C=>(nomatch C)⟩;have h:callerA.depth+2*(d+1)+29<=recursionLimit:=hr.1;show callerA.depth+1+2*d+30<=recursionLimit;exact aR h<|by simp+arith
  have h:callerA.units+8*(d+1)+196<=cLine:=hr.2;show callerA.units+3+8*d+200<=cLine;exact aR h<|by simp+arith
 have as:aT [] (s.heap.push li) (D++fn.dz.drop (fn.dz.length-(fn.params.length-D.length))) av:=ar.fx λa o e _=>kp _ _ e;refine aX<|BG ai _ (λn v u=>rfl) am as hb λaG ak aF=>aL ⟨aV.nolimit G ak,codeAny_func ?_⟩;refine bX (ka W ⟨ai,rfl⟩ ak _ eb) (λj ah⟨ao,aq,aB,al,eq,ag,au,x⟩=>?_) λev ah⟨aq,aB,al,i,a,dd,eq,ag,au,z1,z2,ie⟩=>?_
 .subst eq;have bp:∀{u},(∃ab,RV ab ah.heap a u)->t9 K s.heap a u ah:=λv=>⟨v,λb o n e=>ag.base b o n<|h0▸e,by obtain⟨N,e,_,_⟩:=ag.lam;exact⟨N,e⟩,ag.os,ag.gens⟩;induction ao with
  |next=>
   cases j<;>first|exact x.elim|skip
   refine mm (aQ e3) λax ay=>?_;subst ax ay;exact a8 _ rfl<|bp ⟨[],.none⟩
  |ret b=>
   cases j<;>first|exact x.elim|skip
   refine mm (aQ e3) λaz aA=>?_;subst az aA;exact a8 _ rfl<|bp ⟨_,x⟩
  |_=>exact aW e3
 subst eq;cases e3
end
section
open Builtin Builtin.ObjectAttr Builtin.Getset_descriptor
structure iv(K:al)(j:Addr)(N:List Int):Prop where
 obj:∃D n,K.h₀.get? j=some (ep D n)/\D.length<=lim/\∀f h,aT f h (N.map .int) D
 ne:j≠K.a3
def AZ(j:Addr)(N:List Int)(a:V)(D:List V)(H:aq):M V:=match a with
 |.blt b=>(match b with|.len=>fU D λx=>(match x with|.fn z=>aw (Nat.beq z j) (rt (.int (N.length:Nat)) H)|_=>none)|_=>none)
 |_=>none
def I3(j:Addr)(N:List Int)(a i:V)(H:aq):M V:=match a with
 |.fn z=>aw (Nat.beq z j)<|ob (lI i) λk=>ob (N.map V.int)[k]? λr=>rt r H
 |_=>none
def v8(j:Addr)(N:List Int)(v:dS)(c:bh)(loc:Loc)(z:Expr)(args:List Expr)(H:aq):M V:=bd (v.e c loc z H) λa H=>bd (cf v c loc args H) λD H=>aw (Nat.blt D.length 30)<|AZ j N a D H
def t2(j:Addr)(N:List Int)(v:dS)(c:bh)(loc:Loc)(y i:Expr)(H:aq):M V:=bd (v.e c loc y H) λa H=>bd (v.e c loc i H) λb H=>I3 j N a b H
noncomputable def orM(m T:M V):M V:=match m with|some r=>some r|none=>T
def x3(j:Addr)(N:List Int)(v:dS)(c:bh)(loc:Loc)(x:Expr)(H:aq):M V:=match x with
 |.Call z args J _=>(match J with|[]=>(match h8 z with|none=>aw (c' args) (v8 j N v c loc z args H)|some _=>none)|_::_=>none)
 |.Subscript y i _=>(match kM i with|none=>t2 j N v c loc y i H|some _=>none)|_=>none
def ji(j:Addr)(N:List Int)(v:dS):dS:={v with e:=λc loc x H=>orM (x3 j N v c loc x H)<|v.e c loc x H}
section
variable{K:al}
def iv.at(S:iv K j N)(R:aV K F loc f H s):∃D n,s.heap.get? j=some (ep D n)/\D.length<=lim/\∀f h,aT f h (N.map .int) D:=by exact e6 S.obj λD n e l q=>pP D n (R.base _ _ S.ne e) l q
def Ni(S:iv K j N)(h:aV K F loc f H s)(W:RV f s.heap a u)(q:aT f s.heap D us)(e:AZ j N a D H=some r):h7 (model I K.w) s.heap u/\aO I K F loc (call u us) (aM aN r) (a9 r) f H s:=by
 induction a using V.casesOn with
 |blt b=>
  refine Y W.tW ?_;induction b with
  |len=>
   refine⟨.blt (λa C=>by cases C),?_⟩;rcases D with _|⟨x,D⟩;exact aW e
   .rcases D
    .induction x using V.casesOn with
     |fn z=>refine cH (show aw (Nat.beq z j) (rt (V.int (N.length:Nat)) H)=some r from e) λO y=>?_;clear e;obtain rfl:=cd O;obtain⟨w,ws,rfl,T,U⟩:=q.eS;clear q;cases U;refine Y T.kA<|e6 (S.at h) λws n J hl E=>?_;have k:=(E f s.heap).length;rw[pS]at k;refine Calls.call_len_list ⟨_,J,rfl,_,rfl⟩ (by refine Y dg ?_;exact uz hl) ?_;exact Y dg<|Y k<|bj (h.toks<|s.toks+1+1) (.refl ..) .int y
     |_=>exact aW e
    exact aW e
  |_=>exact aW e
 |_=>exact aW e
def Ob(S:iv K j N)(R:aV K F loc f H s)(qa:RV f s.heap (.fn z) u)(x:RV f s.heap i O)(y:Nat.beq z j=true)(aP:lI i=some k)(e:(N.map V.int)[k]? =some b)(h:∀w k,RV f s.heap b w->Q w {s with toks:=k}):ItemOn (model I K.w) A U u O Q s:=by
 obtain rfl:=cd y;refine Y qa.kA<|e6 (S.at R) λD af W la E=>aK aP λC hz aP=>?_;rw[fA hz]at x;obtain⟨t',rfl⟩:=x.cG;have aa:C=(k:Int):=by rcases C with m|m;exact az Int.ofNat<|aQ aP;exact aW aP
 clear hz aP x;subst aa;refine aZ (pO (E f s.heap) e) λw J ab=>?_;have T:s.heap.IsList z D.toArray:=⟨_,W,rfl,_,rfl⟩;have ae:k<D.length:=by have:=(Array.getElem?_eq_some_iff.mp J).1;rwa [dg]at this
 refine⟨"list",_,slot_list_getitem.lookup,T.typeIs,wpAny_getItem_list T (gz k) ?_ J<|h _ s.toks ab⟩;have hl:lim=1048576:=rfl;omega
def Kb(S:iv K j N)(ae:bA I K d v)(E:CtxOk d c F)(z:aV K F loc f H s)(ns:c' args=true)(h:h8 x=none)(e:v8 j N v c loc x args H=some r):aO I K F loc (eval (.Call x args [] p) F.env) (aM aN r) (a9 r) f H s:=by unfold aO;refine Y (y' h)<|aX<|Sn.then (.refl ..) (ae.e E z) e λa u ab H' J y st _ q O=>lJ ae E ns st y O λD us ai af ah C U W aa k=>?_;obtain⟨ag,k⟩:=i4 k;obtain⟨T,k2⟩:=Ni S C (q.at W y) aa k;exact⟨T,f0 U k2⟩
def My(S:iv K j N)(ag:bA I K d v)(E:CtxOk d c F)(R:aV K F loc f H s)(e:t2 j N v c loc x i H=some r):aO I K F loc (eval (.Subscript x i p) F.env) (aM aN r) (a9 r) f H s:=by
 refine Subscript_<|Sn.then (.refl ..) (ag.e E R) e λa u ab H' J D st _ q W=>Sn.then st (ag.e E D) W λb O aj U ai T af ae q' C=>?_;induction a using V.casesOn with
 |fn z=>exact cH (show aw (Nat.beq z j) (ob (lI b) λk=>ob (N.map V.int)[k]? λr=>rt r U)=some r from C) λy C=>aK C λk aP C=>aK C λb' hb C=>aU (t7 i u O) λah h=>uE (Ob S T (q.at ae D) q' y aP hb λw k aa=>bj (T.toks k) af aa C) h|_=>exact aW C
def H0(S:iv K j N)(u:bA I K d v):bA I K d (ji j N v):=by
 refine⟨λ{F c loc x f H s} E R r e=>?_,u.t⟩;have e:orM (x3 j N v c loc x H) (v.e c loc x H)=some r:=e;revert e;rcases h:x3 j N v c loc x H with _|C;intro e;exact u.e E R r e
 .intro e;cases e;induction x using Expr.casesOn with
  |Call z args J p=>rcases J;have h:(match h8 z with|none=>aw (c' args) (v8 j N v c loc z args H)|some _=>none)=some r:=h;revert h;rcases k:h8 z;intro h;exact cH h λns h=>Kb S u E R ns k h;intro h;exact aW h;exact aW h
  |Subscript y i p=>have h:(match kM i with|none=>t2 j N v c loc y i H|some _=>none)=some r:=h;revert h;rcases k:kM i;intro h;exact My S u E R h;exact aW
  |_=>exact aW h
end
end
inductive Q where|b (x:Bool)|c (x:Option Bool)|m (x:M V)|s (x:MS)|g (x:Option (List V->aq->M V))|o (x:Option au)|v (x:Option V)|l (x:M (List V))
inductive Tr(f:Type)where|ret (x:Option f)|ask (q:Q) (k:Q->Tr f)
noncomputable def Lm:Q->Bool|.b x=>x|_=>false
noncomputable def Ma:Q->Option Bool|.c x=>x|_=>none
noncomputable def Ri:Q->M V|.m x=>x|_=>none
noncomputable def TB:Q->MS|.s x=>x|_=>none
noncomputable def T6:Q->Option (List V->aq->M V)|.g x=>x|_=>none
noncomputable def To:Q->Option au|.o x=>x|_=>none
noncomputable def Od:Q->Option V|.v x=>x|_=>none
noncomputable def Td:Q->M (List V)|.l x=>x|_=>none
def run{f:Type}(t:Tr f):Option f:=Tr.rec (λx=>x) (λq _ h=>h q) t
noncomputable def qY{f:Type}(t:Tr f):Q:=Tr.casesOn t (λ_=>.b true) λq _=>q
noncomputable def lz{f:Type}(t:Tr f)(y:Q):Tr f:=Tr.casesOn t (λx=>.ret x) λ_ k=>k y
noncomputable def Cu{f:Type}(t:Tr f):Tr f:=Tr.casesOn t (λx=>.ret x) λq k=>k q
noncomputable def skip{f:Type}(n:Nat)(t:Tr f):Tr f:=Nat.rec t (λ_ t=>Cu t) n
def LQ(t:Tr f):run (Cu t)=run t:=by cases t<;>rfl
def st(y)(h:qY t=y)(e:run (lz t y)=r):run t=r:=by subst h;cases t<;>exact e
def aj{j:Type}(z:j->Q){a b:j}(l:a=b)(h:qY t=z a)(e:run (lz t<|z b)=r):run t=r:=by subst l;exact st _ h e
def sk:∀n,run (skip n t)=r->run t=r:=by
 intro n;induction n with
 |zero=>intro e;exact e
 |succ n f=>intro e;exact f<|(LQ _).symm.trans e
def oI{j:Type}(z:j->Option f){x y:j}(b)(h:qY t=.b b)(k:b=true->run (lz t<|.b true)=z x)(u:b=false->run (lz t<|.b false)=z y):run t=z (aB b x y):=by rcases b;exact st _ h<|u rfl;exact st _ h<|k rfl
def pJ{j:Type}(z:j->Option f){x y:j}(b)(h:qY t=.c (some b))(k:b=true->run (lz t<|.c<|some true)=z x)(u:b=false->run (lz t<|.c<|some false)=z y):run t=z (aB b x y):=by rcases b;exact st _ h<|u rfl;exact st _ h<|k rfl
def wA{j:Type}(z:j->Option f){x y:j}(b)(h:qY t=.c (some<|!b))(k:b=true->run (lz t<|.c<|some false)=z x)(u:b=false->run (lz t<|.c<|some true)=z y):run t=z (aB b x y):=by rcases b;exact st _ h<|u rfl;exact st _ h<|k rfl
def tb{f j:Type}(t:Tr f)(z:Option f->Tr j):Tr j:=Tr.rec z (λq _ h=>.ask q h) t
def jL(t)(z:Option f->Tr j):run (tb t z)=run (z<|run t):=Tr.rec (motive:=λt=>run (tb t z)=run (z<|run t)) (λ_=>rfl) (λq _ h=>h q) t
def ha{f:Type}(b:Bool)(x y:Tr f):Tr f:=.ask (.b b) λq=>aB (Lm q) x y
def xP{f:Type}(op:BoolOp)(b:Bool)(x y:Tr f):Tr f:=match op with|.And=>ha b y x|.Or=>ha b x y
noncomputable def Hz(x:Option Bool):Tr Bool:=.ask (.c x) λq=>.ret<|Ma q
noncomputable def tM(x:M V):Tr (R V):=.ask (.m x) λq=>.ret<|Ri q
noncomputable def tS(x:MS):Tr RS:=.ask (.s x) λq=>.ret<|TB q
noncomputable def N'(x:Option<|List V->aq->M V):Tr (List V->aq->M V):=.ask (.g x) λq=>.ret<|T6 q
noncomputable def vs(x:Option au):Tr au:=.ask (.o x) λq=>.ret<|To q
noncomputable def Bl(x:Option V):Tr V:=.ask (.v x) λq=>.ret<|Od q
noncomputable def Tw(x:M<|List V):Tr (R<|List V):=.ask (.l x) λq=>.ret<|Td q
noncomputable def f'{f j:Type}(o:Option f)(k:f->Tr j):Tr j:=match o with|some a=>k a|none=>.ret none
def iX{f j:Type}(t:Tr f)(k:f->Tr j):Tr j:=tb t λo=>f' o k
noncomputable def QD{f j:Type}(m:M f)(k:f->aq->Tr (R j)):Tr (R j):=match m with
 |some (.ok a H)=>k a H|some (.exc i H)=>.ret<|some<|.exc i H
 |none=>.ret none
def dc{f j:Type}(t:Tr<|R f)(k:f->aq->Tr (R j)):Tr (R j):=tb t λm=>QD m k
noncomputable def kB{f:Type}(m:M f)(loc:Loc)(k:f->aq->Tr RS):Tr RS:=match m with
 |some (.ok a H)=>k a H|some (.exc i H)=>.ret<|some<|.exc i loc H
 |none=>.ret none
def jJ{f:Type}(t:Tr<|R f)(loc:Loc)(k:f->aq->Tr RS):Tr RS:=tb t λm=>kB m loc k
noncomputable def tZ(m:MS)(k:Loc->aq->Tr RS):Tr RS:=match m with
 |none=>.ret none
 |some q=>match q with
  |.exc ..=>.ret<|some q
  |.ok z loc H=>match z with|.next=>k loc H|_=>.ret<|some q
noncomputable def MP{f j:Type}(m:M f)(k:f->aq->Tr (R j)):Tr (R j):=match m with|some (.ok a H)=>k a H|_=>.ret none
def qS{f j:Type}(t:Tr<|R f)(k:f->aq->Tr (R j)):Tr (R j):=tb t λm=>MP m k
noncomputable def gd{f:Type}(b:Bool)(t:Tr f):Tr f:=match b with|true=>t|false=>.ret none
section
variable{f:Type}
def xi(h:run x=j)(h':run y=k):run (ha b x y)=match b with|true=>j|false=>k:=by cases b<;>assumption
def A6(h:run x=j)(h':run y=k):run (xP op b x y)=match tU op b with|true=>j|false=>k:=by cases op<;>cases b<;>assumption
def gJ(h:∀a,run (k a)=j a):run (f' o k)=ob o j:=by rcases o with _|a;rfl;exact h a
def qa(h':run t=o)(h:∀a,run (k a)=j a):run (iX t k)=ob o j:=by unfold iX;exact Y (jL ..)<|Y h'<|gJ h
def dt{m:M f}(h:run t=m)(h':∀a H,run (k a H)=j a H):run (dc t k)=bd m j:=by
 unfold dc;refine Y (jL ..)<|Y h ?_;match m with
 |none=>rfl|some (.ok a H)=>exact h' a H|some (.exc i H)=>rfl
def xt{m:M f}(h:run t=m)(h':∀a H,run (k a H)=j a H):run (qS t k)=qO m j:=by
 unfold qS;refine Y (jL ..)<|Y h ?_;match m with
 |none=>rfl|some (.ok a H)=>exact h' a H|some (.exc i H)=>rfl
def k1{m:M f}(h:run t=m)(h':∀a H,run (k a H)=j a H):run (jJ t loc k)=d6 m loc j:=by
 unfold jJ;refine Y (jL ..)<|Y h ?_;match m with
 |none=>rfl|some (.ok a H)=>exact h' a H|some (.exc i H)=>rfl
def J1{m:MS}(h:run t=m)(h':∀loc H,run (k loc H)=j loc H):run (tb t λm=>tZ m k)=lv m j:=by
 refine Y (jL ..)<|Y h ?_;match m with
 |none=>rfl|some (.exc ..)=>rfl|some (.ok z loc H)=>cases z<;>first|rfl|exact h' loc H
def Fj{m:M f}(h:run t=m):run (ha b t<|.ret none)=aw b m:=by rcases b;rfl;exact h
def j'{m:M f}(h:run t=m):run (gd b t)=aw b m:=by rcases b;rfl;exact h
def sp{m:MS}(h:run t=m):run (gd b t)=fR b m:=by rcases b;rfl;exact h
end
structure p' where
 e:bh->Loc->Expr->aq->Tr (R V)
 t:bh->Loc->Expr->aq->Tr (R Bool)
 s:bh->Stmt->Loc->aq->Tr RS
structure CE(v:dS)(w:p'):Prop where
 e:∀c loc x H,run (w.e c loc x H)=v.e c loc x H
 t:∀c loc x H,run (w.t c loc x H)=v.t c loc x H
 s:∀c x loc H,run (w.s c x loc H)=v.s c x loc H
noncomputable def b3{f:Type}(b:Bool)(m:Option f):Option f:=match b with|true=>m|false=>none
def EP(T:ct)(O:ap)(hd:Option Nat)(i:Nat)(m:Str)(H:aq)(o:au):Option (List V->aq->M V):=match o with
 |.list _=>b3 (jW m)<|some λD H=>ob (dp H[i]?) λl=>ez m i l D H
 |.inst E f=>b3 (jg<|aC m f)<|ob (bi E T.cls) λk=>aB k.exc none<|ob (aC m k.eE) λz=>some λD H=>dU T O hd z (.ref i::D) H
 |_=>none
def dx(T:ct)(O:ap)(hd:Option Nat)(a:V)(m:Str)(H:aq):Option (List V->aq->M V):=match a with
 |.str x=>b3 (qt m)<|some λD H=>e' m x D H
 |.blt b=>(match b with|.exception=>b3 (sq m p9) (some<|m9 T)|_=>none)|.fn E=>ob (bi E T.cls) λk=>ob (aC m k.eE) λz=>some λD H=>dU T O hd z D H|.ref i=>ob H[i]? (EP T O hd i m H)|_=>none
def p8(o)(z:f->Option j)(g:j->Option h):ob (ob o z) g=ob o λa=>ob (z a) g:=by cases o<;>rfl
def sM(b)(m)(g:f->M j):ob (b3 b m) g=aw b (ob m g):=by cases b<;>rfl
def JS(b)(m)(g:f->Option j):ob (aB b none m) g=aB b none (ob m g):=by cases b<;>rfl
def p3(h:∀a,k a=j a):ob o k=ob o j:=by rcases o with _|a;rfl;exact h a
def jt(args:aq->M (List V))(H:aq)(g:List V->aq->M V):M V:=bd (args H) g
def P0(T)(O)(hd)(a)(m)(H)(args):ry T O hd a m H args=ob (dx T O hd a m H) (jt args H):=by
 induction a using V.casesOn with
 |str x=>exact(sM (qt m) (some λD H=>e' m x D H)<|jt args H).symm|blt b=>cases b<;>first|rfl|exact(sM (sq m p9) (some (m9 T)) (jt args H)).symm
 |fn E=>exact Eq.trans (p3 λk=>(p8 (aC m k.eE) (λz=>some λD H=>dU T O hd z D H)<|jt args H).symm) (p8 (bi E T.cls) (λk=>ob (aC m k.eE) λz=>some λD H=>dU T O hd z D H)<|jt args H).symm
 |ref i=>
  refine Eq.trans (p3 (o:=H[i]?) (k:=v3 T O hd i m H args) λo=>?_) (p8 H[i]? (EP T O hd i m H) (jt args H)).symm;induction o with
  |list l=>exact(sM (jW m) (some λD H=>ob (dp H[i]?) λl=>ez m i l D H)<|jt args H).symm|inst E f=>refine Eq.trans ?_ (sM (jg<|aC m f) (ob (bi E T.cls) λk=>aB k.exc none<|ob (aC m k.eE) λz=>some λD H=>dU T O hd z (.ref i::D) H)<|jt args H).symm;refine az (aw _)<|Eq.trans (p3 λk=>?_) (p8 (bi E T.cls) (λk=>aB k.exc none<|ob (aC m k.eE) λz=>some λD H=>dU T O hd z (.ref i::D) H)<|jt args H).symm;exact Eq.trans (az (aB k.exc none) (p8 (aC m k.eE) (λz=>some λD H=>dU T O hd z (.ref i::D) H)<|jt args H).symm) (JS ..).symm
  |_=>rfl
 |_=>rfl
def nW(a b:V)(H:aq):M V:=ob (q' a b H) λr=>rt r H
def il(a:V)(l h:Option V)(H:aq):M V:=ob (g0 a l h) λr=>rt r H
section
variable(T:ct)(O:ap)(v:dS)(w:p')
noncomputable def oS(c:bh)(loc:Loc):List Expr->aq->Tr (R<|List V)
 |[],H=>.ret<|rt [] H
 |x::r,H=>dc (w.e c loc x H) λa H=>dc (oS c loc r H) λl H=>.ret<|rt (a::l) H
noncomputable def tA(c:bh)(loc:Loc)(a:V):List CmpOp->List Expr->aq->Tr (R Bool)
 |[],_,_=>.ret none
 |op::h,f,H=>match f with
  |[]=>.ret none
  |x::f=>dc (w.e c loc x H) λb H=>iX (Hz<|cM op a b H) λC=>match dv f with
   |true=>.ret<|rt C H
   |false=>ha C (tA c loc b h f H)<|.ret<|rt false H
noncomputable def x9(c:bh)(loc:Loc)(op:BoolOp):List Expr->aq->Tr (R V)
 |[],_=>.ret none
 |x::r,H=>match r with|[]=>w.e c loc x H|_::_=>dc (w.e c loc x H) λa H=>f' (j0 a) λb=>xP op b (.ret<|rt a H)<|x9 c loc op r H
noncomputable def tk(c:bh)(loc:Loc)(op:BoolOp):List Expr->aq->Tr (R Bool)
 |[],H=>.ret<|rt (Cq op) H
 |x::r,H=>dc (w.t c loc x H) λb H=>xP op b (.ret<|rt b H)<|tk c loc op r H
def uk(c:bh)(loc:Loc)(x:Option Expr)(H:aq):Tr (R<|Option V):=match x with
 |none=>.ret<|rt none H
 |some x=>dc (w.e c loc x H) λa H=>.ret<|rt (some a) H
def D3(c:bh)(loc:Loc)(x:Str)(H:aq)(k:Option NameKind):Tr (R V):=match k with
 |some .local=>iX (Bl<|aC x loc) λa=>.ret<|rt a H
 |_=>tM<|g5 T c loc x H
def xm(c:bh)(loc:Loc)(x:Str)(H:aq):Tr (R V):=match sq x i7 with|true=>.ret none|false=>D3 T c loc x H<|aC x c.sc
def tF(c:bh)(loc:Loc)(x:Expr)(H:aq):Tr (R V):=match x with
 |.Constant k _ _=>.ret<|ob (sd k) λa=>rt a H
 |.Name x _=>xm T c loc x H|.Attribute e m _=>gd (om e)<|dc (w.e c loc e H) λa H=>tM<|mW T a m H
 |.Subscript e i _=>match kM i with
  |some p=>dc (w.e c loc e H) λa H=>dc (uk w c loc p.1 H) λl H=>dc (uk w c loc p.2 H) λh H=>tM<|il a l h H
  |none=>dc (w.e c loc e H) λa H=>dc (w.e c loc i H) λb H=>tM<|nW a b H
 |.Compare l f rs _=>gd (hR rs&&Nat.beq f.length rs.length)<|dc (w.e c loc l H) λa H=>dc (tA w c loc a f rs H) λb H=>.ret<|rt (.bool b) H
 |.BoolOp op D _=>x9 w c loc op D H
 |.UnaryOp op x p=>match op with
  |.Not=>dc (w.e c loc x H) λa H=>f' (j0 a) λb=>.ret<|rt (.bool<|!b) H
  |op=>tM<|d7 T O v c loc (.UnaryOp op x p) H
 |.BinOp l op r _=>dc (w.e c loc l H) λa H=>dc (w.e c loc r H) λb H=>tM<|bin op a b H
 |.IfExp t a b _=>dc (w.t c loc t H) λq H=>ha q (w.e c loc a H)<|w.e c loc b H
 |.Tuple es _ _=>gd (c' es&&cr es.length)<|dc (oS w c loc es H) λl H=>.ret<|rt (.tup l) H
 |.List es _=>gd (c' es&&cr es.length)<|dc (oS w c loc es H) λl H=>.ret<|rt (.ref H.length)<|H++[.list l]
 |.Call z args J p=>match J with
  |[]=>(match h8 z with
   |some q=>gd (om q.1&&c' args&&Nat.blt args.length 30&&Nat.beq q.2.2.endLine p.line)<|dc (w.e c loc q.1 H) λa H=>iX (N'<|dx T O c.hd a q.2.1 H) λg=>dc (oS w c loc args H) λD H=>tM<|g D H
   |none=>gd (c' args)<|dc (w.e c loc z H) λa H=>dc (oS w c loc args H) λD H=>gd (Nat.blt D.length 30)<|tM<|bP T O c.hd a D H)
  |_::_=>.ret none
 |.ListComp u j scope _=>f' (un j) λg=>gd (jS g.2.1&&it scope&&nE c.hd)<|f' (gF c.sc loc scope.names) λcl=>dc (w.e c loc g.2.1 H) λaY H=>ha (eN aY H)
   (qS (Tw<|v.lc ⟨scope.names,c.hd,c.lam⟩ (eB scope.names (db cl) H).1 g.1 u g.2.2 aY 0 [] (eB scope.names (db cl) H).2) λl H=>.ret<|rt (.ref H.length)<|H++[.list l]) (.ret none)
 |x=>tM<|d7 T O v c loc x H
def uf(t:Tr<|R V):Tr (R Bool):=dc t λa H=>f' (j0 a) λb=>.ret<|rt b H
def zr(c:bh)(loc:Loc)(x:Expr)(H:aq):Tr (R Bool):=match x with
 |.Compare l f rs _=>gd (hR rs&&Nat.beq f.length rs.length)<|dc (w.e c loc l H) λa H=>tA w c loc a f rs H
 |.UnaryOp op x p=>match op with
  |.Not=>dc (w.t c loc x H) λb H=>.ret<|rt (!b) H
  |op=>uf<|w.e c loc (.UnaryOp op x p) H
 |.BoolOp op D _=>tk w c loc op D H|.IfExp ..=>.ret none|x=>uf<|w.e c loc x H
noncomputable def gZ(c:bh):List Stmt->Loc->aq->Tr RS
 |[],loc,H=>.ret<|some<|.ok .next loc H
 |x::r,loc,H=>tb (w.s c x loc H) λm=>tZ m<|gZ c r
def Cm(c:bh)(i:Nat)(nm:Option Str)(body:List Stmt)(loc:Loc)(H:aq):Tr RS:=match nm with|none=>gZ w ⟨c.sc,some i,c.lam⟩ body loc H|some x=>f' (aC x c.sc) λk=>gd (wN k)<|iX (gZ w ⟨c.sc,some i,c.lam⟩ body (put x (.ref i) loc) H) λq=>.ret<|some<|lB x q
noncomputable def t6(c:bh)(i:Nat)(E:Addr):List ExceptHandler->Loc->aq->Tr RS
 |[],loc,H=>.ret<|some<|.exc i loc H
 |h::r,loc,H=>match h with
  |.ExceptHandler f nm body _=>f' f λt=>f' (lF t) λy=>f' (lG T ⟨c.sc,some i,c.lam⟩ loc y H) λaa=>f' (tV T E aa) λb=>match b with|true=>Cm w c i nm body loc H|false=>t6 c i E r loc H
def CV(c:bh)(f:List ExceptHandler)(m:MS):Tr RS:=match m with
 |none=>.ret none|some (.ok z loc H)=>.ret<|some<|.ok z loc H
 |some (.exc i loc H)=>iX (vs H[i]?) λo=>match o with|.exc E _ _=>t6 T w c i E f loc H|_=>.ret none
def A3(c:bh)(t:Expr)(a:V)(loc:Loc)(H:aq):Tr RS:=match h8 t with
 |some q=>jJ (w.e c loc q.1 H) loc λb H=>f' (fw b) λi=>iX (vs H[i]?) λo=>tS<|jA T q.2.1 a loc i H o
 |none=>tS<|i' T v c t a loc H
def Fv(c:bh)(x:Stmt)(loc:Loc)(H:aq):Tr RS:=match x with
 |.Expr e _=>gd (mh e)<|jJ (w.e c loc e H) loc λ_ H=>.ret<|some<|.ok .next loc H
 |.Assign k e _=>f' (s3 k) λt=>gd (mh e&&nX t e)<|jJ (w.e c loc e H) loc λa H=>A3 T v w c t a loc H
 |.If t a b _=>jJ (w.t c loc t H) loc λq H=>ha q (gZ w c a loc H)<|gZ w c b loc H
 |.For t j b dJ p=>match dJ with
  |[]=>gd (jS j&&nE c.hd)<|jJ (w.e c loc j H) loc λaY H=>ha (eN aY H) (tS<|v.fr c t aY 0 b loc H)<|.ret none
  |e::dJ=>tS<|ei T v c (.For t j b (e::dJ) p) loc H
 |.Return x _=>match x with
  |none=>.ret<|some<|.ok (.ret .none) loc H
  |some e=>jJ (w.e c loc e H) loc λa H=>.ret<|some<|.ok (.ret a) loc H
 |.Raise x y _=>match x with
  |some e=>(match y with
   |none=>jJ (w.e c loc e H) loc λa H=>tS<|m7 T c.hd loc a H
   |some _=>.ret none)
  |none=>.ret none
 |.Try b f dJ bp _=>match f with
  |[]=>.ret none
  |h::f=>(match dJ with
   |[]=>(match bp with|[]=>tb (gZ w c b loc H) λm=>CV T w c (h::f) m|_::_=>.ret none)
   |_::_=>.ret none)
 |x=>tS<|ei T v c x loc H
noncomputable def ys(c:bh)(t:Expr)(b:List Stmt)(m:MS):Tr RS:=.ret (match m with
  |some (.ok .next loc H)=>v.wh c t b loc H|some (.ok .cont loc H)=>v.wh c t b loc H|some (.ok .brk loc H)=>some<|.ok .next loc H
  |o=>o)
def Fq(c:bh)(t:Expr)(b:List Stmt)(loc:Loc)(H:aq):Tr RS:=jJ (w.t c loc t H) loc λq H=>ha q (tb (gZ w c b loc H)<|ys v c t b)<|.ret<|some<|.ok .next loc H
noncomputable def yz(c:bh)(t:Expr)(aY:V)(k:Nat)(b:List Stmt)(m:MS):Tr RS:=.ret (match m with
   |some (.ok .next loc H)=>v.fr c t aY (k+1) b loc H|some (.ok .cont loc H)=>v.fr c t aY (k+1) b loc H|some (.ok .brk loc H)=>some<|.ok .next loc H
   |o=>o)
def xe(c:bh)(t:Expr)(aY:V)(k:Nat)(b:List Stmt)(a:V)(loc:Loc)(H:aq):Tr RS:=tb (tS<|i' T v c t a loc H) λm=>tZ m λloc H=>tb (gZ w c b loc H)<|yz v c t aY k b
end
noncomputable def qh(m:MS)(k:Loc->aq->Tr (R<|List V)):Tr (R<|List V):=match m with|some (.ok .next loc H)=>k loc H|_=>.ret none
def v5(v:dS)(w:p')(c:bh)(loc:Loc)(x:Str)(f:Expr)(h:List Expr)(aY:V)(k:Nat)(U:List V)(a:V)(H:aq):Tr (R<|List V):=tb (tS<|fV c x a loc H) λm=>qh m λloc H=>qS (tk w c loc .And h H) λq H=>ha q (qS (w.e c loc f H) λb H=>ha (cr<|U.length+1) (.ret<|v.lc c loc x f h aY (k+1) (U++[b]) H)<|.ret none)<|.ret<|v.lc c loc x f h aY (k+1) U H
section
variable{v:dS}{w:p'}(W:CE v w)
include W
theorem rx(c)(loc):∀f H,run (oS w c loc f H)=cf v c loc f H:=by
 intro f;induction f with
 |nil=>intro _;exact rfl
 |cons x r h=>intro H;exact dt (W.e c loc x H) λ_ H=>dt (h H) λ_ _=>rfl
theorem wV(c)(loc):∀f h a H,run (tA w c loc a f h H)=nz v c loc a f h H|[],_,_,_=>rfl|op::f,[],_,_=>rfl|op::f,x::h,a,H=>dt (W.e c loc x H) λb H=>qa rfl λC=>by unfold sW;rcases dv h;exact xi (wV c loc f h b H) rfl;rfl
theorem Ds(c)(loc)(op):∀f H,run (x9 w c loc op f H)=s' v c loc op f H|[],_=>rfl|[x],H=>W.e c loc x H|x::y::r,H=>dt (W.e c loc x H) λa H=>gJ λb=>A6 rfl<|Ds c loc op (y::r) H
theorem D2(c)(loc)(op):∀f H,run (tk w c loc op f H)=l2 v c loc op f H:=by
 intro f;induction f with
 |nil=>intro _;exact rfl
 |cons x r h=>intro H;exact dt (W.t c loc x H) λb H=>A6 rfl<|h H
theorem EY(c)(loc)(x)(H):run (uk w c loc x H)=mp v c loc x H:=by rcases x with _|x;rfl;exact dt (W.e c loc x H) λ_ _=>rfl
omit W in
theorem Jk(c)(loc)(x)(H):run (xm T c loc x H)=g5 T c loc x H:=by
 unfold xm;have e:g5 T c loc x H=ob (aB (sq x i7) none<|ob (aC x c.sc)<|z7 T loc x H) λa=>rt a H:=rfl;rcases bo:sq x i7
 .show run (D3 T c loc x H<|aC x c.sc)=_;have z:run (tM<|g5 T c loc x H)=g5 T c loc x H:=rfl;rcases h:aC x c.sc with _|k;exact z
  .induction k with
   |«local»=>refine Y e<|Y bo<|Y h ?_;show run (iX (Bl<|aC x loc) _)=ob (aC x loc) _;cases aC x loc<;>rfl
   |_=>exact z
 exact Y e<|Y bo rfl
theorem Gt(c)(loc)(x)(H):run (tF T O v w c loc x H)=d7 T O v c loc x H:=by
 induction x using Expr.casesOn with
 |Name x p=>exact Jk c loc x H|Attribute e m p=>exact j'<|dt (W.e c loc e H) λ_ _=>rfl
 |Subscript e i p=>unfold tF d7;dsimp only;rcases kM i with _|q;exact dt (W.e c loc e H) λ_ H=>dt (W.e c loc i H) λ_ _=>rfl;exact dt (W.e c loc e H) λ_ H=>dt (EY W c loc q.1 H) λ_ H=>dt (EY W c loc q.2 H) λ_ _=>rfl
 |Compare l f rs p=>exact j'<|dt (W.e c loc l H) λa H=>dt (wV W c loc f rs a H) λ_ _=>rfl
 |BoolOp op D p=>exact Ds W c loc op D H|UnaryOp op x p=>cases op<;>first|rfl|exact dt (W.e c loc x H) λ_ _=>gJ λ_=>rfl
 |BinOp l op r p=>exact dt (W.e c loc l H) λ_ H=>dt (W.e c loc r H) λ_ _=>rfl|IfExp t a b p=>exact dt (W.t c loc t H) λ_ H=>xi (W.e c loc a H)<|W.e c loc b H
 |Tuple es u p=>exact j'<|dt (rx W c loc es H) λ_ _=>rfl
 |List es p=>exact j'<|dt (rx W c loc es H) λ_ _=>rfl
 |Call z args J p=>rcases J;unfold tF d7;dsimp only;rcases h8 z with _|q;exact j'<|dt (W.e c loc z H) λ_ H=>dt (rx W c loc args H) λ_ _=>j' rfl;exact j'<|dt (W.e c loc q.1 H) λa H=>Y (P0 ..)<|qa rfl λg=>dt (rx W c loc args H) λ_ _=>rfl;rfl
 |ListComp h j sc p=>exact gJ λg=>j'<|gJ λcl=>dt (W.e c loc g.2.1 H) λaY H=>Fj<|xt rfl λ_ _=>rfl
 |_=>rfl
theorem zG(c)(loc)(x)(H):run (uf<|w.e c loc x H)=bd (v.e c loc x H) λa H=>ob (j0 a) λb=>rt b H:=dt (W.e c loc x H) λ_ _=>gJ λ_=>rfl
theorem Qs(c)(loc)(x)(H):run (zr w c loc x H)=stepT v c loc x H:=by
 induction x using Expr.casesOn with
 |Compare l f rs p=>exact j'<|dt (W.e c loc l H) λa H=>wV W c loc f rs a H
 |UnaryOp op x p=>cases op<;>first|exact zG W ..|exact dt (W.t c loc x H) λ_ _=>rfl
 |BoolOp op D p=>exact D2 W c loc op D H|IfExp=>rfl|_=>exact zG W ..
theorem kj(c):∀f loc H,run (gZ w c f loc H)=cS v c f loc H:=by
 intro f;induction f with
 |nil=>intro _ _;exact rfl
 |cons x r h=>intro loc H;exact J1 (W.s c x loc H) λloc H=>h loc H
theorem NL(c)(i)(nm)(body)(loc)(H):run (Cm w c i nm body loc H)=uW v c i nm body loc H:=by rcases nm with _|x;exact kj W ..;exact gJ λk=>sp<|qa (kj W ..) λ_=>rfl
theorem Fp(c)(i)(E):∀f loc H,run (t6 T w c i E f loc H)=rg T v c i E f loc H|[],_,_=>rfl|.ExceptHandler h nm body p::r,loc,H=>gJ λt=>gJ λy=>gJ λaa=>gJ λb=>by rcases b;exact Fp c i E r loc H;exact NL W ..
theorem G1(c)(t)(a)(loc)(H):run (A3 T v w c t a loc H)=i' T v c t a loc H:=by
 induction t using Expr.casesOn with
 |Attribute e m p=>exact k1 (W.e c loc e H) λ_ _=>gJ λ_=>qa rfl λ_=>rfl|_=>rfl
theorem MK(c)(x)(loc)(H):run (Fv T v w c x loc H)=ei T v c x loc H:=by
 induction x using Stmt.casesOn with
 |Expr e p=>exact sp<|k1 (W.e c loc e H) λ_ _=>rfl
 |Assign k e p=>exact gJ λt=>sp<|k1 (W.e c loc e H) λa H=>G1 W c t a loc H
 |If t a b p=>exact k1 (W.t c loc t H) λ_ H=>xi (kj W c a loc H)<|kj W c b loc H
 |For t j b dJ p=>rcases dJ;exact sp (k1 (W.e c loc j H) λaY H=>by show run (ha (eN aY H) _ _)=fR (eN aY H) _;cases eN aY H<;>rfl);rfl
 |Return x p=>rcases x with _|e;rfl;exact k1 (W.e c loc e H) λ_ _=>rfl
 |Raise x y p=>rcases x with _|e;rfl;rcases y;exact k1 (W.e c loc e H) λ_ _=>rfl;rfl
 |Try b f dJ bp p=>
  rcases f with _|⟨h,f⟩;rfl
  .rcases dJ
   .rcases bp
    .show run (tb (gZ w c b loc H) λm=>CV T w c (h::f) m)=vV T v c (h::f) (cS v c b loc H);refine Y (jL ..)<|Y (kj W ..) ?_;match cS v c b loc H with|none=>rfl|some (.ok ..)=>rfl|some (.exc i loc H)=>show run (iX (vs H[i]?) _)=rR T v c (h::f) i loc H H[i]?;unfold rR;rcases H[i]? with _|o;rfl;cases o<;>first|rfl|exact Fp W ..
    rfl
   rfl
 |_=>rfl
theorem Qz(c)(t)(b)(loc)(H):run (Fq v w c t b loc H)=tq v c t b loc H:=k1 (W.t c loc t H) λq H=>by rcases q;rfl;show run (tb (gZ w c b loc H)<|ys v c t b)=_;exact Y (jL ..)<|Y (kj W ..) rfl
theorem NV(c)(t)(aY)(k)(b)(a)(loc)(H)(h:dI aY k H=some (some a)):run (xe T v w c t aY k b a loc H)=mj T v c t aY k b loc H:=by
 unfold xe mj;refine Y (jL ..)<|Y h ?_;show run (tZ (i' T v c t a loc H) _)=_;dsimp only;match i' T v c t a loc H with
 |none=>rfl|some (.exc ..)=>rfl|some (.ok z loc H)=>cases z<;>first|rfl|(show run (tb (gZ w c b loc H) (yz v c t aY k b))=_;exact Y (jL ..) (Y (kj W ..) rfl))
theorem Om(c)(loc)(x)(j)(u)(aY)(k)(U)(a)(H)(h:dI aY k H=some (some a)):run (v5 v w c loc x j u aY k U a H)=mq v c loc x j u aY k U H:=by
 unfold v5 mq;refine Y (jL ..)<|Y h ?_;show run (qh (fV c x a loc H) _)=_;dsimp only;match fV c x a loc H with
 |none=>rfl|some (.exc ..)=>rfl
 |some (.ok z loc H)=>
  cases z<;>first|rfl|skip
  refine xt (D2 W c loc .And u H) λq H=>?_;rcases q;rfl;exact xt (W.e c loc j H) λb H=>Fj rfl
end
def tv(T:ct)(O:ap)(n:Nat):p':=Nat.rec ⟨λ_ _ _ _=>.ret none,λ_ _ _ _=>.ret none,λ_ _ _ _=>.ret none⟩ (λn w=>⟨tF T O (ev T O n) w,zr w,Fv T (ev T O n) w⟩) n
def oW(T)(O):∀n,CE (ev T O n) (tv T O n):=by
 intro n;induction n with
 |zero=>exact⟨λ_ _ _ _=>rfl,λ_ _ _ _=>rfl,λ_ _ _ _=>rfl⟩|succ n f=>exact⟨Gt<|f,Qs<|f,MK<|f⟩
def sP(T:ct)(hd:Option Nat)(z:Addr)(fn:Fn):bh:=⟨fn.scope.names,hd,aB (Nat.beq z T.hU) (some (T.gh,T.ga)) none⟩
def Be(T:ct)(hd:Option Nat)(z:Addr)(args:List V)(H:aq):Option (Loc×aq):=ob (bi z T.fns) λfn=>ob (fill fn.params.length fn.dz args) λD=>m5 (sP T hd z fn) fn.params D (eB fn.scope.names [] H).1 (eB fn.scope.names [] H).2
def vn(n:Nat)(T:ct)(O:ap)(hd:Option Nat)(z:Addr)(loc:Loc)(H:aq):Tr (R V):=f' (bi z T.fns) λfn=>iX (gZ (tv T O n) (sP T hd z fn) fn.body loc H) λq=>.ret<|pN q
section
variable{T:ct}{O:ap}{n:Nat}{hd:Option Nat}{loc:Loc}{H:aq}
def nj{r:M V}(loc)(h:Be T hd z args H=some (loc,H'))(e:run (vn n T O hd z loc H')=r):aF n T O hd (.fn z) args H=r:=by refine Y e.symm ?_;unfold vn;refine Y (gJ λfn=>qa (kj (oW T O n) ..) λ_=>rfl)<|aK h λfn f h=>aK h λD j h=>?_;show ob (bi z T.fns) _=_;refine Y f ?_;show ob (fill fn.params.length fn.dz args) _=_;refine Y j ?_;show ob (m5 (sP T hd z fn) fn.params D (eB fn.scope.names [] H).1 (eB fn.scope.names [] H).2) _=_;refine Y h ?_;rfl
def am{r:M V}(loc)(h:Be T hd z args H=some (loc,H))(e:run (vn n T O hd z loc H)=r):aF n T O hd (.fn z) args H=r:=nj loc h e
def ug{r:M V}(h:(it sc&&h5 sc.names&&lL sc.names cl)=true)(e:run ((tv T O n).e ⟨sc.names,hd,none⟩ (db cl) x H)=r):aF n T O hd (.bY x sc cl) [] H=r:=by refine Y e.symm<|Y ((oW T O n).e ..) ?_;show aw (it sc&&h5 sc.names&&lL sc.names cl) _=_;exact Y h rfl
def fz{r:MS}(e:run (Fq (ev T O n) (tv T O n) c t b loc H)=r):(ev T O<|n+1).wh c t b loc H=r:=by exact Y e.symm<|Y (Qz (oW T O n) ..) rfl
def e5{r:MS}(h:dI aY k H=some (some a))(e:run (xe T (ev T O n) (tv T O n) c t aY k b a loc H)=r):(ev T O<|n+1).fr c t aY k b loc H=r:=by exact Y e.symm<|Y (NV (oW T O n) _ _ _ _ _ _ _ _ h) rfl
def nh{r:M (List V)}(h:dI aY k H=some (some a))(e:run (v5 (ev T O n) (tv T O n) c loc x j u aY k U a H)=r):(ev T O<|n+1).lc c loc x j u aY k U H=r:=by exact Y e.symm<|Y (Om (oW T O n) _ _ _ _ _ _ _ _ _ _ h) rfl
def oi(h:dI aY k H=some none):(ev T O<|n+1).lc c loc x j u aY k U H=some (.ok U H):=by show mq (ev T O n) c loc x j u aY k U H=_;unfold mq;exact Y h rfl
def k4(h:dI aY k H=some none):(ev T O<|n+1).fr c t aY k b loc H=some (.ok .next loc H):=by show mj T (ev T O n) c t aY k b loc H=_;unfold mj;exact Y h rfl
end
def dw(h:a<b):Nat.blt a b=true:=w9 h
def lj(h:¬b=true):b=false:=by induction b with|true=>exact absurd rfl h|false=>rfl
def kK(h:b<=a):Nat.blt a b=false:=lj λe=>n9 _<|cB (bE e) h
def ia{b:Nat}(h:a<=b):Nat.ble a b=true:=w9 h
def yI{b:Nat}(h:b<a):Nat.ble a b=false:=lj λe=>n9 _<|cB h<|bE e
def o8{b:Nat}(h:a=b):Nat.beq a b=true:=by subst h;exact eg a
def iI{b:Nat}(h:a≠b):Nat.beq a b=false:=lj λe=>h<|cd e
def hv(h:n<=1000000):cr n=true:=ia<|as h<|by decide
def j5{n:Nat}(h:n<=1000000):dd (n:Int)=true:=dw<|fj h<|by decide
def qb{b:Nat}(h:b<=a):(a:Int)-(b:Int)=((a-b:Nat):Int):=(Int.ofNat_sub h).symm
def gy{f:Type}{x r:List f}{c:f}(aE:x.drop k=c::r):x[k]? =some c/\x.drop (k+1)=r/\k<x.length:=by
 have h:x[k]? =some c:=by refine Y List.head?_drop.symm<|Y aE ?_;rfl
 exact e0 h (by exact Y List.tail_drop.symm<|Y aE rfl)<|(cc.mp h).1
def oR{f:Type}{x:List f}(aE:x.drop k=[]):x.length<=k:=List.drop_eq_nil_iff.mp aE
def gO{f:Type}{x r:List f}(aE:x.drop k=r)(aP:k<=x.length):x.length=k+r.length:=Y aE.symm<|Y b0<|Y (kT aP) rfl
def ee{l:Loc}:aC x (put x v l)=some v:=Y (iw ..)<|Y (bZ rfl) rfl
def hQ{k:Nat}(h:x.drop k=c::r):nW (.str x) (.int k) H=some (.ok (.str [c]) H):=by refine c5 (gy h) λf _ u=>?_;show ob (ob (match Nat.blt k x.length with|true=>some k|false=>none) λj=>ob x[j]? λc=>some<|V.str [c]) (λr=>rt r H)=_;refine Y (dw u) ?_;show ob (ob x[k]? λc=>some<|V.str [c]) (λr=>rt r H)=_;exact Y f rfl
def BH{x:List Nat}(h:x.drop k=c::r):cM .Lt (.int k) (.int (x.length:Nat)) H=some true:=az some<|dw (gy h).2.2
def xU{x:List Nat}(h:x.drop k=[]):cM .Lt (.int k) (.int (x.length:Nat)) H=some false:=az some<|kK<|oR h
def gw{k:Nat}(h:x.drop k=r)(aP:k<=x.length):e' qM x [.str y,.int k] H=some (.ok (.bool<|pre y r) H):=by show rt (V.bool<|Nat.ble k x.length&&pre y (x.drop k)) H=_;exact Y (ia aP)<|Y h rfl
def qr{n:Nat}(h:i<=n):d4 i n=i:=by show(match Nat.ble i n with|true=>i|false=>n)=i;exact Y (ia h) rfl
def Gb{n:Nat}(h:n<i):d4 i n=n:=by show(match Nat.ble i n with|true=>i|false=>n)=n;exact Y (yI h) rfl
def bf:Nat:=100000
def pw:bf<=1000000:=by decide
def ty{k:Nat}(h:x.drop k=r)(aP:k<=x.length)(aE:x.length<=bf)(hm:m<=bf):il (.str x) (some<|.int k) (some<|.int ((k+m:Nat):Int)) H=some (.ok (.str<|r.take m) H):=by
 have e:g0 (.str x) (some<|.int k) (some<|.int ((k+m:Nat):Int))=some (.str<|r.take m):=by show aB (dd (k:Int)&&dd ((k+m:Nat):Int)) (some<|V.str<|fT (d4 k x.length) (d4 ((k+m:Nat):Int) x.length) x) none=_;refine Y (j5<|as aP<|as aE pw)<|Y (j5<|as (Nat.add_le_add (as aP aE) hm)<|by decide)<|Y (qr aP) ?_;show some (V.str<|fT k (d4 ((k+m:Nat):Int) x.length) x)=_;have hl:=gO h aP;unfold fT;refine Y h ?_;rcases dE x.length (k+m)with q|q;exact Y (Gb q)<|Y (nR<|a7 (a4 hl.symm) (cm x.length k)<|by simp+arith)<|Y (nR<|a7 (a4 hl.symm) q<|by simp+arith) rfl;exact Y (qr q)<|Y (ew ..) rfl
 unfold il;exact Y e rfl
def TZ{k:Nat}(h:x.drop k=r)(aP:k<=x.length)(aE:x.length<=bf):il (.str x) (some<|.int k) none H=some (.ok (.str r) H):=by
 have e:g0 (.str x) (some<|.int k) none=some (.str r):=by show aB (dd (k:Int)) (some<|V.str<|fT (d4 k x.length) x.length x) none=_;refine Y (j5<|as aP<|as aE pw)<|Y (qr aP) ?_;unfold fT;refine Y h<|Y (nR<|by rw[<-h,b0];exact ba _) ?_;rfl
 unfold il;exact Y e rfl
def qm(T:ct)(z:Addr):Fn:=match bi z T.fns with|some x=>x|none=>⟨[],[],[],⟨.function,[],false,false,[]⟩⟩
def fS(z:Addr)(i:Nat):Stmt:=((qm tab z).body[i]?).getD<|.Pass ⟨0,0,0,0⟩
noncomputable def Bk:Stmt->Expr|.While t _ _ _=>t|.For t _ _ _ _=>t|_=>.Constant .none 0 ⟨0,0,0,0⟩
noncomputable def yh:Stmt->List Stmt|.While _ b _ _=>b|.For _ _ b _ _=>b|_=>[]
def dh(z:Addr):bh:=sP tab none z<|qm tab z
abbrev d2(O:ap)(j z i:Nat)(loc:Loc)(H:aq):MS:=(ev tab O j).wh (dh z) (Bk<|fS z i) (yh<|fS z i) loc H
abbrev bv(O:ap)(j z i:Nat)(aY:V)(k:Nat)(loc:Loc)(H:aq):MS:=(ev tab O j).fr (dh z) (Bk<|fS z i) aY k (yh<|fS z i) loc H
abbrev dy(O:ap)(z:Addr)(D:List V)(H:aq)(r:V)(H':aq):Prop:=O none (.fn z) D H=some (.ok r H')
abbrev Do(j:Nat)(O:ap)(z:Addr)(D:List V)(H:aq)(r:V)(H':aq):Prop:=aF (j+60) tab O none (.fn z) D H=some (.ok r H')
noncomputable abbrev bc:Str:=⟨#[116,101,120,116]⟩
noncomputable abbrev cK:Str:=⟨#[97,116]⟩
noncomputable abbrev b7:Str:=⟨#[112,108,97,99,101]⟩
noncomputable abbrev Ia:Str:=⟨#[104,101,108,100]⟩
noncomputable abbrev e2:Str:=⟨#[115,101,101,110]⟩
noncomputable abbrev bk:Str:=⟨#[115,101,108,102]⟩
noncomputable abbrev h4:Str:=⟨#[112,97,114,116]⟩
noncomputable abbrev fe:Str:=⟨#[105,115,95,108,97,115,116]⟩
noncomputable abbrev eF:Str:=⟨#[107,105,110,100]⟩
noncomputable abbrev qp:Str:=⟨#[101,110,100]⟩
noncomputable abbrev B0:Str:=⟨#[112,105,101,99,101]⟩
noncomputable abbrev pX:Str:=⟨#[102,111,117,110,100]⟩
noncomputable abbrev t1:Str:=⟨#[113,117,111,116,101]⟩
noncomputable abbrev hN:Str:=⟨#[115,105,103,110]⟩
noncomputable abbrev mv:Str:=⟨#[119,111,114,100]⟩
noncomputable abbrev sX:Str:=⟨#[115,116,97,114,116]⟩
noncomputable abbrev v9:Str:=⟨#[98,101,103,105,110]⟩
noncomputable abbrev C2:Str:=⟨#[101,110,100,105,110,103]⟩
noncomputable abbrev ku:Str:=⟨#[101,118,101,110,116]⟩
noncomputable abbrev oC:Str:=⟨#[112,97,114,116,115]⟩
noncomputable abbrev h0:Str:=⟨#[101,118,101,110,116,115]⟩
noncomputable abbrev mG:Str:=⟨#[99,111,110,116,101,110,116]⟩
noncomputable abbrev mD:Str:=⟨#[111,110,95,100,111,99,116,121,112,101]⟩
noncomputable abbrev la:Str:=⟨#[112,105,101,99,101,115]⟩
noncomputable abbrev mH:Str:=⟨#[115,116,97,103,101]⟩
noncomputable abbrev mR:Str:=⟨#[104,97,115,95,100,111,99,116,121,112,101]⟩
noncomputable abbrev mZ:Str:=⟨#[102,97,117,108,116]⟩
noncomputable abbrev dN:Str:=⟨#[109,101,115,115,97,103,101]⟩
noncomputable abbrev eG:Str:=⟨#[101,110,116,105,116,105,101,115]⟩
noncomputable abbrev eU:Str:=⟨#[103,114,111,119,116,104]⟩
noncomputable abbrev iN:Str:=⟨#[110,97,109,101,115]⟩
noncomputable abbrev el:Str:=⟨#[108,105,109,105,116,115]⟩
noncomputable abbrev j1:Str:=⟨#[111,117,116,101,114]⟩
noncomputable abbrev jH:Str:=⟨#[103,101,110,101,114,97,108]⟩
noncomputable abbrev kO:Str:=⟨#[112,97,114,97,109,101,116,101,114,115]⟩
noncomputable abbrev iG:Str:=⟨#[109,111,115,116,95,100,101,112,116,104]⟩
noncomputable abbrev iQ:Str:=⟨#[109,111,115,116,95,115,105,122,101]⟩
noncomputable abbrev gT:Str:=⟨#[115,105,122,101]⟩
noncomputable abbrev gE:Str:=⟨#[111,112,101,110]⟩
noncomputable abbrev i9:Str:=⟨#[110,97,109,101]⟩
noncomputable abbrev jb:Str:=⟨#[116,111,108,100]⟩
noncomputable abbrev gD:Str:=⟨#[115,116,114,101,97,109]⟩
noncomputable abbrev hC:Str:=⟨#[109,111,114,101]⟩
noncomputable abbrev u2:Str:=⟨#[99,97,108,108]⟩
noncomputable abbrev hW:Str:=⟨#[115,111,117,114,99,101]⟩
noncomputable abbrev TA:Str:=⟨#[116,104,105,110,103,115]⟩
noncomputable abbrev jT:Str:=⟨#[115,99,114,105,112,116]⟩
noncomputable abbrev eZ:Str:=⟨#[107]⟩
noncomputable abbrev vy:Str:=⟨#[99,101,108,108]⟩
noncomputable abbrev Iy:Str:=⟨#[98,105,103]⟩
noncomputable abbrev OH:Str:=⟨#[109,105,120,101,100]⟩
noncomputable abbrev yE:Str:=⟨#[116,111,112]⟩
noncomputable abbrev oQ:Str:=⟨#[112,108,97,99,101,115]⟩
noncomputable abbrev nq:Str:=⟨#[116,117,114,110]⟩
noncomputable abbrev xQ:Str:=⟨#[115,111,109,101]⟩
noncomputable abbrev uC:Str:=⟨#[100,117,101]⟩
noncomputable abbrev Dg:Str:=⟨#[105,110,110,101,114]⟩
noncomputable abbrev Tl:Str:=⟨#[109,97,110,121]⟩
noncomputable abbrev vX:Str:=⟨#[99,111,100,101]⟩
noncomputable abbrev wJ:Str:=⟨#[114,97,110,103,101,115]⟩
noncomputable abbrev g7:Str:=⟨#[108,111,119]⟩
noncomputable abbrev hj:Str:=⟨#[104,105,103,104]⟩
noncomputable abbrev ut:Str:=⟨#[118,97,108,117,101]⟩
noncomputable abbrev yC:Str:=⟨#[101,110,116,105,116,121]⟩
noncomputable abbrev N4:Str:=⟨#[97,103,97,105,110]⟩
noncomputable abbrev GJ:Str:=⟨#[114,101,97,100]⟩
noncomputable abbrev ao:List Nat:=[116,101,120,116]
noncomputable abbrev d':List Nat:=[115,116,97,114,116]
noncomputable abbrev g3:List Nat:=[101,110,100]
noncomputable abbrev dL:List Nat:=[114,101,102,101,114,101,110,99,101]
noncomputable abbrev cP:List Nat:=[119,114,111,110,103]
noncomputable abbrev ge:List Nat:=[99,100,97,116,97]
noncomputable abbrev sl:List Nat:=[99,111,109,109,101,110,116]
noncomputable abbrev h9:List Nat:=[100,111,99,116,121,112,101]
noncomputable abbrev eb:List Nat:=[60,33,45,45]
noncomputable abbrev dq:List Nat:=[60,33,91,67,68,65,84,65,91]
noncomputable abbrev dj:List Nat:=[60,33,68,79,67,84,89,80,69]
def fh(c:Nat):Bool:=(br [c] [60,38]).isSome
noncomputable def aI:List Nat->Nat|[]=>0|c::r=>aB (fh c) 0<|aI r+1
section
variable{O:ap}{H:aq}
theorem Aa:∀r(k j:Nat),x.drop k=r->r.length<=j->d2 O (j+10) 554 0 [(bc,.str x),(cK,.int k)] H=some (.ok .next [(bc,.str x),(cK,.int (k+aI r:Nat))] H)
 |[],k,j,aE,_=>by have u:=xU (H:=H) aE;clear aE;exact fz<|sk 4<|aj Q.c u rfl rfl
 |c::r,k,j+1,aE,y=>by have u:=BH (H:=H) aE;have f:=hQ (H:=H) aE;have z:=Aa r (k+1) j (gy aE).2.1<|iC y;clear aE y;simp only[aI];rcases h:fh c;exact Y (show k+aB false 0 (aI r+1)=k+1+aI r from(Nat.succ_add_eq_add_succ k _).symm)<|fz<|sk 4<|aj Q.c u rfl<|sk 3<|aj Q.m f rfl<|aj (λb=>Q.c<|some<|!b) h rfl z;exact fz<|sk 4<|aj Q.c u rfl<|sk 3<|aj Q.m f rfl<|aj (λb=>Q.c<|some<|!b) h rfl rfl
def If{k:Nat}(aE:x.drop k=r)(f:r.length<=j):Do j O 554 [.str x,.int k] H (.int (k+aI r:Nat)) H:=by have l:=Aa (O:=O) (H:=H) r k (j+49) aE<|as f<|bK ..;clear aE;exact am [(bc,V.str x),(cK,V.int ↑k)] rfl<|aj Q.s l rfl rfl
end
def Dp(h:x.length<y.length):pre y x=false:=lj λe=>n9 _<|cB h<|j2 e
def ky:∀{x},y.length<=x.length->pre y (x++a)=pre y x:=by
 intro x h;have:(pre y (x++a)=true)=(pre y x=true):=by rw[iz,iz,AF h]
 exact gN.mpr<|iff_of_eq this
def Ei{k:Nat}(h:x.drop k=r)(aP:k<=x.length):e' qc x [.str y,.int k] H=some (.ok (.bool<|b2 r y) H):=by
 show rt (V.bool<|Nat.ble (k+y.length) x.length&&b2 x y) H=_;have hl:=gO h aP;have aE:x=x.take k++r:=Y h.symm<|Y (n7 ..) rfl;rcases dE r.length y.length with q|q
 .refine Y (yI<|by rw[hl];exact Nat.add_lt_add_left q k) ?_;have:b2 r y=false:=Dp<|by refine Y fL<|Y fL ?_;exact q
  exact Y this rfl
 .refine Y (ia<|by rw[hl];exact hO q k) ?_;have:b2 x y=b2 r y:=by
   unfold b2;conv=>lhs;rw[aE,r6]
   exact ky<|by refine Y fL<|Y fL ?_;exact q
  exact Y this rfl
def bS(r:List Nat):Nat:=aB (b2 r [93,93]) 2<|aB (b2 r [93]) 1 0
def eD(r w:List Nat):Bool:=aB (Nat.blt r.length w.length) (pre r w) false
noncomputable def oK(k:Nat):Option Nat->V|none=>.none|some e=>.int (k+e:Nat)
def iH(r w:List Nat):Option Nat:=(br w r).map (·+w.length)
def CY{k:Nat}(h:x.drop k=r)(f:Nat.ble 1 y.length=true):e' mJ x [.str y,.int k] H=some (.ok (.int<|g6<|(br y r).map (·+k)) H):=by show aw (Nat.ble 1 y.length) (rt (V.int<|g6<|(br y<|x.drop k).map (·+k)) H)=_;exact Y f<|Y h rfl
def M3{k:Nat}(aE:x.drop k=r)(aP:k<=x.length):Do j O 561 [.str x,.int k] H (.int<|bS r) H:=by have f:=Ei (y:=[93,93]) (H:=H) aE aP;have h:=Ei (y:=[93]) (H:=H) aE aP;clear aE aP;unfold bS;exact am [(bc,V.str x),(cK,V.int ↑k)] rfl<|sk 3<|aj Q.m f rfl<|oI (λ(C:Nat)=>some<|R.ok (V.int ↑C) H) _ rfl (λu=>rfl) λu=>(sk 3<|aj Q.m h rfl<|oI (λ(C:Nat)=>some<|R.ok (V.int ↑C) H) _ rfl (λz=>rfl) λz=>rfl)
def TF:Do j O 505 [.str r,.str w] H (.bool<|eD r w) H:=by unfold eD;exact am [(bc,V.str r),(mv,V.str w)] rfl<|sk 6<|pJ (λ(C:Bool)=>some<|R.ok (V.bool C) H) _ rfl (λf=>rfl) λf=>rfl
def TP{k:Nat}(aE:x.drop k=r)(u:Nat.ble 1 w.length=true):Do j O 512 [.str x,.str w,.int k] H (oK k<|iH r w) H:=by have f:=CY (H:=H) aE u;clear aE u;unfold iH;revert f;rcases h:br w r with _|e;intro f;exact am [(bc,V.str x),(mv,V.str w),(sX,V.int ↑k)] rfl<|sk 4<|aj Q.m f rfl rfl;intro f;show Do j O 512 [.str x,.str w,.int k] H (.int (k+(e+w.length):Nat)) H;exact Y (cz ..).symm<|Y (cF k e)<|am [(bc,V.str x),(mv,V.str w),(sX,V.int ↑k)] rfl<|sk 4<|aj Q.m f rfl rfl
inductive Seen where|no|pos (z:Nat)|tag (z:Nat) (q:List Nat)
noncomputable def Seen.aA:Seen->V|.no=>.none|.pos z=>.tup [.int z,.none]|.tag z q=>.tup [.int z,.str q]
noncomputable def Seen.fr(d:Nat):Seen->Nat|.no=>d|.pos z=>z|.tag z _=>z
noncomputable def Seen.hu:Seen->Bool|.tag _ _=>true|_=>false
def bQ(r w:List Nat)(z:Nat):Option Nat:=(iH (r.drop z) w).map (z+·)
def y1:oK (k+z) o=oK k (o.map (z+·)):=by rcases o with _|e;rfl;exact az (λn:Nat=>V.int n)<|cz k z e
noncomputable def cI(r w:List Nat)(z:Nat):Seen:=.pos<|max z<|r.length+1-w.length
def K0{w L:Nat}(hl:L=k+r):jX ((k+z:Nat):Int) ((L:Int)-(w:Int)+((1:Nat):Int))-(k:Int)=((max z (r+1-w):Nat):Int):=by
 subst hl;have c:(((k+r:Nat):Int)-(w:Int)+((1:Nat):Int))-(k:Int)=((r+1:Nat):Int)-(w:Int):=by simp+arith
 unfold jX;rcases q:du ((k+z:Nat):Int) (((k+r:Nat):Int)-(w:Int)+((1:Nat):Int))
 .rw[hM,B5]at q;have q:=Int.sub_le_sub_right (iR.mp q) (k:Int);rw[c]at q;have f:((k+z:Nat):Int)-(k:Int)=z:=by rw[Int.natCast_add,tp,Int.add_sub_cancel]
  rw[f]at q;rw[Nat.max_eq_left<|zH.mpr<|qJ.mp<|Int.le_add_of_sub_right_le q];exact f
 rw[hM,gV]at q;have q:=Int.sub_lt_sub_right q (k:Int);rw[c,show((k+z:Nat):Int)-(k:Int)=z by rw[Int.natCast_add,tp,Int.add_sub_cancel]]at q;have q:=gt<|jf.mp<|Int.add_lt_of_lt_sub_right q;rw[Nat.max_eq_right<|Nat.le_sub_of_add_le q];exact c.trans (Int.ofNat_sub<|as (bT ..) q).symm
def UE{x w:List Nat}(aE:x.drop k=r)(aP:k<=x.length):bin .Sub (.int<|jX ((k+z:Nat):Int)<|(x.length:Int)-(w.length:Int)+((1:Nat):Int)) (.int k) H=some (.ok (.int (max z (r.length+1-w.length):Nat)) H):=az (λC=>some<|R.ok (V.int C) H) (K0<|gO aE aP)
abbrev gf:=List Nat×Option Nat×Seen
def wS(k:Nat)(z:gf):V:=.tup [.str z.1,oK k z.2.1,z.2.2.aA]
def Gw(ru:∀{x r w:List Nat}{k:Nat}(H:aq),x.drop k=r->Nat.ble 1 w.length=true->dy O 512 [.str x,.str w,.int k] H (oK k<|iH r w) H){d k:Nat}{s:Seen}(aE:x.drop k=r)(aP:k<=x.length)(h:Nat.ble 1 w.length=true)(f:s.hu=false):Do j O 519 [.str x,.str w,.int d,.int k,s.aA] H (.tup [oK k<|bQ r w<|s.fr d,(cI r w<|s.fr d).aA]) H:=by
 have m:∀z,dy O 512 [.str x,.str w,.int (k+z:Nat)] H (oK k<|bQ r w z) H:=λz=>by have:=ru (x:=x) (r:=r.drop z) (w:=w) (k:=k+z) H (Y aE.symm<|Y fc rfl) h;rwa [y1]at this
 have e:∀z,_:=λz=>UE (w:=w) (z:=z) (H:=H) aE aP;clear aE aP h ru;rcases s with _|z|⟨z,q⟩;have av:=m d;have e1:=e d;clear m e f;exact am [(bc,V.str x),(mv,V.str w),(sX,V.int ↑d),(cK,V.int ↑k),(e2,V.none)] rfl<|sk 11<|aj Q.m av rfl<|sk 12<|aj Q.m e1 rfl rfl;have av:=m z;have e1:=e z;clear m e f;exact am [(bc,V.str x),(mv,V.str w),(sX,V.int ↑d),(cK,V.int ↑k),(e2,V.tup [V.int ↑z,V.none])] rfl<|sk 12<|aj Q.m av rfl<|sk 12<|aj Q.m e1 rfl rfl;exact ff<|f.symm
def NX(gU:∀{x r w:List Nat}{d k:Nat}{s:Seen}(H:aq),x.drop k=r->k<=x.length->Nat.ble 1 w.length=true->s.hu=false->dy O 519 [.str x,.str w,.int d,.int k,s.aA] H (.tup [oK k<|bQ r w<|s.fr d,(cI r w<|s.fr d).aA]) H){k:Nat}{s:Seen}(aE:x.drop k=r)(aP:k<=x.length)(hd:ar kd h9=false)(he:Nat.ble 1 e.length=true)(f:s.hu=false):Do j O 540 [.str x,.str w,.str kd,.str e,.int k,s.aA] H (wS k (kd,bQ r e<|s.fr w.length,cI r e<|s.fr w.length)) H:=by have m:=gU (d:=w.length) H aE aP he f;clear aE aP he f gU;exact am [(bc,V.str x),(mv,V.str w),(eF,V.str kd),(C2,V.str e),(cK,V.int ↑k),(e2,s.aA)] rfl<|sk 1<|aj (λb=>Q.c<|some b) hd rfl<|sk 10<|aj Q.m m rfl rfl
abbrev Tg:=Option Nat×Nat×List Nat
noncomputable def up(n:Nat)(t:Tg):Tg:=(t.1.map (n+·),n+t.2.1,t.2.2)
noncomputable def bw:List Nat->List Nat->Tg
 |[],q=>(none,0,q)
 |c::r,q=>match q with
  |f::q=>up 1<|aB (Nat.beq f c) (bw r [])<|bw r<|f::q
  |[]=>aB (br [c] [34,39]).isSome (up 1<|bw r [c])<|aB (ar [c] [62]) (some 1,0,[])<|aB (ar [c] [60]) (some 0,0,[])<|up 1<|bw r []
def hH(k:Nat)(t:Tg):V:=.tup [oK k t.1,.int (k+t.2.1:Nat),.str t.2.2]
def wq:up m (up n t)=up (m+n) t:=by obtain⟨o,z,q⟩:=t;unfold up;refine Y (cz ..) ?_;rcases o with _|e;rfl;show(some<|m+(n+e),_)=(some<|m+n+e,_);exact Y (cz ..) rfl
def qD:hH k (up n t)=hH (k+n) t:=by unfold hH;refine Y y1 ?_;unfold up;exact Y (cz ..) rfl
def MC(f:Nat):∀(r:List Nat),bw r [f]=match br [f] r with|none=>(none,r.length,[f])|some i=>up (i+1) (bw (r.drop<|i+1) []):=by
 intro r;induction r with
 |nil=>exact rfl
 |cons c r h=>
  show up 1 (aB (Nat.beq f c) (bw r [])<|bw r [f])=_;have z:br [f] (c::r)=match Nat.beq f c with|true=>some 0|false=>(br [f] r).map (·+1):=by show(match pre [f] (c::r)with|true=>some 0|false=>(br [f] r).map (·+1))=_;show(match(match Nat.beq f c with|true=>true|false=>false)with|true=>some 0|false=>(br [f] r).map (·+1))=_;cases Nat.beq f c<;>rfl
  refine Y z ?_;rcases Nat.beq f c;show up 1 (bw r [f])=_;refine Y (h) ?_;rcases br [f] r with _|i;show(none,1+r.length,[f])=(none,r.length+1,[f]);exact Y (cF ..) rfl;show up 1 (up (i+1) _)=up (i+1+1) _;exact Y wq<|Y (cF 1 ..) rfl;rfl
def LN(h:br [f] r=some i):i<r.length:=by refine c5 (jQ h) λ_ C _=>?_;have:=j2 C;rw[b0]at this;exact Nat.lt_of_sub_pos this
def eO(x:List Nat)(k:Nat)(q:List Nat)(tl:Loc):Loc:=(bc,.str x)::(cK,.int k)::(t1,.str q)::tl
section
variable{O:ap}{H:aq}
def gS(O:ap)(j:Nat)(x:List Nat)(k:Nat)(q:List Nat)(tl:Loc)(H:aq)(v:V):Prop:=(∃f,d2 O j 526 0 (eO x k q tl) H=some (.ok (.ret v) f H))\/∃h u y,d2 O j 526 0 (eO x k q tl) H=some (.ok .next (eO x h u y) H)/\v=.tup [.none,.int h,.str u]
def gS.step(h:d2 O (j+1) 526 0 (eO x k q tl) H=d2 O j 526 0 (eO x f u y) H)(g:gS O j x f u y H v):gS O (j+1) x k q tl H v:=by unfold gS;exact Y h g
def Rr:∀j r q k tl,x.drop k=r->k<=x.length->r.length<=j->q.length<=1->gS O (j+20) x k q tl H (hH k<|bw r q):=by
 intro j;induction j with
 |zero=>intro r q k tl aE aP J bo;obtain rfl:=rT<|Nat.le_zero.mp J;have N:=xU (H:=H) aE;refine .inr ⟨k,q,tl,?_,rfl⟩;clear aE aP J bo;unfold eO;exact fz<|sk 4<|aj Q.c N rfl rfl
 |succ j T=>
  intro r q k tl aE aP J bo;rcases r with _|⟨c,r⟩;have N:=xU (H:=H) aE;refine .inr ⟨k,q,tl,?_,rfl⟩;clear aE aP J bo T;unfold eO;exact fz<|sk 4<|aj Q.c N rfl rfl
  .have N:=BH (H:=H) aE;have u:=hQ (H:=H) aE;have f:=ee (x:=hN) (v:=.str [c]) (l:=tl);refine c5 (gy aE) λ_ hd hl=>?_;have U:=λq tl bo=>T r q (k+1) tl hd hl (iC J) bo;rcases q with _|⟨W,q⟩;show gS _ _ _ _ _ _ _ (hH k<|aB (br [c] [34,39]).isSome (up 1<|bw r [c])<|aB (ar [c] [62]) (some 1,0,[])<|aB (ar [c] [60]) (some 0,0,[])<|up 1<|bw r []);rcases D:(br [c] [34,39]).isSome;rcases C:ar [c] [62];rcases E:ar [c] [60];show gS _ _ _ _ _ _ _ (hH k<|up 1 _);refine Y qD<|gS.step ?_<|U [] (put hN (.str [c]) tl)<|bJ 1;clear T U aE aP J bo hd hl;unfold eO;exact fz<|sk 4<|aj Q.c N rfl<|sk 3<|aj Q.m u rfl<|sk 4<|aj Q.v f rfl<|sk 1<|aj (λb=>Q.c<|some b) D rfl<|sk 1<|aj Q.v f rfl<|aj (λb=>Q.c<|some b) C rfl<|sk 1<|aj Q.v f rfl<|aj (λb=>Q.c<|some b) E rfl rfl;refine .inl ⟨eO x k []<|put hN (.str [c]) tl,?_⟩;clear T U aE aP J bo hd hl;unfold eO;exact fz<|sk 4<|aj Q.c N rfl<|sk 3<|aj Q.m u rfl<|sk 4<|aj Q.v f rfl<|sk 1<|aj (λb=>Q.c<|some b) D rfl<|sk 1<|aj Q.v f rfl<|aj (λb=>Q.c<|some b) C rfl<|sk 1<|aj Q.v f rfl<|aj (λb=>Q.c<|some b) E rfl rfl;refine .inl ⟨eO x k []<|put hN (.str [c]) tl,?_⟩;clear T U aE aP J bo hd hl;unfold eO;exact fz<|sk 4<|aj Q.c N rfl<|sk 3<|aj Q.m u rfl<|sk 4<|aj Q.v f rfl<|sk 1<|aj (λb=>Q.c<|some b) D rfl<|sk 1<|aj Q.v f rfl<|aj (λb=>Q.c<|some b) C rfl rfl;show gS _ _ _ _ _ _ _ (hH k<|up 1 _);refine Y qD<|gS.step ?_<|U [c] (put hN (.str [c]) tl)<|ba 1;clear T U aE aP J bo hd hl;unfold eO;exact fz<|sk 4<|aj Q.c N rfl<|sk 3<|aj Q.m u rfl<|sk 4<|aj Q.v f rfl<|sk 1<|aj (λb=>Q.c<|some b) D rfl<|sk 1<|aj Q.v f rfl rfl
   .induction q using List.casesOn with
    |cons=>exact absurd (iC bo)<|km _
    |nil=>
    have z:=CY (y:=[W]) (H:=H) aE rfl;refine Y (MC ..) ?_;rcases h:br [W] (c::r)with _|i
    .rw[h]at z;have e:cM .Lt (.int<|g6<|Option.map (·+k) none) (.int ((0:Nat):Int)) H=some true:=rfl;have he:=ee (x:=qp) (v:=.int<|g6<|Option.map (·+k) none) (l:=put hN (.str [c]) tl);have hv:hH k (none,(c::r).length,[W])=.tup [.none,.int (x.length:Nat),.str [W]]:=by exact Y (gO aE aP) rfl
     show gS _ _ _ _ _ _ _<|hH k (none,(c::r).length,[W]);refine Y hv<|.inl ⟨eO x k [W]<|put qp (.int<|g6<|Option.map (·+k) none)<|put hN (.str [c]) tl,?_⟩;clear T U aE aP J bo hd hl hv h;unfold eO;exact fz<|sk 4<|aj Q.c N rfl<|sk 3<|aj Q.m u rfl<|sk 8<|aj Q.m z rfl<|sk 1<|aj Q.v he rfl rfl
    .rw[h]at z;have I:=LN h;have he:=ee (x:=qp) (v:=.int<|g6<|(some i).map (·+k)) (l:=put hN (.str [c]) tl);have S:d2 O (j+1+20) 526 0 (eO x k [W] tl) H=d2 O (j+20) 526 0 (eO x (i+k+1) []<|put qp (.int ((i+k:Nat):Int))<|put hN (.str [c]) tl) H:=by clear T U aE aP J bo hd hl h I;unfold eO;exact fz<|sk 4<|aj Q.c N rfl<|sk 3<|aj Q.m u rfl<|sk 8<|aj Q.m z rfl<|sk 1<|aj Q.v he rfl<|sk 2<|aj Q.v he rfl rfl
     show gS _ _ _ _ _ _ _<|hH k<|up (i+1)<|bw ((c::r).drop<|i+1) [];refine Y qD ?_;have e:i+k+1=k+(i+1):=by exact Y (cF i k) rfl
     refine gS.step S<|Y e<|T _ [] _ _ (Y aE.symm<|Y fc rfl) ?_ ?_<|bJ _;exact Y (gO aE aP)<|hO I k;exact Y b0<|as (Nat.sub_le_sub_left (bT 1 i) _)<|iC J
def Jt{k:Nat}(aE:x.drop k=r)(aP:k<=x.length)(bo:q.length<=1)(h:r.length<=j):Do j O 526 [.str x,.int k,.str q] H (hH k<|bw r q) H:=by have l:=Rr (O:=O) (H:=H) (j+39) r q k [] aE aP (as h<|bK ..) bo;clear aE aP bo h;unfold gS at l;generalize hH k (bw r q)=v at l⊢;unfold eO at l;rcases l with⟨f,l⟩|⟨u,y,z,l,rfl⟩;exact am [(bc,V.str x),(cK,V.int ↑k),(t1,V.str q)] rfl<|aj Q.s l rfl rfl;exact am [(bc,V.str x),(cK,V.int ↑k),(t1,V.str q)] rfl<|aj Q.s l rfl rfl
end
def gx(r:List Nat):Seen->Tg
 |.tag z q=>up z<|bw (r.drop z) q
 |_=>up 1<|bw (r.drop 1) []
def iq(t:Tg):gf:=(d',t.1,.tag t.2.1 t.2.2)
def d8(r:List Nat)(s:Seen):Option gf:=
 aB (eD (r.take 4) eb) none (aB (pre dq r) (some (ge,bQ r [93,93,62]<|s.fr 9,cI r [93,93,62]<|s.fr 9))
  (aB (eD (r.take 9) dq) none (aB (eD (r.take 9) dj) none (aB (pre [60,47] r) (some (g3,bQ r [62]<|s.fr 2,cI r [62]<|s.fr 2))
   (aB (pre [60,33] r) (some (cP,some r.length,.no))<|some<|iq<|gx r s)))))
def vc(k:Nat):Option gf->V|none=>.none|some z=>wS k z
def k6(r:List Nat)(s:Seen):Prop:=(pre dq r=true->s.hu=false)/\(pre [60,47] r=true->s.hu=false)/\(match s with|.tag z q=>q.length<=1/\z<=r.length|.pos _=>pre dq r=true\/pre [60,47] r=true|.no=>True)
noncomputable abbrev gW:V:=.tup [.tup [.str [60,33,45,45],.str [99,111,109,109,101,110,116],.str [45,45,62]],.tup [.str [60,33,91,67,68,65,84,65,91],.str [99,100,97,116,97],.str [93,93,62]],.tup [.str [60,33,68,79,67,84,89,80,69],.str [100,111,99,116,121,112,101],.none]]
abbrev e9(x:List Nat)(k:Nat)(f:V)(w kd:List Nat)(e:V):Loc:=[(bc,.str x),(cK,.int k),(e2,f),(mv,.str w),(eF,.str kd),(C2,e)]
def Dy:bin .Sub (.int ((k+z:Nat):Int)) (.int (k:Nat)) H=some (.ok (.int (z:Nat)) H):=by show rt (V.int<|((k+z:Nat):Int)-((k:Nat):Int)) H=_;exact Y (qb<|bK k z)<|Y (ew ..) rfl
section
variable{O:ap}{H:aq}{x r:List Nat}{k:Nat}
def s8(l:bv O (j+59) 547 0 gW 0 [(bc,.str x),(cK,.int k),(e2,f)] H=some (.ok (.ret a) loc H)):Do j O 547 [.str x,.int k,f] H a H:=by exact am [(bc,V.str x),(cK,V.int ↑k),(e2,f)] rfl<|sk 2<|aj Q.s l rfl rfl
variable(gK:∀(r w:List Nat)(H:aq),dy O 505 [.str r,.str w] H (.bool (eD r w)) H)(aE:x.drop k=r)(aP:k<=x.length)(hm:x.length<=bf)
include gK aE aP hm
theorem Uw(u:pre eb r=false)(h:eD (r.take 4) eb=b):bv O (j+59) 547 0 gW 0 [(bc,.str x),(cK,.int k),(e2,f)] H= aB b (some<|.ok (.ret .none) (e9 x k f eb sl<|.str [45,45,62]) H) (bv O (j+58) 547 0 gW 1 (e9 x k f eb sl<|.str [45,45,62]) H):=by
 have e1:=gw (y:=eb) (H:=H) aE aP;have z:=ty (m:=4) (H:=H) aE aP hm<|by decide
 have m:=gK (r.take 4) eb H;rw[u]at e1;rw[h]at m;clear aE aP hm gK h u;cases b<;>exact e5 rfl<|sk 5<|aj Q.m e1 rfl<|sk 9<|aj Q.m z rfl<|sk 1<|aj Q.m m rfl rfl
theorem O4(u:pre dq r=false)(h:eD (r.take 9) dq=b):bv O (j+58) 547 0 gW 1 (e9 x k f eb sl<|.str [45,45,62]) H= aB b (some<|.ok (.ret .none) (e9 x k f dq ge<|.str [93,93,62]) H) (bv O (j+57) 547 0 gW 2 (e9 x k f dq ge<|.str [93,93,62]) H):=by
 have e1:=gw (y:=dq) (H:=H) aE aP;have z:=ty (m:=9) (H:=H) aE aP hm<|by decide
 have m:=gK (r.take 9) dq H;rw[u]at e1;rw[h]at m;clear aE aP hm gK h u;cases b<;>exact e5 rfl<|sk 5<|aj Q.m e1 rfl<|sk 9<|aj Q.m z rfl<|sk 1<|aj Q.m m rfl rfl
theorem SA(u:pre dj r=false)(h:eD (r.take 9) dj=b):bv O (j+57) 547 0 gW 2 (e9 x k f dq ge<|.str [93,93,62]) H= aB b (some<|.ok (.ret .none) (e9 x k f dj h9 .none) H) (some<|.ok .next (e9 x k f dj h9 .none) H):=by
 have e1:=gw (y:=dj) (H:=H) aE aP;have z:=ty (m:=9) (H:=H) aE aP hm<|by decide
 have m:=gK (r.take 9) dj H;have l:bv O (j+56) 547 0 gW 3 (e9 x k f dj h9 .none) H=some (.ok .next (e9 x k f dj h9 .none) H):=k4 rfl;rw[u]at e1;rw[h]at m;clear aE aP hm gK h u;cases b<;>exact e5 rfl<|sk 5<|aj Q.m e1 rfl<|sk 9<|aj Q.m z rfl<|sk 1<|aj Q.m m rfl rfl
omit gK hm
theorem GO(m:O none (.fn 540) [.str x,.str dq,.str ge,.str [93,93,62],.int k,f] H=some (.ok a H))(h:pre dq r=true):bv O (j+58) 547 0 gW 1 (e9 x k f eb sl<|.str [45,45,62]) H= some (.ok (.ret a) (e9 x k f dq ge<|.str [93,93,62]) H):=by have e1:=gw (y:=dq) (H:=H) aE aP;rw[h]at e1;clear aE aP h;exact e5 rfl<|sk 5<|aj Q.m e1 rfl<|sk 8<|aj Q.m m rfl rfl
theorem Mu(m:O none (.fn 519) [.str x,.str [62],.int ((2:Nat):Int),.int k,f] H=some (.ok (.tup [a,b]) H))(h:pre [60,63] r=false)(u:pre [60,47] r=true)(l:bv O (j+59) 547 0 gW 0 [(bc,.str x),(cK,.int k),(e2,f)] H=some (.ok .next (e9 x k f dj h9 .none) H)):Do j O 547 [.str x,.int k,f] H (.tup [.str g3,a,b]) H:=by have e1:=gw (y:=[60,63]) (H:=H) aE aP;have z:=gw (y:=[60,47]) (H:=H) aE aP;rw[h]at e1;rw[u]at z;clear aE aP h u;exact am [(bc,V.str x),(cK,V.int ↑k),(e2,f)] rfl<|sk 2<|aj Q.s l rfl<|sk 3<|aj Q.m e1 rfl<|sk 4<|aj Q.m z rfl<|sk 5<|aj Q.m m rfl rfl
theorem Uo(h:pre [60,63] r=false)(u:pre [60,47] r=false)(C:pre [60,33] r=true)(l:bv O (j+59) 547 0 gW 0 [(bc,.str x),(cK,.int k),(e2,f)] H=some (.ok .next (e9 x k f dj h9 .none) H)):Do j O 547 [.str x,.int k,f] H (.tup [.str cP,.int (x.length:Nat),.none]) H:=by have e1:=gw (y:=[60,63]) (H:=H) aE aP;have z:=gw (y:=[60,47]) (H:=H) aE aP;have D:=gw (y:=[60,33]) (H:=H) aE aP;rw[h]at e1;rw[u]at z;rw[C]at D;clear aE aP h u C;exact am [(bc,V.str x),(cK,V.int ↑k),(e2,f)] rfl<|sk 2<|aj Q.s l rfl<|sk 3<|aj Q.m e1 rfl<|sk 4<|aj Q.m z rfl<|sk 4<|aj Q.m D rfl rfl
variable(h:pre [60,63] r=false)(u:pre [60,47] r=false)(C:pre [60,33] r=false)
include h u C
theorem GS(m:O none (.fn 526) [.str x,.int (k+1:Nat),.str []] H=some (.ok (.tup [a,.int (k+z:Nat),.str q]) H))(l:bv O (j+59) 547 0 gW 0 [(bc,.str x),(cK,.int k),(e2,.none)] H=some (.ok .next (e9 x k .none dj h9 .none) H)):Do j O 547 [.str x,.int k,.none] H (.tup [.str d',a,.tup [.int z,.str q]]) H:=by have e1:=gw (y:=[60,63]) (H:=H) aE aP;have f:=gw (y:=[60,47]) (H:=H) aE aP;have D:=gw (y:=[60,33]) (H:=H) aE aP;rw[h]at e1;rw[u]at f;rw[C]at D;have E:=Dy (H:=H) (k:=k) (z:=z);clear aE aP h u C;exact am [(bc,V.str x),(cK,V.int ↑k),(e2,V.none)] rfl<|sk 2<|aj Q.s l rfl<|sk 3<|aj Q.m e1 rfl<|sk 4<|aj Q.m f rfl<|sk 4<|aj Q.m D rfl<|sk 11<|aj Q.m m rfl<|sk 4<|aj Q.m E rfl rfl
theorem NT(m:O none (.fn 526) [.str x,.int (k+g:Nat),.str f] H=some (.ok (.tup [a,.int (k+z:Nat),.str q]) H))(l:bv O (j+59) 547 0 gW 0 [(bc,.str x),(cK,.int k),(e2,.tup [.int g,.str f])] H=some (.ok .next (e9 x k (.tup [.int g,.str f]) dj h9 .none) H)):Do j O 547 [.str x,.int k,.tup [.int g,.str f]] H (.tup [.str d',a,.tup [.int z,.str q]]) H:=by have e1:=gw (y:=[60,63]) (H:=H) aE aP;have D:=gw (y:=[60,47]) (H:=H) aE aP;have E:=gw (y:=[60,33]) (H:=H) aE aP;rw[h]at e1;rw[u]at D;rw[C]at E;have I:=Dy (H:=H) (k:=k) (z:=z);clear aE aP h u C;exact am [(bc,V.str x),(cK,V.int ↑k),(e2,V.tup [V.int ↑g,V.str f])] rfl<|sk 2<|aj Q.s l rfl<|sk 3<|aj Q.m e1 rfl<|sk 4<|aj Q.m D rfl<|sk 4<|aj Q.m E rfl<|sk 12<|aj Q.m m rfl<|sk 4<|aj Q.m I rfl rfl
end
abbrev Ez(O:ap):Prop:=∀(r w:List Nat)(H:aq),dy O 505 [.str r,.str w] H (.bool<|eD r w) H
abbrev rQ(O:ap):Prop:=∀{x r w:List Nat}{d k:Nat}{s:Seen}(H:aq),x.drop k=r->k<=x.length->Nat.ble 1 w.length=true->s.hu=false->dy O 519 [.str x,.str w,.int d,.int k,s.aA] H (.tup [oK k<|bQ r w<|s.fr d,(cI r w<|s.fr d).aA]) H
abbrev v6(O:ap):Prop:=∀{x r q:List Nat}{k:Nat}(H:aq),x.drop k=r->k<=x.length->x.length<=bf->q.length<=1->dy O 526 [.str x,.int k,.str q] H (hH k<|bw r q) H
abbrev Ax(O:ap):Prop:=∀{x r w kd e:List Nat}{k:Nat}{s:Seen}(H:aq),x.drop k=r->k<=x.length->ar kd h9=false->Nat.ble 1 e.length=true->s.hu=false->dy O 540 [.str x,.str w,.str kd,.str e,.int k,s.aA] H (wS k (kd,bQ r e<|s.fr w.length,cI r e<|s.fr w.length)) H
def sz(r:List Nat):Prop:=pre eb r=false/\pre dj r=false/\pre [60,63] r=false
def cw{f:Type}{P:f->Prop}{x y:f}(h:b=true->P x)(u:b=false->P y):P (aB b x y):=by rcases b;exact u rfl;exact h rfl
def lu(O:ap)(H:aq)(j:Nat)(x:List Nat)(k:Nat)(f:V)(o:Option gf):Prop:=Do j O 547 [.str x,.int k,f] H (vc k o) H
section
variable{x r:List Nat}{k:Nat}(aE:x.drop k=r)(aP:k<=x.length)(hm:x.length<=bf)(p:sz r)
include aE aP hm p
theorem RC(nu:v6 O)(C:1<=r.length)(o:k6 r s)(y:pre dq r=false)(f:pre [60,47] r=false)(u:pre [60,33] r=false)(l:bv O (j+59) 547 0 gW 0 [(bc,.str x),(cK,.int k),(e2,s.aA)] H=some (.ok .next (e9 x k s.aA dj h9 .none) H)):lu O H j x k s.aA (some<|iq<|gx r s):=by have hl:=gO aE aP;rcases s with _|z|⟨z,q⟩;have m:=nu (q:=[]) (k:=k+1) (r:=r.drop 1) H (Y aE.symm<|Y fc rfl) (by refine Y hl ?_;exact hO C k) hm (bJ 1);rw[<-qD]at m;exact(GS aE aP p.2.2 f u m l:);exact(o.2.2.elim (λh=>nomatch y.symm.trans h) λh=>nomatch f.symm.trans h);have m:=nu (q:=q) (k:=k+z) (r:=r.drop z) H (Y aE.symm<|Y fc rfl) (by refine Y hl ?_;exact hO o.2.2.2 k) hm o.2.2.1;rw[<-qD]at m;exact(NT aE aP p.2.2 f u m l:)
theorem LX(h:pre [60,47] r=false)(u:pre [60,33] r=true)(l:bv O (j+59) 547 0 gW 0 [(bc,.str x),(cK,.int k),(e2,f)] H=some (.ok .next (e9 x k f dj h9 .none) H)):lu O H j x k f (some (cP,some r.length,.no)):=by have e:=Uo aE aP p.2.2 h u l;rw[gO aE aP]at e;exact e
theorem Mj(gK:Ez O)(gU:rQ O)(nu:v6 O)(vU:Ax O)(T:1<=r.length)(o:k6 r s):Do j O 547 [.str x,.int k,s.aA] H (vc k<|d8 r s) H:=
 have J:=λb=>Uw (j:=j) (f:=s.aA) (H:=H) gK aE aP hm p.1 (b:=b)
 cw (P:=lu O H j x k s.aA) (λC=>s8<|J _ C) λC=>cw (P:=lu O H j x k s.aA) (λu=>s8<|(J _ C).trans<|GO aE aP (vU H aE aP rfl rfl<|o.1 u) u) λu=>
 have N:=λb h=>(J _ C).trans<|O4 (j:=j) (f:=s.aA) (H:=H) gK aE aP hm u (b:=b) h
 cw (P:=lu O H j x k s.aA) (λE=>s8<|N _ E) λE=>
 have D:=λb h=>(N _ E).trans<|SA (j:=j) (f:=s.aA) (H:=H) gK aE aP hm p.2.1 (b:=b) h
 cw (P:=lu O H j x k s.aA) (λy=>s8<|D _ y) λy=>cw (P:=lu O H j x k s.aA) (λz=>Mu aE aP (gU H aE aP rfl<|o.2.1 z) p.2.2 z<|D _ y) λz=>
 cw (P:=lu O H j x k s.aA) (λI=>LX aE aP hm p z I<|D _ y) λI=>RC aE aP hm p nu T o u z I<|D _ y
end
def ax(x:List Nat)(k p:Nat)(h:List Nat)(f:V):au:=.inst 620 [(bc,.str x),(cK,.int k),(b7,.int p),(Ia,.str h),(e2,f)]
abbrev Tk:=Option (List Nat)×Nat×Seen
noncomputable def oX(p:Nat)(r:List Nat)(t:Tk):V:=match t.1 with|none=>.none|some kd=>.tup [.str kd,.str<|r.take t.2.1,.int p]
def ws(x:List Nat)(k p:Nat)(h:List Nat)(t:Tk):au:=ax x (k+t.2.1) (p+t.2.1) h t.2.2.aA
def cb(r:List Nat)(u:Bool):Nat:=aB u (aI r)<|aB (Nat.beq (aI r) r.length) (aI r-bS r)<|aI r
def g2(r:List Nat)(s:Seen)(u:Bool):Tk:=aB (Nat.blt 0<|cb r u) (some ao,cb r u,.no) (none,0,s)
def c6(r:List Nat)(u:Bool):Option gf->Tk
 |none=>aB u (some cP,r.length,.no) (none,0,.no)
 |some z=>match z.2.1 with|some e=>(some z.1,e,.no)|none=>aB u (some cP,r.length,.no) (none,0,z.2.2)
def bM(r:List Nat)(s:Seen)(u:Bool):Tk:=match r with|[]=>(none,0,s)|c::_=>aB (ar [c] [60]) (c6 r u<|d8 r s)<|aB (ar [c] [38]) (c6 r u<|some (dL,bQ r [59]<|s.fr 1,cI r [59]<|s.fr 1))<|g2 r s u
section
variable{G:aq}{p:Nat}
def Iq:bin .Sub (.int<|(p:Int)+((k+e:Nat):Int)) (.int k) H=some (.ok (.int (p+e:Nat)) H):=by show rt (V.int<|((p+(k+e):Nat):Int)-((k:Nat):Int)) H=_;exact Y (Nat.add_left_comm ..)<|Y (qb<|bK k _)<|Y (ew ..) rfl
def O1(aE:x.drop k=r)(aP:k<=x.length)(hm:x.length<=bf)(he:e<=r.length):Do j O 603 [.ref 0,.str kd,.int (k+e:Nat)] (ax x k p h f::G) (.tup [.str kd,.str<|r.take e,.int p]) (ax x (k+e) (p+e) h .none::G):=by have e1:=ty (m:=e) (H:=ax x k p h f::G) aE aP hm<|as he<|as (by refine Y aE.symm<|Y b0 ?_;exact gj ..) hm;have u:=Iq (p:=p) (k:=k) (e:=e) (H:=ax x k p h f::G);clear aE aP hm he;exact am [(bk,V.ref 0),(eF,V.str kd),(qp,V.int ↑(k+e))] rfl<|sk 6<|aj Q.m e1 rfl<|sk 9<|aj Q.m u rfl rfl
end
abbrev DL(O:ap):Prop:=∀{x r:List Nat}{k:Nat}(H:aq),x.drop k=r->x.length<=bf->dy O 554 [.str x,.int k] H (.int (k+aI r:Nat)) H
abbrev EL(O:ap):Prop:=∀{x r:List Nat}{k:Nat}(H:aq),x.drop k=r->k<=x.length->dy O 561 [.str x,.int k] H (.int<|bS r) H
abbrev nT(O:ap):Prop:=∀{x r h:List Nat}{k p:Nat}{f:V}{kd:List Nat}{e:Nat}(G:aq),x.drop k=r->k<=x.length->x.length<=bf->e<=r.length->dy O 603 [.ref 0,.str kd,.int (k+e:Nat)] (ax x k p h f::G) (.tup [.str kd,.str<|r.take e,.int p]) (ax x (k+e) (p+e) h .none::G)
abbrev jO(x:List Nat)(k p:Nat)(h r:List Nat)(G:aq)(t:Tk):M V:=some<|.ok (oX p r t)<|ws x k p h t::G
def oZ:∀r,aI r<=r.length:=by
 intro r;induction r with
 |nil=>exact ba _|cons c r f=>show aB (fh c) 0 (aI r+1)<=r.length+1;rcases fh c;exact fD<|f;exact bJ _
def s9(r):bS r<=r.length:=by
 have e:∀y:List Nat,b2 r y=true->y.length<=r.length:=λy h=>by have:=j2 h;rwa [fL,fL]at this
 exact cw (P:=(·<=r.length)) (λh=>e _ h) λ_=>cw (P:=(·<=r.length)) (λh=>e _ h) λ_=>bJ _
def wc:cb r u<=r.length:=cw (P:=(·<=r.length)) (λ_=>oZ r) λ_=>cw (P:=(·<=r.length)) (λ_=>as (gj ..)<|oZ r) λ_=>oZ r
def Aj:Nat.blt (k+a) (k+b)=Nat.blt a b:=by rcases dE a b with h|h;exact Y (dw h)<|Y (dw<|Nat.add_lt_add_left h k) rfl;exact Y (kK h)<|Y (kK<|hO h k) rfl
def ET:Nat.beq (k+a) (k+b)=Nat.beq a b:=by rcases Nat.decEq a b with h|h;exact Y (iI h)<|Y (iI λe=>h<|Nat.add_left_cancel e) rfl;exact Y (o8 h)<|Y (o8<|az (k+·) h) rfl
section
variable{O:ap}{G:aq}{x r:List Nat}{k:Nat}(kf:DL O)(n4:EL O)(cX:nT O)(aE:x.drop k=r)(aP:k<=x.length)(hm:x.length<=bf)
include kf cX aE aP hm
theorem OO{H:aq}(D:H=ax x k p h s.aA::G)(q:cM .Eq (.int (k+aI r:Nat)) (.int (x.length:Nat)) H=some false\/u=true):aF (j+60) tab O none (.fn 617) [.ref 0,.bool u] H=jO x k p h r G (aB (Nat.blt 0<|aI r) (some ao,aI r,.no) (none,0,s)):=by subst D;have av:=kf (ax x k p h s.aA::G) aE hm;have aG:=cX (h:=h) (p:=p) (f:=s.aA) (kd:=ao) G aE aP hm<|oZ r;have e:cM .Gt (.int (k+aI r:Nat)) (.int k) (ax x k p h s.aA::G)=some (Nat.blt 0<|aI r):=az some<|Aj (b:=aI r) (a:=0);clear kf cX aE aP hm;rcases u;have q:=q.resolve_right j8;exact am [(bk,V.ref 0),(fe,V.bool false)] rfl<|sk 5<|aj Q.m av rfl<|sk 6<|aj Q.c q rfl<|sk 5<|aj Q.c e rfl<|oI (λ(C:Option (List Nat)×Nat×Seen)=>jO x k p h r G C) _ rfl (λy=>(sk 3<|aj Q.m aG rfl rfl)) λy=>rfl;clear q;have q:cM .Eq (.int (k+aI r:Nat)) (.int (x.length:Nat)) (ax x k p h s.aA::G)=some (Nat.beq (k+aI r) x.length):=rfl;rcases z:Nat.beq (k+aI r) x.length;rw[z]at q;exact am [(bk,V.ref 0),(fe,V.bool true)] rfl<|sk 5<|aj Q.m av rfl<|sk 6<|aj Q.c q rfl<|sk 5<|aj Q.c e rfl<|oI (λ(C:Option (List Nat)×Nat×Seen)=>jO x k p h r G C) _ rfl (λy=>(sk 3<|aj Q.m aG rfl rfl)) λy=>rfl;rw[z]at q;exact am [(bk,V.ref 0),(fe,V.bool true)] rfl<|sk 5<|aj Q.m av rfl<|sk 6<|aj Q.c q rfl<|sk 7<|aj Q.c e rfl<|oI (λ(C:Option (List Nat)×Nat×Seen)=>jO x k p h r G C) _ rfl (λy=>(sk 3<|aj Q.m aG rfl rfl)) λy=>rfl
include n4
theorem K6{H:aq}(u:H=ax x k p h s.aA::G)(hl:aI r=r.length):aF (j+60) tab O none (.fn 617) [.ref 0,.bool false] H=jO x k p h r G (aB (Nat.blt 0<|aI r-bS r) (some ao,aI r-bS r,.no) (none,0,s)):=by
 subst u;have av:=kf (ax x k p h s.aA::G) aE hm;have z:=n4 (ax x k p h s.aA::G) aE aP;have aG:=cX (h:=h) (p:=p) (f:=s.aA) (kd:=ao) G aE aP hm<|as (gj (aI r)<|bS r)<|oZ r;have e:cM .Gt (.int (k+(aI r-bS r):Nat)) (.int k) (ax x k p h s.aA::G)=some (Nat.blt 0<|aI r-bS r):=az some<|Aj (b:=aI r-bS r) (a:=0);have q:cM .Eq (.int (k+aI r:Nat)) (.int (x.length:Nat)) (ax x k p h s.aA::G)=some true:=az some<|o8<|Y (gO aE aP)<|Y hl rfl;have d:bin .Sub (.int (k+aI r:Nat)) (.int<|bS r) (ax x k p h s.aA::G)=some (.ok (.int (k+(aI r-bS r):Nat))<|ax x k p h s.aA::G):=by show rt (V.int<|((k+aI r:Nat):Int)-((bS r:Nat):Int)) _=_;have hh:=s9 r;exact Y (qb<|as (hl▸hh)<|bT ..)<|Y (Nat.add_sub_assoc (hl▸hh) ..) rfl
 clear kf n4 cX aE aP hm hl;exact am [(bk,V.ref 0),(fe,V.bool false)] rfl<|sk 5<|aj Q.m av rfl<|sk 6<|aj Q.c q rfl<|sk 10<|aj Q.m z rfl<|aj Q.m d rfl<|sk 4<|aj Q.c e rfl<|oI (λ(C:Option (List Nat)×Nat×Seen)=>jO x k p h r G C) _ rfl (λy=>(sk 3<|aj Q.m aG rfl rfl)) λy=>rfl
theorem FL:aF (j+60) tab O none (.fn 617) [.ref 0,.bool u] (ax x k p h s.aA::G)=jO x k p h r G (g2 r s u):=by
 have a:=λq=>OO (j:=j) (p:=p) (h:=h) (s:=s) (G:=G) kf cX aE aP hm (u:=u) rfl q;rcases u
 .unfold g2 cb;show _=jO x k p h r G (aB (Nat.blt 0<|aB (Nat.beq (aI r) r.length) (aI r-bS r)<|aI r) (some ao,aB (Nat.beq (aI r) r.length) (aI r-bS r)<|aI r,.no) (none,0,s));rcases b:Nat.beq (aI r) r.length;exact a<|.inl<|az some<|by show Nat.beq (k+aI r) x.length=false;refine Y (gO aE aP)<|Y ET ?_;exact b
  exact K6 kf n4 cX aE aP hm rfl<|cd b
 exact a<|.inr rfl
end
def jl{o:Option Nat}{e:Nat}(h:o.map z=some e):∃a,o=some a/\z a=e:=by rcases o with _|a;exact aW h;exact a8 a rfl<|aQ h
def vN(h:bQ r w z=some e)(f:1<=w.length):e<=r.length:=by refine aZ (jl (o:=iH (r.drop z) w) (z:=(z+·)) h) λa y x=>?_;subst x;refine aZ (jl (o:=br w<|r.drop z) (z:=(·+w.length)) y) λi C D=>?_;subst D;refine c5 (jQ C) λ_ j _=>?_;have k:=j2 j;rw[b0,b0,<-Nat.sub_add_eq]at k;have u:=gt<|Nat.lt_of_sub_pos<|cB f k;show z+(i+w.length)<=r.length;exact Y (cz ..).symm<|Y (cF ..)<|Nat.add_le_of_le_sub u k
def Nw:∀{r q},(∀e,(bw r q).1=some e->e<=r.length):=by
 intro r;induction r with
 |nil=>intro q e h;exact aW h
 |cons c r f=>
  intro q e h;have up1:∀{t:Tg},(∀e,t.1=some e->e<=r.length)->∀e,(up 1 t).1=some e->e<=r.length+1:=λ{t} g e h=>by refine aZ (jl (o:=t.1) (z:=(1+·)) h) λa y j=>?_;clear h;subst j;show 1+a<=_;exact Y (cF ..)<|fD<|g a y
  rcases q with _|⟨k,q⟩;refine cw (P:=λt:Tg=>∀e,t.1=some e->e<=r.length+1) (λ_=>up1 f) (λ_=>cw (P:=λt:Tg=>∀e,t.1=some e->e<=r.length+1) (λ_ e h=>?_) λ_=>cw (P:=λt:Tg=>∀e,t.1=some e->e<=r.length+1) (λ_ e h=>?_) λ_=>up1 f) e h;obtain rfl:=aQ h;exact bT ..;obtain rfl:=aQ h;exact bJ _;exact up1 (cw (P:=λt:Tg=>∀e,t.1=some e->e<=r.length) (λ_=>f) λ_=>f) e h
def OE(j:1<=r.length)(o:k6 r s):∀e,(gx r s).1=some e->e<=r.length:=by
 have go:∀{z q},z<=r.length->∀e,(up z<|bw (r.drop z) q).1=some e->e<=r.length:=λ{z q} f e h=>by refine aZ (jl (o:=(bw (r.drop z) q).1) (z:=(z+·)) h) λa y k=>?_;clear h;subst k;have:=Nw a y;rw[b0]at this;show z+a<=_;exact Y (cF ..)<|Nat.add_le_of_le_sub f this
 induction s with
 |tag z q=>exact go o.2.2.2|_=>exact go j
def i6(r:List Nat)(z:Option gf):Prop:=∀kd e s,z=some (kd,some e,s)->e<=r.length
def zI(j:1<=r.length)(o:k6 r s):i6 r (d8 r s):=by have no:i6 r none:=λ_ _ _ h=>nomatch h;have en:∀{kd w z s},1<=w.length->i6 r (some (kd,bQ r w z,s)):=λf k e J h=>vN (aQ<|az (λo=>o.map (·.2.1)) h) f;exact cw (P:=i6 r) (λ_=>no) λ_=>cw (P:=i6 r) (λ_=>en<|by decide) λ_=>cw (P:=i6 r) (λ_=>no) λ_=>cw (P:=i6 r) (λ_=>no) λ_=>cw (P:=i6 r) (λ_=>en<|by decide) λ_=>cw (P:=i6 r) (λ_ kd e s h=>a4 (aQ<|aQ<|az (λo=>o.map (·.2.1)) h).symm) λ_ kd e s h=>OE j o e<|aQ<|az (λo=>o.map (·.2.1)) h
abbrev wW(O:ap):Prop:=∀{x r:List Nat}{k:Nat}{s:Seen}(H:aq),x.drop k=r->k<=x.length->x.length<=bf->sz r->1<=r.length->k6 r s->dy O 547 [.str x,.int k,s.aA] H (vc k<|d8 r s) H
abbrev xH(O:ap):Prop:=∀{x r h:List Nat}{k p:Nat}{s:Seen}{u:Bool}(G:aq),x.drop k=r->k<=x.length->x.length<=bf->O none (.fn 617) [.ref 0,.bool u] (ax x k p h s.aA::G)=jO x k p h r G (g2 r s u)
abbrev Go(O:ap)(j:Nat)(x:List Nat)(k p:Nat)(h:List Nat)(s:Seen)(G:aq)(u:Bool)(r:List Nat)(t:Tk):Prop:=aF (j+60) tab O none (.fn 610) [.ref 0,.bool u] (ax x k p h s.aA::G)=jO x k p h r G t
section
variable{O:ap}{G:aq}{x r:List Nat}{k:Nat}
def OT(aE:x.drop k=[])(aP:k<=x.length):Go O j x k p h s G u [] (none,0,s):=by have q:=az some<|o8<|ce aP<|oR aE;clear aE aP;exact am [(bk,V.ref 0),(fe,V.bool u)] rfl<|sk 6<|aj Q.c q rfl rfl
def sw(aE:x.drop k=c::r):cM .Eq (.int k) (.int (x.length:Nat)) H=some false:=az some<|iI<|o7 (gy aE).2.2
def Sc(ll:xH O)(aE:x.drop k=c::r)(aP:k<=x.length)(hm:x.length<=bf)(y:ar [c] [60]=false)(C:ar [c] [38]=false):Go O j x k p h s G u (c::r) (g2 (c::r) s u):=by have q:=sw (H:=ax x k p h s.aA::G) aE;have i:=hQ (H:=ax x k p h s.aA::G) aE;have m:=ll (h:=h) (p:=p) (s:=s) (u:=u) G aE aP hm;clear aE aP hm ll;generalize g2 (c::r) s u=t at m⊢;exact am [(bk,V.ref 0),(fe,V.bool u)] rfl<|sk 6<|aj Q.c q rfl<|sk 5<|aj Q.m i rfl<|aj (λb=>Q.c<|some b) y rfl<|sk 5<|aj Q.m i rfl<|aj (λb=>Q.c<|some b) C rfl<|sk 4<|aj Q.m m rfl rfl
def nC(aE:x.drop k=c::r)(aP:k<=x.length):bP tab O none (.blt .len) [.str x] H=some (.ok (.int (k+(c::r).length:Nat)) H):=by exact Y (gO aE aP).symm rfl
def x8(aE:x.drop k=c::r)(aP:k<=x.length):cM .Eq (.int k) (.int (k+(c::r).length:Nat)) H=some false:=by refine Y (gO aE aP).symm ?_;exact sw aE
section
variable{c:Nat}(cX:nT O)(aE:x.drop k=c::r)(aP:k<=x.length)(hm:x.length<=bf)
include cX aE aP hm
theorem Pu(y:ar [c] [60]=true)(m:O none (.fn 547) [.str x,.int k,s.aA] (ax x k p h s.aA::G)=some (.ok (.tup [.str kd,.int (k+e:Nat),f])<|ax x k p h s.aA::G))(he:e<=(c::r).length):Go O j x k p h s G u (c::r) (some kd,e,.no):=by have q:=sw (H:=ax x k p h s.aA::G) aE;have i:=hQ (H:=ax x k p h s.aA::G) aE;have aG:=cX (h:=h) (p:=p) (f:=s.aA) (kd:=kd) G aE aP hm he;clear aE aP hm cX he;exact am [(bk,V.ref 0),(fe,V.bool u)] rfl<|sk 6<|aj Q.c q rfl<|sk 5<|aj Q.m i rfl<|aj (λb=>Q.c<|some b) y rfl<|sk 8<|aj Q.m m rfl<|sk 15<|aj Q.m aG rfl rfl
theorem FJ(y:ar [c] [60]=true)(m:O none (.fn 547) [.str x,.int k,s.aA] (ax x k p h s.aA::G)=some (.ok (.tup [.str kd,.none,J.aA])<|ax x k p h s.aA::G)):Go O j x k p h s G u (c::r) (aB u (some cP,(c::r).length,.no) (none,0,J)):=by have q:=x8 (H:=ax x k p h s.aA::G) aE aP;have z:=nC (O:=O) (H:=ax x k p h s.aA::G) aE aP;have C:=nC (O:=O) (H:=ax x k p h J.aA::G) aE aP;have i:=hQ (H:=ax x k p h s.aA::G) aE;have aG:=cX (h:=h) (p:=p) (f:=J.aA) (kd:=cP) G aE aP hm<|ba _;clear aE aP hm cX;rcases u;exact am [(bk,V.ref 0),(fe,V.bool false)] rfl<|sk 5<|aj Q.m z rfl<|aj Q.c q rfl<|sk 5<|aj Q.m i rfl<|aj (λb=>Q.c<|some b) y rfl<|sk 8<|aj Q.m m rfl rfl;exact am [(bk,V.ref 0),(fe,V.bool true)] rfl<|sk 5<|aj Q.m z rfl<|aj Q.c q rfl<|sk 5<|aj Q.m i rfl<|aj (λb=>Q.c<|some b) y rfl<|sk 8<|aj Q.m m rfl<|sk 24<|aj Q.m C rfl<|aj Q.m aG rfl rfl
theorem Pj(y:ar [c] [60]=true)(m:O none (.fn 547) [.str x,.int k,s.aA] (ax x k p h s.aA::G)=some (.ok .none<|ax x k p h s.aA::G)):Go O j x k p h s G u (c::r) (aB u (some cP,(c::r).length,.no) (none,0,.no)):=by have q:=x8 (H:=ax x k p h s.aA::G) aE aP;have z:=nC (O:=O) (H:=ax x k p h s.aA::G) aE aP;have C:=nC (O:=O) (H:=ax x k p h .none::G) aE aP;have i:=hQ (H:=ax x k p h s.aA::G) aE;have aG:=cX (h:=h) (p:=p) (f:=.none) (kd:=cP) G aE aP hm<|ba _;clear aE aP hm cX;rcases u;exact am [(bk,V.ref 0),(fe,V.bool false)] rfl<|sk 5<|aj Q.m z rfl<|aj Q.c q rfl<|sk 5<|aj Q.m i rfl<|aj (λb=>Q.c<|some b) y rfl<|sk 8<|aj Q.m m rfl rfl;exact am [(bk,V.ref 0),(fe,V.bool true)] rfl<|sk 5<|aj Q.m z rfl<|aj Q.c q rfl<|sk 5<|aj Q.m i rfl<|aj (λb=>Q.c<|some b) y rfl<|sk 8<|aj Q.m m rfl<|sk 18<|aj Q.m C rfl<|aj Q.m aG rfl rfl
theorem IY(y:ar [c] [60]=false)(C:ar [c] [38]=true)(m:O none (.fn 519) [.str x,.str [59],.int ((1:Nat):Int),.int k,s.aA] (ax x k p h s.aA::G)=some (.ok (.tup [.int (k+e:Nat),f])<|ax x k p h s.aA::G))(he:e<=(c::r).length):Go O j x k p h s G u (c::r) (some dL,e,.no):=by have q:=sw (H:=ax x k p h s.aA::G) aE;have i:=hQ (H:=ax x k p h s.aA::G) aE;have aG:=cX (h:=h) (p:=p) (f:=s.aA) (kd:=dL) G aE aP hm he;clear aE aP hm cX he;exact am [(bk,V.ref 0),(fe,V.bool u)] rfl<|sk 6<|aj Q.c q rfl<|sk 5<|aj Q.m i rfl<|aj (λb=>Q.c<|some b) y rfl<|sk 5<|aj Q.m i rfl<|aj (λb=>Q.c<|some b) C rfl<|sk 8<|aj Q.m m rfl<|sk 16<|aj Q.m aG rfl rfl
theorem QZ(y:ar [c] [60]=false)(C:ar [c] [38]=true)(m:O none (.fn 519) [.str x,.str [59],.int ((1:Nat):Int),.int k,s.aA] (ax x k p h s.aA::G)=some (.ok (.tup [.none,J.aA])<|ax x k p h s.aA::G)):Go O j x k p h s G u (c::r) (aB u (some cP,(c::r).length,.no) (none,0,J)):=by have q:=x8 (H:=ax x k p h s.aA::G) aE aP;have z:=nC (O:=O) (H:=ax x k p h s.aA::G) aE aP;have D:=nC (O:=O) (H:=ax x k p h J.aA::G) aE aP;have i:=hQ (H:=ax x k p h s.aA::G) aE;have aG:=cX (h:=h) (p:=p) (f:=J.aA) (kd:=cP) G aE aP hm<|ba _;clear aE aP hm cX;rcases u;exact am [(bk,V.ref 0),(fe,V.bool false)] rfl<|sk 5<|aj Q.m z rfl<|aj Q.c q rfl<|sk 5<|aj Q.m i rfl<|aj (λb=>Q.c<|some b) y rfl<|sk 5<|aj Q.m i rfl<|aj (λb=>Q.c<|some b) C rfl<|sk 8<|aj Q.m m rfl rfl;exact am [(bk,V.ref 0),(fe,V.bool true)] rfl<|sk 5<|aj Q.m z rfl<|aj Q.c q rfl<|sk 5<|aj Q.m i rfl<|aj (λb=>Q.c<|some b) y rfl<|sk 5<|aj Q.m i rfl<|aj (λb=>Q.c<|some b) C rfl<|sk 8<|aj Q.m m rfl<|sk 25<|aj Q.m D rfl<|aj Q.m aG rfl rfl
end
end
def xd(r:List Nat)(s:Seen):Prop:=match r with|[]=>True|c::r=>(ar [c] [60]=true->sz (c::r)/\k6 (c::r) s)/\(ar [c] [60]=false->ar [c] [38]=true->s.hu=false)
def Kt(mi:wW O)(cX:nT O)(aE:x.drop k=c::r)(aP:k<=x.length)(hm:x.length<=bf)(f:ar [c] [60]=true)(o:sz (c::r)/\k6 (c::r) s):Go O j x k p h s G u (c::r) (c6 (c::r) u<|d8 (c::r) s):=by
 have m:=mi (ax x k p h s.aA::G) aE aP hm o.1 (bT ..) o.2;have le:=zI (bT ..) o.2;generalize d8 (c::r) s=z at m le;match z with
 |none=>exact Pj cX aE aP hm f m|some (kd,none,J)=>exact FJ cX aE aP hm f m|some (kd,some e,J)=>exact Pu cX aE aP hm f m<|le _ _ _ rfl
def G'(gU:rQ O)(cX:nT O)(aE:x.drop k=c::r)(aP:k<=x.length)(hm:x.length<=bf)(f:ar [c] [60]=false)(y:ar [c] [38]=true)(o:s.hu=false):Go O j x k p h s G u (c::r) (c6 (c::r) u<|some (dL,bQ (c::r) [59]<|s.fr 1,cI (c::r) [59]<|s.fr 1)):=by
 have m:=gU (w:=[59]) (d:=1) (ax x k p h s.aA::G) aE aP rfl o;have le:∀e,bQ (c::r) [59] (s.fr 1)=some e->e<=(c::r).length:=λe h=>vN h<|ba 1;generalize bQ (c::r) [59] (s.fr 1)=z at m le;generalize cI (c::r) [59] (s.fr 1)=J at m;match z with
 |none=>exact QZ cX aE aP hm f y m|some e=>exact IY cX aE aP hm f y m<|le _ rfl
def yg(mi:wW O)(gU:rQ O)(cX:nT O)(ll:xH O)(aE:x.drop k=r)(aP:k<=x.length)(hm:x.length<=bf)(o:xd r s):Go O j x k p h s G u r (bM r s u):=by
 match r,aE,o with
 |[],aE,_=>exact OT aE aP|c::r,aE,o=>exact cw (P:=Go O j x k p h s G u<|c::r) (λf=>Kt mi cX aE aP hm f<|o.1 f) λf=>cw (P:=Go O j x k p h s G u<|c::r) (λy=>G' gU cX aE aP hm f y<|o.2 f y) λy=>Sc ll aE aP hm f y
def dY(x:List Nat):List Nat:=jn [10]<|bg [13,10] x 0 []
def a'(x:List Nat):List Nat:=jn [10]<|bg [13] (dY x) 0 []
def IS:∀l,k0 (l.map V.str)=some l:=by
 intro l;induction l with
 |nil=>exact rfl|cons a l f=>show ob (ek<|V.str a) (λx=>ob (k0<|l.map V.str) λl=>some<|x::l)=_;exact Y (f) rfl
def m_split(f:(Nat.ble 1 y.length&&ms y)=true)(h:x.length<=1000000):e' q7 x [.str y] H=some (.ok (.ref H.length)<|H++[.list<|(bg y x 0 []).map V.str]):=by show aw (Nat.ble 1 y.length&&ms y&&Nat.ble x.length 1000000) _=_;exact Y f<|Y (ia h) rfl
def sA(h:H[i]? =some (.list<|l.map V.str))(f:b8 l+l.length*x.length<=1000000):e' pM x [.ref i] H=some (.ok (.str<|jn x l) H):=by show iO H[i]? (λl=>ob (k0 l) λj=>aw (cr<|b8 j+j.length*x.length)<|rt (V.str<|jn x j) H)=_;refine Y h ?_;show ob (k0<|l.map V.str) _=_;refine Y (IS ..) ?_;show aw _ _=_;exact Y (hv f) rfl
def cU{H:aq}:(H++[o])[H.length]? =some o:=by refine Y (dr<|ba _)<|Y (er ..) ?_;rfl
theorem ko(y):∀x w U,b8 (bg y x w U)+(bg y x w U).length<=U.length+2*x.length+1
 |[],w,U=>by show U.reverse.length+0+1<=U.length+0+1;exact Y fL<|ba _
 |a::r,w+1,U=>by have:=ko y r w U;show b8 (bg y r w U)+(bg y r w U).length<=U.length+2*(r.length+1)+1;exact aR this<|by simp+arith
 |a::r,0,U=>by
  show b8 (match pre y (a::r)with|true=>U.reverse::bg y r (y.length-1) []|false=>bg y r 0<|a::U)+(match pre y (a::r)with|true=>U.reverse::bg y r (y.length-1) []|false=>bg y r 0<|a::U).length<=U.length+2*(r.length+1)+1;rcases pre y (a::r);have h:b8 (bg y r 0<|a::U)+(bg y r 0<|a::U).length<=(U.length+1)+2*r.length+1:=ko y r 0 (a::U);show b8 (bg y r 0<|a::U)+(bg y r 0<|a::U).length<=_;exact aR h<|by simp+arith
  have h:b8 (bg y r (y.length-1) [])+(bg y r (y.length-1) []).length<=0+2*r.length+1:=ko y r (y.length-1) [];have e:U.reverse.length=U.length:=fL;show U.reverse.length+b8 (bg y r (y.length-1) [])+((bg y r (y.length-1) []).length+1)<=_;exact a7 h (a4 e)<|by simp+arith
theorem ow(c):∀l,(jn [c] l).length<=b8 l+l.length|[]=>ba _|[a]=>bK (a.length) _|a::b::r=>by have:=ow c<|b::r;show(a++[c]++jn [c] (b::r)).length<=a.length+b8 (b::r)+((b::r).length+1);refine Y a0<|Y a0 ?_;show a.length+1+_<=_;exact aR this<|by simp+arith
def lR(x:List Nat):aq:=[.list<|(bg [13,10] x 0 []).map .str,.list<|(bg [13] (dY x) 0 []).map .str]
def Ou(aE:x.length<=bf):Do j O 112 [.str x] H (.str<|a' x) (H++lR x):=by
 have aE:x.length<=100000:=aE;have f:b8 (bg [13,10] x 0 [])+(bg [13,10] x 0 []).length<=0+2*x.length+1:=ko [13,10] x 0 [];have h:=ow 10<|bg [13,10] x 0 [];have u:b8 (bg [13] (dY x) 0 [])+(bg [13] (dY x) 0 []).length<=0+2*(dY x).length+1:=ko [13] (dY x) 0 [];have k:(dY x).length<=2*x.length+1:=by unfold dY;exact a7 f h<|by simp+arith
 have av:=m_split (x:=x) (y:=[13,10]) (H:=H) rfl<|as ‹_›<|by decide
 have aG:=sA (x:=[10]) (H:=H++[.list<|(bg [13,10] x 0 []).map V.str]) (i:=H.length) cU<|by show _+_*1<=_;exact cT aE aE f<|by simp+arith
 have da:=m_split (x:=dY x) (y:=[13]) (H:=H++[.list<|(bg [13,10] x 0 []).map V.str]) rfl<|cT aE aE k<|by simp+arith
 have fN:=sA (x:=[10]) (H:=H++[.list<|(bg [13,10] x 0 []).map V.str]++[.list<|(bg [13] (dY x) 0 []).map V.str]) (i:=(H++[au.list<|(bg [13,10] x 0 []).map V.str]).length) cU<|by show _+_*1<=_;grind
 have e:H++lR x=H++[.list<|(bg [13,10] x 0 []).map V.str]++[.list<|(bg [13] (dY x) 0 []).map V.str]:=by exact Y (bq ..) rfl
 refine Y e ?_;clear aE f h u k e;exact am [(bc,V.str x)] rfl<|sk 4<|aj Q.m av rfl<|aj Q.m aG rfl<|sk 1<|aj Q.m da rfl<|aj Q.m fN rfl rfl
abbrev vJ(O:ap):Prop:=∀{x:List Nat}(H:aq),x.length<=bf->dy O 112 [.str x] H (.str<|a' x) (H++lR x)
def iY(h:x.length+y.length<=1000000):bin .Add (.str x) (.str y) H=some (.ok (.str<|x++y) H):=by show aw (cr<|x.length+y.length) (rt (V.str<|x++y) H)=_;exact Y (hv h) rfl
def Jm:il (.str x) none (some<|.int<|-((1:Nat):Int)) H=some (.ok (.str x.dropLast) H):=by show some (R.ok (V.str<|(x.drop 0).take<|x.length-1-0) H)=_;exact Y iV<|Y List.dropLast_eq_take rfl
def fK(h I:List Nat):List Nat:=aB (b2 (h++I) [13]) [13] []
def bW(h I:List Nat):List Nat:=aB (b2 (h++I) [13]) (h++I).dropLast<|h++I
section
variable{G:aq}
def R1(kQ:vJ O)(aE:x.drop k=r)(aP:k<=x.length)(hm:x.length<=bf)(u:h.length+I.length<=20000):Do j O 582 [.ref 0,.str I] (ax x k p h f::G) .none (ax (r++a' (bW h I)) 0 p (fK h I) f::(G++lR (bW h I))):=by
 have hm:x.length<=100000:=hm;have hl:(bW h I).length<=20000:=cw (P:=λC:List Nat=>C.length<=20000) (λ_=>by refine Y List.length_dropLast<|Y a0 ?_;exact a7 u (gj (h.length+I.length) 1)<|by simp+arith) λ_=>by refine Y a0 ?_;exact aR u<|by simp+arith
 have N:=ow 10<|bg [13,10] (bW h I) 0 [];have J:=ko [13,10] (bW h I) 0 [];have T:b8 (bg [13] (dY<|bW h I) 0 [])+(bg [13] (dY<|bW h I) 0 []).length<=0+2*(dY<|bW h I).length+1:=ko [13] (dY<|bW h I) 0 [];have U:=ow 10<|bg [13] (dY<|bW h I) 0 [];have E:=iY (x:=h) (y:=I) (H:=ax x k p h f::G)<|as ‹_›<|by decide
 have e1:∀h':List Nat,_:=λh'=>TZ (H:=ax x k p h' f::G) aE aP hm;have D:∀h':List Nat,_:=λh'=>iY (x:=r) (y:=a'<|bW h I) (H:=ax x k p h' f::(G++lR (bW h I))) (by
  have a:r.length<=x.length:=by refine Y (gO aE aP) ?_;exact bT ..
  have b:(dY<|bW h I).length<=40001:=as N<|as J<|by show 0+2*_+1<=_;exact a7 hl hl<|by simp+arith
  have c:(a'<|bW h I).length<=80003:=as U<|as T<|a7 b b<|by simp+arith
  exact cT hm a c<|by simp+arith)
 have m:∀h':List Nat,_:=λh'=>kQ (x:=bW h I) (ax x k p h' f::G)<|as hl<|by decide
 clear aE aP hm u hl J N T U kQ;unfold fK;unfold bW at D m⊢;revert D m;rcases z:b2 (h++I) [13];intro D m;have e1:=e1 [];have D:=D [];have m:=m [];exact am [(bk,V.ref 0),(h4,V.str I)] rfl<|sk 3<|aj Q.m E rfl<|sk 7<|aj Q.b z rfl<|sk 4<|aj Q.m e1 rfl<|sk 2<|aj Q.m m rfl<|aj Q.m D rfl rfl;intro D m;have s:=Jm (x:=h++I) (H:=ax x k p [13] f::G);have e1:=e1 [13];have D:=D [13];have m:=m [13];exact am [(bk,V.ref 0),(h4,V.str I)] rfl<|sk 3<|aj Q.m E rfl<|sk 7<|aj Q.b z rfl<|sk 5<|aj Q.m s rfl<|sk 5<|aj Q.m e1 rfl<|sk 2<|aj Q.m m rfl<|aj Q.m D rfl rfl
def Ug(kQ:vJ O)(hm:x.length<=bf)(u:h.length<=1):Do j O 596 [.ref 0] (ax x k p h f::G) .none (ax (x++a' h) k p [] f::(G++lR h)):=by
 have hm:x.length<=100000:=hm;have C:=ow 10<|bg [13,10] h 0 [];have z:=ko [13,10] h 0 [];have D:b8 (bg [13] (dY h) 0 [])+(bg [13] (dY h) 0 []).length<=0+2*(dY h).length+1:=ko [13] (dY h) 0 [];have E:=ow 10<|bg [13] (dY h) 0 [];have I:=iY (x:=x) (y:=a' h) (H:=ax x k p h f::(G++lR h)) (by
  have b:(dY h).length<=40001:=as C<|as z<|by show 0+2*_+1<=_;exact a7 u u<|by simp+arith
  have c:(a' h).length<=80003:=as E<|as D<|a7 b b<|by simp+arith
  exact a7 hm c<|by simp+arith)
 have m:=kQ (x:=h) (ax x k p h f::G)<|as u<|by decide
 clear hm u z C D E kQ;exact am [(bk,V.ref 0)] rfl<|sk 5<|aj Q.m m rfl<|aj Q.m I rfl rfl
end
def bL(st:Nat)(aa:V):au:=.inst 899 [(mG,.ref 1),(mD,.none),(la,.ref 10),(mH,.int st),(mR,.bool false),(mZ,aa)]
def rest(nm:List V):aq:=[.inst 828 [(eG,.ref 2),(eU,.ref 7),(iN,.ref 9)],.inst 1070 [(el,.ref 3),(j1,.ref 4),(jH,.ref 5),(kO,.ref 6)],.inst 921 [(iG,.int 20),(iQ,.int 100000)],.dict [],.dict [],.dict [],.inst 377 [(el,.ref 3),(gT,.int 0),(gE,.ref 8)],.list [],.list nm]
def ak(st:Nat)(nm:List V)(E:au)(G:aq):aq:=bL st .none::(rest nm++(E::G))
def cV(st:Nat)(nm:List V)(E:au)(i:Nat)(G:aq):aq:=bL st (.ref i)::(rest nm++(E::G))
abbrev gM(fd:V)(v:V):Loc:=[(bk,.ref 0),(fe,fd),(pX,.ref 11),(B0,v)]
noncomputable abbrev pv(kd tx:List Nat)(p:Nat):V:=.tup [.str kd,.str tx,.int p]
noncomputable def fo:List (List Nat×Nat)->Nat->aq|[],_=>[]|c::l,i=>.exc 150 (some<|i+1) (match l with|[]=>none|_::_=>some<|i+2)::.dict [(dN,.str c.1),(b7,.int c.2)]::fo l (i+2)
def UC:∃x,(G++fo (c::l) i)[G.length]? =some (.exc 150 (some<|i+1) x)/\(G++fo (c::l) i)[G.length+1]? =some (.dict [(dN,.str c.1),(b7,.int c.2)]):=by refine a8 (match l with|[]=>none|_::_=>some<|i+2) ?_ ?_;refine Y (dr<|ba _)<|Y (er ..) ?_;rfl;refine Y (dr<|bK ..)<|Y (ew ..) ?_;rfl
section
variable{O:ap}{G:aq}{st p:Nat}{tx:List Nat}{cf:List V}
def Is{i:Nat}(h:H[i]? =some (.list m))(f:Nat.beq i 11=false)(y:l.length+m.length<=1000000):ez jc 11 l [.ref i] H=some (.ok .none<|H.set 11<|.list<|l++m):=by show iO H[i]? (λn=>aw (cr (l.length+n.length)&&!Nat.beq i 11)<|rt V.none<|H.set 11<|.list<|l++n)=_;refine Y h ?_;show aw (cr (l.length+m.length)&&!Nat.beq i 11) _=_;exact Y (hv y)<|Y f rfl
def La(av:O none (.fn 875) [.ref 0,.str kd,.str tx,.int p] (ak st nm (ax x k q h f)<|.list fd::G)=some (.ok (.ref<|G.length+12)<|ak ae u (ax x k q h f)<|.list fd::(G++[.list cf])))(aG:O none (.fn 610) [.ref 10,.bool E] (ak ae u (ax x k q h f)<|.list (fd++cf)::(G++[.list cf]))=some (.ok v<|ak ae u (ax I z C h D)<|.list (fd++cf)::(G++[.list cf])))(y:fd.length+cf.length<=1000000):d2 O (j+40) 868 3 (gM (.bool E)<|pv kd tx p) (ak st nm (ax x k q h f)<|.list fd::G)=d2 O (j+39) 868 3 (gM (.bool E) v) (ak ae u (ax I z C h D)<|.list (fd++cf)::(G++[.list cf])):=by
 have g:(ak ae u (ax x k q h f)<|.list fd::(G++[.list cf]))[G.length+12]? =some (.list cf):=by show(G++[.list cf])[G.length]? =_;exact cU
 have x:=Is (l:=fd) g rfl y;clear g y;exact fz<|sk 13<|aj Q.m av rfl<|aj Q.m x rfl<|sk 4<|aj Q.m aG rfl rfl
def HX:d2 O (j+40) 868 3 (gM (.bool E) .none) H=some (.ok .next (gM (.bool E) .none) H):=by exact fz rfl
def Q2(h:H[i]? =some (.exc 150 a b))(loc):m7 tab (some i) loc (.ref i) H=some (.exc i loc H):=by show cE (ob H[i]? λo=>ob (qI o) λp=>ob (bi p.1 tab.sub) λ_=>mX (some i) i H p) _=_;refine Y h ?_;show cE (match Nat.beq i i with|true=>some (i,H)|false=>_) _=_;exact Y (eg ..) rfl
def F3(av:O none (.fn 875) [.ref 0,.str kd,.str tx,.int p] (ak st nm (ax x k q h f)<|.list fd::G)=some (.exc (G.length+12)<|ak ae u (ax x k q h f)<|.list fd::(G++fo (c::ch) (G.length+12)))):d2 O (j+40) 868 3 (gM (.bool E)<|pv kd tx p) (ak st nm (ax x k q h f)<|.list fd::G)=some (.exc (G.length+12) (gM (.bool E)<|pv kd tx p)<|cV ae u (ax x k q h f) (G.length+12)<|.list fd::(G++fo (c::ch) (G.length+12))):=by refine aZ (UC (G:=G) (c:=c) (l:=ch) (i:=G.length+12)) λy g _=>?_;generalize G++fo (c::ch) (G.length+12)=af at av g⊢;have z:=g;have C:=Q2 (H:=cV ae u (ax x k q h f) (G.length+12)<|.list fd::af) (i:=G.length+12) g;clear g;exact fz<|sk 13<|aj Q.m av rfl<|aj Q.o z rfl<|sk 5<|aj Q.s (C _) rfl rfl
end
inductive lT where|st (n:List Nat) (l:List (List Nat×List Nat))|en (n:List Nat)
noncomputable def is:List (List Nat×List Nat)->List V|[]=>[]|p::l=>.tup [.str p.1,.str p.2]::is l
def lT.kd:lT->List Nat|.st _ _=>d'|.en _=>g3
noncomputable def lT.l:lT->List V|.st n l=>[.str n,.tup<|is l]|.en n=>[.str n]
set_option genCtorIdx true in
inductive cL where|tx (t:List Nat)|ot (o:lT)
def cL.aA:cL->V|.tx t=>.tup [.str ao,.str t]|.ot o=>.tup<|.str o.kd::o.l
noncomputable def cN:List cL->Nat
 |[]=>0
 |e::r=>match e with|.tx t=>t.length+cN r|.ot _=>cN r
noncomputable def aD:List cL->List V|[]=>[]|e::l=>e.aA::aD l
structure jP where
 st:Nat
 nm:List V
 r:List Nat
 s:Seen
 p:Nat
set_option genCtorIdx true in
inductive Er where|ok (l:List cL) (st:Nat) (nm:List V)|bad (pl:Nat)
set_option genCtorIdx true in
inductive b' where|ok (l:List cL) (f:jP)|bad (pl:Nat)
def b'.bad.inj(h:b'.bad a=b'.bad b):a=b:=by injection h
def Er.ok.inj(h:Er.ok a c e=Er.ok b d z):a=b/\c=d/\e=z:=by cases h;exact⟨rfl,rfl,rfl⟩
def zo{P:Prop}(e:b'.ok a c=b'.ok b d)(k:a=b->c=d->P):P:=by cases e;exact k rfl rfl
noncomputable def b'.add(l:List cL):b'->b'|.ok k f=>.ok (l++k) f|.bad pl=>.bad pl
abbrev g9:=Nat->List V->List Nat->List Nat->Nat->Option Er
def oz(r:List Nat):Seen->Bool|.no=>true|.pos _=>pre dq r||pre [60,47] r|.tag z q=>!pre dq r&&(!pre [60,47] r&&(Nat.ble q.length 1&&Nat.ble z r.length))
def c4(r:List Nat)(s:Seen):Bool:=match r with|[]=>true|c::r=>aB (ar [c] [60]) (!pre eb (c::r)&&(!pre dj (c::r)&&(!pre [60,63] (c::r)&&oz (c::r) s)))<|aB (ar [c] [38]) (!s.hu) true
def NP(z:jP->Option b')(f:jP)(e:Nat):Er->Option b'
 |.bad pl=>some<|.bad pl
 |.ok l st nm=>b3 (Nat.ble l.length 2&&Nat.ble (cN l) 500)<|ob (z ⟨st,nm,f.r.drop e,.no,f.p+e⟩) λo=>some<|o.add l
def jY(sem:g9)(z:jP->Option b')(f:jP)(t:Tk):Option b':=match t.1 with
 |none=>some<|.ok [] ⟨f.st,f.nm,f.r,t.2.2,f.p⟩
 |some kd=>ob (sem f.st f.nm kd (f.r.take t.2.1) f.p)<|NP z f t.2.1
noncomputable def dQ(sem:g9)(E:Bool)(n:Nat)(f:jP):Option b':=match n with|0=>none|n+1=>b3 (c4 f.r f.s)<|jY sem (dQ sem E n) f<|bM f.r f.s E
def js(O:ap)(st:Nat)(nm:List V)(kd tx:List Nat)(p:Nat)(x:List Nat)(k:Nat)(h:List Nat)(q:Nat)(f:V)(fd:List V)(G:aq):Er->Prop|.ok l ae u=>O none (.fn 875) [.ref 0,.str kd,.str tx,.int p] (ak st nm (ax x k q h f)<|.list fd::G)=some (.ok (.ref<|G.length+12)<|ak ae u (ax x k q h f)<|.list fd::(G++[.list<|aD l]))/\aH u|.bad pl=>∃ae u c ch,O none (.fn 875) [.ref 0,.str kd,.str tx,.int p] (ak st nm (ax x k q h f)<|.list fd::G)=some (.exc (G.length+12)<|ak ae u (ax x k q h f)<|.list fd::(G++fo (c::ch) (G.length+12)))/\c.2=pl/\ch.length<=9/\aH u
def uO(sem:g9)(O:ap):Prop:=∀{st:Nat}{nm:List V}{kd tx:List Nat}{p:Nat}{e:Er}(x:List Nat)(k:Nat)(h:List Nat)(q:Nat)(s:Seen)(fd:List V)(G:aq),aH nm->sem st nm kd tx p=some e->js O st nm kd tx p x k h q s.aA fd G e
def wO(O:ap):Prop:=∀{st:Nat}{nm:List V}{x r h:List Nat}{k p:Nat}{s:Seen}(E:Bool)(G:aq),x.drop k=r->k<=x.length->x.length<=bf->c4 r s=true->
 O none (.fn 610) [.ref 10,.bool E] (ak st nm (ax x k p h s.aA) G)=some (.ok (oX p r<|bM r s E)<|ak st nm (ws x k p h<|bM r s E) G)
def oB:∀a b,aD (a++b)=aD a++aD b:=by
 intro a;induction a with
 |nil=>intro _;exact rfl
 |cons e a f=>intro b;exact az (e.aA::·)<|f b
def j4:∀a,(aD a).length=a.length:=by
 intro a;induction a with
 |nil=>exact rfl|cons _ a f=>exact az (·+1)<|f
def vK(e:b3 b m=some r):b=true/\m=some r:=by rcases b;exact aW e;exact⟨rfl,e⟩
def c8{P:Prop}(e:b3 b m=some r)(h:b=true->m=some r->P):P:=aS (vK e) h
def nI(h:(!b)=true):b=false:=by induction b with|true=>exact ff h|false=>rfl
def Pc(h:oz r s=true):k6 r s:=by
 rcases s with _|z|⟨z,q⟩
 .exact⟨λ_=>rfl,λ_=>rfl,trivial⟩
 exact⟨λ_=>rfl,λ_=>rfl,qE.mp h⟩;exact zb h λu h=>zb h λy h=>zb h λC f=>⟨λe=>(by rw[e]at u;exact ff u),λe=>(by rw[e]at y;exact ff y),bE C,bE f⟩
def u9(h:c4 r s=true):xd r s:=by
 rcases r with _|⟨c,r⟩
 .trivial
 have h:aB (ar [c] [60]) (!pre eb (c::r)&&(!pre dj (c::r)&&(!pre [60,63] (c::r)&&oz (c::r) s))) (aB (ar [c] [38]) (!s.hu) true)=true:=h;refine⟨λe=>?_,λe f=>?_⟩;rw[e]at h;exact zb h λu h=>zb h λy h=>zb h λC h=>⟨⟨nI u,nI y,nI C⟩,Pc h⟩;rw[e,f]at h;exact nI h
def kq(n:Nat)(t:Tk):Prop:=t.2.1<=n/\(t.1=none->t.2.1=0)/\(∀kd,t.1=some kd->t.2.2=.no)
def xW(h:e<=n):kq n (some kd,e,.no):=⟨h,λh=>(nomatch h),λ_ _=>rfl⟩
def wf:kq n (none,0,s):=⟨bJ _,λ_=>rfl,λ_ h=>(nomatch h)⟩
def yF(h:i6 r z):kq r.length (c6 r E z):=by
 have w:∀s,kq r.length (aB E (some cP,r.length,.no) (none,0,s)):=λs=>cw (P:=kq r.length) (λ_=>xW<|ba _) λ_=>wf;match z with
 |none=>exact w .no|some (kd,none,s)=>exact w s|some (kd,some e,s)=>exact xW<|h _ _ _ rfl
def vR(h:c4 r s=true):kq r.length (bM r s E):=by
 have o:=u9 h;match r,o with
 |[],_=>exact wf|c::r,o=>exact cw (P:=kq (c::r).length) (λe=>yF<|zI (bT ..) (o.1 e).2) λ_=>cw (P:=kq (c::r).length) (λ_=>yF λkd e s h=>vN (w:=[59]) (aQ<|az (λo=>o.map (·.2.1)) h)<|ba 1) λ_=>cw (P:=kq (c::r).length) (λ_=>xW wc) λ_=>wf
section
variable{O:ap}{sem:g9}{E:Bool}(I:uO sem O)(D:wO O)
def Comes(O:ap)(j:Nat)(E:Bool)(v:V)(H:aq)(x h:List Nat)(fd:List V):b'->Prop|.ok l f=>∃k G,aH f.nm/\x.drop k=f.r/\k<=x.length/\d2 O (j+40) 868 3 (gM (.bool E) v) H=some (.ok .next (gM (.bool E) .none)<|ak f.st f.nm (ax x k f.p h f.s.aA)<|.list (fd++aD l)::G)|.bad pl=>∃st nm k q fd G c ch loc,(c.2=pl/\ch.length<=9/\aH nm)/\k<=x.length/\d2 O (j+40) 868 3 (gM (.bool E) v) H=some (.exc (G.length+12) loc<|cV st nm (ax x k q h .none) (G.length+12)<|.list fd::(G++fo (c::ch) (G.length+12)))
theorem Comes.step(e:d2 O (j+1+40) 868 3 (gM (.bool E) v) H=d2 O (j+40) 868 3 (gM (.bool E) z) H')(c:Comes O j E z H' x h (fd++aD l) o):Comes O (j+1) E v H x h fd (o.add l):=by rcases o with⟨k,f⟩|pl;refine kG c λI G D u y C=>⟨I,G,D,u,y,?_⟩;exact Y e<|Y C<|Y (bq ..)<|Y (oB ..) rfl;exact gk c λst nm k q fd J=>Fy J λG c ch loc D u y=>⟨st,nm,k,q,fd,G,c,ch,loc,D,u,e.trans y⟩
include I D
theorem Jh(hm:x.length<=bf):∀n j f k fd(G:aq) o,n<=j->fd.length+2*n<=1000000->x.drop k=f.r->k<=x.length->aH f.nm->dQ sem E n f=some o->Comes O j E (oX f.p f.r<|bM f.r f.s E) (ak f.st f.nm (ws x k f.p h<|bM f.r f.s E)<|.list fd::G) x h fd o:=by
 intro n;induction n with
 |zero=>exact λ_ _ _ _ _ _ _ _ _ _ _ e=>nomatch e
 |succ n ih=>
  intro j f k fd G o hj z aE aP hN e;obtain⟨j,rfl⟩:∃j',j=j'+1:=⟨j-1,(bx<|as (bT 1 n) hj).symm⟩;refine c8 e λc e=>c5 (vR (E:=E) c) λle C U=>?_;generalize bM f.r f.s E=t at e le C U⊢;obtain⟨kd,N,J⟩:=t;rcases kd with _|kd;obtain rfl:=aQ e;clear le U e;obtain rfl:N=0:=C rfl;refine⟨k,G,hN,aE,aP,?_⟩;have l:=HX (O:=O) (j:=j+1) (E:=E) (H:=ak f.st f.nm (ax x k f.p h J.aA)<|.list fd::G);exact Y (show fd++aD []=fd from be _) l
  .refine aK e λer he e=>?_;clear C;obtain rfl:J=.no:=U kd rfl;have av:=I x (k+N) h (f.p+N) .no fd G hN he;rcases er with⟨l,ae,u⟩|pl
   .refine aS av λav ag=>c8 e λhl e=>aK e λo' e1 eo=>?_;clear e;clear e;obtain rfl:=aQ eo;have hl:=bE (cY.mp hl).1;have af:x.drop (k+N)=f.r.drop N:=Y aE.symm<|Y fc rfl;have ab:k+N<=x.length:=by refine Y (gO aE aP) ?_;exact hO le k
    have aa:fd.length+(aD l).length+2*n<=1000000:=as (by refine Y (j4 ..)<|Y (gB ..)<|Y (cz ..)<|Y (cF (2*n) ..) ?_;exact hO (l7 hl _) _) z;induction y:n using Nat.casesOn with
    |zero=>rw[y]at e1;exact aW e1
    |succ n'=>
    have W:=e1;rw[y]at W;refine c8 W λT _=>?_;have aG:=D (st:=ae) (nm:=u) (h:=h) (p:=f.p+N) (s:=.no) E (.list (fd++aD l)::(G++[.list<|aD l])) af ab hm T;exact Comes.step (La av aG<|as (bK ..) aa)<|ih j ⟨ae,u,f.r.drop N,.no,f.p+N⟩ (k+N) (fd++aD l) (G++[au.list<|aD l]) o' (iC hj) (by refine Y a0 ?_;exact aa) af ab ag e1
   obtain rfl:=aQ e;exact Bi av λae u T ch av z'=>⟨ae,u,k+N,f.p+N,fd,G,T,ch,_,z',by refine Y (gO aE aP) ?_;exact hO le k,F3 av⟩
end
def dB(N:List<|List Nat):List cL:=match N with|[]=>[]|p::N=>[.tx<|jn []<|p::N]
noncomputable def aJ:List cL->List (List Nat)->List cL
 |[],N=>dB N
 |e::r,N=>match e with
  |.tx t=>aJ r<|N++[t]
  |.ot o=>dB N++.ot o::aJ r []
def zm(O:ap):Prop:=∀{st:Nat}{nm:List V}{E:au}{l:List cL}(G:aq),l.length<=bf->cN l<=bf->O none (.fn 755) [.ref 11] (ak st nm E<|.list (aD l)::G)=some (.ok (.ref<|G.length+12)<|ak st nm E<|.list (aD l)::(G++[.list<|aD<|aJ l []]))
def OC(O:ap):Prop:=∀{st:Nat}{nm:List V}{x r h I:List Nat}{k p:Nat}{s:Seen}{aa:V}(G:aq),x.drop k=r->k<=x.length->x.length<=bf->h.length+I.length<=20000->
 O none (.fn 582) [.ref 10,.str I] (bL st aa::(rest nm++(ax x k p h s.aA::G)))=some (.ok .none<|bL st aa::(rest nm++(ax (r++a' (bW h I)) 0 p (fK h I) s.aA::G)))
def JJ(O:ap):Prop:=∀{st:Nat}{nm:List V}{x h:List Nat}{k p:Nat}{s:Seen}{aa:V}(G:aq),x.length<=bf->h.length<=1->
 O none (.fn 596) [.ref 10] (bL st aa::(rest nm++(ax x k p h s.aA::G)))=some (.ok .none<|bL st aa::(rest nm++(ax (x++a' h) k p [] s.aA::G)))
section
variable{O:ap}{st:Nat}{G:aq}
def JH(av:O none (.fn 610) [.ref 10,.bool E] (ak st nm (ax x k p h f) [.list []])=some (.ok v H))(aG:d2 O (j+59) 868 3 (gM (.bool E) v) H=some (.ok .next (gM (.bool E) .none)<|ak ae u (ax C y q h z)<|.list (aD l)::G))(da:O none (.fn 755) [.ref 11] (ak ae u (ax C y q h z)<|.list (aD l)::G)=some (.ok (.ref<|G.length+12)<|ak ae u (ax C y q h z)<|.list (aD l)::(G++[.list<|aD<|aJ l []]))):Do j O 868 [.ref 0,.bool E] (ak st nm (ax x k p h f) []) (.ref<|G.length+12) (ak ae u (ax C y q h z)<|.list (aD l)::(G++[.list<|aD<|aJ l []])):=by exact am [(bk,V.ref 0),(fe,V.bool E)] rfl<|sk 9<|aj Q.m av rfl<|sk 1<|aj Q.s aG rfl<|sk 2<|aj Q.m da rfl rfl
def Rn(av:O none (.fn 610) [.ref 10,.bool E] (ak st nm (ax x k p h f) [.list []])=some (.ok v H))(aG:d2 O (j+59) 868 3 (gM (.bool E) v) H=some (.exc i loc H')):aF (j+60) tab O none (.fn 868) [.ref 0,.bool E] (ak st nm (ax x k p h f) [])=some (.exc i H'):=by exact am [(bk,V.ref 0),(fe,V.bool E)] rfl<|sk 9<|aj Q.m av rfl<|sk 1<|aj Q.s aG rfl rfl
def T9:aF (j+60) tab O none (.fn 868) [.ref 0,.bool E] (cV st nm (ax x k p h f) 11<|fo (c::ch) 11)=some (.exc 11<|cV st nm (ax x k p h f) 11<|fo (c::ch) 11):=by exact am [(bk,V.ref 0),(fe,V.bool E)] rfl rfl
end
def Tells(x h:List Nat)(m:M V):b'->Prop|.ok l f=>∃k G,aH f.nm/\x.drop k=f.r/\k<=x.length/\m=some (.ok (.ref<|G.length+12)<|ak f.st f.nm (ax x k f.p h f.s.aA)<|.list (aD l)::(G++[.list<|aD<|aJ l []]))|.bad pl=>∃st nm k q fd G c ch,(c.2=pl/\ch.length<=9/\aH nm)/\k<=x.length/\m=some (.exc (G.length+12)<|cV st nm (ax x k q h .none) (G.length+12)<|.list fd::(G++fo (c::ch) (G.length+12)))
theorem rz:∀a b,cN (a++b)=cN a+cN b
 |[],b=>(eT _).symm|.tx t::a,b=>by show t.length+cN (a++b)=t.length+cN a+cN b;exact Y (rz a b)<|Y (cz ..) rfl
 |.ot _::a,b=>rz a b
def sQ:∀{n f ab l},dQ sem E n f=some (.ok l ab)->l.length<=2*n/\cN l<=500*n:=by
 intro n;induction n with
 |zero=>exact λe=>nomatch e|succ n D=>intro f ab l e;refine c8 e λ_ e=>?_;generalize bM f.r f.s E=t at e;obtain⟨kd,T,J⟩:=t;rcases kd with _|kd;refine zo (aQ e) λN _=>?_;clear e;subst N;exact⟨bJ _,bJ _⟩;refine aK e λk _ e=>?_;rcases k with⟨I,ae,u⟩|pl;refine c8 e λhl e=>aK e λo' e1 j=>?_;rcases o' with⟨O,U⟩|pl;exact zo (aQ j) λh _=>aS (D e1) λy z=>zb hl λC x=>Y h.symm<|Y a0<|Y (rz ..)<|Y (gB ..)<|Y (gB ..)<|Y (cF ..)<|Y (cF (cN I) ..) ⟨Nat.add_le_add y<|bE C,Nat.add_le_add z<|bE x⟩;exact nomatch aQ j;exact nomatch aQ e
section
variable{O:ap}
def Qu(J:uO sem O)(D:wO O)(aa:zm O)(hm:x.length<=bf)(I:n<=j)(u:n<=200)(aE:x.drop k=f.r)(aP:k<=x.length)(W:aH f.nm)(e:dQ sem E n f=some o):Tells x h (aF (j+60) tab O none (.fn 868) [.ref 0,.bool E]<|ak f.st f.nm (ax x k f.p h f.s.aA) []) o:=by
 induction n using Nat.casesOn with
 |zero=>exact aW e|succ n=>
 refine c8 e λc _=>?_;have av:=D (st:=f.st) (nm:=f.nm) (h:=h) (p:=f.p) E [.list []] aE aP hm c;have U:=hK 2 u;have L:=Jh (h:=h) J D hm (n+1) (j+19) f k [] [] o (as I<|bK ..) (by refine Y hA<|Y (eT ..) ?_;exact as U<|by decide) aE aP W e;rcases o with⟨l,ab⟩|pl;exact kG L λT G N y z C=>⟨T,G,N,y,z,JH av C<|aa G (as (sQ e).1<|as U<|by decide)<|as (sQ e).2<|as (hK 500 u)<|by decide⟩;exact gk L λst nm T q fd ae=>Fy ae λG c ch loc N y z=>⟨st,nm,T,q,fd,G,c,ch,N,y,Rn av z⟩
section
variable{st:Nat}{G:aq}
def M1(av:O none (.fn 582) [.ref 10,.str I] (bL st aa::(rest nm++(ax x k p h f::G)))=some (.ok .none<|bL st aa::(rest nm++(ax z y p h' f::G))))(aG:O none (.fn 868) [.ref 0,.bool false] (bL st aa::(rest nm++(ax z y p h' f::G)))=some (.ok v u)):aF (j+60) tab O none (.fn 854) [.ref 0,.str I] (bL st aa::(rest nm++(ax x k p h f::G)))=some (.ok v u):=by exact am [(bk,V.ref 0),(h4,V.str I)] rfl<|sk 4<|aj Q.m av rfl<|sk 2<|aj Q.m aG rfl rfl
def Bn(av:O none (.fn 582) [.ref 10,.str I] (bL st aa::(rest nm++(ax x k p h f::G)))=some (.ok .none<|bL st aa::(rest nm++(ax z y p h' f::G))))(aG:O none (.fn 868) [.ref 0,.bool false] (bL st aa::(rest nm++(ax z y p h' f::G)))=some (.exc i u)):aF (j+60) tab O none (.fn 854) [.ref 0,.str I] (bL st aa::(rest nm++(ax x k p h f::G)))=some (.exc i u):=by exact am [(bk,V.ref 0),(h4,V.str I)] rfl<|sk 4<|aj Q.m av rfl<|sk 2<|aj Q.m aG rfl rfl
def QL(av:O none (.fn 596) [.ref 10] (bL st aa::(rest nm++(ax x k p h f::G)))=some (.ok .none<|bL st aa::(rest nm++(ax z y p h' f::G))))(aG:O none (.fn 868) [.ref 0,.bool true] (bL st aa::(rest nm++(ax z y p h' f::G)))=some (.exc i u)):aF (j+60) tab O none (.fn 861) [.ref 0] (bL st aa::(rest nm++(ax x k p h f::G)))=some (.exc i u):=by exact am [(bk,V.ref 0)] rfl<|sk 3<|aj Q.m av rfl<|sk 2<|aj Q.m aG rfl rfl
def eq_nil(y:H[i]? =some (.list []))(z:H[n]? =some (.list [])):cM .NotEq (.ref i) (.ref n) H=some false:=by show(ob (some n) λj=>on (same 39 H) H[i]? H[j]?).map (!·)=_;show(on (same 39 H) H[i]? H[n]?).map (!·)=_;exact Y y<|Y z rfl
def Kz{I:aq}(av:O none (.fn 596) [.ref 10] (bL st .none::(rest nm++(ax x k p h f::G)))=some (.ok .none<|bL st .none::(rest nm++(ax E D p h' f::G))))(aG:O none (.fn 868) [.ref 0,.bool true] (bL st .none::(rest nm++(ax E D p h' f::G)))=some (.ok v<|bL 3 .none::(rest []++(ax C y q u z::I)))):aF (j+60) tab O none (.fn 861) [.ref 0] (bL st .none::(rest nm++(ax x k p h f::G)))=some (.ok v<|bL 3 .none::(rest []++(ax C y q u z::(I++[.list []])))):=by have c:=eq_nil (H:=bL 3 .none::(rest []++(ax C y q u z::(I++[.list []])))) (i:=9) (n:=I.length+11) rfl cU;exact am [(bk,V.ref 0)] rfl<|sk 3<|aj Q.m av rfl<|sk 2<|aj Q.m aG rfl<|sk 4<|aj Q.c c rfl rfl
end
end
def wK(f:H[i]? =some (.list l))(h:H[n]? =some (.list [])):cM .NotEq (.ref i) (.ref n) H=some (!Nat.beq l.length 0):=by show(on (same 39 H) H[i]? H[n]?).map (!·)=_;refine Y f<|Y h ?_;cases l<;>rfl
def to(h:l.length<1000000):ez hX i l [v] H=some (.ok .none<|H.set i<|.list<|l++[v]):=by show aw (cr<|l.length+1) _=_;exact Y (hv h) rfl
abbrev fO(m:Nat)(tl:Loc):Loc:=(h0,.ref 0)::(pX,.ref 1)::(oC,.ref<|m+2)::tl
section
variable{G:aq}
def LJ(he:es[k]? =some (.tup [.str ao,.str t]))(hm:G[m]? =some (.list<|N.map V.str))(h:N.length<1000000):bv O (j+40) 755 1 (.ref 0) k (fO m tl) (.list es::.list fd::G)=bv O (j+39) 755 1 (.ref 0) (k+1) (fO m<|put ku (.tup [.str ao,.str t]) tl) (.list es::.list fd::G.set m (.list<|(N++[t]).map V.str)):=by
 have f:=ee (x:=ku) (v:=.tup [.str ao,.str t]) (l:=tl);have u:=az some he;have e:ob (dp (au.list es::au.list fd::G)[m+2]?) (λl=>ez hX (m+2) l [.str t]<|.list es::.list fd::G)=some (.ok .none<|.list es::.list fd::G.set m (.list<|(N++[t]).map V.str)):=by show ob (dp G[m]?) _=_;refine Y hm ?_;show aw (cr<|(N.map V.str).length+1) _=_;refine Y (hv<|by rw[pS];exact h)<|Y List.map_append ?_;rfl
 have g:dx tab O none (.ref<|m+2) hX (.list es::.list fd::G)=some λD H=>ob (dp H[m+2]?) λl=>ez hX (m+2) l D H:=by show ob G[m]? _=_;exact Y hm rfl
 clear he h;exact e5 u<|sk 1<|aj Q.v f rfl<|sk 4<|aj Q.g g rfl<|aj Q.v f rfl<|sk 1<|aj Q.m e rfl rfl
def Hq(he:es[k]? =some (.tup<|.str kd::l))(aP:ar kd ao=false)(hm:G[m]? =some (.list []))(h:fd.length<1000000):bv O (j+40) 755 1 (.ref 0) k (fO m tl) (.list es::.list fd::G)=bv O (j+39) 755 1 (.ref 0) (k+1) (fO m<|put ku (.tup<|.str kd::l) tl) (.list es::.list (fd++[.tup<|.str kd::l])::(G++[.list []])):=by have f:=ee (x:=ku) (v:=.tup<|.str kd::l) (l:=tl);have u:=az some he;have c:=wK (H:=.list es::.list fd::(G++[.list []])) (i:=m+2) (n:=G.length+2) (l:=[]) (by show(G++[au.list []])[m]? =_;refine Y (dO (cc.mp hm).1) ?_;exact hm) cU;have a:=to (H:=.list es::.list fd::(G++[.list []])) (i:=1) (v:=.tup<|.str kd::l) h;clear he hm h;exact e5 u<|sk 1<|aj Q.v f rfl<|sk 1<|aj (λb=>Q.c<|some b) aP rfl<|sk 2<|aj Q.c c rfl<|sk 3<|aj Q.v f rfl<|aj Q.m a rfl rfl
def L7(he:es[k]? =some (.tup<|.str kd::l))(aP:ar kd ao=false)(hm:G[m]? =some (.list<|(p::N).map V.str))(h:fd.length+1<1000000)(z:b8 (p::N)<=1000000):bv O (j+40) 755 1 (.ref 0) k (fO m tl) (.list es::.list fd::G)=bv O (j+39) 755 1 (.ref 0) (k+1) (fO (G.length+1)<|put ku (.tup<|.str kd::l) tl) (.list es::.list (fd++[.tup [.str ao,.str<|jn []<|p::N]]++[.tup<|.str kd::l])::(G++[.list []]++[.list []])):=by
 have f:=ee (x:=ku) (v:=.tup<|.str kd::l) (l:=tl);have u:dI (.ref 0) k (.list es::.list fd::G)=some (some<|.tup<|.str kd::l):=az some he;have g:∀o:au,(G++[o])[m]? =some (.list<|(p::N).map V.str):=λo=>by refine Y (dO (cc.mp hm).1) ?_;exact hm
 have c:=wK (H:=.list es::.list fd::(G++[.list []])) (i:=m+2) (n:=G.length+2) (g _) cU;have c1:=sA (x:=[]) (H:=.list es::.list fd::(G++[.list []])) (i:=m+2) (l:=p::N) (g _)<|by show _+_*0<=_;refine Y (Nat.mul_zero ..) ?_;exact z
 have a:=to (H:=.list es::.list fd::(G++[.list []])) (i:=1) (v:=.tup [.str ao,.str<|jn []<|p::N])<|se h;have a1:=to (H:=.list es::.list (fd++[.tup [.str ao,.str<|jn []<|p::N]])::(G++[.list []]++[.list []])) (i:=1) (l:=fd++[.tup [.str ao,.str<|jn []<|p::N]]) (v:=.tup<|.str kd::l)<|by refine Y a0 ?_;exact h
 have e:(G++[au.list []]).length=G.length+1:=a0;have C:∀n,n=G.length+1->bv O (j+40) 755 1 (.ref 0) k (fO m tl) (.list es::.list fd::G)=bv O (j+39) 755 1 (.ref 0) (k+1) (fO n<|put ku (.tup<|.str kd::l) tl) (.list es::.list (fd++[.tup [.str ao,.str<|jn []<|p::N]]++[.tup<|.str kd::l])::(G++[.list []]++[.list []])):=by intro n y;obtain rfl:n=(G++[au.list []]).length:=y.trans e.symm;clear he hm h z g e y;exact e5 u<|sk 1<|aj Q.v f rfl<|sk 1<|aj (λb=>Q.c<|some b) aP rfl<|sk 2<|aj Q.c c rfl<|sk 5<|aj Q.m c1 rfl<|aj Q.m a rfl<|sk 3<|aj Q.v f rfl<|aj Q.m a1 rfl rfl
 exact C _ rfl
end
def lT.ne(o:lT):ar o.kd ao=false:=by cases o<;>rfl
def Ki:∀a b,b8 (a++b)=b8 a+b8 b:=by
 intro a;induction a with
 |nil=>intro b;exact(eT _).symm
 |cons x a f=>intro b;show x.length+b8 (a++b)=x.length+b8 a+b8 b;exact Y (f b)<|Y (cz ..) rfl
def mb(O:ap)(j:Nat)(es:List V)(k m:Nat)(tl:Loc)(fd:List cL)(G:aq)(out:List cL):Prop:=∃f h T u x,bv O (j+40) 755 1 (.ref 0) k (fO m tl) (.list es::.list (aD fd)::G)=some (.ok .next (fO T x)<|.list es::.list (aD f)::u)/\u[T]? =some (.list<|h.map V.str)/\f++dB h=out/\b8 h<=bf/\f.length<=2*es.length
def mb.step{G x:aq}(e:bv O (j+1+40) 755 1 (.ref 0) k (fO m tl) (.list es::.list (aD fd)::G)=bv O (j+40) 755 1 (.ref 0) (k+1) (fO T u) (.list es::.list (aD f)::x))(c:mb O j es (k+1) T u f x out):mb O (j+1) es k m tl fd G out:=by exact A5 c λa b c d t h r=>⟨a,b,c,d,t,e.trans h,r⟩
def Ly(W:es.length<=bf):∀l k m j fd N G tl,es.drop k=aD l->k<=es.length->l.length<=j->G[m]? =some (.list<|N.map V.str)->fd.length<=2*k->N.length<=k->b8 N+cN l<=bf->mb O j es k m tl fd G (fd++aJ l N):=by
 intro l;induction l with
 |nil=>intro k m j fd N G tl hd ab _ hm f _ h;have hl:=oR hd;refine⟨fd,N,m,G,tl,?_,hm,rfl,h,?_⟩;exact k4<|az some<|eQ hl;exact as f<|hK 2 ab
 |cons e r D=>
  intro k m j fd N G tl hd _ I hm f x h;obtain⟨j,rfl⟩:∃j',j=j'+1:=⟨j-1,(bx<|as (bT 1 _) I).symm⟩;refine c5 (gy (c:=e.aA) hd) λu z aP=>?_;have C:=iC I;have y:k<100000:=cB aP W;have aa:fd.length<=2*(k+1):=as f<|hK 2<|Nat.le_succ k;rcases e with t|o;refine mb.step (LJ u hm<|a7 x y<|by simp+arith) (D (k+1) m j fd (N++[t]) _ _ z aP C (pn (cc.mp hm).1) aa (by refine Y a0 ?_;exact fD x) ?_);exact Y (Ki ..)<|as (by show b8 N+(t.length+0)+cN r<=b8 N+(t.length+cN r);rw[Nat.add_zero,cz];exact ba _) h
  .have T:=o.ne;have E:(aD fd).length<=2*k:=by refine Y (j4 ..) ?_;exact f
   rcases N with _|⟨p,N⟩
   .have e1:aD fd++[V.tup<|.str o.kd::o.l]=aD (fd++[.ot o]):=by exact Y (oB ..) rfl
    have L:=Hq (O:=O) (j:=j+1) (tl:=tl) u T hm (fd:=aD fd)<|cT y y E<|by simp+arith
    rw[e1]at L;have c:=D (k+1) m j (fd++[.ot o]) [] (G++[.list []]) (put ku (.tup<|.str o.kd::o.l) tl) z aP C (by refine Y (dO (cc.mp hm).1) ?_;exact hm) (by refine Y a0 ?_;show _+1<=_;exact aR f<|by simp+arith) (bJ _)<|as (a4 rfl) h;rw[bq]at c;exact mb.step L c
   .have e1:aD fd++[V.tup [.str ao,.str<|jn []<|p::N]]++[V.tup<|.str o.kd::o.l]=aD (fd++(dB (p::N)++[.ot o])):=by exact Y (oB ..) (Y (bq ..) rfl)
    have J:b8 (p::N)+cN r<=100000:=h;have L:=L7 (O:=O) (j:=j+1) (tl:=tl) u T hm (fd:=aD fd) (cT y y E<|by simp+arith)<|aR J<|by simp+arith
    rw[e1]at L;have c:=D (k+1) (G.length+1) j (fd++(dB (p::N)++[.ot o])) [] (G++[.list []]++[.list []]) (put ku (.tup<|.str o.kd::o.l) tl) z aP C (by have:=cU (H:=G++[.list []]) (o:=.list []);rwa [a0]at this) (by refine Y a0 ?_;show _+2<=_;exact aR f<|by simp+arith) (bJ _)<|by show 0+cN r<=100000;exact aR J<|by simp+arith
    have U:fd++(dB (p::N)++[.ot o])++aJ r []=fd++aJ (.ot o::r) (p::N):=by exact Y (bq ..)<|Y (bq ..) rfl
    rw[U]at c;exact mb.step L c
section
variable{G:aq}
def SQ(l:bv O (j+59) 755 1 (.ref 0) 0 (fO 0 []) [au.list es,au.list [],au.list []]=some (.ok .next (fO m tl)<|au.list es::au.list (aD fd)::G))(hm:G[m]? =some (au.list [])):Do j O 755 [.ref 0] [au.list es] (.ref 1) (au.list es::au.list (aD fd)::(G++[au.list []])):=by have c:=eq_nil (H:=au.list es::au.list (aD fd)::(G++[au.list []])) (i:=m+2) (n:=G.length+2) (by show(G++[au.list []])[m]? =_;refine Y (dO (cc.mp hm).1) ?_;exact hm) cU;clear hm;exact am [(h0,V.ref 0)] rfl<|sk 3<|aj Q.s l rfl<|sk 1<|aj Q.c c rfl rfl
def KD(l:bv O (j+59) 755 1 (.ref 0) 0 (fO 0 []) [au.list es,au.list [],au.list []]=some (.ok .next (fO m tl)<|au.list es::au.list (aD fd)::G))(hm:G[m]? =some (au.list<|(p::N).map V.str))(h:b8 (p::N)<=1000000)(f:(aD fd).length+1<=1000000):Do j O 755 [.ref 0] [au.list es] (.ref<|(G++[au.list []]++[au.list [.tup [.str ao,.str<|jn []<|p::N]]]).length+2) (au.list es::au.list (aD fd)::(G++[au.list []]++[au.list [.tup [.str ao,.str<|jn []<|p::N]]]++[au.list<|aD fd++[.tup [.str ao,.str<|jn []<|p::N]]])):=by
 have g:(G++[au.list []])[m]? =some (au.list<|(p::N).map V.str):=by refine Y (dO (cc.mp hm).1) ?_;exact hm
 have c:=wK (H:=au.list es::au.list (aD fd)::(G++[au.list []])) (i:=m+2) (n:=G.length+2) g cU;have c1:=sA (x:=[]) (H:=au.list es::au.list (aD fd)::(G++[au.list []])) (i:=m+2) (l:=p::N) g<|by show _+_*0<=_;refine Y (Nat.mul_zero ..) ?_;exact h
 have b:bin .Add (.ref 1) (.ref<|(G++[au.list []]).length+2) (au.list es::au.list (aD fd)::(G++[au.list []]++[au.list [.tup [.str ao,.str<|jn []<|p::N]]]))=some (.ok (.ref<|(G++[au.list []]++[au.list [.tup [.str ao,.str<|jn []<|p::N]]]).length+2)<|au.list es::au.list (aD fd)::(G++[au.list []]++[au.list [.tup [.str ao,.str<|jn []<|p::N]]]++[au.list<|aD fd++[.tup [.str ao,.str<|jn []<|p::N]]])):=by show ob (dp (G++[au.list []]++[au.list [.tup [.str ao,.str<|jn []<|p::N]]])[(G++[au.list []]).length]?) _=_;refine Y cU ?_;show aw (cr<|(aD fd).length+1) _=_;exact Y (hv f) rfl
 clear hm g h f;exact am [(h0,V.ref 0)] rfl<|sk 3<|aj Q.s l rfl<|sk 1<|aj Q.c c rfl<|sk 4<|aj Q.m c1 rfl<|aj Q.m b rfl rfl
end
section
variable{X:List V->aq->M V}{H x:aq}{b:V}
def xZ(f:reach 4000 H (ck D) []=some J)(h:(gm J&&(cQ (λi=>bu i J) (ck D)&&dG (λi=>bu i J) H J))=true)(j:X (bF (λi=>bb i J) D) (ca (λi=>bb i J) H J)=some q):bD X D H=lV H J q:=by unfold bD;refine Y f ?_;show(match(gm J&&(cQ (λi=>bu i J) (ck D)&&dG (λi=>bu i J) H J))with|true=>ob (X (bF (λi=>bb i J) D)<|ca (λi=>bb i J) H J) (lV H J)|false=>none)=_;refine Y h ?_;show ob _ _=_;exact Y j rfl
def pW(n:Nat)(y:List Nat)(b:V)(x:aq):Bool:=Nat.ble n x.length&&(gm y&&(cQ (λi=>Nat.ble n i) y&&(cQ (ec n y) (c0 b)&&(dG (ec n y) x (upTo n [])&&dG (ec n y) x y))))
def tD(f:reach 4000 x (c0 b++cA x J.length) (upTo J.length [])=some kl)(e:kl.drop J.length=y)(h:pW J.length y b x=true):back H J b x k=k (bt H J y) (cn (bt H J y) H J x++ca (bt H J y) x y):=by unfold back;refine Y f ?_;show(match pW J.length (kl.drop J.length) b x with|true=>k (bt H J<|kl.drop J.length) (cn (bt H J<|kl.drop J.length) H J x++ca (bt H J<|kl.drop J.length) x (kl.drop J.length))|false=>none)=_;exact Y e<|Y h rfl
def cW(f:bu i done=false)(h:H[i]? =some o):reach (n+1) H (i::t) done=reach n H (bH o++t) (done++[i]):=by show(match bu i done with|true=>reach n H t done|false=>ob H[i]? λo=>reach n H (bH o++t)<|done++[i])=_;exact Y f<|Y h rfl
def CO:bu i [i]=true:=eV.mpr<|.head _
def vF:bb i [i]=0:=by show(match Nat.beq i i with|true=>0|false=>bb i []+1)=0;exact Y (eg ..) rfl
section
variable{i:Nat}{o o':au}{w:List V}(u:H[i]? =some o)(C:cC o)(E:aH w)
include u C E
theorem Au(aE:X (.ref 0::w) [o]=some q):bD X (.ref i::w) H=lV H [i] q:=by
 have r:ck (.ref i::w)=[i]:=by show[i]++ck w=_;exact Y E.1 rfl
 have c:dG (λj=>bu j [i]) H [i]=true:=by show(match H[i]? with|some o=>(match cQ (λj=>bu j [i]) (bH o)with|true=>dG (λj=>bu j [i]) H []|false=>false)|none=>false)=true;refine Y u ?_;show(match cQ (λj=>bu j [i]) (bH o)with|true=>true|false=>false)=true;exact Y C.1 rfl
 refine xZ ?_ ?_ ?_;exact Y r<|Y (cW rfl u)<|Y C.1 rfl;refine Y r (Y c ?_);show(cQ (λj=>bu j [i]) [i]&&true)=true;show((match bu i [i]with|true=>true|false=>false)&&true)=true;exact Y CO rfl;show X (.ref (bb i [i])::bF _ w) [(match H[i]? with|some o=>bn _ o|none=>.cell none)]=_;refine Y (E.2 ..)<|Y vF<|Y u ?_;show X _ [bn _ o]=_;exact Y (C.2 ..) aE
variable(h:cC o'){G:aq}
include h
theorem hB(f:gg b)(aE:X (.ref 0::w) [o]=some (.ok b<|o'::G)):bD X (.ref i::w) H=some (.ok b<|H.set i o'):=by
 refine Y (Au u C E aE) ?_;show back H [i] b (o'::G) (λρ H'=>some<|.ok (bl ρ b) H')=_;have t:c0 b++cA (o'::G) 1=[]:=by show c0 b++(bH o'++cA G 0)=[];refine Y f.1<|Y h.1 ?_;cases G<;>rfl
 have e:pW 1 [] b (o'::G)=true:=by show(true&&(true&&(true&&(cQ _ (c0 b)&&((match cQ _ (bH o')with|true=>true|false=>false)&&true)))))=true;exact Y f.1<|Y h.1 rfl
 refine(tD (J:=[i]) (H:=H) (kl:=[0]) (y:=[]) (by show reach 4000 _ (c0 b++cA (o'::G) 1) _=_;exact Y t rfl) rfl e).trans ?_;show some (R.ok (bl _ b)<|H.set i (bn _ o')++[])=_;exact Y (f.2 ..)<|Y (h.2 ..)<|Y (be ..) rfl
theorem Ci{f:Nat->V}(b1:∀n,c0 (f n)=[n])(x:∀z n,bl z (f n)=f (z n))(k:G[r]? =some p)(j:cC p)(aE:X (.ref 0::w) [o]=some (.ok (f<|r+1)<|o'::G)):bD X (.ref i::w) H=some (.ok (f H.length)<|H.set i o'++[p]):=by
 refine Y (Au u C E aE) ?_;show back H [i] (f<|r+1) (o'::G) (λρ H'=>some<|.ok (bl ρ<|f<|r+1) H')=_;have t:cA (o'::G) 1=[]:=by show bH o'++cA G 0=[];refine Y h.1 ?_;cases G<;>rfl
 have c:dG (ec 1 [r+1]) (o'::G) [r+1]=true:=by show(match G[r]? with|some o=>(match cQ (ec 1 [r+1]) (bH o)with|true=>true|false=>false)|none=>false)=true;refine Y k ?_;show(match cQ (ec 1 [r+1]) (bH p)with|true=>true|false=>false)=true;exact Y j.1 rfl
 have m:ec 1 [r+1] (r+1)=true:=CO;have e:pW 1 [r+1] (f<|r+1) (o'::G)=true:=by show(true&&(true&&(true&&(cQ (ec 1 [r+1]) (c0<|f<|r+1)&&((match cQ _ (bH o')with|true=>true|false=>false)&&dG (ec 1 [r+1]) (o'::G) [r+1])))))=true;refine Y (b1 ..) ?_;show(true&&(true&&(true&&((match ec 1 [r+1] (r+1)with|true=>true|false=>false)&&((match cQ _ (bH o')with|true=>true|false=>false)&&dG (ec 1 [r+1]) (o'::G) [r+1])))))=true;exact Y c<|Y m<|Y h.1 rfl
 have D:reach 4000 (o'::G) (c0 (f<|r+1)++cA (o'::G) 1) [0]=some [0,r+1]:=by exact Y t<|Y (b1 ..)<|Y (show[r+1]++[]=[r+1] from rfl)<|Y (cW (i:=r+1) (H:=o'::G) rfl k)<|Y j.1 rfl
 refine(tD (J:=[i]) (H:=H) (kl:=[0,r+1]) (y:=[r+1]) D rfl e).trans ?_;show some (R.ok (bl (bt H [i] [r+1])<|f<|r+1)<|H.set i (bn _ o')++[match G[r]? with|some o=>bn _ o|none=>.cell none])=_;refine Y (x ..)<|Y (h.2 ..)<|Y k ?_;show some (R.ok (f<|H.length+bb (r+1) [r+1])<|H.set i o'++[bn _ p])=_;exact Y vF<|Y (j.2 ..) rfl
theorem Av(k:G[r]? =some p)(j:cC p)(aE:X (.ref 0::w) [o]=some (.ok (.ref<|r+1)<|o'::G)):bD X (.ref i::w) H=some (.ok (.ref H.length)<|H.set i o'++[p]):=Ci u C E h (f:=.ref) (λ_=>rfl) (λ_ _=>rfl) k j aE
end
end
structure Uf(H:aq)(todo done J:List Nat):Prop where
 sub:∀i,i∈done\/i∈todo->i∈J
 nd:done.Nodup->J.Nodup
 cl:∀k∈J,k∈done\/∃o,H[k]? =some o/\∀i∈bH o,i∈J
def lK:∀{n x done J},reach n H x done=some J->Uf H x done J:=by
 intro n;induction n with
 |zero=>exact λe=>nomatch e
 |succ n y=>
  intro x done J e;rcases x with _|⟨i,t⟩;obtain rfl:=aQ e;exact⟨λi h=>h.elim id λm=>(nomatch m),id,λk m=>.inl m⟩
  .have e:(match bu i done with|true=>reach n H t done|false=>ob H[i]? λo=>reach n H (bH o++t)<|done++[i])=some J:=e;revert e;rcases hm:bu i done;intro e;refine aK e λo u e=>?_;have c:=y e;have f:i∈J:=c.sub i<|.inl<|gu _<|.head _;refine⟨λk h=>h.elim (λm=>c.sub k<|.inl<|fq _ m) λm=>(bC.mp m).elim (λe=>e▸f) λm=>c.sub k<|.inr<|gu _ m,λnd=>c.nd<|iM.mpr ⟨nd,eo.mpr ⟨λm=>(nomatch m),.nil⟩,λa C b D z=>?_⟩,λk m=>?_⟩;clear u e c f;obtain rfl:=b9.mp D;rw[eV.mpr<|z▸C]at hm;exact ff<|hm.symm;rcases c.cl k m with h|h;rcases d0.mp h with h|h;exact .inl h;clear hm e f;obtain rfl:=b9.mp h;exact .inr ⟨o,u,λj m=>c.sub j<|.inr<|fq _ m⟩;exact .inr h;intro e;have c:=y e;exact⟨λk h=>h.elim (λm=>c.sub k<|.inl m) λm=>(bC.mp m).elim (λe=>c.sub k<|.inl<|e▸eV.mp hm) λm=>c.sub k<|.inr m,c.nd,c.cl⟩
def Ex:∀{l},l.Nodup->gm l=true:=by
 intro l;induction l with
 |nil=>intro _;exact rfl
 |cons k l f=>intro h;have h:=eo.mp h;show(match bu k l with|true=>false|false=>gm l)=true;exact Y (lj λe=>h.1<|eV.mp e)<|f h.2
def te:∀{l},(∀i∈l,z i=true)->cQ z l=true:=by
 intro l;induction l with
 |nil=>intro _;exact rfl
 |cons k l f=>intro h;show(match z k with|true=>cQ z l|false=>false)=true;exact Y (h k<|.head _)<|f λi m=>h i<|.tail _ m
def yd:∀{l},(∀k∈l,∃o,H[k]? =some o/\∀i∈bH o,z i=true)->dG z H l=true:=by
 intro l;induction l with
 |nil=>intro _;exact rfl
 |cons k l u=>intro h;refine aZ (h k<|.head _) λo f j=>?_;show(match H[k]? with|some o=>(match cQ z (bH o)with|true=>dG z H l|false=>false)|none=>false)=true;refine Y f ?_;show(match cQ z (bH o)with|true=>dG z H l|false=>false)=true;exact Y (te j)<|u λk m=>h k<|.tail _ m
section
variable{X:List V->aq->M V}
def pp(f:reach 4000 H (ck D) []=some J)(h:X (bF (λi=>bb i J) D) (ca (λi=>bb i J) H J)=some q):bD X D H=lV H J q:=by have c:=lK f;refine xZ f ?_ h;rw[Ex<|c.nd .nil,te λi m=>eV.mpr<|c.sub i<|.inr m,yd λk m=>?_];rfl;exact aZ ((c.cl k m).resolve_left λm=>nomatch m) λo f j=>a8 o f λi m=>eV.mpr<|j i m
def k8:∀{n l},i∈upTo n l->i<n\/i∈l:=by
 intro n;induction n with
 |zero=>intro _ h;exact .inr h
 |succ n f=>intro l h;exact(f (l:=n::l) h).elim (λh=>.inl<|Nat.lt_succ_of_lt h) λm=>(bC.mp m).elim (λe=>.inl<|e▸o0 _) .inr
def jw:∀{n l},(upTo n l).length=n+l.length:=by
 intro n;induction n with
 |zero=>intro _;exact(eT _).symm
 |succ n f=>intro l;exact(f (l:=n::l)).trans<|by show n+(l.length+1)=_;exact Y (cF l.length ..)<|Y (cz ..).symm rfl
def lf:∀{n l},(∀i∈l,n<=i)->l.Nodup->(upTo n l).Nodup:=by
 intro n;induction n with
 |zero=>intro _ _ h;exact h
 |succ n f=>intro l h nd;exact f (l:=n::l) (λi m=>(bC.mp m).elim (λe=>a4 e.symm) λm=>oy<|h i m)<|eo.mpr ⟨λm=>n9 _<|h n m,nd⟩
theorem wm:∀{H n i},i<n->H[i]? =some o->j∈bH o->j∈cA H n
 |[],_,_,_,e,_=>nomatch e|_::_,0,_,h,_,_=>absurd h<|hy _
 |p::H,n+1,0,_,e,m=>by obtain rfl:=aQ e;exact fq _ m
 |p::H,n+1,i+1,h,e,m=>gu _<|wm (Nat.lt_of_succ_lt_succ h) e m
def m'(z:reach 4000 x (c0 b++cA x J.length) (upTo J.length [])=some (upTo J.length []++y))(u:J.length<=x.length):back H J b x k=k (bt H J y) (cn (bt H J y) H J x++ca (bt H J y) x y):=by
 have c:=lK z;have nd:=iM.mp<|c.nd<|lf (λi m=>nomatch m) .nil;have C:∀i∈y,J.length<=i:=λi m=>(dE i J.length).elim (λh=>absurd rfl<|nd.2.2 i (mem_upTo<|.inl h) i m) id;have gi:∀i,i∈upTo J.length []++y->ec J.length y i=true:=λi m=>by show(match Nat.blt i J.length with|true=>true|false=>bu i y)=true;rcases d0.mp m with m|m;exact Y (dw<|(k8 m).resolve_right λm=>nomatch m) rfl;refine Y (eV.mpr m) ?_;cases Nat.blt i J.length<;>rfl
 refine tD z ?_ ?_;exact(az (λn=>List.drop n<|upTo J.length []++y) (jw (l:=[])).symm).trans tO
 .unfold pW;rw[ia u,Ex nd.2.1,te λi m=>ia<|C i m,te λi m=>gi i<|c.sub i<|.inr<|fq _ m,yd λk m=>?_,yd λk m=>?_];rfl
  rotate_left
  have aP:=(k8 m).resolve_right λm=>nomatch m;obtain⟨o,e⟩:∃o,x[k]? =some o:=⟨_,dA<|cB aP u⟩;exact a8 o e λi m=>gi i<|c.sub i<|.inr<|gu _<|wm aP e m;rcases c.cl k (gu _ m)with h|⟨o,f,j⟩;exact absurd rfl<|nd.2.2 k h k m;exact a8 o f λi m=>gi i<|j i m
end
theorem kY:∀{T n},(∀k∈T,k∈done)->T.length<n->reach n H T done=some done
 |[],n+1,_,_=>rfl|_,0,_,h=>absurd h<|hy _
 |k::T,n+1,h,l=>by show(match bu k done with|true=>reach n H T done|false=>ob H[k]? λo=>reach n H (bH o++T)<|done++[k])=_;exact Y (eV.mpr<|h k<|.head _)<|kY (λi m=>h i<|.tail _ m)<|Nat.lt_of_succ_lt_succ l
noncomputable def c7:List (List Nat×Nat)->Nat->List Nat|[],_=>[]|_::l,i=>i::(i+1)::c7 l (i+2)
def At(H:aq)(i:Nat)(l:aq):Prop:=∀m o,l[m]? =some o->H[i+m]? =some o
def At.hd{l:aq}(h:At H i<|o::l):H[i]? =some o:=h 0 o rfl
def At.tl{l:aq}(h:At H i<|o::l):At H (i+1) l:=λm p e=>by refine Y (cz ..)<|Y (cF 1 ..) ?_;exact h (m+1) p e
def lH(h:i∉l):bu i l=false:=lj λe=>h<|eV.mp e
def rL(h:k<i\/i+2*(n+1)<=k):k≠i/\k≠i+1:=by rcases h with h|h;exact⟨o7 h,o7<|Nat.lt_succ_of_lt h⟩;have f:=as (hO (by refine Y (gB ..) ?_;exact bT ..) i) h;exact⟨λe=>by rw[e]at f;exact Nat.not_succ_le_self _<|oy f,λe=>by rw[e]at f;exact Nat.not_succ_le_self _ f⟩
def nv:∀c ch i done,At H i (fo (c::ch) i)->(∀k∈done,k<i\/i+2*(ch.length+1)<=k)->reach (n+2*(ch.length+1)) H (i::T) done=reach n H T (done++c7 (c::ch) i):=by
 intro c ch;induction ch generalizing c with
 |nil=>intro i done a f;have j:=cW (n:=n+1) (t:=T) (lH λm=>(rL<|f i m).1 rfl) a.hd;have u:=cW (n:=n) (t:=T) (i:=i+1) (done:=done++[i]) (lH λm=>(d0.mp m).elim (λm=>(rL<|f _ m).2 rfl) λm=>pH i<|b9.mp m) a.tl.hd;refine(j.trans u).trans ?_;rw[bq];rfl
 |cons d ch x=>
  intro i done a f;have j:=cW (n:=n+2*(ch.length+1)+1) (t:=T) (lH λm=>(rL<|f i m).1 rfl) a.hd;have u:=cW (n:=n+2*(ch.length+1)) (t:=(i+2)::T) (i:=i+1) (done:=done++[i]) (lH λm=>(d0.mp m).elim (λm=>(rL<|f _ m).2 rfl) λm=>pH i<|b9.mp m) a.tl.hd;refine(j.trans u).trans<|(x d (i+2) _ a.tl.tl λk m=>?_).trans ?_
  .rcases d0.mp m with m|m;rcases d0.mp m with m|m;exact(f k m).imp (λh=>cB h<|bK ..) λh=>as (a4<|by exact Y (cz ..)<|Y (cF 2 ..) rfl) h;exact Y (b9.mp m)<|.inl<|Nat.lt_add_of_pos_right<|by decide
   exact Y (b9.mp m)<|.inl<|o0 _
  exact Y (bq ..)<|Y (bq ..) rfl
def u0:∀{ch i j},At H i (fo ch i)->(∀m,m<2*ch.length->ρ (i+m)=j+m)->ca ρ H (c7 ch i)=fo ch j:=by
 intro ch;induction ch with
 |nil=>intro _ _ _ _;exact rfl
 |cons c ch u=>
  intro i j a h;have e:=u (i:=i+2) (j:=j+2) a.tl.tl λm hm=>by
   have:=h (2+m)<|by refine Y cv<|Y (gB ..)<|Y (cF ..) ?_;exact Nat.add_lt_add_right hm 2
   rwa [<-cz,<-cz]at this
  show(match H[i]? with|some o=>bn ρ o|none=>.cell none)::(match H[i+1]? with|some o=>bn ρ o|none=>.cell none)::ca ρ H (c7 ch<|i+2)=_;refine Y e<|Y a.hd<|Y a.tl.hd ?_;have k:=h 1<|by refine Y cv<|Y (gB ..) ?_;exact cB (by decide)<|bT 2 _
  rcases ch with _|⟨d,ch⟩;show au.exc 150 (some<|ρ<|i+1) none::_=_;exact Y k rfl;have f:=h 2 (by refine Y cv<|Y cv<|Y (gB ..)<|Y (gB ..) ?_;exact cB (by decide)<|bT 4 _);show au.exc 150 (some<|ρ<|i+1) (some<|ρ<|i+2)::_=_;exact Y k<|Y f rfl
def xc:∀{ch i},(c7 ch i).length=2*ch.length:=by
 intro ch;induction ch with
 |nil=>intro _;exact rfl
 |cons _ ch f=>intro i;exact az (·+2)<|f (i:=i+2)
def DY:∀{ch i m},m<2*ch.length->bb (i+m) (c7 ch i)=m:=by
 intro ch;induction ch with
 |nil=>intro _ _ h;exact absurd h<|hy _
 |cons c ch f=>
  intro i m h;show(match Nat.beq i (i+m)with|true=>0|false=>(match Nat.beq (i+1) (i+m)with|true=>0|false=>bb (i+m) (c7 ch<|i+2)+1)+1)=m;match m with
  |0=>exact Y (Nat.add_zero ..)<|Y (eg ..) rfl
  |1=>exact Y (iI<|o7<|o0 i)<|Y (eg ..) rfl
  |m+2=>
   have e:bb (i+2+m) (c7 ch<|i+2)=m:=f<|by rw[cv,gB]at h;exact Nat.lt_of_add_lt_add_right h
   exact Y (iI<|o7<|Nat.lt_add_of_pos_right<|lQ _)<|Y (iI<|o7<|Nat.add_lt_add_left (Nat.lt_add_of_pos_left<|lQ _) i)<|Y (show i+(m+2)=i+2+m by rw[cz,cF m])<|Y e rfl
noncomputable def fX:aq->List (List Nat)|[]=>[]|o::H=>bH o::fX H
noncomputable def qR(n:Nat)(g:List<|List Nat)(f done:List Nat):Option (List Nat):=match n with
 |0=>none
 |n+1=>match f with
  |[]=>some done
  |i::t=>match bu i done with|true=>qR n g t done|false=>ob g[i]? λr=>qR n g (r++t)<|done++[i]
def G5{i:Nat}:∀{H},(fX H)[i]? =H[i]?.map bH:=by
 intro H;induction H generalizing i with
 |nil=>rfl|cons o H f=>rcases i with _|i;rfl;exact f
def mU:∀{n t d},reach n H t d=qR n (fX H) t d:=by
 intro n;induction n with
 |zero=>exact rfl|succ n f=>intro t d;rcases t with _|⟨i,t⟩;rfl;show(match bu i d with|true=>reach n H t d|false=>ob H[i]? λo=>reach n H (bH o++t)<|d++[i])=(match bu i d with|true=>qR n (fX H) t d|false=>ob (fX H)[i]? λr=>qR n (fX H) (r++t)<|d++[i]);refine Y G5 ?_;rcases bu i d;rcases H[i]? with _|o;rfl;exact f;exact f
noncomputable def gX:au:=.exc 150 none none
noncomputable def jU(i:Nat):au:=.exc 150 (some i) none
def nV{H:aq}{a:au}:(H++[a]).set H.length b=H++[b]:=by exact Y (pT _ _<|ba _)<|Y (er ..) rfl
def iF{H:aq}:(H++[a,b])[H.length]? =some a:=by refine Y (dr<|ba _)<|Y (er ..) ?_;rfl
def BB{H:aq}:(H++[a,b])[H.length+1]? =some b:=by refine Y (dr<|bK ..)<|Y (ew ..) ?_;rfl
section
variable{O:ap}{pl:Nat}
def OY:aF (j+60) tab O hd (.fn 126) [.ref H.length,.str k] (H++[gX])=some (.ok .none<|H++[jU<|H.length+1,.dict [(dN,.str k)]]):=by
 have e:m9 tab [.ref H.length,.str k] (H++[gX])=some (.ok .none<|H++[gX]):=by show ob (H++[gX])[H.length]? _=_;exact Y cU rfl
 have g:(H++[gX])[H.length]? =some gX:=cU;have s:∀loc,jA tab dN (.str k) loc H.length (H++[gX]) gX=some (.ok .next loc<|H++[jU<|H.length+1,.dict [(dN,.str k)]]):=λloc=>by show some (RS.ok .next loc<|(H++[gX]).set H.length (.exc 150 (some (H++[gX]).length) none)++[.dict [(dN,.str k)]])=_;exact Y nV<|Y a0<|Y (bq ..) rfl
 exact am [(bk,V.ref<|List.length H),(dN,V.str k)] rfl<|sk 4<|aj Q.m e rfl<|sk 2<|aj Q.o g rfl<|aj Q.s (s _) rfl rfl
def OB(m:O hd (.fn 126) [.ref H.length,.str k] (H++[gX])=some (.ok .none<|H++[jU<|H.length+1,.dict [(dN,.str k)]])):aF (j+60) tab O hd (.fn 147) [.ref H.length,.str k,.int pl] (H++[gX])=some (.ok .none<|H++fo [(k,pl)] H.length):=by
 have g:(H++[jU<|H.length+1,.dict [(dN,.str k)]])[H.length]? =some (jU<|H.length+1):=iF;have s:∀loc,jA tab b7 (.int pl) loc H.length (H++[jU<|H.length+1,.dict [(dN,.str k)]]) (jU<|H.length+1)=some (.ok .next loc<|H++fo [(k,pl)] H.length):=λloc=>by show cE (jD (H++[jU<|H.length+1,.dict [(dN,.str k)]])[H.length+1]?) _=_;refine Y BB ?_;show some (RS.ok .next loc<|(H++[jU<|H.length+1,.dict [(dN,.str k)]]).set (H.length+1) _)=_;exact Y (pT _ _<|bK ..)<|Y (ew ..) rfl
 exact am [(bk,V.ref<|List.length H),(dN,V.str k),(b7,V.int ↑pl)] rfl<|sk 4<|aj Q.m m rfl<|sk 2<|aj Q.o g rfl<|aj Q.s (s _) rfl rfl
end
noncomputable def rH:List Nat:=[109,97,114,107,117,112,32,119,105,116,104,111,117,116,32,97,110,32,101,110,100,44,32,111,114,32,110,111,110,101,32,97,116,32,97,108,108]
noncomputable def nD:List Nat:=[115,111,109,101,116,104,105,110,103,32,111,117,116,115,105,100,101,32,111,102,32,116,104,101,32,111,117,116,101,114,109,111,115,116,32,101,108,101,109,101,110,116]
noncomputable def pb:List Nat:=[97,32,116,101,120,116,32,111,117,116,115,105,100,101,32,111,102,32,116,104,101,32,111,117,116,101,114,109,111,115,116,32,101,108,101,109,101,110,116]
noncomputable def nG:List Nat:=[97,32,115,105,103,110,32,116,104,97,116,32,105,115,32,110,111,116,32,108,101,116]
noncomputable def qK:List Nat:=[93,93,62,32,119,105,116,104,105,110,32,97,32,116,101,120,116]
abbrev fQ(O:ap):Prop:=∀(hd:Option Nat)(k:List Nat)(pl:Nat)(H:aq),bP tab O hd (.fn 150) [.str k,.int pl] H=some (.ok (.ref H.length)<|H++fo [(k,pl)] H.length)
def Iv{O:ap}(h:∀(hd:Option Nat)(k:List Nat)(pl:Nat)(H:aq),O hd (.fn 147) [.ref H.length,.str k,.int pl] (H++[gX])=some (.ok .none<|H++fo [(k,pl)] H.length)):fQ O:=λhd k pl H=>by show bd (O hd (.fn 147) [.ref H.length,.str k,.int pl]<|H++[gX]) (xX H.length)=_;exact Y (h ..) rfl
def re(c:List Nat×Nat)(p i n:Nat):aq:=[.exc 150 (some<|n+1)<|some i,.dict [(dN,.str c.1),(b7,.int (p+c.2:Nat))]]
section
variable{O:ap}{st p:Nat}{tx:List Nat}{cf:List V}
def IE(c:fQ O):aF (j+60) tab O none (.fn 875) [.ref 0,.str cP,.str tx,.int p] (ak st nm (ax x k q h f) [])=some (.exc 11<|ak st nm (ax x k q h f)<|fo [(rH,p)] 11):=by have C:=c none rH p<|ak st nm (ax x k q h f) [];clear c;exact am [(bk,V.ref 0),(eF,V.str cP),(bc,V.str tx),(b7,V.int ↑p)] rfl<|sk 5<|aj Q.m C rfl rfl
def Nn(aP:ar kd cP=false)(m:O none (.fn 790) [.ref 1,.str kd,.str tx,.int ((0:Nat):Int)] (ak 2 nm (ax x k q h f) [])=some (.ok (.ref 11)<|ak 2 [] (ax x k q h f) [.list cf])):Do j O 875 [.ref 0,.str kd,.str tx,.int p] (ak 2 nm (ax x k q h f) []) (.ref 11) (ak 3 [] (ax x k q h f) [.list cf,.list []]):=by exact am [(bk,V.ref 0),(eF,V.str kd),(bc,V.str tx),(b7,V.int ↑p)] rfl<|sk 1<|aj (λb=>Q.c<|some b) aP rfl<|sk 11<|aj Q.m m rfl rfl
def MW(aP:ar kd cP=false)(m:O none (.fn 790) [.ref 1,.str kd,.str tx,.int ((0:Nat):Int)] (ak 2 nm (ax x k q h f) [])=some (.ok (.ref 11)<|ak 2 (a::l) (ax x k q h f) [.list cf])):Do j O 875 [.ref 0,.str kd,.str tx,.int p] (ak 2 nm (ax x k q h f) []) (.ref 11) (ak 2 (a::l) (ax x k q h f) [.list cf,.list []]):=by exact am [(bk,V.ref 0),(eF,V.str kd),(bc,V.str tx),(b7,V.int ↑p)] rfl<|sk 1<|aj (λb=>Q.c<|some b) aP rfl<|sk 11<|aj Q.m m rfl rfl
def Ii(aP:ar kd cP=false)(m:O none (.fn 790) [.ref 1,.str kd,.str tx,.int ((0:Nat):Int)] (ak 2 nm (ax x k q h f) [])=some (.exc 11<|ak 2 u (ax x k q h f)<|fo [c] 11))(cs:fQ O):aF (j+60) tab O none (.fn 875) [.ref 0,.str kd,.str tx,.int p] (ak 2 nm (ax x k q h f) [])=some (.exc 13<|ak 2 u (ax x k q h f)<|fo [c] 11++re c p 11 13):=by have C:=cs (some 11) c.1 (p+c.2)<|ak 2 u (ax x k q h f)<|fo [c] 11;clear cs;exact am [(bk,V.ref 0),(eF,V.str kd),(bc,V.str tx),(b7,V.int ↑p)] rfl<|sk 1<|aj (λb=>Q.c<|some b) aP rfl<|sk 11<|aj Q.m m rfl<|sk 8<|aj Q.m C rfl rfl
def PT(aP:ar kd cP=false)(m:O none (.fn 790) [.ref 1,.str kd,.str tx,.int ((0:Nat):Int)] (ak 2 nm (ax x k q h f) [])=some (.exc 11<|ak 2 u (ax x k q h f)<|fo [c,d] 11))(cs:fQ O):aF (j+60) tab O none (.fn 875) [.ref 0,.str kd,.str tx,.int p] (ak 2 nm (ax x k q h f) [])=some (.exc 15<|ak 2 u (ax x k q h f)<|fo [c,d] 11++re c p 11 15):=by have C:=cs (some 11) c.1 (p+c.2)<|ak 2 u (ax x k q h f)<|fo [c,d] 11;clear cs;exact am [(bk,V.ref 0),(eF,V.str kd),(bc,V.str tx),(b7,V.int ↑p)] rfl<|sk 1<|aj (λb=>Q.c<|some b) aP rfl<|sk 11<|aj Q.m m rfl<|sk 8<|aj Q.m C rfl rfl
def OZ(y:Nat.beq st 2=false)(aP:ar kd cP=false)(m:O none (.fn 882) [.ref 0,.str kd,.str tx,.int p] (ak st nm (ax x k q h f) [])=some (.ok v H')):Do j O 875 [.ref 0,.str kd,.str tx,.int p] (ak st nm (ax x k q h f) []) v H':=by exact am [(bk,V.ref 0),(eF,V.str kd),(bc,V.str tx),(b7,V.int ↑p)] rfl<|sk 1<|aj (λb=>Q.c<|some b) aP rfl<|sk 4<|aj (λb=>Q.c<|some b) y rfl<|sk 6<|aj Q.m m rfl rfl
def H9(y:Nat.beq st 2=false)(aP:ar kd cP=false)(m:O none (.fn 882) [.ref 0,.str kd,.str tx,.int p] (ak st nm (ax x k q h f) [])=some (.exc 11<|ak ae u (ax x k q h f)<|fo [c] 11))(cs:fQ O):aF (j+60) tab O none (.fn 875) [.ref 0,.str kd,.str tx,.int p] (ak st nm (ax x k q h f) [])=some (.exc 13<|ak ae u (ax x k q h f)<|fo [c] 11++re c p 11 13):=by have C:=cs (some 11) c.1 (p+c.2)<|ak ae u (ax x k q h f)<|fo [c] 11;clear cs;exact am [(bk,V.ref 0),(eF,V.str kd),(bc,V.str tx),(b7,V.int ↑p)] rfl<|sk 1<|aj (λb=>Q.c<|some b) aP rfl<|sk 4<|aj (λb=>Q.c<|some b) y rfl<|sk 6<|aj Q.m m rfl<|sk 8<|aj Q.m C rfl rfl
end
def dH(c:Nat):Bool:=(br [c] [32,9,10,13]).isSome
noncomputable def cD(p:Nat->Bool):List Nat->Option Nat|[]=>none|c::r=>match p c with|true=>(cD p r).map (·+1)|false=>some 0
noncomputable def inR(c:Nat):List (Nat×Nat)->Bool|[]=>false|q::l=>aB (Nat.blt c q.1) false<|aB (Nat.blt q.2 c) (inR c l) true
noncomputable def wv:List (Nat×Nat):=[(32,55295),(57344,65533),(65536,1114111)]
def gL(c:Nat):Bool:=aB (Nat.blt c 32) (dH c)<|inR c wv
noncomputable abbrev fm:V:=.tup [.tup [.int 32,.int 55295],.tup [.int 57344,.int 65533],.tup [.int 65536,.int 1114111]]
section
variable{c:Nat}
def TS:Do j O 56 [.str [c]] H (.bool<|dH c) H:=by have e:cM .In (.str [c]) (.str [32,9,10,13]) H=some (dH c):=rfl;revert e;rcases h:dH c;intro e;exact am [(hN,V.str [c])] rfl<|sk 2<|aj Q.c e rfl rfl;intro e;exact am [(hN,V.str [c])] rfl<|sk 2<|aj Q.c e rfl rfl
abbrev fY(c:Nat)(tl:Loc):Loc:=(vX,.int c)::(wJ,fm)::tl
def vi:bv O (j+59) 49 0 fm 0 (fY c []) H=aB (Nat.blt c 32) (some<|.ok (.ret<|.bool false) (fY c [(g7,.int 32),(hj,.int 55295)]) H) (aB (Nat.blt 55295 c) (bv O (j+58) 49 0 fm 1 (fY c [(g7,.int 32),(hj,.int 55295)]) H)<|some<|.ok (.ret<|.bool true) (fY c [(g7,.int 32),(hj,.int 55295)]) H):=by exact e5 rfl<|sk 3<|pJ (λ(C:Option RS)=>C) _ rfl (λf=>rfl) λf=>(sk 3<|wA (λ(C:MS)=>C) _ rfl (λh=>rfl) λh=>rfl)
def uQ:bv O (j+58) 49 0 fm 1 (fY c [(g7,v),(hj,w)]) H=aB (Nat.blt c 57344) (some<|.ok (.ret<|.bool false) (fY c [(g7,.int 57344),(hj,.int 65533)]) H) (aB (Nat.blt 65533 c) (bv O (j+57) 49 0 fm 2 (fY c [(g7,.int 57344),(hj,.int 65533)]) H)<|some<|.ok (.ret<|.bool true) (fY c [(g7,.int 57344),(hj,.int 65533)]) H):=by exact e5 rfl<|sk 3<|pJ (λ(C:Option RS)=>C) _ rfl (λf=>rfl) λf=>(sk 3<|wA (λ(C:MS)=>C) _ rfl (λh=>rfl) λh=>rfl)
def wo:bv O (j+57) 49 0 fm 2 (fY c [(g7,v),(hj,w)]) H=aB (Nat.blt c 65536) (some<|.ok (.ret<|.bool false) (fY c [(g7,.int 65536),(hj,.int 1114111)]) H) (aB (Nat.blt 1114111 c) (some<|.ok .next (fY c [(g7,.int 65536),(hj,.int 1114111)]) H)<|some<|.ok (.ret<|.bool true) (fY c [(g7,.int 65536),(hj,.int 1114111)]) H):=by have e:bv O (j+56) 49 0 fm 3 (fY c [(g7,.int 65536),(hj,.int 1114111)]) H=some (.ok .next (fY c [(g7,.int 65536),(hj,.int 1114111)]) H):=k4 rfl;exact Y e.symm<|e5 rfl<|sk 3<|pJ (λ(C:Option RS)=>C) _ rfl (λf=>rfl) λf=>(sk 3<|wA (λ(C:MS)=>C) _ rfl (λh=>e) λh=>rfl)
def n2(l:bv O (j+59) 49 0 fm 0 (fY c []) H=some (.ok (.ret b) loc H)):Do j O 49 [.int c,fm] H b H:=by exact am [(vX,V.int ↑c),(wJ,V.tup [V.tup [V.int 32,V.int 55295],V.tup [V.int 57344,V.int 65533],V.tup [V.int 65536,V.int 1114111]])] rfl<|sk 2<|aj Q.s l rfl rfl
def Ra(l:bv O (j+59) 49 0 fm 0 (fY c []) H=some (.ok .next loc H)):Do j O 49 [.int c,fm] H (.bool false) H:=by exact am [(vX,V.int ↑c),(wJ,V.tup [V.tup [V.int 32,V.int 55295],V.tup [V.int 57344,V.int 65533],V.tup [V.int 65536,V.int 1114111]])] rfl<|sk 2<|aj Q.s l rfl rfl
def Lv:Do j O 49 [.int c,fm] H (.bool<|inR c wv) H:=by have P:∀{b:Bool}{x y:Bool},(b=true->Do j O 49 [.int c,fm] H (.bool x) H)->(b=false->Do j O 49 [.int c,fm] H (.bool y) H)->Do j O 49 [.int c,fm] H (.bool<|aB b x y) H:=λk f=>cw (P:=λb=>Do j O 49 [.int c,fm] H (.bool b) H) k f;have s:∀{b:Bool}{m x y:MS}{C},m=aB b x y->b=C->m=aB C x y:=λh e=>e▸h;have z:∀{b:Bool}{X x y:MS}{C},b=C->aB false X (aB b x y)=aB C x y:=λe=>e▸rfl;refine P (λh=>n2<|s vi h) λk=>P (λf=>?_) λf=>n2<|(s vi k).trans<|z f;have e1:=(s (vi (O:=O) (H:=H) (j:=j)) k).trans<|z f;refine P (λh=>n2<|e1.trans<|s uQ h) λu=>P (λE=>?_) λE=>n2<|(e1.trans<|s uQ u).trans<|z E;have D:=(e1.trans<|s (uQ (O:=O) (H:=H) (j:=j)) u).trans<|z E;exact P (λh=>n2<|D.trans<|s wo h) λJ=>P (λI=>Ra<|(D.trans<|s wo J).trans<|z I) λI=>n2<|(D.trans<|s wo J).trans<|z I
def MT(m:dy O 49 [.int c,fm] H (.bool<|inR c wv) H):Do j O 63 [.str [c]] H (.bool<|gL c) H:=by have e:cM .In (.str [c]) (.str [32,9,10,13]) H=some (dH c):=rfl;unfold gL;exact am [(hN,V.str [c])] rfl<|sk 5<|pJ (λ(C:Bool)=>some<|R.ok (V.bool C) H) _ rfl (λf=>(sk 3<|aj Q.c e rfl rfl)) λf=>(sk 4<|aj Q.m m rfl rfl)
def um(h:H[i]? =some (.exc 150 a b))(loc):m7 tab none loc (.ref i) H=some (.exc i loc H):=by show cE (ob H[i]? λo=>ob (qI o) λp=>ob (bi p.1 tab.sub) λ_=>mX none i H p) _=_;exact Y h rfl
def p5{x:List Nat}(aE:x.drop k=c::r):dI (.an 0 (x.length:Nat)) k H=some (some<|.int k):=by have e:(0:Int)+(k:Int)=(k:Int):=oJ _;show some (match du (0+(k:Int)) (x.length:Nat)with|true=>some (V.int<|0+(k:Int))|false=>none)=_;refine Y e ?_;show some (match Nat.blt k x.length with|true=>_|false=>none)=_;exact Y (dw (gy aE).2.2) rfl
def uR{x:List Nat}(aE:x.drop k=[]):dI (.an 0 (x.length:Nat)) k H=some none:=by have e:(0:Int)+(k:Int)=(k:Int):=oJ _;show some (match du (0+(k:Int)) (x.length:Nat)with|true=>some (V.int<|0+(k:Int))|false=>none)=_;refine Y e ?_;show some (match Nat.blt k x.length with|true=>_|false=>none)=_;exact Y (kK<|oR aE) rfl
def mz(h:n<=bf):eN (.an 0 (n:Nat)) H=true:=by show(true&&dd (n:Int))=true;exact Y (j5<|as h pw) rfl
abbrev k9(x:List Nat)(p:Nat)(tl:Loc):Loc:=(bc,.str x)::(b7,.int p)::tl
def G6(aE:x.drop k=c::r)(m:dy O 63 [.str [c]] H (.bool true) H):bv O (j+40) 631 0 (.an 0 (x.length:Nat)) k (k9 x p tl) H=bv O (j+39) 631 0 (.an 0 (x.length:Nat)) (k+1) (k9 x p<|put cK (.int k) tl) H:=by have f:=p5 (H:=H) aE;have i:=hQ (H:=H) aE;have s:=ee (x:=cK) (v:=.int k) (l:=tl);clear aE;exact e5 f<|sk 3<|aj Q.v s rfl<|aj Q.m i rfl<|aj Q.m m rfl rfl
def Gx(aE:x.drop k=c::r)(m:dy O 63 [.str [c]] H (.bool false) H)(cs:fQ O):bv O (j+40) 631 0 (.an 0 (x.length:Nat)) k (k9 x p tl) H=some (.exc H.length (k9 x p<|put cK (.int k) tl)<|H++fo [(nG,p+k)] H.length):=by have f:=p5 (H:=H) aE;have i:=hQ (H:=H) aE;have s:=ee (x:=cK) (v:=.int k) (l:=tl);have C:=um (H:=H++fo [(nG,p+k)] H.length) iF;clear aE;exact e5 f<|sk 3<|aj Q.v s rfl<|aj Q.m i rfl<|aj Q.m m rfl<|sk 3<|aj Q.v s rfl<|sk 1<|aj Q.m (cs _ _ _ _) rfl<|aj Q.s (C _) rfl rfl
end
abbrev xL(O:ap):Prop:=∀(c:Nat)(H:aq),dy O 63 [.str [c]] H (.bool<|gL c) H
abbrev x6(O:ap):Prop:=∀(c:Nat)(H:aq),dy O 56 [.str [c]] H (.bool<|dH c) H
def Ends(H:aq)(m:MS)(l:Loc)(f:List Nat)(pl:Nat):Option Nat->Prop|none=>∃tl,m=some (.ok .next (l++tl) H)|some i=>∃loc,m=some (.exc H.length loc<|H++fo [(f,pl+i)] H.length)
def Ends.up(e:m=T)(h:Ends H T l f (pl+1) o):Ends H m l f pl (o.map (·+1)):=by rcases o with _|i;exact aU h λtl h=>⟨tl,e.trans h⟩;refine aU h λloc h=>?_;rw[cz,cF 1]at h;exact⟨loc,e.trans h⟩
section
variable{O:ap}{H:aq}
def SN(pZ:xL O)(cs:fQ O):∀r k j tl,x.drop k=r->r.length<=j->Ends H (bv O (j+40) 631 0 (.an 0 (x.length:Nat)) k (k9 x p tl) H) [(bc,.str x),(b7,.int p)] nG (p+k) (cD gL r):=by
 intro r;induction r with
 |nil=>exact λk j tl aE _=>⟨tl,k4<|uR aE⟩|cons c r u=>intro k j tl aE f;obtain⟨j,rfl⟩:∃y,j=y+1:=⟨j-1,(bx<|as (bT 1 _) f).symm⟩;have m:=pZ c H;show Ends H _ _ _ _<|match gL c with|true=>(cD gL r).map (·+1)|false=>some 0;revert m;rcases h:gL c;intro m;exact⟨_,Gx aE m cs⟩;intro m;exact Ends.up (G6 aE m)<|u (k+1) j _ (gy aE).2.1<|iC f
def mT(h:n<=bf):bP tab O none (.blt .range) [.int n] H=some (.ok (.an 0 (n:Nat)) H):=by show aw (dd (n:Int)) (rt (V.an 0 (n:Int)) H)=_;exact Y (j5<|as h pw) rfl
def M2(g:bP tab O none (.blt .range) [.int (x.length:Nat)] H=some (.ok (.an 0 (x.length:Nat)) H))(h:eN (.an 0 (x.length:Nat)) H=true)(l:bv O (j+59) 631 0 (.an 0 (x.length:Nat)) 0 (k9 x p []) H=some (.ok .next (k9 x p tl) H)):Do j O 631 [.str x,.int p] H .none H:=by exact am [(bc,V.str x),(b7,V.int ↑p)] rfl<|sk 4<|aj Q.m g rfl<|aj Q.b h rfl<|aj Q.s l rfl rfl
def FK(g:bP tab O none (.blt .range) [.int (x.length:Nat)] H=some (.ok (.an 0 (x.length:Nat)) H))(h:eN (.an 0 (x.length:Nat)) H=true)(l:bv O (j+59) 631 0 (.an 0 (x.length:Nat)) 0 (k9 x p []) H=some (.exc i loc H')):aF (j+60) tab O none (.fn 631) [.str x,.int p] H=some (.exc i H'):=by exact am [(bc,V.str x),(b7,V.int ↑p)] rfl<|sk 4<|aj Q.m g rfl<|aj Q.b h rfl<|aj Q.s l rfl rfl
def Cd(H:aq)(m:M V)(f:List Nat)(pl:Nat):Option Nat->Prop|none=>m=some (.ok .none H)|some i=>m=some (.exc H.length<|H++fo [(f,pl+i)] H.length)
def Nb(pZ:xL O)(cs:fQ O){p:Nat}(aE:x.length<=bf)(f:x.length<=j):Cd H (aF (j+60) tab O none (.fn 631) [.str x,.int p] H) nG p (cD gL x):=by have l:=SN (H:=H) pZ cs (x:=x) (p:=p) x 0 (j+19) [] rfl<|as f<|bK ..;have h:=mz (H:=H) aE;generalize cD gL x=o at l⊢;rcases o with _|i;exact aU l λtl l=>M2 (mT aE) h l;exact aU l λloc l=>FK (mT aE) h l
abbrev yr(O:ap):Prop:=∀(x:List Nat)(p:Nat)(H:aq),x.length<=bf->Cd H (O none (.fn 631) [.str x,.int p] H) nG p (cD gL x)
def ig(x:List Nat):Option (List Nat×Nat):=match cD gL x with
 |some i=>some (nG,i)
 |none=>match br [93,93,62] x with|some i=>some (qK,i)|none=>none
def ND{p:Nat}(m:dy O 631 [.str x,.int p] H .none H)(z:br [93,93,62] x=none):Do j O 762 [.str x,.int p] H .none H:=by
 have e:e' mJ x [.str [93,93,62]] H=some (.ok (.int<|g6 none) H):=by show rt (V.int<|g6<|br [93,93,62] x) H=_;exact Y z rfl
 exact am [(bc,V.str x),(b7,V.int ↑p)] rfl<|sk 3<|aj Q.m m rfl<|sk 2<|aj Q.m e rfl rfl
def FH{p:Nat}(m:dy O 631 [.str x,.int p] H .none H)(z:br [93,93,62] x=some i)(cs:fQ O):aF (j+60) tab O none (.fn 762) [.str x,.int p] H=some (.exc H.length<|H++fo [(qK,p+i)] H.length):=by
 have e:e' mJ x [.str [93,93,62]] H=some (.ok (.int (i:Nat)) H):=by show rt (V.int<|g6<|br [93,93,62] x) H=_;exact Y z rfl
 have C:=um (H:=H++fo [(qK,p+i)] H.length) iF;exact am [(bc,V.str x),(b7,V.int ↑p)] rfl<|sk 3<|aj Q.m m rfl<|sk 2<|aj Q.m e rfl<|sk 8<|aj Q.m (cs _ _ _ _) rfl<|aj Q.s (C _) rfl rfl
def R4{p:Nat}(m:O none (.fn 631) [.str x,.int p] H=some (.exc i H')):aF (j+60) tab O none (.fn 762) [.str x,.int p] H=some (.exc i H'):=by exact am [(bc,V.str x),(b7,V.int ↑p)] rfl<|sk 3<|aj Q.m m rfl rfl
def DT(H:aq)(m:M V)(pl:Nat):Option (List Nat×Nat)->Prop|none=>m=some (.ok .none H)|some c=>m=some (.exc H.length<|H++fo [(c.1,pl+c.2)] H.length)
def M8(vd:yr O)(cs:fQ O){p:Nat}(aE:x.length<=bf):DT H (aF (j+60) tab O none (.fn 762) [.str x,.int p] H) p (ig x):=by have m:=vd x p H aE;unfold ig;generalize cD gL x=o at m⊢;rcases o with _|i;rcases z:br [93,93,62] x with _|i;exact ND m z;exact FH m z cs;exact R4 m
def bO(nm:List V)(G:aq):aq:=.inst 828 [(eG,.ref 1),(eU,.ref 6),(iN,.ref 8)]::.inst 1070 [(el,.ref 2),(j1,.ref 3),(jH,.ref 4),(kO,.ref 5)]::.inst 921 [(iG,.int 20),(iQ,.int 100000)]::.dict []::.dict []::.dict []::.inst 377 [(el,.ref 2),(gT,.int 0),(gE,.ref 7)]::.list []::.list nm::G
def Sr(m:dy O 762 [.str x,.int ((0:Nat):Int)] (bO nm []) .none<|bO nm []):Do j O 790 [.ref 0,.str ao,.str x,.int ((0:Nat):Int)] (bO nm []) (.ref 9) (bO nm [.list [.tup [.str ao,.str x]]]):=by exact am [(bk,V.ref 0),(eF,V.str ao),(bc,V.str x),(b7,V.int ↑0)] rfl<|sk 6<|aj Q.m m rfl rfl
def JA(m:O none (.fn 762) [.str x,.int ((0:Nat):Int)] (bO nm [])=some (.exc i H')):aF (j+60) tab O none (.fn 790) [.ref 0,.str ao,.str x,.int ((0:Nat):Int)] (bO nm [])=some (.exc i H'):=by exact am [(bk,V.ref 0),(eF,V.str ao),(bc,V.str x),(b7,V.int ↑0)] rfl<|sk 6<|aj Q.m m rfl rfl
end
abbrev kv(x:List Nat)(tl:Loc):Loc:=(bk,.ref 0)::(bc,.str x)::(v9,.int 0)::tl
section
variable{O:ap}{H:aq}
def PB(aE:x.drop k=c::r)(m:dy O 56 [.str [c]] H (.bool true) H):bv O (j+40) 889 0 (.an 0 (x.length:Nat)) k (kv x tl) H=bv O (j+39) 889 0 (.an 0 (x.length:Nat)) (k+1) (kv x<|put cK (.int k) tl) H:=by have f:=p5 (H:=H) aE;have i:=hQ (H:=H) aE;have s:=ee (x:=cK) (v:=.int k) (l:=tl);clear aE;exact e5 f<|sk 3<|aj Q.v s rfl<|aj Q.m i rfl<|aj Q.m m rfl rfl
def J2(aE:x.drop k=c::r)(m:dy O 56 [.str [c]] H (.bool false) H)(cs:fQ O):bv O (j+40) 889 0 (.an 0 (x.length:Nat)) k (kv x tl) H=some (.exc H.length (kv x<|put cK (.int k) tl)<|H++fo [(pb,k)] H.length):=by have f:=p5 (H:=H) aE;have i:=hQ (H:=H) aE;have s:=ee (x:=cK) (v:=.int k) (l:=tl);have C:=um (H:=H++fo [(pb,k)] H.length) iF;clear aE;exact e5 f<|sk 3<|aj Q.v s rfl<|aj Q.m i rfl<|aj Q.m m rfl<|sk 2<|aj Q.v s rfl<|aj Q.m (cs _ _ _ _) rfl<|aj Q.s (C _) rfl rfl
def Kd(pE:x6 O)(cs:fQ O):∀r k j tl,x.drop k=r->r.length<=j->Ends H (bv O (j+40) 889 0 (.an 0 (x.length:Nat)) k (kv x tl) H) (kv x []) pb k (cD dH r):=by
 intro r;induction r with
 |nil=>exact λk j tl aE _=>⟨tl,k4<|uR aE⟩|cons c r u=>intro k j tl aE f;obtain⟨j,rfl⟩:∃y,j=y+1:=⟨j-1,(bx<|as (bT 1 _) f).symm⟩;have m:=pE c H;show Ends H _ _ _ _<|match dH c with|true=>(cD dH r).map (·+1)|false=>some 0;revert m;rcases h:dH c;intro m;exact⟨_,J2 aE m cs⟩;intro m;exact Ends.up (PB aE m)<|u (k+1) j _ (gy aE).2.1<|iC f
def zs(h:n<=bf):bP tab O none (.blt .range) [.int ((0:Nat):Int),.int n] H=some (.ok (.an 0 (n:Nat)) H):=by show aw (true&&dd (n:Int)) (rt (V.an 0 (n:Int)) H)=_;exact Y (j5<|as h pw) rfl
def HG(g:bP tab O none (.blt .range) [.int ((0:Nat):Int),.int (x.length:Nat)] H=some (.ok (.an 0 (x.length:Nat)) H))(h:eN (.an 0 (x.length:Nat)) H=true)(l:bv O (j+59) 889 0 (.an 0 (x.length:Nat)) 0 (kv x []) H=some (.ok .next (kv x tl) H)):Do j O 889 [.ref 0,.str x,.int ((0:Nat):Int)] H (.ref H.length) (H++[.list []]):=by exact am [(bk,V.ref 0),(bc,V.str x),(v9,V.int ↑0)] rfl<|sk 5<|aj Q.m g rfl<|aj Q.b h rfl<|aj Q.s l rfl rfl
def JR(g:bP tab O none (.blt .range) [.int ((0:Nat):Int),.int (x.length:Nat)] H=some (.ok (.an 0 (x.length:Nat)) H))(h:eN (.an 0 (x.length:Nat)) H=true)(l:bv O (j+59) 889 0 (.an 0 (x.length:Nat)) 0 (kv x []) H=some (.exc i loc H')):aF (j+60) tab O none (.fn 889) [.ref 0,.str x,.int ((0:Nat):Int)] H=some (.exc i H'):=by exact am [(bk,V.ref 0),(bc,V.str x),(v9,V.int ↑0)] rfl<|sk 5<|aj Q.m g rfl<|aj Q.b h rfl<|aj Q.s l rfl rfl
def BR(H:aq)(m:M V):Option Nat->Prop|none=>m=some (.ok (.ref H.length)<|H++[.list []])|some i=>m=some (.exc H.length<|H++fo [(pb,i)] H.length)
def TW(pE:x6 O)(cs:fQ O)(aE:x.length<=bf)(f:x.length<=j):BR H (aF (j+60) tab O none (.fn 889) [.ref 0,.str x,.int ((0:Nat):Int)] H) (cD dH x):=by have l:=Kd (H:=H) pE cs (x:=x) x 0 (j+19) [] rfl<|as f<|bK ..;have h:=mz (H:=H) aE;generalize cD dH x=o at l⊢;rcases o with _|i;obtain⟨tl,l⟩:=l;exact HG (zs aE) h l;obtain⟨loc,l⟩:=l;rw[eT]at l;exact JR (zs aE) h l
abbrev M9(O:ap):Prop:=∀(x:List Nat)(H:aq),x.length<=bf->BR H (O none (.fn 889) [.ref 0,.str x,.int ((0:Nat):Int)] H) (cD dH x)
variable{p:Nat}{tx:List Nat}{cf:List V}
def PH(m:O none (.fn 889) [.ref 0,.str<|c::tx,.int ((0:Nat):Int)] (ak 3 nm (ax x k q h f) [])=some (.ok (.ref 11)<|ak 3 nm (ax x k q h f) [.list []]))(u:Nat.beq p 0=false):Do j O 882 [.ref 0,.str ao,.str<|c::tx,.int p] (ak 3 nm (ax x k q h f) []) (.ref 11) (ak 3 nm (ax x k q h f) [.list []]):=by exact am [(bk,V.ref 0),(eF,V.str ao),(bc,V.str<|c::tx),(b7,V.int ↑p)] rfl<|sk 4<|aj (λb=>Q.c<|some b) u rfl<|sk 25<|aj Q.m m rfl rfl
def GR(m:O none (.fn 889) [.ref 0,.str<|c::tx,.int ((0:Nat):Int)] (ak 3 nm (ax x k q h f) [])=some (.exc i H'))(u:Nat.beq p 0=false):aF (j+60) tab O none (.fn 882) [.ref 0,.str ao,.str<|c::tx,.int p] (ak 3 nm (ax x k q h f) [])=some (.exc i H'):=by exact am [(bk,V.ref 0),(eF,V.str ao),(bc,V.str<|c::tx),(b7,V.int ↑p)] rfl<|sk 4<|aj (λb=>Q.c<|some b) u rfl<|sk 25<|aj Q.m m rfl rfl
def Lx(cs:fQ O):aF (j+60) tab O none (.fn 882) [.ref 0,.str d',.str<|c::tx,.int p] (ak 3 nm (ax x k q h f) [])=some (.exc 11<|ak 3 nm (ax x k q h f)<|fo [(nD,0)] 11):=by have C:=cs none nD 0<|ak 3 nm (ax x k q h f) [];clear cs;exact am [(bk,V.ref 0),(eF,V.str d'),(bc,V.str<|c::tx),(b7,V.int ↑p)] rfl<|sk 43<|aj Q.m C rfl rfl
def GF(cs:fQ O):aF (j+60) tab O none (.fn 882) [.ref 0,.str ge,.str<|c::tx,.int p] (ak 3 nm (ax x k q h f) [])=some (.exc 11<|ak 3 nm (ax x k q h f)<|fo [(nD,0)] 11):=by have C:=cs none nD 0<|ak 3 nm (ax x k q h f) [];clear cs;exact am [(bk,V.ref 0),(eF,V.str ge),(bc,V.str<|c::tx),(b7,V.int ↑p)] rfl<|sk 38<|aj Q.m C rfl rfl
def R7(m:O none (.fn 790) [.ref 1,.str d',.str<|c::tx,.int ((0:Nat):Int)] (ak 1 nm (ax x k q h f) [])=some (.ok (.ref 11)<|ak 1 (a::l) (ax x k q h f) [.list cf])):Do j O 882 [.ref 0,.str d',.str<|c::tx,.int p] (ak 0 nm (ax x k q h f) []) (.ref 11) (ak 2 (a::l) (ax x k q h f) [.list cf,.list []]):=by exact am [(bk,V.ref 0),(eF,V.str d'),(bc,V.str<|c::tx),(b7,V.int ↑p)] rfl<|sk 51<|aj Q.m m rfl rfl
end
noncomputable def vY:List Addr:=[582,596,610,755,790,847,868,875,854,861,918,1003,1081,1088,1100,1112,1119,1126,1131,1138,1145]
noncomputable def lO(hd:Option Nat)(z:Addr):Option Addr:=match hd with|none=>some z|some _=>none
def eK(hd:Option Nat):V->Option Addr|.fn z=>(match bu z vY with|true=>lO hd z|false=>none)|_=>none
noncomputable def NN:Nat:=200000
def DD(d:Nat):ap:=Nat.rec (λ_ _ _ _=>none) (λ_ O=>aF NN tab O) d
def hS(D:List V)(H:aq):M V:=bD (λD H=>aF NN tab (DD 40) none (.fn 790) D H) D H
def mn(D:List V):Bool:=match D with|_::a::_=>(match ek a with|some x=>!ar x ao|none=>false)|_=>false
def Nl(O:ap):ap:=λhd a D H=>match eK hd a with
 |some z=>(match Nat.beq z 790&&mn D with|true=>hS D H|false=>bD (λD H=>aF NN tab O none (.fn z) D H) D H)
 |none=>aF NN tab O hd a D H
def ay(d:Nat):ap:=Nat.rec (λ_ _ _ _=>none) (λ_ O=>Nl O) d
def K2(e:eK hd a=some z):hd=none/\a=.fn z:=by
 induction a using V.casesOn with
 |fn g=>have e:(match bu g vY with|true=>lO hd g|false=>none)=some z:=e;revert e;rcases h:bu g vY;intro e;exact aW e;intro e;rcases hd;obtain rfl:=aQ e;exact⟨rfl,rfl⟩;exact aW e
 |_=>exact aW e
section
variable{I:Program}{K:al}{B:Frag}(G:cu K tab B)(j:eM K tab)(M:fM I K)(af:hF I K)
include G j M af
theorem Le:∀d,de I K d (DD d):=by
 intro d;induction d with
 |zero=>exact⟨λ_ _ _ _ e=>nomatch e⟩|succ d f=>exact jF (mf (T:=tab) G j M af (f) NN) λh W _ _=>ta G h W
theorem s6(W:de I K d O)(e:bD (λD H=>aF NN tab O none (.fn z) D H) D H=some r):Good I K (d+1) none (.fn z) D H r:=by exact jF (mf (T:=tab) G j M af W NN) λh W _ _=>Jv (λD H r e=>by intro F loc f s u us;exact Good.run G h W e) e
theorem uF:∀d,de I K (41+d) (ay d):=by
 intro d;induction d with
 |zero=>exact⟨λ_ _ _ _ e=>nomatch e⟩
 |succ d O=>
  have N:=O;refine jF (mf (T:=tab) G j M af N NN) λaa W _ _=>⟨λ{F loc f H s a u D us r} E R J q e=>?_⟩;have e:(match eK F.hd a with
   |some z=>(match Nat.beq z 790&&mn D with|true=>hS D H|false=>bD (λD H=>aF NN tab (ay d) none (.fn z) D H) D H)
   |none=>aF NN tab (ay d) F.hd a D H)=some r:=e
  revert e;rcases h:eK F.hd a with _|z;intro e;exact(ta G aa W).call E R J q e
  .intro e;refine aS (K2 h) λk U=>?_;subst U;have e:(match Nat.beq z 790&&mn D with|true=>hS D H|false=>bD (λD H=>aF NN tab (ay d) none (.fn z) D H) D H)=some r:=e
   revert e;rcases y:(Nat.beq z 790&&mn D);intro e;exact fF (s6 G j M af N e E k R J q) λ_ _ x=>x.weak;intro e;refine zb y λC _=>?_;obtain rfl:=cd C;exact fF (s6 G j M af (Le G j M af 40) (z:=790) e (E.mono<|bK 41 _) k R J q) λ_ _ x=>x.weak
end
section
variable(d:Nat)
theorem gK:Ez (ay<|d+1):=λ_ _ _=>TF (O:=ay d) (j:=199940)
theorem ru{k:Nat}(H)(aE:x.drop k=r)(h:Nat.ble 1 w.length=true):dy (ay<|d+1) 512 [.str x,.str w,.int k] H (oK k<|iH r w) H:=TP (O:=ay d) (j:=199940) aE h
theorem gU:rQ (ay<|d+2):=λ_ aE aP h f=>Gw (O:=ay<|d+1) (j:=199940) (ru d) aE aP h f
theorem sT(h:n<=bf):n<=199940:=as h<|by decide
theorem Cg{x:List Nat}(aE:x.drop k=r):r.length<=x.length:=by refine Y aE.symm<|Y b0 ?_;exact gj ..
theorem nu:v6 (ay<|d+1):=λ_ aE aP hm bo=>Jt (O:=ay d) (j:=199940) aE aP bo<|sT<|as (Cg aE) hm
theorem vU:Ax (ay<|d+3):=λ_ aE aP hd he f=>NX (O:=ay<|d+2) (j:=199940) (gU d) aE aP hd he f
theorem mi:wW (ay<|d+4):=λ_ aE aP hm p f o=>Mj (O:=ay<|d+3) (j:=199940) aE aP hm p (gK<|d+2) (gU<|d+1) (nu<|d+2) (vU d) f o
theorem kf:DL (ay<|d+1):=λ_ aE hm=>If (O:=ay d) (j:=199940) aE<|sT<|as (Cg aE) hm
theorem n4:EL (ay<|d+1):=λ_ aE aP=>M3 (O:=ay d) (j:=199940) aE aP
theorem cX:nT (ay<|d+1):=λ_ aE aP hm he=>O1 (O:=ay d) (j:=199940) aE aP hm he
theorem ll:xH (ay<|d+2):=λ_ aE aP hm=>FL (O:=ay<|d+1) (j:=199940) (kf d) (n4 d) (cX d) aE aP hm
theorem kQ:vJ (ay<|d+1):=λ_ aE=>Ou (O:=ay d) (j:=199940) aE
theorem pE:x6 (ay<|d+1):=λ_ _=>TS (O:=ay d) (j:=199940)
theorem pZ:xL (ay<|d+2):=λ_ _=>MT (O:=ay<|d+1) (j:=199940)<|Lv (O:=ay d) (j:=199940)
theorem cs:fQ (ay<|d+2):=Iv λhd k pl H=>OB (O:=ay<|d+1) (j:=199940)<|OY (O:=ay d) (j:=199940)
theorem vd:yr (ay<|d+3):=λ_ _ _ aE=>Nb (O:=ay<|d+2) (j:=199940) (pZ d) (cs d) aE<|sT aE
theorem Co(x)(p:Nat)(H)(aE:x.length<=bf):DT H (ay (d+4) none (.fn 762) [.str x,.int p] H) p (ig x):=M8 (O:=ay<|d+3) (j:=199940) (vd d) (cs<|d+1) aE
theorem L0:M9 (ay<|d+3):=λ_ _ aE=>TW (O:=ay<|d+2) (j:=199940) (pE<|d+1) (cs d) aE<|sT aE
theorem cg(s:Seen):cC (ax x k p h s.aA):=by cases s<;>exact⟨rfl,λ_=>rfl⟩
theorem BW:gg (oX p r t):=by obtain⟨kd,e⟩:=t;cases kd<;>exact⟨rfl,λ_=>rfl⟩
theorem CF:OC (ay<|d+3):=λ{st nm x r h I k p s aa} G aE aP hm u=>hB (X:=λD H=>aF NN tab (ay<|d+2) none (.fn 582) D H) (i:=10) (w:=[.str I]) rfl (cg s) (.cons .str .nil) (cg s) .none (R1 (O:=ay<|d+2) (j:=199940) (G:=[]) (f:=s.aA) (kQ<|d+1) aE aP hm u)
theorem AM:JJ (ay<|d+3):=λ{st nm x h k p s aa} G hm u=>hB (X:=λD H=>aF NN tab (ay<|d+2) none (.fn 596) D H) (i:=10) (w:=[]) rfl (cg s) .nil (cg s) .none (Ug (O:=ay<|d+2) (j:=199940) (G:=[]) (f:=s.aA) (kQ<|d+1) hm u)
theorem Mc:wO (ay<|d+5):=λ{st nm x r h k p s} E G aE aP hm o=>hB (X:=λD H=>aF NN tab (ay<|d+4) none (.fn 610) D H) (i:=10) (w:=[.bool E]) rfl (cg s) (.cons .bool .nil) (cg (bM r s E).2.2) BW (yg (O:=ay<|d+4) (j:=199940) (G:=[]) (mi d) (gU<|d+2) (cX<|d+3) (ll<|d+2) aE aP hm<|u9 o)
end
section
variable{aa:Nat->Prop}{z g h:Nat->Nat}(c:∀i,aa i->g (z i)=h i)
include c
mutual
theorem tG:∀{a:V},ib aa a->bl g (bl z a)=bl h a
 |.tup _,k=>az V.tup<|tc k
 |.ref _,k=>az V.ref<|c _ k
 |.bm _ _,k=>az (V.bm _)<|c _ k
 |.bY _ _ cl,k=>by show V.bY _ _ ((cl.map λp=>(p.1,z p.2)).map λp=>(p.1,g p.2))=V.bY _ _ (cl.map λp=>(p.1,h p.2));exact Y List.map_map<|az (V.bY _ _)<|List.map_congr_left λp m=>az (Prod.mk p.1)<|c _<|k p m
 |.none,_=>rfl|.bool _,_=>rfl|.int _,_=>rfl|.str _,_=>rfl|.fn _,_=>rfl|.blt _,_=>rfl|.an _ _,_=>rfl
theorem tc:∀{l:List V},ij aa l->bF g (bF z l)=bF h l|[],_=>rfl|_::_,k=>by show bl g (bl z _)::bF g (bF z _)=bl h _::bF h _;exact Y (tG k.1)<|Y (tc k.2) rfl
end
theorem EQ:∀{l},j9 aa l->f9 g (f9 z l)=f9 h l:=by
 intro l;induction l with
 |nil=>intro _;exact rfl
 |cons j u f=>rcases j with⟨_,_⟩;intro k;show(_,bl g<|bl z _)::f9 g (f9 z _)=(_,bl h _)::f9 h _;exact Y (tG c k.1)<|Y (f k.2) rfl
theorem wr(k:je aa o):bn g (bn z o)=bn h o:=by
 rcases o with l|⟨E,f⟩|⟨E,j,x⟩|f|v;exact az au.list<|tc c k;exact az (au.inst E)<|EQ c k
 .have e:∀j:Option Nat,(∀i,j=some i->aa i)->(j.map z).map g=j.map h:=λj k=>by rcases j with _|i;rfl;exact az some<|c i<|k i rfl
  show au.exc E ((j.map z).map g) ((x.map z).map g)=au.exc E (j.map h) (x.map h);exact Y (e j k.1)<|Y (e x k.2) rfl
 exact az au.dict<|EQ c k;rcases v with _|a;rfl;exact az (λa=>au.cell<|some a)<|tG c<|k a rfl
end
noncomputable def df(H:aq)(J:List Nat)(i:Nat):Nat:=match J[i]? with|some k=>k|none=>H.length+(i-J.length)
noncomputable def io(ρ:Nat->Nat):aq->aq|[]=>[]|o::H=>bn ρ o::io ρ H
noncomputable def qB:Nat->aq->aq|0,H=>H|n+1,H=>match H with|[]=>[]|_::H=>qB n H
def mQ(H:aq)(J:List Nat)(x:aq):aq:=cn (df H J) H J x++io (df H J) (qB J.length x)
def Ru(H:aq)(J:List Nat):R V->R V
 |.ok b x=>.ok (bl (df H J) b)<|mQ H J x
 |.exc i x=>.exc (df H J i)<|mQ H J x
theorem C3:∀{l H A B},l.length<=A.length->l.length<=B.length->(∀i,i<l.length->∀o p,A[i]? =some o->B[i]? =some p->bn ρ o=bn j p)->cn ρ H l A=cn j H l B
 |[],_,_,_,_,_,_=>rfl|_::_,_,[],_,h,_,_=>absurd h<|km _
 |_::_,_,_::_,[],_,h,_=>absurd h<|km _
 |k::l,H,o::A,p::B,x,y,h=>by show cn ρ (H.set k<|bn ρ o) l A=cn j (H.set k<|bn j p) l B;exact Y (h 0 (lQ _) o p rfl rfl)<|C3 (iC x) (iC y) λi f o p e1 u=>h (i+1) (Nat.succ_lt_succ f) o p e1 u
def QX:∀{l},(∀k∈l,∃o,H[k]? =some o/\bn g (bn z o)=bn h o)->io g (ca z H l)=ca h H l:=by
 intro l;induction l with
 |nil=>intro _;exact rfl
 |cons k l f=>intro c;refine aZ (c k<|.head _) λo e r=>?_;show bn g (match H[k]? with|some o=>bn z o|none=>.cell none)::io g (ca z H l)=(match H[k]? with|some o=>bn h o|none=>.cell none)::ca h H l;exact Y e<|Y (f λk m=>c k<|.tail _ m)<|az (·::_) r
theorem xh:∀{n A B},A.length=n->qB n (A++B)=B
 |0,[],_,_=>rfl|0,_::_,_,h=>by cases h
 |n+1,[],_,h=>by cases h
 |n+1,_::A,B,h=>xh (n:=n) (A:=A)<|hD h
def fW(h:i<n):(upTo n l)[i]? =some i:=by
 have D:∀n l i,(i<n->(upTo n l)[i]? =some i)/\(upTo n l)[n+i]? =l[i]? :=by
  intro n;induction n with
  |zero=>exact λl i=>⟨λh=>absurd h<|hy _,by exact Y (eT ..) rfl⟩|succ n f=>intro l i;refine⟨λh=>?_,?_⟩;rcases dE i n with q|q;exact(f (n::l) i).1 q;obtain rfl:=ce (eX h) q;exact(f (i::l) 0).2;exact Y (cz ..)<|Y (cF 1 ..)<|(f (n::l)<|i+1).2
 exact(D n l i).1 h
def oY(c:∀i,aa i->z i=i)(k:je aa o):bn z o=o:=by have a:=wr (z:=z) (g:=z) (h:=z) (aa:=aa) (λi d=>by refine Y (c i d) ?_;exact c i d) k;have b:=Bb (z:=z) (g:=z) (aa:=aa) (λi d=>by refine Y (c i d) ?_;exact c i d) k;exact a.symm.trans b
def tY(c:∀i,aa i->z i=i)(k:ij aa l):bF z l=l:=by have a:=tc (z:=z) (g:=z) (h:=z) (aa:=aa) (λi d=>by refine Y (c i d) ?_;exact c i d) k;have b:=qZ (z:=z) (g:=z) (aa:=aa) (λi d=>by refine Y (c i d) ?_;exact c i d) k;exact a.symm.trans b
def xy(h:∀(i:Nat)(o:au),H[i]? =some o->bn z o=o):ca z H (upTo H.length [])=H:=by refine l5 λi=>?_;rcases dE i H.length with q|q;obtain⟨o,e⟩:∃o,H[i]? =some o:=⟨_,dA q⟩;exact Y (nJ (fW q) e)<|Y e<|Y (h i o e) rfl;exact Y (eQ q)<|Y (eQ<|by rw[oV,jw];exact q) rfl
def hr(C:reach 4000 H (ck D) []=some J)(hv:bF (λi=>bb i J) D=U)(u:ca (λi=>bb i J) H J=x)(h0:reach 4000 x (ck U) []=some (upTo J.length []))(h:bD X U x=some E):bD X D H=some (Ru H J E):=by
 have hl:x.length=J.length:=Y u.symm<|Y oV rfl;have c:=lK h0;have cl:∀i,i<J.length->∃o,x[i]? =some o/\∀j∈bH o,j<J.length:=λi f=>by exact aZ ((c.cl i<|mem_upTo<|.inl f).resolve_left λm=>(nomatch m)) λo e1 T=>a8 o e1 λj m=>(k8<|T j m).resolve_right λm=>(nomatch m)
 have ix:∀i,i<J.length->bb i (upTo J.length [])=i:=λi f=>ly (lf (λ_ m=>(nomatch m)) .nil)<|fW f;refine aK h λag ab e=>?_;rw[h0]at ab;obtain rfl:=aQ ab;have e:(match(gm (upTo J.length [])&&(cQ (λi=>bu i<|upTo J.length []) (ck U)&&dG (λi=>bu i<|upTo J.length []) x (upTo J.length [])))with|true=>ob (X (bF (λi=>bb i<|upTo J.length []) U)<|ca (λi=>bb i<|upTo J.length []) x<|upTo J.length []) (lV x<|upTo J.length [])|false=>none)=some E:=e;have r1:bF (λi=>bb i<|upTo J.length []) U=U:=tY (aa:=(·<J.length)) ix<|mr λi m=>(k8<|c.sub i<|.inr m).resolve_right λm=>(nomatch m);have r2:ca (λi=>bb i<|upTo J.length []) x (upTo J.length [])=x:=by
  have:=xy (z:=λi=>bb i<|upTo J.length []) (H:=x) λi o e=>by refine aZ (cl i<|by refine Y hl.symm ?_;exact(cc.mp e).1) λo' e1 T=>?_;rw[e]at e1;clear e;obtain rfl:=aQ e1;exact oY (aa:=(·<J.length)) ix<|i5 T
  rwa [hl]at this
 rw[r1,r2]at e;revert e;induction b0:(gm (upTo J.length [])&&(cQ (λi=>bu i<|upTo J.length []) (ck U)&&dG (λi=>bu i<|upTo J.length []) x (upTo J.length [])))with
 |false=>exact aW
 |true=>
 intro e;refine aK e λq eq e=>Y (pp C (q:=q)<|by rw[hv,u];exact eq) ?_;have g':∀{y:List Nat},(∀i∈y,J.length<=i)->∀i,Kept J.length y i->df H J (bt x (upTo J.length []) y i)=bt H J y i:=λ{y} ge i k=>by unfold bt;rcases dE i J.length with f|f;refine Y (fW f) ?_;obtain⟨k,e⟩:∃k,J[i]? =some k:=⟨_,dA f⟩;show df H J i=_;unfold df;exact Y e rfl;refine Y (eQ<|by rw[jw];exact f) (Y (eQ f) ?_);show df H J (x.length+bb i y)=_;unfold df;exact Y (eQ<|by rw[hl];exact bK ..)<|Y hl<|Y (ew ..) rfl
 have ae:∀{y:List Nat}{I:aq},J.length<=I.length->(∀i∈y,J.length<=i)->(∀i,Kept J.length y i->∃o,I[i]? =some o/\∀j∈bH o,Kept J.length y j)->
   cn (bt H J y) H J I++ca (bt H J y) I y=mQ H J (cn (bt x (upTo J.length []) y) x (upTo J.length []) I++ca (bt x (upTo J.length []) y) I y):=λ{y I} le ge N=>by
  have sl:(cn (bt x (upTo J.length []) y) x (upTo J.length []) I).length=J.length:=Y iy<|Y hl rfl;have ul:(upTo J.length []).length=J.length:=jw;unfold mQ;rw[xh sl,QX λk m=>?_];congr 1;refine C3 le (by refine Y a0<|Y sl ?_;exact bK ..) λi f o p e1 T=>?_;rw[dO (by refine Y sl ?_;exact f),pB (lf (n:=J.length) (l:=[]) (λ_ m=>(nomatch m)) .nil) (λk m=>by refine Y hl ?_;exact(k8 (l:=[]) m).resolve_right λm=>(nomatch m)) (fW f) e1]at T;clear e;obtain rfl:=aQ T;refine aZ (N i<|.inl f) λo' e3 e4=>?_;rw[e1]at e3;clear e;obtain rfl:=aQ e3;exact(wr (g' ge)<|i5 e4).symm;exact aZ (N k<|.inr m) λo' e3 e4=>a8 o' e3<|wr (g' ge)<|i5 e4
 have ul:(upTo J.length []).length=J.length:=jw;rcases q with⟨b,I⟩|⟨i,I⟩;have e:back x (upTo J.length []) b I (λρ H'=>some<|.ok (bl ρ b) H')=some E:=e;refine Aq (s5 e) λy ek le af O W N bk=>?_;rw[ul]at le O W N;clear h e;obtain rfl:=aQ ek;refine(bk H J (λρ H'=>some<|.ok (bl ρ b) H') ul.symm).trans ?_;show some (R.ok (bl (bt H J y) b) _)=some (R.ok (bl (df H J)<|bl (bt x (upTo J.length []) y) b) _);exact Y (ae le O N)<|Y (tG (g' O)<|oT W) rfl;have e:back x (upTo J.length []) (.ref i) I (λρ H'=>some<|.exc (ρ i) H')=some E:=e;refine Aq (s5 e) λy ek le af O W N bk=>?_;rw[ul]at le O W N;clear h e;obtain rfl:=aQ ek;refine(bk H J (λρ H'=>some<|.exc (ρ i) H') ul.symm).trans ?_;show some (R.exc (bt H J y i) _)=some (R.exc (df H J<|bt x (upTo J.length []) y i) _);exact Y (ae le O N)<|Y (g' O i<|W i<|.head _) rfl
noncomputable abbrev cj:List Nat:=[0,1,2,3,4,5,6,7,8,9,10]
def BV:∀k∈[1,10,2,7,9,3,4,5,6,3,8],k∈cj:=by decide
def KJ:∀k∈[1,10],k∈cj:=by decide
def PA:∀k∈[2,7,9,3,4,5,6,3,8],k∈cj:=by decide
theorem we:∀{ch i j},(∀m,ρ (i+m)=j+m)->io ρ (fo ch i)=fo ch j|[],_,_,_=>rfl|c::ch,i,j,h=>by have e:=we (ρ:=ρ) (ch:=ch) (i:=i+2) (j:=j+2) λm=>Y (cz ..)<|Y (h ..)<|Y (cz ..) rfl;have f:=h 1;have k:=h 2;rcases ch with _|⟨d,ch⟩;show au.exc 150 (some<|ρ<|i+1) none::_::io ρ (fo []<|i+2)=_;exact Y f rfl;show au.exc 150 (some<|ρ<|i+1) (some<|ρ<|i+2)::_::io ρ (fo (d::ch)<|i+2)=_;exact Y f<|Y k<|Y e rfl
section
variable{st:Nat}{nm u:List V}{E f:au}{w:List V}{X:List V->aq->M V}
def tw(h:aH nm)(j:cC E):reach 4000 (ak st nm E G) [0] []=some cj:=by have e:fX (ak st nm E G)=[1,10]::[2,7,9]::[3,4,5,6]::[]::[]::[]::[]::[3,8]::[]::ck nm::bH E::fX G:=rfl;exact Y mU<|Y e<|Y h.1<|Y j.1 rfl
def JI(h:aH nm)(j:cC E):ca (λi=>bb i cj) (ak st nm E G) cj=ak st nm E []:=by show _::_::_::_::_::_::_::_::_::au.list (bF _ nm)::bn _ E::[]=_;exact Y (h.2 ..)<|Y (j.2 ..) rfl
def nS(x:aH w):ck (.ref 0::w)=[0]:=by show[0]++ck w=_;exact Y x.1 rfl
def Mo(x:aH w)(l)(h:bb 0 l=0):bF (λi=>bb i l) (.ref 0::w)=.ref 0::w:=by show V.ref (bb 0 l)::bF _ w=_;exact Y (x.2 ..)<|Y h rfl
def Fw(h:aH nm)(j:cC E)(x:aH w)(aE:X (.ref 0::w) (ak st nm E [])=some q):bD X (.ref 0::w) (ak st nm E G)=lV (ak st nm E G) cj q:=by refine pp ?_ ?_;exact Y (nS x)<|tw h j;exact Y (Mo x _ rfl)<|Y (JI h j) aE
def E1{R:aq}(h:aH u)(j:cC f):cA (bL ae aa::(rest u++(f::R))) 11=([1]++([10]++(c0 aa++[])))++[2,7,9,3,4,5,6,3,8]:=by have e:cA (bL ae aa::(rest u++(f::R))) 11=([1]++([10]++(c0 aa++[])))++([2,7,9,3,4,5,6,3,8]++(ck u++(bH f++cA R 0))):=rfl;refine Y e<|Y h.1<|Y j.1 ?_;cases R<;>rfl
def DI{R:aq}(h:aH u)(j:cC f)(k:∀i,i<11->ρ i=i):cn ρ (ak st nm E G) cj (bL ae aa::(rest u++(f::R)))=bL ae (bl ρ aa)::(rest u++(f::G)):=by
 have e:cn ρ (ak st nm E G) cj (bL ae aa::(rest u++(f::R)))=.inst 899 [(mG,.ref<|ρ 1),(mD,.none),(la,.ref<|ρ 10),(mH,.int ae),(mR,.bool false),(mZ,bl ρ aa)]::
  .inst 828 [(eG,.ref<|ρ 2),(eU,.ref<|ρ 7),(iN,.ref<|ρ 9)]::.inst 1070 [(el,.ref<|ρ 3),(j1,.ref<|ρ 4),(jH,.ref<|ρ 5),(kO,.ref<|ρ 6)]::.inst 921 [(iG,.int 20),(iQ,.int 100000)]::.dict []::.dict []::.dict []::
  .inst 377 [(el,.ref<|ρ 3),(gT,.int 0),(gE,.ref<|ρ 8)]::.list []::.list (bF ρ u)::bn ρ f::G:=rfl
 exact Y e<|Y (h.2 ..)<|Y (j.2 ..)<|Y (k 1<|by decide)<|Y (k 2<|by decide)<|Y (k 3<|by decide)<|Y (k 4<|by decide)<|Y (k 5<|by decide)<|Y (k 6<|by decide)<|Y (k 7<|by decide)<|Y (k 8<|by decide)<|Y (k 9<|by decide)<|Y (k 10<|by decide) rfl
def zF:∀i,i<11->bt H cj y i=i:=λi h=>by
 match i,h with
 |0,_=>rfl|1,_=>rfl|2,_=>rfl|3,_=>rfl|4,_=>rfl|5,_=>rfl|6,_=>rfl|7,_=>rfl|8,_=>rfl|9,_=>rfl|10,_=>rfl|n+11,h=>exact absurd h<|qu<|bT 11 n
variable(h:aH nm)(j:cC E)(z:aH u)(C:cC f)(x:aH w)
include h j z C x
theorem rW{R:aq}(aE:X (.ref 0::w) (ak st nm E [])=some (.ok (.ref<|m+11)<|ak ae u f R))(D:R[m]? =some o)(no:cC o):bD X (.ref 0::w) (ak st nm E G)=some (.ok (.ref<|G.length+11)<|ak ae u f<|G++[o]):=by
 refine Y (Fw h j x aE) ?_;have I:reach 4000 (ak ae u f R) (c0 (.ref<|m+11)++cA (ak ae u f R) 11) (upTo 11 [])=some (upTo 11 []++[m+11]):=by have e:cA (ak ae u f R) 11=[1,10,2,7,9,3,4,5,6,3,8]:=E1 z C;exact Y e<|(cW (i:=m+11) (H:=ak ae u f R) rfl D).trans<|Y no.1<|kY (T:=[1,10,2,7,9,3,4,5,6,3,8]) (done:=cj++[m+11]) (λk m=>fq _<|BV k m)<|by decide
 show back (ak st nm E G) cj (.ref<|m+11) (ak ae u f R) (λρ H'=>some<|.ok (bl ρ<|.ref<|m+11) H')=_;refine(m' (J:=cj) (H:=ak st nm E G) (b:=.ref<|m+11) (y:=[m+11]) I<|bT 11 _).trans ?_;show some (Mine.Internal.R.ok (V.ref<|G.length+11+bb (m+11) [m+11])<|cn (bt (ak st nm E G) cj [m+11]) (ak st nm E G) cj (bL ae .none::(rest u++(f::R)))++[match R[m]? with|some o=>bn _ o|none=>.cell none])=_;refine Y (DI z C zF)<|Y vF<|Y D ?_;show some (Mine.Internal.R.ok (V.ref<|G.length+11)<|ak ae u f<|G++[bn _ o])=_;exact Y (no.2 ..) rfl
theorem yw{R:aq}(aE:X (.ref 0::w) (ak st nm E [])=some (.exc i<|bL ae aa::(rest u++(f::R))))(D:aa=.none\/aa=.ref i)(N:30<n)(W:∀T,reach 4000 (bL ae aa::(rest u++(f::R))) (i::T) cj=reach n (bL ae aa::(rest u++(f::R))) T (cj++i::y))(aP:ca (bt (ak st nm E G) cj<|i::y) (bL ae aa::(rest u++(f::R))) (i::y)=fo ch (G.length+11))(I:11<=i):bD X (.ref 0::w) (ak st nm E G)=some (.exc (G.length+11)<|bL ae (bl (λ_=>G.length+11) aa)::(rest u++(f::(G++fo ch (G.length+11))))):=by
 refine Y (Fw h j x aE) ?_;have O:bt (ak st nm E G) cj (i::y) i=G.length+11:=by unfold bt;refine Y (eQ<|show cj.length<=i from I) ?_;show G.length+11+(match Nat.beq i i with|true=>0|false=>bb i y+1)=_;exact Y (eg ..) rfl
 have rf:bl (bt (ak st nm E G) cj<|i::y) aa=bl (λ_=>G.length+11) aa:=by rcases D with rfl|rfl;rfl;exact az V.ref O
 have U:reach 4000 (bL ae aa::(rest u++(f::R))) (c0 (.ref i)++cA (bL ae aa::(rest u++(f::R))) 11) (upTo 11 [])=some (upTo 11 []++i::y):=by refine Y (E1 z C)<|(W _).trans<|kY (done:=cj++i::y) (λk m=>?_) ?_;rcases D with rfl|rfl;exact fq _<|BV k m;rcases d0.mp (show k∈[1,10]++(i::[2,7,9,3,4,5,6,3,8]) from m)with m|m;exact fq _<|KJ k m;rcases bC.mp m with e|m;exact gu _<|e▸.head _;exact fq _<|PA k m;rcases D with rfl|rfl;exact n1 (show 11<30 by decide) N;exact n1 (show 12<30 by decide) N
 show back (ak st nm E G) cj (.ref i) (bL ae aa::(rest u++(f::R))) (λρ H'=>some<|.exc (ρ i) H')=_;refine(m' (J:=cj) (H:=ak st nm E G) (b:=.ref i) (y:=i::y) U<|bT 11 _).trans ?_;show some (Mine.Internal.R.exc (bt (ak st nm E G) cj (i::y) i)<|cn (bt (ak st nm E G) cj<|i::y) (ak st nm E G) cj (bL ae aa::(rest u++(f::R)))++ca (bt (ak st nm E G) cj<|i::y) (bL ae aa::(rest u++(f::R))) (i::y))=_;exact Y (DI z C zF)<|Y aP<|Y O<|Y rf rfl
end
def N5:∀l,aH (is l):=by
 intro l;induction l with
 |nil=>exact .nil|cons _ l f=>exact .cons (.tup<|.cons .str<|.cons .str .nil)<|f
def TX(e:cL):gg e.aA:=by rcases e with t|o;exact .tup<|.cons .str<|.cons .str .nil;rcases o with⟨n,l⟩|n;exact .tup<|.cons .str<|.cons .str<|.cons (.tup<|N5 l) .nil;exact .tup<|.cons .str<|.cons .str .nil
def g4:∀l,aH (aD l):=by
 intro l;induction l with
 |nil=>exact .nil|cons e l f=>exact .cons (TX e)<|f
section
variable(d:Nat)
theorem lr{H:aq}(f:H[n]? =some o):H.set n o=H:=by refine l5 λj=>Y List.getElem?_set ?_;split;rename_i C;subst C;exact Y (bZ (cc.mp f).1)<|Y f rfl;rfl
theorem EF(k:H[i]? =some (.list<|aD l))(hl:l.length<=bf)(I:cN l<=bf):ay (d+1) none (.fn 755) [.ref i] H=some (.ok (.ref H.length)<|H++[.list<|aD<|aJ l []]):=by
 have y:(aD l).length<=bf:=by refine Y (j4 ..) ?_;exact hl
 refine QJ (Ly (O:=ay d) y l 0 0 199959 [] [] [.list []] [] rfl (bJ _) (as hl<|by decide) rfl (bJ _) (bJ _)<|by show 0+cN l<=bf;refine Y (eT ..) ?_;exact I) λfd N m z tl f h u C E=>?_;have no:cC (.list<|aD l):=.list<|g4 l;refine Y (show aJ l []=fd++dB N from u.symm) ?_;have bp:∀{r:Nat}{p:List cL}{G:aq},G[r]? =some (.list<|aD p)->aF NN tab (ay d) none (.fn 755) [.ref 0] [.list<|aD l]=some (.ok (.ref<|r+1)<|.list (aD l)::G)->ay (d+1) none (.fn 755) [.ref i] H=some (.ok (.ref H.length)<|H++[.list<|aD p]):=λ{r p G} J e=>by have c:=Av (X:=λD H=>aF NN tab (ay d) none (.fn 755) D H) (w:=[]) k no .nil no J (.list<|g4 p) e;rw[lr k]at c;exact c
 rcases N with _|⟨p,N⟩;exact Y (show fd++dB []=fd from be _)<|bp (r:=0) rfl<|SQ (O:=ay d) (j:=199940) f h
 .have e:aD (fd++dB (p::N))=aD fd++[.tup [.str ao,.str<|jn []<|p::N]]:=by exact Y (oB ..) rfl
  have x:(aD fd).length+1<=1000000:=by rw[j4]at y⊢;exact as (l7 (as E<|by refine Y (j4 ..) ?_;exact hK 2 y) 1)<|by decide
  exact bp (by refine Y e ?_;exact cU (H:=.list (aD fd)::(z++[.list []]++[.list [.tup [.str ao,.str<|jn []<|p::N]]])))<|KD (O:=ay d) (j:=199940) f h (as C<|by decide) x
theorem F4:zm (ay<|d+1):=λ{st nm E l} G hl f=>EF d (i:=11) (H:=ak st nm E<|.list (aD l)::G) rfl hl f
end
noncomputable abbrev K9:List Nat:=[1,2,3,4,5,6,7,8,9]
section
variable{st:Nat}{nm u:List V}{tx:List Nat}
def uq(f:aH nm):reach 4000 (bO nm []) [0] []=some (upTo 9 []):=by have e:fX (bO nm [])=[1,6,8]::[2,3,4,5]::[]::[]::[]::[]::[2,7]::[]::ck nm::[]:=rfl;exact Y mU<|Y e<|Y f.1 rfl
def D9(f:aH nm):reach 4000 (ak st nm E []) [1] []=some K9:=by have e:fX (ak st nm E [])=[1,10]::[2,7,9]::[3,4,5,6]::[]::[]::[]::[]::[3,8]::[]::ck nm::bH E::[]:=rfl;exact Y mU<|Y e<|Y f.1 rfl
def z0(f:aH nm):ca (λi=>bb i K9) (ak st nm E []) K9=bO nm []:=by show _::_::_::_::_::_::_::_::au.list (bF _ nm)::[]=_;exact Y (f.2 ..) rfl
def z2(f:aH u):mQ (ak st nm E []) K9 (bO u G)=ak st u E (io (df (ak st nm E []) K9) G):=by show bL st .none::_::_::_::_::_::_::_::_::au.list (bF _ u)::E::io _ G=_;exact Y (f.2 ..) rfl
variable(f:aH nm)(h:aH u)
include f h
theorem IX(aE:bD X [.ref 0,.str kd,.str tx,.int ((0:Nat):Int)] (bO nm [])=some (.ok (.ref 9)<|bO u [.list<|aD l])):bD X [.ref 1,.str kd,.str tx,.int ((0:Nat):Int)] (ak st nm E [])=some (.ok (.ref 11)<|ak st u E [.list<|aD l]):=by refine(hr (D:=[.ref 1,.str kd,.str tx,.int ((0:Nat):Int)]) (U:=[.ref 0,.str kd,.str tx,.int ((0:Nat):Int)]) (J:=K9) (D9 f) rfl (z0 f) (uq f) aE).trans ?_;show some (R.ok (V.ref 11)<|mQ (ak st nm E []) K9<|bO u [.list<|aD l])=_;refine Y (z2 h) ?_;show some (R.ok (V.ref 11)<|ak st u E [.list<|bF _<|aD l])=_;exact Y ((g4 l).2 ..) rfl
theorem LZ(aE:bD X [.ref 0,.str kd,.str tx,.int ((0:Nat):Int)] (bO nm [])=some (.exc 9<|bO u<|fo ch 9)):bD X [.ref 1,.str kd,.str tx,.int ((0:Nat):Int)] (ak st nm E [])=some (.exc 11<|ak st u E<|fo ch 11):=by refine(hr (D:=[.ref 1,.str kd,.str tx,.int ((0:Nat):Int)]) (U:=[.ref 0,.str kd,.str tx,.int ((0:Nat):Int)]) (J:=K9) (D9 f) rfl (z0 f) (uq f) aE).trans ?_;show some (R.exc 11<|mQ (ak st nm E []) K9<|bO u<|fo ch 9)=_;rw[z2 h,we (i:=9) (j:=11) λm=>?_];unfold df;refine Y (eQ<|show K9.length<=9+m from bK ..) ?_;show 11+(9+m-9)=_;exact Y (ew ..) rfl
end
inductive Rd where|ok (l:List cL) (nm:List V)|bad (pl:Nat)
abbrev wz:=List V->List Nat->List Nat->Option Rd
noncomputable def jp:List V->Bool|[]=>true|a::l=>match ek a with|some _=>jp l|none=>false
def CT:∀{l},jp l=true->aH l:=by
 intro l;induction l with
 |nil=>intro _;exact .nil
 |cons a l f=>
  intro h;have h:=h;induction a using V.casesOn with
  |str x=>exact .cons .str<|f h
  |_=>exact ff h
noncomputable def Rd.ih(p:Nat):Rd->Er|.ok l nm=>.ok l (match nm with|[]=>3|_::_=>2) nm|.bad pl=>.bad<|p+pl
noncomputable def Rd.Bq:Rd->Option Er|.ok l nm=>(match nm with|[]=>none|a::k=>some<|.ok l 2<|a::k)|.bad _=>none
noncomputable def k3(nm:List V)(p:Nat):Option Nat->Er|none=>.ok [] 3 nm|some i=>.bad<|p+i
def sem(rd:wz):g9:=λst nm kd tx p=>b3 (jp nm) (aB (ar kd cP) (some<|.bad p) (aB (Nat.beq st 2) (ob (rd nm kd tx) λe=>some<|e.ih p)
 (b3 (!dv tx&&Nat.ble tx.length bf)<|aB (Nat.beq st 0) (b3 (ar kd d')<|ob (rd nm kd tx) Rd.Bq)<|b3 (Nat.beq st 3&&dv nm)<|aB (ar kd ao) (b3 (Nat.blt 0 p)<|some<|k3 nm p<|cD dH tx)<|b3 (ar kd d'||ar kd ge)<|some<|.bad<|p+0)))
def nM(O:ap)(nm:List V)(kd tx:List Nat):Rd->Prop|.ok l u=>aH u/\dy O 790 [.ref 0,.str kd,.str tx,.int ((0:Nat):Int)] (bO nm []) (.ref 9) (bO u [.list<|aD l])|.bad pl=>∃u c ch,c.2=pl/\ch.length<=1/\aH u/\O none (.fn 790) [.ref 0,.str kd,.str tx,.int ((0:Nat):Int)] (bO nm [])=some (.exc 9<|bO u<|fo (c::ch) 9)
def pK(rd:wz)(O:ap):Prop:=∀{nm:List V}{kd tx:List Nat}{e:Rd},aH nm->rd nm kd tx=some e->nM O nm kd tx e
def ie(h:ar a b=true):a=b:=kt.mp h
section
variable{d:Nat}{st:Nat}{p:Nat}{s:Seen}{kd tx:List Nat}{G:aq}
def di(h:eK none (.fn z)=some z)(f:Nat.beq z 790=false):ay (d+1) none (.fn z) D H=bD (λD H=>aF NN tab (ay d) none (.fn z) D H) D H:=by
 show(match eK none (.fn z)with
  |some z=>(match Nat.beq z 790&&mn D with|true=>hS D H|false=>bD (λD H=>aF NN tab (ay d) none (.fn z) D H) D H)
  |none=>aF NN tab (ay d) none (.fn z) D H)=_
 refine Y h ?_;show(match Nat.beq z 790&&mn D with|true=>hS D H|false=>bD (λD H=>aF NN tab (ay d) none (.fn z) D H) D H)=_
 exact Y f rfl
def DG(d)(kd tx):∃X,∀i H,ay (d+1) none (.fn 790) [.ref i,.str kd,.str tx,.int ((0:Nat):Int)] H=bD X [.ref i,.str kd,.str tx,.int ((0:Nat):Int)] H:=by
 have e:∀(i:Nat)(H:aq),ay (d+1) none (.fn 790) [.ref i,.str kd,.str tx,.int ((0:Nat):Int)] H=(match !ar kd ao with|true=>hS [.ref i,.str kd,.str tx,.int ((0:Nat):Int)] H|false=>bD (λD H=>aF NN tab (ay d) none (.fn 790) D H) [.ref i,.str kd,.str tx,.int ((0:Nat):Int)] H):=λi H=>rfl
 rcases h:!ar kd ao;exact⟨_,λi H=>Y (e ..)<|Y h rfl⟩;exact⟨_,λi H=>by exact Y (e ..)<|Y h rfl⟩
def B2(f:aH nm)(z:aH u)(aE:dy (ay<|d+1) 790 [.ref 0,.str kd,.str tx,.int ((0:Nat):Int)] (bO nm []) (.ref 9)<|bO u [.list<|aD l]):dy (ay<|d+1) 790 [.ref 1,.str kd,.str tx,.int ((0:Nat):Int)] (ak st nm E []) (.ref 11) (ak st u E [.list<|aD l]):=by exact aU (DG d kd tx) λX e=>(e 1 _).trans<|IX f z<|(e 0 _).symm.trans aE
def RZ(f:aH nm)(z:aH u)(aE:ay (d+1) none (.fn 790) [.ref 0,.str kd,.str tx,.int ((0:Nat):Int)] (bO nm [])=some (.exc 9<|bO u<|fo ch 9)):ay (d+1) none (.fn 790) [.ref 1,.str kd,.str tx,.int ((0:Nat):Int)] (ak st nm E [])=some (.exc 11<|ak st u E<|fo ch 11):=by exact aU (DG d kd tx) λX e=>(e 1 _).trans<|LZ f z<|(e 0 _).symm.trans aE
def CN:eK none (.fn 875)=some 875:=rfl
abbrev s4(d:Nat):List V->aq->M V:=λD H=>aF NN tab (ay d) none (.fn 875) D H
def Ak:aH [.str kd,.str tx,.int p]:=.cons .str<|.cons .str<|.cons .int .nil
def ul{R:aq}(f:aH nm)(z:aH u)(aE:s4 d [.ref 0,.str kd,.str tx,.int p] (ak st nm (ax x k q h s.aA) [])=some (.ok (.ref 11)<|ak ae u (ax x k q h s.aA)<|.list (aD l)::R)):js (ay<|d+1) st nm kd tx p x k h q s.aA fd G (.ok l ae u):=⟨(di CN rfl).trans<|rW (X:=s4 d) (G:=.list fd::G) (w:=[.str kd,.str tx,.int p]) f (cg s) z (cg s) Ak (m:=0) aE rfl<|.list<|g4 l,z⟩
def tT{R:aq}(f:aH nm)(z:aH u)(C:ch.length<=9)(aE:s4 d [.ref 0,.str kd,.str tx,.int p] (ak st nm (ax x k q h s.aA) [])=some (.exc i<|ak ae u (ax x k q h s.aA) R))(D:30<n)(E:∀T,reach 4000 (ak ae u (ax x k q h s.aA) R) (i::T) cj=reach n (ak ae u (ax x k q h s.aA) R) T (cj++i::y))(aP:ca (bt (ak st nm (ax x k q h s.aA)<|.list fd::G) cj<|i::y) (ak ae u (ax x k q h s.aA) R) (i::y)=fo (c::ch) (G.length+12))(j:11<=i):js (ay<|d+1) st nm kd tx p x k h q s.aA fd G (.bad c.2):=⟨ae,u,c,ch,(di CN rfl).trans<|yw (X:=s4 d) (G:=.list fd::G) (w:=[.str kd,.str tx,.int p]) (aa:=.none) f (cg s) z (cg s) Ak aE (.inl rfl) D E aP j,rfl,C,z⟩
def Rb(f:aH nm):js (ay<|d+3) st nm cP tx p x k h q s.aA fd G (.bad p):=tT (d:=d+2) (c:=(rH,p)) (ch:=[]) (i:=11) (n:=3998) (y:=[12]) f f (bJ _) (IE (O:=ay<|d+2) (j:=199940)<|cs d) (by decide) (λT=>nv (rH,p) [] 11 cj (λm o e=>by have e:=e;refine Y (cF ..) ?_;exact e)<|by decide) rfl (ba _)
def uc:∀{ch i},(fo ch i).length=2*ch.length:=by
 intro ch;induction ch with
 |nil=>intro _;exact rfl
 |cons _ ch f=>intro i;exact az (·+2)<|f (i:=i+2)
def ri:∀k∈cj,k<11:=by decide
def w'(T):reach (n+2*(ch.length+1)+1+1) (ak ae u (ax x k q h s.aA)<|fo (c::ch) 11++re c p 11 (2*(ch.length+1)+11)) ((2*(ch.length+1)+11)::T) cj=reach n (ak ae u (ax x k q h s.aA)<|fo (c::ch) 11++re c p 11 (2*(ch.length+1)+11)) T (cj++(2*(ch.length+1)+11)::(2*(ch.length+1)+12)::c7 (c::ch) 11):=by
 have l:(fo (c::ch) 11).length=2*(ch.length+1):=uc;have f:(fo (c::ch) 11++re c p 11 (2*(ch.length+1)+11))[2*(ch.length+1)]? =some (.exc 150 (some<|2*(ch.length+1)+11+1)<|some 11):=by
  conv=>lhs;rw[<-l]
  exact iF.trans<|Y l rfl
 have j:(fo (c::ch) 11++re c p 11 (2*(ch.length+1)+11))[2*(ch.length+1)+1]? =some (.dict [(dN,.str c.1),(b7,.int (p+c.2:Nat))]):=by
  conv=>lhs;rw[<-l]
  exact BB
 have a:At (ak ae u (ax x k q h s.aA)<|fo (c::ch) 11++re c p 11 (2*(ch.length+1)+11)) 11 (fo (c::ch) 11):=λm o e=>by refine Y (cF 11 m) ?_;show(fo (c::ch) 11++re c p 11 (2*(ch.length+1)+11))[m]? =_;refine Y (dO (cc.mp e).1) ?_;exact e
 generalize fo (c::ch) 11++re c p 11 (2*(ch.length+1)+11)=R at f j a⊢;have y:bu (2*(ch.length+1)+11) cj=false:=lH λm=>qu (bT 11 _)<|ri _ m;have z:=cW (n:=n+2*(ch.length+1)+1) (t:=T) (H:=ak ae u (ax x k q h s.aA) R) y f;have C:=cW (n:=n+2*(ch.length+1)) (t:=11::T) (i:=2*(ch.length+1)+12) (done:=cj++[2*(ch.length+1)+11]) (H:=ak ae u (ax x k q h s.aA) R) (lH λm=>(d0.mp m).elim (λm=>qu (as (by decide)<|bT 12 _)<|ri _ m) λm=>pH _<|b9.mp m) j;refine(z.trans C).trans<|(nv c ch 11 _ a λk m=>?_).trans ?_;rcases d0.mp m with m|m;rcases d0.mp m with m|m;exact .inl<|ri k m;exact Y (b9.mp m)<|Y (cF ..)<|.inr<|ba _;exact Y (b9.mp m)<|.inr<|by refine Y (cF 11 ..) ?_;exact Nat.le_succ _
 rw[bq,bq];rfl
def MN(f:aH nm)(D:ar kd cP=false)(m:nM (ay<|d+2) nm kd tx e):js (ay<|d+3) 2 nm kd tx p x k h q s.aA fd G (e.ih p):=by
 rcases e with⟨l,u⟩|pl;obtain⟨z,m⟩:=m;have m:=B2 (st:=2) (E:=ax x k q h s.aA) f z m;rcases u with _|⟨a,I⟩;exact ul (d:=d+2) f z<|Nn (O:=ay<|d+2) (j:=199940) D m;exact ul (d:=d+2) f z<|MW (O:=ay<|d+2) (j:=199940) D m
 .obtain⟨u,c,ch,rfl,C,z,m⟩:=m;have m:=RZ (st:=2) (E:=ax x k q h s.aA) f z m;match ch,C with
  |[],_=>exact tT (d:=d+2) (c:=(c.1,p+c.2)) (ch:=[c]) (i:=13) (n:=3996) (y:=[14,11,12]) f z (show 1<=9 by decide) (Ii (O:=ay<|d+2) (j:=199940) D m<|cs d) (by decide) (w' (c:=c) (ch:=[]) (n:=3996)) rfl<|by decide
  |[e],_=>exact tT (d:=d+2) (c:=(c.1,p+c.2)) (ch:=[c,e]) (i:=15) (n:=3994) (y:=[16,11,12,13,14]) f z (show 2<=9 by decide) (PT (O:=ay<|d+2) (j:=199940) D m<|cs d) (by decide) (w' (c:=c) (ch:=[e]) (n:=3994)) rfl<|by decide
  |_::_::_,C=>exact absurd C<|by simp
end
def me(h:eK none (.fn z)=none):ay (d+1) none (.fn z) D H=aF NN tab (ay d) none (.fn z) D H:=by show(match eK none (.fn z)with|some z=>(match Nat.beq z 790&&mn D with|true=>hS D H|false=>bD (λD H=>aF NN tab (ay d) none (.fn z) D H) D H)|none=>aF NN tab (ay d) none (.fn z) D H)=_;exact Y h rfl
def DW:eK none (.fn 882)=none:=rfl
def PX{l:List Nat}(h:(!dv l)=true):∃c r,l=c::r:=by rcases l with _|⟨c,r⟩;exact ff h;exact lX c r rfl
section
variable{st p:Nat}{s:Seen}{tx:List Nat}
def Eh{R:aq}(f:Nat.beq st 2=false)(D:ar kd cP=false)(z:aH nm)(C:aH u)(m:aF NN tab (ay d) none (.fn 882) [.ref 0,.str kd,.str tx,.int p] (ak st nm (ax x k q h s.aA) [])=some (.ok (.ref 11)<|ak ae u (ax x k q h s.aA)<|.list (aD l)::R)):js (ay<|d+2) st nm kd tx p x k h q s.aA fd G (.ok l ae u):=ul (d:=d+1) z C (OZ (O:=ay<|d+1) (j:=199940) f D<|(me DW).trans m)
def xq(f:Nat.beq st 2=false)(D:ar kd cP=false)(z:aH nm)(C:aH u)(m:aF NN tab (ay<|d+1) none (.fn 882) [.ref 0,.str kd,.str tx,.int p] (ak st nm (ax x k q h s.aA) [])=some (.exc 11<|ak ae u (ax x k q h s.aA)<|fo [c] 11)):js (ay<|d+3) st nm kd tx p x k h q s.aA fd G (.bad<|p+c.2):=tT (d:=d+2) (c:=(c.1,p+c.2)) (ch:=[c]) (i:=13) (n:=3996) (y:=[14,11,12]) z C (show 1<=9 by decide) (H9 (O:=ay<|d+2) (j:=199940) f D ((me DW).trans m)<|cs d) (by decide) (w' (c:=c) (ch:=[]) (n:=3996)) rfl (by decide)
def Tz(u:Nat.blt 0 p=true)(hl:(c::tx).length<=bf):js (ay<|d+5) 3 [] ao (c::tx) p x k h q s.aA fd G (k3 [] p<|cD dH<|c::tx):=by have m:=L0 d (c::tx) (ak 3 [] (ax x k q h s.aA) []) hl;have f:=iI<|Nat.ne_of_gt<|bE u;generalize cD dH (c::tx)=o at m;rcases o with _|i;exact Eh (d:=d+3) rfl rfl .nil .nil (l:=[])<|PH (O:=ay<|d+3) (j:=199940) m f;exact xq (d:=d+2) (c:=(pb,i)) rfl rfl .nil .nil<|GR (O:=ay<|d+3) (j:=199940) m f
def L4(aP:(ar kd d'||ar kd ge)=true):js (ay<|d+5) 3 [] kd (c::tx) p x k h q s.aA fd G (.bad<|p+0):=by rcases qE.mp aP with aP|aP;obtain rfl:=ie aP;exact xq (d:=d+2) (c:=(nD,0)) rfl rfl .nil .nil<|Lx (O:=ay<|d+3) (j:=199940)<|cs<|d+1;obtain rfl:=ie aP;exact xq (d:=d+2) (c:=(nD,0)) rfl rfl .nil .nil<|GF (O:=ay<|d+3) (j:=199940)<|cs<|d+1
def S9(z:aH nm)(m:nM (ay<|d+3) nm d' (c::tx) e)(he:e.Bq=some y):js (ay<|d+5) 0 nm d' (c::tx) p x k h q s.aA fd G y:=by rcases e with⟨l,u⟩|pl;rcases u with _|⟨a,f⟩;exact aW he;obtain rfl:=aQ he;exact aS m λC m=>Eh (d:=d+3) rfl rfl z C<|R7 (O:=ay<|d+3) (j:=199940)<|B2 (st:=1) (E:=ax x k q h s.aA) z C m;exact aW he
end
def H5(R:∀e,pK rd<|ay<|e+40):∀e,uO (sem rd) (ay<|e+45):=by
 intro e st nm kd tx p T x k h q s fd G z f;refine c8 f λ_ f=>?_;revert f;induction y:ar kd cP with
 |true=>intro f;obtain rfl:=aQ f;obtain rfl:=ie y;exact Rb (d:=e+42) z
 |false=>
 intro f;revert f;induction C:Nat.beq st 2 with
 |true=>intro f;refine aK f λI he f=>?_;obtain rfl:=aQ f;obtain rfl:=cd C;exact MN (d:=e+42) z y<|R (e+4) z he
 |false=>
 intro f;refine c8 f λj f=>zb j λj hl=>g8 (PX j) λc r O=>?_;subst O;have hl:=bE hl;revert f;induction D:Nat.beq st 0 with
 |true=>intro f;obtain rfl:=cd D;refine c8 f λaP f=>?_;obtain rfl:=ie aP;exact aK f λI he f=>S9 (d:=e+40) z (R (e+3) z he) f
 |false=>
 intro f;refine c8 f λE f=>zb E λE J=>?_;obtain rfl:=cd E;induction nm using List.casesOn with
 |cons=>exact ff J|nil=>
 revert f;rcases N:ar kd ao;intro f;refine c8 f λaP f=>?_;obtain rfl:=aQ f;exact L4 (d:=e+40) aP;intro f;obtain rfl:=ie N;refine c8 f λu f=>?_;obtain rfl:=aQ f;exact Tz (d:=e+40) u hl
def Told(x h:List Nat)(m:M V):b'->Prop|.ok l f=>∃k,aH f.nm/\x.drop k=f.r/\k<=x.length/\m=some (.ok (.ref 11)<|ak f.st f.nm (ax x k f.p h f.s.aA) [.list<|aD<|aJ l []])|.bad pl=>∃st nm k q c ch,(c.2=pl/\ch.length<=9/\aH nm)/\k<=x.length/\m=some (.exc 11<|cV st nm (ax x k q h .none) 11<|fo (c::ch) 11)
def CG:eK none (.fn 868)=some 868:=rfl
def q1:eK none (.fn 854)=some 854:=rfl
def qy:eK none (.fn 861)=some 861:=rfl
section
variable{X:List V->aq->M V}{st:Nat}{s:Seen}
def TC(h:n<=9):30<4000-2*(n+1)/\4000=(4000-2*(n+1))+2*(n+1):=by have:2*(n+1)<=20:=hK 2<|fD h;exact⟨cB (by decide)<|Nat.sub_le_sub_left this 4000,(bx<|as this<|by decide).symm⟩
def vB{R:aq}(f:i=R.length+11):At (bL ae aa::(rest u++(E::(R++fo ch i)))) i (fo ch i):=λm o e=>by
 have h:(R++fo ch i)[R.length+m]? =some o:=by refine Y (dr<|bK ..)<|Y (ew ..) ?_;exact e
 generalize R++fo ch i=af at h;exact Y f<|Y (rr ..) h
def Aw{J:Seen}{R:aq}(D:aH nm)(I:aH u)(N:aH w)(C:ch.length<=9)(f:i=R.length+11)(aE:X (.ref 0::w) (ak st nm (ax x k p h s.aA) [])=some (.exc i<|cV ae u (ax ab O U h' J.aA) i<|R++fo (c::ch) i)):bD X (.ref 0::w) (ak st nm (ax x k p h s.aA) [])=some (.exc 11<|cV ae u (ax ab O U h' J.aA) 11<|fo (c::ch) 11):=by
 refine aS (TC C) λf1 z=>?_;have a:=vB (ae:=ae) (u:=u) (E:=ax ab O U h' J.aA) (aa:=.ref i) (ch:=c::ch) f;have W:11<=i:=by refine Y f ?_;exact bT ..
 refine yw (G:=[]) (aa:=.ref i) (ch:=c::ch) (n:=4000-2*(ch.length+1)) (y:=(i+1)::c7 ch (i+2)) D (cg s) I (cg J) N aE (.inr rfl) f1 (λT=>?_) ?_ W;exact(az (λn=>reach n (bL ae (.ref i)::(rest u++(ax ab O U h' J.aA::(R++fo (c::ch) i)))) (i::T) cj) z).trans<|nv c ch i cj a λk m=>.inl<|cB (ri k m) W;refine u0 (ch:=c::ch) (j:=11) a λm hm=>?_;unfold bt;refine Y (eQ<|show cj.length<=i+m from as W<|bK ..) ?_;exact az (11+·)<|DY (ch:=c::ch) hm
end
section
variable{f:jP}
def DV(R:∀e,pK rd<|ay<|e+40)(hm:x.length<=bf)(z:n<=200)(aE:x.drop k=f.r)(aP:k<=x.length)(N:aH f.nm)(e:dQ (sem rd) E n f=some o):Told x h (ay (d+46) none (.fn 868) [.ref 0,.bool E]<|ak f.st f.nm (ax x k f.p h f.s.aA) []) o:=by have L:=Qu (O:=ay<|d+45) (j:=199940) (h:=h) (H5 R d) (Mc<|d+40) (F4<|d+44) hm (as z<|by decide) z aE aP N e;refine Y (di CG rfl) ?_;rcases o with⟨l,ab⟩|pl;exact kG L λT G I u y C=>⟨T,I,u,y,rW (X:=λD H=>aF NN tab (ay<|d+45) none (.fn 868) D H) (G:=[]) (w:=[.bool E]) N (cg f.s) I (cg ab.s) (.cons .bool .nil) (m:=G.length+1) C (cU (H:=.list (aD l)::G))<|.list<|g4 _⟩;exact gk L λst nm T q fd U=>ea U λG c ch I u y=>⟨st,nm,T,q,c,ch,I,u,Aw (X:=λD H=>aF NN tab (ay<|d+45) none (.fn 868) D H) (w:=[.bool E]) (s:=f.s) (J:=.no) (R:=.list fd::G) N I.2.2 (.cons .bool .nil) I.2.1 rfl y⟩
def Oz(R:∀e,pK rd<|ay<|e+40)(hm:x.length<=bf)(E:h.length+I.length<=20000)(W:(f.r++a' (bW h I)).length<=bf)(z:n<=200)(aE:x.drop k=f.r)(aP:k<=x.length)(T:aH f.nm)(e:dQ (sem rd) false n ⟨f.st,f.nm,f.r++a' (bW h I),f.s,f.p⟩=some o):Told (f.r++a' (bW h I)) (fK h I) (ay (d+47) none (.fn 854) [.ref 0,.str I]<|ak f.st f.nm (ax x k f.p h f.s.aA) []) o:=by have av:=CF (d+43) (st:=f.st) (nm:=f.nm) (x:=x) (r:=f.r) (h:=h) (I:=I) (k:=k) (p:=f.p) (s:=f.s) (aa:=.none) [] aE aP hm E;have L:=DV (d:=d) (k:=0) (h:=fK h I) (f:=⟨f.st,f.nm,f.r++a' (bW h I),f.s,f.p⟩) R W z rfl (bJ _) T e;refine Y (di q1 rfl) ?_;rcases o with⟨l,ab⟩|pl;exact iA L λU N u y C=>⟨U,N,u,y,rW (X:=λD H=>aF NN tab (ay<|d+46) none (.fn 854) D H) (G:=[]) (w:=[.str I]) T (cg f.s) N (cg ab.s) (.cons .str .nil) (m:=0) (M1 (O:=ay<|d+46) (j:=199940) av C) rfl<|.list<|g4 _⟩;exact gk L λst nm U q c ae=>dD ae λch N u y=>⟨st,nm,U,q,c,ch,N,u,Aw (X:=λD H=>aF NN tab (ay<|d+46) none (.fn 854) D H) (w:=[.str I]) (s:=f.s) (J:=.no) (R:=[]) T N.2.2 (.cons .str .nil) N.2.1 rfl<|Bn (O:=ay<|d+46) (j:=199940) av y⟩
def GU(R:∀e,pK rd<|ay<|e+40)(hm:(x++a' h).length<=bf)(E:h.length<=1)(aE:(x++a' h).drop k=f.r)(aP:k<=(x++a' h).length)(J:aH f.nm)(C:ab.st=3)(N:ab.nm=[])(z:n<=200)(e:dQ (sem rd) true n f=some (.ok l ab)):∃I,ay (d+47) none (.fn 861) [.ref 0] (ak f.st f.nm (ax x k f.p h f.s.aA) [])=some (.ok (.ref 11)<|ak 3 [] (ax (x++a' h) I ab.p [] ab.s.aA) [.list<|aD<|aJ l []]):=by have av:=AM (d+43) (st:=f.st) (nm:=f.nm) (x:=x) (h:=h) (k:=k) (p:=f.p) (s:=f.s) (aa:=.none) [] (as (by refine Y a0 ?_;exact bK ..) hm) E;refine iA (DV (d:=d) (k:=k) (h:=[]) (f:=f) R hm z aE aP J e) λI T u y aG=>?_;rw[C,N]at aG;exact Y (di qy rfl) ⟨I,rW (X:=λD H=>aF NN tab (ay<|d+46) none (.fn 861) D H) (G:=[]) (w:=[]) J (cg f.s) .nil (cg ab.s) .nil (m:=0) (Kz (O:=ay<|d+46) (j:=199940) av aG) rfl<|.list<|g4 _⟩
end
def EH(h:bu i done=true):reach (n+1) H (i::t) done=reach n H t done:=by show(match bu i done with|true=>reach n H t done|false=>ob H[i]? λo=>reach n H (bH o++t)<|done++[i])=_;exact Y h rfl
section
variable{X:List V->aq->M V}
def HH(f:reach 4000 A (ck D) []=some (upTo A.length []))(aE:X D A=some (.exc i u))(hl:u.length=A.length)(x:i<A.length)(cl:∀(j:Nat)(o:au),u[j]? =some o->∀k∈bH o,k<A.length)(T:(cA u A.length).length<3990):bD X D A=some (.exc i u):=by
 have I:(upTo A.length []).length=A.length:=jw;have c:=lK f;have z:∀k,k∈upTo A.length []->k<A.length:=λk m=>(k8 m).resolve_right λm=>(nomatch m);have C:∀k,k<A.length->bb k (upTo A.length [])=k:=λk aP=>ly (lf (n:=A.length) (l:=[]) (λ_ m=>(nomatch m)) .nil)<|fW aP;have J:∀(j:Nat)(o:au),A[j]? =some o->∀k∈bH o,k<A.length:=λj o e k m=>by refine aZ ((c.cl j<|mem_upTo<|.inl (cc.mp e).1).resolve_left λm=>(nomatch m)) λo' e1 N=>?_;rw[e]at e1;obtain rfl:=aQ e1;exact z k<|N k m
 have W:bF (λk=>bb k<|upTo A.length []) D=D:=tY (aa:=(·<A.length)) C<|mr λk m=>z k<|c.sub k<|.inr m;have r2:ca (λk=>bb k<|upTo A.length []) A (upTo A.length [])=A:=xy λj o e=>oY (aa:=(·<A.length)) C<|i5<|J j o e;refine Y (pp f (q:=.exc i u)<|by rw[W,r2];exact aE) ?_;have O:reach 4000 u (c0 (.ref i)++cA u (upTo A.length []).length) (upTo (upTo A.length []).length [])=some (upTo (upTo A.length []).length []++[]):=by
  refine Y I<|Y (be ..)<|kY (λk m=>?_)<|fj (Nat.succ_le_of_lt T)<|by decide
  rcases bC.mp m with e|m;exact Y e<|mem_upTo<|.inl x
  .have:∀{H:aq}{n k:Nat},k∈cA H n->∃(j:Nat)(o:au),H[j]? =some o/\k∈bH o:=by
    intro H;induction H with
    |nil=>exact λm=>nomatch m|cons o H U=>intro n k m;rcases n with _|n;cases m;rcases d0.mp m with m|m;exact dZ 0 o rfl m;exact bU (U m) λj o' e m=>dZ (j+1) o' e m
   exact bU (this m) λj o e m=>mem_upTo<|.inl<|cl j o e k m
 have E:∀k,k<A.length->bt A (upTo A.length []) [] k=k:=λk aP=>by unfold bt;exact Y (fW aP) rfl
 show back A (upTo A.length []) (.ref i) u (λρ H'=>some<|.exc (ρ i) H')=_;refine(m' (y:=[]) O<|by refine Y I<|Y hl ?_;exact ba _).trans ?_;show some (R.exc (bt A (upTo A.length []) [] i)<|cn _ A (upTo A.length []) u++[])=_;refine Y (E i x)<|Y (be ..)<|az (λh=>some<|R.exc i h)<|l5 λj=>?_;rcases dE j A.length with q|q;obtain⟨o,e⟩:∃o,u[j]? =some o:=⟨_,dA<|by refine Y hl ?_;exact q⟩;exact Y (pB (lf (n:=A.length) (l:=[]) (λ_ m=>(nomatch m)) .nil) z (fW q) e)<|Y e<|Y (oY (aa:=(·<A.length)) E<|i5<|cl j o e) rfl;exact Y (eQ<|by rw[iy];exact q)<|Y (eQ<|by rw[hl];exact q) rfl
end
theorem pD:∀{ch i m},m<2*ch.length->(c7 ch i)[m]? =some (i+m)
 |[],_,_,h=>absurd h<|hy _
 |_::ch,i,0,_=>rfl|_::ch,i,1,_=>rfl
 |_::ch,i,m+2,h=>by
  have e:(c7 ch<|i+2)[m]? =some (i+2+m):=pD<|by rw[cv,gB]at h;exact Nat.lt_of_add_lt_add_right h
  rw[cz,cF 2]at e;exact e
def Ot:cj++c7 ch 11=upTo (2*ch.length+11) []:=by refine l5 λj=>?_;have f:(upTo (2*ch.length+11) []).length=2*ch.length+11:=jw;rcases dE j 11 with q|q;refine Y (fW<|cB q<|bT ..) (Y (dO q) ?_);exact(fW (n:=11) (l:=[]) q);refine Y (dr q) ?_;show(c7 ch 11)[j-11]? =_;rcases dE (j-11) (2*ch.length)with r|r;exact Y (pD r)<|Y (fW<|a7 r (cm j 11)<|by simp+arith)<|Y (kT q) rfl;exact Y (eQ<|by rw[xc];exact r)<|Y (eQ<|by rw[f];exact Nat.add_le_of_le_sub q r) rfl
theorem Ap:∀{ch i m},(cA (fo ch i) m).length<=2*ch.length
 |[],_,m=>by cases m<;>exact bJ _
 |c::ch,i,0=>bJ _
 |c::ch,i,1=>by
  have e:(cA (fo (c::ch) i) 1).length<=2:=by cases ch<;>exact bE rfl
  exact as e<|by refine Y cv<|Y (gB ..) ?_;exact bT ..
 |c::ch,i,m+2=>by have e:=Ap (ch:=ch) (i:=i+2) (m:=m);rw[cv,gB];rcases ch with _|⟨d,ch⟩;exact fD<|as e<|bJ 1;exact l7 e 2
section
variable{st:Nat}
def xz(h:aH nm)(j:cC E)(f:ch.length<=9):reach 4000 (cV st nm E 11<|fo (c::ch) 11) [0] []=some (upTo (2*(ch.length+1)+11) []):=by
 refine Y (show 2*(ch.length+1)+11=2*(c::ch).length+11 from rfl)<|Y Ot.symm ?_;have a:At (cV st nm E 11<|fo (c::ch) 11) 11 (fo (c::ch) 11):=vB (R:=[]) (aa:=.ref 11) rfl;generalize u:cV st nm E 11 (fo (c::ch) 11)=H at a⊢;have g:∀{i:Nat}{o:au},(cV st nm E 11<|fo (c::ch) 11)[i]? =some o->H[i]? =some o:=λe=>u▸e;have z:3988=(3988-2*(ch.length+1))+2*(ch.length+1):=(bx<|as (hK 2<|fD f)<|by decide).symm;have C:0<3988-2*(ch.length+1):=Nat.sub_pos_of_lt<|fj (hK 2<|fD f)<|by decide
 refine(cW rfl<|g rfl).trans<|(cW rfl<|g rfl).trans<|(cW rfl<|g rfl).trans<|(cW rfl<|g rfl).trans<|(cW rfl<|g rfl).trans<|(cW rfl<|g rfl).trans<|(cW rfl<|g rfl).trans<|(cW rfl<|g rfl).trans<|(EH rfl).trans<|(cW rfl<|g rfl).trans<|(cW rfl<|g rfl).trans ?_;show reach 3989 H (ck nm++[10,11]) _=_;exact Y h.1<|(cW rfl<|g rfl).trans<|Y j.1<|(az (λn=>reach n H [11] cj) z).trans<|(nv c ch 11 cj a λk m=>.inl<|ri k m).trans<|kY (λ_ m=>nomatch m) C
end
section
variable{X:List V->aq->M V}{st:Nat}
def ML(f:aH nm)(y:cC E):cA (cV st nm E 11 af) (m+11)=[1,10,11,2,7,9,3,4,5,6,3,8]++cA af m:=by have e:cA (cV st nm E 11 af) (m+11)=[1,10,11,2,7,9,3,4,5,6,3,8]++(ck nm++(bH E++cA af m)):=rfl;exact Y e<|Y f.1<|Y y.1 rfl
def vx(f:aH nm)(y:cC E)(x:cC h)(z:aH w)(u:ch.length<=9)(aE:X (.ref 0::w) (cV st nm E 11<|fo (c::ch) 11)=some (.exc 11<|cV st nm h 11<|fo (c::ch) 11)):bD X (.ref 0::w) (cV st nm E 11<|fo (c::ch) 11)=some (.exc 11<|cV st nm h 11<|fo (c::ch) 11):=by have C:∀p,(cV st nm p 11<|fo (c::ch) 11).length=2*(ch.length+1)+11:=λp=>az (·+11)<|uc (ch:=c::ch);refine HH ?_ aE ((C h).trans (C E).symm) ?_ (λj o e k m=>?_) ?_;exact Y (nS z)<|Y (C ..)<|xz f y u;exact Y (C ..)<|cB (by decide:11<2+11)<|l7 (by refine Y (gB ..) ?_;exact bT ..) 11;have r:=lK (xz (c:=c) (st:=st) f x u);refine aZ ((r.cl j<|mem_upTo<|.inl<|by refine Y (C h).symm ?_;exact(cc.mp e).1).resolve_left λm=>(nomatch m)) λo' e1 I=>?_;rw[e]at e1;obtain rfl:=aQ e1;exact Y (C ..)<|(k8<|I k m).resolve_right λm=>(nomatch m);refine Y (C ..) (Y (ML f x)<|Y a0 ?_);have b:(cA (fo (c::ch) 11)<|2*(ch.length+1)).length<=2*(ch.length+1):=Ap;have D:2*(ch.length+1)<=20:=hK 2<|fD u;exact fj (hO (as b D) 12)<|by decide
end
section
variable{st:Nat}{s:Seen}
def Ey(f:aH nm)(u:ch.length<=9):ay (d+1) none (.fn 868) [.ref 0,.bool E] (cV st nm (ax x k p h s.aA) 11<|fo (c::ch) 11)=some (.exc 11<|cV st nm (ax x k p h s.aA) 11<|fo (c::ch) 11):=(di CG rfl).trans (vx f (cg s) (cg s) (.cons .bool .nil) u<|T9 (O:=ay d) (j:=199940))
def FY(f:aH nm)(u:ch.length<=9)(hm:x.length<=bf)(y:h.length+I.length<=20000)(aE:x.drop k=r)(aP:k<=x.length):ay (d+4) none (.fn 854) [.ref 0,.str I] (cV st nm (ax x k p h s.aA) 11<|fo (c::ch) 11)=some (.exc 11<|cV st nm (ax (r++a' (bW h I)) 0 p (fK h I) s.aA) 11<|fo (c::ch) 11):=(di q1 rfl).trans (vx f (cg s) (cg s) (.cons .str .nil) u<|Bn (O:=ay<|d+3) (j:=199940) (CF d (aa:=.ref 11) (fo (c::ch) 11) aE aP hm y)<|Ey (d:=d+2) f u)
def MM(f:aH nm)(u:ch.length<=9)(hm:x.length<=bf)(y:h.length<=1):ay (d+4) none (.fn 861) [.ref 0] (cV st nm (ax x k p h s.aA) 11<|fo (c::ch) 11)=some (.exc 11<|cV st nm (ax (x++a' h) k p [] s.aA) 11<|fo (c::ch) 11):=(di qy rfl).trans (vx f (cg s) (cg s) .nil u<|QL (O:=ay<|d+3) (j:=199940) (AM d (aa:=.ref 11) (fo (c::ch) 11) hm y)<|Ey (d:=d+2) f u)
end
def SB(b st:Nat)(nm:List V)(E:au)(aa:V)(G:aq):aq:=.inst 921 [(iG,.int 20),(iQ,.int 100000)]::.inst 1070 [(el,.ref b),(j1,.ref<|b+2),(jH,.ref<|b+3),(kO,.ref<|b+4)]::.dict []::.dict []::.dict []::
 .inst 899 [(mG,.ref<|b+6),(mD,.none),(la,.ref<|b+10),(mH,.int st),(mR,.bool false),(mZ,aa)]::.inst 828 [(eG,.ref<|b+1),(eU,.ref<|b+7),(iN,.ref<|b+9)]::
 .inst 377 [(el,.ref b),(gT,.int 0),(gE,.ref<|b+8)]::.list []::.list nm::E::G
def LH(N:List V)(pt:Option V)(st:Nat)(nm:List V)(E:au)(aa:V)(G:aq):aq:=.list N::.cell pt::.cell (some<|.ref 8)::SB 3 st nm E aa G
noncomputable abbrev KL:List Nat:=[8,9,4,3,5,6,7,10,11,12,13]
noncomputable abbrev KT:List Nat:=[7,8,3,2,4,5,6,9,10,11,12]
section
variable{st:Nat}{af:aq}
def CJ(f:aH nm)(h:cC E):reach 4000 (LH N pt st nm E .none G) [8] []=some KL:=by have e:fX (LH N pt st nm E .none G)=ck N::(match pt with|none=>[]|some a=>c0 a)::[8]::[]::[3,5,6,7]::[]::[]::[]::[9,13]::[4,10,12]::[3,11]::[]::ck nm::bH E::fX G:=rfl;exact Y mU<|Y e<|Y f.1<|Y h.1 rfl
def Fd(f:aH nm)(h:cC E):ca (λi=>bb i KL) (LH N pt st nm E .none G) KL=ak st nm E []:=by show _::_::_::_::_::_::_::_::_::au.list (bF _ nm)::bn _ E::[]=_;exact Y (f.2 ..)<|Y (h.2 ..) rfl
def td(x:aH w):ck (.ref i::w)=[i]:=by show[i]++ck w=_;exact Y x.1 rfl
def r7(x:aH w)(l)(h:bb i l=j):bF (λi=>bb i l) (.ref i::w)=.ref j::w:=by show V.ref (bb i l)::bF _ w=_;exact Y (x.2 ..)<|Y h rfl
def u6(f:aH u)(h:cC k)(x:∀i,i<11->ρ i=KL.getD i 0):cn ρ (LH N pt st nm E j G) KL (bL ae aa::(rest u++(k::af)))=LH N pt ae u k (bl ρ aa) G:=by
 have e:cn ρ (LH N pt st nm E j G) KL (bL ae aa::(rest u++(k::af)))=.list N::.cell pt::.cell (some<|.ref 8)::.inst 921 [(iG,.int 20),(iQ,.int 100000)]::.inst 1070 [(el,.ref<|ρ 3),(j1,.ref<|ρ 4),(jH,.ref<|ρ 5),(kO,.ref<|ρ 6)]::.dict []::.dict []::.dict []::
  .inst 899 [(mG,.ref<|ρ 1),(mD,.none),(la,.ref<|ρ 10),(mH,.int ae),(mR,.bool false),(mZ,bl ρ aa)]::.inst 828 [(eG,.ref<|ρ 2),(eU,.ref<|ρ 7),(iN,.ref<|ρ 9)]::
  .inst 377 [(el,.ref<|ρ 3),(gT,.int 0),(gE,.ref<|ρ 8)]::.list []::.list (bF ρ u)::bn ρ k::G:=rfl
 exact Y e<|Y (f.2 ..)<|Y (h.2 ..)<|Y (x 1<|by decide)<|Y (x 2<|by decide)<|Y (x 3<|by decide)<|Y (x 4<|by decide)<|Y (x 5<|by decide)<|Y (x 6<|by decide)<|Y (x 7<|by decide)<|Y (x 8<|by decide)<|Y (x 9<|by decide)<|Y (x 10<|by decide) rfl
def yx:∀i,i<11->df H KL i=KL.getD i 0:=λi h=>by unfold df;obtain⟨k,e⟩:∃k,KL[i]? =some k:=⟨_,dA h⟩;refine Y e ?_;show k=(KL[i]?).getD 0;exact Y e rfl
def IB(f:aH nm)(h:cC E)(z:aH u)(C:cC k)(x:aH w)(y:bD X (.ref 0::w) (ak st nm E [])=some (.ok (.ref 11)<|ak ae u k [.list<|aD l])):bD X (.ref 8::w) (LH N pt st nm E .none G)=some (.ok (.ref<|G.length+14)<|LH N pt ae u k .none<|G++[.list<|aD l]):=by refine(hr (U:=.ref 0::w) (J:=KL) (by refine Y (td x) ?_;exact CJ f h) (r7 x _ rfl) (Fd f h) (by refine Y (nS x) ?_;exact tw f h) y).trans ?_;show some (R.ok (V.ref<|G.length+14)<|cn (df (LH N pt st nm E .none G) KL) (LH N pt st nm E .none G) KL (bL ae .none::(rest u++(k::[.list<|aD l])))++[.list<|bF _<|aD l])=_;exact Y (u6 z C yx)<|Y ((g4 l).2 ..) rfl
def Lu(f:aH nm)(h:cC E)(z:aH u)(C:cC k)(x:aH w)(y:bD X (.ref 0::w) (ak st nm E [])=some (.exc 11<|cV ae u k 11<|fo ch 11)):bD X (.ref 8::w) (LH N pt st nm E .none G)=some (.exc (G.length+14)<|LH N pt ae u k (.ref<|G.length+14)<|G++fo ch (G.length+14)):=by refine(hr (U:=.ref 0::w) (J:=KL) (by refine Y (td x) ?_;exact CJ f h) (r7 x _ rfl) (Fd f h) (by refine Y (nS x) ?_;exact tw f h) y).trans ?_;show some (R.exc (G.length+14)<|cn (df (LH N pt st nm E .none G) KL) (LH N pt st nm E .none G) KL (bL ae (.ref 11)::(rest u++(k::fo ch 11)))++io (df (LH N pt st nm E .none G) KL) (fo ch 11))=_;rw[u6 z C yx,we (i:=11) (j:=G.length+14) λm=>?_];rfl;unfold df;refine Y (eQ<|show KL.length<=11+m from bK ..) ?_;show G.length+14+(11+m-11)=_;exact Y (ew ..) rfl
end
def Ko:∀{a},ca ρ H (a++b)=ca ρ H a++ca ρ H b:=by
 intro a;induction a with
 |nil=>exact rfl|cons _ a f=>exact az (_::·)<|f
def Mx:∀{a},i∉a->bb i (a++b)=a.length+bb i b:=by
 intro a;induction a with
 |nil=>intro _;exact(eT _).symm
 |cons k a f=>intro h;show(match Nat.beq k i with|true=>0|false=>bb i (a++b)+1)=_;rw[iI (a:=k) (b:=i) λe=>h<|by rw[e];exact .head _];show bb i (a++b)+1=a.length+1+bb i b;rw[f λm=>h<|.tail _ m,rr]
theorem z5:∀{a A H},A.length=a.length->cn ρ H (a++b) (A++B)=cn ρ (cn ρ H a A) b B
 |[],[],_,_=>rfl|[],_::_,_,h=>by cases h
 |_::_,[],_,h=>by cases h
 |k::a,o::A,H,h=>z5 (a:=a) (A:=A) (H:=H.set k<|bn ρ o)<|hD h
theorem FC:∀{l H B},(∀(j k:Nat) o,l[j]? =some k->B[j]? =some o->H[k]? =some (bn ρ o))->cn ρ H l B=H
 |[],_,_,_=>rfl|_::_,_,[],_=>rfl
 |k::l,H,o::B,h=>by
  have e:=h 0 k o rfl rfl;have s:H.set k (bn ρ o)=H:=by refine l5 λj=>?_;rw[List.getElem?_set];split;rename_i q;subst q;rw[bZ (cc.mp e).1,e];rfl
  show cn ρ (H.set k<|bn ρ o) l B=H;rw[s];exact FC λj k o e1 f=>h (j+1) k o e1 f
def DN:∀k∈KL,k<14:=by decide
section
variable{st:Nat}
def mI(j:At af g<|fo ch i)(f:i=g+14):At (LH N pt st nm E (.ref i) af) i (fo ch i):=λm o e=>by have h:=j m o e;rw[f,rr];exact h
def SU(x:aH nm)(D:cC E)(y:ch.length<=9)(I:At af g<|fo (c::ch) i)(f:i=g+14):reach 4000 (LH N pt st nm E (.ref i) af) [8] []=some (KL++c7 (c::ch) i):=by
 have a:=mI (N:=N) (pt:=pt) (st:=st) (nm:=nm) (E:=E) (ch:=c::ch) I f;have j:14<=i:=by rw[f];exact bT ..
 generalize u:LH N pt st nm E (.ref i) af=H at a⊢;have h:∀{k:Nat}{o:au},(LH N pt st nm E (.ref i) af)[k]? =some o->H[k]? =some o:=λe=>u▸e;have z:3988=(3988-2*(ch.length+1))+2*(ch.length+1):=(bx<|as (hK 2<|fD y)<|by decide).symm;have C:0<3988-2*(ch.length+1):=Nat.sub_pos_of_lt<|fj (hK 2<|fD y)<|by decide
 refine(cW rfl<|h rfl).trans<|(cW rfl<|h rfl).trans<|(cW rfl<|h rfl).trans<|(cW rfl<|h rfl).trans<|(cW rfl<|h rfl).trans<|(cW rfl<|h rfl).trans<|(cW rfl<|h rfl).trans<|(cW rfl<|h rfl).trans<|(EH rfl).trans<|(cW rfl<|h rfl).trans<|(cW rfl<|h rfl).trans ?_;show reach 3989 H (ck nm++[13,i]) _=_;rw[x.1];refine(cW rfl<|h rfl).trans ?_;rw[D.1];exact(az (λn=>reach n H [i] KL) z).trans<|(nv c ch i KL a λk m=>.inl<|cB (DN k m) j).trans<|kY (λ_ m=>nomatch m) C
def Ct(x:aH nm)(D:cC E)(C:cC u)(z:aH w)(y:ch.length<=9)(O:At af g<|fo (c::ch) i)(f:i=g+14)(aE:bD X (.ref 0::w) (cV st nm E 11<|fo (c::ch) 11)=some (.exc 11<|cV st nm u 11<|fo (c::ch) 11)):bD X (.ref 8::w) (LH N pt st nm E (.ref i) af)=some (.exc i<|LH N pt st nm u (.ref i) af):=by
 have ge:14<=i:=by rw[f];exact bT ..
 have qz:∀m,i+m∉KL:=λm h=>n9 14<|fj (as ge<|bK i m)<|DN _ h;have ln:(KL++c7 (c::ch) i).length=2*(ch.length+1)+11:=by rw[a0,xc,cF];rfl
 have W:∀m,m<2*(c::ch).length->bb (i+m) (KL++c7 (c::ch) i)=11+m:=λm hm=>by rw[Mx<|qz m,DY hm];rfl
 have i0:bb i (KL++c7 (c::ch) i)=11:=W 0<|Nat.mul_pos (by decide)<|lQ _;have pk:ca (λk=>bb k<|KL++c7 (c::ch) i) (LH N pt st nm E (.ref i) af) (KL++c7 (c::ch) i)=cV st nm E 11 (fo (c::ch) 11):=by rw[Ko,u0 (ch:=c::ch) (j:=11) (mI O f) W];show .inst 899 [(mG,.ref 1),(mD,.none),(la,.ref 10),(mH,.int st),(mR,.bool false),(mZ,.ref<|bb i<|KL++c7 (c::ch) i)]::_::_::_::_::_::_::_::_::au.list (bF _ nm)::bn _ E::fo (c::ch) 11=_;rw[x.2,D.2,i0];rfl
 refine(hr (U:=.ref 0::w) (J:=KL++c7 (c::ch) i) (by rw[td z];exact SU x D y O f) (r7 z _ rfl) pk (by rw[nS z,ln];exact xz x D y) aE).trans ?_;have r2:∀m,m<2*(c::ch).length->df (LH N pt st nm E (.ref i) af) (KL++c7 (c::ch) i) (11+m)=i+m:=λm hm=>by unfold df;rw[dr<|show KL.length<=11+m from bK ..];show(match(c7 (c::ch) i)[11+m-11]? with|some k=>k|none=>_)=_;rw[ew,pD hm]
 have rl:∀j,j<11->df (LH N pt st nm E (.ref i) af) (KL++c7 (c::ch) i) j=KL.getD j 0:=λj I=>by unfold df;rw[dO I];obtain⟨k,e⟩:∃k,KL[j]? =some k:=⟨_,dA I⟩;rw[e];show k=(KL[j]?).getD 0;rw[e];rfl
 have r0:df (LH N pt st nm E (.ref i) af) (KL++c7 (c::ch) i) 11=i:=r2 0<|Nat.mul_pos (by decide)<|lQ _;have dn:qB (KL++c7 (c::ch) i).length (cV st nm u 11<|fo (c::ch) 11)=[]:=by
  have:=xh (n:=(KL++c7 (c::ch) i).length) (A:=cV st nm u 11<|fo (c::ch) 11) (B:=[])<|by rw[ln];exact az (·+11)<|uc (ch:=c::ch)
  rwa [be]at this
 show some (R.exc (df _ _ 11)<|cn _ _ (KL++c7 (c::ch) i) ((bL st (.ref 11)::(rest nm++[u]))++fo (c::ch) 11)++io _ (qB (KL++c7 (c::ch) i).length<|cV st nm u 11<|fo (c::ch) 11))=_;rw[dn,r0,z5 (a:=KL) (A:=bL st (.ref 11)::(rest nm++[u])) rfl,u6 (af:=[]) x C rl];show some (R.exc i<|cn _ (LH N pt st nm u (.ref<|df _ _ 11) _) _ _++[])=_;rw[r0,be];refine az (λh=>some<|R.exc i h)<|FC λj k o e1 e2=>?_;have I:j<2*(c::ch).length:=by rw[<-xc (i:=i)];exact(cc.mp e1).1
 rw[pD I]at e1;obtain rfl:=aQ e1;have T:At (cV st nm u 11<|fo (c::ch) 11) 11 (fo (c::ch) 11):=vB (R:=[]) (aa:=.ref 11) rfl;have p:=nJ (ρ:=df (LH N pt st nm E (.ref i) af)<|KL++c7 (c::ch) i) (pD (i:=11) I)<|T j o e2;rw[u0 T r2]at p;exact mI O f j _ p
end
noncomputable def BF:Expr->Expr×Scope|.Call _ (.Lambda _ e sc _::_) _ _=>(e,sc)|_=>(.Constant .none 0 ⟨0,0,0,0⟩,⟨.function,[],false,false,[]⟩)
noncomputable def valOf:Stmt->Expr|.Assign _ e _=>e|_=>.Constant .none 0 ⟨0,0,0,0⟩
def Ba:Expr×Scope:=BF<|valOf<|(yh<|fS 1112 1).headD<|.Pass ⟨0,0,0,0⟩
abbrev nQ:V:=.bY Ba.1 Ba.2 [(h4,1),(gD,2)]
section
variable{O:ap}{pl:Nat}
def FX(m:O none (.bY x sc cl) [] H=some (.ok v H')):Do j O 1107 [.bY x sc cl] H .none H':=by exact am [(u2,V.bY x sc cl)] rfl<|sk 1<|aj Q.m m rfl rfl
def zE(m:O none (.bY x sc cl) [] H=some (.exc i H'))(g:H'[i]? =some (.exc 150 (some d) y))(f:mW tab (.ref i) b7 H'=some (.ok (.int pl) H')):Do j O 1107 [.bY x sc cl] H (.int pl) H':=by exact am [(u2,V.bY x sc cl)] rfl<|sk 1<|aj Q.m m rfl<|aj Q.o g rfl<|sk 1<|aj Q.m f rfl rfl
def IC(m:O none (.fn 861) [.ref 8] H=some (.exc i H'))(g:H'[i]? =some (.exc 150 (some d) y))(f:mW tab (.ref i) b7 H'=some (.ok (.int pl) H')):Do j O 1107 [.bm 861 8] H (.int pl) H':=by exact am [(u2,V.bm 861 8)] rfl<|sk 1<|aj Q.m m rfl<|aj Q.o g rfl<|sk 1<|aj Q.m f rfl rfl
def vl{c:List Nat×Nat}(g:H[i]? =some (.exc 150 (some d) y))(f:H[d]? =some (.dict [(dN,.str c.1),(b7,.int c.2)])):mW tab (.ref i) b7 H=some (.ok (.int c.2) H):=by show ob H[i]? _=_;refine Y g ?_;show ob (jD H[d]?) _=_;exact Y f rfl
variable{st:Nat}
def FS(m:O none (.fn 854) [.ref 8,.str pt] (LH N (some<|.str pt) st nm E aa G)=some (.ok v H')):aF (j+60) tab O none nQ [] (LH N (some<|.str pt) st nm E aa G)=some (.ok v H'):=by exact ug rfl<|sk 3<|aj Q.m m rfl rfl
def T'(m:O none (.fn 854) [.ref 8,.str pt] (LH N (some<|.str pt) st nm E aa G)=some (.exc i H')):aF (j+60) tab O none nQ [] (LH N (some<|.str pt) st nm E aa G)=some (.exc i H'):=by exact ug rfl<|sk 3<|aj Q.m m rfl rfl
end
abbrev kI(pl:Nat)(f:V)(tl:Loc):Loc:=(gD,.ref 2)::(h4,.ref 1)::(oC,.ref 0)::(b7,.int pl)::(pX,f)::tl
def T1{pl:Nat}:cM .NotEq (.int pl) (.int pl) H=some false:=by show some (!Nat.beq pl pl)=_;exact Y (eg ..) rfl
section
variable{O:ap}{tx:List Nat}{st:Nat}{f:Nat}
def C1(he:N[k]? =some (.str tx))(m:O none (.fn 1107) [nQ] (LH N (some<|.str tx) st nm E aa G)=some (.ok v<|LH N (some<|.str tx) ae u h C z)):bv O (j+40) 1112 1 (.ref 0) k (kI pl .none tl) (LH N pt st nm E aa G)=bv O (j+39) 1112 1 (.ref 0) (k+1) (kI pl v<|put jb v tl) (LH N (some<|.str tx) ae u h C z):=by have y:=az some he;have s:=ee (x:=jb) (v:=v) (l:=tl);exact e5 y<|sk 3<|aj Q.m m rfl<|sk 5<|aj Q.v s rfl rfl
def UA(he:N[k]? =some (.str tx))(m:O none (.fn 1107) [nQ] (LH N (some<|.str tx) st nm E aa G)=some (.ok (.int f)<|LH N (some<|.str tx) ae u h C z)):bv O (j+40) 1112 1 (.ref 0) k (kI pl (.int f) tl) (LH N pt st nm E aa G)=bv O (j+39) 1112 1 (.ref 0) (k+1) (kI pl (.int f)<|put jb (.int f) tl) (LH N (some<|.str tx) ae u h C z):=by have y:=az some he;have s:=ee (x:=jb) (v:=.int f) (l:=tl);have c:=T1 (pl:=f) (H:=LH N (some<|.str tx) ae u h C z);exact e5 y<|sk 3<|aj Q.m m rfl<|sk 4<|aj Q.v s rfl<|sk 1<|aj Q.c c rfl<|sk 2<|aj Q.v s rfl rfl
end
noncomputable def kN:Expr->Expr×Scope|.ListComp e _ sc _=>(e,sc)|e=>(e,⟨.function,[],false,false,[]⟩)
def tX:Expr×Scope:=kN<|match ol (valOf<|fS 1112 3)with|some p=>p.1|none=>.Constant .none 0 ⟨0,0,0,0⟩
def q3:Expr×Scope:=BF tX.1
abbrev t3(m:Nat):V:=.bY q3.1 q3.2 [(hC,m),(gD,2)]
abbrev ue(O:ap)(j:Nat)(loc:Loc)(aY:V)(k:Nat)(U:List V)(H:aq):M (List V):=(ev tab O j).lc ⟨tX.2.names,none,(dh 1112).lam⟩ loc hC tX.1 [] aY k U H
section
variable{O:ap}{tx:List Nat}{st:Nat}{af:aq}
def Lp(f:g5 tab ⟨q3.2.names,none,none⟩ (db [(hC,m),(gD,2)]) gD H=some (.ok (.ref 8) H))(h:g5 tab ⟨q3.2.names,none,none⟩ (db [(hC,m),(gD,2)]) hC H=some (.ok (.str tx) H))(g:dx tab O none (.ref 8) ⟨#[102,101,101,100]⟩ H=some λD H=>dU tab O none 854 (.ref 8::D) H)(e:O none (.fn 854) [.ref 8,.str tx] H=some (.exc i H')):aF (j+60) tab O none (t3 m) [] H=some (.exc i H'):=by exact ug rfl<|aj Q.m f rfl<|aj Q.g g rfl<|aj Q.m h rfl<|aj Q.m e rfl rfl
def yf(h:af[g]? =some o):(LH N pt st nm E aa af)[g+14]? =some o:=h
def C9(x:L[k]? =some b)(av:O none (.fn 1107) [t3<|(af++[au.list L]).length+14] (LH N pt st nm E aa<|af++[au.list L]++[.cell<|some b])=some (.ok v<|LH N pt st nm u aa<|af++[au.list L]++[.cell<|some b]))(f:cr (U.length+1)=true):ue O (j+40) [(hC,.ref<|(af++[au.list L]).length+14),(gD,.ref 2)] (.ref<|af.length+14) k U (LH N pt st nm E aa<|af++[au.list L]++[.cell w])=ue O (j+39) [(hC,.ref<|(af++[au.list L]).length+14),(gD,.ref 2)] (.ref<|af.length+14) (k+1) (U++[v]) (LH N pt st nm u aa<|af++[au.list L]++[.cell<|some b]):=by
 have h:dI (.ref<|af.length+14) k (LH N pt st nm E aa<|af++[au.list L]++[.cell w])=some (some b):=by show(match(af++[au.list L]++[.cell w])[af.length]? with|some (.list l)=>some l[k]? |_=>none)=_;exact Y (bq ..)<|Y (show[au.list L]++[au.cell w]=[.list L,.cell w] from rfl)<|Y iF<|az some x
 have s:fV ⟨tX.2.names,none,(dh 1112).lam⟩ hC b [(hC,.ref<|(af++[au.list L]).length+14),(gD,.ref 2)] (LH N pt st nm E aa<|af++[au.list L]++[.cell w])=some (.ok .next [(hC,.ref<|(af++[au.list L]).length+14),(gD,.ref 2)]<|LH N pt st nm E aa<|af++[au.list L]++[.cell<|some b]):=by show cE (af++[au.list L]++[.cell w])[(af++[au.list L]).length]? _=_;refine Y cU ?_;have e:=nV (H:=af++[.list L]) (a:=.cell w) (b:=.cell<|some b);exact Y e.symm rfl
 exact nh h<|aj Q.s s rfl<|sk 3<|aj Q.m av rfl<|aj Q.b f rfl rfl
end
def fb:au:=ax [] 0 0 [] .none
def g1:au:=.inst 921 [(iG,.int 20),(iQ,.int 100000)]
def Tf:au:=.inst 1070 [(el,.ref 3),(j1,.ref 5),(jH,.ref 6),(kO,.ref 7)]
noncomputable abbrev A0(N:List V):aq:=[.list N,.cell none,.cell none]
abbrev A2(N:List V):aq:=[.list N,.cell none,.cell none,g1,Tf,.dict [],.dict [],.dict []]
section
variable{st pl:Nat}
def NQ(f:H[i]? =some (.list [.int pl,.int pl,.int pl]))(h:H[k]? =some (.list [.int pl,.int pl,.int pl])):cM .Eq (.ref i) (.ref k) H=some true:=by show on (same 39 H) H[i]? H[k]? =_;refine Y f<|Y h ?_;show ob (some<|Nat.beq pl pl) (λx=>ob (ob (some<|Nat.beq pl pl) λx=>ob (ob (some<|Nat.beq pl pl) λx=>ob (some true) λy=>some<|match x with|true=>y|false=>false) λy=>some<|match x with|true=>y|false=>false) λy=>some<|match x with|true=>y|false=>false)=_;exact Y (eg ..) rfl
noncomputable abbrev iL(pl n:Nat):au:=.list<|List.replicate n<|.int pl
def OR(f:(LH N pt st nm E aa Z)[k]? =some (.list a))(h:(LH N pt st nm E aa Z)[k2]? =some (.list b))(j:cr (a.length+b.length)=true):bin .Add (.ref k) (.ref k2) (LH N pt st nm E aa Z)=some (.ok (.ref<|Z.length+14)<|LH N pt st nm E aa<|Z++[.list<|a++b]):=by show ob (dp (LH N pt st nm E aa Z)[k]?) _=_;refine Y f ?_;show ob (dp (LH N pt st nm E aa Z)[k2]?) _=_;refine Y h ?_;show aw (cr<|a.length+b.length) _=_;exact Y j rfl
def Tq(f:(LH N pt st nm E aa Z)[k]? =some (iL pl 1)):bin .Mult (.ref k) (.int ((3:Nat):Int)) (LH N pt st nm E aa Z)=some (.ok (.ref<|Z.length+14)<|LH N pt st nm E aa<|Z++[iL pl 3]):=by show ob (dp (LH N pt st nm E aa Z)[k]?) _=_;exact Y f rfl
def vM{o:au}:(LH N pt st nm E aa<|Z++[o])[Z.length+14]? =some o:=yf cU
def OI{o b:au}:(LH N pt st nm E aa<|Z++[o]++[b])[Z.length+14]? =some o:=yf<|by refine Y (bq ..) ?_;exact iF
def L5{o a b:au}:(LH N pt st nm E aa<|Z++[o]++[a]++[b])[Z.length+14]? =some o:=yf<|by refine Y (bq ..)<|Y (bq ..)<|Y (dr<|ba _)<|Y (er ..) ?_;rfl
def Pd(c1:bP tab O none (.fn 921) [] (A0 N)=some (.ok (.ref 3)<|A0 N++[g1]))(c2:bP tab O none (.fn 1070) [.ref 3] (A0 N++[g1])=some (.ok (.ref 4)<|A2 N))(y:bP tab O none (.fn 899) [.ref 4] (A2 N)=some (.ok (.ref 8)<|.list N::.cell none::.cell none::SB 3 0 [] fb .none []))(l:bv O (j+59) 1112 1 (.ref 0) 0 (kI pl .none []) (LH N none 0 [] fb .none [])=some (.ok .next (kI pl (.int pl) tl)<|LH N pt st nm E aa af))(m:ue O (j+57) [(hC,.ref<|(af++[au.list [.str [60,47,97,62],.str []]]).length+14),(gD,.ref 2)] (.ref<|af.length+14) 0 [] (LH N pt st nm E aa<|af++[au.list [.str [60,47,97,62],.str []]]++[.cell none])=some (.ok [.int pl,.int pl]<|LH N pt st nm h aa Z))(aG:O none (.fn 1107) [.bm 861 8] (LH N pt st nm h aa<|Z++[iL pl 2])=some (.ok (.int pl)<|LH N pt st nm f aa<|Z++[iL pl 2])):aF (j+60) tab O none (.fn 1112) [.ref 0,.int pl] [.list N]=some (.ok (.bool true)<|LH N pt st nm f aa<|Z++[iL pl 2]++[iL pl 1]++[iL pl 3]++[iL pl 1]++[iL pl 3]):=by
 have b1:=OR (Z:=Z++[iL pl 2]++[iL pl 1]) (N:=N) (pt:=pt) (st:=st) (nm:=nm) (E:=f) (aa:=aa) (k:=Z.length+14) (a:=[.int pl,.int pl]) (OI) (k2:=(Z++[iL pl 2]).length+14) (b:=[.int pl]) vM rfl;have u:=Tq (pl:=pl) (Z:=Z++[iL pl 2]++[iL pl 1]++[iL pl 3]++[iL pl 1]) (N:=N) (pt:=pt) (st:=st) (nm:=nm) (E:=f) (aa:=aa) (k:=(Z++[iL pl 2]++[iL pl 1]++[iL pl 3]).length+14) vM;have q:=NQ (pl:=pl) (H:=LH N pt st nm f aa<|Z++[iL pl 2]++[iL pl 1]++[iL pl 3]++[iL pl 1]++[iL pl 3]) (i:=(Z++[iL pl 2]++[iL pl 1]).length+14) (k:=(Z++[iL pl 2]++[iL pl 1]++[iL pl 3]++[iL pl 1]).length+14) L5 vM;have e:=az some<|eg pl;have z:eN (.ref<|af.length+14) (LH N pt st nm E aa<|af++[au.list [.str [60,47,97,62],.str []]])=true:=by show(match(af++[au.list [.str [60,47,97,62],.str []]])[af.length]? with|some (.list _)=>true|_=>false)=true;exact Y cU rfl
 have s:=ee (x:=N4) (v:=.ref<|(Z++[iL pl 2]++[iL pl 1]).length+14) (l:=tl);exact nj (H':=[au.list N,au.cell none,au.cell none]) [(gD,V.ref<|List.length<|[au.list N]++[au.cell none]),(h4,V.ref [au.list N].length),(oC,V.ref 0),(b7,V.int ↑pl)] rfl<|sk 3<|aj Q.m c1 rfl<|aj Q.m c2 rfl<|aj Q.m y rfl<|sk 3<|aj Q.s l rfl<|sk 3<|aj Q.b z rfl<|aj Q.l m rfl<|sk 3<|aj Q.m aG rfl<|aj Q.m b1 rfl<|sk 3<|aj Q.c e rfl<|sk 1<|aj Q.v s rfl<|sk 1<|aj Q.m u rfl<|aj Q.c q rfl rfl
end
noncomputable def aY(a b:Nat):au:=.list [.int a,.int b]
def oE{a t:Nat}(h:0<t):bin .Mod (.int a) (.int t) H=some (.ok (.int (a%t:Nat)) H):=by show aw (Nat.blt 0 t) (rt (V.int<|Int.fmod (a:Int) (t:Int)) H)=_;exact Y (dw h)<|Y (Int.ofNat_fmod ..).symm rfl
def Ai{a t:Nat}(h:0<t)(ht:t<=1000000):bin .FloorDiv (.int a) (.int t) H=some (.ok (.int (a/t:Nat)) H):=by show aw (Nat.blt 0 t&&dd (t:Int)) (rt (V.int<|Int.fdiv (a:Int) (t:Int)) H)=_;exact Y (dw h)<|Y (j5 ht)<|Y (Int.ofNat_fdiv ..).symm rfl
def x2{a b:Nat}(h:a<4611686018427387904):bin .Mult (.int a) (.int b) H=some (.ok (.int (a*b:Nat)) H):=by show aw (Nat.blt a 4611686018427387904||dd (b:Int)) (rt (V.int<|(a:Int)*(b:Int)) H)=_;exact Y (dw h) rfl
section
variable{b t:Nat}
noncomputable def gen(b:Nat):Nat:=(b*39373+7)%2147483647
def Qm(h:0<t)(ht:t<=1000000)(f:Nat.blt 0 a=true):Do j O 1088 [.ref 0,.int t] [aY a b] (.int (a%t:Nat)) [aY (a/t) b]:=by have e1:=oE (a:=a) (t:=t) (H:=[aY a b]) h;have k:=Ai (a:=a) (t:=t) (H:=[aY a b]) h ht;have u:=az some f;clear h ht f;exact am [(hW,V.ref 0),(yE,V.int ↑t)] rfl<|sk 2<|aj Q.c u rfl<|sk 6<|aj Q.m e1 rfl<|sk 4<|aj Q.m k rfl rfl
def QY(h:0<t)(f:b<2147483647):Do j O 1088 [.ref 0,.int t] [aY 0 b] (.int (gen b*gen b%2147483629/32%t:Nat)) [aY 0<|gen b]:=by
 have g:gen b<2147483647:=nN _<|by decide
 have k:=x2 (a:=b) (b:=39373) (H:=[aY 0 b])<|n1 f<|by decide
 have e1:=oE (a:=b*39373+7) (t:=2147483647) (H:=[aY 0 b])<|by decide
 have u:=x2 (a:=gen b) (b:=gen b) (H:=[aY 0<|gen b])<|n1 g<|by decide
 have x:=oE (a:=gen b*gen b) (t:=2147483629) (H:=[aY 0<|gen b])<|by decide
 have y:=Ai (a:=gen b*gen b%2147483629) (t:=32) (H:=[aY 0<|gen b]) (by decide)<|by decide
 have z:=oE (a:=gen b*gen b%2147483629/32) (t:=t) (H:=[aY 0<|gen b]) h;clear h f g;exact am [(hW,V.ref 0),(yE,V.int ↑t)] rfl<|sk 7<|aj Q.m k rfl<|sk 2<|aj Q.m e1 rfl<|sk 7<|aj Q.m u rfl<|sk 1<|aj Q.m x rfl<|aj Q.m y rfl<|sk 2<|aj Q.m z rfl rfl
end
def jM:cC (aY a b):=⟨rfl,λ_=>rfl⟩
def Draws(O:ap)(i t:Nat)(H:aq):Prop:=∃x a b,x<t/\b<2147483647/\O none (.fn 1088) [.ref i,.int t] H=some (.ok (.int (x:Nat))<|H.set i<|aY a b)
def Az:eK none (.fn 1088)=some 1088:=rfl
def nL(f:H[i]? =some (aY a b))(u:b<2147483647)(h:0<t)(ht:t<=1000000):Draws (ay<|d+1) i t H:=by
 rcases k:Nat.blt 0 a
 .have:a=0:=by rcases a with _|n;rfl;exact ff<|k.symm
  clear k;subst this;exact⟨_,0,gen b,nN _ h,nN _ (by decide),(di Az rfl).trans<|hB (X:=λD H=>aF NN tab (ay d) none (.fn 1088) D H) (w:=[.int t]) (G:=[]) f jM (.cons .int .nil) jM .int<|QY (O:=ay d) (j:=199940) h u⟩
 exact⟨a%t,a/t,b,nN _ h,u,(di Az rfl).trans<|hB (X:=λD H=>aF NN tab (ay d) none (.fn 1088) D H) (w:=[.int t]) (G:=[]) f jM (.cons .int .nil) jM .int<|Qm (O:=ay d) (j:=199940) h ht k⟩
section
variable{O:ap}
def Ss(hl:H[i]? =some (.list l))(m:O none (.fn 1088) [.ref 0,.int (l.length:Nat)] H=some (.ok (.int (x:Nat)) H'))(k:H'[i]? =some (.list l))(f:l[x]? =some v):Do j O 1095 [.ref 0,.ref i] H v H':=by
 have e1:bP tab O none (.blt .len) [.ref i] H=some (.ok (.int (l.length:Nat)) H):=by show iO H[i]? _=_;exact Y hl rfl
 have h:nW (.ref i) (.int x) H'=some (.ok v H'):=by show ob (ob H'[i]? (tJ<|.int x)) (λr=>rt r H')=_;refine Y k ?_;show ob (ob (match Nat.blt x l.length with|true=>some x|false=>none) λj=>l[j]?) (λr=>rt r H')=_;refine Y (dw (cc.mp f).1) ?_;show ob l[x]? _=_;exact Y f rfl
 exact am [(hW,V.ref 0),(TA,V.ref i)] rfl<|sk 5<|aj Q.m e1 rfl<|aj Q.m m rfl<|aj Q.m h rfl rfl
end
def Em{a z:Nat}(h:z<4611686018427387904):bin .Mult (.int a) (.int z) H=some (.ok (.int (a*z:Nat)) H):=by show aw (dd (a:Int)||Nat.blt z 4611686018427387904) (rt (V.int<|(a:Int)*(z:Int)) H)=_;exact Y (dw h)<|Y (qN ..) rfl
def HS:∃n:Nat,jX C (-((1:Nat):Int)-C)=(n:Int):=by
 rcases C with(_|k)|k;exact⟨0,rfl⟩;exact⟨k+1,rfl⟩
 .have:-((1:Nat):Int)-Int.negSucc k=(k:Int):=by show-(1:Int)- -((k:Int)+1)=k;rw[Int.sub_neg,tp (k:Int),Int.neg_add_cancel_left]
  exact⟨k,by rw[this];rfl⟩
section
variable{n:Nat}
noncomputable def vE(n:Nat):Nat:=(n%2147483629+0+0+17)*48271%2147483647
end
noncomputable def Bv:V->Option Bool|.bool b=>some b|_=>none
noncomputable def CU(x y:Bool):Bool:=match x with|true=>y|false=>!y
mutual
noncomputable def iU:V->V->Bool
 |.none,b=>gG b|.bool x,b=>dm (Bv b)<|CU x
 |.int x,b=>dm (fZ b)<|kx x
 |.str x,b=>dm (ek b)<|ar x
 |.tup l,b=>dm (nl b)<|gQ l
 |.ref i,b=>dm (fw b)<|Nat.beq i
 |.fn _,_=>false|.blt _,_=>false|.bm _ _,_=>false|.an _ _,_=>false|.bY _ _ _,_=>false
noncomputable def gQ:List V->List V->Bool|[],m=>(match m with|[]=>true|_::_=>false)|a::l,m=>(match m with|[]=>false|b::m=>iU a b&&gQ l m)
end
noncomputable def p7:List (Str×V)->List (Str×V)->Bool|[],m=>(match m with|[]=>true|_::_=>false)|p::l,m=>(match m with|[]=>false|q::m=>sq p.1 q.1&&(iU p.2 q.2&&p7 l m))
noncomputable def vH:Option Nat->Option Nat->Bool|none,b=>(match b with|none=>true|some _=>false)|some i,b=>(match b with|none=>false|some j=>Nat.beq i j)
noncomputable def DH:au->Option (Addr×List (Str×V))|.inst E f=>some (E,f)|_=>none
noncomputable def E':au->Option (Addr×Option Nat×Option Nat)|.exc E j x=>some (E,j,x)|_=>none
def pI(a b:au):Bool:=match a with
 |.list l=>dm (dp<|some b)<|gQ l
 |.inst E f=>dm (DH b) λp=>Nat.beq E p.1&&p7 f p.2|.exc E j x=>dm (E' b) λp=>Nat.beq E p.1&&(vH j p.2.1&&vH x p.2.2)|.dict f=>dm (jD<|some b)<|p7 f
 |.cell _=>false
noncomputable def mB:aq->aq->Bool|[],m=>(match m with|[]=>true|_::_=>false)|a::l,m=>(match m with|[]=>false|b::m=>pI a b&&mB l m)
def l4:R V->R V->Bool|.ok a H,b=>(match b with|.ok c K=>iU a c&&mB H K|.exc _ _=>false)|.exc i H,b=>(match b with|.ok _ _=>false|.exc j K=>Nat.beq i j&&mB H K)
def As(m:M V)(r:R V):Bool:=match m with|some q=>l4 q r|none=>false
noncomputable abbrev xC:List V:=[.str [97]]
def IJ:Bool:=As (hS [.ref 0,.str d',.str [60,97,62],.int ((0:Nat):Int)]<|bO [] [])<|.ok (.ref 9)<|bO xC [.list<|aD [.ot<|.st [97] []]]
def x1:IJ=true:=by decide+kernel
section
variable{X:List V->aq->M V}
def Mm(h:n<=m):∃y,upTo m []=upTo n []++y/\y.length=m-n/\∀i,i<m-n->y[i]? =some (n+i):=by
 have k:(upTo m []).length=m:=jw;have j:(upTo n []).length=n:=jw;refine fE ((upTo m []).drop n) ?_ (Y b0<|Y k rfl) λi f=>by refine Y uL ?_;exact fW<|a7 f (a4<|bx<|show n<=m from aR h<|by simp+arith)<|by simp+arith
 refine l5 λi=>?_;rcases dE i n with q|q;exact Y (dO<|by rw[j];exact q)<|Y (fW q)<|Y (fW<|cB q h) rfl;exact Y (dr<|by rw[j];exact q)<|Y j<|Y uL<|Y (kT q) rfl
def zR(f:reach 4000 A (ck D) []=some (upTo A.length []))(aE:X D A=some q)(bo:q=.ok b u\/∃i,q=.exc i u/\b=.ref i)(hl:A.length<=u.length)(T:reach 4000 u (c0 b++cA u A.length) (upTo A.length [])=some (upTo u.length [])):bD X D A=some q:=by
 have E:(upTo A.length []).length=A.length:=jw;have c:=lK f;have x:∀{n k:Nat},k∈upTo n []->k<n:=λm=>(k8 m).resolve_right λm=>(nomatch m);have W:∀k,k<A.length->bb k (upTo A.length [])=k:=λk aP=>ly (lf (n:=A.length) (l:=[]) (λ_ m=>(nomatch m)) .nil)<|fW aP;have ae:∀(j:Nat)(o:au),A[j]? =some o->∀k∈bH o,k<A.length:=λj o e k m=>by refine aZ ((c.cl j<|mem_upTo<|.inl (cc.mp e).1).resolve_left λm=>(nomatch m)) λo' e1 J=>?_;rw[e]at e1;obtain rfl:=aQ e1;exact x<|J k m
 have r1:bF (λk=>bb k<|upTo A.length []) D=D:=tY (aa:=(·<A.length)) W<|mr λk m=>x<|c.sub k<|.inr m;have r2:ca (λk=>bb k<|upTo A.length []) A (upTo A.length [])=A:=xy λj o e=>oY (aa:=(·<A.length)) W<|i5<|ae j o e;refine Y (pp f (q:=q)<|by rw[r1,r2];exact aE)<|dD (Mm hl) λy aP lk O=>?_;have I:=lK T;have ab:∀(j:Nat)(o:au),u[j]? =some o->∀k∈bH o,k<u.length:=λj o e k m=>by rcases dE j A.length with C|C;exact x<|I.sub k<|.inr<|gu _<|wm C e m;rcases I.cl j (mem_upTo (.inl (cc.mp e).1))with h|⟨o',e1,J⟩;exact absurd (x h)<|qu C;rw[e]at e1;obtain rfl:=aQ e1;exact x<|J k m
 have kn:y.Nodup:=(iM.mp<|aP▸lf (n:=u.length) (l:=[]) (λ_ m=>(nomatch m)) .nil).2.1;have z:∀k,k<u.length->bt A (upTo A.length []) y k=k:=λk aP=>by
  unfold bt;rcases dE k A.length with C|C;exact Y (fW C) rfl
  .refine Y (eQ<|by rw[E];exact C) ?_;have:=ly kn<|O (k-A.length)<|cT aP (cm (List.length u)<|List.length A) (a4<|bx<|show List.length A<=k from aR C<|by simp+arith)<|by simp+arith
   rw[kT C]at this;show A.length+bb k y=k;exact Y this<|Y (kT C) rfl
 have N:cn (bt A (upTo A.length []) y) A (upTo A.length []) u++ca (bt A (upTo A.length []) y) u y=u:=by
  refine l5 λj=>?_;rcases dE j A.length with C|C;obtain⟨o,e⟩:∃o,u[j]? =some o:=⟨_,dA<|cB C hl⟩;exact Y (dO<|by rw[iy];exact C)<|Y (pB (lf (n:=A.length) (l:=[]) (λ_ m=>(nomatch m)) .nil) (λ_ m=>x m) (fW C) e)<|Y e<|Y (oY (aa:=(·<u.length)) z<|i5<|ab j o e) rfl
  .refine Y (dr<|by rw[iy];exact C) (Y iy ?_);rcases dE j u.length with w|w
   .obtain⟨o,e⟩:∃o,u[j]? =some o:=⟨_,dA w⟩;have g:=O (j-A.length)<|cT w (cm (List.length u)<|List.length A) (a4<|bx<|show List.length A<=j from aR C<|by simp+arith)<|by simp+arith
    rw[kT C]at g;exact Y (nJ g e)<|Y e<|Y (oY (aa:=(·<u.length)) z<|i5<|ab j o e) rfl
   exact Y (eQ w)<|Y (eQ<|by rw[oV,lk];exact cT w (cm j<|List.length A) (a4<|bx<|show List.length A<=List.length u from aR hl<|by simp+arith)<|by simp+arith) rfl
 have U:reach 4000 u (c0 b++cA u (upTo A.length []).length) (upTo (upTo A.length []).length [])=some (upTo (upTo A.length []).length []++y):=Y E<|Y T<|Y aP rfl;have rb:ib (·<u.length) b:=oT λk m=>x<|I.sub k<|.inr<|fq _ m;rcases bo with rfl|⟨i,rfl,rfl⟩
 .show back A (upTo A.length []) b u (λρ H'=>some<|.ok (bl ρ b) H')=_;refine(m' U<|by refine Y E ?_;exact hl).trans ?_;have e:bF (bt A (upTo A.length []) y) [b]=[b]:=tY (aa:=(·<u.length)) z ⟨rb,trivial⟩;exact Y N<|Y ((dV e).1) rfl
 show back A (upTo A.length []) (.ref i) u (λρ H'=>some<|.exc (ρ i) H')=_;refine(m' U<|by refine Y E ?_;exact hl).trans ?_;exact Y N<|Y (z i rb) rfl
end
def GD(e:Bv a=some b):a=.bool b:=by cases a<;>first|exact az V.bool (aQ e)|exact aW e
def RU:∀{x y},CU x y=true->x=y|true,_,h=>h.symm|false,true,h=>ff h|false,false,_=>rfl
def Ic(e:DH o=some p):o=.inst p.1 p.2:=by cases o<;>first|(exact Y (aQ e).symm rfl)|exact aW e
def IN(e:E' o=some p):o=.exc p.1 p.2.1 p.2.2:=by cases o<;>first|(exact Y (aQ e).symm rfl)|exact aW e
mutual
theorem lh:∀{a b:V},iU a b=true->a=b
 |.none,_,h=>(rP h).symm|.bool _,_,h=>by refine dF h λy e h=>?_;exact Y (GD e)<|Y (RU h) rfl
 |.int _,_,h=>by refine dF h λy e h=>?_;exact Y (fA e)<|Y (sJ<|oG.symm.trans h) rfl
 |.str _,_,h=>by refine dF h λy e h=>?_;exact Y (jv e)<|Y (ie h) rfl
 |.tup _,_,h=>by refine dF h λy e h=>?_;exact Y (qx e)<|Y (kS h) rfl
 |.ref _,_,h=>by refine dF h λy e h=>?_;exact Y (iK e)<|Y (cd h) rfl
 |.fn _,_,h=>ff h|.blt _,_,h=>ff h|.bm _ _,_,h=>ff h|.an _ _,_,h=>ff h|.bY _ _ _,_,h=>ff h
theorem kS:∀{l m:List V},gQ l m=true->l=m|[],[],_=>rfl|[],_::_,h=>nomatch h|_::_,[],h=>nomatch h|a::l,b::m,h=>by exact zb (show(iU a b&&gQ l m)=true from h) λf k=>Y (lh f)<|Y (kS k) rfl
end
theorem uM:∀{l m},p7 l m=true->l=m|[],[],_=>rfl|[],_::_,h=>nomatch h|_::_,[],h=>nomatch h|a::l,b::m,h=>by exact zb (show(sq a.1 b.1&&(iU a.2 b.2&&p7 l m))=true from h) λf k=>zb k λk j=>Y (uM j)<|Y (show a=b from Prod.ext (dn.mp f)<|lh k) rfl
def zV:∀{a b},vH a b=true->a=b|none,none,_=>rfl|none,some _,h=>nomatch h|some _,none,h=>nomatch h|some _,some _,h=>az some<|cd h
def wl(h:pI a b=true):a=b:=by rcases a with l|⟨E,f⟩|⟨E,j,x⟩|f|v;exact dF h λy e h=>Y (kS h)<|(aQ<|kc e).symm;exact dF h λy e h=>Y (cd (e8 h).1)<|Y (uM (e8 h).2)<|(Ic e).symm;exact dF h λy e h=>Y (cd (e8 h).1)<|Y (zV (e8 (e8 h).2).1)<|Y (zV (e8 (e8 h).2).2)<|(IN e).symm;exact dF h λy e h=>Y (uM h)<|(aQ<|uI e).symm;exact ff h
theorem w3:∀{a b},mB a b=true->a=b|[],[],_=>rfl|[],_::_,h=>nomatch h|_::_,[],h=>nomatch h|a::l,b::m,h=>by exact zb (show(pI a b&&mB l m)=true from h) λf k=>Y (wl f)<|Y (w3 k) rfl
def oN(h:As m r=true):m=some r:=by rcases m with _|q;exact ff h;refine az some ?_;have h:l4 q r=true:=h;rcases q with⟨a,H⟩|⟨i,H⟩;rcases r with⟨b,K⟩|_;exact zb (show(iU a b&&mB H K)=true from h) λf k=>Y (lh f)<|Y (w3 k) rfl;exact ff h;rcases r with _|⟨j,K⟩;exact ff h;exact zb (show(Nat.beq i j&&mB H K)=true from h) λf k=>Y (cd f)<|Y (w3 k) rfl
def By(f:j<=x.length)(D:pre y (x.drop j)=true)(E:∀k,k<j->pre y (x.drop k)=false):br y x=some j:=by rcases h:br y x with _|i;have:=qd h j f;rw[D]at this;exact ff<|this.symm;refine c5 (jQ h) λ_ b c=>?_;rcases Nat.lt_trichotomy i j with q|q|q;have:=E i q;rw[b]at this;exact ff<|this.symm;exact Y q rfl;have:=c j q;rw[D]at this;exact ff<|this.symm
def D4(h:pre y x=true):pre y (x++a)=true:=(ky<|j2 h).trans h
def lM{a:List Nat}(h:k<=x.length):(x++a).drop k=x.drop k++a:=List.drop_append_of_le_length h
def PR(h:br y x=some j):br y (x++a)=some j:=by refine c5 (jQ h) λf D E=>?_;have l:=j2 D;rw[b0]at l;refine By (by refine Y a0 ?_;exact aR f<|by simp+arith) (by refine Y (lM f) ?_;exact D4 D) λk aP=>?_;exact Y (lM<|a7 f aP<|by simp+arith)<|Y (ky<|by rw[b0];exact vL l aP (cm x.length k) (a4<|bx<|show j<=x.length from aR f<|by simp+arith)<|by simp+arith)<|E k aP
def ES(C:z<=x.length)(h:∀k,k<z->pre y (x.drop k)=false):br y x=(br y<|x.drop z).map (·+z):=by
 rcases e:br y x with _|i
 .rcases I:br y (x.drop z)with _|i;rfl
  .refine c5 (jQ I) λf D _=>?_;rw[fc]at D;rw[b0]at f;have:=qd e (z+i)<|a7 f (a4<|bx<|show z<=x.length from aR C<|by simp+arith)<|by simp+arith
   rw[D]at this;exact ff<|this.symm
 refine c5 (jQ e) λf D E=>?_;have u:=(dE i z).elim (λq=>by have:=h i q;rw[D]at this;exact ff<|this.symm) id;refine Y (By (y:=y) (x:=x.drop z) (j:=i-z) (by rw[b0];exact cT f (cm x.length z) (a4<|bx<|show z<=i from aR u<|by simp+arith)<|by simp+arith) (by rw[fc,kT u];exact D) λk aP=>by rw[fc];exact E _<|a7 aP (a4<|bx<|show z<=i from aR u<|by simp+arith)<|by simp+arith) ?_;show some i=some (i-z+z);exact Y (bx u) rfl
def zk(C:z<=u.length)(h:bQ u w z=some e):bQ (u++v) w z=some e:=by refine aZ (jl (o:=iH (u.drop z) w) (z:=(z+·)) h) λa f j=>?_;subst j;refine aZ (jl (o:=br w<|u.drop z) (z:=(·+w.length)) f) λi D k=>?_;subst k;unfold bQ iH;exact Y (lM C)<|Y (PR D) rfl
def S2(C:max d (U+1-w)=z)(aP:k<z-d):w<=U-(d+k):=by have h:d+k<z:=Nat.add_lt_of_lt_sub' aP;subst C;rcases Nat.le_total d (U+1-w)with q|q;rw[Nat.max_eq_right q]at h;have t:=eX<|Nat.add_lt_of_lt_sub h;rw[cF]at t;exact Nat.le_sub_of_add_le t;rw[Nat.max_eq_left q]at h;exact absurd h<|q9.mpr<|bK ..
def Kg(hd:d<=U)(f:1<=w)(C:max d (U+1-w)=z):d<=z/\z<=U:=by subst C;exact⟨Nat.le_max_left ..,Nat.max_le.mpr ⟨hd,zH.mpr<|hO f _⟩⟩
def Dn(hd:d<=u.length)(f:1<=w.length)(h:bQ u w d=none):bQ (u++v) w d=bQ (u++v) w (max d<|u.length+1-w.length):=by
 have h:br w (u.drop d)=none:=by unfold bQ iH at h;rcases e:br w (u.drop d)with _|i;rfl;rw[e]at h;exact aW<|h.symm
 generalize C:max d (u.length+1-w.length)=z;refine aS (Kg hd f C) λD j=>?_;have s:=ES (y:=w) (x:=(u++v).drop d) (z:=z-d) (by refine Y b0<|Y a0 ?_;exact cT j (cm (u.length+v.length) d) (a4<|bx<|show d<=z from aR D<|by simp+arith)<|by simp+arith) λk aP=>by exact Y fc<|Y (lM<|cT j aP (a4<|bx<|show d<=z from aR D<|by simp+arith)<|by simp+arith)<|Y (ky<|by rw[b0];exact S2 C aP)<|Y fc.symm<|qd h k<|by refine Y b0 ?_;exact vL j aP (cm u.length d) (a4<|bx<|show d<=z from aR D<|by simp+arith)<|by simp+arith
 rw[fc,kT D]at s;unfold bQ iH;refine Y s ?_;rcases br w ((u++v).drop z)with _|i;rfl;exact az some<|by show d+(i+(z-d)+w.length)=z+(i+w.length);exact ce (aR (a4<|bx<|show d<=z from aR D<|by simp+arith)<|by simp+arith)<|aR (cm z d)<|by simp+arith
def DU:cI (u++v) w (max d<|u.length+1-w.length)=cI (u++v) w d:=by show Seen.pos (max _<|(u++v).length+1-w.length)=Seen.pos (max _<|(u++v).length+1-w.length);exact Y (Nat.max_assoc ..)<|Y (Nat.max_eq_right<|Nat.sub_le_sub_right (by rw[a0];exact fD<|bK ..) _) rfl
def th(n:Nat)(b:List Nat)(t f:Tg):Prop:=(t.1=none->t.2.1=n/\f=up n (bw b t.2.2))/\∀e,t.1=some e->f=t
def vu:∀a q,th a.length b (bw a q) (bw (a++b) q):=by
 intro a;induction a with
 |nil=>exact λq=>⟨λ_=>⟨rfl,by show bw b q=((bw b q).1.map (0+·),0+(bw b q).2.1,(bw b q).2.2);generalize bw b q=t;obtain⟨x,y,C⟩:=t;cases x<;>simp⟩,λ_ h=>nomatch h⟩
 |cons c a J=>
  have go:∀j,th (a.length+1) b (up 1<|bw a j) (up 1<|bw (a++b) j):=λj=>by
   refine aS (J j) λf D=>⟨λh=>?_,λe h=>?_⟩
   .have h:(bw a j).1=none:=by have h:(bw a j).1.map (1+·)=none:=h;rcases C:(bw a j).1;rfl;rw[C]at h;exact aW<|h.symm
    exact aS (f h) λE I=>⟨(az (1+·) E).trans<|cF ..,by exact Y I<|Y wq<|Y (cF ..) rfl⟩
   exact aZ (jl (o:=(bw a j).1) (z:=(1+·)) h) λi u _=>Y (D i u) rfl
  intro q;rcases q with _|⟨k,q⟩;show th _ b (aB (br [c] [34,39]).isSome (up 1<|bw a [c])<|aB (ar [c] [62]) (some 1,0,[])<|aB (ar [c] [60]) (some 0,0,[])<|up 1<|bw a []) (aB (br [c] [34,39]).isSome (up 1<|bw (a++b) [c])<|aB (ar [c] [62]) (some 1,0,[])<|aB (ar [c] [60]) (some 0,0,[])<|up 1<|bw (a++b) []);rcases(br [c] [34,39]).isSome;rcases ar [c] [62];rcases ar [c] [60];exact go [];exact⟨λh=>(nomatch h),λ_ _=>rfl⟩;exact⟨λh=>(nomatch h),λ_ _=>rfl⟩;exact go [c];show th _ b (up 1<|aB (Nat.beq k c) (bw a [])<|bw a<|k::q) (up 1<|aB (Nat.beq k c) (bw (a++b) [])<|bw (a++b)<|k::q);rcases Nat.beq k c;exact go<|k::q;exact go []
def ye{v:List Nat}(h:eD (r.take w.length) w=false):eD ((r++v).take w.length) w=false:=by rcases dE r.length w.length with q|q;have t:=nR (gt q);rw[t]at h;unfold eD at h⊢;rw[dw q]at h;rcases f:Nat.blt ((r++v).take w.length).length w.length;rfl;rcases e:pre ((r++v).take w.length) w;rfl;have p:=iz.mp e;have:pre r w=true:=iz.mpr (by have:=az (List.take r.length) p;rw[List.take_take,List.take_take,ma,a0,r8 (by lia),r8<|gt ‹_›,s2]at this;exact this);have h:=h;rw[this]at h;exact ff<|h.symm;exact Y (AF q) h
def vZ(h:eD (r.take w.length) w=false):pre w (r++v)=pre w r:=by
 rcases dE r.length w.length with q|q
 .have t:r.take w.length=r:=nR (gt q);rw[t]at h;unfold eD at h;rw[dw q]at h;refine Y (Dp q)<|lj λe=>?_;have p:=iz.mp e;have:pre r w=true:=iz.mpr<|by exact Y p.symm<|Y List.take_take<|Y (r8<|gt q)<|Y s2 rfl
  have h:pre r w=false:=h;rw[this]at h;exact ff<|h.symm
 exact ky q
def OJ(h:eD (([c]:List Nat).take 4) eb=false)(f:ar [c] [60]=true):False:=by obtain rfl:c=60:=(dV<|ie f).1;exact nomatch h
def EX(r:List Nat)(s:Seen)(a b c d e z:Bool):Option gf:=aB a none<|aB b (some (ge,bQ r [93,93,62]<|s.fr 9,cI r [93,93,62]<|s.fr 9))<|aB c none<|aB d none<|aB e (some (g3,bQ r [62]<|s.fr 2,cI r [62]<|s.fr 2))<|aB z (some (cP,some r.length,.no))<|some<|iq<|gx r s
def EU:∀{z},c6 r false z=(none,0,s)->(z=none/\s=.no)\/∃kd,z=some (kd,none,s)|none,h=>.inl ⟨rfl,(az (·.2.2) h).symm⟩|some (_,some _,_),h=>nomatch az (·.1) h|some (kd,none,J),h=>by obtain rfl:J=s:=az (·.2.2) h;exact .inr ⟨kd,rfl⟩
def nH:∀{z},c6 r false z=(some kd,e,s)->s=.no/\∃J,z=some (kd,some e,J)|none,h=>nomatch az (·.1) h|some (_,none,_),h=>nomatch az (·.1) h|some (_,some _,J),h=>by cases h;exact⟨rfl,J,rfl⟩
structure r9(u v:List Nat)(a b c d e z:Bool):Prop where
 a1:eD (u.take 4) eb=a
 b1:pre dq u=b
 c1:eD (u.take 9) dq=c
 d1:eD (u.take 9) dj=d
 e1:pre [60,47] u=e
 f1:pre [60,33] u=z
def xx(h:r9 u v a b c d e z)(s):d8 u s=EX u s a b c d e z:=by unfold d8;exact Y h.a1<|Y h.b1<|Y h.c1<|Y h.d1<|Y h.e1<|Y h.f1 rfl
def v'(h:2<=u.length):pre [x,y] (u++v)=pre [x,y] u:=ky h
def DQ(l:2<=u.length)(h:r9 u v false b c d e z)(f:b=true\/c=false/\d=false):∃j k,r9 (u++v) v false b j k e z/\(b=true\/j=false/\k=false):=by refine dZ _ _ ⟨ye (w:=eb) h.a1,?_,rfl,rfl,(v' l).trans h.e1,(v' l).trans h.f1⟩ ?_;rcases f with rfl|⟨rfl,_⟩;exact D4 h.b1;exact(vZ (w:=dq) h.c1).trans h.b1;exact f.imp id λf=>⟨ye (w:=dq)<|h.c1.trans f.1,ye (w:=dj)<|h.d1.trans f.2⟩
def Eg(f:ar [c] [60]=true)(h:eD ((c::u).take 4) eb=false):2<=(c::u).length:=by rcases u;exact(OJ h f).elim;exact bT ..
def n8{f:Type}{x:Option f}{y:f}(h:aB b none x=some y):b=false/\x=some y:=by induction b with|true=>exact aW h|false=>exact⟨rfl,h⟩
def y3(h:d8 u s=some z):∃b c d e g,r9 u v false b c d e g/\(b=true\/c=false/\d=false)/\EX u s false b c d e g=some z:=by refine aS (n8 h) λj f=>PK _ _ _ _ _ ⟨j,rfl,rfl,rfl,rfl,rfl⟩ ?_ f;rcases y:pre dq u;rw[y]at f;exact aS (n8 f) λk f=>aS (n8 f) λx f=>.inr ⟨k,x⟩;exact .inl rfl
def KS(h:(gx (c::u) .no).1=none)(k:s=(iq<|gx (c::u) .no).2.2):gx (c::u++v) s=gx (c::u++v) .no:=by
 obtain⟨j,f⟩:=(vu (b:=v) u []).1 (by have h:(bw u []).1.map (1+·)=none:=h;rcases C:(bw u []).1;rfl;rw[C]at h;exact aW<|h.symm);have e:gx (c::u) .no=up 1 (bw u []):=rfl;rw[e]at k;have x:s=.tag (u.length+1) (bw u []).2.2:=by refine Y k ?_;show Seen.tag (1+(bw u []).2.1) _=_;exact Y j<|Y (cF ..) rfl
 refine Y x ?_;show up (u.length+1) (bw ((u++v).drop u.length) _)=up 1 (bw (u++v) []);exact Y tO<|Y f<|Y wq<|Y (cF ..) rfl
def x7(h:pre dq u=true):9<=u.length:=j2 h
def R9(f:ar [c] [60]=true)(h:c6 (c::u) false (d8 (c::u) .no)=(none,0,s)):d8 (c::u++v) s=d8 (c::u++v) .no/\oz (c::u++v) s=true:=by
 rcases EU h with⟨_,rfl⟩|⟨kd,h⟩;exact⟨rfl,rfl⟩
 .refine CA (y3 (v:=v) h) λb c' d e g m T k=>?_;have l:=Eg f m.a1;refine bU (DQ l m T) λc2 fk aG aa=>Y (xx aG ..)<|Y (xx aG ..) ?_;have bp:∀{w:List Nat}{n:Nat},n<=(c::u).length->1<=w.length->(kd,bQ (c::u) w n,cI (c::u) w n)=((kd,none,s):gf)->(s.hu=false/\∃z,s=.pos z)/\bQ (c::u++v) w (s.fr n)=bQ (c::u++v) w n/\cI (c::u++v) w (s.fr n)=cI (c::u++v) w n:=λ{w n} D E q=>by have I:bQ (c::u) w n=none:=az (·.2.1) q;have J:s=cI (c::u) w n:=(az (·.2.2) q).symm;subst J;exact e0 ⟨rfl,_,rfl⟩ ((Dn D E I).symm) DU
  have ne:pre dq (c::u++v)=b:=aG.b1;have O:pre [60,47] (c::u++v)=e:=aG.e1;rcases b
  .refine aS (T.resolve_left j8) λah ai=>?_;subst ah ai;refine aS (aa.resolve_left j8) λaj ak=>?_;subst aj ak;rcases e
   .rcases g
    .have k:iq (gx (c::u) .no)=((kd,none,s):gf):=aQ k;have U:(gx (c::u) .no).1=none:=az (·.2.1) k;have k2:s=(iq<|gx (c::u) .no).2.2:=(az (·.2.2) k).symm;refine⟨az (λt=>some<|iq t)<|KS U k2,?_⟩;have ab:(bw u []).1=none:=by have h:(bw u []).1.map (1+·)=none:=U;rcases C:(bw u []).1;rfl;rw[C]at h;exact aW<|h.symm
     have ae:∀(a q:List Nat),q.length<=1->(bw a q).2.2.length<=1:=by
      intro a;induction a with
      |nil=>exact λq h=>h|cons x a N=>intro q bo;rcases q with _|⟨y,q⟩;exact cw (P:=λt:Tg=>t.2.2.length<=1) (λ_=>N [x]<|ba _) λ_=>cw (P:=λt:Tg=>t.2.2.length<=1) (λ_=>bJ _) λ_=>cw (P:=λt:Tg=>t.2.2.length<=1) (λ_=>bJ _) λ_=>N []<|bJ _;exact cw (P:=λt:Tg=>t.2.2.length<=1) (λ_=>N []<|bJ _) λ_=>N _ bo
     have W:s=.tag (1+u.length) (bw u []).2.2:=by refine Y k2 ?_;show Seen.tag (1+(bw u []).2.1) _=_;exact Y (((vu (b:=v) u []).1 ab).1) rfl
     refine Y W ?_;show(!pre dq (c::u++v)&&(!pre [60,47] (c::u++v)&&(Nat.ble (bw u []).2.2.length 1&&Nat.ble (1+u.length) (c::u++v).length)))=true;refine Y ne<|Y O<|Y (ia<|ae u []<|bJ _)<|Y (ia<|by rw[a0,cv];simp+arith) ?_;rfl
    exact nomatch az (λz=>z.bind (·.2.1)) k
   have k:(g3,bQ (c::u) [62] 2,cI (c::u) [62] 2)=((kd,none,s):gf):=aQ k;obtain rfl:g3=kd:=az (·.1) k;refine c5 (bp l (by decide) k) λal I J=>aS al λ_ am=>aU am λz j=>⟨az some (by show(g3,bQ _ [62]<|s.fr 2,cI _ [62]<|s.fr 2)=(g3,bQ _ [62] 2,cI _ [62] 2);exact Y I<|Y J rfl),?_⟩;refine Y j ?_;show(_||pre [60,47] (c::u++v))=true;exact Y O<|Y (qN ..) rfl
  have k:(ge,bQ (c::u) [93,93,62] 9,cI (c::u) [93,93,62] 9)=((kd,none,s):gf):=aQ k;obtain rfl:ge=kd:=az (·.1) k;refine c5 (bp (x7 m.b1) (by decide) k) λaf I J=>aS af λ_ ag=>aU ag λz j=>⟨az some (by exact Y I<|Y J rfl),?_⟩;refine Y j ?_;show(pre dq (c::u++v)||_)=true;exact Y ne rfl
def Qv(h:bM u .no false=(none,0,s)):bM (u++v) s false=bM (u++v) .no false/\(c4 (u++v) .no=true->c4 (u++v) s=true):=by rcases u with _|⟨c,u⟩;obtain rfl:Seen.no=s:=az (·.2.2) h;exact⟨rfl,id⟩;have e:∀r s,bM (c::r) s false=aB (ar [c] [60]) (c6 (c::r) false<|d8 (c::r) s) (aB (ar [c] [38]) (c6 (c::r) false<|some (dL,bQ (c::r) [59]<|s.fr 1,cI (c::r) [59]<|s.fr 1))<|g2 (c::r) s false):=λ_ _=>rfl;have o:∀r s,c4 (c::r) s=aB (ar [c] [60]) (!pre eb (c::r)&&(!pre dj (c::r)&&(!pre [60,63] (c::r)&&oz (c::r) s))) (aB (ar [c] [38]) (!s.hu) true):=λ_ _=>rfl;rw[e]at h;refine Y kD<|Y (e ..)<|Y (e ..)<|Y (o ..)<|Y (o ..) ?_;revert h;rcases f:ar [c] [60];intro h;revert h;rcases D:ar [c] [38];intro h;have h:aB (Nat.blt 0<|cb (c::u) false) (some ao,cb (c::u) false,.no) (none,0,.no)=(none,0,s):=h;revert h;rcases E:Nat.blt 0 (cb (c::u) false);intro h;obtain rfl:Seen.no=s:=az (·.2.2) h;exact⟨rfl,id⟩;intro h;cases h;intro h;rcases EU (show c6 (c::u) false (some (dL,bQ (c::u) [59] 1,cI (c::u) [59] 1))=_ from h)with⟨h,_⟩|⟨kd,h⟩;exact aW<|h.symm;have x:bQ (c::u) [59] 1=none:=az (λz=>z.bind (·.2.1)) h;have y:s=cI (c::u) [59] 1:=(az (λz=>(z.map (·.2.2)).getD s) h).symm;have l:1<=(c::u).length:=bT ..;have a:=Dn (v:=v) (w:=[59]) l (ba 1) x;have b:=DU (u:=c::u) (v:=v) (w:=[59]) (d:=1);clear h;subst y;refine⟨?_,λ_=>rfl⟩;show c6 (c::(u++v)) false (some (dL,bQ (c::u++v) [59]<|max 1<|(c::u).length+1-1,cI (c::u++v) [59]<|max 1<|(c::u).length+1-1))=c6 (c::(u++v)) false (some (dL,bQ (c::u++v) [59] 1,cI (c::u++v) [59] 1));exact Y b.symm<|Y a rfl;intro h;refine aS (R9 (v:=v) f h) λj k=>?_;rw[kD]at j k;refine⟨az (c6 (c::(u++v)) false) j,λq=>?_⟩;refine zb q λx q=>zb q λy q=>zb q λC _=>?_;show(!pre eb (c::(u++v))&&(!pre dj (c::(u++v))&&(!pre [60,63] (c::(u++v))&&oz (c::(u++v)) s)))=true;exact Y x<|Y y<|Y C<|Y k rfl
def J8(h:bM u .no false=(some kd,e,J))(ht:ar kd ao=false)(C:ar kd cP=false)(o:c4 u .no=true):bM (u++v) .no false=(some kd,e,J)/\c4 (u++v) .no=true:=by
 rcases u with _|⟨c,u⟩;exact nomatch az (·.1) h
 .have I:∀r,bM (c::r) .no false=aB (ar [c] [60]) (c6 (c::r) false<|d8 (c::r) .no) (aB (ar [c] [38]) (c6 (c::r) false<|some (dL,bQ (c::r) [59] 1,cI (c::r) [59] 1))<|g2 (c::r) .no false):=λ_=>rfl;have O:∀r,c4 (c::r) .no=aB (ar [c] [60]) (!pre eb (c::r)&&(!pre dj (c::r)&&(!pre [60,63] (c::r)&&true))) (aB (ar [c] [38]) true true):=λ_=>rfl;rw[I]at h;rw[O]at o;refine Y kD<|Y (I ..)<|Y (O ..) ?_;rcases f:ar [c] [60];rw[f]at h;revert h;rcases ak:ar [c] [38];intro h;have h:aB (Nat.blt 0<|cb (c::u) false) (some ao,cb (c::u) false,.no) (none,0,.no)=(some kd,e,J):=h;revert h;rcases D:Nat.blt 0 (cb (c::u) false);intro h;exact nomatch az (·.1) h;intro h;obtain rfl:ao=kd:=aQ<|az (·.1) h;exact ff<|ht.symm;intro h;refine aS (nH<|show c6 (c::u) false (some (dL,bQ (c::u) [59] 1,cI (c::u) [59] 1))=_ from h) λai aj=>?_;subst ai;refine aU aj λE h=>?_;have q:=aQ h;obtain rfl:dL=kd:=az (·.1) q;have a:bQ (c::(u++v)) [59] 1=some e:=zk (u:=c::u) (v:=v) (bT ..)<|az (·.2.1) q;refine⟨?_,rfl⟩;show c6 _ false (some (dL,bQ (c::(u++v)) [59] 1,_))=_;exact Y a rfl
  .rw[f]at h o;refine aS (nH<|show c6 (c::u) false (d8 (c::u) .no)=_ from h) λaa ab=>?_;subst aa;refine aU ab λE h=>CA (y3 (v:=v) h) λb c' d T g m D k=>?_;have l:=Eg f m.a1;refine bU (DQ l m D) λc2 fk aG W=>zb o λq1 q=>zb q λq2 q=>zb q λq3 _=>?_;have p1:pre eb (c::(u++v))=pre eb (c::u):=vZ (v:=v) (w:=eb) m.a1;have p3:pre [60,63] (c::(u++v))=pre [60,63] (c::u):=v' (v:=v) l;have p2:pre dj (c::(u++v))=pre dj (c::u):=by rcases b;exact vZ (v:=v) (w:=dj)<|m.d1.trans (D.resolve_left j8).2;exact ky (y:=dj) (a:=v) (x:=c::u)<|x7 m.b1
   refine⟨?_,?_⟩
   rotate_left
   show(!pre eb (c::(u++v))&&(!pre dj (c::(u++v))&&(!pre [60,63] (c::(u++v))&&true)))=true;exact Y p1<|Y p2<|Y p3<|Y q1<|Y q2<|Y q3 rfl;show c6 (c::(u++v)) false (d8 (c::(u++v)) .no)=_;have N:=xx aG .no;rw[kD]at N;refine Y N ?_;have bp:∀{w:List Nat}{n:Nat}{kn:List Nat},n<=(c::u).length->(kn,bQ (c::u) w n,cI (c::u) w n)=((kd,some e,E):gf)->c6 (c::(u++v)) false (some (kn,bQ (c::(u++v)) w n,cI (c::(u++v)) w n))=(some kd,e,.no):=λ{w n kn} z q=>by obtain rfl:kn=kd:=az (·.1) q;have a:bQ (c::(u++v)) w n=some e:=zk (v:=v) z<|az (·.2.1) q;exact Y a rfl
   rcases b;refine aS (D.resolve_left j8) λae af=>?_;subst ae af;refine aS (W.resolve_left j8) λag ah=>?_;subst ag ah;rcases T;rcases g;have k:iq (gx (c::u) .no)=((kd,some e,E):gf):=aQ k;have k1:(bw u []).1.map (1+·)=some e:=az (·.2.1) k;refine aZ (jl k1) λi j _=>?_;have U:bw (u++v) []=bw u []:=(vu (b:=v) u []).2 i j;show c6 _ false (some<|iq<|up 1<|bw (u++v) [])=_;refine Y U ?_;show c6 _ false (some<|iq<|gx (c::u) .no)=_;exact Y k rfl;obtain rfl:cP=kd:=az (·.1) (aQ k);exact ff<|C.symm;exact bp l<|aQ k;exact bp (x7 m.b1)<|aQ k
def kR(a):∀l,jn [] (a::l)=a++jn [] l:=by
 intro l;induction l with
 |nil=>exact(be a).symm|cons b l f=>show a++[]++jn [] (b::l)=_;exact Y (be ..) rfl
def rG:∀a b,jn [] (a++b)=jn [] a++jn [] b:=by
 intro a;induction a with
 |nil=>intro _;exact rfl
 |cons x a f=>intro b;exact Y kD<|Y (kR ..)<|Y (kR ..)<|Y (f b)<|Y (bq ..) rfl
theorem uA:∀l{a b p q},jn [] (a::p)=jn [] (b::q)->aJ l (a::p)=aJ l (b::q)
 |[],a,b,p,q,h=>az (λt=>[cL.tx t]) h|.tx t::l,a,b,p,q,h=>uA l (p:=p++[t]) (q:=q++[t]) (by have e:∀(x:List Nat)(y:List<|List Nat),jn [] (x::(y++[t]))=jn [] (x::y)++jn [] [t]:=λx y=>rG (x::y) [t];exact Y (e ..)<|Y (e ..)<|Y h rfl)
 |.ot o::l,a,b,p,q,h=>by show dB (a::p)++_=dB (b::q)++_;exact Y (show dB (a::p)=dB (b::q) from az (λt=>[cL.tx t]) h) rfl
def zT(N f)(k):aJ (dB N++k) f=aJ k (f++N):=by
 rcases N with _|⟨a,N⟩;exact Y (be ..) rfl
 .show aJ k (f++[jn []<|a::N])=_;have e:jn [] (f++[jn []<|a::N])=jn [] (f++a::N):=by exact Y (rG ..)<|Y (rG ..) rfl
  rcases f with _|⟨b,f⟩;exact uA k (p:=[]) (q:=N) e;exact uA k e
theorem ux:∀l N k f,aJ (aJ l N++k) f=aJ (l++k) (f++N)
 |[],N,k,f=>zT N f k|.tx t::l,N,k,f=>(ux l (N++[t]) k f).trans<|by exact Y (bq ..).symm rfl
 |.ot o::l,N,k,f=>by show aJ ((dB N++.ot o::aJ l [])++k) f=_;refine Y (bq ..)<|Y (zT ..) ?_;show dB (f++N)++.ot o::aJ (aJ l []++k) []=dB (f++N)++.ot o::aJ (l++k) [];exact Y (ux l [] k []) rfl
def lA(l k)(f):aJ (aJ l []++k) f=aJ (l++k) f:=by exact Y (ux ..)<|Y (be ..) rfl
theorem oh:∀l k f,aJ (l++aJ k []) f=aJ (l++k) f
 |[],k,f=>by have:=lA k [] f;rwa [be,be]at this
 |.tx t::l,k,f=>oh l k<|f++[t]
 |.ot o::l,k,f=>by show dB f++.ot o::aJ (l++aJ k []) []=dB f++.ot o::aJ (l++k) [];exact Y (oh l k []) rfl
def b'.dK:b'->b'|.ok l f=>.ok (aJ l []) f|.bad pl=>.bad pl
def AT(l)(o:b'):(o.add l).dK=(o.dK.add l).dK:=by rcases o with⟨k,f⟩|pl;show b'.ok _ f=b'.ok (aJ (l++aJ k []) []) f;exact Y (oh ..) rfl;rfl
def FT(l)(o:b'):(o.add l).dK=(o.add<|aJ l []).dK:=by rcases o with⟨k,f⟩|pl;show b'.ok _ f=b'.ok (aJ (aJ l []++k) []) f;exact Y (lA ..) rfl;rfl
def AG(l k)(o:b'):(o.add k).add l=o.add (l++k):=by rcases o with⟨m,f⟩|pl;show b'.ok (l++(k++m)) f=_;exact Y (bq ..).symm rfl;rfl
def E6:∀u,aI (u++v)=aB (Nat.beq (aI u) u.length) (u.length+aI v) (aI u):=by
 intro u;induction u with
 |nil=>exact Y (List.nil_append ..)<|Y hA<|Y (eT ..) rfl
 |cons c u f=>show aB (fh c) 0 (aI (u++v)+1)=aB (Nat.beq (aB (fh c) 0<|aI u+1)<|u.length+1) (u.length+1+aI v) (aB (fh c) 0<|aI u+1);refine Y (f) ?_;rcases fh c;show aB (Nat.beq (aI u) u.length) (u.length+aI v) (aI u)+1=aB (Nat.beq (aI u) u.length) (u.length+1+aI v) (aI u+1);rcases Nat.beq (aI u) u.length;rfl;exact rr ..;rfl
def brk:List Nat->Nat|[]=>0|a::l=>aB (Nat.beq 93 a) (match l with|[]=>1|b::_=>aB (Nat.beq 93 b) 2 1) 0
def ny(r):bS r=brk r.reverse:=by unfold bS b2;generalize r.reverse=l;rcases l with _|⟨a,l⟩;rfl;show aB (match Nat.beq 93 a with|true=>pre [93] l|false=>false) 2 (aB (match Nat.beq 93 a with|true=>pre [] l|false=>false) 1 0)=aB (Nat.beq 93 a) _ 0;rcases Nat.beq 93 a;rfl;rcases l with _|⟨b,l⟩;rfl;show aB (match Nat.beq 93 b with|true=>pre [] l|false=>false) 2 (aB (pre []<|b::l) 1 0)=aB (Nat.beq 93 b) 2 1;cases Nat.beq 93 b<;>rfl
def SR:∀v u,brk (v++u.take (brk u))=brk (v++u)
 |[],[]=>rfl|[],a::l=>by show brk ((a::l).take<|aB (Nat.beq 93 a) (match l with|[]=>1|b::_=>aB (Nat.beq 93 b) 2 1) 0)=aB (Nat.beq 93 a) (match l with|[]=>1|b::_=>aB (Nat.beq 93 b) 2 1) 0;rcases h:Nat.beq 93 a;rfl;rcases l with _|⟨b,l⟩;show aB (Nat.beq 93 a) 1 0=1;exact Y h rfl;show brk ((a::b::l).take<|aB (Nat.beq 93 b) 2 1)=aB (Nat.beq 93 b) 2 1;rcases f:Nat.beq 93 b;show aB (Nat.beq 93 a) 1 0=1;exact Y h rfl;show aB (Nat.beq 93 a) (aB (Nat.beq 93 b) 2 1) 0=2;exact Y h<|Y f rfl
 |[x],[]=>rfl|[x],a::l=>by show aB (Nat.beq 93 x) (match(a::l).take (aB (Nat.beq 93 a) (match l with|[]=>1|b::_=>aB (Nat.beq 93 b) 2 1) 0)with|[]=>1|b::_=>aB (Nat.beq 93 b) 2 1) 0=aB (Nat.beq 93 x) (aB (Nat.beq 93 a) 2 1) 0;rcases h:Nat.beq 93 a;rfl;rcases l with _|⟨b,l⟩;show aB _ (aB (Nat.beq 93 a) 2 1) 0=_;exact Y h rfl;show aB (Nat.beq 93 x) (match(a::b::l).take (aB (Nat.beq 93 b) 2 1)with|[]=>1|b::_=>aB (Nat.beq 93 b) 2 1) 0=aB (Nat.beq 93 x) 2 0;cases Nat.beq 93 b<;>(show aB (Nat.beq 93 x) (aB (Nat.beq 93 a) 2 1) 0=_;exact Y h rfl)
 |x::y::v,u=>rfl
def y9:∀u,brk u<=u.length:=by
 intro u;induction u with
 |nil=>exact ba _|cons a l f=>exact cw (P:=(·<=l.length+1)) (λ_=>by rcases l with _|⟨b,l⟩;exact ba _;exact cw (P:=(·<=l.length+1+1)) (λ_=>bT ..) λ_=>bT ..) λ_=>bJ _
def CI(u v):bS (u.drop (u.length-bS u)++v)=bS (u++v):=by refine Y (ny ..)<|Y (ny ..)<|Y (ny ..)<|Y r6<|Y r6<|Y List.reverse_drop<|Y (Nat.sub_sub_self (by have:=y9 u.reverse;rwa [fL]at this)) ?_;exact SR ..
def pG(a b:List Nat):Prop:=∀k,k<a.length->a.length<k+3->pre [93,93,62] ((a++b).drop k)=false
def OS:∀l:List Nat,l.take (brk l)=[93,93]\/brk (l.drop<|brk l)=0
 |[]=>.inr rfl
 |a::l=>by
  show(a::l).take (aB (Nat.beq 93 a) (match l with|[]=>1|b::_=>aB (Nat.beq 93 b) 2 1) 0)=_\/brk ((a::l).drop<|aB (Nat.beq 93 a) (match l with|[]=>1|b::_=>aB (Nat.beq 93 b) 2 1) 0)=0;rcases h:Nat.beq 93 a;exact .inr<|by show aB (Nat.beq 93 a) _ 0=0;exact Y h rfl
  .obtain rfl:=cd h;rcases l with _|⟨b,l⟩;exact .inr rfl
   .show(93::b::l).take (aB (Nat.beq 93 b) 2 1)=_\/brk ((93::b::l).drop<|aB (Nat.beq 93 b) 2 1)=0;rcases f:Nat.beq 93 b;exact .inr<|by show aB (Nat.beq 93 b) _ 0=0;exact Y f rfl
    obtain rfl:=cd f;exact .inl rfl
def Lw(u:List Nat):u.drop (u.length-bS u)=[93,93]\/bS (u.take<|u.length-bS u)=0:=by have le:=y9 u.reverse;rw[fL]at le;refine Y (ny ..)<|Y (ny ..) ?_;rcases OS u.reverse with h|h;refine .inl ?_;rw[List.take_reverse]at h;have:=az List.reverse h;rwa [List.reverse_reverse]at this;refine .inr ?_;rw[List.drop_reverse]at h;exact h
def Ud(h:w=[93,93]\/bS a=0)(E:b=(w++v).take n)(u:0<b.length):pG a b:=by
 intro k aP hl;have e:(a++b).drop k=a.drop k++b:=lM<|gt aP;refine Y e<|lj λq=>?_;have len:(a.drop k).length=a.length-k:=b0;have bp:∀t:List Nat,a.drop k=t++[93]->pre [93,93,62] (t++[93]++b)=true->1<=t.length\/t=[]->t.length<=1->False:=λt ht f _ j=>by
  have z:w=[93,93]:=h.resolve_right λC=>by have:a=a.take k++t++[93]:=Y (bq ..)<|Y ht.symm<|Y (n7 ..) rfl;rw[this,ny,r6]at C;have C:aB (Nat.beq 93 93) (match(a.take k++t).reverse with|[]=>1|b::_=>aB (Nat.beq 93 b) 2 1) 0=0:=C;revert C;rcases(a.take k++t).reverse with _|⟨x,l⟩;exact λC=>nomatch C;show aB (Nat.beq 93 x) 2 1=0->False;cases Nat.beq 93 x<;>exact λC=>nomatch C
  clear h;subst z;have I:(∃r,b=93::93::r)\/b=[93]:=by
   match n with
   |0=>rw[E]at u;exact absurd u<|hy _
   |1=>exact .inr E|n+2=>exact .inl ⟨v.take n,E⟩
  match t,j with
  |[],_=>rcases I with⟨r,rfl⟩|rfl;exact ff f;exact ff f
  |[x],_=>have f:(match Nat.beq 93 x with|true=>pre [93,62] ([93]++b)|false=>false)=true:=f;revert f;rcases aE:Nat.beq 93 x;intro f;exact ff f;intro f;rcases I with⟨r,rfl⟩|rfl;exact ff f;exact ff f
 match ht:a.drop k with
 |[]=>rw[ht]at len;simp at len;exact km 0<|cT aP (a4 len.symm) (cm a.length k)<|by simp+arith
 |[x]=>
  rw[ht]at q;have aE:x=93:=by have q:(match Nat.beq 93 x with|true=>pre [93,62] b|false=>false)=true:=q;rcases aE:Nat.beq 93 x;rw[aE]at q;exact ff q;exact(cd aE).symm
  subst aE;exact bp [] ht q (.inr rfl)<|bJ _
 |[x,y]=>
  rw[ht]at q;have D:y=93:=by have q:(match Nat.beq 93 x with|true=>(match Nat.beq 93 y with|true=>pre [62] b|false=>false)|false=>false)=true:=q;revert q;rcases aE:Nat.beq 93 x;intro q;exact ff q;intro q;have q:(match Nat.beq 93 y with|true=>pre [62] b|false=>false)=true:=q;rcases D:Nat.beq 93 y;rw[D]at q;exact ff q;exact(cd D).symm
  subst D;exact bp [x] ht q (.inl<|ba _)<|ba _
 |_::_::_::_=>rw[ht]at len;simp at len;exact km 0<|cT hl (a4 len) (a4<|bx<|show k<=a.length from aR aP<|by simp+arith)<|by simp+arith
def CL:∀{a},cD z a=none->cD z (a++b)=(cD z b).map (a.length+·):=by
 intro a;induction a with
 |nil=>intro _;refine Y (List.nil_append ..)<|Y hA ?_;cases cD z b<;>simp
 |cons c a j=>
  intro h;have e:∀r,cD z (c::r)=match z c with|true=>(cD z r).map (·+1)|false=>some 0:=λ_=>rfl;rw[e]at h;refine Y kD<|Y (e ..) ?_;revert h;rcases f:z c;intro h;exact aW<|h.symm
  .intro h;have h:cD z a=none:=by rcases C:cD z a;rfl;rw[C]at h;exact aW<|h.symm
   show(cD z<|a++b).map (·+1)=_;refine Y (j h) ?_;rcases cD z b with _|i;rfl;exact az some<|rr ..
def Oe(h:ig a=none)(n:pG a b):ig (a++b)=(ig b).map λc=>(c.1,a.length+c.2):=by
 unfold ig at h⊢;revert h;rcases j:cD gL a with _|i
 .intro h;have f:br [93,93,62] a=none:=by rcases C:br [93,93,62] a;rfl;rw[C]at h;exact aW<|h.symm
  refine Y (CL j) ?_;rcases cD gL b with _|i
  .have s:=ES (y:=[93,93,62]) (x:=a++b) (z:=a.length) (by refine Y a0 ?_;exact bK ..) λk aP=>by rcases dE a.length (k+3)with q|q;exact n k aP q;exact Y (lM<|gt aP)<|Y (ky<|by rw[b0];show 3<=_;exact a7 q (cm a.length k)<|by simp+arith)<|qd f k<|gt aP
   rw[tO]at s;show(match br [93,93,62] (a++b)with|some i=>some (qK,i)|none=>none)=_;refine Y s ?_;rcases br [93,93,62] b with _|i;rfl;exact az (λn=>some (qK,n))<|cF ..
  rfl
 intro h;exact aW<|h.symm
def BZ(c):fh c=(ar [c] [60]||ar [c] [38]):=by
 unfold fh;have l:∀x,ar [c] [x]=Nat.beq c x:=λx=>by show(match Nat.beq c x with|true=>true|false=>false)=_;cases Nat.beq c x<;>rfl
 refine Y (l ..)<|Y (l ..) ?_;show(match pre [c] [60,38]with|true=>some 0|false=>(match pre [c] [38]with|true=>some 0|false=>none).map (·+1)).isSome=_;have p:∀x r,pre [c] (x::r)=Nat.beq c x:=λx r=>by show(match Nat.beq c x with|true=>true|false=>false)=_;cases Nat.beq c x<;>rfl
 refine Y (p ..)<|Y (p ..) ?_;cases Nat.beq c 60<;>cases Nat.beq c 38<;>rfl
def zy(h:fh c=false)(s)(E):bM (c::r) s E=g2 (c::r) s E/\c4 (c::r) s=true:=by rw[BZ]at h;refine aS (xo.mp h) λj f=>⟨?_,?_⟩;show aB (ar [c] [60]) _ (aB (ar [c] [38]) _<|g2 (c::r) s E)=_;exact Y j<|Y f rfl;show aB (ar [c] [60]) _ (aB (ar [c] [38]) _ true)=true;exact Y j<|Y f rfl
def EI(h:d8 r s=some z):z=(ge,bQ r [93,93,62]<|s.fr 9,cI r [93,93,62]<|s.fr 9)\/z=(g3,bQ r [62]<|s.fr 2,cI r [62]<|s.fr 2)\/z=(cP,some r.length,.no)\/z=iq (gx r s):=by unfold d8 at h;refine aS (n8 h) λ_ h=>?_;rcases j:pre dq r;rw[j]at h;refine aS (n8 h) λ_ h=>aS (n8 h) λ_ h=>?_;rcases f:pre [60,47] r;rw[f]at h;rcases k:pre [60,33] r;rw[k]at h;exact .inr<|.inr<|.inr (aQ h).symm;rw[k]at h;exact .inr<|.inr<|.inl (aQ h).symm;rw[f]at h;exact .inr<|.inl (aQ h).symm;rw[j]at h;exact .inl (aQ h).symm
def P1(h:d8 r s=some z):ar z.1 ao=false:=by rcases EI h with rfl|rfl|rfl|rfl<;>rfl
def ts(h:Nat.blt 0 n=true):1<=n:=bE h
def y0(h:bM u .no false=(some kd,e,J))(ht:ar kd ao=true):(∃c r,u=c::r/\fh c=false)/\kd=ao/\J=.no/\e=cb u false/\1<=e:=by rcases u with _|⟨c,u⟩;exact nomatch az (·.1) h;have h:aB (ar [c] [60]) (c6 (c::u) false<|d8 (c::u) .no) (aB (ar [c] [38]) (c6 (c::u) false<|some (dL,bQ (c::u) [59] 1,cI (c::u) [59] 1))<|g2 (c::u) .no false)=(some kd,e,J):=h;revert h;rcases f:ar [c] [60];intro h;revert h;rcases k:ar [c] [38];intro h;have h:aB (Nat.blt 0<|cb (c::u) false) (some ao,cb (c::u) false,.no) (none,0,.no)=(some kd,e,J):=h;revert h;rcases x:Nat.blt 0 (cb (c::u) false);intro h;exact nomatch az (·.1) h;intro h;clear ht;obtain rfl:ao=kd:=aQ<|az (·.1) h;obtain rfl:cb (c::u) false=e:=az (·.2.1) h;obtain rfl:Seen.no=J:=az (·.2.2) h;exact ME ⟨c,u,rfl,by exact Y (BZ ..)<|Y f<|Y k rfl⟩ rfl rfl rfl<|ts x;intro h;obtain⟨_,j,h⟩:=nH<|show c6 (c::u) false (some (dL,bQ (c::u) [59] 1,cI (c::u) [59] 1))=_ from h;obtain rfl:dL=kd:=az (·.1)<|aQ h;exact ff ht;intro h;obtain⟨_,j,h⟩:=nH<|show c6 (c::u) false (d8 (c::u) .no)=_ from h;have:=P1 h;rw[show ar ((kd,some e,j):gf).1 ao=ar kd ao from rfl,ht]at this;exact ff<|this.symm
def xf(f:1<=z)(h:bQ r w z=some e):1<=e:=by refine aZ (jl (o:=iH (r.drop z) w) (z:=(z+·)) h) λa _ j=>?_;clear h;subst j;exact as f<|bK ..
def sE(h:bM u .no false=(some kd,e,J)):1<=e:=by rcases ht:ar kd ao;rcases u with _|⟨c,u⟩;exact nomatch az (·.1) h;have h:aB (ar [c] [60]) (c6 (c::u) false<|d8 (c::u) .no) (aB (ar [c] [38]) (c6 (c::u) false<|some (dL,bQ (c::u) [59] 1,cI (c::u) [59] 1))<|g2 (c::u) .no false)=(some kd,e,J):=h;revert h;rcases f:ar [c] [60];intro h;revert h;rcases D:ar [c] [38];intro h;have h:aB (Nat.blt 0<|cb (c::u) false) (some ao,cb (c::u) false,.no) (none,0,.no)=(some kd,e,J):=h;revert h;rcases E:Nat.blt 0 (cb (c::u) false);intro h;exact nomatch az (·.1) h;intro h;obtain rfl:ao=kd:=aQ<|az (·.1) h;exact ff<|ht.symm;intro h;exact aS (nH<|show c6 (c::u) false (some (dL,bQ (c::u) [59] 1,cI (c::u) [59] 1))=_ from h) λ_ C=>aU C λx h=>xf (ba 1)<|az (·.2.1)<|aQ h;intro h;refine aS (nH<|show c6 (c::u) false (d8 (c::u) .no)=_ from h) λ_ j=>aU j λx h=>?_;rcases EI h with k|k|k|k;exact xf (show 1<=9 by decide) (az (·.2.1) k).symm;exact xf (show 1<=2 by decide) (az (·.2.1) k).symm;have k:some e=some (u.length+1):=az (·.2.1) k;exact Y (aQ k)<|bT ..;refine aZ (jl (o:=(bw u []).1) (z:=(1+·)) (az (·.2.1) k).symm) λa _ y=>?_;clear j h k;subst y;exact bK ..;exact(y0 h ht).2.2.2.2
def wb(h:bM u .no false=(some kd,e,J))(o:c4 u .no=true):e<=u.length:=by have:=(vR (E:=false) o).1;rwa [h]at this
section
variable{sem:g9}
def Na:∀{n m st nm r p},r.length<n->r.length<m->dQ sem false n ⟨st,nm,r,.no,p⟩=dQ sem false m ⟨st,nm,r,.no,p⟩:=by
 intro n;induction n with
 |zero=>exact λh=>absurd h<|hy _
 |succ n y=>
  intro m st nm r p j f;rcases m with _|m;exact absurd f<|hy _
  .show b3 (c4 r .no) (jY sem (dQ sem false n) ⟨st,nm,r,.no,p⟩<|bM r .no false)=b3 (c4 r .no) (jY sem (dQ sem false m) ⟨st,nm,r,.no,p⟩<|bM r .no false);rcases o:c4 r .no;rfl
   .show jY _ _ _ _=jY _ _ _ _;match ht:bM r .no false with|(none,e,s)=>rfl|(some kd,e,s)=>have k:=sE ht;have hl:=wb ht o;show ob (sem st nm kd (r.take e) p) _=ob (sem st nm kd (r.take e) p) _;refine p3 λx=>?_;rcases x with⟨l,ae,u⟩|pl;show b3 _ (ob (dQ sem false n ⟨ae,u,r.drop e,.no,p+e⟩) _)=b3 _ (ob (dQ sem false m ⟨ae,u,r.drop e,.no,p+e⟩) _);exact Y (y (m:=m) (by rw[b0];exact cT j k (a4<|bx<|show e<=r.length from aR hl<|by simp+arith)<|by simp+arith)<|by rw[b0];exact cT f k (a4<|bx<|show e<=r.length from aR hl<|by simp+arith)<|by simp+arith) rfl;rfl
end
theorem vv:∀{n u},aI u=u.length->aI (u.drop n)=(u.drop n).length|0,_,h=>h|n+1,[],_=>rfl|n+1,c::u,h=>by have h:aB (fh c) 0 (aI u+1)=u.length+1:=h;revert h;rcases k:fh c;intro h;exact vv (n:=n) (u:=u)<|hD h;intro h;cases h
def EN(h:1<=aI (c::r)):fh c=false:=by have h:1<=aB (fh c) 0 (aI r+1):=h;rcases k:fh c;rfl;rw[k]at h;exact absurd h<|km _
def Jy(h:1<=cb r false):g2 r s false=(some ao,cb r false,.no):=by show aB (Nat.blt 0<|cb r false) _ _=_;exact Y (dw h) rfl
section
variable{u:List Nat}(h:aI u=u.length)
include h
omit h in
theorem IL:bS (u.drop<|u.length-bS u)=(u.drop<|u.length-bS u).length:=by have:=CI u [];rw[be,be]at this;refine Y this<|Y b0 ?_;exact(Nat.sub_sub_self<|s9 u).symm
theorem RT:bM (u.drop<|u.length-bS u) .no false=(none,0,.no):=by have j:=IL (u:=u);have f:=vv (n:=u.length-bS u) h;generalize u.drop (u.length-bS u)=w at j f;rcases w with _|⟨c,r⟩;rfl;refine Y ((zy (EN<|by rw[f];exact bT ..) .no false).1) ?_;show aB (Nat.blt 0<|aB (Nat.beq (aI<|c::r) (c::r).length) (aI (c::r)-bS (c::r)) _) _ _=_;refine Y f<|Y (o8 rfl)<|Y j ?_;show aB (Nat.blt 0<|_-_) _ _=_;exact Y (er ..) rfl
theorem Kf:cb (u++v) false=u.length-bS u+cb (u.drop (u.length-bS u)++v) false:=by
 have j:=CI u v;have f:=vv (n:=u.length-bS u) h;have le:=s9 u;have hl:u.length-bS u+(u.drop<|u.length-bS u).length=u.length:=by refine Y b0 ?_;simp+arith
 generalize u.drop (u.length-bS u)=w at j f hl;have e:∀x:List Nat,aI x=x.length->cb (x++v) false=aB (Nat.beq (aI v) v.length) (x.length+aI v-bS (x++v)) (x.length+aI v):=λx aE=>by show aB (Nat.beq (aI<|x++v) (x++v).length) (aI (x++v)-bS (x++v)) (aI<|x++v)=_;refine Y (E6 ..)<|Y (o8 aE) ?_;show aB (Nat.beq (x.length+aI v) (x++v).length) (x.length+aI v-bS (x++v)) (x.length+aI v)=_;exact Y a0<|Y ET rfl
 refine Y (e u h)<|Y (e w f)<|Y j.symm ?_;have k:=s9<|w++v;rw[a0]at k;rcases y:Nat.beq (aI v) v.length;show u.length+aI v=u.length-bS u+(w.length+aI v);exact ce (aR (a4 hl.symm)<|by simp+arith)<|aR (a4 hl)<|by simp+arith
 have:=cd y;show u.length+aI v-bS (w++v)=u.length-bS u+(w.length+aI v-bS (w++v));exact ce (cT (a4 hl.symm) (cm (w.length+aI v)<|bS<|w++v) (a4<|bx<|show bS (w++v)<=u.length+aI v from cT (a4 hl) k (a4 this.symm)<|by simp+arith)<|by simp+arith)<|cT (a4 hl) (cm (u.length+aI v)<|bS<|w++v) (a4<|bx<|show bS (w++v)<=w.length+aI v from a7 k (a4 this.symm)<|by simp+arith)<|by simp+arith
end
def N3:cb r false<=aI r:=cw (P:=(·<=aI r)) (λh=>nomatch h) λ_=>cw (P:=(·<=aI r)) (λ_=>gj ..) λ_=>ba _
def Hl(a b)(o:b'):(o.add [.tx<|a++b]).dK=(o.add [.tx a,.tx b]).dK:=by refine Y (FT [.tx a,.tx b] ..) ?_;show _=(o.add [.tx<|a++[]++b]).dK;exact Y (be ..) rfl
def pY(sem:g9):Prop:=∀{st:Nat}{nm:List V}{a b:List Nat}{p:Nat}{l:List cL}{ae:Nat}{u:List V},sem st nm ao a p=some (.ok l ae u)->pG a b->0<b.length->a.length+b.length<=500->
 (ae=st/\u=nm)/\∃k:List Nat->List cL,(k=(λ_=>[])\/k=λx=>[.tx x])/\l=k a/\((sem st nm ao b (p+a.length)=none/\sem st nm ao (a++b) p=none)\/(∃x,sem st nm ao b (p+a.length)=some (.bad x)/\sem st nm ao (a++b) p=some (.bad x))\/(sem st nm ao b (p+a.length)=some (.ok (k b) st nm)/\sem st nm ao (a++b) p=some (.ok (k<|a++b) st nm)))
section
variable{sem:g9}
abbrev cq(sem:g9)(st:Nat)(nm:List V)(r:List Nat)(p:Nat):Option b':=dQ sem false 200 ⟨st,nm,r,.no,p⟩
def Op(sem:g9)(r:List Nat)(e p:Nat):Er->Option b'
 |.bad pl=>some<|.bad pl
 |.ok l st nm=>b3 (Nat.ble l.length 2&&Nat.ble (cN l) 500)<|ob (cq sem st nm (r.drop e)<|p+e) λo=>some<|o.add l
def kb{st:Nat}(o:c4 r .no=true)(h:bM r .no false=(none,e,s)):cq sem st nm r p=some (.ok [] ⟨st,nm,r,s,p⟩):=by show b3 (c4 r .no) (jY sem (dQ sem false 199) ⟨st,nm,r,.no,p⟩<|bM r .no false)=_;exact Y o<|Y h rfl
def p1{st:Nat}(f:r.length<200)(o:c4 r .no=true)(h:bM r .no false=(some kd,e,s)):cq sem st nm r p=ob (sem st nm kd (r.take e) p) (Op sem r e p):=by show b3 (c4 r .no) (jY sem (dQ sem false 199) ⟨st,nm,r,.no,p⟩<|bM r .no false)=_;refine Y o<|Y h ?_;show ob (sem st nm kd (r.take e) p) _=_;refine p3 λk=>?_;have j:=sE h;have hl:=wb h o;rcases k with⟨l,ae,u⟩|pl;show b3 _ (ob (dQ sem false 199 ⟨ae,u,r.drop e,.no,p+e⟩) _)=b3 _ (ob (dQ sem false 200 ⟨ae,u,r.drop e,.no,p+e⟩) _);rw[Na (m:=200) (by rw[b0];exact cT f j (a4<|bx<|show e<=r.length from aR hl<|by simp+arith)<|by simp+arith)<|by rw[b0];exact a7 f (gj r.length e)<|by simp+arith];rfl
def uU(o)(z:f->j):(ob o λa=>some<|z a)=o.map z:=by cases o<;>rfl
def Ox(o:Option b')(l):(o.map λx=>(x.add l).dK)=(o.map b'.dK).map λx=>(x.add l).dK:=by rcases o with _|x;rfl;exact az some<|AT l x
def Ae(aP:k=(λ_=>[])\/k=λx=>[.tx x])(f:b.length<=500):(Nat.ble (k b).length 2&&Nat.ble (cN<|k b) 500)=true:=by rcases aP with rfl|rfl;rfl;show Nat.ble (b.length+0) 500=true;exact ia f
def ju(sem:g9)(v:List Nat)(st:Nat)(nm:List V)(u:List Nat)(p:Nat)(l:List cL)(f:jP):Prop:=(cq sem st nm (u++v) p).map b'.dK=(cq sem f.st f.nm (f.r++v) f.p).map λo=>(o.add l).dK
section
variable{st:Nat}
def CZ(h:cq sem st nm u p=some (.ok l f))(e:cq sem st nm u p=some (.ok [] ⟨st,nm,u,s,p⟩)):ju sem v st nm u p l f:=by refine zo (aQ<|e.symm.trans h) λa b=>?_;clear h;subst a b;show(cq sem st nm (u++v) p).map b'.dK=_;refine az (λz=>Option.map z _)<|funext λo=>?_;cases o<;>rfl
def Eo(i:ju sem v y x (u.drop e) (p+e) j C)(D:(u++v).length<200)(h:e<=u.length)(he:sem st nm kd (u.take e) p=some (.ok f y x))(g:(Nat.ble f.length 2&&Nat.ble (cN f) 500)=true)(k:bM (u++v) .no false=(some kd,e,s))(o:c4 (u++v) .no=true):ju sem v st nm u p (f++j) C:=by show(cq sem st nm (u++v) p).map b'.dK=_;refine Y (p1 D o k)<|Y (AF h)<|Y he ?_;show(b3 _<|ob (cq sem y x ((u++v).drop e)<|p+e) _).map _=_;refine Y g<|Y (lM h) ?_;show(ob _ _).map _=_;exact Y (uU ..)<|Y (Option.map_map ..)<|(Ox _ f).trans<|Y i<|Y (Option.map_map ..)<|az (λz=>Option.map z _)<|funext λo=>(AT f<|o.add j).symm.trans<|az b'.dK<|AG ..
def PG(T:pY sem)(he:sem st nm ao a p=some (.ok U O N))(nc:pG a<|y.take n)(u:(y.take n).length=n)(C:0<n)(lt:(a++y).length<200)(k1:bM (a++y) .no false=(some ao,a.length+n,.no))(I:c4 (a++y) .no=true)(k2:bM y .no false=(some ao,n,.no))(J:c4 y .no=true):(cq sem st nm (a++y) p).map b'.dK=(cq sem O N y<|p+a.length).map λo=>(o.add U).dK:=by
 have W:a.length+y.length<200:=by rwa [a0]at lt
 have ly:y.length<200:=fj (bT ..) W;have ny:n<=y.length:=u▸List.length_take_le' n y;refine Y (p1 lt I k1)<|Y (p1 ly J k2)<|Y (List.take_length_add_append ..) ?_;have E:a.length+(y.take n).length<=500:=by refine Y u ?_;exact a7 W ny<|by simp+arith
 refine aS (T he nc (Nat.lt_of_lt_of_eq C u.symm) E) λD h=>dD h λk aP el hh=>aS D λz1 z2=>?_;clear he D h;subst z1 z2 el;rcases hh with hh|⟨x,hh⟩|hh;refine aS hh λj f=>Y j<|Y f ?_;rfl;refine aS hh λj f=>Y j<|Y f ?_;rfl;refine aS hh λj f=>Y j (Y f ?_);show(b3 _<|ob (cq sem O N ((a++y).drop<|a.length+n) _) _).map _=(b3 _<|ob (cq sem O N (y.drop n) _) _).map _;refine Y (Ae aP<|by rw[a0];exact E)<|Y (Ae aP<|as (bT ..) E)<|Y (List.drop_length_add_append ..)<|Y (cz ..).symm ?_;show(ob _ _).map _=(ob _ _).map _;refine Y (uU ..)<|Y (uU ..)<|Y (Option.map_map ..)<|Y (Option.map_map ..)<|az (λz=>Option.map z _)<|funext λo=>?_;show(o.add _).dK=((o.add<|k _).add<|k _).dK;refine Y (AG ..) ?_;rcases aP with rfl|rfl;rfl;exact Hl _ _ o
def wg(C:0<cb w false):bM w .no false=(some ao,cb w false,.no)/\c4 w .no=true:=by
 rcases w with _|⟨c,r⟩;exact absurd C<|by decide
 exact aS (zy (EN<|as C N3) .no false) λa b=>⟨a.trans<|Jy C,b⟩
def Q9(T:pY sem)(hu:0<cb u false)(W:(u++v).length<200)(he:sem st nm ao (u.take<|cb u false) p=some (.ok f x k))(D:cq sem x k (u.drop<|cb u false) (p+cb u false)=some (.ok j z))(aa:cb (u++v) false=cb u false->ju sem v st nm u p (f++j) z):ju sem v st nm u p (f++j) z:=by
 have ab:cb u false<=u.length:=wc;rcases h:Nat.beq (aI u) u.length
 .have ae:aI u<u.length:=Nat.lt_of_le_of_ne (oZ _) λC=>by rw[C,eg]at h;exact ff (h.symm)
  have e1:cb u false=aI u:=by show aB (Nat.beq _ _) _ _=_;exact Y h rfl
  refine aa<|Eq.trans ?_ e1.symm;have a:aI (u++v)=aI u:=by exact Y (E6 ..)<|Y h rfl
  show aB (Nat.beq (aI<|u++v) _) _ (aI<|u++v)=_;refine Y a<|Y (iI<|by rw[a0];exact o7<|cB ae<|bK ..) ?_;rfl
 .have h:=cd h;have e1:cb u false=u.length-bS u:=by show aB (Nat.beq _ _) _ _=_;exact Y h<|Y (eg ..) rfl
  have E:=Kf (v:=v) h;have wr:=RT h;have U:=Lw u;rw[<-e1]at E wr U;have al:(u.take<|cb u false).length=cb u false:=List.length_take_of_le ab;have sp:u++v=u.take (cb u false)++(u.drop (cb u false)++v):=by rw[<-bq,n7]
  generalize cb u false=e at*;rcases hz:Nat.blt 0 (cb (u.drop e++v) false);refine aa (E.trans ?_);generalize cb (u.drop e++v) false=n at hz;rcases n with _|n;rfl;exact ff hz.symm;have C:=ts hz;refine zo (aQ<|(kb (sem:=sem) (vK<|show b3 (c4 _ .no) _=_ from D).1 wr).symm.trans D) λy1 y2=>?_;subst y1 y2;refine aS (wg C) λk2 J=>aS (wg (w:=u++v)<|E▸cB C (bT ..)) λN I=>?_;have O:((u.drop e++v).take<|cb (u.drop e++v) false).length=cb (u.drop e++v) false:=List.length_take_of_le wc;have nc:=Ud U rfl<|Nat.lt_of_lt_of_eq C O.symm;rw[E]at N;show(cq sem st nm (u++v) p).map b'.dK=(cq sem x k (u.drop e++v)<|p+e).map λo=>(o.add<|f++[]).dK;rw[be];generalize u.drop e++v=y at*;rw[sp]at N I W⊢;generalize u.take e=a at*;subst al;exact PG T he nc O C W N I k2 J
def MD(T:pY sem)(U:∀{st nm tx p e},sem st nm cP tx p=some e->e=.bad p)(y:(u++v).length<200)(o:c4 u .no=true)(ht:bM u .no false=(some kd,e,s))(h:cq sem st nm u p=some (.ok l f))(N:1<=e->e<=u.length->∀{st nm p l f},cq sem st nm (u.drop e) p=some (.ok l f)->ju sem v st nm (u.drop e) p l f):ju sem v st nm u p l f:=by have aa:u.length<200:=fj (by rw[a0];exact bK ..) y;rw[p1 aa o ht]at h;refine aK h λW he h=>?_;rcases W with⟨l0,ae,ab⟩|pl;refine c8 h λg h=>aK h λI D h=>?_;rcases I with⟨l1,af⟩|pl;refine zo (aQ h) λE O=>?_;clear h;subst E O;have z:=wb ht o;have i:=N (sE ht) z D;rcases C:ar kd ao;rcases x:ar kd cP;exact aS (J8 ht C x o) λa b=>Eo i y z he g a b;rw[ie x]at he;cases U he;refine oj (y0 ht C) λk E O y3 j=>?_;clear ht N h C;subst y3 E;refine Q9 T j y he D λJ=>aS (wg (w:=u++v)<|J▸j) λa b=>?_;rw[J]at a;exact Eo i y z he g a b;exact nomatch aQ h;exact nomatch aQ h
end
def split(T:pY sem)(x:∀{st nm tx p e},sem st nm cP tx p=some e->e=.bad p):∀n{st nm u p l f},u.length<=n->u.length+v.length<200->cq sem st nm u p=some (.ok l f)->ju sem v st nm u p l f:=by
 intro n;induction n with
 |zero=>intro st nm u p l f k _ h;obtain rfl:u=[]:=q5.mp<|Nat.le_zero.mp k;exact CZ h<|kb rfl rfl
 |succ n z=>
  intro st nm u p l f k hl h;have o:=(vK<|show b3 (c4 u .no) _=_ from h).1;rcases ht:bM u .no false with⟨_|kd,e,s⟩;exact CZ h<|kb o ht
  .refine MD T x (by rw[a0];exact hl) o ht h λj y=>?_;have d:(u.drop e).length+1<=u.length:=by rw[b0];exact Nat.sub_lt (cB j y) j
   exact λ{_ _ _ _ _}=>z (iC<|as d k)<|fj (l7 (oy d) _) hl
end
noncomputable abbrev nA:List V:=[.str [97]]
def w0:List (List V×List Nat×List Nat×Rd):=[
 ([],d',[60,97,62],.ok [.ot<|.st [97] []] nA),
 ([],d',[60,97,32,98,61,39,99,39,62],.ok [.ot<|.st [97] [([98],[99])]] nA),
 (nA,d',[60,100,47,62],.ok [.ot<|.st [100] [],.ot<|.en [100]] nA),
 (nA,d',[60,98,47,62],.ok [.ot<|.st [98] [],.ot<|.en [98]] nA),
 (nA,g3,[60,47,97,62],.ok [.ot<|.en [97]] []),
 (nA,dL,[38,35,48,59],.bad 0),
 (nA,dL,[38,97,109,112,59],.ok [.tx [38]] nA),
 (nA,dL,[38,35,54,53,59],.ok [.tx [65]] nA),
 (nA,d',[60,102,32,103,61,39,104,38,35,120,68,59,38,35,53,59,39,47,62],.bad 12),
 (nA,g3,[60,47,103,62],.bad 0),
 (nA,d',[60,106,32,107,61,39,49,39,32,107,61,39,50,39,47,62],.bad 9),
 (nA,ge,[60,33,91,67,68,65,84,65,91,60,121,62,93,93,62],.ok [.tx [60,121,62]] nA)]
noncomputable def qC(nm:List V)(kd tx:List Nat):List (List V×List Nat×List Nat×Rd)->Option Rd|[]=>none|x::r=>aB (ar tx x.2.2.1&&(ar kd x.2.1&&gQ nm x.1)) (some x.2.2.2)<|qC nm kd tx r
def gI(nm:List V)(x:List Nat):Rd:=match ig x with|none=>.ok [.tx x] nm|some c=>.bad c.2
def rd:wz:=λnm kd tx=>aB (ar kd ao) (b3 (!dv nm&&Nat.ble tx.length bf)<|some<|gI nm tx)<|qC nm kd tx w0
noncomputable def qq:aq->List (List Nat×Nat)
 |[]=>[]
 |o::H=>match o with
  |.dict f=>(match ob (aC dN f) ek,ob (aC b7 f) lI with|some m,some p=>(m,p)::qq H|_,_=>[])
  |_=>qq H
def wM(nm:List V)(kd tx:List Nat)(e:Rd):Bool:=!ar kd ao&&match hS [.ref 0,.str kd,.str tx,.int ((0:Nat):Int)] (bO nm [])with
 |none=>false
 |some q=>match e with
  |.ok l u=>jp u&&l4 q (.ok (.ref 9)<|bO u [.list<|aD l])
  |.bad pl=>jp nm&&match q with
   |.ok _ _=>false
   |.exc _ H=>match qq (H.drop 9)with|[]=>false|c::ch=>Nat.beq c.2 pl&&(Nat.ble ch.length 1&&l4 q (.exc 9<|bO nm<|fo (c::ch) 9))
noncomputable def sV:List (List V×List Nat×List Nat×Rd)->Bool|[]=>true|x::r=>wM x.1 x.2.1 x.2.2.1 x.2.2.2&&sV r
def FQ:sV w0=true:=by decide+kernel
def FN{tx:List Nat}(h:ar kd ao=false):ay (d+1) none (.fn 790) [.ref 0,.str kd,.str tx,.int ((0:Nat):Int)] (bO nm [])=hS [.ref 0,.str kd,.str tx,.int ((0:Nat):Int)] (bO nm []):=by
 show(match !ar kd ao with
  |true=>hS [.ref 0,.str kd,.str tx,.int ((0:Nat):Int)]<|bO nm []
  |false=>bD (λD H=>aF NN tab (ay d) none (.fn 790) D H) [.ref 0,.str kd,.str tx,.int ((0:Nat):Int)]<|bO nm [])=_
 exact Y h rfl
def Nz{tx:List Nat}(h:wM nm kd tx e=true):nM (ay<|d+1) nm kd tx e:=by obtain⟨j,h⟩:=cY.mp h;have a:=FN (d:=d) (nm:=nm) (tx:=tx)<|nI j;rcases bo:hS [.ref 0,.str kd,.str tx,.int ((0:Nat):Int)] (bO nm [])with _|q;rw[bo]at h;exact ff h;rw[bo]at h a;rcases e with⟨l,u⟩|pl;obtain⟨f,k⟩:=cY.mp (show(jp u&&l4 q (.ok (.ref 9)<|bO u [.list<|aD l]))=true from h);exact⟨CT f,a.trans<|oN (m:=some q) k⟩;rcases q with _|⟨i,H⟩;cases(cY.mp h).2;obtain⟨f,h⟩:=cY.mp h;have h:(match qq (H.drop 9)with|[]=>false|c::ch=>Nat.beq c.2 pl&&(Nat.ble ch.length 1&&l4 (.exc i H) (.exc 9<|bO nm<|fo (c::ch) 9)))=true:=h;revert h;rcases y:qq (H.drop 9)with _|⟨c,ch⟩;intro h;exact ff h;intro h;obtain⟨k,h⟩:=cY.mp<|show(Nat.beq c.2 pl&&(Nat.ble ch.length 1&&l4 (.exc i H) (.exc 9<|bO nm<|fo (c::ch) 9)))=true from h;obtain⟨x,z⟩:=cY.mp h;exact⟨nm,c,ch,cd k,bE x,CT f,a.trans<|oN (m:=some<|.exc i H) z⟩
def Px{tx:List Nat}:∀{l},sV l=true->qC nm kd tx l=some e->nM (ay<|d+1) nm kd tx e:=by
 intro l;induction l with
 |nil=>intro _ h;exact nomatch h
 |cons x r z=>intro u h;obtain⟨j,f⟩:=cY.mp<|show(wM x.1 x.2.1 x.2.2.1 x.2.2.2&&sV r)=true from u;have h:aB (ar tx x.2.2.1&&(ar kd x.2.1&&gQ nm x.1)) (some x.2.2.2) (qC nm kd tx r)=some e:=h;revert h;rcases y:(ar tx x.2.2.1&&(ar kd x.2.1&&gQ nm x.1));intro h;exact z f h;intro h;obtain⟨c1,c⟩:=cY.mp y;obtain⟨c2,k⟩:=cY.mp c;obtain rfl:=aQ h;exact Y (ie c1)<|Y (ie c2)<|Y (kS k)<|Nz j
def DA(y:aH nm):cA (bO nm G) 9=[1,6,8,2,3,4,5,2,7]:=by have e:cA (bO nm G) 9=[1,6,8,2,3,4,5,2,7]++(ck nm++cA G 0):=rfl;refine Y e<|Y y.1 ?_;cases G<;>rfl
def Gk(y:aH nm)(aE:x.length<=bf):nM (ay<|d+5) nm ao x (gI nm x):=by
 have a:ay (d+5) none (.fn 790) [.ref 0,.str ao,.str x,.int ((0:Nat):Int)] (bO nm [])=bD (λD H=>aF NN tab (ay<|d+4) none (.fn 790) D H) [.ref 0,.str ao,.str x,.int ((0:Nat):Int)] (bO nm []):=rfl;have f:reach 4000 (bO nm []) (ck [.ref 0,.str ao,.str x,.int ((0:Nat):Int)]) []=some (upTo (bO nm []).length []):=uq y;have m:=Co d x 0 (bO nm []) aE;unfold gI;generalize ig x=o at m;have h:∀k∈[1,6,8,2,3,4,5,2,7],k∈upTo 9 []:=by decide
 rcases o with _|c
 .refine⟨y,a.trans<|zR (b:=.ref 9) (u:=bO nm [.list [.tup [.str ao,.str x]]]) f (Sr (O:=ay<|d+4) (j:=199940) m) (.inl rfl) (bK 9 1) ?_⟩;show reach 4000 _ (9::cA (bO nm [.list [.tup [.str ao,.str x]]]) 9) (upTo 9 [])=_;exact Y (DA y)<|(cW rfl (o:=.list [.tup [.str ao,.str x]]) rfl).trans<|kY (T:=[1,6,8,2,3,4,5,2,7]) (done:=upTo 9 []++[9]) (λk m=>fq _<|h k m)<|by decide
 .have m:ay (d+4) none (.fn 762) [.str x,.int ((0:Nat):Int)] (bO nm [])=some (.exc 9<|bO nm<|fo [(c.1,c.2)] 9):=by have m:ay (d+4) none (.fn 762) [.str x,.int ((0:Nat):Int)] (bO nm [])=some (.exc 9<|bO nm<|fo [(c.1,0+c.2)] 9):=m;rwa [eT]at m
  refine⟨nm,(c.1,c.2),[],rfl,bJ _,y,a.trans<|zR (b:=.ref 9) (u:=bO nm<|fo [(c.1,c.2)] 9) f (JA (O:=ay<|d+4) (j:=199940) m) (.inr ⟨9,rfl,rfl⟩) (bK 9 2) ?_⟩;show reach 4000 _ (9::cA (bO nm<|fo [(c.1,c.2)] 9) 9) (upTo 9 [])=_;refine Y (DA y) ?_;refine(nv (n:=3998) (c.1,c.2) [] 9 (upTo 9 []) (λm o e=>by have e:(fo [(c.1,c.2)] 9)[m]? =some o:=e;refine Y (cF ..) ?_;exact e)<|by decide).trans ?_;exact kY (T:=[1,6,8,2,3,4,5,2,7]) (done:=upTo 9 []++[9,10]) (λk m=>fq _<|h k m)<|by decide
def E8:∀e,pK rd (ay<|e+40):=by intro e nm kd tx r y h;have h:aB (ar kd ao) (b3 (!dv nm&&Nat.ble tx.length bf)<|some<|gI nm tx) (qC nm kd tx w0)=some r:=h;revert h;rcases aP:ar kd ao;intro h;exact Px (d:=e+39) FQ h;intro h;refine c8 h λg h=>?_;obtain rfl:=aQ h;obtain rfl:=ie aP;exact Gk (d:=e+35) y<|bE (cY.mp g).2
abbrev c3:g9:=sem rd
def y5{st:Nat}{tx:List Nat}(h:c3 st nm cP tx p=some e):e=.bad p:=by exact c8 h λ_ h=>(aQ h).symm
def xT{st:Nat}:c3 st nm ao x p=b3 (jp nm) (aB (Nat.beq st 2) (b3 (!dv nm&&Nat.ble x.length bf)<|some<|(gI nm x).ih p)<|b3 (!dv x&&Nat.ble x.length bf)<|aB (Nat.beq st 0) none<|b3 (Nat.beq st 3&&dv nm)<|b3 (Nat.blt 0 p)<|some<|k3 nm p<|cD dH x):=by show b3 (jp nm) (aB (Nat.beq st 2) (ob (b3 (!dv nm&&Nat.ble x.length bf)<|some<|gI nm x) λe=>some<|e.ih p) _)=_;cases(!dv nm&&Nat.ble x.length bf)<;>rfl
def oM(h:b=true):b3 b m=m:=by subst h;rfl
def MV(h:0<l.length):dv l=false:=by rcases l;exact absurd h<|hy _;rfl
def CS{n:Nat}(h:n<=500):Nat.ble n bf=true:=ia<|as h<|by decide
def y4(f:jp nm=true)(j:dv nm=false)(aE:x.length<=500):c3 2 nm ao x p=some ((gI nm x).ih p):=by exact Y xT<|Y f<|Y j<|Y (CS aE) rfl
def yL(f:jp nm=true)(j:dv nm=true)(k:0<x.length)(aE:x.length<=500)(h:Nat.blt 0 p=true):c3 3 nm ao x p=some (k3 nm p<|cD dH x):=by refine Y xT<|Y f<|Y (MV k)<|Y (CS aE) ?_;show b3 (true&&dv nm) (b3 (Nat.blt 0 p) _)=_;exact Y j<|Y h rfl
def Fc{st:Nat}(k)(aP:k=(λ_=>[])\/k=λx=>[.tx x])(hl:l=k a){x y:Er}(f:A=some x)(j:B=some y)(h:(∃n,x=.bad n/\y=.bad n)\/(x=.ok (k b) st nm/\y=.ok (k<|a++b) st nm)):(st=st/\nm=nm)/\∃k,(k=(λ_=>[])\/k=λx=>[.tx x])/\l=k a/\((A=none/\B=none)\/(∃x,A=some (.bad x)/\B=some (.bad x))\/(A=some (.ok (k b) st nm)/\B=some (.ok (k<|a++b) st nm))):=by refine⟨⟨rfl,rfl⟩,k,aP,hl,.inr ?_⟩;rcases h with⟨n,rfl,rfl⟩|⟨rfl,rfl⟩;exact .inl ⟨n,f,j⟩;exact .inr ⟨f,j⟩
def uu(h:dv nm=false):(Rd.ok l nm).ih p=.ok l 2 nm:=by rcases nm;cases h;rfl
def NF(g:dv nm=false)(h:ig a=none)(n:pG a b):(∃m,(gI nm b).ih (p+a.length)=.bad m/\(gI nm<|a++b).ih p=.bad m)\/((gI nm b).ih (p+a.length)=Er.ok [.tx b] 2 nm/\(gI nm<|a++b).ih p=Er.ok [.tx<|a++b] 2 nm):=by unfold gI;refine Y (Oe h n) ?_;rcases ig b with _|c;exact .inr ⟨uu g,uu g⟩;exact .inl ⟨_,rfl,az Er.bad (cz ..).symm⟩
def IG(h:cD dH a=none):(∃m,k3 nm (p+a.length) (cD dH b)=.bad m/\k3 nm p (cD dH<|a++b)=.bad m)\/(k3 nm (p+a.length) (cD dH b)=Er.ok [] 3 nm/\k3 nm p (cD dH<|a++b)=Er.ok [] 3 nm):=by refine Y (CL h) ?_;rcases cD dH b with _|c;exact .inr ⟨rfl,rfl⟩;exact .inl ⟨_,rfl,az Er.bad (cz ..).symm⟩
def zY:pY c3:=by
 intro st nm a b p l ae u h W I hl;refine lY λZ C=>?_;have J:b.length<=500:=as (bT ..) hl;have E:(a++b).length<=500:=by refine Y a0 ?_;exact hl
 rw[xT]at h;refine c8 h λf h=>?_;rcases j:Nat.beq st 2
 .rw[j]at h;refine c8 h λ_ h=>?_;revert h;rcases h0:Nat.beq st 0
  .intro h;refine c8 h λN h=>c8 h λD hh=>zb N λO z=>?_;obtain rfl:=cd O;have T:Nat.blt 0 (p+a.length)=true:=dw<|cB (ts D)<|bK ..;have U:0<(a++b).length:=by refine Y a0 ?_;exact cB I<|bT ..
   revert hh;rcases k:cD dH a with _|c;intro hh;refine aS (Er.ok.inj<|aQ hh) λah ai=>?_;subst ah;refine aS ai λaj ak=>?_;subst aj ak;exact C<|Fc (λ_=>[]) (.inl rfl) rfl (yL f z I J T) (yL f z U E D)<|IG k;intro hh;cases hh
  exact aW
 .obtain rfl:=cd j;refine c8 h λg h=>?_;have y:dv nm=false:=by rcases c:dv nm;rfl;rw[c]at g;exact ff g
  have h:=aQ h;rcases k:ig a with _|c;unfold gI at h;rw[k]at h;refine aS (Er.ok.inj<|(uu y).symm.trans h) λaa ab=>?_;subst aa;refine aS ab λaf ag=>?_;subst af ag;exact C<|Fc (λx=>[.tx x]) (.inr rfl) rfl (y4 f y J) (y4 f y E)<|NF y k W;unfold gI at h;rw[k]at h;cases h
noncomputable def cZ(y:List Nat):List Nat->Nat->List Nat
 |[],_=>[]
 |a::r,w=>match w with
  |w+1=>cZ y r w
  |0=>match pre y (a::r)with|true=>10::cZ y r (y.length-1)|false=>a::cZ y r 0
theorem wR(y):∀x w U,∃b l,bg y x w U=b::l|[],_,_=>⟨_,_,rfl⟩|a::r,w+1,U=>wR y r w U|a::r,0,U=>by show∃b l,(match pre y (a::r)with|true=>U.reverse::bg y r (y.length-1) []|false=>bg y r 0<|a::U)=b::l;rcases pre y (a::r);exact wR y r 0<|a::U;exact lX _ _ rfl
theorem pg(y):∀x w U,jn [10] (bg y x w U)=U.reverse++cZ y x w|[],_,U=>(be U.reverse).symm|a::r,w+1,U=>pg y r w U|a::r,0,U=>by show jn [10] (match pre y (a::r)with|true=>U.reverse::bg y r (y.length-1) []|false=>bg y r 0<|a::U)=U.reverse++match pre y (a::r)with|true=>10::cZ y r (y.length-1)|false=>a::cZ y r 0;rcases pre y (a::r);exact Y (pg y r 0<|a::U)<|Y nK<|Y (bq ..) rfl;have e:=pg y r (y.length-1) [];refine g8 (wR y r (y.length-1) []) λb l h=>?_;rw[h]at e;show jn [10] (U.reverse::bg y r (y.length-1) [])=_;refine Y h ?_;show U.reverse++[10]++jn [10] (b::l)=_;exact Y e<|Y (bq ..) rfl
def sf(x):a' x=cZ [13] (cZ [13,10] x 0) 0:=by unfold a' dY;exact Y (pg ..)<|Y (pg ..) rfl
def Ny(b):∀a,cZ [13] (a++b) 0=cZ [13] a 0++cZ [13] b 0:=by
 intro a;induction a with
 |nil=>exact rfl
 |cons c a f=>
  have e:∀r:List Nat,cZ [13] (c::r) 0=match Nat.beq 13 c with|true=>10::cZ [13] r 0|false=>c::cZ [13] r 0:=λr=>by show(match(match Nat.beq 13 c with|true=>true|false=>false)with|true=>10::cZ [13] r 0|false=>c::cZ [13] r 0)=_;cases Nat.beq 13 c<;>rfl
  refine Y kD<|Y (e ..)<|Y (e ..)<|Y (f) ?_;cases Nat.beq 13 c<;>rfl
def tr(a b:List Nat):Prop:=b2 a [13]=false\/∀r,b≠10::r
def og:b2 (u++x::c) [13]=b2 (x::c) [13]:=by unfold b2;exact Y r6<|ky<|by refine Y fL<|Y fL ?_;exact bT 1 c.length
def Ca:b2 (c::x::a) [13]=b2 (x::a) [13]:=og (u:=[c])
def UG(c):b2 [c] [13]=Nat.beq 13 c:=by show(match Nat.beq 13 c with|true=>true|false=>false)=_;cases Nat.beq 13 c<;>rfl
theorem xF(b):∀a,tr a b->cZ [13,10] (a++b) 0=cZ [13,10] a 0++cZ [13,10] b 0
 |[],_=>rfl
 |[c],h=>by
  have e1:cZ [13,10] [c] 0=[c]:=by show(match(match Nat.beq 13 c with|true=>false|false=>false)with|true=>[10]|false=>[c])=_;cases Nat.beq 13 c<;>rfl
  refine Y e1 ?_;show(match(match Nat.beq 13 c with|true=>pre [10] b|false=>false)with|true=>10::cZ [13,10] b 1|false=>c::cZ [13,10] b 0)=_;rcases f:Nat.beq 13 c;rfl
  .have h:=h.resolve_left λC=>by rw[UG,f]at C;exact ff (C.symm)
   rcases b with _|⟨x,r⟩;rfl;show(match(match Nat.beq 10 x with|true=>true|false=>false)with|true=>10::cZ [13,10] (x::r) 1|false=>c::cZ [13,10] (x::r) 0)=_;rcases aE:Nat.beq 10 x;rfl;exact absurd (az (·::r) (cd aE).symm)<|h r
 |c::d::a,h=>by
  have e:∀r:List Nat,cZ [13,10] (c::d::r) 0=match Nat.beq 13 c&&Nat.beq 10 d with|true=>10::cZ [13,10] r 0|false=>c::cZ [13,10] (d::r) 0:=λr=>by show(match(match Nat.beq 13 c with|true=>(match Nat.beq 10 d with|true=>true|false=>false)|false=>false)with|true=>10::cZ [13,10] r 0|false=>c::cZ [13,10] (d::r) 0)=_;cases Nat.beq 13 c<;>cases Nat.beq 10 d<;>rfl
  have j:tr (d::a) b:=h.imp (λC=>Ca.symm.trans C) id;refine Y (show c::d::a++b=c::d::(a++b) from rfl)<|Y (e ..)<|Y (e ..) ?_;rcases f:Nat.beq 13 c&&Nat.beq 10 d;exact az (c::·)<|xF b (d::a) j;have hd:10=d:=cd (cY.mp f).2;refine(az (10::·) (xF b a<|j.imp (λC=>?_) id):_);rcases a with _|⟨x,a⟩;rfl;exact Ca.symm.trans C
def oH(h:tr a b):a' (a++b)=a' a++a' b:=Y (sf ..)<|Y (sf ..)<|Y (sf ..)<|Y (xF b a h)<|Y (Ny ..) rfl
abbrev hd(u:List Nat):List Nat:=fK [] u
abbrev fd(u:List Nat):List Nat:=a'<|bW [] u
def LY(u c):fK (hd u) c=hd (u++c):=by
 show aB (b2 (aB (b2 u [13]) [13] []++c) [13]) [13] []=aB (b2 (u++c) [13]) [13] [];rcases c with _|⟨x,c⟩;refine Y (be ..) (Y (be ..) ?_);cases b2 u [13]<;>rfl
 exact Y og<|Y og rfl
def SK(h:b2 u [13]=true):u=u.dropLast++[13]:=by unfold b2 at h;have:=iz.mp h;revert this;rcases f:u.reverse with _|⟨x,r⟩;intro this;cases this;intro this;have aE:x=13:=(dV this).1;have e:=az List.reverse f;rw[List.reverse_reverse,nK,aE]at e;exact Y e<|Y List.dropLast_concat rfl
def DP(u c):fd (u++c)=fd u++a' (bW (hd u) c):=by
 show a' (aB (b2 (u++c) [13]) (u++c).dropLast<|u++c)=a' (aB (b2 u [13]) u.dropLast u)++a' (aB (b2 (aB (b2 u [13]) [13] []++c) [13]) (aB (b2 u [13]) [13] []++c).dropLast<|aB (b2 u [13]) [13] []++c);rcases c with _|⟨x,c⟩;refine Y (be ..) (Y (be ..) ?_);rcases h:b2 u [13];show a' u=a' u++[];exact Y (be ..) rfl;show a' u.dropLast=a' u.dropLast++[];exact Y (be ..) rfl
 .refine Y og (Y og ?_);have nil:(x::c)≠[]:=λC=>nomatch C;rcases h:b2 u [13];rcases b2 (x::c) [13];exact oH<|.inl h;exact(az a'<|List.dropLast_append_of_ne_nil nil).trans<|oH<|.inl h
  .have e:=SK h;have no:∀y:List Nat,tr u.dropLast (13::y):=λy=>.inr λr C=>nomatch(dV C).1;rcases b2 (x::c) [13]
   .show a' (u++x::c)=a' u.dropLast++a' (13::x::c);refine Y (oH<|no _).symm ?_;conv=>lhs;rw[e]
    exact Y (bq ..) rfl
   .show a' (u++x::c).dropLast=a' u.dropLast++a' (13::x::c).dropLast;refine Y (List.dropLast_append_of_ne_nil nil)<|Y (show(13::x::c).dropLast=13::(x::c).dropLast from rfl)<|Y (oH<|no _).symm ?_;conv=>lhs;rw[e]
    exact Y (bq ..) rfl
noncomputable def jq:List (List Nat):=[[60,97,62],
 [60,97,62,120,121],
 [60,97,32,98,61,39,99,39,62,60,100,47,62]]
noncomputable def fi:List (List Nat×Nat):=[([101,1,60,47,97,62],1),
 ([38,35,48,59,60,47,97,62],0),
 ([60,102,32,103,61,39,104,38,35,120,68,59,38,35,53,59,39,47,62,60,47,97,62],12),
 ([60,47,103,62,60,47,97,62],0),
 ([60,47,97,62,60,97,47,62],4),
 ([60,33,105,62,60,47,97,62],0),
 ([60,106,32,107,61,39,49,39,32,107,61,39,50,39,47,62,60,47,97,62],9),
 ([93,93,62,60,47,97,62],0),
 ([60,47,97,62,32,108],5),
 ([60,47,97,62,10,60,33,91,67,68,65,84,65,91,93,93,62],5)]
noncomputable def bB:List (List Nat)->List V|[]=>[]|x::l=>.str x::bB l
noncomputable def eY:List (List Nat×Nat)->List V|[]=>[]|p::l=>.tup [.str p.1,.int p.2]::eY l
section
variable{O:ap}{pl:Nat}
def Oy(av:O none (.fn 1095) [.ref 0,.ref 1] [aY a b,.list<|bB jq]=some (.ok (.str h) [aY a1 b1,.list<|bB jq]))(aG:O none (.fn 1095) [.ref 0,.ref 4] [aY a1 b1,.list<|bB jq,.list<|eY<|fi.take 5,.list<|eY<|(fi.drop 5).take 4,.list<|eY fi]=some (.ok (.tup [.str k,.int pl]) [aY a2 u,.list<|bB jq,.list<|eY<|fi.take 5,.list<|eY<|(fi.drop 5).take 4,.list<|eY fi]))(f:h.length+k.length<=1000000):Do j O 1119 [.ref 0] [aY a b] (.tup [.str<|h++k,.int (h.length+pl:Nat)]) [aY a2 u,.list<|bB jq,.list<|eY<|fi.take 5,.list<|eY<|(fi.drop 5).take 4,.list<|eY fi]:=by have e:=iY (x:=h) (y:=k) (H:=[aY a2 u,.list<|bB jq,.list<|eY<|fi.take 5,.list<|eY<|(fi.drop 5).take 4,.list<|eY fi]) f;clear f;exact am [(hW,V.ref 0)] rfl<|sk 2<|aj Q.m av rfl<|sk 11<|aj Q.m aG rfl<|sk 3<|aj Q.m e rfl rfl
end
section
variable{sem:g9}
def Nc:∀n{st nm u p l f},u.length<=n->u.length<200->cq sem st nm u p=some (.ok l f)->bM f.r .no false=(none,0,f.s)/\f.r.length<=u.length:=by
 intro n;induction n with
 |zero=>intro st nm u p l f D _ h;obtain rfl:u=[]:=q5.mp<|Nat.le_zero.mp D;refine zo (aQ<|(kb (sem:=sem) rfl rfl).symm.trans h) λN O=>?_;subst N O;exact⟨rfl,ba _⟩
 |succ n J=>
  intro st nm u p l f D hl h;refine c8 (show b3 (c4 u .no) _=_ from h) λo _=>?_;match ht:bM u .no false with
  |(none,e,s)=>refine zo (aQ<|(kb (sem:=sem) o ht).symm.trans h) λT U=>?_;subst T U;have C:=(vR (E:=false) o).2.1;rw[ht]at C;obtain rfl:e=0:=C rfl;exact⟨ht,ba _⟩
  |(some kd,e,s)=>have y:=sE ht;rw[p1 hl o ht]at h;refine aK h λI _ h=>?_;rcases I with⟨l0,ab,aa⟩|pl;refine c8 h λ_ h=>aK h λx k h=>?_;rcases x with⟨l1,ae⟩|pl;refine zo (aQ h) λ_ W=>?_;subst W;have ld:(u.drop e).length=u.length-e:=b0;exact aS (J (by omega) (cT hl (a4 ld) (gj u.length e)<|by simp+arith) k) λj z=>⟨j,by exact cT (a4 ld) z (gj u.length e)<|by simp+arith⟩;exact nomatch aQ h;exact nomatch aQ h
def Sw{st:Nat}(h:bM r .no false=(none,0,s))(e:cq sem st nm (r++c) p=some o):dQ sem false 200 ⟨st,nm,r++c,s,p⟩=some o:=by refine aS (Qv (v:=c) h) λk j=>c8 (show b3 (c4 (r++c) .no) (jY sem (dQ sem false 199) ⟨st,nm,r++c,.no,p⟩<|bM (r++c) .no false)=some o from e) λb e=>?_;show b3 (c4 (r++c) s) (jY sem (dQ sem false 199) ⟨st,nm,r++c,s,p⟩<|bM (r++c) s false)=some o;exact Y (j b)<|Y k e
end
def LW{z g:b'->b'}(h:(some o).map z=a.map g):∃x,a=some x/\z o=g x:=by rcases a with _|x;cases h;exact⟨x,rfl,aQ h⟩
def RA(hl:(fd<|u++c).length<200)(h:cq c3 0 [] (fd u) 0=some (.ok l f))(j:cq c3 0 [] (fd<|u++c) 0=some o'):∃o,dQ c3 false 200 ⟨f.st,f.nm,f.r++a' (bW (hd u) c),f.s,f.p⟩=some o/\o'.dK=(o.add l).dK/\(f.r++a' (bW (hd u) c)).length<200:=by rw[DP]at j hl;rw[a0]at hl;refine aS (Nc (fd u).length (ba _) (aR hl<|by simp+arith) h) λx y=>?_;have s:=split zY y5 (v:=a'<|bW (hd u) c) (fd u).length (ba _) hl h;unfold ju at s;rw[j]at s;exact aZ (LW s) λo e1 k=>⟨o,Sw x e1,k,by refine Y a0 ?_;exact a7 hl y<|by simp+arith⟩
def Fi(x:List Nat)(pl i:Nat):Bool:=match cq c3 0 [] (fd<|x.take i) 0 with
 |none=>false
 |some o=>match o with|.ok _ _=>Nat.blt i x.length|.bad q=>Nat.beq q pl
noncomputable def nU(z:Nat->Bool):Nat->Bool|0=>z 0|i+1=>z (i+1)&&nU z i
noncomputable def allB{f:Type}(z:f->Bool):List f->Bool|[]=>true|a::l=>z a&&allB z l
def oA(x:List Nat)(pl:Nat):Bool:=nU (Fi x pl) x.length&&nU (λi=>Nat.blt (fd<|x.take i).length 200) x.length&&Nat.ble x.length 200
def t8(f:List Nat)(w:List Nat×Nat):Bool:=oA (f++w.1)<|f.length+w.2
def ED(f:List Nat):Bool:=allB (t8 f) fi
def O9:allB ED jq=true:=by decide+kernel
def yj:∀{n i},nU z n=true->i<=n->z i=true:=by
 intro n;induction n with
 |zero=>intro i h y;obtain rfl:=Nat.le_zero.mp y;exact h
 |succ n f=>intro i h y;refine zb (show(z (n+1)&&nU z n)=true from h) λk j=>?_;rcases dE i (n+1)with q|q;exact f j<|eX q;exact Y (ce y q) k
theorem iD:∀{l a},allB z l=true->a∈l->z a=true|b::l,a,h,m=>by refine zb (show(z b&&allB z l)=true from h) λk j=>?_;rcases bC.mp m with rfl|m;exact k;exact iD j m
def yu(h:oA x pl=true)(e:u++v=x):((∃l f,cq c3 0 [] (fd u) 0=some (.ok l f))/\v≠[]\/cq c3 0 [] (fd u) 0=some (.bad pl))/\(fd u).length<200:=by
 refine zb h λh z=>zb h λk j=>?_;have y:u.length<=x.length:=by refine Y e.symm<|Y a0 ?_;exact bK ..
 have ht:x.take u.length=u:=Y e.symm<|Y s2 rfl;have a:=yj k y;have b:=yj j y;rw[ht]at b;refine⟨?_,bE b⟩;unfold Fi at a;rw[ht]at a;rcases D:cq c3 0 [] (fd u) 0 with _|o;rw[D]at a;cases a;rw[D]at a;rcases o with⟨l,f⟩|q;refine .inl ⟨⟨l,f,rfl⟩,λC=>?_⟩;rw[C,be]at e;have a:Nat.blt u.length x.length=true:=a;rw[<-e]at a;exact n9 _<|bE a;exact .inr<|az (λn=>some<|b'.bad n)<|cd<|show Nat.beq q pl=true from a
noncomputable def et:List (List Nat×List Nat):=[([120],[120]),
 ([38,97,109,112,59],[38]),
 ([60,33,91,67,68,65,84,65,91,60,121,62,93,93,62],[60,121,62]),
 ([38,35,54,53,59],[65]),
 ([93,93],[93,93]),
 ([13,10,122],[10,122])]
noncomputable def iP:List (List Nat×List Nat)->List V|[]=>[]|p::l=>.tup [.str p.1,.str p.2]::iP l
abbrev mP(x y:List Nat)(tl:Loc):Loc:=(hW,.ref 0)::(bc,.str x)::(jb,.str y)::tl
section
variable{O:ap}{G:aq}
def QU(aP:Nat.blt k n=true)(av:O none (.fn 1095) [.ref 0,.ref<|G.length+1] (aY a b::(G++[.list<|iP et]))=some (.ok (.tup [.str p,.str q])<|aY a1 b1::(G++[.list<|iP et])))(f:x.length+p.length<=1000000)(h:y.length+q.length<=1000000):bv O (j+40) 1126 1 (.an 0 (n:Nat)) k (mP x y tl) (aY a b::G)=bv O (j+39) 1126 1 (.an 0 (n:Nat)) (k+1) (mP (x++p) (y++q)<|put h4 (.tup [.str p,.str q])<|put xQ (.ref<|G.length+1)<|put nq (.int k) tl) (aY a1 b1::(G++[.list<|iP et])):=by
 have u:dI (.an 0 (n:Nat)) k (aY a b::G)=some (some<|.int k):=by have e:(0:Int)+(k:Int)=(k:Int):=oJ _;show some (match du (0+(k:Int)) (n:Nat)with|true=>some (V.int<|0+(k:Int))|false=>none)=_;refine Y e ?_;show some (match Nat.blt k n with|true=>_|false=>none)=_;exact Y aP rfl
 have D:=ee (x:=xQ) (v:=.ref<|G.length+1) (l:=put nq (.int k) tl);have z:=ee (x:=h4) (v:=.tup [.str p,.str q]) (l:=put xQ (.ref<|G.length+1)<|put nq (.int k) tl);have e1:=iY (x:=x) (y:=p) (H:=aY a1 b1::(G++[.list<|iP et])) f;have C:=iY (x:=y) (y:=q) (H:=aY a1 b1::(G++[.list<|iP et])) h;clear aP f h;exact e5 u<|sk 4<|aj Q.v D rfl<|aj Q.m av rfl<|sk 2<|aj Q.v z rfl<|sk 1<|aj Q.m e1 rfl<|sk 1<|aj Q.v z rfl<|sk 1<|aj Q.m C rfl rfl
end
def Ay{Z:aq}(f:Z[k]? =some (.list a))(h:Z[k2]? =some (.list b))(j:cr (a.length+b.length)=true):bin .Add (.ref<|k+1) (.ref<|k2+1) (o::Z)=some (.ok (.ref<|Z.length+1)<|o::(Z++[.list<|a++b])):=by show ob (dp Z[k]?) _=_;refine Y f ?_;show ob (dp Z[k2]?) _=_;refine Y h ?_;show aw (cr<|a.length+b.length) _=_;exact Y j rfl
def AB{G:aq}:(G++[o]++[b])[G.length]? =some o:=by refine Y (bq ..) ?_;exact iF
noncomputable def docOf(x:List Nat):List Nat:=[60,97,62]++x++[60,98,47,62]++x++[60,47,97,62]
noncomputable def eR(y:List Nat):List cL:=[.ot<|.st [97] [],.tx y,.ot<|.st [98] [],.ot<|.en [98],.tx y,.ot<|.en [97]]
section
variable{O:ap}{y:List Nat}{G:aq}
abbrev gi(y:List Nat):au:=.list<|aD [.tx y,.ot<|.st [98] [],.ot<|.en [98],.tx y]
abbrev kU:au:=.list<|aD [.ot<|.st [97] []]
abbrev bp:au:=.list<|aD [.ot<|.en [97]]
def Lb(m:O none (.fn 1088) [.ref 0,.int ((5:Nat):Int)] [aY a b]=some (.ok (.int (n:Nat)) [aY a1 b1]))(g:bP tab O none (.blt .range) [.int (1+n:Nat)] [aY a1 b1]=some (.ok (.an 0 (1+n:Nat)) [aY a1 b1]))(h:eN (.an 0 (1+n:Nat)) [aY a1 b1]=true)(l:bv O (j+59) 1126 1 (.an 0 (1+n:Nat)) 0 (mP [] [] []) [aY a1 b1]=some (.ok .next (mP x y tl)<|aY a2 c2::G))(aE:x.length<=1000):Do j O 1126 [.ref 0] [aY a b] (.tup [.str<|docOf x,.ref<|(G++[gi y]++[kU]++[au.list<|aD [.ot<|.st [97] [],.tx y,.ot<|.st [98] [],.ot<|.en [98],.tx y]]++[bp]).length+1]) (aY a2 c2::(G++[gi y]++[kU]++[au.list<|aD [.ot<|.st [97] [],.tx y,.ot<|.st [98] [],.ot<|.en [98],.tx y]]++[bp]++[au.list<|aD<|eR y])):=by
 have s:=ee (x:=Dg) (v:=.ref<|G.length+1) (l:=tl);have b1:=Ay (o:=aY a2 c2) (Z:=G++[gi y]++[kU]) (k:=(G++[gi y]).length) (k2:=G.length) cU AB rfl;have f:=Ay (o:=aY a2 c2) (Z:=G++[gi y]++[kU]++[au.list<|aD [.ot<|.st [97] [],.tx y,.ot<|.st [98] [],.ot<|.en [98],.tx y]]++[bp]) (k:=(G++[gi y]++[kU]).length) (k2:=(G++[gi y]++[kU]++[au.list<|aD [.ot<|.st [97] [],.tx y,.ot<|.st [98] [],.ot<|.en [98],.tx y]]).length) AB cU rfl;have e1:=iY (x:=[60,97,62]) (y:=x) (H:=aY a2 c2::(G++[gi y]))<|by simp;exact aR aE<|by simp+arith
 have u:=iY (x:=[60,97,62]++x) (y:=[60,98,47,62]) (H:=aY a2 c2::(G++[gi y]))<|by simp;exact as ‹_›<|by decide
 have z:=iY (x:=[60,97,62]++x++[60,98,47,62]) (y:=x) (H:=aY a2 c2::(G++[gi y]))<|by simp;exact a7 aE aE<|by simp+arith
 have C:=iY (x:=[60,97,62]++x++[60,98,47,62]++x) (y:=[60,47,97,62]) (H:=aY a2 c2::(G++[gi y]))<|by simp;exact a7 aE aE<|by simp+arith
 clear aE;exact am [(hW,V.ref 0)] rfl<|sk 4<|aj Q.m m rfl<|sk 1<|aj Q.m g rfl<|aj Q.b h rfl<|aj Q.s l rfl<|sk 4<|aj Q.m e1 rfl<|aj Q.m u rfl<|sk 1<|aj Q.m z rfl<|aj Q.m C rfl<|aj Q.v s rfl<|aj Q.m b1 rfl<|aj Q.m f rfl rfl
end
theorem Ac:∀{a b},is a=is b->a=b|[],[],_=>rfl|[],_::_,h=>nomatch h|_::_,[],h=>nomatch h|p::a,q::b,h=>by refine aS (dV h) λk j=>?_;have k:=V.tup.inj k;have e1:=V.str.inj (dV k).1;have f:=V.str.inj (dV (dV k).2).1;exact Y (Ac j)<|Y (show p=q from Prod.ext e1 f) rfl
def F0:∀{a b:cL},a.aA=b.aA->a=b
 |.tx _,.tx _,h=>az cL.tx<|V.str.inj (dV (dV<|V.tup.inj h).2).1
 |.tx _,.ot (.st ..),h=>nomatch V.str.inj (dV<|V.tup.inj h).1|.tx _,.ot (.en _),h=>nomatch V.str.inj (dV<|V.tup.inj h).1|.ot (.st ..),.tx _,h=>nomatch V.str.inj (dV<|V.tup.inj h).1|.ot (.en _),.tx _,h=>nomatch V.str.inj (dV<|V.tup.inj h).1|.ot (.st ..),.ot (.en _),h=>nomatch V.str.inj (dV<|V.tup.inj h).1|.ot (.en _),.ot (.st ..),h=>nomatch V.str.inj (dV<|V.tup.inj h).1|.ot (.en _),.ot (.en _),h=>Y (V.str.inj (dV (dV<|V.tup.inj h).2).1) rfl|.ot (.st _ l),.ot (.st _ k),h=>by have h:=(dV<|V.tup.inj h).2;exact Y (V.str.inj (dV h).1)<|Y (Ac<|V.tup.inj (dV (dV h).2).1) rfl
theorem Ep:∀{a b},aD a=aD b->a=b|[],[],_=>rfl|[],_::_,h=>nomatch h|_::_,[],h=>nomatch h|p::a,q::b,h=>by exact aS (dV h) λk j=>Y (F0 k)<|Y (Ep j) rfl
def P8{st:Nat}{tx:List Nat}(h:c3 st nm kd tx q=some (.ok l ae u)):c3 st nm kd tx (p+q)=some (.ok l ae u):=by refine c8 h λg h=>(oM g).trans ?_;revert h;rcases ar kd cP;rcases Nat.beq st 2;intro h;refine c8 h λg h=>(oM g).trans ?_;revert h;rcases Nat.beq st 0;intro h;refine c8 h λg h=>(oM g).trans ?_;revert h;rcases ar kd ao;intro h;exact c8 h λ_ h=>nomatch aQ h;intro h;refine c8 h λg h=>(oM<|dw<|cB (ts g)<|bT ..).trans ?_;rcases f:cD dH tx with _|i;rw[f]at h;exact h;rw[f]at h;exact nomatch aQ h;exact id;intro h;refine aK (show ob (rd nm kd tx) (λe=>some<|e.ih q)=_ from h) λe he h=>?_;show ob (rd nm kd tx) (λe=>some<|e.ih<|p+q)=_;refine Y he ?_;rcases e with⟨l,nm⟩|pl;exact h;exact nomatch aQ h;exact λh=>nomatch aQ h
def zO:∀{n st q nm r s l f},dQ c3 false n ⟨st,nm,r,s,q⟩=some (.ok l f)->dQ c3 false n ⟨st,nm,r,s,p+q⟩=some (.ok l ⟨f.st,f.nm,f.r,f.s,p+f.p⟩):=by
 intro n;induction n with
 |zero=>exact λh=>nomatch h|succ n y=>intro st q nm r s l f h;refine c8 h λg h=>(oM g).trans ?_;generalize bM r s false=t at h;obtain⟨o,e,J⟩:=t;rcases o with _|kd;refine zo (aQ h) λD E=>?_;subst D E;rfl;refine aK (show ob (c3 st nm kd (r.take e) q) _=_ from h) λu he h=>?_;rcases u with⟨O,C,z⟩|pl;refine c8 h λx h=>aK h λj k h=>?_;rcases j with⟨T,U⟩|pl;refine zo (aQ h) λI N=>?_;subst I N;show ob (c3 st nm kd (r.take e)<|p+q) _=_;refine Y (P8 he)<|(oM x).trans ?_;show ob (dQ c3 false n ⟨C,z,r.drop e,.no,p+q+e⟩) _=_;exact Y (cz ..)<|Y (y k) rfl;exact nomatch aQ h;exact nomatch aQ h
noncomputable def mE(r:List Nat):List cL:=match r with|[]=>[]|a::r=>[.tx<|a::r]
def JE(a b:List cL):Prop:=aJ a []=aJ b []
structure iB(st:Nat)(nm:List V)(r y:List Nat)(U:List cL)(ae:Nat)(u:List V)(r':List Nat):Prop where
 pre:∀p y1 y2,y=y1++y2->∃l f,cq c3 st nm (r++y1) p=some (.ok l f)
 all:∀p,∃l f,cq c3 st nm (r++y) p=some (.ok l f)/\(f.st=ae/\f.nm=u/\f.r=r')/\JE (l++mE r') (mE r++U)
noncomputable def Mz:Option b'->Bool|none=>false|some o=>match o with|.ok _ _=>true|.bad _=>false
def rj(st:Nat)(nm:List V)(r y:List Nat)(U:List cL)(ae:Nat)(u:List V)(h:List Nat):Bool:=nU (λi=>Mz<|cq c3 st nm (r++y.take i) 0) y.length&&match cq c3 st nm (r++y) 0 with
 |none=>false
 |some o=>match o with|.bad _=>false|.ok l f=>Nat.beq f.st ae&&(gQ f.nm u&&(ar f.r h&&gQ (aD<|aJ (l++mE h) []) (aD<|aJ (mE r++U) [])))
def rC{st:Nat}(h:rj st nm r y U ae u x=true):iB st nm r y U ae u x:=by refine zb h λk j=>⟨λp C N e=>?_,λp=>?_⟩;have a:=yj k (i:=C.length) (by refine Y e<|Y a0 ?_;exact bK ..);rw[e,s2]at a;rcases z:cq c3 st nm (r++C) 0 with _|o;rw[z]at a;exact ff a;rw[z]at a;rcases o with⟨l,f⟩|q;exact⟨l,_,zO (p:=p) z⟩;exact ff a;rcases z:cq c3 st nm (r++y) 0 with _|o;rw[z]at j;exact ff j;rw[z]at j;rcases o with⟨l,f⟩|q;exact zb j λD q=>zb q λE q=>zb q λI J=>⟨l,_,zO (p:=p) z,⟨cd D,kS E,ie I⟩,Ep<|kS J⟩;exact ff j
section
variable{st:Nat}
def Ie{z g:b'->b'}(h:a.map z=(some x).map g):∃o,a=some o/\z o=g x:=by rcases a with _|o;exact aW h;exact⟨o,rfl,aQ h⟩
def iB.cat(a:iB st nm r y U ae u C)(b:iB ae u C D E N I J)(hl:r.length+y.length+D.length<200):iB st nm r (y++D) (U++E) N I J:=by
 have go:∀(p:Nat)(w:List Nat),w.length<=D.length->∃(l:List cL)(f:jP),(f.st=ae/\f.nm=u/\f.r=C)/\JE (l++mE C) (mE r++U)/\∀W O,cq c3 ae u (C++w) f.p=some (.ok W O)->∃l3,cq c3 st nm (r++(y++w)) p=some (.ok l3 O)/\aJ l3 []=aJ (l++W) []:=λp w z=>by refine e6 (a.all p) λl f k af x=>aS af λag ah=>?_;subst ag;refine aS ah λai aj=>?_;subst ai aj;refine⟨l,f,⟨rfl,rfl,rfl⟩,x,λW O h4=>?_⟩;have s:=split zY y5 (v:=w) (r++y).length (ba _) (by refine Y a0 ?_;exact a7 hl z<|by simp+arith) k;unfold ju at s;rw[h4,bq]at s;refine aZ (Ie s) λo e1 T=>?_;rcases o with⟨l3,ak⟩|q;refine zo T λe3 ab=>?_;subst ab;exact⟨l3,e1,e3⟩;cases T
 refine⟨λp y1 y2 e=>?_,λp=>?_⟩;rcases List.append_eq_append_iff.mp e with⟨w,rfl,T⟩|⟨w,T,_⟩;refine e6 (go p w<|by refine Y T<|Y a0 ?_;exact bK ..) λl f _ _ h=>?_;exact g8 (b.pre f.p w y2 T) λW O j=>aZ (h W O j) λl3 x _=>⟨l3,O,x⟩;exact a.pre p y1 w T;refine e6 (go p D<|ba _) λl f _ hj h=>e6 (b.all f.p) λW O j x aa=>aZ (h W O j) λl3 h4 h5=>⟨l3,O,h4,x,?_⟩;unfold JE at hj aa⊢;exact Y (lA l3 ..).symm<|Y h5<|Y (lA ..)<|Y (bq ..)<|Y (oh l ..).symm<|Y aa<|Y (oh ..)<|Y (bq ..).symm<|Y (lA (l++mE C) ..).symm<|Y hj<|Y (lA ..)<|Y (bq ..) rfl
end
def q6(t:List Nat):List Nat:=aB (ar t [93,93]) [93,93] []
noncomputable def l9:List (List Nat):=[[],[93,93]]
def xa(r:List Nat)(t:List Nat×List Nat):Bool:=rj 2 nA r (a' t.1) [.tx t.2] 2 nA<|q6 t.1
def B8(r:List Nat):Bool:=allB (xa r) et
def R2:allB B8 l9=true:=by decide+kernel
def rK(r:List Nat):Bool:=rj 2 nA r [60,98,47,62] [.ot<|.st [98] [],.ot<|.en [98]] 2 nA []&&rj 2 nA r [60,47,97,62] [.ot<|.en [97]] 3 [] []
def Bc:allB rK l9=true:=by decide+kernel
def N7:rj 0 [] [] [60,97,62] [.ot<|.st [97] []] 2 nA []=true:=by decide+kernel
def tokB(t:List Nat×List Nat):Bool:=Nat.ble (a' t.1).length 15&&(Nat.ble t.1.length 15&&(!b2 t.1 [13]&&(match t.1 with|[]=>false|c::_=>!Nat.beq c 10)&&!dv t.2))
def LA:allB tokB et=true:=by decide+kernel
noncomputable def cO:List (List Nat×List Nat)->List Nat|[]=>[]|t::l=>t.1++cO l
noncomputable def dW:List (List Nat×List Nat)->List Nat|[]=>[]|t::l=>t.2++dW l
noncomputable def iS:List (List Nat×List Nat)->List Nat|[]=>[]|t::l=>a' t.1++iS l
noncomputable def f8:List (List Nat×List Nat)->List cL|[]=>[]|t::l=>.tx t.2::f8 l
def PZ(t):q6 t∈l9:=by unfold q6;rcases ar t [93,93];exact .head _;exact .tail _<|.head _
def Nh{st:Nat}(h:r∈l9):iB st nm r [] [] st nm r:=by
 have j:bM r .no false=(none,0,.no)/\c4 r .no=true:=by rcases bC.mp h with rfl|h;exact⟨rfl,rfl⟩;rcases bC.mp h with rfl|h;exact⟨rfl,rfl⟩;cases h
 refine⟨λp f k e=>?_,λp=>?_⟩
 .have:f=[]:=by induction f using List.casesOn with|nil=>rfl|cons=>cases e
  exact Y this<|Y (be ..)<|lX _ _<|kb j.2 j.1
 exact Y (be ..)<|Y (be ..)<|pP _ _ (kb j.2 j.1) ⟨rfl,rfl,rfl⟩ rfl
def ya(h:r∈l9):r.length<=2:=by rcases bC.mp h with rfl|h;exact bJ _;rcases bC.mp h with rfl|h;exact ba _;cases h
def r'(h:t∈et):(a' t.1).length<=15/\t.1.length<=15/\b2 t.1 [13]=false/\(∀r,t.1≠10::r)/\t.1≠[]/\t.2≠[]:=by have k:tokB t=true:=iD LA h;unfold tokB at k;refine zb k λj a=>zb a λy a=>zb a λa u=>zb a λz f=>zS (bE j) (bE y) (nI z) (λr e=>?_) (λe=>?_) λe=>?_;rw[e]at f;exact ff f;rw[e]at f;exact ff f;rw[e]at u;exact ff u
def rB:∀{l},(∀t∈l,t∈et)->(iS l).length<=15*l.length/\(cO l).length<=15*l.length:=by
 intro l;induction l with
 |nil=>intro _;exact⟨bJ _,bJ _⟩
 |cons t l k=>intro h;refine aS (k λu m=>h u<|.tail _ m) λj y=>c5 (r'<|h t<|.head _) λz f _=>?_;show(a' t.1++iS l).length<=_/\(t.1++cO l).length<=_;exact Y a0<|Y a0<|Y cv ⟨by exact a7 j z (by simp+arith),by exact a7 y f<|by simp+arith⟩
def zM:∀{l r},(∀t∈l,t∈et)->r∈l9->l.length<=5->∃x,x∈l9/\iB 2 nA r (iS l) (f8 l) 2 nA x:=by
 intro l;induction l with
 |nil=>intro r _ f _;exact⟨r,f,Nh f⟩
 |cons t l C=>
  intro r h f hl;refine aZ (C (r:=q6 t.1) (λu m=>h u<|.tail _ m) (PZ t.1)<|oy hl) λx j y=>?_;have k:B8 r=true:=iD R2 f;have k2:xa r t=true:=iD (z:=xa r) k<|h t<|.head _;have a:iB 2 nA r (a' t.1) [.tx t.2] 2 nA (q6 t.1):=rC k2;have:=(rB λu m=>h u<|.tail _ m).1;have:=(r'<|h t<|.head _).1;have:=ya f;have z:iB 2 nA r (a' t.1++iS l) ([.tx t.2]++f8 l) 2 nA x:=a.cat y<|by rw[cv]at hl;grind
  exact a8 x j z
def Bo(h:∀t∈l,t∈et)(k:∀r,y≠10::r):∀r,cO l++y≠10::r:=by
 rcases l with _|⟨t,l⟩;exact k
 .refine uh (r'<|h t<|.head _) λ_ _ _ f j _=>?_;intro r e;have e:t.1++(cO l++y)=10::r:=by refine Y (bq ..).symm ?_;exact e
  rcases ht:t.1 with _|⟨c,q⟩;exact j ht;rw[ht]at e;exact f q<|Y ht<|Y ((dV e).1) rfl
def HF:∀{l y},(∀t∈l,t∈et)->(∀r,y≠10::r)->a' (cO l++y)=iS l++a' y:=by
 intro l;induction l with
 |nil=>intro _ _ _;exact rfl
 |cons t l j=>intro y h f;show a' (t.1++cO l++y)=a' t.1++iS l++a' y;exact Y (bq ..)<|Y (oH<|.inr<|Bo (λu m=>h u<|.tail _ m) f)<|Y (j (λu m=>h u<|.tail _ m) f)<|Y (bq ..) rfl
def BK:∀l k N,aJ (f8 l++k) N=aJ k (N++l.map (·.2)):=by
 intro l;induction l with
 |nil=>intro k N;exact Y List.map_nil<|Y (be ..) rfl
 |cons t l f=>intro k N;exact(f k<|N++[t.2]).trans<|by exact Y (bq ..) rfl
def Sd:∀l,jn [] (l.map (·.2))=dW l:=by
 intro l;induction l with
 |nil=>exact rfl|cons t l f=>exact Y hE<|Y (kR ..)<|Y (f) rfl
def Fu(h:∀t∈l,t∈et)(f:∀r,W≠10::r):a' (A++(cO l++W))=a' A++(iS l++a' W):=Y (oH<|.inr<|Bo h f)<|Y (HF h f) rfl
def Lj(C:l≠[]):aJ ([.ot a]++(f8 l++([.ot b,.ot c]++(f8 l++[.ot d])))) []=[.ot a,.tx<|dW l,.ot b,.ot c,.tx<|dW l,.ot d]:=by
 have e:dB (l.map (·.2))=[.tx<|dW l]:=by rcases l with _|⟨t,l⟩;exact absurd rfl C;exact az (λx=>[cL.tx x])<|Sd<|t::l
 have j:=BK l [.ot d] [];have y:=BK l (.ot b::.ot c::(f8 l++[.ot d])) [];have z:aJ [.ot d] ([]++l.map (·.2))=dB (l.map (·.2))++[.ot d]:=rfl;have h:aJ (.ot b::.ot c::(f8 l++[.ot d])) ([]++l.map (·.2))=dB (l.map (·.2))++.ot b::.ot c::aJ (f8 l++[.ot d]) []:=rfl;have f:aJ ([.ot a]++(f8 l++([.ot b,.ot c]++(f8 l++[.ot d])))) []=.ot a::aJ (f8 l++(.ot b::.ot c::(f8 l++[.ot d]))) []:=rfl;exact Y f<|Y y<|Y h<|Y j<|Y z<|Y e rfl
def On(h:∀t∈l,t∈et)(hl:l.length<=5)(C:l≠[]):hd (docOf<|cO l)=[]/\(∀u v,u++v=docOf (cO l)->(∃k f,cq c3 0 [] (fd u) 0=some (.ok k f))/\(fd u).length<200)/\∃k s p,cq c3 0 [] (fd<|docOf<|cO l) 0=some (.ok k ⟨3,[],[],s,p⟩)/\aJ k []=eR (dW l):=by
 have J:b2 (docOf<|cO l) [13]=false:=og (u:=[60,97,62]++cO l++[60,98,47,62]++cO l) (x:=60) (c:=[47,97,62]);have T:∀{x:List Nat}(r:List Nat),60::x≠10::r:=λr e=>nomatch(dV e).1;have I:fd (docOf<|cO l)=[60,97,62]++(iS l++([60,98,47,62]++(iS l++[60,47,97,62]))):=by
  show a' (aB (b2 (docOf<|cO l) [13]) _<|docOf<|cO l)=_;refine Y J ?_;have e:docOf (cO l)=[60,97,62]++(cO l++([60,98,47,62]++(cO l++[60,47,97,62]))):=by unfold docOf;exact Y (bq ..)<|Y (bq ..)<|Y (bq ..) rfl
  show a' (docOf<|cO l)=_;have w1:∀r,[60,47,97,62]≠10::r:=T;have w2:∀r,[60,98,47,62]++(cO l++[60,47,97,62])≠10::r:=T;exact Y e<|Y (Fu h w2)<|Y (Fu h w1) rfl
 obtain⟨a3,_⟩:=rB h;have a3:(iS l).length<=75:=by grind
 have a:=rC N7;obtain⟨U,j,f1⟩:=zM h (.head _) hl;obtain⟨W,y,D⟩:=zM h (.head _) hl;have O:rK U=true:=iD Bc j;have k2:rK W=true:=iD Bc y;unfold rK at O k2;have b:iB 2 nA U [60,98,47,62] [.ot<|.st [98] [],.ot<|.en [98]] 2 nA []:=rC (cY.mp O).1;have c:iB 2 nA W [60,47,97,62] [.ot<|.en [97]] 3 [] []:=rC (cY.mp k2).2;have l1:=ya j;have l2:=ya y;have F:=a.cat (f1.cat (b.cat (D.cat c<|by show 0+_+4<200;exact aR a3<|by simp+arith)<|by refine Y a0 ?_;show _+4+(_+4)<200;exact a7 a3 l1<|by simp+arith)<|by refine Y a0<|Y a0 ?_;show 0+_+(4+(_+4))<200;exact a7 a3 a3<|by simp+arith)<|by refine Y a0<|Y a0<|Y a0 ?_;show 0+3+(_+(4+(_+4)))<200;exact a7 a3 a3<|by simp+arith
 rw[<-I]at F;have le:(fd<|docOf<|cO l).length<200:=by refine Y I<|Y a0<|Y a0<|Y a0<|Y a0 ?_;show 3+(_+(4+(_+4)))<200;exact a7 a3 a3<|by simp+arith
 refine e0 (by show aB (b2 (docOf<|cO l) [13]) _ _=_;exact Y J rfl) (λu v e=>?_) ?_;have E:=DP u v;rw[e]at E;exact⟨F.pre 0 _ _ E,by rw[E,a0]at le;exact aR le<|by simp+arith⟩;obtain⟨k,⟨st,nm,r,s,p⟩,z,⟨rfl,rfl,rfl⟩,h5⟩:=F.all 0;refine u7 k s p z ?_;have N:aJ (k++[]) []=aJ ([.ot<|.st [97] []]++(f8 l++([.ot<|.st [98] [],.ot<|.en [98]]++(f8 l++[.ot<|.en [97]])))) []:=h5;rw[be]at N;exact N.trans<|Lj C
section
variable{O:ap}
def kV(aP:bi E tab.cls=some k)(h:k.init=some z)(he:k.exc=false)(f:bi z tab.fns=some fn)(m:O none (.fn z) (.ref A.length::D) (A++[.inst E []])=some (.ok .none u)):bP tab O none (.fn E) D A=some (.ok (.ref A.length) u):=by show sY tab O none E D A (bi E tab.cls)=_;refine Y aP ?_;show ob k.init _=_;refine Y h ?_;show bd (ob (bi z tab.fns) λ_=>O none (.fn z) (.ref A.length::D)<|A++[tN E k.exc]) _=_;refine Y he<|Y f ?_;show bd (O none (.fn z) (.ref A.length::D)<|A++[.inst E []]) _=_;exact Y m rfl
end
abbrev lU:au:=.inst 921 [(iG,.int 20),(iQ,.int 100000)]
abbrev pF(l o g p:Nat):au:=.inst 1070 [(el,.ref l),(j1,.ref o),(jH,.ref g),(kO,.ref p)]
abbrev XL(z:Addr):List V->aq->M V:=λD H=>aF NN tab (ay 248) none (.fn z) D H
def BJ:bD (XL 918) [.ref 0] [.inst 921 []]=some (.ok .none [lU]):=oN<|by decide+kernel
def E4:bD (XL 1003) [.ref 0,.ref 1] [.inst 1070 [],lU]=some (.ok .none [pF 1 2 3 4,lU,.dict [],.dict [],.dict []]):=oN<|by decide+kernel
def u1:aq:=[.inst 899 [],pF 2 3 4 5,lU,.dict [],.dict [],.dict []]
def Rt:aq:=[.inst 899 [(mG,.ref 6),(mD,.none),(la,.ref 10),(mH,.int ((0:Nat):Int)),(mR,.bool false),(mZ,.none)],pF 2 3 4 5,lU,.dict [],.dict [],.dict [],
 .inst 828 [(eG,.ref 1),(eU,.ref 7),(iN,.ref 9)],.inst 377 [(el,.ref 2),(gT,.int 0),(gE,.ref 8)],.list [],.list [],fb]
def BC:bD (XL 847) [.ref 0,.ref 1] u1=some (.ok .none Rt):=oN<|by decide+kernel
def yA:eK none (.fn 918)=some 918:=rfl
def Ee:eK none (.fn 1003)=some 1003:=rfl
def Cs:eK none (.fn 847)=some 847:=rfl
def II:bP tab (ay 249) none (.fn 921) [] (A0 N)=some (.ok (.ref 3)<|A0 N++[g1]):=kV (z:=918) (A:=A0 N) rfl rfl rfl rfl ((di (d:=248) yA rfl).trans<|hr (J:=[3]) (x:=[.inst 921 []]) (U:=[.ref 0]) rfl rfl rfl rfl BJ)
def Ur:bP tab (ay 249) none (.fn 1070) [.ref 3] (A0 N++[g1])=some (.ok (.ref 4)<|A2 N):=kV (z:=1003) (A:=A0 N++[g1]) rfl rfl rfl rfl ((di (d:=248) Ee rfl).trans<|hr (J:=[4,3]) (x:=[.inst 1070 [],lU]) (U:=[.ref 0,.ref 1]) rfl rfl rfl rfl E4)
def IQ:bP tab (ay 249) none (.fn 899) [.ref 4] (A2 N)=some (.ok (.ref 8)<|.list N::.cell none::.cell none::SB 3 0 [] fb .none []):=kV (z:=847) (A:=A2 N) rfl rfl rfl rfl ((di (d:=248) Cs rfl).trans<|hr (J:=[8,4,3,5,6,7]) (x:=u1) (U:=[.ref 0,.ref 1]) rfl rfl rfl rfl BC)
structure mc(u x:List Nat)(k:Nat)(l:List cL)(f:jP):Prop where
 tl:cq c3 0 [] (fd u) 0=some (.ok l f)
 nc:x.drop k=f.r
 le:k<=x.length
 mx:x.length<200
 no:aH f.nm
def yv(u):(hd u).length<=1:=cw (P:=λh:List Nat=>h.length<=1) (λ_=>ba _) λ_=>bJ _
def u3(h c):(fK h c).length<=1:=cw (P:=λh:List Nat=>h.length<=1) (λ_=>ba _) λ_=>bJ _
def uH(S:mc u x k l f)(y:c.length<=10000)(hl:(fd<|u++c).length<200)(z:cq c3 0 [] (fd<|u++c) 0=some o')(d):∃o,o'.dK=(o.add l).dK/\((f.r++a' (bW (hd u) c)).length<200/\∀C E,o=.ok C E->C.length<=400)/\Told (f.r++a' (bW (hd u) c)) (hd<|u++c) (ay (d+47) none (.fn 854) [.ref 0,.str c]<|ak f.st f.nm (ax x k f.p (hd u) f.s.aA) []) o:=by
 refine dD (RA hl S.tl z) λo j J D=>?_;have mx:∀{n:Nat},n<200->n<=bf:=λh=>as (gt h)<|by decide
 have t:=Oz (d:=d) (x:=x) (h:=hd u) (I:=c) (f:=f) (k:=k) E8 (mx S.mx) (as (Nat.add_le_add (yv u) y)<|by decide) (mx D) (ba 200) S.nc S.le S.no j;rw[LY]at t;exact fE o J ⟨D,λC E e=>(sQ<|e▸j).1⟩ t
def w1:ay (d+1) none (.bY e sc cl) [] H=aF NN tab (ay d) none (.bY e sc cl) [] H:=rfl
def tm:eK none (.fn 1107)=none:=rfl
section
variable{st:Nat}
def JD(m:ay 247 none (.fn 854) [.ref 8,.str c] (LH N (some<|.str c) st nm E aa G)=some (.ok v H')):ay 249 none (.fn 1107) [nQ] (LH N (some<|.str c) st nm E aa G)=some (.ok .none H'):=(me (d:=248) tm).trans (FX (O:=ay 248) (j:=199940)<|(w1 (d:=247)).trans<|FS (j:=199940) m)
def zA{e:List Nat×Nat}(m:ay 247 none (.fn 854) [.ref 8,.str c] (LH N (some<|.str c) st nm E aa G)=some (.exc i H'))(g:H'[i]? =some (.exc 150 (some d) y))(f:H'[d]? =some (.dict [(dN,.str e.1),(b7,.int e.2)])):ay 249 none (.fn 1107) [nQ] (LH N (some<|.str c) st nm E aa G)=some (.ok (.int e.2) H'):=(me (d:=248) tm).trans (zE (O:=ay 248) (j:=199940) ((w1 (d:=247)).trans<|T' (j:=199940) m) g<|vl g f)
end
def ti(a:At H i<|fo (c::ch) i):∃y,H[i]? =some (.exc 150 (some<|i+1) y)/\H[i+1]? =some (.dict [(dN,.str c.1),(b7,.int c.2)]):=⟨_,a.hd,a.tl.hd⟩
abbrev FR(j k pl:Nat)(f:V)(tl:Loc)(H:aq):MS:=bv (ay 249) j 1112 1 (.ref 0) k (kI pl f tl) H
def u4:∀{l}{N:List V}{k c},N.drop k=bB (c::l)->N[k]? =some (.str c)/\N.drop (k+1)=bB l:=λh=>⟨(gy h).1,(gy h).2.1⟩
theorem qL(y):∀x w,(cZ y x w).length<=x.length
 |[],_=>ba _|a::r,w+1=>jj<|qL y r w
 |a::r,0=>by show(match pre y (a::r)with|true=>10::cZ y r (y.length-1)|false=>a::cZ y r 0).length<=_;rcases pre y (a::r);exact fD<|qL y r _;exact fD<|qL y r _
def v4(x):(a' x).length<=x.length:=by refine Y (sf ..) ?_;exact as (qL _ _ _)<|qL _ _ _
def uw(h c):(bW h c).length<=h.length+c.length:=by exact Y a0.symm<|cw (P:=λt:List Nat=>t.length<=(h++c).length) (λ_=>by refine Y List.length_dropLast ?_;exact gj ..) λ_=>ba _
structure Flt(af:aq)(g i pl:Nat)(c:List Nat×Nat)(ch:List (List Nat×Nat)):Prop where
 a:At af g (fo (c::ch) i)
 i:i=g+14
 p:c.2=pl
 l:ch.length<=9
def At.app(h:At af g l):At (af++Z) g l:=λm o e=>by have:=h m o e;refine Y (dO (cc.mp this).1) ?_;exact this
def z4{st:Nat}(F:Flt af g i pl c ch)(f:aH nm)(hm:x.length<=bf)(j:h.length+I.length<=20000)(aP:k<=x.length):ay (d+4) none (.fn 854) [.ref 8,.str I] (LH N pt st nm (ax x k q h .none) (.ref i) af)=some (.exc i<|LH N pt st nm (ax (x.drop k++a' (bW h I)) 0 q (fK h I) .none) (.ref i) af):=by have z:=FY (d:=d) (st:=st) (c:=c) (ch:=ch) (x:=x) (h:=h) (I:=I) (k:=k) (p:=q) (s:=.no) f F.l hm j rfl aP;rw[di q1 rfl]at z⊢;exact Ct (w:=[.str I]) f (cg .no) (cg .no) (.cons .str .nil) F.l F.a F.i z
section
variable{st:Nat}
def Hd(F:Flt af g i pl c ch)(f:aH nm):∀rest k j tl pt x u h,N.drop k=bB rest->rest.length<=j->x.length+b8 rest+rest.length<=5000->u<=x.length->h.length<=1->∃T J C D h',FR (j+40) k pl (.int pl) tl (LH N pt st nm (ax x u q h .none) (.ref i) af)=some (.ok .next (kI pl (.int pl) T)<|LH N J st nm (ax C D q h' .none) (.ref i) af)/\C.length<=5000/\D<=C.length/\h'.length<=1:=by
 intro rest;induction rest with
 |nil=>intro k j tl pt x u h hd _ aE aP hh;exact uN tl pt x u h (k4<|az some<|eQ<|oR hd) (by simpa[b8]using aE) aP hh
 |cons I rest ih=>
  intro k j tl pt x u h hd W aE aP hh;refine lY λZ_ z_=>aS (u4 hd) λU z=>?_;have e:b8 (I::rest)=I.length+b8 rest:=rfl;rw[e,cv]at aE;rw[cv]at W;have mx:x.length<=bf:=as (show x.length<=5000 by exact aR aE<|by simp+arith)<|by decide
  obtain⟨j,rfl⟩:∃n,j=n+1:=⟨j-1,by exact ce (aR (cm j 1)<|by simp+arith)<|aR (a4<|bx<|show 1<=j from aR W<|by simp+arith)<|by simp+arith⟩;have m:=z4 (N:=N) (pt:=some<|.str I) (st:=st) (q:=q) (x:=x) (h:=h) (I:=I) (k:=u) (d:=243) F f mx (a7 aE hh<|by simp+arith) aP;refine aZ (ti<|mI (N:=N) (pt:=some<|.str I) (st:=st) (nm:=nm) (E:=ax (x.drop u++a' (bW h I)) 0 q (fK h I) .none) F.a F.i) λy g1 g2=>?_;have aG:=zA m g1 g2;rw[F.p]at aG;have t:=UA (O:=ay 249) (j:=j+1) (pl:=pl) (pt:=pt) (tl:=tl) U aG;have z1:=v4<|bW h I;have z2:=uw h I;have z3:(x.drop u).length=x.length-u:=b0;refine A5 (ih (k+1) j (put jb (.int pl) tl) (some<|.str I) (x.drop u++a' (bW h I)) 0 (fK h I) z (eX ‹_›) (by refine Y a0 ?_;grind) (bJ _)<|u3 _ _) λT J C D h' r1 r2=>?_;exact z_<|Jf T J C D h' (t.trans r1) r2
end
def Rm(aa:oA T pl=true):∀rest k j tl pt G u x kk l f,N.drop k=bB rest->rest.length<=j->mc u x kk l f->u++jn [] rest=T->T.length+rest.length<=2000->∃ah ag st nm q i g af c ch W ae h',FR (j+40) k pl .none tl (LH N pt f.st f.nm (ax x kk f.p (hd u) f.s.aA) .none G)=some (.ok .next (kI pl (.int pl) ah)<|LH N ag st nm (ax W ae q h' .none) (.ref i) af)/\Flt af g i pl c ch/\aH nm/\W.length<=5000/\ae<=W.length/\h'.length<=1:=by
 intro rest;induction rest with
 |nil=>intro k j tl pt G u x kk l f _ _ S e _;obtain⟨h|h,_⟩:=yu aa e;exact absurd rfl h.2;rw[S.tl]at h;cases h
 |cons I rest ih=>
  intro k j tl pt G u x kk l f ao hj S e hl;refine lY λZ C=>lY λZ_ z_=>aS (u4 ao) λU z=>?_;rw[kR]at e;have e2:(u++I)++jn [] rest=T:=by refine Y (bq ..) ?_;exact e
  have ll:=az List.length e;rw[a0,a0]at ll;rw[cv]at hj hl;refine aS (yu aa e2) λhT hL=>?_;obtain⟨j,rfl⟩:∃n,j=n+1:=⟨j-1,by exact ce (aR (cm j 1)<|by simp+arith)<|aR (a4<|bx<|show 1<=j from aR hj<|by simp+arith)<|by simp+arith⟩;have ai:∀D H,ay 247 none (.fn 854) D H=bD (λD H=>aF NN tab (ay 246) none (.fn 854) D H) D H:=λ_ _=>di (d:=246) q1 rfl;refine z_ ?_;rcases hT with⟨⟨l',ab,hT⟩,_⟩|hT;refine dD (uH S (a7 hl (a4 ll)<|by simp+arith) hL hT 200) λo J al t=>aS al λaE _=>?_;rcases o with⟨l2,aw⟩|q;refine zo J λ_ aq=>?_;clear J al;subst aq;refine iA t λk' n1 n2 n3 t=>?_;rw[show ay (200+47) none (.fn 854)=ay 247 none (.fn 854) from rfl,ai]at t;have m:=(ai _ _).trans<|IB (N:=N) (pt:=some<|.str I) (G:=G) (w:=[.str I]) S.no (cg f.s) n1 (cg ab.s) (.cons .str .nil) t;have tt:=C1 (O:=ay 249) (j:=j+1) (pl:=pl) (pt:=pt) (tl:=tl) U<|JD m;exact gk (ih (k+1) j (put jb .none tl) (some<|.str I) (G++[.list<|aD<|aJ l2 []]) (u++I) (f.r++a' (bW (hd u) I)) k' l' ab z (eX ‹_›) ⟨hT,n2,n3,aE,n1⟩ e2<|gt ‹_›) λah ag st nm q ar=>gk ar λi g af c ch as=>jZ as λW ae h' r1 r2=>C ⟨ah,ag,st,nm,q,i,g,af,c,ch,W,ae,h',tt.trans r1,r2⟩;cases J
  .refine dD (uH S (a7 hl (a4 ll)<|by simp+arith) hL hT 200) λo J am t=>aS am λaE _=>?_;rcases o with⟨l2,aw⟩|q;cases J
   .clear am;obtain rfl:pl=q:=b'.bad.inj J;refine gk t λst nm k' q' c au=>dD au λch av ap t=>c5 av λak an aj=>?_;rw[show ay (200+47) none (.fn 854)=ay 247 none (.fn 854) from rfl,ai]at t;have m:=(ai _ _).trans<|Lu (N:=N) (pt:=some<|.str I) (G:=G) (w:=[.str I]) S.no (cg f.s) aj (cg (x:=f.r++a' (bW (hd u) I)) (h:=hd<|u++I) (k:=k') (p:=q') .no) (.cons .str .nil) t;have F:Flt (G++fo (c::ch) (G.length+14)) G.length (G.length+14) pl c ch:=⟨λm o e=>by refine Y (dr<|bK ..)<|Y (ew ..) ?_;exact e,rfl,ak,an⟩;refine aZ (ti<|mI (N:=N) (pt:=some<|.str I) (st:=st) (nm:=nm) (E:=ax (f.r++a' (bW (hd u) I)) k' q' (hd<|u++I) .none) F.a F.i) λy g1 g2=>?_;have aG:=zA m g1 g2;rw[ak]at aG;have tt:=C1 (O:=ay 249) (j:=j+1) (pl:=pl) (pt:=pt) (tl:=tl) U aG;have sl:b8 rest<=T.length:=by
     have:∀r:List (List Nat),b8 r=(jn [] r).length:=λr=>by
      induction r with
      |nil=>rfl|cons a r ih=>exact Y (kR ..)<|Y a0<|Y ih.symm rfl
     exact Y (this ..)<|aR (a4 ll)<|by simp+arith
    clear t;obtain⟨ah,ag,W,ae,h',r1,r2⟩:=Hd (N:=N) F aj rest (k+1) j (put jb (.int pl) tl) (some<|.str I) (f.r++a' (bW (hd u) I)) k' (hd<|u++I) z (eX ‹_›) (cT hl aE sl<|by simp+arith) ap<|yv _;exact C ⟨ah,ag,st,nm,q',G.length+14,G.length,_,c,ch,W,ae,h',tt.trans r1,F,aj,r2⟩
section
variable{st:Nat}{I:List Nat}
def AA(F:Flt af g i pl c ch)(f:aH nm)(hm:x.length<=bf)(u:h.length+I.length<=20000)(aP:k<=x.length)(J:af[m]? =some (.cell<|some<|.str I)):ay 249 none (.fn 1107) [t3<|m+14] (LH N pt st nm (ax x k q h .none) (.ref i) af)=some (.ok (.int pl)<|LH N pt st nm (ax (x.drop k++a' (bW h I)) 0 q (fK h I) .none) (.ref i) af):=by
 have z:=z4 (N:=N) (pt:=pt) (st:=st) (q:=q) (x:=x) (h:=h) (I:=I) (k:=k) (d:=243) F f hm u aP;have T:g5 tab ⟨q3.2.names,none,none⟩ (db [(hC,m+14),(gD,2)]) hC (LH N pt st nm (ax x k q h .none) (.ref i) af)=some (.ok (.str I)<|LH N pt st nm (ax x k q h .none) (.ref i) af):=by show ob (ob af[m]? wH) _=_;exact Y J rfl
 have av:=Lp (O:=ay 247) (j:=199940) (m:=m+14) rfl T rfl z;refine aZ (ti<|mI (N:=N) (pt:=pt) (st:=st) (nm:=nm) (E:=ax (x.drop k++a' (bW h I)) 0 q (fK h I) .none) F.a F.i) λy C D=>?_;have r:=(me (d:=248) tm).trans<|zE (O:=ay 248) (j:=199940) ((w1 (d:=247)).trans av) C<|vl C D;rw[F.p]at r;exact r
def HN(F:Flt af g i pl c ch)(f:aH nm)(hm:x.length<=bf)(hh:h.length<=1):ay 249 none (.fn 1107) [.bm 861 8] (LH N pt st nm (ax x k q h .none) (.ref i) af)=some (.ok (.int pl)<|LH N pt st nm (ax (x++a' h) k q [] .none) (.ref i) af):=by have z:=MM (d:=244) (st:=st) (c:=c) (ch:=ch) (x:=x) (h:=h) (k:=k) (p:=q) (s:=.no) f F.l hm hh;rw[di qy rfl]at z;have m:=(di (d:=247) qy rfl).trans<|Ct (N:=N) (pt:=pt) (w:=[]) f (cg .no) (cg .no) .nil F.l F.a F.i z;refine aZ (ti<|mI (N:=N) (pt:=pt) (st:=st) (nm:=nm) (E:=ax (x++a' h) k q [] .none) F.a F.i) λy u C=>?_;have r:=(me (d:=248) tm).trans<|IC (O:=ay 248) (j:=199940) m u<|vl u C;rw[F.p]at r;exact r
end
theorem Flt.app{i:Nat}(F:Flt af g i pl c ch):Flt (af++Z) g i pl c ch:=⟨F.a.app,F.i,F.p,F.l⟩
def ov:∀l,aH (bB l):=by
 intro l;induction l with
 |nil=>exact .nil|cons _ l f=>exact .cons .str<|f
noncomputable abbrev l8:au:=.list [.str [60,47,97,62],.str []]
def EG(aa:oA y pl=true)(e:jn [] ae=y)(hl:y.length+ae.length<=2000)(f:H[n]? =some (.list<|bB ae)):ay 250 none (.fn 1112) [.ref n,.int pl] H=some (.ok (.bool true) H):=by
 have S:mc [] [] 0 [] ⟨0,[],[],.no,0⟩:=⟨kb rfl rfl,rfl,ba _,by decide,.nil⟩;refine gk (Rm (N:=bB ae) aa ae 0 199959 [] none [] [] [] 0 [] _ rfl (aR hl<|by simp+arith) S e hl) λtl pt st nm q aj=>gk aj λi g af c ch ak=>yP ak λx E h l F W aE aP hh=>?_;have mx:∀{n:Nat},n<=20000->n<=bf:=λh=>as h<|by decide
 have z1:=v4<|bW h [60,47,97,62];have z2:=uw h [60,47,97,62];have z3:(x.drop E).length=x.length-E:=b0;have z4:[60,47,97,62].length=4:=rfl;have y1:(x.drop E++a' (bW h [60,47,97,62])).length<=5005:=by refine Y a0 ?_;grind
 have k1:=u3 h [60,47,97,62];generalize ah:x.drop E++a' (bW h [60,47,97,62])=x1 at y1;generalize ab:fK h [60,47,97,62]=u at k1;have z5:=v4<|bW u [];have z6:=uw u [];have y2:(x1.drop 0++a' (bW u [])).length<=5010:=by refine Y a0<|Y iV ?_;simp at z6;exact vL y1 k1 z5 z6<|by simp+arith
 have k2:=u3 u [];generalize ai:x1.drop 0++a' (bW u [])=x2 at y2;generalize ag:fK u []=z at k2;have J:∀b,Flt (af++[l8]++[.cell<|some b]) g i pl c ch:=λb=>(F.app (Z:=[l8])).app (Z:=[.cell<|some b]);have av:=AA (N:=bB ae) (pt:=pt) (st:=st) (q:=q) (h:=h) (I:=[60,47,97,62]) (J _) W (mx<|as ‹_›<|by decide) (a7 hh (a4 z4)<|by simp+arith) aP (m:=(af++[l8]).length) cU;rw[ah,ab]at av;have aG:=AA (N:=bB ae) (pt:=pt) (st:=st) (q:=q) (h:=u) (I:=[]) (J _) W (mx<|as ‹_›<|by decide) (by refine Y hA ?_;exact as ‹_›<|by decide) (bJ x1.length) (m:=(af++[l8]).length) cU;rw[ai,ag]at aG;have t1:=C9 (O:=ay 249) (j:=199957) (w:=none) (U:=[]) (k:=0) rfl av rfl;have t2:=C9 (O:=ay 249) (j:=199956) (w:=some<|.str [60,47,97,62]) (U:=[.int pl]) (k:=1) rfl aG rfl;have nn:dI (.ref<|af.length+14) 2 (LH (bB ae) pt st nm (ax x2 0 q z .none) (.ref i)<|af++[l8]++[.cell<|some<|.str []])=some none:=by show(match(af++[l8]++[au.cell<|some<|.str []])[af.length]? with|some (.list l)=>some l[2]? |_=>none)=_;refine Y (bq ..) ?_;show(match(af++[l8,au.cell<|some<|.str []])[af.length]? with|some (.list l)=>some l[2]? |_=>none)=_;exact Y iF rfl
 have t3:=(t1.trans t2).trans<|oi (T:=tab) (O:=ay 249) (n:=199994) nn;have da:=HN (N:=bB ae) (pt:=pt) (st:=st) (q:=q) (k:=0) ((J<|.str []).app (Z:=[iL pl 2])) W (mx<|as y2<|by decide) k2;have r0:=Pd (O:=ay 249) (j:=199940) II Ur IQ l t3 da;refine(di (d:=249) rfl rfl).trans<|(hB (X:=λD H=>aF NN tab (ay 249) none (.fn 1112) D H) (w:=[.int pl]) (o':=.list<|bB ae) f (.list<|ov ae) (.cons .int .nil) (.list<|ov ae) .bool r0).trans<|az (λH=>some<|R.ok (V.bool true) H)<|l5 λj=>Y List.getElem?_set ?_;split;rename_i C;subst C;exact Y (bZ (cc.mp f).1)<|Y f rfl;rfl
def j6(m:M V)(o:au):Bool:=match m with
 |none=>false
 |some q=>match q with|.exc _ _=>false|.ok a H=>iU a (.bool true)&&match H with|[]=>false|p::_=>pI p o
def r5(l:List<|List Nat)(pl:Nat):Bool:=j6 (aF NN tab (ay 249) none (.fn 1112) [.ref 0,.int pl] [.list<|bB l])<|.list<|bB l
def MY:r5 [[65279,32,120,60,97,47,62]] 2=true:=by decide+kernel
def Rp:r5 [[65279],[32],[120]] 2=true:=by decide+kernel
def Rc:r5 [[60,97,62]] 3=true:=by decide+kernel
def NB(h:j6 m o=true):∃G,m=some (.ok (.bool true)<|o::G):=by unfold j6 at h;rcases m with _|q;cases h;rcases q with⟨a,H⟩|_;obtain⟨j,f⟩:=cY.mp h;rcases H with _|⟨p,H⟩;cases f;exact⟨H,by exact Y (lh j)<|Y (wl f) rfl⟩;cases h
def wE(h:r5 l pl=true)(f:H[n]? =some (.list<|bB l)):ay 250 none (.fn 1112) [.ref n,.int pl] H=some (.ok (.bool true) H):=by exact aU (NB h) λG e=>(di (d:=249) rfl rfl).trans<|(hB (X:=λD H=>aF NN tab (ay 249) none (.fn 1112) D H) (w:=[.int pl]) (o':=.list<|bB l) f (.list<|ov l) (.cons .int .nil) (.list<|ov l) .bool e).trans<|Y (lr f) rfl
noncomputable def vA:Stmt->Expr|.Return x _=>(match x with|some e=>e|none=>.Constant .none 0 ⟨0,0,0,0⟩)|_=>.Constant .none 0 ⟨0,0,0,0⟩
noncomputable def Ms:Expr->Expr|.Compare l _ _ _=>l|e=>e
noncomputable def FZ:Expr->List Expr|.ListComp _ j _ _=>(match j with|g::_=>g.ifs|[]=>[])|_=>[]
def xB:Expr:=Ms<|vA<|fS 1131 0
abbrev mo(O:ap)(j:Nat)(loc:Loc)(aY:V)(k:Nat)(U:List V)(H:aq):M (List V):=(ev tab O j).lc ⟨(kN xB).2.names,none,(dh 1131).lam⟩ loc eZ (kN xB).1 (FZ xB) aY k U H
section
variable{k:Nat}{es:List V}{tl:Loc}
noncomputable abbrev d9(es:List V):aq:=[.list es,.cell<|some<|.ref 0]
def QB(e1:bin .Sub (.int (es.length:Nat)) (.int ((1:Nat):Int)) (d9 es)=some (.ok (.int (n:Nat))<|d9 es))(g:bP tab O none (.blt .range) [.int (n:Nat)] (d9 es)=some (.ok (.an 0 (n:Nat))<|d9 es))(f:eN (.an 0 (n:Nat)) (d9 es)=true)(l:mo O (j+57) [(h0,.ref 1)] (.an 0 (n:Nat)) 0 [] (d9 es)=some (.ok []<|d9 es)):aF (j+60) tab O none (.fn 1131) [.ref 0] [.list es]=some (.ok (.bool true)<|d9 es++[.list [],.list []]):=by exact nj (H':=[au.list es,au.cell<|some<|V.ref 0]) [(h0,V.ref [au.list es].length)] rfl<|sk 4<|aj Q.m e1 rfl<|aj Q.m g rfl<|aj Q.b f rfl<|aj Q.l l rfl rfl
def qk(h:H[i]? =some (.list l))(aP:l[k]? =some v):nW (.ref i) (.int k) H=some (.ok v H):=by show ob (ob H[i]? (tJ<|.int k)) (λr=>rt r H)=_;refine Y h ?_;show ob (ob (match Nat.blt k l.length with|true=>some k|false=>none) λj=>l[j]?) (λr=>rt r H)=_;refine Y (dw (cc.mp aP).1) ?_;show ob l[k]? _=_;exact Y aP rfl
def GW(aP:dI (.an 0 (n:Nat)) k (d9 es)=some (some<|.int k))(he:es[k]? =some (.tup<|.str kd::r))(hd:ar kd ao=false):mo O (j+40) ((h0,.ref 1)::tl) (.an 0 (n:Nat)) k [] (d9 es)=mo O (j+39) ((h0,.ref 1)::put eZ (.int k) tl) (.an 0 (n:Nat)) (k+1) [] (d9 es):=by have s:=ee (x:=eZ) (v:=.int k) (l:=tl);have i1:=qk (H:=d9 es) (i:=0) rfl he;exact nh aP<|sk 2<|aj Q.v s rfl<|aj Q.m i1 rfl<|sk 1<|aj (λb=>Q.c<|some b) hd rfl rfl
def Hu(aP:dI (.an 0 (n:Nat)) k (d9 es)=some (some<|.int k))(he:es[k]? =some (.tup [.str ao,.str t]))(f:es[k+1]? =some (.tup<|.str kd::r))(hd:ar kd ao=false):mo O (j+40) ((h0,.ref 1)::tl) (.an 0 (n:Nat)) k [] (d9 es)=mo O (j+39) ((h0,.ref 1)::put eZ (.int k) tl) (.an 0 (n:Nat)) (k+1) [] (d9 es):=by have s:=ee (x:=eZ) (v:=.int k) (l:=tl);have i1:=qk (H:=d9 es) (i:=0) rfl he;have i2:=qk (H:=d9 es) (i:=0) rfl f;exact nh aP<|sk 2<|aj Q.v s rfl<|aj Q.m i1 rfl<|sk 4<|aj Q.v s rfl<|sk 1<|aj Q.m i2 rfl<|sk 1<|aj (λb=>Q.c<|some b) hd rfl rfl
def Ll:aF (j+60) tab O none (.fn 1131) [.ref 0] [.list []]=some (.ok (.bool true)<|d9 []++[.list [],.list []]):=by have l:mo O (j+57) [(h0,.ref 1)] (.an 0<|-1) 0 [] (d9 [])=some (.ok []<|d9 []):=oi rfl;exact nj (H':=[au.list [],au.cell<|some<|V.ref 0]) [(h0,V.ref [au.list []].length)] rfl<|sk 7<|aj Q.l l rfl rfl
end
def Sep(es:List cL):Prop:=∀(k:Nat)(a b:List Nat),es[k]? =some (.tx a)->es[k+1]? =some (.tx b)->False
theorem Sep.ot(h:Sep l):Sep (.ot o::l):=λk a b f j=>by rcases k with _|k;cases f;exact h k a b f j
theorem ud:∀l N,Sep<|aJ l N
 |[],N=>λk a b f j=>by rcases N with _|⟨p,N⟩;exact aW f;rcases k with _|k;exact aW j;exact aW f
 |.tx t::l,N=>ud l<|N++[t]
 |.ot o::l,N=>by have h:=(ud l []).ot (o:=o);rcases N with _|⟨p,N⟩;exact h;intro k a b f j;rcases k with _|k;cases j;exact h k a b f j
theorem vD:∀{l}{k:Nat},(aD l)[k]? =l[k]?.map cL.aA|[],_=>rfl|_::_,0=>rfl|_::l,k+1=>vD (l:=l) (k:=k)
def Gm(f:l.length=n+1)(h:Sep l):∀m k j(tl:Loc),k+m=n->m<=j->mo O (j+40) ((h0,.ref 1)::tl) (.an 0 (n:Nat)) k [] (d9<|aD l)=some (.ok []<|d9<|aD l):=by
 have nn:∀k,k<n->dI (.an 0 (n:Nat)) k (d9<|aD l)=some (some<|.int k):=λk aP=>by have e:(0:Int)+(k:Int)=(k:Int):=oJ _;show some (match du (0+(k:Int)) (n:Nat)with|true=>some (V.int<|0+(k:Int))|false=>none)=_;refine Y e ?_;show some (match Nat.blt k n with|true=>_|false=>none)=_;exact Y (dw aP) rfl
 intro m;induction m with
 |zero=>intro k j tl aP _;refine oi ?_;have e:(0:Int)+(k:Int)=(k:Int):=oJ _;show some (match du (0+(k:Int)) (n:Nat)with|true=>some (V.int<|0+(k:Int))|false=>none)=_;refine Y e ?_;show some (match Nat.blt k n with|true=>_|false=>none)=_;exact Y (kK<|aR (a4 aP.symm)<|by simp+arith) rfl
 |succ m D=>
  intro k j tl aP C;obtain⟨j,rfl⟩:∃n,j=n+1:=⟨j-1,by exact ce (aR (cm j 1)<|by simp+arith)<|aR (a4<|bx<|show 1<=j from aR C<|by simp+arith)<|by simp+arith⟩;obtain⟨e,he⟩:∃e,l[k]? =some e:=⟨_,dA<|a7 (a4 f.symm) (a4 aP)<|by simp+arith⟩;obtain⟨u,y⟩:∃e,l[k+1]? =some e:=⟨_,dA<|a7 (a4 f.symm) (a4 aP)<|by simp+arith⟩;have x:(aD l)[k]? =some e.aA:=by exact Y vD<|Y he rfl
  have z:(aD l)[k+1]? =some u.aA:=by exact Y vD<|Y y rfl
  have i:=D (k+1) j (put eZ (.int k) tl) (ce (aR (a4 aP)<|by simp+arith)<|aR (a4 aP.symm)<|by simp+arith)<|eX ‹_›;rcases e with t|o;rcases u with E|o;exact(h k t E he y).elim;exact(Hu (O:=O) (j:=j+1) (nn k<|aR (a4 aP)<|by simp+arith) x z o.ne).trans i;exact(GW (O:=O) (j:=j+1) (nn k<|aR (a4 aP)<|by simp+arith) x o.ne).trans i
def N6(f:H[i]? =some (.list<|aD l))(h:Sep l)(hl:l.length<=2000):ay (d+1) none (.fn 1131) [.ref i] H=some (.ok (.bool true) H):=by
 have bp:∀{G:aq},aF (199940+60) tab (ay d) none (.fn 1131) [.ref 0] [.list<|aD l]=some (.ok (.bool true)<|.list (aD l)::G)->ay (d+1) none (.fn 1131) [.ref i] H=some (.ok (.bool true) H):=λe=>by exact(di (d:=d) rfl rfl).trans<|(hB (X:=λD H=>aF NN tab (ay d) none (.fn 1131) D H) (w:=[]) (o':=.list<|aD l) f (.list<|g4 l) .nil (.list<|g4 l) .bool e).trans<|Y (lr f) rfl
 rcases l with _|⟨e,r⟩;exact bp<|Ll (O:=ay d) (j:=199940)
 .have k:(aD<|e::r).length=r.length+1:=j4 (e::r);have mx:r.length<=bf:=as (oy hl)<|by decide
  exact bp (QB (O:=ay d) (j:=199940) (n:=r.length) (by show rt (V.int<|((aD<|e::r).length:Int)-((1:Nat):Int)) _=_;refine Y (qb<|by rw[k];exact bT ..)<|Y k ?_;rfl) (mT mx) (mz mx)<|Gm (l:=e::r) rfl h r.length 0 199957 [] (eT _)<|as (oy hl)<|by decide)
section
variable{N ds:List V}{st:Nat}{nm:List V}{E:au}{G af:aq}
def TG(N ds:List V)(st:Nat)(nm:List V)(E:au)(G:aq):aq:=.list N::.list ds::SB 2 st nm E .none G
def LM(h:aH nm)(j:cC E):reach 4000 (TG N ds st nm E G) [7] []=some KT:=by have e:fX (TG N ds st nm E G)=ck N::ck ds::[]::[2,4,5,6]::[]::[]::[]::[8,12]::[3,9,11]::[2,10]::[]::ck nm::bH E::fX G:=rfl;exact Y mU<|Y e<|Y h.1<|Y j.1 rfl
def KN(h:aH nm)(j:cC E):ca (λi=>bb i KT) (TG N ds st nm E G) KT=ak st nm E []:=by show _::_::_::_::_::_::_::_::_::au.list (bF _ nm)::bn _ E::[]=_;exact Y (h.2 ..)<|Y (j.2 ..) rfl
def Nu(h:aH u)(j:cC f)(k:∀i,i<11->ρ i=KT.getD i 0):cn ρ (TG N ds st nm E G) KT (bL ae .none::(rest u++(f::af)))=TG N ds ae u f G:=by
 have e:cn ρ (TG N ds st nm E G) KT (bL ae .none::(rest u++(f::af)))=.list N::.list ds::.inst 921 [(iG,.int 20),(iQ,.int 100000)]::.inst 1070 [(el,.ref<|ρ 3),(j1,.ref<|ρ 4),(jH,.ref<|ρ 5),(kO,.ref<|ρ 6)]::.dict []::.dict []::.dict []::
  .inst 899 [(mG,.ref<|ρ 1),(mD,.none),(la,.ref<|ρ 10),(mH,.int ae),(mR,.bool false),(mZ,.none)]::.inst 828 [(eG,.ref<|ρ 2),(eU,.ref<|ρ 7),(iN,.ref<|ρ 9)]::
  .inst 377 [(el,.ref<|ρ 3),(gT,.int 0),(gE,.ref<|ρ 8)]::.list []::.list (bF ρ u)::bn ρ f::G:=rfl
 exact Y e<|Y (h.2 ..)<|Y (j.2 ..)<|Y (k 1<|by decide)<|Y (k 2<|by decide)<|Y (k 3<|by decide)<|Y (k 4<|by decide)<|Y (k 5<|by decide)<|Y (k 6<|by decide)<|Y (k 7<|by decide)<|Y (k 8<|by decide)<|Y (k 9<|by decide)<|Y (k 10<|by decide) rfl
def Lq:∀i,i<11->df H KT i=KT.getD i 0:=λi h=>by unfold df;obtain⟨k,e⟩:∃k,KT[i]? =some k:=⟨_,dA h⟩;refine Y e ?_;show k=(KT[i]?).getD 0;exact Y e rfl
def yD(h:aH nm)(j:cC E)(y:aH u)(z:cC f)(k:aH w)(x:bD X (.ref 0::w) (ak st nm E [])=some (.ok (.ref 11)<|ak ae u f [.list<|aD l])):bD X (.ref 7::w) (TG N ds st nm E G)=some (.ok (.ref<|G.length+13)<|TG N ds ae u f<|G++[.list<|aD l]):=by refine(hr (U:=.ref 0::w) (J:=KT) (by refine Y (td k) ?_;exact LM h j) (r7 k _ rfl) (KN h j) (by refine Y (nS k) ?_;exact tw h j) x).trans ?_;show some (R.ok (V.ref<|G.length+13)<|cn (df (TG N ds st nm E G) KT) (TG N ds st nm E G) KT (bL ae .none::(rest u++(f::[.list<|aD l])))++[.list<|bF _<|aD l])=_;exact Y (Nu y z Lq)<|Y ((g4 l).2 ..) rfl
def s0(h:G[g]? =some o):(TG N ds st nm E G)[g+13]? =some o:=h
def zn(f:G[k]? =some (.list a))(h:G[k2]? =some (.list b))(j:a.length+b.length<=1000000):bin .Add (.ref<|k+13) (.ref<|k2+13) (TG N ds st nm E G)=some (.ok (.ref<|G.length+13)<|TG N ds st nm E<|G++[.list<|a++b]):=by show ob (dp G[k]?) _=_;refine Y f ?_;show ob (dp G[k2]?) _=_;refine Y h ?_;show aw (cr<|a.length+b.length) _=_;exact Y (hv j) rfl
end
def si:∀{l},(∀a∈l,z a a=some true)->all2 z l l=some true:=by
 intro l;induction l with
 |nil=>intro _;exact rfl
 |cons a l f=>intro h;show ob (z a a) (λx=>ob (all2 z l l) λy=>some<|match x with|true=>y|false=>false)=_;refine Y (h a<|.head _)<|Y (f λb m=>h b<|.tail _ m) ?_;rfl
def n6:same (n+1) H (.str x) (.str x)=some true:=az some<|kt.mpr rfl
theorem E5:∀{l},∀a∈is l,same (n+2) H a a=some true|p::l,a,m=>by rcases bC.mp (show a∈_::is l from m)with rfl|m;show all2 (same (n+1) H) [.str p.1,.str p.2] [.str p.1,.str p.2]=_;refine si λb m=>?_;rcases bC.mp m with rfl|m;exact n6;exact Y (b9.mp m) n6;exact E5 a m
def FW(e:cL):same (n+4) H e.aA e.aA=some true:=by
 have g':∀{x y:List Nat},all2 (same (n+3) H) [.str x,.str y] [.str x,.str y]=some true:=λ{x y}=>si λb m=>by rcases bC.mp m with rfl|m;exact n6;exact Y (b9.mp m) n6
 rcases e with t|o;show all2 (same (n+3) H) [.str ao,.str t] [.str ao,.str t]=_;exact g';rcases o with⟨m,l⟩|m;show all2 (same (n+3) H) [.str d',.str m,.tup<|is l] [.str d',.str m,.tup<|is l]=_;refine si λb k=>?_;rcases bC.mp k with rfl|k;exact n6;rcases bC.mp k with rfl|k;exact n6;refine Y (b9.mp k) ?_;show all2 (same (n+2) H) (is l) (is l)=_;exact si E5;show all2 (same (n+3) H) [.str g3,.str m] [.str g3,.str m]=_;exact g'
def eq_avs(f:H[i]? =some (.list<|aD l))(h:H[j]? =some (.list<|aD l)):cM .Eq (.ref i) (.ref j) H=some true:=by
 show on (same 39 H) H[i]? H[j]? =_;refine Y f<|Y h ?_;show(match Nat.beq (aD l).length (aD l).length with|true=>all2 (same 39 H) (aD l) (aD l)|false=>some false)=_;refine Y (eg ..) ?_;have go:∀l:List cL,all2 (same 39 H) (aD l) (aD l)=some true:=λl=>by
  induction l with
  |nil=>rfl|cons e l k=>show ob (same 39 H e.aA e.aA) (λx=>ob (all2 (same 39 H) (aD l)<|aD l) λy=>some<|match x with|true=>y|false=>false)=_;exact Y (FW (n:=35) ..)<|Y k rfl
 exact go l
abbrev k5(m:Nat)(tl:Loc):Loc:=(oC,.ref 0)::(uC,.ref 1)::(gD,.ref 7)::(pX,.ref<|m+13)::tl
noncomputable abbrev T0(N ds:List V):aq:=[.list N,.list ds]
abbrev SJ:au:=.inst 1070 [(el,.ref 2),(j1,.ref 4),(jH,.ref 5),(kO,.ref 6)]
abbrev T2(N ds:List V):aq:=[.list N,.list ds,g1,SJ,.dict [],.dict [],.dict []]
section
variable{O:ap}{st:Nat}
def IV(he:N[k]? =some (.str c))(av:O none (.fn 854) [.ref 7,.str c] (TG N ds st nm E G)=some (.ok (.ref<|aG+13)<|TG N ds ae u f y))(da:O none (.fn 1131) [.ref<|aG+13] (TG N ds ae u f y)=some (.ok (.bool true)<|TG N ds ae u f y))(a:bin .Add (.ref<|m+13) (.ref<|aG+13) (TG N ds ae u f y)=some (.ok (.ref<|r+13)<|TG N ds ae u f af)):bv O (j+40) 1138 1 (.ref 0) k (k5 m tl) (TG N ds st nm E G)=bv O (j+39) 1138 1 (.ref 0) (k+1) (k5 r<|put jb (.ref<|aG+13)<|put h4 (.str c) tl) (TG N ds ae u f af):=by have h:dI (.ref 0) k (TG N ds st nm E G)=some (some<|.str c):=az some he;have C:=ee (x:=h4) (v:=.str c) (l:=tl);have z:=ee (x:=jb) (v:=.ref<|aG+13) (l:=put h4 (.str c) tl);exact e5 h<|sk 3<|aj Q.v C rfl<|aj Q.m av rfl<|sk 2<|aj Q.v z rfl<|aj Q.m da rfl<|sk 2<|aj Q.v z rfl<|aj Q.m a rfl rfl
def P2(c1:bP tab O none (.fn 921) [] (T0 N ds)=some (.ok (.ref 2)<|T0 N ds++[g1]))(c2:bP tab O none (.fn 1070) [.ref 2] (T0 N ds++[g1])=some (.ok (.ref 3)<|T2 N ds))(x:bP tab O none (.fn 899) [.ref 3] (T2 N ds)=some (.ok (.ref 7)<|TG N ds 0 [] fb []))(l:bv O (j+59) 1138 1 (.ref 0) 0 (k5 0 []) (TG N ds 0 [] fb [.list []])=some (.ok .next (k5 m tl)<|TG N ds st nm E G))(av:O none (.fn 861) [.ref 7] (TG N ds st nm E G)=some (.ok (.ref i1) h))(a:bin .Add (.ref<|m+13) (.ref i1) h=some (.ok (.ref i2) u))(aG:O none (.fn 755) [.ref i2] u=some (.ok (.ref k) f))(e:cM .Eq (.ref k) (.ref 1) f=some true)(n:bP tab O none (.blt .len) [.ref 0] f=some (.ok (.int (N.length:Nat)) f))(g:cM .Gt (.int (N.length:Nat)) (.int ((1:Nat):Int)) f=some true):aF (j+60) tab O none (.fn 1138) [.ref 0,.ref 1] (T0 N ds)=some (.ok (.bool true) f):=by exact am [(oC,V.ref 0),(uC,V.ref 1)] rfl<|sk 3<|aj Q.m c1 rfl<|aj Q.m c2 rfl<|aj Q.m x rfl<|sk 3<|aj Q.s l rfl<|sk 3<|aj Q.m av rfl<|aj Q.m a rfl<|sk 3<|aj Q.m aG rfl<|sk 1<|aj Q.c e rfl<|sk 3<|aj Q.m n rfl<|aj Q.c g rfl rfl
def Tn(c1:bP tab O none (.fn 921) [] (T0 N ds)=some (.ok (.ref 2)<|T0 N ds++[g1]))(c2:bP tab O none (.fn 1070) [.ref 2] (T0 N ds++[g1])=some (.ok (.ref 3)<|T2 N ds))(x:bP tab O none (.fn 899) [.ref 3] (T2 N ds)=some (.ok (.ref 7)<|TG N ds 0 [] fb []))(l:bv O (j+59) 1138 1 (.ref 0) 0 (k5 0 []) (TG N ds 0 [] fb [.list []])=some (.ok .next (k5 m tl)<|TG N ds st nm E G))(av:O none (.fn 861) [.ref 7] (TG N ds st nm E G)=some (.ok (.ref i1) h))(a:bin .Add (.ref<|m+13) (.ref i1) h=some (.ok (.ref i2) u))(aG:O none (.fn 755) [.ref i2] u=some (.ok (.ref k) f))(e:cM .Eq (.ref k) (.ref 1) f=some true)(n:bP tab O none (.blt .len) [.ref 0] f=some (.ok (.int (N.length:Nat)) f))(g:cM .Gt (.int (N.length:Nat)) (.int ((1:Nat):Int)) f=some false)(y:cM .Eq (.ref i2) (.ref 1) f=some true):aF (j+60) tab O none (.fn 1138) [.ref 0,.ref 1] (T0 N ds)=some (.ok (.bool true) f):=by exact am [(oC,V.ref 0),(uC,V.ref 1)] rfl<|sk 3<|aj Q.m c1 rfl<|aj Q.m c2 rfl<|aj Q.m x rfl<|sk 3<|aj Q.s l rfl<|sk 3<|aj Q.m av rfl<|aj Q.m a rfl<|sk 3<|aj Q.m aG rfl<|sk 1<|aj Q.c e rfl<|sk 3<|aj Q.m n rfl<|aj Q.c g rfl<|sk 3<|aj Q.c y rfl rfl
end
section
variable{X:List V->aq->M V}{G:aq}
def T3(h:H[i]? =some o)(u:H[j]? =some p)(z:i≠j)(C:cC o)(f:cC p)(k:gg b)(aE:X [.ref 0,.ref 1] [o,p]=some (.ok b<|o::p::G)):bD X [.ref i,.ref j] H=some (.ok b H):=by
 have D:bD X [.ref 0,.ref 1] [o,p]=some (.ok b [o,p]):=by
  have h1:reach 4000 [o,p] (ck [.ref 0,.ref 1]) []=some [0,1]:=by have e:fX [o,p]=[bH o,bH p]:=rfl;exact Y mU<|Y e<|Y C.1<|Y f.1 rfl
  have e1:ca (λi=>bb i [0,1]) [o,p] [0,1]=[o,p]:=by show[bn _ o,bn _ p]=_;exact Y (C.2 ..)<|Y (f.2 ..) rfl
  refine Y (pp h1 (q:=.ok b<|o::p::G)<|by rw[e1];exact aE) ?_;show back [o,p] [0,1] b (o::p::G) (λρ H'=>some<|.ok (bl ρ b) H')=_;have I:c0 b++cA (o::p::G) 2=[]:=by show c0 b++(bH o++(bH p++cA G 0))=[];refine Y k.1<|Y C.1<|Y f.1 ?_;cases G<;>rfl
  refine(m' (y:=[]) (J:=[0,1]) (by show reach 4000 _ (c0 b++cA (o::p::G) 2) _=_;exact Y I rfl)<|bT 2 _).trans ?_;show some (R.ok (bl _ b) [bn _ o,bn _ p])=_;exact Y (k.2 ..)<|Y (C.2 ..)<|Y (f.2 ..) rfl
 have ne:bu j [i]=false:=lH λm=>z (b9.mp m).symm;have h1:reach 4000 H (ck [.ref i,.ref j]) []=some [i,j]:=by exact(cW (n:=3999) (i:=i) (t:=[j]) (done:=[]) rfl h).trans<|Y C.1<|(cW (n:=3998) (i:=j) (t:=[]) (done:=[i]) ne u).trans<|Y f.1 rfl
 have E:bb j [i,j]=1:=by show(match Nat.beq i j with|true=>0|false=>(match Nat.beq j j with|true=>0|false=>0+1)+1)=1;exact Y (iI z)<|Y (eg ..) rfl
 have ii:bb i [i,j]=0:=by show(match Nat.beq i i with|true=>0|false=>_)=0;exact Y (eg ..) rfl
 refine(hr (U:=[.ref 0,.ref 1]) (x:=[o,p]) (J:=[i,j]) h1 (by show[V.ref<|bb i [i,j],V.ref<|bb j [i,j]]=_;exact Y ii<|Y E rfl) ?_ ?_ D).trans ?_;show[(match H[i]? with|some o=>bn _ o|none=>.cell none),(match H[j]? with|some o=>bn _ o|none=>.cell none)]=_;refine Y h<|Y u ?_;show[bn _ o,bn _ p]=_;exact Y (C.2 ..)<|Y (f.2 ..) rfl;have e:fX [o,p]=[bH o,bH p]:=rfl;exact Y mU<|Y e<|Y C.1<|Y f.1 rfl;show some (R.ok (bl _ b)<|cn _ (cn _ H [i] [o]) [j] [p]++[])=_;show some (R.ok (bl _ b)<|(H.set i<|bn _ o).set j (bn _ p)++[])=_;exact Y (k.2 ..)<|Y (C.2 ..)<|Y (f.2 ..)<|Y (lr h)<|Y (lr u)<|Y (be ..) rfl
end
def zC:bP tab (ay 249) none (.fn 921) [] (T0 N ds)=some (.ok (.ref 2)<|T0 N ds++[g1]):=kV (z:=918) (A:=T0 N ds) rfl rfl rfl rfl ((di (d:=248) yA rfl).trans<|hr (J:=[2]) (x:=[.inst 921 []]) (U:=[.ref 0]) rfl rfl rfl rfl BJ)
def BO:bP tab (ay 249) none (.fn 1070) [.ref 2] (T0 N ds++[g1])=some (.ok (.ref 3)<|T2 N ds):=kV (z:=1003) (A:=T0 N ds++[g1]) rfl rfl rfl rfl ((di (d:=248) Ee rfl).trans<|hr (J:=[3,2]) (x:=[.inst 1070 [],lU]) (U:=[.ref 0,.ref 1]) rfl rfl rfl rfl E4)
def CX:bP tab (ay 249) none (.fn 899) [.ref 3] (T2 N ds)=some (.ok (.ref 7)<|TG N ds 0 [] fb []):=kV (z:=847) (A:=T2 N ds) rfl rfl rfl rfl ((di (d:=248) Cs rfl).trans<|hr (J:=[7,3,2,4,5,6]) (x:=u1) (U:=[.ref 0,.ref 1]) rfl rfl rfl rfl BC)
theorem sR:∀l N,cN (aJ l N)=cN l+(jn [] N).length
 |[],N=>by rcases N with _|⟨p,N⟩;rfl;show(jn []<|p::N).length+0=0+_;exact cF ..
 |.tx t::l,N=>by show cN (aJ l<|N++[t])=t.length+cN l+_;refine Y (sR l ..)<|Y (rG ..)<|Y a0 ?_;show cN l+(_+t.length)=_;simp+arith
 |.ot o::l,N=>by show cN (dB N++.ot o::aJ l [])=cN l+_;refine Y (rz ..) ?_;show cN (dB N)+cN (aJ l [])=_;refine Y (sR l []) ?_;rcases N with _|⟨p,N⟩;exact cF ..;show(jn []<|p::N).length+0+(cN l+0)=cN l+_;exact cF ..
theorem wF:∀l N,(aJ l N).length<=l.length+(dB N).length
 |[],N=>bT ..
 |.tx t::l,N=>as (wF l<|N++[t]) (by
   refine Y cv ?_;have:(dB<|N++[t]).length<=1:=by cases N<;>exact ba _
   exact aR this<|by simp+arith)
 |.ot o::l,N=>by show(dB N++.ot o::aJ l []).length<=_;have:(aJ l []).length<=l.length+0:=wF l [];exact Y a0<|Y cv<|Y cv<|aR this<|by simp+arith
abbrev MJ(j k m:Nat)(tl:Loc)(H:aq):MS:=bv (ay 249) j 1138 1 (.ref 0) k (k5 m tl) H
section
variable{J:List Nat}(aa:∀u v,u++v=J->(∃y f,cq c3 0 [] (fd u) 0=some (.ok y f))/\(fd u).length<200)
include aa
theorem Og:∀rest k j m tl G u x kk l f z,N.drop k=bB rest->rest.length<=j->k+rest.length<=200->mc u x kk l f->u++jn [] rest=J->J.length<=2000->G[m]? =some (.list<|aD z)->aJ z []=aJ l []->(k=0->z=[]/\l=[])->(k<=1->z=aJ l [])->z.length<=400*k->∃ag T G' x' ae y ab f',MJ (j+40) k m tl (TG N ds f.st f.nm (ax x kk f.p (hd u) f.s.aA) G)=some (.ok .next (k5 T ag)<|TG N ds ab.st ab.nm (ax x' ae ab.p (hd J) ab.s.aA) G')/\mc J x' ae y ab/\G'[T]? =some (.list<|aD f')/\aJ f' []=aJ y []/\(k+rest.length<=1->f'=aJ y [])/\f'.length<=80200:=by
 intro rest;induction rest with
 |nil=>intro k j m tl G u x kk l f z af _ aP S e _ hG U _ h1 ai;obtain rfl:u=J:=(be u).symm.trans e;exact yZ tl m G x kk<|yO l f z (k4<|az some<|eQ<|oR af) S hG U h1<|by rw[hA]at aP;grind
 |cons I rest ih=>
  intro k j m tl G u x kk l f z af hj aP S e hl hG U h0 h1 ai;refine aS (u4 af) λg1 g2=>?_;rw[kR]at e;have e2:(u++I)++jn [] rest=J:=by refine Y (bq ..) ?_;exact e
  have ll:=az List.length e;rw[a0,a0]at ll;rw[cv]at hj aP;refine aS (aa (u++I) _ e2) λam hL=>g8 am λy ab hT=>?_;obtain⟨j,rfl⟩:∃n,j=n+1:=⟨j-1,by exact ce (aR (cm j 1)<|by simp+arith)<|aR (a4<|bx<|show 1<=j from aR hj<|by simp+arith)<|by simp+arith⟩;have ah:∀D H,ay 249 none (.fn 854) D H=bD (λD H=>aF NN tab (ay 248) none (.fn 854) D H) D H:=λ_ _=>di (d:=248) q1 rfl;refine dD (uH S (a7 hl (a4 ll)<|by simp+arith) hL hT 202) λo C an t=>aS an λaE al=>?_;rcases o with⟨W,as⟩|q
  .refine zo C λaj ao=>?_;subst ao;refine iA t λk' n1 n2 n3 t=>?_;rw[show ay (202+47) none (.fn 854)=ay 249 none (.fn 854) from rfl,ah]at t;have av:=(ah _ _).trans<|yD (N:=N) (ds:=ds) (G:=G) (w:=[.str I]) S.no (cg f.s) n1 (cg ab.s) (.cons .str .nil) t;have S':mc (u++I) (f.r++a' (bW (hd u) I)) k' y ab:=⟨hT,n2,n3,aE,n1⟩;have ak:=al W ab rfl;have jl:(aJ W []).length<=W.length+0:=wF W [];have gg:(G++[au.list<|aD<|aJ W []])[m]? =some (.list<|aD z):=by refine Y (dO (cc.mp hG).1) ?_;exact hG
   have da:=N6 (d:=248) (i:=G.length+13) (H:=TG N ds ab.st ab.nm (ax (f.r++a' (bW (hd u) I)) k' ab.p (hd<|u++I) ab.s.aA)<|G++[.list<|aD<|aJ W []]) (l:=aJ W []) (s0 cU) (ud W [])<|a7 ak jl<|by simp+arith
   have a:=zn (N:=N) (ds:=ds) (st:=ab.st) (nm:=ab.nm) (E:=ax (f.r++a' (bW (hd u) I)) k' ab.p (hd<|u++I) ab.s.aA) gg (cU (H:=G) (o:=au.list<|aD<|aJ W []))<|by refine Y (j4 ..)<|Y (j4 ..) ?_;grind
   rw[<-oB]at a;have tt:=IV (O:=ay 249) (j:=j+1) (tl:=tl) g1 av da a;have jf:aJ (z++aJ W []) []=aJ y []:=Y (oh ..)<|Y aj<|Y (lA z ..).symm<|Y U<|Y (lA ..) rfl;obtain⟨ag,T,G',x',ae,l3,ar,f3,r1,r2,r3,r4,r5⟩:=ih (k+1) j (G++[au.list<|aD<|aJ W []]).length _ _ (u++I) _ k' y ab (z++aJ W []) g2 (eX ‹_›) (aR aP<|by simp+arith) S' e2 hl cU jf (λh=>nomatch h) (λh=>by
    obtain rfl:k=0:=ce (aR h<|by simp+arith)<|by simp+arith
    refine aS (h0 rfl) λap aq=>?_;subst ap aq;exact aj.symm)<|by refine Y a0 ?_;exact cT ai ak jl<|by simp+arith
   exact yZ ag T G' x' ae<|yO l3 ar f3 (tt.trans r1) r2 r3 r4 (λh=>r5.1<|by rw[cv]at h;exact aR h<|by simp+arith) r5.2
  cases C
end
def AQ(h:∀a∈t,a∈et)(ht:t.length<=5)(I:t≠[])(e:jn [] ae=docOf (cO t))(hl:ae.length<=200)(ah:(docOf<|cO t).length<=2000)(ai:n≠m)(h1:H[n]? =some (.list<|bB ae))(u:H[m]? =some (.list<|aD<|eR<|dW t)):ay 250 none (.fn 1138) [.ref n,.ref m] H=some (.ok (.bool true) H):=by
 refine c5 (On h ht I) λh0 aa aj=>jZ aj λy s p hT hj=>?_;have S:mc [] [] 0 [] ⟨0,[],[],.no,0⟩:=⟨kb rfl rfl,rfl,ba _,by decide,.nil⟩;refine gk (Og (N:=bB ae) (ds:=aD<|eR<|dW t) aa ae 0 199959 0 [] [.list []] [] [] 0 [] _ [] rfl (as ‹_›<|by decide) (aR hl<|by simp+arith) S e ah rfl rfl (λ_=>⟨rfl,rfl⟩) (λ_=>rfl)<|bJ _) λtl T G x kk ak=>yP ak λl2 f z r W hG U C ap=>zo (aQ<|hT.symm.trans W.tl) λal am=>?_;subst al am;have le:∀{n:Nat},n<=100000->n<=bf:=λh=>h;refine aS (aa (docOf<|cO t) []<|be _) λao an=>?_;rw[h0]at r;have af:x++a' []=x:=be x;have ag:∀D H,ay 249 none (.fn 861) D H=bD (λD H=>aF NN tab (ay 248) none (.fn 861) D H) D H:=λ_ _=>di (d:=248) qy rfl;have xl:=W.mx;refine aU (GU (d:=202) (x:=x) (h:=[]) (k:=kk) (n:=200) (f:=⟨3,[],[],s,p⟩) (l:=[]) (ab:=⟨3,[],[],s,p⟩) E8 (by refine Y af ?_;exact le<|aR xl<|by simp+arith) (bJ 1) (by refine Y af ?_;exact W.nc) (by refine Y af ?_;exact W.le) .nil rfl rfl (ba _) rfl) λk' cl=>?_;rw[show ay (202+47) none (.fn 861)=ay 249 none (.fn 861) from rfl,ag]at cl;have av:=(ag _ _).trans<|yD (N:=bB ae) (ds:=aD<|eR<|dW t) (G:=G) (w:=[]) .nil (cg s) .nil (cg s) .nil cl;have gm:(G++[au.list<|aD<|aJ [] []])[T]? =some (.list<|aD z):=by refine Y (dO (cc.mp hG).1) ?_;exact hG
 have a:=zn (N:=bB ae) (ds:=aD<|eR<|dW t) (st:=3) (nm:=[]) (E:=ax (x++a' []) k' p [] s.aA) gm (cU (H:=G) (o:=au.list<|aD<|aJ [] []))<|by refine Y (j4 ..) ?_;show z.length+0<=_;exact as ‹_›<|by decide
 rw[<-oB,show z++aJ [] []=z from be z]at a;have jl:cN y<=500*200:=(sQ hT).2;have jf:cN z=cN y:=by have a:=sR z [];have b:=sR y [];rw[U,b]at a;exact(Nat.add_right_cancel a).symm
 have aG:=EF 248 (l:=z) (i:=(G++[au.list<|aD<|aJ [] []]).length+13) (H:=TG (bB ae) (aD<|eR<|dW t) 3 [] (ax (x++a' []) k' p [] s.aA)<|G++[au.list<|aD<|aJ [] []]++[au.list<|aD z]) (s0 cU) (le<|as ‹_›<|by decide)<|le<|a7 jl (a4 jf)<|by simp+arith
 rw[U,hj]at aG;have bp:∀{G:aq},aF (199940+60) tab (ay 249) none (.fn 1138) [.ref 0,.ref 1] (T0 (bB ae)<|aD<|eR<|dW t)=some (.ok (.bool true)<|.list (bB ae)::.list (aD<|eR<|dW t)::G)->ay 250 none (.fn 1138) [.ref n,.ref m] H=some (.ok (.bool true) H):=λe=>(di (d:=249) rfl rfl).trans<|T3 h1 u ai (.list<|ov ae) (.list<|g4 _) .bool e;have e3:=eq_avs (H:=TG (bB ae) (aD<|eR<|dW t) 3 [] (ax (x++a' []) k' p [] s.aA)<|G++[au.list<|aD<|aJ [] []]++[au.list<|aD z]++[au.list<|aD<|eR<|dW t]) (i:=(G++[au.list<|aD<|aJ [] []]++[au.list<|aD z]).length+13) (j:=1) (l:=eR<|dW t) (s0 cU) rfl;rcases J:Nat.blt 1 (bB ae).length
 .have sl:∀l:List (List Nat),(bB l).length=l.length:=λl=>by
   induction l with
   |nil=>rfl|cons a l ih=>exact az (·+1) ih
  have pl:ae.length<=1:=by rw[sl]at J;rcases dE 1 ae.length with q|q;rw[dw q]at J;exact ff<|J.symm;exact q
  have im:z=eR (dW t):=(C<|aR pl<|by simp+arith).trans hj;have e4:=eq_avs (H:=TG (bB ae) (aD<|eR<|dW t) 3 [] (ax (x++a' []) k' p [] s.aA)<|G++[au.list<|aD<|aJ [] []]++[au.list<|aD z]++[au.list<|aD<|eR<|dW t]) (i:=(G++[au.list<|aD<|aJ [] []]).length+13) (j:=1) (l:=eR<|dW t) (s0<|by refine Y im<|Y (bq ..) ?_;exact iF) rfl;exact bp<|Tn (O:=ay 249) (j:=199940) zC BO CX r av a aG e3 rfl (az some J) e4
 exact bp<|P2 (O:=ay 249) (j:=199940) zC BO CX r av a aG e3 rfl<|az some J
noncomputable def Rv:Stmt->List Stmt|.If _ b _ _=>b|_=>[]
noncomputable def UH:Expr->Expr|.Call _ U _ _=>(match U with|a::_=>a|[]=>.Constant .none 0 ⟨0,0,0,0⟩)|e=>e
def EW:Expr:=vA<|(Rv<|fS 1100 0).headD<|.Pass ⟨0,0,0,0⟩
def BU:Expr:=match ol (UH<|valOf<|fS 1100 1)with|some p=>p.2|none=>.Constant .none 0 ⟨0,0,0,0⟩
def Es:Expr:=vA<|fS 1100 2
abbrev t0(O:ap)(j:Nat)(loc:Loc)(aY:V)(k:Nat)(U:List V)(H:aq):M (List V):=(ev tab O j).lc ⟨(kN EW).2.names,none,(dh 1100).lam⟩ loc cK (kN EW).1 [] aY k U H
abbrev rA(O:ap)(j:Nat)(loc:Loc)(aY:V)(k:Nat)(U:List V)(H:aq):M (List V):=(ev tab O j).lc ⟨(kN BU).2.names,none,(dh 1100).lam⟩ loc nq (kN BU).1 [] aY k U H
abbrev sI(O:ap)(j:Nat)(loc:Loc)(aY:V)(k:Nat)(U:List V)(H:aq):M (List V):=(ev tab O j).lc ⟨(kN Es).2.names,none,(dh 1100).lam⟩ loc eZ (kN Es).1 [] aY k U H
noncomputable def bV(o:au)(x:List Nat)(pl:Option V)(G:aq):aq:=o::.cell (some<|.ref 0)::.cell (some<|.str x)::.cell pl::G
section
variable{O:ap}{p q:Nat}{tl:Loc}
def Ji(m:O none (.fn 1088) [.ref 0,.int ((3:Nat):Int)] (bV o x none [])=some (.ok (.int ((0:Nat):Int))<|bV f x none []))(g:bP tab O none (.blt .range) [.int (x.length:Nat)] (bV f x none [])=some (.ok (.an 0 (x.length:Nat))<|bV f x none []))(h:eN (.an 0 (x.length:Nat)) (bV f x none [])=true)(l:t0 O (j+57) [(bc,.ref 2)] (.an 0 (x.length:Nat)) 0 [] (bV f x none [])=some (.ok U<|bV f x none [])):aF (j+60) tab O none (.fn 1100) [.ref 0,.str x] [o]=some (.ok (.ref 4)<|bV f x none [.list U]):=by exact nj (H':=[o,au.cell<|some<|V.ref 0,au.cell<|some<|V.str x,au.cell none]) [(oQ,V.ref<|List.length<|[o]++[au.cell none]++[au.cell none]),(bc,V.ref<|List.length<|[o]++[au.cell none]),(hW,V.ref [o].length)] rfl<|sk 2<|aj Q.m m rfl<|sk 6<|aj Q.m g rfl<|aj Q.b h rfl<|aj Q.l l rfl rfl
def He(aP:dI (.an 0 (n:Nat)) k (bV o x pl G)=some (some<|.int k))(aE:x[k]? =some c)(h:cr (U.length+1)=true):t0 O (j+40) ((bc,.ref 2)::tl) (.an 0 (n:Nat)) k U (bV o x pl G)=t0 O (j+39) ((bc,.ref 2)::put cK (.int k) tl) (.an 0 (n:Nat)) (k+1) (U++[.str [c]]) (bV o x pl G):=by
 have s:=ee (x:=cK) (v:=.int k) (l:=tl);have i1:nW (.str x) (.int k) (bV o x pl G)=some (.ok (.str [c])<|bV o x pl G):=by show ob (ob (match Nat.blt k x.length with|true=>some k|false=>none) λj=>ob x[j]? λc=>some<|V.str [c]) (λr=>rt r<|bV o x pl G)=_;refine Y (dw (cc.mp aE).1) ?_;show ob (ob x[k]? _) _=_;exact Y aE rfl
 exact nh aP<|sk 3<|aj Q.v s rfl<|aj Q.m i1 rfl<|aj Q.b h rfl rfl
def H7(aP:dI (.an 0 (n:Nat)) k (bV o x pl G)=some (some<|.int k))(m:O none (.fn 1088) [.ref 0,.int (x.length+1:Nat)] (bV o x pl G)=some (.ok (.int (p:Nat))<|bV f x pl G))(h:cr (U.length+1)=true):rA O (j+40) ((hW,.ref 1)::(bc,.ref 2)::tl) (.an 0 (n:Nat)) k U (bV o x pl G)=rA O (j+39) ((hW,.ref 1)::(bc,.ref 2)::put nq (.int k) tl) (.an 0 (n:Nat)) (k+1) (U++[.int p]) (bV f x pl G):=by exact nh aP<|sk 8<|aj Q.m m rfl<|aj Q.b h rfl rfl
def Hy(aP:dI (.an 0 (n:Nat)) k (bV o x (some<|.ref i) G)=some (some<|.int k))(hl:(bV o x (some<|.ref i) G)[i]? =some (.list l))(f:l[k]? =some (.int p))(u:l[k+1]? =some (.int q))(e:il (.str x) (some<|.int p) (some<|.int q) (bV o x (some<|.ref i) G)=some (.ok (.str<|(x.drop p).take<|q-p)<|bV o x (some<|.ref i) G))(h:cr (U.length+1)=true):sI O (j+40) ((oQ,.ref 3)::(bc,.ref 2)::tl) (.an 0 (n:Nat)) k U (bV o x (some<|.ref i) G)=sI O (j+39) ((oQ,.ref 3)::(bc,.ref 2)::put eZ (.int k) tl) (.an 0 (n:Nat)) (k+1) (U++[.str<|(x.drop p).take<|q-p]) (bV o x (some<|.ref i) G):=by have s:=ee (x:=eZ) (v:=.int k) (l:=tl);have i1:=qk hl f;have i2:=qk hl u;exact nh aP<|sk 4<|aj Q.v s rfl<|aj Q.m i1 rfl<|sk 1<|aj Q.v s rfl<|sk 1<|aj Q.m i2 rfl<|aj Q.m e rfl<|aj Q.b h rfl rfl
def Hv(m:O none (.fn 1088) [.ref 0,.int ((3:Nat):Int)] (bV o x none [])=some (.ok (.int (p+1:Nat))<|bV f x none []))(aG:O none (.fn 1088) [.ref 0,.int ((5:Nat):Int)] (bV f x none [.list [.int 0,.int (x.length:Nat)]])=some (.ok (.int (n:Nat))<|bV u x none [.list [.int 0,.int (x.length:Nat)]]))(g:bP tab O none (.blt .range) [.int (n:Nat)] (bV u x none [.list [.int 0,.int (x.length:Nat)]])=some (.ok (.an 0 (n:Nat))<|bV u x none [.list [.int 0,.int (x.length:Nat)]]))(y:eN (.an 0 (n:Nat)) (bV u x none [.list [.int 0,.int (x.length:Nat)]])=true)(E:rA O (j+56) [(hW,.ref 1),(bc,.ref 2)] (.an 0 (n:Nat)) 0 [] (bV u x none [.list [.int 0,.int (x.length:Nat)]])=some (.ok U<|bV h x none [.list [.int 0,.int (x.length:Nat)]]))(a:bin .Add (.ref 4) (.ref 5) (bV h x none [.list [.int 0,.int (x.length:Nat)],.list U])=some (.ok (.ref 6)<|bV h x none [.list [.int 0,.int (x.length:Nat)],.list U,.list<|.int 0::.int (x.length:Nat)::U]))(I:bP tab O none (.blt .sorted) [.ref 6] (bV h x none [.list [.int 0,.int (x.length:Nat)],.list U,.list<|.int 0::.int (x.length:Nat)::U])=some (.ok (.ref 7)<|bV h x none [.list [.int 0,.int (x.length:Nat)],.list U,.list<|.int 0::.int (x.length:Nat)::U,.list l]))(D:bV h x (some<|.ref 7) [.list [.int 0,.int (x.length:Nat)],.list U,.list<|.int 0::.int (x.length:Nat)::U,.list l]=H)(e1:bin .Sub (.int (l.length:Nat)) (.int ((1:Nat):Int)) H=some (.ok (.int (k:Nat)) H))(C:bP tab O none (.blt .range) [.int (k:Nat)] H=some (.ok (.an 0 (k:Nat)) H))(z:eN (.an 0 (k:Nat)) H=true)(lc:sI O (j+58) [(oQ,.ref 3),(bc,.ref 2)] (.an 0 (k:Nat)) 0 [] H=some (.ok r H)):aF (j+60) tab O none (.fn 1100) [.ref 0,.str x] [o]=some (.ok (.ref 8)<|H++[.list r]):=by subst D;exact nj (H':=[o,au.cell<|some<|V.ref 0,au.cell<|some<|V.str x,au.cell none]) [(oQ,V.ref<|List.length<|[o]++[au.cell none]++[au.cell none]),(bc,V.ref<|List.length<|[o]++[au.cell none]),(hW,V.ref [o].length)] rfl<|sk 2<|aj Q.m m rfl<|sk 9<|aj Q.m aG rfl<|aj Q.m g rfl<|aj Q.b y rfl<|aj Q.l E rfl<|aj Q.m a rfl<|aj Q.m I rfl<|sk 5<|aj Q.m e1 rfl<|aj Q.m C rfl<|aj Q.b z rfl<|aj Q.l lc rfl rfl
end
noncomputable def mM:List Nat->List (List Nat)|[]=>[]|c::r=>[c]::mM r
noncomputable def eh:List Nat->List V|[]=>[]|n::l=>.int n::eh l
def w5:∀l,(eh l).length=l.length:=by
 intro l;induction l with
 |nil=>exact rfl|cons _ l f=>exact az (·+1)<|f
theorem xK:∀{l}{k:Nat},(eh l)[k]? =l[k]?.map λn=>V.int n
 |[],_=>rfl|_::_,0=>rfl|_::l,k+1=>xK (l:=l) (k:=k)
def J0:∀x,jn [] (mM x)=x:=by
 intro x;induction x with
 |nil=>exact rfl|cons c x f=>show jn [] ([c]::mM x)=_;exact Y (kR ..)<|Y (f) rfl
def Ps:∀x,(mM x).length=x.length:=by
 intro x;induction x with
 |nil=>exact rfl|cons _ x f=>exact az (·+1)<|f
def Rh:∀r k j U(tl:Loc),x.drop k=r->r.length<=j->U.length+r.length<=1000000->t0 O (j+40) ((bc,.ref 2)::tl) (.an 0 (x.length:Nat)) k U (bV o x pl G)=some (.ok (U++bB (mM r))<|bV o x pl G):=by
 intro r;induction r with
 |nil=>intro k j U tl aE _ _;exact Y (show U++bB (mM [])=U from be U)<|oi<|uR aE
 |cons c r h=>intro k j U tl aE f hl;rw[cv]at f hl;obtain⟨j,rfl⟩:∃n,j=n+1:=⟨j-1,by exact ce (aR (cm j 1)<|by simp+arith)<|aR (a4<|bx<|show 1<=j from aR f<|by simp+arith)<|by simp+arith⟩;refine(He (O:=O) (j:=j+1) (p5 aE) (gy aE).1<|hv<|aR hl<|by simp+arith).trans<|(h (k+1) j (U++[.str [c]]) (put cK (.int k) tl) (gy aE).2.1 (eX ‹_›)<|by refine Y a0<|Y zx ?_;exact aR hl<|by simp+arith).trans ?_;exact Y (bq ..) rfl
def zD(h:k<n):dI (.an 0 (n:Nat)) k H=some (some<|.int k):=by have e:(0:Int)+(k:Int)=(k:Int):=oJ _;show some (match du (0+(k:Int)) (n:Nat)with|true=>some (V.int<|0+(k:Int))|false=>none)=_;refine Y e ?_;show some (match Nat.blt k n with|true=>_|false=>none)=_;exact Y (dw h) rfl
def uJ(h:n<=k):dI (.an 0 (n:Nat)) k H=some none:=by have e:(0:Int)+(k:Int)=(k:Int):=oJ _;show some (match du (0+(k:Int)) (n:Nat)with|true=>some (V.int<|0+(k:Int))|false=>none)=_;refine Y e ?_;show some (match Nat.blt k n with|true=>_|false=>none)=_;exact Y (kK h) rfl
section
variable{x:List Nat}(aE:x.length<=2000)
include aE
theorem FE(h:n<=100):∀m k j(tl:Loc) U a b,k+m=n->m<=j->U.length<=k->b<2147483647->∃ds I E,ds.length=m/\(∀y∈ds,y<=x.length)/\E<2147483647/\ rA (ay<|d+1) (j+40) ((hW,.ref 1)::(bc,.ref 2)::tl) (.an 0 (n:Nat)) k U (bV (aY a b) x pl G)=some (.ok (U++eh ds)<|bV (aY I E) x pl G):=by
 intro m;induction m with
 |zero=>exact λk j tl U a b aP _ _ D=>⟨[],a,b,rfl,λ_ m=>(nomatch m),D,by refine Y (show U++eh []=U from be U) ?_;exact oi<|uJ<|aR (a4 aP.symm)<|by simp+arith⟩
 |succ m ih=>intro k j tl U a b aP hj T D;obtain⟨j,rfl⟩:∃n,j=n+1:=⟨j-1,by exact ce (aR (cm j 1)<|by simp+arith)<|aR (a4<|bx<|show 1<=j from aR hj<|by simp+arith)<|by simp+arith⟩;refine ea (nL (d:=d) (i:=0) (t:=x.length+1) (H:=bV (aY a b) x pl G) rfl D (lQ _)<|fj ‹_›<|by decide) λp a1 b1 C W e=>gP (ih (k+1) j (put nq (.int k) tl) (U++[.int p]) a1 b1 (ce (aR (a4 aP)<|by simp+arith)<|aR (a4 aP.symm)<|by simp+arith) (eX ‹_›) (by refine Y a0<|Y zx ?_;exact fD ‹_›) W) λds a2 J z u f N=>?_;refine pR (p::ds) a2 J (az (·+1) z) (λy m=>(bC.mp m).elim (λe=>e▸eX C)<|u y) f<|(H7 (O:=ay<|d+1) (j:=j+1) (zD<|aR (a4 aP)<|by simp+arith) e<|hv<|cT h (a4 aP) T<|by simp+arith).trans<|N.trans<|Y (bq ..) ?_;rfl
end
noncomputable def Ch(lo:Nat)(l:List Nat)(f:Nat):Prop:=match l with|[]=>lo<=f|y::r=>lo<=y/\Ch y r f
termination_by structural l
noncomputable def dR(x:Nat):List Nat->List Nat|[]=>[x]|y::r=>match Nat.blt y x with|true=>y::dR x r|false=>x::y::r
noncomputable def fa:List Nat->List Nat|[]=>[]|x::r=>dR x<|fa r
noncomputable def gv(p:Nat):List Nat->Nat|[]=>p|q::r=>gv q r
theorem Ch.top:∀{lo f l},Ch lo l f->lo<=f|_,_,[],h=>h|_,_,_::_,h=>as h.1 h.2.top
theorem Ch.ins(aE:x<=f):∀{lo l},Ch lo l f->lo<=x->Ch lo (dR x l) f|_,[],_,k=>⟨k,aE⟩|lo,y::r,h,k=>by show Ch lo (match Nat.blt y x with|true=>y::dR x r|false=>x::y::r) f;rcases e:Nat.blt y x;exact⟨k,(dE y x).elim (λC=>by rw[dw C]at e;exact ff<|e.symm) id,h.2⟩;exact⟨h.1,h.2.ins aE<|gt<|bE e⟩
def BL:∀{l},(∀y∈l,y<=f)->Ch 0 (fa l) f:=by
 intro l;induction l with
 |nil=>intro _;exact bJ _
 |cons x l j=>intro h;exact(j λy m=>h y<|.tail _ m).ins (h x<|.head _)<|bJ _
def M7:∀{l},Ch f l f->gv f l=f:=by
 intro l;induction l with
 |nil=>intro _;exact rfl
 |cons y r j=>intro h;obtain rfl:f=y:=ce h.1 h.2.top;show gv f r=f;exact j h.2
theorem C7:∀{lo l},Ch lo l f->gv lo (dR f l)=f|_,[],_=>rfl|lo,y::r,h=>by show gv lo (match Nat.blt y f with|true=>y::dR f r|false=>f::y::r)=f;rcases e:Nat.blt y f;have:f=y:=ce ((dE y f).elim (λC=>by rw[dw C]at e;exact ff<|e.symm) id) h.2.top;clear e;subst this;show gv f r=f;exact M7 h.2;exact C7 h.2
noncomputable def kZ(x:List Nat)(p:Nat):List Nat->List (List Nat)|[]=>[]|q::r=>(x.drop p).take (q-p)::kZ x q r
theorem A1:∀{p l},Ch p l f->jn [] (kZ x p l)=(x.drop p).take (gv p l-p)/\p<=gv p l
 |p,[],_=>⟨by show[]=(x.drop p).take (p-p);exact Y (er ..) rfl,ba _⟩
 |p,q::r,h=>by refine aS (A1 (x:=x) h.2) λz u=>⟨?_,as h.1 u⟩;show jn [] ((x.drop p).take (q-p)::kZ x q r)=(x.drop p).take (gv q r-p);exact Y (kR ..)<|Y z<|Y (show gv q r-p=(q-p)+(gv q r-q) by have:=h.1;exact ce (cT (cm q p) (cm (gv q r) q) (a4<|bx<|show p<=gv q r from a7 u this<|by simp+arith)<|by simp+arith)<|cT (cm (gv q r) p) (a4<|bx<|show p<=q from aR this<|by simp+arith) (a4<|bx<|show q<=gv q r from aR u<|by simp+arith)<|by simp+arith)<|Y List.take_add<|Y fc<|Y (kT h.1) rfl
theorem yq:∀{p l},(kZ x p l).length=l.length|_,[]=>rfl|_,_::_=>az (·+1) yq
def MR(x:Nat):∀l,insI (x:Int) (l.map Int.ofNat)=(dR x l).map Int.ofNat:=by
 intro l;induction l with
 |nil=>exact rfl|cons y r f=>show(match Nat.blt y x with|true=>(y:Int)::insI x (r.map Int.ofNat)|false=>(x:Int)::(y:Int)::r.map Int.ofNat)=(match Nat.blt y x with|true=>y::dR x r|false=>x::y::r).map Int.ofNat;rcases Nat.blt y x;rfl;exact az ((y:Int)::·)<|f
def Uj:∀l,sortI (l.map Int.ofNat)=(fa l).map Int.ofNat:=by
 intro l;induction l with
 |nil=>exact rfl|cons x l f=>show insI (x:Int) (sortI<|l.map Int.ofNat)=_;exact Y (f)<|Y (MR ..) rfl
def OP:∀l,mA (eh l)=some (l.map Int.ofNat):=by
 intro l;induction l with
 |nil=>exact rfl|cons x l f=>show ob (some (x:Int)) (λx=>ob (mA<|eh l) λl=>some<|x::l)=_;exact Y (f) rfl
def MO:∀l,(l.map Int.ofNat).map V.int=eh l:=by
 intro l;induction l with
 |nil=>exact rfl|cons x l f=>exact az (V.int (x:Int)::·)<|f
def oa(x):∀l,(dR x l).length=l.length+1:=by
 intro l;induction l with
 |nil=>exact rfl|cons y r f=>show(match Nat.blt y x with|true=>y::dR x r|false=>x::y::r).length=_;rcases Nat.blt y x;rfl;exact az (·+1)<|f
def qo:∀l,(fa l).length=l.length:=by
 intro l;induction l with
 |nil=>exact rfl|cons x l f=>show(dR x<|fa l).length=_;exact Y (oa ..)<|Y (f) rfl
def PQ{p q:Nat}(u:p<=x.length)(bo:q<=x.length)(aE:x.length<=2000):il (.str x) (some<|.int p) (some<|.int q) H=some (.ok (.str<|(x.drop p).take<|q-p) H):=by show ob (aB (dd (p:Int)&&dd (q:Int)) (some<|V.str<|fT (d4 (p:Int) x.length) (d4 (q:Int) x.length) x) none) (λr=>rt r H)=_;exact Y (j5<|a7 u aE<|by simp+arith)<|Y (j5<|a7 bo aE<|by simp+arith)<|Y (qr u)<|Y (qr bo) rfl
def Jo(aE:x.length<=2000)(hl:(bV o x (some<|.ref i) G)[i]? =some (.list<|eh P))(f:P.length=n+1):∀r p k j(tl:Loc) U,P.drop k=p::r->(∀y∈p::r,y<=x.length)->r.length<=j->U.length+r.length<=1000000->k+r.length=n->sI O (j+40) ((oQ,.ref 3)::(bc,.ref 2)::tl) (.an 0 (n:Nat)) k U (bV o x (some<|.ref i) G)=some (.ok (U++bB (kZ x p r))<|bV o x (some<|.ref i) G):=by
 intro r;induction r with
 |nil=>intro p k j tl U _ _ _ _ aP;exact Y (show U++bB (kZ x p [])=U from be U)<|oi<|uJ<|by rw[hA]at aP;exact aR (a4 aP.symm)<|by simp+arith
 |cons q r I=>intro p k j tl U hd u C h aP;rw[cv]at C h aP;obtain⟨j,rfl⟩:∃n,j=n+1:=⟨j-1,by exact ce (aR (cm j 1)<|by simp+arith)<|aR (a4<|bx<|show 1<=j from aR C<|by simp+arith)<|by simp+arith⟩;refine c5 (gy hd) λD z _=>aS (gy z) λE _=>(Hy (O:=O) (j:=j+1) (zD<|aR (a4 aP)<|by simp+arith) hl (p:=p) (q:=q) (by exact Y xK<|Y D rfl) (by exact Y xK<|Y E rfl) (PQ (u p<|.head _) (u q<|.tail _<|.head _) aE)<|hv<|aR h<|by simp+arith).trans<|(I q (k+1) j (put eZ (.int k) tl) _ z (λy m=>u y<|.tail _ m) (eX ‹_›) (by refine Y a0<|Y zx ?_;exact aR h<|by simp+arith)<|ce (aR (a4 aP)<|by simp+arith)<|aR (a4 aP.symm)<|by simp+arith).trans ?_;exact Y (bq ..) rfl
def AI(C:1<=x.length)(aE:x.length<=190)(z:H[i]? =some (aY a b))(hb:b<2147483647):∃ae J I,jn [] ae=x/\ae.length<=200/\I<2147483647/\ay 250 none (.fn 1100) [.ref i,.str x] H=some (.ok (.ref H.length)<|H.set i (aY J I)++[.list<|bB ae]):=by
 have bp:∀{ae:List (List Nat)}{J I r:Nat}{G:aq},G[r]? =some (.list<|bB ae)->aF (199940+60) tab (ay 249) none (.fn 1100) [.ref 0,.str x] [aY a b]=some (.ok (.ref<|r+1)<|aY J I::G)->ay 250 none (.fn 1100) [.ref i,.str x] H=some (.ok (.ref H.length)<|H.set i (aY J I)++[.list<|bB ae]):=λhr e=>(di (d:=249) rfl rfl).trans (Av (X:=λD H=>aF NN tab (ay 249) none (.fn 1100) D H) (w:=[.str x]) z jM (.cons .str .nil) jM hr (.list<|ov _) e);have mx:∀{n:Nat},n<=2000->n<=bf:=λh=>as h<|by decide
 refine ea (nL (d:=248) (i:=0) (t:=3) (H:=bV (aY a b) x none []) rfl hb (by decide)<|by decide) λp a1 b1 u T e1=>?_;rcases p with _|p;have l:=Rh (O:=ay 249) (o:=aY a1 b1) (pl:=none) (G:=[]) x 0 199957 [] [] rfl (as ‹_›<|by decide) (by refine Y hA ?_;exact aR aE<|by simp+arith);exact pR (mM x) a1 b1 (J0 x) (by refine Y (Ps ..) ?_;exact as ‹_›<|by decide) T<|bp (r:=3) rfl<|Ji (O:=ay 249) (j:=199940) e1 (mT<|mx<|as ‹_›<|by decide) (mz<|mx<|aR aE<|by simp+arith) l
 .refine ea (nL (d:=248) (i:=0) (t:=5) (H:=bV (aY a1 b1) x none [.list [.int 0,.int (x.length:Nat)]]) rfl T (by decide)<|by decide) λn a2 b2 f ab e2=>gP (FE (d:=248) (n:=n) (x:=x) (pl:=none) (G:=[.list [.int 0,.int (x.length:Nat)]]) (as ‹_›<|by decide) (aR f<|by simp+arith) n 0 199956 [] [] a2 b2 (eT _) (aR f<|by simp+arith) (bJ _) ab) λds fg N hd U af E=>?_;have ch:Ch 0 (dR x.length<|fa ds) x.length:=(BL U).ins (ba _)<|bJ _;have aa:∀{lo:Nat}{l:List Nat},Ch lo l x.length->∀y∈lo::l,y<=x.length:=λ{lo l}=>by
   intro h;induction l generalizing lo with
   |nil=>exact λy m=>by refine Y (b9.mp m) ?_;exact h
   |cons q r ih=>exact λy m=>(bC.mp m).elim (λe=>e▸h.top) λm=>ih h.2 y m
  have so:sortI ((0::x.length::ds).map Int.ofNat)=(0::dR x.length (fa ds)).map Int.ofNat:=by refine Y (Uj ..) ?_;show(dR 0<|dR x.length<|fa ds).map Int.ofNat=_;rcases dR x.length (fa ds)with _|⟨y,r⟩;rfl;rfl
  have a3:(0::dR x.length (fa ds)).length=ds.length+2:=Y cv<|Y (oa ..)<|Y (qo ..) rfl;have ec:=Jo (O:=ay 249) (x:=x) (o:=aY fg N) (i:=7) (G:=[.list [.int 0,.int (x.length:Nat)],.list<|eh ds,.list<|.int 0::.int (x.length:Nat)::eh ds,.list<|eh<|0::dR x.length (fa ds)]) (P:=0::dR x.length (fa ds)) (n:=ds.length+1) (as ‹_›<|by decide) rfl a3 (dR x.length<|fa ds) 0 0 199958 [] [] rfl (aa ch) (by refine Y (oa ..)<|Y (qo ..) ?_;exact a7 f (a4 hd)<|by simp+arith) (by refine Y (oa ..)<|Y (qo ..)<|Y hA ?_;exact a7 f (a4 hd)<|by simp+arith)<|by refine Y (oa ..)<|Y (qo ..) ?_;exact cF ..
  have ei:=C7<|BL U;have W:=(A1 (x:=x) ch).1;rw[ei,Nat.sub_zero,iV,List.take_length]at W;have i1:(eh ds).length=ds.length:=w5 ds;have il:(eh<|0::dR x.length (fa ds)).length=ds.length+2:=(w5 _).trans a3;refine pR (kZ x 0<|dR x.length<|fa ds) fg N W (by refine Y yq<|Y (oa ..)<|Y (qo ..) ?_;exact a7 f (a4 hd)<|by simp+arith) af<|bp (r:=7) (G:=.cell (some<|.ref 0)::.cell (some<|.str x)::.cell (some<|.ref 7)::[.list [.int 0,.int (x.length:Nat)],.list<|eh ds,.list<|.int 0::.int (x.length:Nat)::eh ds,.list<|eh<|0::dR x.length (fa ds),.list<|bB<|kZ x 0<|dR x.length<|fa ds]) rfl ?_;refine Hv (O:=ay 249) (j:=199940) e1 e2 (mT<|mx<|aR f<|by simp+arith) (mz<|mx<|aR f<|by simp+arith) E ?_ ?_ rfl (k:=ds.length+1) ?_ (mT<|mx<|a7 f (a4 hd)<|by simp+arith) (mz<|mx<|a7 f (a4 hd)<|by simp+arith) ec;show aw (cr<|[V.int 0,V.int x.length].length+(eh ds).length) _=_;refine Y (hv<|by rw[i1];show 2+ds.length<=_;exact a7 f (a4 hd)<|by simp+arith) ?_;rfl;show ob (mA<|eh<|0::x.length::ds) (λns=>aw (Nat.ble (eh<|0::x.length::ds).length 20)<|rt (V.ref 7)<|_++[au.list<|(sortI ns).map .int])=_;refine Y (OP ..) ?_;show aw (Nat.ble (eh<|0::x.length::ds).length 20) (rt (V.ref 7)<|_++[au.list<|(sortI<|(0::x.length::ds).map Int.ofNat).map .int])=_;refine Y (w5 ..)<|Y so<|Y (MO ..)<|Y (ia<|by show ds.length+2<=20;exact a7 f (a4 hd)<|by simp+arith) ?_;rfl;show rt (V.int<|((eh<|0::dR x.length (fa ds)).length:Int)-((1:Nat):Int)) _=_;exact Y il<|Y (qb<|by exact bT ..) rfl
def PW:eK none (.fn 1095)=none:=rfl
def uZ(u:H[0]? =some (aY a b))(C:b<2147483647)(k:H[i]? =some (.list l))(y:0≠i)(E:0<l.length)(z:l.length<=1000):∃v h f,v∈l/\f<2147483647/\ay (d+2) none (.fn 1095) [.ref 0,.ref i] H=some (.ok v<|H.set 0<|aY h f):=by exact ea (nL (d:=d) (t:=l.length) u C E<|as ‹_›<|by decide) λx h f aE D e=>oU _ h f (List.getElem_mem aE) D<|(me (d:=d+1) PW).trans<|Ss (O:=ay<|d+1) (j:=199940) k e (by refine Y (nP y) ?_;exact k)<|dA aE
theorem C5:∀{l v},v∈bB l->∃x∈l,v=.str x|x::l,v,m=>by rcases bC.mp (show v∈V.str x::bB l from m)with rfl|m;exact a8 x (.head _) rfl;exact aZ (C5 m) λy E z=>a8 y (.tail _ E) z
theorem Cc:∀{l v},v∈eY l->∃p∈l,v=.tup [.str p.1,.int p.2]|p::l,v,m=>by rcases bC.mp (show v∈V.tup [.str p.1,.int p.2]::eY l from m)with rfl|m;exact a8 p (.head _) rfl;exact aZ (Cc m) λy E z=>a8 y (.tail _ E) z
theorem yJ:∀{l v},v∈iP l->∃p∈l,v=.tup [.str p.1,.str p.2]|p::l,v,m=>by rcases bC.mp (show v∈V.tup [.str p.1,.str p.2]::iP l from m)with rfl|m;exact a8 p (.head _) rfl;exact aZ (yJ m) λy E z=>a8 y (.tail _ E) z
noncomputable def Dq(w:List Nat×Nat):Bool:=Nat.ble w.1.length 30
noncomputable def Eu(x:List Nat):Bool:=Nat.ble x.length 30&&Nat.ble 1 x.length
noncomputable def CP(t:List Nat×List Nat):Bool:=Nat.ble t.2.length 15
def N0:allB CP et=true:=by decide+kernel
def O8:allB Dq fi=true:=by decide+kernel
def Hf:allB Eu jq=true:=by decide+kernel
def NC(k:H[i]? =some (aY a b))(U:b<2147483647):∃f pl N I,oA f pl=true/\1<=f.length/\f.length<=60/\I<2147483647/\ay 250 none (.fn 1119) [.ref i] H=some (.ok (.tup [.str f,.int pl])<|H.set i<|aY N I):=by refine ea (uZ (d:=247) (H:=[aY a b,.list<|bB jq]) (i:=1) rfl U rfl (by decide) (by decide)<|by decide) λv a1 b1 x W av=>aZ (C5 x) λu J ae=>?_;subst ae;refine ea (uZ (d:=247) (H:=[aY a1 b1,.list<|bB jq,.list<|eY<|fi.take 5,.list<|eY<|(fi.drop 5).take 4,.list<|eY fi]) (i:=4) rfl W rfl (by decide) (by decide)<|by decide) λv a2 T x ab aG=>aZ (Cc x) λw h af=>?_;clear x;subst af;have l0:Eu u=true:=iD Hf J;refine zb (show(Nat.ble u.length 30&&Nat.ble 1 u.length)=true from l0) λy E=>?_;have y:=bE y;have E:=bE E;have C:Dq w=true:=iD O8 h;have C:w.1.length<=30:=bE<|show Nat.ble w.1.length 30=true from C;have k1:ED u=true:=iD O9 J;have k2:t8 u w=true:=iD (z:=t8 u) k1 h;have aa:oA (u++w.1) (u.length+w.2)=true:=k2;refine Kr (u++w.1) (u.length+w.2) a2 T aa (by refine Y a0 ?_;exact aR E<|by simp+arith) (by refine Y a0 ?_;exact a7 y C<|by simp+arith) ab ?_;exact(di (d:=249) rfl rfl).trans<|hB (X:=λD H=>aF NN tab (ay 249) none (.fn 1119) D H) (w:=[]) k jM .nil jM (.tup<|.cons .str<|.cons .int .nil)<|Oy (O:=ay 249) (j:=199940) av aG<|a7 y C<|by simp+arith
def UF:∀m k j a b x y(G:aq) tl,k+m=n->m<=j->b<2147483647->x.length+15*m<=1000->y.length+15*m<=1000->∃J D f C T,(∀t∈J,t∈et)/\J.length=m/\f<2147483647/\ bv (ay 249) (j+40) 1126 1 (.an 0 (n:Nat)) k (mP x y tl) (aY a b::G)=some (.ok .next (mP (x++cO J) (y++dW J) T)<|aY D f::C):=by
 intro m;induction m with
 |zero=>intro k j a b x y G tl aP _ N _ _;refine uN ([]) a b G tl (λ_ m=>(nomatch m)) rfl N ?_;show _=some (RS.ok .next (mP (x++[]) (y++[]) tl) _);exact Y (be ..)<|Y (be ..)<|k4<|uJ<|aR (a4 aP.symm)<|by simp+arith
 |succ m ih=>
  intro k j a b x y G tl aP hj N aE W;obtain⟨j,rfl⟩:∃n,j=n+1:=⟨j-1,by exact ce (aR (cm j 1)<|by simp+arith)<|aR (a4<|bx<|show 1<=j from aR hj<|by simp+arith)<|by simp+arith⟩;refine ea (uZ (d:=247) (H:=aY a b::(G++[.list<|iP et])) (i:=G.length+1) (l:=iP et) rfl N cU (by grind) (by decide)<|by decide) λv a1 b1 U ab av=>aZ (yJ U) λt ht ae=>?_;clear U;subst ae;have h:CP t=true:=iD N0 ht;have h:t.2.length<=15:=bE<|show Nat.ble t.2.length 15=true from h;have aa:=(r' ht).2.1;obtain⟨J,D,f,C,T,E,z,I,h4⟩:=ih (k+1) j a1 b1 (x++t.1) (y++t.2) (G++[.list<|iP et]) _ (ce (aR (a4 aP)<|by simp+arith)<|aR (a4 aP.symm)<|by simp+arith) (eX ‹_›) ab (by refine Y a0 ?_;exact a7 aE aa<|by simp+arith)<|by refine Y a0 ?_;exact a7 W h<|by simp+arith
  refine uN (t::J) D f C T (λu m=>(bC.mp m).elim (λe=>e▸ht)<|E u) (az (·+1) z) I<|(QU (O:=ay 249) (j:=j+1) (dw<|aR (a4 aP)<|by simp+arith) av (a7 aE aa<|by simp+arith)<|a7 W h<|by simp+arith).trans<|h4.trans<|Y (bq ..)<|Y (bq ..) ?_;rfl
def Sq(k:H[i]? =some (aY a b))(U:b<2147483647):∃J N x,(∀t∈J,t∈et)/\J.length<=5/\J≠[]/\x<2147483647/\ay 250 none (.fn 1126) [.ref i] H=some (.ok (.tup [.str<|docOf<|cO J,.ref H.length])<|H.set i (aY N x)++[.list<|aD<|eR<|dW J]):=by
 refine ea (nL (d:=248) (i:=0) (t:=5) (H:=[aY a b]) rfl U (by decide)<|by decide) λn a1 b1 u W e=>?_;have mx:∀{n:Nat},n<=2000->n<=bf:=λh=>as h<|by decide
 refine NR (UF (n:=1+n) (1+n) 0 199959 a1 b1 [] [] [] [] (eT _) (aR u<|by simp+arith) W (by refine Y hA ?_;grind)<|by refine Y hA ?_;omega) λJ a2 y G tl E z I T=>?_;have lc:=(rB E).2;refine GB J a2 y E (a7 u (a4 z)<|by simp+arith) (λC=>by rw[C]at z;simp at z;exact km 0<|aR (a4 z.symm)<|by simp+arith) I ?_;have g:bP tab (ay 249) none (.blt .range) [.int (1+n:Nat)] [aY a1 b1]=some (.ok (.an 0 (1+n:Nat)) [aY a1 b1]):=by
  have:=mT (O:=ay 249) (n:=1+n) (H:=[aY a1 b1])<|mx<|aR u<|by simp+arith
  exact this
 have r:=Lb (O:=ay 249) (j:=199940) (a:=a) (b:=b) (a2:=a2) (c2:=y) e g (mz<|mx<|aR u<|by simp+arith) T<|by show(cO J).length<=1000;grind
 exact(di (d:=249) rfl rfl).trans<|Ci (X:=λD H=>aF NN tab (ay 249) none (.fn 1126) D H) (w:=[]) (f:=λn=>.tup [.str<|docOf<|cO J,.ref n]) k jM .nil jM (λ_=>rfl) (λ_ _=>rfl) cU (.list<|g4 _) r
def B7{r:MS}(e:run (gZ (tv T O n) c f loc H)=r):cS (ev T O n) c f loc H=r:=by exact Y e.symm<|Y (kj (oW T O n) ..) rfl
abbrev ng:List Stmt:=(qm tab 1081).body
abbrev lP(a:Addr)(C:Int):Loc:=[(jT,.fn a),(eZ,.int ((0:Nat):Int)),(vy,.int C)]
section
variable{n:Nat}
def TE(hm:jX C (-((1:Nat):Int)-C)=(n:Int))(y:du (n:Int) 1000000000000000000=b)(f:z=aB b 0 1):∃ag,cS (ev tab O<|j+60) (dh 1081) (ng.drop 2) (lP a C) H=some (.ok (.ret<|.ref H.length) ag<|H++[aY (n*z)<|vE n]):=by
 have k:bP tab O none (.blt .max) [.int C,.int<|-((1:Nat):Int)-C] H=some (.ok (.int n) H):=by show rt (V.int<|jX C<|-((1:Nat):Int)-C) _=_;exact Y hm rfl
 have e1:=oE (a:=n) (t:=2147483629) (H:=H)<|by decide
 have u:=x2 (a:=n%2147483629+0+0+17) (b:=48271) (H:=H)<|fj (l7 (gt<|nN n (by decide:0<2147483629)) 17)<|by decide
 have x:=oE (a:=(n%2147483629+0+0+17)*48271) (t:=2147483647) (H:=H)<|by decide
 clear hm;refine⟨[(jT,.fn a),(eZ,.int ((0:Nat):Int)),(vy,.int C),(Iy,.int (n:Nat)),(OH,.int (vE n:Nat))],?_⟩;rcases b
 .obtain rfl:z=1:=f;have h:=Em (a:=n) (z:=1) (H:=H)<|by decide
  exact B7<|sk 9<|aj Q.m k rfl<|sk 5<|aj Q.m e1 rfl<|sk 9<|aj Q.m u rfl<|sk 1<|aj Q.m x rfl<|sk 5<|aj (λb=>Q.c<|some<|!b) y rfl<|sk 1<|aj Q.m h rfl rfl
 .obtain rfl:z=0:=f;have h:=Em (a:=n) (z:=0) (H:=H)<|by decide
  exact B7<|sk 9<|aj Q.m k rfl<|sk 5<|aj Q.m e1 rfl<|sk 9<|aj Q.m u rfl<|sk 1<|aj Q.m x rfl<|sk 5<|aj (λb=>Q.c<|some<|!b) y rfl<|sk 1<|aj Q.m h rfl rfl
end
noncomputable abbrev QV:Str:=⟨#[101,110,116,101,114]⟩
noncomputable abbrev JZ:Str:=⟨#[97,100,100]⟩
noncomputable abbrev PL:Str:=⟨#[105,115,95,117,110,112,97,114,115,101,100]⟩
noncomputable abbrev QG:Str:=⟨#[105,115,95,111,117,116,101,114]⟩
noncomputable abbrev Fh:Str:=⟨#[110,111,116,97,116,105,111,110]⟩
noncomputable abbrev Pp:Str:=⟨#[116,101,120,116,95,111,102]⟩
noncomputable abbrev DX:Str:=⟨#[114,101,102,101,114,101,110,99,101]⟩
noncomputable abbrev Uk:Str:=⟨#[114,101,112,108,97,99,101,109,101,110,116]⟩
noncomputable abbrev R6:Str:=⟨#[112,117,116,95,105,110]⟩
noncomputable abbrev O0:Str:=⟨#[108,101,97,118,101]⟩
noncomputable abbrev x':Str:=⟨#[116,97,107,101]⟩
noncomputable abbrev Pg:Str:=⟨#[102,101,101,100,95,112,108,97,105,110]⟩
noncomputable abbrev G8:Str:=⟨#[115,121,115,116,101,109]⟩
section
variable{O:ap}{H:aq}{l m:Nat}{tx:List Nat}{v:V}
abbrev dC(i:Nat)(m:Str)(H:aq)(v:V):Prop:=mW tab (.ref i) m H=some (.ok v H)
abbrev eP(i z:Nat)(O:ap):Option (List V->aq->M V):=some λD H=>dU tab O none z (.ref i::D) H
abbrev n5(i:Nat)(m:Str):Option (List V->aq->M V):=some λD H=>ob (dp H[i]?) λl=>ez m i l D H
def LB(f1:dC g gE H<|.ref q)(h:cM .In (.str x) (.ref q) H=some false)(k:bP tab O none (.blt .len) [.ref q] H=some (.ok (.int (n:Nat)) H))(f4:dC g el H<|.ref l)(y:dC l iG H<|.int ((400:Nat):Int))(z:Nat.blt n 400=true)(u:dx tab O none (.ref q) hX H=n5 q hX)(C:ob (dp H[q]?) (λl=>ez hX q l [.str x] H)=some (.ok .none f)):Do j O 360 [.ref g,.str x] H .none f:=by exact am [(bk,V.ref g),(i9,V.str x)] rfl<|sk 2<|aj Q.m f1 rfl<|aj Q.c h rfl<|sk 3<|aj Q.m f1 rfl<|aj Q.m k rfl<|sk 1<|aj Q.m f4 rfl<|aj Q.m y rfl<|aj (λb=>Q.c<|some<|!b) z rfl<|sk 2<|aj Q.m f1 rfl<|aj Q.g u rfl<|sk 1<|aj Q.m C rfl rfl
def Nk(f1:dC g gT H<|.int (s:Nat))(e:bin .Add (.int (s:Nat)) (.int (m:Nat)) H=some (.ok (.int (n:Nat)) H))(h:H[g]? =some (.inst 377 [(el,.ref l),(gT,.int (s:Nat)),(gE,.ref q)]))(k:∀loc,jA tab gT (.int (n:Nat)) loc g H (.inst 377 [(el,.ref l),(gT,.int (s:Nat)),(gE,.ref q)])=some (.ok .next loc f))(f4:dC g gT f<|.int (n:Nat))(y:dC g el f<|.ref l)(z:dC l iQ f<|.int ((100000:Nat):Int))(u:Nat.blt 100000 n=false):Do j O 353 [.ref g,.int (m:Nat)] H .none f:=by exact am [(bk,V.ref g),(Tl,V.int ↑m)] rfl<|sk 1<|aj Q.m f1 rfl<|sk 1<|aj Q.m e rfl<|sk 1<|aj Q.o h rfl<|aj Q.s (k _) rfl<|sk 1<|aj Q.m f4 rfl<|sk 1<|aj Q.m y rfl<|aj Q.m z rfl<|aj (λb=>Q.c<|some b) u rfl rfl
def SD(f1:dx tab O none (.ref g) QV H=eP g 360 O)(av:O none (.fn 360) [.ref g,.str x] H=some (.ok .none f))(h:dx tab O none (.ref g) JZ f=eP g 353 O)(aG:O none (.fn 353) [.ref g,.int (tx.length:Nat)] f=some (.ok .none u)):Do j O 374 [.ref g,.str x,.str tx] H .none u:=by exact am [(bk,V.ref g),(i9,V.str x),(bc,V.str tx)] rfl<|sk 1<|aj Q.g f1 rfl<|sk 1<|aj Q.m av rfl<|sk 1<|aj Q.g h rfl<|sk 3<|aj Q.m aG rfl rfl
def KX(f1:dC g gE H<|.ref q)(u:dx tab O none (.ref q) kk H=n5 q kk)(h:ob (dp H[q]?) (λl=>ez kk q l [] H)=some (.ok v f)):Do j O 367 [.ref g] H .none f:=by exact am [(bk,V.ref g)] rfl<|sk 1<|aj Q.m f1 rfl<|aj Q.g u rfl<|aj Q.m h rfl rfl
def D8:Do j O 332 [.str<|101::ds] H .none H:=by exact am [(i9,V.str<|101::ds)] rfl rfl
def Mv(av:O none (.fn 332) [.str x] H=some (.ok .none H)):Do j O 967 [.str x] H .none H:=by exact am [(i9,V.str x)] rfl<|sk 2<|aj Q.m av rfl rfl
def NZ(f1:dC t jH H<|.ref d)(h:cM .NotIn (.str x) (.ref d) H=some false)(k:nW (.ref d) (.str x) H=some (.ok (.ref a) H)):Do j O 1018 [.ref t,.str x] H (.ref a) H:=by exact am [(bk,V.ref t),(i9,V.str x)] rfl<|sk 2<|aj Q.m f1 rfl<|aj Q.c h rfl<|sk 2<|aj Q.m f1 rfl<|sk 1<|aj Q.m k rfl rfl
def LO(f1:dC a ut H<|.str tx):Do j O 946 [.ref a] H (.bool false) H:=by exact am [(bk,V.ref a)] rfl<|sk 1<|aj Q.m f1 rfl rfl
def Kq(f1:dC a Fh H .none):Do j O 953 [.ref a] H (.bool false) H:=by exact am [(bk,V.ref a)] rfl<|sk 1<|aj Q.m f1 rfl rfl
def QK(f1:dx tab O none (.ref a) PL H=eP a 953 O)(av:O none (.fn 953) [.ref a] H=some (.ok (.bool false) H))(h:dx tab O none (.ref a) QG H=eP a 946 O)(aG:O none (.fn 946) [.ref a] H=some (.ok (.bool false) H))(k:dC a ut H<|.str tx):Do j O 1046 [.ref t,.ref a] H (.str tx) H:=by exact am [(bk,V.ref t),(yC,V.ref a)] rfl<|sk 1<|aj Q.g f1 rfl<|aj Q.m av rfl<|sk 2<|aj Q.g h rfl<|aj Q.m aG rfl<|sk 2<|aj Q.m k rfl rfl
def NK(av:O none (.fn 967) [.str x] H=some (.ok .none H))(f1:dx tab O none (.ref t) yC H=eP t 1018 O)(aG:O none (.fn 1018) [.ref t,.str x] H=some (.ok (.ref a) H))(h:dx tab O none (.ref t) Pp H=eP t 1046 O)(da:O none (.fn 1046) [.ref t,.ref a] H=some (.ok (.str tx) H)):Do j O 1053 [.ref t,.str x] H (.str tx) H:=by exact am [(bk,V.ref t),(i9,V.str x)] rfl<|sk 2<|aj Q.m av rfl<|sk 5<|aj Q.g h rfl<|sk 1<|aj Q.g f1 rfl<|sk 1<|aj Q.m aG rfl<|aj Q.m da rfl rfl
noncomputable abbrev C0(f:List<|Str×V):au:=.inst 828 f
def GV(h:∀o:au,(H++[o])[H.length]? =some o)(u:∀loc,jA tab eG (.ref t) loc H.length (H++[C0 []]) (C0 [])=some (.ok .next loc<|H++[C0 [(eG,.ref t)]]))(x:∀loc,jA tab eU (.ref g) loc H.length (H++[C0 [(eG,.ref t)]]) (C0 [(eG,.ref t)])=some (.ok .next loc<|H++[C0 [(eG,.ref t),(eU,.ref g)]]))(k:∀o p:au,(H++[o]++[p])[H.length]? =some o)(y:∀loc,jA tab iN (.ref (H++[C0 [(eG,.ref t),(eU,.ref g)]]).length) loc H.length (H++[C0 [(eG,.ref t),(eU,.ref g)]]++[.list []]) (C0 [(eG,.ref t),(eU,.ref g)])=some (.ok .next loc f)):Do j O 783 [.ref H.length,.ref t,.ref g] (H++[C0 []]) .none f:=by exact am [(bk,V.ref<|List.length H),(eG,V.ref t),(eU,V.ref g)] rfl<|sk 2<|aj Q.o (h _) rfl<|aj Q.s (u _) rfl<|sk 2<|aj Q.o (h _) rfl<|aj Q.s (x _) rfl<|sk 1<|aj Q.o (k _ _) rfl<|aj Q.s (y _) rfl rfl
def RR(h:bin .Add (.str []) (.str tx) [ax [] 0 0 [] .none]=some (.ok (.str tx) [ax [] 0 0 [] .none])):Do j O 589 [.ref 0,.str tx] [ax [] 0 0 [] .none] .none [ax tx 0 0 [] .none]:=by exact am [(bk,V.ref 0),(bc,V.str tx)] rfl<|sk 3<|aj Q.m h rfl rfl
end
noncomputable abbrev D0:Str:=⟨#[101,110,116,105,116,121,95,101,118,101,110,116,115]⟩
abbrev lE(c:Nat)(tx:List Nat)(B P F:Nat)(v:V):Loc:=[(bk,.ref c),(bc,.str tx),(b7,.int 0),(Dg,.ref B),(la,.ref P),(pX,.ref F),(B0,v)]
noncomputable abbrev pU:List Nat:=[101,110,116,105,116,105,101,115,32,115,116,97,110,100,32,116,111,111,32,100,101,101,112,32,119,105,116,104,105,110,32,111,110,101,32,97,110,111,116,104,101,114]
section
variable{O:ap}{H f u h I:aq}{c g q t n B P F i:Nat}{tx ds:List Nat}{v:V}
def FM(av:O none (.fn 762) [.str tx,.int 0] H=some (.ok .none H)):Do j O 790 [.ref c,.str ao,.str tx,.int 0] H (.ref H.length) (H++[.list [.tup [.str ao,.str tx]]]):=by exact am [(bk,V.ref c),(eF,V.str ao),(bc,V.str tx),(b7,V.int 0)] rfl<|sk 6<|aj Q.m av rfl rfl
def No(e:il (.str tx) (some<|.int ((1:Nat):Int)) (some<|.int<|-1) H=some (.ok (.str x) H))(z:dx tab O none (.ref c) DX H=eP c 818 O)(av:O none (.fn 818) [.ref c,.str x,.int 0] H=some (.ok v f)):Do j O 790 [.ref c,.str dL,.str tx,.int 0] H v f:=by exact am [(bk,V.ref c),(eF,V.str dL),(bc,V.str tx),(b7,V.int 0)] rfl<|sk 7<|aj Q.g z rfl<|sk 2<|aj Q.m e rfl<|sk 1<|aj Q.m av rfl rfl
def HC(e:il (.str tx) (some<|.int ((1:Nat):Int)) (some<|.int<|-1) H=some (.ok (.str x) H))(z:dx tab O none (.ref c) DX H=eP c 818 O)(av:O none (.fn 818) [.ref c,.str x,.int 0] H=some (.exc i f)):aF (j+60) tab O none (.fn 790) [.ref c,.str dL,.str tx,.int 0] H=some (.exc i f):=by exact am [(bk,V.ref c),(eF,V.str dL),(bc,V.str tx),(b7,V.int 0)] rfl<|sk 7<|aj Q.g z rfl<|sk 2<|aj Q.m e rfl<|sk 1<|aj Q.m av rfl rfl
section
variable(av:O none (.fn 105) [.str (101::ds)] H=some (.ok (.bool true) H))(aG:O none (.fn 332) [.str (101::ds)] H=some (.ok .none H))(f1:dC c eG H (.ref t))(y:dx tab O none (.ref t) Uk H=eP t 1053 O)(da:O none (.fn 1053) [.ref t,.str (101::ds)] H=some (.ok (.str tx) H))(z:dC c eU H (.ref g))(f4:dx tab O none (.ref g) R6 H=eP g 374 O)(fN:O none (.fn 374) [.ref g,.str (101::ds),.str tx] H=some (.ok .none f))(C:dC c eU f (.ref g))(D:dC g gE f (.ref q))(E:bP tab O none (.blt .len) [.ref q] f=some (.ok (.int (n:Nat)) f))
include av aG f1 y da z f4 fN C D E
theorem MQ(k:Nat.blt 60 n=false)(x:dx tab O none (.ref c) D0 f=eP c 825 O)(N:O none (.fn 825) [.ref c,.str tx,.int 0] f=some (.ok (.ref r) u))(I:dC c eU u<|.ref g)(J:dx tab O none (.ref g) O0 u=eP g 367 O)(T:O none (.fn 367) [.ref g] u=some (.ok .none h)):Do j O 818 [.ref c,.str<|101::ds,.int 0] H (.ref r) h:=by exact am [(bk,V.ref c),(i9,V.str<|101::ds),(b7,V.int 0)] rfl<|sk 6<|aj Q.m av rfl<|sk 3<|aj Q.m aG rfl<|sk 5<|aj Q.m f1 rfl<|aj Q.g y rfl<|sk 1<|aj Q.m da rfl<|sk 2<|aj Q.m z rfl<|aj Q.g f4 rfl<|sk 2<|aj Q.m fN rfl<|sk 2<|aj Q.m C rfl<|aj Q.m D rfl<|aj Q.m E rfl<|sk 1<|aj (λb=>Q.c<|some b) k rfl<|sk 2<|aj Q.g x rfl<|sk 2<|aj Q.m N rfl<|sk 2<|aj Q.m I rfl<|aj Q.g J rfl<|aj Q.m T rfl rfl
theorem Ph(h:Nat.blt 60 n=false)(k:dx tab O none (.ref c) D0 f=eP c 825 O)(x:O none (.fn 825) [.ref c,.str tx,.int 0] f=some (.exc i u)):aF (j+60) tab O none (.fn 818) [.ref c,.str<|101::ds,.int 0] H=some (.exc i u):=by exact am [(bk,V.ref c),(i9,V.str<|101::ds),(b7,V.int 0)] rfl<|sk 6<|aj Q.m av rfl<|sk 3<|aj Q.m aG rfl<|sk 5<|aj Q.m f1 rfl<|aj Q.g y rfl<|sk 1<|aj Q.m da rfl<|sk 2<|aj Q.m z rfl<|aj Q.g f4 rfl<|sk 2<|aj Q.m fN rfl<|sk 2<|aj Q.m C rfl<|aj Q.m D rfl<|aj Q.m E rfl<|sk 1<|aj (λb=>Q.c<|some b) h rfl<|sk 2<|aj Q.g k rfl<|sk 2<|aj Q.m x rfl rfl
theorem OQ(h:Nat.blt 60 n=true)(k:bP tab O none (.fn 174) [.str pU] f=some (.ok (.ref i) u))(x:∀loc,m7 tab none loc (.ref i) u=some (.exc i loc u)):aF (j+60) tab O none (.fn 818) [.ref c,.str<|101::ds,.int 0] H=some (.exc i u):=by exact am [(bk,V.ref c),(i9,V.str<|101::ds),(b7,V.int 0)] rfl<|sk 6<|aj Q.m av rfl<|sk 3<|aj Q.m aG rfl<|sk 5<|aj Q.m f1 rfl<|aj Q.g y rfl<|sk 1<|aj Q.m da rfl<|sk 2<|aj Q.m z rfl<|aj Q.g f4 rfl<|sk 2<|aj Q.m fN rfl<|sk 2<|aj Q.m C rfl<|aj Q.m D rfl<|aj Q.m E rfl<|sk 1<|aj (λb=>Q.c<|some b) h rfl<|sk 2<|aj Q.m k rfl<|aj Q.s (x _) rfl rfl
end
section
variable(f1:dC c eG H (.ref t))(y:dC c eU H (.ref g))(av:bP tab O none (.fn 828) [.ref t,.ref g] H=some (.ok (.ref B) f))(aG:bP tab O none (.fn 620) [] f=some (.ok (.ref P) u))(z:dx tab O none (.ref P) Pg u=eP P 589 O)(da:O none (.fn 589) [.ref P,.str tx] u=some (.ok .none h))(f4:dx tab O none (.ref P) x' (h++[.list []])=eP P 610 O)(fN:O none (.fn 610) [.ref P,.bool true] (h++[.list []])=some (.ok v I))
include f1 y av aG z da f4 fN
theorem So(w:d2 O (j+59) 825 5 (lE c tx B P h.length v) I=some (.ok .next (lE c tx B P h.length .none) k))(C:dC B iN k<|.ref N)(D:cM .NotEq (.ref N) (.ref k.length) (k++[.list []])=some false):Do j O 825 [.ref c,.str tx,.int 0] H (.ref h.length) (k++[.list []]):=by exact am [(bk,V.ref c),(bc,V.str tx),(b7,V.int 0)] rfl<|sk 2<|aj Q.m f1 rfl<|sk 1<|aj Q.m y rfl<|aj Q.m av rfl<|sk 2<|aj Q.m aG rfl<|sk 2<|aj Q.g z rfl<|sk 1<|aj Q.m da rfl<|sk 2<|aj Q.g f4 rfl<|aj Q.m fN rfl<|sk 1<|aj Q.s w rfl<|sk 1<|aj Q.m C rfl<|aj Q.c D rfl rfl
theorem SS(w:d2 O (j+59) 825 5 (lE c tx B P h.length v) I=some (.exc i (lE c tx B P h.length v) k)):aF (j+60) tab O none (.fn 825) [.ref c,.str tx,.int 0] H=some (.exc i k):=by exact am [(bk,V.ref c),(bc,V.str tx),(b7,V.int 0)] rfl<|sk 2<|aj Q.m f1 rfl<|sk 1<|aj Q.m y rfl<|aj Q.m av rfl<|sk 2<|aj Q.m aG rfl<|sk 2<|aj Q.g z rfl<|sk 1<|aj Q.m da rfl<|sk 2<|aj Q.g f4 rfl<|aj Q.m fN rfl<|sk 1<|aj Q.s w rfl rfl
end
section
variable(f1:dx tab O none (.ref F) jc H=n5 F jc)(y:dx tab O none (.ref B) GJ H=eP B 790 O)
include f1 y
theorem P4(av:O none (.fn 790) [.ref B,.str kd,.str x,.int 0] H=some (.ok (.ref r) f))(e:ob (dp f[F]?) (λl=>ez jc F l [.ref r] f)=some (.ok .none u))(z:dx tab O none (.ref P) x' u=eP P 610 O)(da:O none (.fn 610) [.ref P,.bool true] u=some (.ok v h)):d2 O (j+40) 825 5 (lE c tx B P F<|pv kd x 0) H=d2 O (j+39) 825 5 (lE c tx B P F v) h:=by exact fz<|sk 4<|aj Q.g f1 rfl<|sk 1<|aj Q.g y rfl<|sk 4<|aj Q.m av rfl<|aj Q.m e rfl<|sk 1<|aj Q.g z rfl<|aj Q.m da rfl rfl
theorem Lf(av:O none (.fn 790) [.ref B,.str kd,.str x,.int 0] H=some (.exc i f))(z:f[i]? =some (.exc 174 a1 a2)):d2 O (j+40) 825 5 (lE c tx B P F<|pv kd x 0) H=some (.exc i (lE c tx B P F<|pv kd x 0) f):=by exact fz<|sk 4<|aj Q.g f1 rfl<|sk 1<|aj Q.g y rfl<|sk 4<|aj Q.m av rfl<|aj Q.o z rfl rfl
end
noncomputable abbrev jo:au:=.exc 174 none none
noncomputable abbrev xD(i:Nat):au:=.exc 174 (some i) none
def R8:aF (j+60) tab O none (.fn 126) [.ref H.length,.str k] (H++[jo])=some (.ok .none<|H++[xD<|H.length+1,.dict [(dN,.str k)]]):=by
 have e:m9 tab [.ref H.length,.str k] (H++[jo])=some (.ok .none<|H++[jo]):=by show ob (H++[jo])[H.length]? _=_;exact Y cU rfl
 have g:(H++[jo])[H.length]? =some jo:=cU;have s:∀loc,jA tab dN (.str k) loc H.length (H++[jo]) jo=some (.ok .next loc<|H++[xD<|H.length+1,.dict [(dN,.str k)]]):=λloc=>by show some (RS.ok .next loc<|(H++[jo]).set H.length (.exc 174 (some (H++[jo]).length) none)++[.dict [(dN,.str k)]])=_;exact Y nV<|Y a0<|Y (bq ..) rfl
 exact am [(bk,V.ref<|List.length H),(dN,V.str k)] rfl<|sk 4<|aj Q.m e rfl<|sk 2<|aj Q.o g rfl<|aj Q.s (s _) rfl rfl
def RM:d2 O (j+40) 825 5 (lE c tx B P F .none) H=some (.ok .next (lE c tx B P F .none) H):=by exact fz rfl
end
section
variable{z:Nat}
def d3(h:H[i]? =some (.inst E f))(aP:bi E tab.cls=some k)(he:aB k.exc none (xR m k i H<|aC m f)=some (.ok v H)):dC i m H v:=by show ob H[i]? _=_;refine Y h ?_;show ob (bi E tab.cls) _=_;exact Y aP he
def d5(h:H[i]? =some (.inst E f))(aP:bi E tab.cls=some k)(j:jg (aC m f)=true)(u:k.exc=false)(x:aC m k.eE=some z):dx tab O none (.ref i) m H=eP i z O:=by show ob H[i]? _=_;refine Y h ?_;show b3 (jg<|aC m f) (ob (bi E tab.cls) _)=_;refine Y j<|Y aP ?_;show aB k.exc none (ob (aC m k.eE) _)=_;exact Y u<|Y x rfl
def tL(h:H[i]? =some (.list l))(f:jW m=true):dx tab O none (.ref i) m H=n5 i m:=by show ob H[i]? _=_;refine Y h ?_;show b3 (jW m) _=_;exact Y f rfl
end
def m0(l q s:Nat):au:=.inst 377 [(el,.ref l),(gT,.int (s:Nat)),(gE,.ref q)]
def LL(H:aq)(g l q:Nat)(s:Nat)(op:List V)(G:aq):aq:=(H.set g<|m0 l q s).set q (.list op)++G
noncomputable def Dx:au->Nat|.inst E _=>E+5|.list _=>0|.exc ..=>1|.dict _=>2|.cell _=>3
structure Gro(H:aq)(g l q:Nat):Prop where
 hg:H[g]? =some (m0 l q 0)
 bo:H[q]? =some (.list [])
section
variable{H:aq}{g l q:Nat}(B:Gro H g l q){i:Nat}
include B
theorem Gro.gl:g<H.length:=(cc.mp B.hg).1
theorem Gro.ql:q<H.length:=(cc.mp B.bo).1
theorem Gro.ne:q≠g:=λe=>by have h:=az dp B.bo;rw[e,B.hg]at h;exact aW h
omit B in
theorem lN:(LL H g l q s op G).length=H.length+G.length:=by unfold LL;exact Y a0<|Y ef<|Y ef rfl
omit B in
theorem wQ(h:i<H.length):(LL H g l q s op G)[i]? =((H.set g<|m0 l q s).set q<|.list op)[i]? :=dO<|by refine Y ef<|Y ef ?_;exact h
theorem i3:(LL H g l q s op G)[g]? =some (m0 l q s):=Y (wQ B.gl)<|Y (nP B.ne)<|Y (pn B.gl) rfl
theorem oP:(LL H g l q s op G)[q]? =some (.list op):=by exact Y (wQ B.ql)<|Y (pn<|by rw[ef];exact B.ql) rfl
theorem j7(h:H[i]? =some o)(n:(Nat.beq (Dx o) 382||Nat.beq (Dx o) 0)=false):(LL H g l q s op G)[i]? =some o:=by
 have f:g≠i:=λe=>by rw[<-e,B.hg]at h;obtain rfl:=aQ h;exact ff<|n.symm
 have j:q≠i:=λe=>by rw[<-e,B.bo]at h;obtain rfl:=aQ h;exact ff<|n.symm
 exact Y (wQ (cc.mp h).1)<|Y (nP j)<|Y (nP f)<|Y h rfl
omit B in
theorem QM:(LL H g l q s op G)[H.length+i]? =G[i]? :=by unfold LL;exact Y (dr<|by rw[ef,ef];exact bK ..)<|Y ef<|Y ef<|Y (ew ..) rfl
theorem NU:(LL H g l q s op G).set g (m0 l q J)=LL H g l q J op G:=by unfold LL;exact Y (List.set_append_left _ _<|by rw[ef,ef];exact B.gl)<|Y (List.set_comm _ _ B.ne)<|Y (List.set_set ..)<|Y (List.set_comm _ _ B.ne.symm) rfl
theorem zB:(LL H g l q s op G).set q (.list f)=LL H g l q s f G:=by unfold LL;exact Y (List.set_append_left _ _<|by rw[ef,ef];exact B.ql)<|Y (List.set_set ..) rfl
omit B in
theorem Gr:(LL H g l q s op G).set (H.length+i) o=LL H g l q s op (G.set i o):=by unfold LL;exact Y (pT _ _<|by rw[ef,ef];exact bK ..)<|Y ef<|Y ef<|Y (ew ..) rfl
omit B in
theorem qX:LL H g l q s op G++X=LL H g l q s op (G++X):=bq ..
omit B in
theorem pQ:(LL H g l q s op<|G++X)[H.length+(G.length+i)]? =X[i]? :=by exact Y QM<|Y (dr<|bK ..)<|Y (ew ..) rfl
omit B in
theorem Te:(LL H g l q s op<|G++X).set (H.length+(G.length+i)) o=LL H g l q s op (G++X.set i o):=by exact Y Gr<|Y (pT _ _<|bK ..)<|Y (ew ..) rfl
end
def fu(hd:Option Nat)(a:V)(l:List Addr):Option Addr:=match a with|.fn z=>(match bu z l with|true=>lO hd z|false=>none)|_=>none
def Qx(O:ap):ap:=λhd a D H=>match fu hd a [818,825,790]with
 |some _=>aF NN tab O hd a D H
 |none=>match fu hd a [105,575,589,610]with|some z=>bD (λD H=>aF NN tab (ay 19) none (.fn z) D H) D H|none=>ay 20 hd a D H
def b5(d:Nat):ap:=Nat.rec (λ_ _ _ _=>none) (λ_ O=>Qx O) d
def s7{hd:Option Nat}(e:fu hd a l=some z):hd=none/\a=.fn z:=by
 induction a using V.casesOn with
 |fn g=>have e:(match bu g l with|true=>lO hd g|false=>none)=some z:=e;revert e;rcases h:bu g l;intro e;exact aW e;intro e;rcases hd;obtain rfl:=aQ e;exact⟨rfl,rfl⟩;exact aW e
 |_=>exact aW e
section
variable{I:Program}{K:al}{B:Frag}(G:cu K tab B)(j:eM K tab)(M:fM I K)(af:hF I K)
include G j M af
theorem Um:∀d,de I K (61+d) (b5 d):=by
 intro d;induction d with
 |zero=>exact⟨λ_ _ _ _ e=>nomatch e⟩
 |succ d N=>
  have J:=N;refine jF (mf (T:=tab) G j M af J NN) λU W _ _=>⟨λ{F loc f H s a u D us r} C R E q e=>?_⟩;have e:(match fu F.hd a [818,825,790]with
   |some _=>aF NN tab (b5 d) F.hd a D H
   |none=>match fu F.hd a [105,575,589,610]with|some z=>bD (λD H=>aF NN tab (ay 19) none (.fn z) D H) D H|none=>ay 20 F.hd a D H)=some r:=e
  revert e;rcases h:fu F.hd a [818,825,790]
  .intro e;have e:(match fu F.hd a [105,575,589,610]with|some z=>bD (λD H=>aF NN tab (ay 19) none (.fn z) D H) D H|none=>ay 20 F.hd a D H)=some r:=e
   revert e;rcases k:fu F.hd a [105,575,589,610]with _|z;intro e;exact(uF G j M af 20).call (C.mono<|bK 61 _) R E q e;intro e;refine aS (s7 k) λy O=>?_;clear h k;subst O;exact fF (s6 G j M af (uF G j M af 19) (z:=z) e (C.mono<|bK 61 _) y R E q) λ_ _ x=>x.weak
  intro e;exact(ta G U W).call C R E q e
end
def b6(k:Nat):List Nat:=101::hI 30 k []
def bR(k:Nat):List Nat:=match k with|0=>[120]|k+1=>38::(b6 k++[59])
def Fb(k:Nat):List Nat:=match k with|0=>ao|_+1=>dL
noncomputable def j3(z:Nat->Bool):Nat->Bool|0=>true|n+1=>match z n with|true=>j3 z n|false=>false
def ox:∀{n},j3 z n=true->∀k,k<n->z k=true:=by
 intro n;induction n with
 |zero=>intro _ k h;exact absurd h<|hy k
 |succ n f=>intro e k h;have e:(match z n with|true=>j3 z n|false=>false)=true:=e;revert e;rcases y:z n;intro e;exact ff e;intro e;rcases dE k n with C|C;exact f e k C;exact Y (ce (eX h) C) y
def BX(i k:Nat):Bool:=match ar (b6 i) (b6 k)with|true=>Nat.beq i k|false=>!Nat.beq i k
def LF(k:Nat):Bool:=j3 (BX k) 64
def t'(o:Option V)(a:V):Bool:=match o with|some b=>iU b a|none=>false
def A'(k:Nat):Bool:=t' (g0 (.str<|bR<|k+1) (some<|.int ((1:Nat):Int))<|some<|.int<|-1)<|.str<|b6 k
noncomputable def Q8:Seen->Bool|.no=>true|_=>false
def BI(k:Nat):Bool:=iU (oX 0 (bR k)<|bM (bR k) .no true) (pv (Fb k) (bR k) 0)&&(Nat.beq (bM (bR k) .no true).2.1 (bR k).length&&(Q8 (bM (bR k) .no true).2.2&&(c4 (bR k) .no&&Nat.ble (bR k).length 5)))
def KG(x:List Nat):M V:=aF NN tab (ay 19) none (.fn 105) [.str x] []
def vj(m:M V):Bool:=match m with
 |none=>false
 |some q=>match q with|.exc _ _=>false|.ok a _=>iU a<|.bool true
def K4(k:Nat):Bool:=vj<|KG<|b6 k
def Gi:j3 LF 64=true:=by decide+kernel
def G0:j3 A' 64=true:=by decide+kernel
def Q0:j3 BI 64=true:=by decide+kernel
def SE:j3 K4 64=true:=by decide+kernel
def yQ(j:ck w=[])(f:∀ρ,bF ρ w=w)(h:vj (X w [])=true):bD X w H=some (.ok (.bool true) H):=by revert h;rcases e:X w []with _|r;intro h;exact ff h;intro h;rcases r with⟨a,G⟩|_;obtain rfl:=lh h;refine(xZ (J:=[]) (by exact Y j rfl) (by exact Y j rfl)<|by refine Y (f ..) ?_;exact e).trans ?_;show back H [] (.bool true) G (λρ H'=>some<|.ok (bl ρ<|.bool true) H')=_;refine(tD (J:=[]) (kl:=[]) (y:=[]) (H:=H) (x:=G) (b:=.bool true) (by show reach 4000 G (cA G 0) []=some [];cases G<;>rfl) rfl ?_).trans ?_;show(true&&(true&&(true&&(true&&(true&&true)))))=true;rfl;show some (R.ok (V.bool true)<|H++[])=_;exact Y (be ..) rfl;exact ff h
section
variable{n:Nat}
def uj(h:k<64):b5 (d+1) none (.fn 105) [.str<|b6 k] H=some (.ok (.bool true) H):=yQ rfl (λ_=>rfl)<|ox SE k h
def Cb(h:k<64):il (.str<|bR<|k+1) (some<|.int ((1:Nat):Int)) (some<|.int<|-1) H=some (.ok (.str<|b6 k) H):=by have e:=ox G0 k h;unfold A' at e;unfold il;revert e;rcases c:g0 (.str (bR (k+1))) (some (.int ((1:Nat):Int))) (some (.int (-1)))with _|b;intro e;exact ff e;intro e;clear c;obtain rfl:=lh e;rfl
structure pq(x kd:List Nat):Prop where
 v:oX 0 x (bM x .no true)=pv kd x 0
 n:(bM x .no true).2.1=x.length
 s:(bM x .no true).2.2=.no
 o:xd x .no
 l:x.length<=5
def tB(h:k<64):pq (bR k) (Fb k):=by have e:=ox Q0 k h;unfold BI at e;refine zb e λe1 e=>zb e λj e=>zb e λf e=>zb e λu x=>⟨lh e1,cd j,?_,u9 u,bE x⟩;cases c:(bM (bR k) .no true).2.2<;>rw[c]at f<;>first|rfl|exact ff f
def Cv(f:i<64)(h:k<64)(n:i≠k):ar (b6 i) (b6 k)=false:=by have e:=ox (ox Gi i f) k h;unfold BX at e;rcases c:ar (b6 i) (b6 k);rfl;rw[c]at e;exact absurd (cd e) n
def L1:aF NN tab (ay 19) none (.fn 575) [.ref 0] [.inst 620 []]=some (.ok .none [fb]):=oN<|by decide+kernel
def Rk(h:H[i]? =some (.inst 620 [])):b5 (d+1) none (.fn 575) [.ref i] H=some (.ok .none<|H.set i fb):=hB (X:=λD H=>aF NN tab (ay 19) none (.fn 575) D H) (w:=[]) (o:=.inst 620 []) (o':=fb) (G:=[]) h ⟨rfl,λ_=>rfl⟩ .nil (cg (s:=.no)) .none L1
def Gp(aE:x.length<=5)(h:H[i]? =some fb):b5 (d+1) none (.fn 589) [.ref i,.str x] H=some (.ok .none<|H.set i<|ax x 0 0 [] .none):=
 hB (X:=λD H=>aF NN tab (ay 19) none (.fn 589) D H) (w:=[.str x]) (o:=fb) (o':=ax x 0 0 [] .none) (G:=[]) h (cg (s:=.no)) (.cons .str .nil) (cg (s:=.no)) .none
  (RR (O:=ay 19) (j:=199940) (by show aw (cr<|0+x.length) _=_;refine Y (hv<|by rw[eT];exact as aE<|by decide) ?_;rfl))
def Kj(t:pq x kd)(h:H[i]? =some (ax x 0 0 [] .none)):b5 (d+1) none (.fn 610) [.ref i,.bool true] H=some (.ok (pv kd x 0)<|H.set i<|ax x x.length x.length [] .none):=by
 have hm:x.length<=bf:=as t.l<|by decide
 have m:=yg (O:=ay 19) (j:=199940) (p:=0) (h:=[]) (G:=[]) (u:=true) (mi 15) (gU 17) (cX 18) (ll 17) (s:=.no) (x:=x) (k:=0) (r:=x) rfl (bJ _) hm t.o;have e:=hB (X:=λD H=>aF NN tab (ay 19) none (.fn 610) D H) (i:=i) (H:=H) (w:=[.bool true]) h (cg (s:=.no)) (.cons .bool .nil) (cg (bM x .no true).2.2) BW m;refine e.trans<|Y t.v ?_;show some (R.ok _<|H.set i<|ax x (0+(bM x .no true).2.1) (0+(bM x .no true).2.1) [] (bM x .no true).2.2.aA)=_;exact Y t.n<|Y t.s<|Y (eT ..) rfl
def Pn(aE:x.length<=5)(h:H[i]? =some (ax x x.length x.length [] .none)):b5 (d+1) none (.fn 610) [.ref i,.bool true] H=some (.ok .none H):=by
 have hm:x.length<=bf:=as aE<|by decide
 have m:=yg (O:=ay 19) (j:=199940) (p:=x.length) (h:=[]) (G:=[]) (u:=true) (mi 15) (gU 17) (cX 18) (ll 17) (s:=.no) (x:=x) (k:=x.length) (r:=[]) (List.drop_eq_nil_of_le<|ba _) (ba _) hm trivial;have e:=hB (X:=λD H=>aF NN tab (ay 19) none (.fn 610) D H) (i:=i) (H:=H) (w:=[.bool true]) h (cg (s:=.no)) (.cons .bool .nil) (cg (s:=.no)) .none m;refine e.trans ?_;show some (R.ok V.none<|H.set i<|ax x x.length x.length [] .none)=_;exact Y (lr h) rfl
end
def Ar(k:Nat):au:=.inst 956 [(i9,.str<|b6 k),(ut,.str<|bR k),(G8,.none),(Fh,.none)]
def Ej:au:=.inst 921 [(iG,.int ((400:Nat):Int)),(iQ,.int ((100000:Nat):Int))]
structure gA where
 H:aq
 t:Nat
 l:Nat
 g:Nat
 q:Nat
 d:Nat
 o:Nat
 p:Nat
 m:Nat
 a:Nat->Nat
 es:List (Str×V)
structure gA.Ok(U:gA):Prop extends Gro U.H U.g U.l U.q where
 ht:U.H[U.t]? =some (pF U.l U.o U.d U.p)
 hl:U.H[U.l]? =some Ej
 hd:U.H[U.d]? =some (.dict U.es)
 he:∀k,k<U.m->aC ⟨(b6 k).toArray⟩ U.es=some (.ref (U.a k))/\U.H[U.a k]? =some (Ar k)
 hm:U.m<=64
abbrev gA.L(U:gA)(s:Nat)(op:List V)(G:aq):aq:=LL U.H U.g U.l U.q s op G
def Nv:ez kk i l [] H=ob l.getLast? λv=>rt v (H.set i<|.list l.dropLast):=by unfold ez;generalize l.getLast?=o;cases o<;>rfl
section
variable{U:gA}(B:U.Ok){n:Nat}
include B
theorem rb:dC U.g gE (U.L s op G) (.ref U.q):=d3 (i3 B.toGro) rfl rfl
theorem Dt:dC U.g gT (U.L s op G) (.int (s:Nat)):=d3 (i3 B.toGro) rfl rfl
theorem yT:dC U.g el (U.L s op G) (.ref U.l):=d3 (i3 B.toGro) rfl rfl
theorem SI:dC U.l iG (U.L s op G) (.int ((400:Nat):Int)):=d3 (j7 B.toGro B.hl rfl) rfl rfl
theorem Pl:dC U.l iQ (U.L s op G) (.int ((100000:Nat):Int)):=d3 (j7 B.toGro B.hl rfl) rfl rfl
theorem sa:bP tab O none (.blt .len) [.ref U.q] (U.L s op G)=some (.ok (.int (op.length:Nat))<|U.L s op G):=by show iO (U.L s op G)[U.q]? _=_;exact Y (oP B.toGro) rfl
theorem G4(f:op.length<400)(h:fJ x op=some false):ay (d+1) none (.fn 360) [.ref U.g,.str x] (U.L s op G)=some (.ok .none<|U.L s (op++[.str x]) G):=by refine LB (O:=ay d) (j:=199940) (n:=op.length) (rb B) ?_ (sa B) (yT B) (SI B) (dw f) (tL (oP B.toGro) rfl) ?_;show ob (U.L s op G)[U.q]? (wU x)=_;exact Y (oP B.toGro) h;exact Y (oP B.toGro)<|(to<|n1 f<|by decide).trans<|Y (zB B.toGro) rfl
theorem GL(f:s+n<=1000):ay (d+1) none (.fn 353) [.ref U.g,.int (n:Nat)] (U.L s op G)=some (.ok .none<|U.L (s+n) op G):=by
 refine Nk (O:=ay d) (j:=199940) (n:=s+n) (Dt B) rfl (i3 B.toGro) (λloc=>?_) (Dt B) (yT B) (Pl B)<|kK<|as f<|by decide
 show some (RS.ok .next loc<|(U.L s op G).set U.g<|m0 U.l U.q<|s+n)=_;exact Y (NU B.toGro) rfl
theorem v0{tx:List Nat}(f:op.length<400)(h:fJ x op=some false)(k:s+tx.length<=1000):b5 (d+1) none (.fn 374) [.ref U.g,.str x,.str tx] (U.L s op G)=some (.ok .none<|U.L (s+tx.length) (op++[.str x]) G):=SD (O:=ay 19) (j:=199940) (d5 (i3 B.toGro) rfl rfl rfl rfl) (G4 B (d:=18) f h) (d5 (i3 B.toGro) rfl rfl rfl rfl) (GL B (d:=18) k)
theorem Hx:b5 (d+1) none (.fn 367) [.ref U.g] (U.L s (op++[v]) G)=some (.ok .none<|U.L s op G):=by refine KX (O:=ay 19) (j:=199940) (v:=v) (rb B) (tL (oP B.toGro) rfl)<|Y (oP B.toGro)<|Nv.trans<|Y List.getLast?_concat<|Y List.dropLast_concat<|Y (zB B.toGro) ?_;rfl
omit B in
theorem ww:b5 (d+1) none (.fn 332) [.str<|b6 k] H=some (.ok .none H):=D8 (O:=ay 19) (j:=199940)
theorem xk(h:k<U.m):b5 (d+1) none (.fn 1053) [.ref U.t,.str<|b6 k] (U.L s op G)=some (.ok (.str<|bR k)<|U.L s op G):=by
 refine aS (B.he k h) λf u=>?_;have ht:=j7 B.toGro (s:=s) (op:=op) (G:=G) B.ht rfl;have x:=j7 B.toGro (s:=s) (op:=op) (G:=G) u rfl;have hd:=j7 B.toGro (s:=s) (op:=op) (G:=G) B.hd rfl;have y:ay 18 none (.fn 332) [.str<|b6 k] (U.L s op G)=some (.ok .none<|U.L s op G):=D8 (O:=ay 17) (j:=199940);refine NK (O:=ay 19) (j:=199940) (a:=U.a k) (Mv (O:=ay 18) (j:=199940) y) (d5 ht rfl rfl rfl rfl) (NZ (O:=ay 18) (j:=199940) (d:=U.d) (d3 ht rfl rfl) ?_ ?_) (d5 ht rfl rfl rfl rfl)
  (QK (O:=ay 18) (j:=199940) (d5 x rfl rfl rfl rfl) (Kq (O:=ay 17) (j:=199940)<|d3 x rfl rfl) (d5 x rfl rfl rfl rfl) (LO (O:=ay 17) (j:=199940) (tx:=bR k)<|d3 x rfl rfl)<|d3 x rfl rfl)
 show(ob (U.L s op G)[U.d]? (wU<|b6 k)).map (!·)=_;refine Y hd ?_;show(some (aC ⟨(b6 k).toArray⟩ U.es).isSome).map (!·)=_;exact Y f rfl;show ob (ob (U.L s op G)[U.d]? (tJ<|.str<|b6 k)) _=_;refine Y hd ?_;show ob (aC ⟨(b6 k).toArray⟩ U.es) _=_;exact Y f rfl
omit B in
theorem Ib:b5 (d+1) none (.fn 762) [.str [120],.int 0] H=some (.ok .none H):=Co 16 [120] 0 H<|by decide
def fG(U:gA)(n:Nat):au:=.inst 828 [(eG,.ref U.t),(eU,.ref U.g),(iN,.ref n)]
omit B in
theorem MB:bP tab (b5<|d+1) none (.fn 828) [.ref U.t,.ref U.g] (U.L s op G)=some (.ok (.ref<|U.H.length+G.length)<|U.L s op<|G++[fG U<|U.H.length+G.length+1,.list []]):=by have e:=kV (E:=828) (z:=783) (O:=b5<|d+1) (A:=U.L s op G) (D:=[.ref U.t,.ref U.g]) (u:=U.L s op<|G++[fG U<|U.H.length+G.length+1,.list []]) rfl rfl rfl rfl ?_;rw[lN]at e;exact e;refine GV (O:=ay 19) (j:=199940) (H:=U.L s op G) (λo=>cU) (λloc=>?_) (λloc=>?_) (λo p=>?_) λloc=>?_;show some (RS.ok .next loc<|(U.L s op G++[C0 []]).set (U.L s op G).length _)=_;exact Y nV rfl;show some (RS.ok .next loc<|(U.L s op G++[C0 _]).set (U.L s op G).length _)=_;exact Y nV rfl;exact Y (bq ..) iF;show some (RS.ok .next loc<|(U.L s op G++[C0 _]++[au.list []]).set (U.L s op G).length _)=_;exact Y (bq ..)<|Y (pT _ _<|ba _)<|Y (er ..)<|Y a0<|Y lN<|Y qX rfl
omit B in
theorem Jp:bP tab (b5<|d+1) none (.fn 620) [] (U.L s op G)=some (.ok (.ref<|U.H.length+G.length)<|U.L s op<|G++[fb]):=by have e:=kV (E:=620) (z:=575) (O:=b5<|d+1) (A:=U.L s op G) (D:=[]) (u:=U.L s op<|G++[fb]) rfl rfl rfl rfl ?_;rw[lN]at e;exact e;exact(Rk cU).trans<|Y nV<|Y qX rfl
end
abbrev jy:V:=.tup [.str ao,.str [120]]
noncomputable def wt:Nat->Nat|0=>1|k+1=>(bR<|k+1).length+wt k
noncomputable def q8(U:gA):Nat->Nat->aq|0,b=>[fG U<|b+1,.list [],ax (bR 0) (bR 0).length (bR 0).length [] .none,.list [jy],.list [jy],.list []]|k+1,b=>fG U (b+1)::.list []::ax (bR<|k+1) (bR<|k+1).length (bR<|k+1).length [] .none::.list [jy]::(q8 U k (b+4)++[.list []])
def RK:(q8 U k b)[3]? =some (.list [jy]):=by cases k<;>rfl
section
variable{U:gA}(B:U.Ok){s n:Nat}{op:List V}{G X:aq}{b c:Nat}
theorem Sk{F i:Nat}(j:H[F]? =some (.list l))(h:H[i]? =some (.list m))(u:Nat.beq i F=false)(f:l.length+m.length<=1000000):ob (dp H[F]?) (λl=>ez jc F l [.ref i] H)=some (.ok .none<|H.set F<|.list<|l++m):=by refine Y j ?_;show iO H[i]? (λn=>aw (cr (l.length+n.length)&&!Nat.beq i F)<|rt V.none<|H.set F<|.list<|l++n)=_;refine Y h ?_;show aw (cr (l.length+m.length)&&!Nat.beq i F) _=_;exact Y (hv f)<|Y u rfl
def ix(U:gA)(c:Nat)(G:aq):Prop:=∃n,∀s op X,(U.L s op<|G++X)[c]? =some (fG U n)
theorem kH(h:ix U c G){s op}:∃n,(U.L s op G)[c]? =some (fG U n):=by refine aU h λn h=>⟨n,?_⟩;have:=h s op [];rwa [be]at this
theorem HE(h:ix U c G):ix U c (G++X):=by exact aU h λn h=>⟨n,λs op af=>by refine Y (bq ..) ?_;exact h s op<|X++af⟩
abbrev gc(U:gA)(b:Nat)(p:au)(l:List V):aq:=[fG U<|b+1,.list [],p,.list l]
theorem Fk:ix U (U.H.length+G.length) (G++gc U b p l):=⟨b+1,λs op X=>by refine Y (bq ..) ?_;exact pQ (i:=0)⟩
end
section
variable{U:gA}(B:U.Ok){s:Nat}{op:List V}{G X:aq}{d c i:Nat}{x kd:List Nat}
structure SW(U:gA)(d s:Nat)(op:List V)(G:aq)(x kd:List Nat)(c b:Nat):Prop where
 eC:∀{s op X i},(U.L s op (G++X))[b+i]? =X[i]?
 lD:∀{s op X i o},(U.L s op (G++X)).set (b+i) o=U.L s op (G++X.set i o)
 kX:∀{s op X af},U.L s op (G++X)++af=U.L s op (G++(X++af))
 l3:(U.L s op (G++[fG U (b+1),.list [],ax x 0 0 [] .none])).length=b+3
 av:bP tab (b5 (d+1)) none (.fn 828) [.ref U.t,.ref U.g] (U.L s op G)=some (.ok (.ref b) (U.L s op (G++[fG U (b+1),.list []])))
 aG:bP tab (b5 (d+1)) none (.fn 620) [] (U.L s op (G++[fG U (b+1),.list []]))=some (.ok (.ref (b+2)) (U.L s op (G++[fG U (b+1),.list [],fb])))
 da:b5 (d+1) none (.fn 589) [.ref (b+2),.str x] (U.L s op (G++[fG U (b+1),.list [],fb]))=some (.ok .none (U.L s op (G++[fG U (b+1),.list [],ax x 0 0 [] .none])))
 f4:dx tab (b5 (d+1)) none (.ref (b+2)) x' (U.L s op (G++[fG U (b+1),.list [],ax x 0 0 [] .none])++[.list []])=eP (b+2) 610 (b5 (d+1))
 fN:b5 (d+1) none (.fn 610) [.ref (b+2),.bool true] (U.L s op (G++[fG U (b+1),.list [],ax x 0 0 [] .none])++[.list []])=some (.ok (pv kd x 0) (U.L s op (G++gc U b (ax x x.length x.length [] .none) [])))
theorem Cp(f:U.H.length+G.length=b)(t:pq x kd):SW U d s op G x kd c b:=by
 have eC:∀{s op X i},(U.L s op<|G++X)[b+i]? =X[i]? :=λ{s op X i}=>by refine Y f.symm<|Y (cz ..) ?_;exact pQ
 have lD:∀{s op X i o},(U.L s op<|G++X).set (b+i) o=U.L s op (G++X.set i o):=λ{s op X i o}=>by refine Y f.symm<|Y (cz ..) ?_;exact Te
 have h:∀{s op X},(U.L s op<|G++X).length=b+X.length:=λ{s op X}=>Y lN<|Y a0<|Y (cz ..).symm<|Y f rfl;have kX:∀{s op X af},U.L s op (G++X)++af=U.L s op (G++(X++af)):=λ{s op X af}=>Y qX<|Y (bq ..) rfl;have av:=MB (d:=d) (U:=U) (s:=s) (op:=op) (G:=G);have aG:=Jp (d:=d) (U:=U) (s:=s) (op:=op) (G:=G++[fG U<|b+1,.list []]);rw[f]at av;rw[bq,a0,<-cz,f]at aG;refine⟨eC,lD,kX,h,av,aG,?_,?_,?_⟩;exact(Gp t.l eC).trans<|Y lD rfl;exact Y kX<|d5 (eC (i:=2)) rfl rfl rfl rfl;exact Y kX<|(Kj t eC).trans<|Y lD rfl
theorem El(f:ix U c G)(t:pq x kd)(y:X[r]? =some (.list [jy]))(m:b5 (d+1) none (.fn 790) [.ref<|U.H.length+G.length,.str kd,.str x,.int 0] (U.L s op<|G++gc U (U.H.length+G.length) (ax x x.length x.length [] .none) [])=some (.ok (.ref<|U.H.length+G.length+4+r)<|U.L J h<|G++(gc U (U.H.length+G.length) (ax x x.length x.length [] .none) []++X))):b5 (d+2) none (.fn 825) [.ref c,.str x,.int 0] (U.L s op G)=some (.ok (.ref<|U.H.length+G.length+3)<|U.L J h<|G++(gc U (U.H.length+G.length) (ax x x.length x.length [] .none) [jy]++X++[.list []])):=by
 refine aU (kH f (s:=s) (op:=op)) λn k=>?_;generalize z:U.H.length+G.length=b at m⊢;obtain⟨eC,lD,kX,l3,av,aG,da,f4,fN⟩:=Cp (U:=U) (d:=d) (s:=s) (op:=op) (c:=c) z t;have C:d2 (b5<|d+1) (199940+59) 825 5 (lE c x b (b+2) (b+3)<|pv kd x 0) (U.L s op<|G++gc U b (ax x x.length x.length [] .none) [])=some (.ok .next (lE c x b (b+2) (b+3) .none)<|U.L J h<|G++(gc U b (ax x x.length x.length [] .none) [jy]++X)):=by
  refine(P4 (j:=199959) (r:=b+4+r) (u:=U.L J h<|G++(gc U b (ax x x.length x.length [] .none) [jy]++X)) (tL (eC (i:=3)) rfl) (d5 (eC (i:=0)) rfl rfl rfl rfl) m ?_ (d5 (eC (i:=2)) rfl rfl rfl rfl)<|Pn t.l<|eC (i:=2)).trans RM;refine(Sk (l:=[]) (m:=[jy]) (eC (i:=3)) ?_ ?_<|by decide).trans ?_;exact Y (cz ..)<|Y eC<|Y (cF 4 r) y;exact iI λe=>absurd e<|by simp+arith
  exact Y lD rfl
 have r:=So (O:=b5<|d+1) (j:=199940) (d3 k rfl rfl) (d3 k rfl rfl) av aG (d5 (eC (i:=2)) rfl rfl rfl rfl) da f4 fN (by refine Y l3 ?_;exact C) (d3 (eC (i:=0)) rfl rfl)<|eq_nil (by refine Y kX ?_;exact eC (i:=1)) cU;rw[l3,kX]at r;exact r
theorem J4(f:ix U c G)(t:pq x kd)(u:X[r]? =some (.exc 174 a1 a2))(m:b5 (d+1) none (.fn 790) [.ref<|U.H.length+G.length,.str kd,.str x,.int 0] (U.L s op<|G++gc U (U.H.length+G.length) (ax x x.length x.length [] .none) [])=some (.exc (U.H.length+G.length+4+r)<|U.L J h<|G++(gc U (U.H.length+G.length) (ax x x.length x.length [] .none) []++X))):b5 (d+2) none (.fn 825) [.ref c,.str x,.int 0] (U.L s op G)=some (.exc (U.H.length+G.length+4+r)<|U.L J h<|G++(gc U (U.H.length+G.length) (ax x x.length x.length [] .none) []++X)):=by refine aU (kH f (s:=s) (op:=op)) λn k=>?_;generalize y:U.H.length+G.length=b at m⊢;obtain⟨eC,lD,kX,l3,av,aG,da,f4,fN⟩:=Cp (U:=U) (d:=d) (s:=s) (op:=op) (c:=c) y t;exact SS (O:=b5<|d+1) (j:=199940) (d3 k rfl rfl) (d3 k rfl rfl) av aG (d5 (eC (i:=2)) rfl rfl rfl rfl) da f4 fN<|Y l3<|Lf (j:=199959) (tL (eC (i:=3)) rfl) (d5 (eC (i:=0)) rfl rfl rfl rfl) m<|by refine Y (cz ..)<|Y eC<|Y (cF 4 r) ?_;exact u
include B
theorem ze(aP:k<U.m)(f:ix U c G)(u:op.length<60)(h:fJ (b6 k) op=some false)(x:s+(bR k).length<=1000)(E:b5 (d+1) none (.fn 825) [.ref c,.str<|bR k,.int 0] (U.L (s+(bR k).length) (op++[.str<|b6 k]) G)=some (.ok (.ref r)<|U.L J (op++[.str<|b6 k])<|G++X)):b5 (d+2) none (.fn 818) [.ref c,.str<|b6 k,.int 0] (U.L s op G)=some (.ok (.ref r)<|U.L J op<|G++X):=by
 refine aU (kH f (s:=s) (op:=op)) λI y=>aU (kH f (s:=s+(bR k).length) (op:=op++[.str<|b6 k])) λN z=>aU (kH (HE f (X:=X)) (s:=J) (op:=op++[.str<|b6 k])) λT C=>?_;have D:k<64:=cB aP B.hm;exact MQ (O:=b5<|d+1) (j:=199940) (ds:=hI 30 k []) (uj D) ww (d3 y rfl rfl) (d5 (j7 B.toGro B.ht rfl) rfl rfl rfl rfl) (xk B aP) (d3 y rfl rfl) (d5 (i3 B.toGro) rfl rfl rfl rfl) (v0 B (n1 u<|by decide) h x)
  (d3 z rfl rfl) (rb B) (sa B) (kK<|by refine Y a0 ?_;exact u) (d5 z rfl rfl rfl rfl) E (d3 C rfl rfl) (d5 (i3 B.toGro) rfl rfl rfl rfl) (Hx B)
omit B in
theorem DJ(h:ar x y=false):∀{op},fJ x op=some false->fJ x (op++[.str y])=some false:=by
 intro op;induction op with
 |nil=>intro _;show some (match ar x y with|true=>true|false=>false)=_;exact Y h rfl
 |cons a op j=>
  intro e;have e:ob (ek a) (λy=>ob (fJ x op) λq=>some<|match ar x y with|true=>true|false=>q)=some false:=e;refine aK e λC hz e=>aK e λq bo e=>?_;have f:q=false:=by induction q with|false=>rfl|true=>cases z:ar x C<;>rw[z]at e<;>cases e
  subst f;show ob (ek a) (λk=>ob (fJ x<|op++[.str y]) λq=>some<|match ar x k with|true=>true|false=>q)=some false;refine Y hz ?_;show ob (fJ x<|op++[.str y]) _=_;exact Y (j bo) e
theorem Hj:∀k,k<U.m->∀{s op G c},ix U c G->op.length+k<60->(∀i,i<=k->fJ (b6 i) op=some false)->s+5*(k+1)<=1000->b5 (3*k+4) none (.fn 818) [.ref c,.str<|b6 k,.int 0] (U.L s op G)=some (.ok (.ref<|U.H.length+G.length+3)<|U.L (s+wt k) op<|G++q8 U k (U.H.length+G.length)):=by
 intro k;induction k with
 |zero=>intro aP s op G c f u h x;refine ze B (d:=2) aP f u (h 0<|ba _) (as (hO (by decide) s) x)<|El (d:=1) (r:=0) (X:=[.list [jy]]) f (tB (k:=0)<|by decide) rfl ?_;have m:=FM (O:=b5 1) (j:=199940) (tx:=[120]) (c:=U.H.length+G.length) (H:=U.L (s+1) (op++[.str<|b6 0])<|G++gc U (U.H.length+G.length) (ax [120] 1 1 [] .none) []) Ib;rw[qX,bq,lN,a0,<-cz]at m;exact m
 |succ k D=>
  intro aP s op G c f u h x;have y:k+1<64:=cB aP B.hm;have t:=tB y;have hl:s+(bR<|k+1).length+5*(k+1)<=1000:=by have:5*(k+1+1)=5*(k+1)+5:=gB ..;have:=t.l;exact a7 x this<|by simp+arith
  refine ze B (d:=3*k+5) aP f (fj (bK ..) u) (h _<|ba _) (as (bK ..) hl) ?_;have i:=D (se aP) (s:=s+(bR<|k+1).length) (op:=op++[.str<|b6<|k+1]) (G:=G++gc U (U.H.length+G.length) (ax (bR<|k+1) (bR<|k+1).length (bR<|k+1).length [] .none) []) (c:=U.H.length+G.length) Fk (by refine Y a0 ?_;show op.length+1+k<60;exact aR u<|by simp+arith)
   (λi z=>DJ (Cv (a7 u z<|by simp+arith) y<|by grind)<|h i<|jj z) hl
  rw[a0,<-cz,bq]at i;have r:=El (d:=3*k+4) (r:=3) (X:=q8 U k<|U.H.length+G.length+4) f t RK<|No (O:=b5<|3*k+4) (j:=199940) (Cb<|se y) (d5 (pQ (i:=0)) rfl rfl rfl rfl) i;have C:s+(bR<|k+1).length+wt k=s+wt (k+1):=cz ..;rw[C]at r;exact r
end
def tI(b:Nat):aq:=[xD<|b+1,.dict [(dN,.str pU)]]
noncomputable def ph:Nat->Nat->Nat|0,k=>(bR k).length|e+1,k=>(bR k).length+ph e (k-1)
noncomputable def vG:Nat->Nat->List V|0,k=>[.str<|b6 k]|e+1,k=>.str (b6 k)::vG e (k-1)
noncomputable def pe(U:gA):Nat->Nat->Nat->aq|0,_,b=>tI b|e+1,k,b=>gc U b (ax (bR k) (bR k).length (bR k).length [] .none) []++pe U e (k-1) (b+4)
def Rw:∀{e k b},∃a c,(pe U e k b)[4*e]? =some (.exc 174 a c):=by
 intro e;induction e with
 |zero=>intro _ _;exact⟨_,_,rfl⟩
 |succ e f=>intro k b;exact f (k:=k-1) (b:=b+4)
section
variable{U:gA}(B:U.Ok){s:Nat}{op:List V}{G:aq}{k c:Nat}
theorem Sy{k:Cl}{O:ap}(aP:bi E tab.cls=some k)(y:k.init=some z)(he:k.exc=true)(f:bi z tab.fns=some fn)(m:O none (.fn z) (.ref A.length::D) (A++[.exc E none none])=some (.ok .none u)):bP tab O none (.fn E) D A=some (.ok (.ref A.length) u):=by show sY tab O none E D A (bi E tab.cls)=_;refine Y aP ?_;show ob k.init _=_;refine Y y ?_;show bd (ob (bi z tab.fns) λ_=>O none (.fn z) (.ref A.length::D)<|A++[tN E k.exc]) _=_;refine Y he<|Y f ?_;show bd (O none (.fn z) (.ref A.length::D)<|A++[.exc E none none]) _=_;exact Y m rfl
theorem KH:bP tab (b5<|d+1) none (.fn 174) [.str pU] (U.L s op G)=some (.ok (.ref<|U.H.length+G.length)<|U.L s op<|G++tI (U.H.length+G.length)):=by have e:=Sy (E:=174) (z:=126) (O:=b5<|d+1) (A:=U.L s op G) (D:=[.str pU]) (u:=U.L s op<|G++tI (U.H.length+G.length)) rfl rfl rfl rfl ?_;rw[lN]at e;exact e;exact(R8 (O:=ay 19) (j:=199940) (k:=pU) (H:=U.L s op G)).trans<|Y lN<|Y qX rfl
theorem Nq(h:H[i]? =some (.exc 174 a b))(loc):m7 tab none loc (.ref i) H=some (.exc i loc H):=by show cE (ob H[i]? λo=>ob (qI o) λp=>ob (bi p.1 tab.sub) λ_=>mX none i H p) _=_;exact Y h rfl
include B
section
variable(aP:k<U.m)(x:ix U c G)(y:fJ (b6 k) op=some false)(C:s+(bR k).length<=1000)
include aP x y C
theorem JN(f:op.length=60):b5 (d+2) none (.fn 818) [.ref c,.str<|b6 k,.int 0] (U.L s op G)=some (.exc (U.H.length+G.length)<|U.L (s+(bR k).length) (op++[.str<|b6 k])<|G++tI (U.H.length+G.length)):=by
 refine aU (kH x (s:=s) (op:=op)) λD h=>aU (kH x (s:=s+(bR k).length) (op:=op++[.str<|b6 k])) λE u=>?_;have z:k<64:=cB aP B.hm;exact OQ (O:=b5<|d+1) (j:=199940) (ds:=hI 30 k []) (uj z) ww (d3 h rfl rfl) (d5 (j7 B.toGro B.ht rfl) rfl rfl rfl rfl) (xk B aP) (d3 h rfl rfl) (d5 (i3 B.toGro) rfl rfl rfl rfl) (v0 B (by refine Y f ?_;decide) y C)
  (d3 u rfl rfl) (rb B) (sa B) (dw<|by refine Y a0<|Y f ?_;exact o0 60) KH (Nq<|pQ (i:=0))
theorem UI(f:op.length<60)(D:b5 (d+1) none (.fn 825) [.ref c,.str<|bR k,.int 0] (U.L (s+(bR k).length) (op++[.str<|b6 k]) G)=some (.exc r X)):b5 (d+2) none (.fn 818) [.ref c,.str<|b6 k,.int 0] (U.L s op G)=some (.exc r X):=by
 refine aU (kH x (s:=s) (op:=op)) λE h=>aU (kH x (s:=s+(bR k).length) (op:=op++[.str<|b6 k])) λI u=>?_;have z:k<64:=cB aP B.hm;exact Ph (O:=b5<|d+1) (j:=199940) (ds:=hI 30 k []) (uj z) ww (d3 h rfl rfl) (d5 (j7 B.toGro B.ht rfl) rfl rfl rfl rfl) (xk B aP) (d3 h rfl rfl) (d5 (i3 B.toGro) rfl rfl rfl rfl) (v0 B (n1 f<|by decide) y C)
  (d3 u rfl rfl) (rb B) (sa B) (kK<|by refine Y a0 ?_;exact f) (d5 u rfl rfl rfl rfl) D
end
theorem yB:∀e k,k<U.m->e<=k->∀{s op G c},ix U c G->op.length+e=60->(∀i,i<=k->fJ (b6 i) op=some false)->s+5*(e+1)<=1000->b5 (3*e+4) none (.fn 818) [.ref c,.str<|b6 k,.int 0] (U.L s op G)=some (.exc (U.H.length+G.length+4*e)<|U.L (s+ph e k) (op++vG e k)<|G++pe U e k (U.H.length+G.length))
 |0,k,aP,_,s,op,G,c,x,f,y,C=>JN B (d:=2) aP x (y k<|ba _) (as (hO (tB<|cB aP B.hm).l s) C) f|e+1,0,_,h,_,_,_,_,_,_,_,_=>absurd h<|km e
 |e+1,k+1,aP,he,s,op,G,c,x,f,y,C=>by
  have u:k+1<64:=cB aP B.hm;have t:=tB u;have hl:s+(bR<|k+1).length+5*(e+1)<=1000:=by have:5*(e+1+1)=5*(e+1)+5:=gB ..;have:=t.l;exact a7 C this<|by simp+arith
  refine UI B (d:=3*e+5) aP x (y _<|ba _) (as (bK ..) hl) (aR (a4 f)<|by simp+arith) ?_;have i:=yB e k (se aP) (iC he) (s:=s+(bR<|k+1).length) (op:=op++[.str<|b6<|k+1]) (G:=G++gc U (U.H.length+G.length) (ax (bR<|k+1) (bR<|k+1).length (bR<|k+1).length [] .none) []) (c:=U.H.length+G.length) Fk (by refine Y a0 ?_;show op.length+1+e=60;exact ce (aR (a4 f)<|by simp+arith)<|aR (a4 f.symm)<|by simp+arith)
   (λi z=>DJ (Cv (a7 u z<|by simp+arith) u<|by grind)<|y i<|jj z) hl
  rw[a0,<-cz,bq op,bq G]at i;refine g8 (Rw (U:=U) (e:=e) (k:=k) (b:=U.H.length+G.length+4)) λa1 a2 I=>?_;have r:=J4 (d:=3*e+4) (r:=4*e) (X:=pe U e k<|U.H.length+G.length+4) x t I<|HC (O:=b5<|3*e+4) (j:=199940) (Cb<|se u) (d5 (pQ (i:=0)) rfl rfl rfl rfl) i;have D:s+(bR<|k+1).length+ph e k=s+ph (e+1) (k+1):=cz ..;have E:U.H.length+G.length+4+4*e=U.H.length+G.length+4*(e+1):=by exact Y (cz ..)<|Y (cF 4 ..) rfl
  rw[D,E]at r;exact r
end
def mS(o:Option au)(p:au):Bool:=match o with|some x=>pI x p|none=>false
def nF(h:mS o p=true):o=some p:=by rcases o with _|x;exact ff h;exact az some<|wl h
def Kv(h:t' o a=true):o=some a:=by rcases o with _|x;exact ff h;exact az some<|lh h
def sF(o:Option au):List (Str×V):=match jD o with|some l=>l|none=>[]
def kJ(m:Nat)(H:aq):gA:=⟨H,1,0,m+6,m+7,3,2,4,m,λk=>5+k,sF H[3]?⟩
def uG(o:Option au):Bool:=match jD o with|some _=>true|none=>false
def Bf(H:aq)(es:List<|Str×V)(k:Nat):Bool:=t' (aC ⟨(b6 k).toArray⟩ es) (.ref<|5+k)&&mS H[5+k]? (Ar k)
def rE(m:Nat)(H:aq):Bool:=mS H[m+6]? (m0 0 (m+7) 0)&&(mS H[m+7]? (.list [])&&(mS H[1]? (pF 0 2 3 4)&&(mS H[0]? Ej&&(uG H[3]? &&(j3 (Bf H<|sF H[3]?) m&&(Nat.ble m 64&&mS H[m+8]? (.inst 828 [(eG,.ref 1),(eU,.ref<|m+6),(iN,.ref<|m+9)])))))))
def Gz(h:uG o=true):o=some (.dict<|sF o):=by unfold uG sF jD at*;rcases o with _|x;exact ff h;cases x<;>first|rfl|exact ff h
def Kk(h:rE m H=true):(kJ m H).Ok/\H[m+8]? =some (fG (kJ m H)<|m+9):=by unfold rE at h;refine zb h λj h=>zb h λf h=>zb h λu h=>zb h λy h=>zb h λz h=>zb h λC h=>zb h λD E=>⟨⟨⟨nF j,nF f⟩,nF u,nF y,Gz z,λk aP=>?_,bE D⟩,nF E⟩;have x:=ox C k aP;unfold Bf at x;exact zb x λa b=>⟨Kv a,nF b⟩
def xu(m:Nat)(H:aq):M V:=match Nat.ble m 60 with
 |true=>some<|.ok (.ref<|H.length+3)<|(kJ m H).L (wt<|m-1) []<|q8 (kJ m H) (m-1) H.length
 |false=>some<|.exc (H.length+240)<|(kJ m H).L (ph 60<|m-1) (vG 60<|m-1)<|pe (kJ m H) 60 (m-1) H.length
def sC(m:Nat)(D:List V)(H:aq):M V:=match(gQ [.ref<|m+8,.str<|b6<|m-1,.int 0] D&&(Nat.ble 1 m&&rE m H))with|true=>xu m H|false=>none
def rp(D:List V)(H:aq):M V:=match D with
 |[]=>none
 |a::_=>match fw a with|some c=>sC (c-8) D H|none=>none
def JG(B:Gro H g l q):LL H g l q 0 [] []=H:=by unfold LL;exact Y (lr B.hg)<|Y (lr B.bo)<|Y (be ..) rfl
def L6(e:sC m D H=some r):∃d,d<=184/\b5 d none (.fn 818) D H=some r:=by
 unfold sC at e;revert e;rcases c:(gQ [.ref (m+8),.str (b6 (m-1)),.int 0] D&&(Nat.ble 1 m&&rE m H));exact aW
 .intro e;refine zb c λc1 c=>zb c λc2 z=>?_;clear c;obtain rfl:=kS c1;have j:1<=m:=bE c2;refine aS (Kk z) λB k=>?_;have y:ix (kJ m H) (m+8) []:=⟨m+9,λs op X=>j7 B.toGro k rfl⟩;have aP:m-1<(kJ m H).m:=Nat.sub_lt j<|by decide
  have f:∀i,i<=m-1->fJ (b6 i) []=some false:=λ_ _=>rfl;have x:(kJ m H).L 0 [] []=H:=JG B.toGro;have e:xu m H=some r:=e;unfold xu at e;revert e;rcases u:Nat.ble m 60
  .intro e;have C:60<m:=Nat.lt_of_not_le λh=>by rw[w9 h]at u;exact ff<|u.symm
   have l:=yB B 60 (m-1) aP (a7 C (cm m 1)<|by simp+arith) (s:=0) y rfl f<|by decide
   rw[x,eT]at l;exact a8 184 (ba _)<|l.trans e
  .intro e;have l:=Hj B (m-1) aP (s:=0) y (by have:=bE u;show 0+(m-1)<60;exact a7 this (a4<|bx<|show 1<=m from aR j<|by simp+arith)<|by simp+arith) f<|by rw[eT,bx j];exact as (hK 5<|bE u)<|by decide
   rw[x,eT]at l;exact a8 (3*(m-1)+4) (as (l7 (hK 3<|Nat.sub_le_sub_right (bE u) 1) 4)<|by decide)<|l.trans e
def Sj(e:rp D H=some r):∃d,d<=184/\b5 d none (.fn 818) D H=some r:=by unfold rp at e;rcases D with _|⟨a,l⟩;exact aW e;have e:(match fw a with|some c=>sC (c-8) (a::l) H|none=>none)=some r:=e;revert e;rcases c:fw a with _|f;intro e;exact aW e;exact L6
def ml(d:Nat):ap:=Nat.rec (λ_ _ _ _=>none) (λ_ O hd a D H=>match fu hd a [818]with|some _=>rp D H|none=>aF NN tab O hd a D H) d
section
variable{I:Program}{K:al}{B:Frag}(G:cu K tab B)(x:eM K tab)(M:fM I K)(af:hF I K)
include G x M af
theorem Hk:∀d,de I K (245+d) (ml d):=by
 intro d;induction d with
 |zero=>exact⟨λ_ _ _ _ e=>nomatch e⟩
 |succ d N=>
  have J:=N;refine jF (mf (T:=tab) G x M af J NN) λU W _ _=>⟨λ{F loc f H s a u D us r} y R C q e=>?_⟩;have e:(match fu F.hd a [818]with|some _=>rp D H|none=>aF NN tab (ml d) F.hd a D H)=some r:=e
  revert e;rcases h:fu F.hd a [818]with _|z;intro e;exact(ta G U W).call y R C q e
  .intro e;refine aS (s7 h) λj O=>?_;subst O;refine aZ (Sj e) λk aP E=>?_;clear e;obtain rfl:z=818:=by have h:(match bu z [818]with|true=>lO F.hd z|false=>none)=some z:=h;rcases c:bu z [818];rw[c]at h;exact aW h;exact b9.mp<|eV.mp c
   exact(Um G x M af k).call (y.mono<|aR aP<|by simp+arith) R C q<|by refine Y j ?_;exact E
end
noncomputable def kP(n:Nat):Bool:=vj<|aF NN tab (ml 29) none (.fn 1145) [.int (57+n:Nat)] []
def Py:kP 0=true:=by decide+kernel
def NS:kP 1=true:=by decide+kernel
def F8:kP 2=true:=by decide+kernel
def Io:kP 3=true:=by decide+kernel
def I0:kP 4=true:=by decide+kernel
def Ik:kP 5=true:=by decide+kernel
def SV:kP 6=true:=by decide+kernel
def M':kP 7=true:=by decide+kernel
def NG:∀n,n<8->kP n=true|0,_=>Py|1,_=>NS|2,_=>F8|3,_=>Io|4,_=>I0|5,_=>Ik|6,_=>SV|7,_=>M'|n+8,h=>absurd h<|qu<|bT 8 n
def pi:ap:=λhd a D H=>match fu hd a [1145]with|some _=>bD (λD H=>aF NN tab (ml 29) none (.fn 1145) D H) D H|none=>ay 250 hd a D H
section
variable{I:Program}{K:al}{B:Frag}(G:cu K tab B)(j:eM K tab)(M:fM I K)(af:hF I K)
include G j M af
theorem SY:de I K 291 pi:=by
 refine⟨λ{F loc f H s a u D us r} y R C q e=>?_⟩;have e:(match fu F.hd a [1145]with|some _=>bD (λD H=>aF NN tab (ml 29) none (.fn 1145) D H) D H|none=>ay 250 F.hd a D H)=some r:=e
 revert e;rcases h:fu F.hd a [1145]with _|z;intro e;exact(uF G j M af 250).call y R C q e
 .intro e;refine aS (s7 h) λk E=>?_;subst E;obtain rfl:z=1145:=by have h:(match bu z [1145]with|true=>lO F.hd z|false=>none)=some z:=h;rcases c:bu z [1145];rw[c]at h;exact aW h;exact b9.mp<|eV.mp c
  exact fF (s6 G j M af (Hk G j M af 29) (z:=1145) e (y.mono<|by decide) k R C q) λ_ _ x=>x.weak
end
noncomputable def kE(x:Stmt):Bool:=match x with|.If ..=>true|_=>false
def iE(k:Addr)(u:List Int)(T:ct)(O:ap)(n:Nat):dS:=step T O<|ji k u<|ev T O n
def vS(k:Addr)(u:List Int)(T:ct)(O:ap)(n:Nat):dS:={ev T O n with s:=λc x loc H=>match kE x with|true=>ei T (iE k u T O n) c x loc H|false=>(ev T O n).s c x loc H}
section
variable{I:Program}{K:al}{d:Nat}{T:ct}{B:Frag}{O:ap}{k:Addr}{u:List Int}(G:cu K T B)(z:eM K T)(M:fM I K)(af:hF I K)(W:de I K d O)(S:iv K k u)
include G z M af W S
theorem Qp(n):eW I K d (vS k u T O n):=by refine jF (mf G z M af W n) λaa Q Z L=>?_;have C:=H0 S aa;have D:eW I K d (ji k u<|ev T O n):=⟨Q.s,Q.wh⟩;have J:oo I K d (ji k u<|ev T O n):=⟨Z.fr⟩;have N:o9 I K d (ji k u<|ev T O n):=⟨L.lc⟩;have V1:bA I K d (iE k u T O n):=⟨λE R r e=>zu G z W M af C N E R e,λE R r e=>AD C E R e⟩;have U:eW I K d (iE k u T O n):=⟨λE R r e=>ym G z C D J E R e,λE R e=>yG G.fH C D E R e⟩;have Z1:oo I K d (iE k u T O n):=⟨λE hd R x y j st e=>AW G.toTabC C D J E hd R x y j st e⟩;refine⟨λ{F c loc x f H s} E R r e=>?_,Q.wh⟩;have e:(match kE x with|true=>ei T (iE k u T O n) c x loc H|false=>(ev T O n).s c x loc H)=some r:=e;revert e;rcases h:kE x;intro e;exact Q.s E R r e;intro e;exact ym G z V1 U Z1 E R e
end
noncomputable abbrev vf:Str:=⟨#[108,101,110]⟩
noncomputable def vo(l:List Int):Int:=match l with|[]=>0|C::_=>C
section
variable{v:dS}
def TD(h:hR [r]=true)(f:v.e c loc l H=some (.ok a H))(j:v.e c loc r H=some (.ok b H))(hz:cM op a b H=some C):stepT v c loc (.Compare l [op] [r] p) H=some (.ok C H):=by show aw (hR [r]&&true) (bd (v.e c loc l H) λa H=>bd (v.e c loc r H) λb H=>ob (cM op a b H) λC=>rt C H)=_;refine Y h<|Y f ?_;show bd (v.e c loc r H) _=_;refine Y j ?_;show ob (cM op a b H) _=_;exact Y hz rfl
def D6(ht:v.t c loc t H=some (.ok C H))(f:aB C (cS v c a loc H) (cS v c b loc H)=r):ei T v c (.If t a b p) loc H=r:=by show d6 (v.t c loc t H) loc _=_;refine Y ht ?_;cases C<;>exact f
def PM(h:(mh e&&nX (.Name y q) e)=true)(he:v.e c loc e H=some (.ok a H))(f:fV c y a loc H=r):ei T v c (.Assign [.Name y q] e p) loc H=r:=by show fR (mh e&&nX (.Name y q) e) (d6 (v.e c loc e H) loc λa H=>fV c y a loc H)=_;exact Y h<|Y he f
def KI(h:v.s c x loc H=some (.ok .next ag H')):cS v c [x] loc H=some (.ok .next ag H'):=by show lv (v.s c x loc H) _=_;exact Y h rfl
end
def Hr:(ji k u<|ev tab O<|j+60).e (dh 1081) (lP k 0) (.Call (.Name vf q) [.Name jT r] [] p) H=some (.ok (.int (u.length:Nat)) H):=by show orM (aw (Nat.beq k k)<|rt (V.int (u.length:Nat)) H) _=_;exact Y (eg ..) rfl
def Gf(h:(u.map V.int)[0]? =some (.int C)):(ji k u<|ev tab O<|j+60).e (dh 1081) (lP k 0) (.Subscript (.Name jT q) (.Name eZ r) p) H=some (.ok (.int C) H):=by show orM (aw (Nat.beq k k)<|ob (u.map V.int)[0]? λr=>rt r H) _=_;exact Y (eg ..)<|Y h rfl
def B6(hz:cM .Lt (.int ((0:Nat):Int)) (.int (u.length:Nat)) H=some b):(iE k u tab O<|j+60).t (dh 1081) (lP k 0) (.Compare (.Name eZ q) [.Lt] [.Call (.Name vf x) [.Name jT r] [] f] p) H=some (.ok b H):=by have h:(ji k u<|ev tab O<|j+60).e (dh 1081) (lP k 0) (.Name eZ q) H=some (.ok (.int ((0:Nat):Int)) H):=rfl;show stepT (ji k u<|ev tab O<|j+60) (dh 1081) (lP k 0) (.Compare (.Name eZ q) [.Lt] [.Call (.Name vf x) [.Name jT r] [] f] p) H=_;exact TD rfl h Hr hz
def I8(h:(u.map V.int)[0]? =some (.int C)):(iE k u tab O<|j+60).s (dh 1081) (.Assign [.Name vy x] (.Subscript (.Name jT q) (.Name eZ r) p) f) (lP k 0) H=some (.ok .next (lP k C) H):=PM (p:=f) (v:=ji k u<|ev tab O<|j+60) (a:=.int C) rfl (Gf h) rfl
def Ta:ei tab (iE k u tab O<|j+60) (dh 1081) (fS 1081 1) (lP k 0) H=some (.ok .next (lP k<|vo u) H):=by rcases u with _|⟨C,l⟩;exact D6 (C:=false) (B6 rfl) rfl;exact D6 (C:=true) (B6 rfl)<|KI<|I8 rfl
def IK:∀{f loc H},(∀x∈f,∀loc H,v.s c x loc H=z.s c x loc H)->cS v c f loc H=cS z c f loc H:=by
 intro f;induction f with
 |nil=>intro _ _ _;exact rfl
 |cons x f j=>intro loc H h;show lv (v.s c x loc H) (cS v c f)=lv (z.s c x loc H) (cS z c f);have e:cS v c f=cS z c f:=funext λloc=>funext λH=>j λy m=>h y<|.tail _ m;exact Y (h x (.head _) ..)<|Y e rfl
section
variable{O:ap}{k:Addr}{E:List Int}{j:Nat}
abbrev rl(a:Addr):Loc:=[(jT,.fn a),(eZ,.int ((0:Nat):Int))]
def KZ(h:kE x=true):(vS k E tab O<|j+60).s (dh 1081) x loc H=ei tab (iE k E tab O<|j+60) (dh 1081) x loc H:=by show(match kE x with|true=>ei tab (iE k E tab O<|j+60) (dh 1081) x loc H|false=>(ev tab O<|j+60).s (dh 1081) x loc H)=_;exact Y h rfl
def AC(h:kE x=false):(vS k E tab O<|j+60).s (dh 1081) x loc H=(ev tab O<|j+60).s (dh 1081) x loc H:=by show(match kE x with|true=>ei tab (iE k E tab O<|j+60) (dh 1081) x loc H|false=>(ev tab O<|j+60).s (dh 1081) x loc H)=_;exact Y h rfl
def MA:ng=fS 1081 0::fS 1081 1::ng.drop 2:=rfl
def JC:(ng.drop 2).all (λx=>!kE x)=true:=rfl
def Ui:(ev tab O<|j+60).s (dh 1081) (fS 1081 0) (rl k) H=some (.ok .next (lP k 0) H):=rfl
def Mi(O)(k)(E)(j):∃x y,y<2147483647/\∀H,∃ag,cS (vS k E tab O<|j+60) (dh 1081) ng (rl k) H=some (.ok (.ret<|.ref H.length) ag<|H++[aY x y]):=by refine aU (HS (C:=vo E)) λn hm=>dZ (n*aB (du (n:Int) 1000000000000000000) 0 1) (vE n) (nN _<|by decide) λH=>aU (TE (O:=O) (j:=j) (a:=k) (H:=H) hm (b:=du (n:Int) 1000000000000000000) rfl rfl) λag ht=>⟨ag,?_⟩;refine Y MA ?_;show lv ((vS k E tab O<|j+60).s (dh 1081) (fS 1081 0) (rl k) H) _=_;refine Y (AC rfl)<|Y Ui ?_;show lv ((vS k E tab O<|j+60).s (dh 1081) (fS 1081 1) (lP k 0) H) _=_;refine Y (KZ rfl)<|Y Ta ?_;show cS (vS k E tab O<|j+60) (dh 1081) (ng.drop 2) (lP k<|vo E) H=_;refine Y (IK (z:=ev tab O<|j+60) λx m loc H=>AC (by have:=List.all_eq_true.mp JC x m;rcases h:kE x;rfl;rw[h]at this;exact ff this)) ?_;exact ht
end
def EZ(k:Addr)(x y:Nat)(H:aq)(v:V):M V:=match v with
 |.fn z=>aw (Nat.beq z k)<|some<|.ok (.ref H.length)<|H++[aY x y]
 |_=>none
def wI(k:Addr)(x y:Nat)(H:aq)(D:List V):M V:=match D with|[]=>none|v::l=>aw (gQ [.int ((0:Nat):Int)] l)<|EZ k x y H v
def yy(k:Addr)(x y:Nat):ap:=λhd a D H=>match fu hd a [1081]with|some _=>wI k x y H D|none=>none
section
variable{I:Program}{K:al}{B:Frag}{O:ap}{d:Nat}{k:Addr}{E:List Int}(G:cu K tab B)(C:eM K tab)(M:fM I K)(af:hF I K)(W:de I K d O)(S:iv K k E)
include G C M af W S
theorem SX:∃x y,y<2147483647/\de I K (d+1) (yy k x y):=by
 refine bU (Mi O k E 199940) λx y hy hb=>dZ x y hy ⟨λ{F loc f H s a u D us r} hr R qa q e=>?_⟩;replace e:(match fu F.hd a [1081]with|some _=>wI k x y H D|none=>none)=some r:=e;revert e;rcases h:fu F.hd a [1081]with _|z;exact aW
 .intro e;have h0:=h;refine aS (s7 h) λj ae=>?_;subst ae;obtain rfl:z=1081:=by have h:(match bu z [1081]with|true=>lO F.hd z|false=>none)=some z:=h0;rcases c:bu z [1081];rw[c]at h;exact aW h;exact b9.mp<|eV.mp c
  rcases D with _|⟨v,l⟩;exact aW e
  .refine cH (show aw (gQ [.int ((0:Nat):Int)] l) (EZ k x y H v)=some r from e) λJ T=>?_;obtain rfl:[V.int ((0:Nat):Int)]=l:=kS J;induction v using V.casesOn with
   |fn z=>refine cH (show aw (Nat.beq z k) (some<|Mine.Internal.R.ok (.ref H.length)<|H++[aY x y])=some r from T) λN e3=>?_;obtain rfl:=cd N;exact aU (hb H) λag ab=>Y qa.kA<|fF (CB G (Qp G C M af W S<|199940+60) hr R (fn:=qm tab 1081) (U:=[.fn z,.int ((0:Nat):Int)]) (aa:=(rl z,H)) (r:=r) (rs:=.ok (.ret<|.ref H.length) ag<|H++[aY x y]) rfl q rfl (by exact Y j rfl) (by refine Y j ?_;exact ab) e3) λ_ _ x=>x.weak
   |_=>exact aW T
end
noncomputable abbrev d1:List (List Nat):=[[65279,32,120,60,97,47,62]]
noncomputable abbrev fk:List (List Nat):=[[65279],[32],[120]]
noncomputable abbrev mV:List (List Nat):=[[60,97,62]]
abbrev B3:aq:=[.list<|bB d1,.list<|bB fk,.list<|bB mV]
section
variable{O:ap}{j pl n:Nat}{f:V}{C D u E y z:au}{h x:List Nat}{N k es:List V}
def QA(av:O none (.fn 1112) [.ref 0,.int ((2:Nat):Int)] [.list<|bB d1]=some (.ok (.bool true) [.list<|bB d1]))(aG:O none (.fn 1112) [.ref 1,.int ((2:Nat):Int)] [.list<|bB d1,.list<|bB fk]=some (.ok (.bool true) [.list<|bB d1,.list<|bB fk]))(da:O none (.fn 1112) [.ref 2,.int ((3:Nat):Int)] (B3)=some (.ok (.bool true)<|B3))(W:O none (.fn 1081) [f,.int ((0:Nat):Int)] (B3)=some (.ok (.ref 3)<|B3++[C]))(mw:O none (.fn 1119) [.ref 3] (B3++[C])=some (.ok (.tup [.str h,.int pl])<|B3++[D]))(I:O none (.fn 1100) [.ref 3,.str h] (B3++[D])=some (.ok (.ref 4)<|B3++[u,.list N]))(ms:O none (.fn 1112) [.ref 4,.int pl] (B3++[u,.list N])=some (.ok (.bool true)<|B3++[u,.list N]))(aa:O none (.fn 1112) [.ref 5,.int pl] (B3++[u,.list N,.list [.str h]])=some (.ok (.bool true)<|B3++[u,.list N,.list [.str h]]))(mr:O none (.fn 1126) [.ref 3] (B3++[u,.list N,.list [.str h]])=some (.ok (.tup [.str x,.ref 6])<|B3++[E,.list N,.list [.str h],.list es]))(J:O none (.fn 1100) [.ref 3,.str x] (B3++[E,.list N,.list [.str h],.list es])=some (.ok (.ref 7)<|B3++[y,.list N,.list [.str h],.list es,.list k]))(mt:O none (.fn 1138) [.ref 7,.ref 6] (B3++[y,.list N,.list [.str h],.list es,.list k])=some (.ok (.bool true)<|B3++[y,.list N,.list [.str h],.list es,.list k]))(ab:O none (.fn 1138) [.ref 8,.ref 6] (B3++[y,.list N,.list [.str h],.list es,.list k,.list [.str x]])=some (.ok (.bool true)<|B3++[y,.list N,.list [.str h],.list es,.list k,.list [.str x]]))(T:O none (.fn 1088) [.ref 3,.int ((8:Nat):Int)] (B3++[y,.list N,.list [.str h],.list es,.list k,.list [.str x]])=some (.ok (.int (n:Nat))<|B3++[z,.list N,.list [.str h],.list es,.list k,.list [.str x]]))(U:O none (.fn 1145) [.int (57+n:Nat)] (B3++[z,.list N,.list [.str h],.list es,.list k,.list [.str x]])=some (.ok (.bool true)<|B3++[z,.list N,.list [.str h],.list es,.list k,.list [.str x]])):aF (j+60) tab O none (.fn 1152) [f] []=some (.ok (.bool true)<|B3++[z,.list N,.list [.str h],.list es,.list k,.list [.str x]]):=by exact am [(jT,f)] rfl<|sk 1<|aj Q.m av rfl<|sk 2<|aj Q.m aG rfl<|sk 2<|aj Q.m da rfl<|sk 4<|aj Q.m W rfl<|sk 3<|aj Q.m mw rfl<|sk 5<|aj Q.m I rfl<|sk 1<|aj Q.m ms rfl<|sk 4<|aj Q.m aa rfl<|sk 4<|aj Q.m mr rfl<|sk 5<|aj Q.m J rfl<|sk 1<|aj Q.m mt rfl<|sk 4<|aj Q.m ab rfl<|sk 5<|aj Q.m T rfl<|sk 1<|aj Q.m U rfl rfl
end
def Tm{O:ap}(hO:∀(z:Addr)(D:List V)(H:aq),z≠1145->z≠1081->O none (.fn z) D H=ay 250 none (.fn z) D H)(hd:∀(n:Nat)(H:aq),n<8->O none (.fn 1145) [.int (57+n:Nat)] H=some (.ok (.bool true) H))(hb:b<2147483647)(mp:∀H:aq,O none (.fn 1081) [f,.int ((0:Nat):Int)] H=some (.ok (.ref H.length)<|H++[aY a b])):∃H',aF NN tab O none (.fn 1152) [f] []=some (.ok (.bool true) H'):=by
 have o:∀{z:Addr}{D:List V}{H:aq}{r:M V},(Nat.beq z 1145||Nat.beq z 1081)=false->ay 250 none (.fn z) D H=r->O none (.fn z) D H=r:=λ{z _ _ _} h e=>(hO _ _ _ (λC=>by rw[C]at h;exact ff<|h.symm) λC=>by rw[C]at h;exact ff<|h.symm).trans e;refine Bw (NC (H:=B3++[aY a b]) (i:=3) rfl hb) λk pl a1 b1 aa l1 l2 ab mw=>gP (AI l1 (as ‹_›<|by decide) (H:=B3++[aY a1 b1]) (i:=3) rfl ab) λN a2 T jp a3 af mc=>SO (Sq (H:=B3++[aY a2 T,.list<|bB N,.list [.str k]]) (i:=3) rfl af) λJ fg U aP lk E ag mr=>?_;have lc:=(rB aP).2;have ld:(docOf<|cO J).length=11+2*(cO J).length:=by unfold docOf;refine Y a0<|Y a0<|Y a0<|Y a0 ?_;show 3+_+4+_+4=_;exact ce (by simp+arith)<|by simp+arith
 refine gP (AI (x:=docOf<|cO J) (bT ..) (by grind) (H:=B3++[aY fg U,.list<|bB N,.list [.str k],.list<|aD<|eR<|dW J]) (i:=3) rfl ag) λy I W jq ar ah ai=>ea (nL (d:=249) (i:=3) (t:=8) (H:=B3++[aY I W,.list<|bB N,.list [.str k],.list<|aD<|eR<|dW J,.list<|bB y,.list [.str<|docOf<|cO J]]) rfl ah (by decide)<|by decide) λn a5 b5 u _ md=>?_;exact⟨_,QA (j:=199940) (o rfl<|wE (l:=d1) MY rfl) (o rfl<|wE (l:=fk) Rp rfl) (o rfl<|wE (l:=mV) Rc rfl) (mp _) (o rfl mw) (o rfl mc)
  (o rfl<|EG aa jp (a7 l2 a3<|by simp+arith) rfl) (o rfl<|EG (ae:=[k]) aa rfl (by show k.length+1<=2000;exact fj ‹_›<|by decide) rfl) (o rfl mr) (o rfl ai)
  (o rfl<|AQ aP lk E jq ar (by grind) (by decide) rfl rfl) (o rfl<|AQ (ae:=[docOf<|cO J]) aP lk E rfl (by show 1<=200;decide) (by omega) (by decide) rfl rfl) (o rfl md) (hd n _ u)⟩
def w2(f:Addr)(x y:Nat):ap:=λhd a D H=>match yy f x y hd a D H with|some r=>some r|none=>pi hd a D H
def FF(f)(x y)(C:y<2147483647):∃H',aF NN tab (w2 f x y) none (.fn 1152) [.fn f] []=some (.ok (.bool true) H'):=by
 have no:∀(z:Addr)(D:List V)(H:aq),bu z [1081]=false->w2 f x y none (.fn z) D H=pi none (.fn z) D H:=λz D H h=>by show(match(match(match bu z [1081]with|true=>some z|false=>none:Option Addr)with|some _=>wI f x y H D|none=>none:M V)with|some r=>some r|none=>pi none (.fn z) D H)=_;exact Y h rfl
 refine Tm (a:=x) (b:=y) (λz D H j k=>?_) (λn H u=>?_) C λH=>?_
 .have m:bu z [1081]=false:=by rcases c:bu z [1081];rfl;exact absurd (b9.mp<|eV.mp c) k
  refine Y (no z D H m) ?_;show(match(match bu z [1145]with|true=>some z|false=>none:Option Addr)with|some _=>bD (λD H=>aF NN tab (ml 29) none (.fn 1145) D H) D H|none=>ay 250 none (.fn z) D H)=_
  rcases c:bu z [1145];rfl;exact absurd (b9.mp<|eV.mp c) j
 exact Y (no 1145 _ _ rfl)<|yQ (X:=λD H=>aF NN tab (ml 29) none (.fn 1145) D H) rfl (λ_=>rfl)<|NG n u;show(match aw (Nat.beq f f) (some<|Mine.Internal.R.ok (.ref H.length)<|H++[aY x y])with|some r=>some r|none=>pi none (.fn 1081) [.fn f,.int ((0:Nat):Int)] H)=_;exact Y (eg ..) rfl
section
variable{I:Program}{K:al}{B:Frag}{f:Addr}{j:List Int}(G:cu K tab B)(h:eM K tab)(M:fM I K)(af:hF I K)(S:iv K f j)
include G h M af S
theorem SH:∃O H',de I K 291 O/\aF NN tab O none (.fn 1152) [.fn f] []=some (.ok (.bool true) H'):=by exact bU (SX (d:=0) (O:=λ_ _ _ _=>none) G h M af ⟨λ_ _ _ _ e=>nomatch e⟩ S) λx y j P=>aU (FF f x y j) λH' e=>dZ (w2 f x y) H' ((P.mono<|by decide).or<|SY G h M af) e
end
def TV{h:Heap}(x:h.Ns a m)(y:h.Ns a T):m=T:=x.eq_nsMap.trans y.eq_nsMap.symm
def R'(j:eL h)(f:o.cls≠.type "traceback"):eL (h.push o):=λb p e=>by rcases Heap.get?_push_cases e with⟨_,rfl⟩|e;exact f;exact j b p e
def Kp(y:sS s=sD w):qH s.heap tab 1109:=by exact zp y λf h=>zb f λa1 f=>zb f λa2 fg=>⟨a1,a2,fg,h⟩
theorem Dr:∀{j:List Int}{D},WellAll P h₀ D (j.map .int)->D.length=j.length/\∀f h,aT f h (j.map .int) D
 |[],D,q=>by cases q;exact⟨rfl,λ_ _=>.nil⟩
 |x::j,D,q=>by
  cases q with
  |cons u y=>cases u;exact aS (Dr y) λk k2=>⟨az (·+1) k,λf h=>.cons .int<|k2 f h⟩
set_option tactic.hygienic true in
def OW{R:WRecords}{I:List Int}(L:Laid R w E y [.list<|I.map .int] z U)(O:WellAll w.params y.heap z [.list<|I.map .int])(aE:I.length<=63)(j:eL E.heap):eL y.heap/\∃a D,z=[.ref a]/\y.heap.get? a=some (ep D 0)/\D.length<=lim/\∀f h,aT f h (I.map .int) D:=by
 constructor;refine aZ L.laid λord _ h=>e6 (layAllW_cons h) λa q k u e=>zp e λ_ W=>?_;subst W;cases u;refine aZ (layW_list k) λN x aa=>?_;subst aa;show eL<|N.2.heap.push _;exact Y (BQ x)<|R' j λC=>absurd (e7 C)<|by decide
 .cases O with
  |cons k u=>
   cases u;cases k with
   |list e T=>rename_i a D;exact aS (Dr T) λJ k2=>EE a D rfl e (by refine Y J ?_;exact as aE<|by decide) k2
def hG:Str:=tab.ga++(Str.ofString "<lambda>")
def I':gq 292 callerA:=⟨by decide,by decide⟩
def Qf{T:Shared}{xs:List Int}(X:qH T.heap tab 1109)(k:∀b o,T.heap.get? b=some o->z.heap.get? b=some o)(j:eL z.heap)(hg:z.gens=#[])(e:z.heap.get? a=some (ep D 0))(hl:D.length<=lim)(q:∀f h,aT f h (xs.map .int) D):codeAny (model I w) callerA (.call (.ref 1152) ⟨[.ref a],[]⟩) (λres J=>∃u,res=.ok (.ret u)/\t9 ⟨w,z.heap,z.os,1111,1109,hG⟩ z.heap (.bool true) u J) z:=by
 have N:qH T.heap tab (al.mk w z.heap z.os 1111 1109 hG).a3:=X;have G:=zj (K:=⟨w,z.heap,z.os,1111,1109,hG⟩) N k j Ea rfl;have x:=EO (K:=⟨w,z.heap,z.os,1111,1109,hG⟩) N k;have ab:=k _ _<|A8 (K:=⟨w,z.heap,z.os,1111,1109,hG⟩) N;refine aZ (Uc (K:=⟨w,z.heap,z.os,1111,1109,hG⟩) N) λom hm ai=>?_;have S:iv ⟨w,z.heap,z.os,1111,1109,hG⟩ a xs:=⟨⟨D,0,e,hl,q⟩,λC=>by have C:a=1109:=C;rw[C]at e;have e2:z.heap.get? 1109=some (tabObj #[]):=ab;rw[e2]at e;cases e⟩;have M:=NI I<|al.mk w z.heap z.os 1111 1109 hG;have af:=Km I<|al.mk w z.heap z.os 1111 1109 hG;refine bU (SH G x M af S) λO H' hO E=>jF (mf G x M af hO NN) λaj W _ _=>aK (show ob (bi 1152 tab.fns) (λfn=>xg NN tab O none (aB (Nat.beq 1152 tab.hU) (some (tab.gh,tab.ga)) none) fn [.fn a] [])=some (.ok (.bool true) H') from E) λfn y E=>?_;have ah:aB (Nat.beq 1152 tab.hU) (some (tab.gh,tab.ga)) none=none:=rfl;have ae:h5 fn.scope.names=true:=by have:bi 1152 tab.fns=some (qm tab 1152):=rfl;rw[this]at y;clear E;cases y;rfl
 rw[ah]at E;refine aK E λU ag E=>?_;rw[Fz ae]at E;exact aK E λaa hb E=>aK E λrs eb e3=>L3 (K:=⟨w,z.heap,z.os,1111,1109,hG⟩) G W I' rfl hg rfl ab ⟨om,k _ _ hm,ai⟩ y ae (.cons .fn .nil) ag hb eb e3
def Uh:eH.toRowW.claim.post args (.bool true) args=true:=by kernel_rfl
def UJ:eH.Holds:=by
 refine aU (vz.mp F9) λam an=>?_;obtain⟨d,al⟩:=am;have I:=an;have hh:=KQ;rw[I]at hh;refine zp (aQ<|show some (eH.prog.theDef eH.name,kwWritten? d.params.kwonlyargs d.params.kw_defaults)=some (some (d.params,d.body,d.scope),some al) from hh) λh aP=>holds_openX (r:=eH) (XP:=λ_ _=>True) LG (λ_ _=>trivial) (λ_ _ _ _ _=>trivial) I h aP (λs _=>recFacts_of rfl) Q3 Bg QW F2 Se ?_;intro w aC C mg mb G y a o pm cd z dV kV f aw au av ah ae args aD U L aj ax az ak ay;refine aZ (OL aj) λxs ao aE=>?_;subst ao;have X:=Kp y;refine aS (OW L ak aE<|Ho X) λj ap=>bU ap λsa D aq ar=>?_;subst aq;refine c5 ar λe hl q=>?_;have ha:a=1152:=by have x:=EO (K:=⟨w,C.heap,C.os,1111,1109,hG⟩) X L.keeps;refine kG x.g λaB aA n1 _ k _=>aZ (k eH.name (.fn 1152) rfl) λv e1 e2=>?_;rw[TV n1 G.T.g,<-defOf_name I,ah]at e1;cases e1;exact Value.ref.inj (e2 []).kA
 subst ha;refine wpAny_call<|fF (Qf X L.keeps j ae e hl q) λres J⟨u,hr,R⟩=>?_;subst hr;obtain⟨⟨ab,qv⟩,old,⟨N,O⟩,ai,af⟩:=R;have hu:u=.bool true:=qv.so;subst hu;have G:=zj (K:=⟨w,C.heap,C.os,1111,1109,hG⟩) X L.keeps j Ea rfl;have ag:C.heap.get? 1109=some (tabObj #[]):=L.keeps _ _<|A8 (K:=⟨w,C.heap,C.os,1111,1109,hG⟩) X;refine gk G.lc λoc aa _ _ _ as=>Bw as λ_ _ _ _ c1 c2 T W _=>⟨.inl ⟨_,.bool true,[],rfl,λ_=>rfl,.bool true,Uh,λ_=>⟨.nil,λa m=>nomatch m⟩⟩,⟨λb o e=>?_,λb o e=>?_⟩,ai,.of_eq af⟩;by_cases E:b=1109;subst E;rw[ag]at e;cases e;exact .inr<|.inl ⟨⟨_,oc,aa,c1,c2,T,W⟩,rfl,#[],N,rfl,by refine Y Array.empty_append ?_;exact O⟩;exact .inl<|old b o E e;by_cases E:b=1109;subst E;exact⟨_,O⟩;exact⟨o,old b o E e⟩
def Ij:cp.Holds:=⟨O3,UJ⟩
end
end Mine.Internal
theorem PySem.Challenge.cw_sy0052_01_holds : PySem.Challenge.rw_sy0052_01.Holds := by
 rw[Mine.Internal.Qw];exact Mine.Internal.Ij
