import PyProof.Rows.All
import KE.KLam
import KE.KNestM
import OpenK.XOpen
import Lean
import PySem.Challenge.RW_sy0052_01
set_option genSizeOf false
set_option genInjectivity false
set_option genCtorIdx false
set_option linter.all false
set_option bootstrap.genMatcherCode false
set_option Elab.async false
set_option backward.match.sparseCases false
set_option tactic.hygienic false
set_option maxRecDepth 1000000
set_option maxHeartbeats 0
open PySem PySem.Calls PyProof.Rows PySem.W
namespace Mine.Internal
noncomputable section
def cY:=@Bool.and_eq_true_iff
def vJ:=@Nat.ble_eq_true_of_le
def bG:=@Nat.le_of_ble_eq_true
def g6:=@Nat.not_lt_zero
def dJ:=@Nat.lt_or_ge
def cf:=@Nat.le_antisymm
def eZ:=@Nat.le_of_lt_succ
def vV:=@Option.isSome_iff_exists
def lz:=@Option.map_eq_some_iff
def az:=@congrArg
def be:=@List.append_nil
def mm:=@Nat.le_of_not_lt
def h4:=@decide_eq_true
def hQ:=@Int.ofNat_lt
def fD:=@PySem.W.look_both
def qO:=@List.getElem?_cons_zero
def qM:=@Option.some.injEq
def fF:=@List.mem_append_left
def gA:=@List.mem_append_right
def d2:=@List.mem_append
def b8:=@List.mem_singleton
def bC:=@List.mem_cons
def uO:=@List.not_mem_nil
def fh:=@PySem.Value.type.inj
def dO:=@List.getElem?_append_left
def b4:=@List.getElem?_eq_some_iff
def aQ:=@Option.some.inj
def n0:=@Int.ofNat_le
def qt:=@Nat.ne_of_beq_eq_false
def cd:=@Nat.eq_of_beq_eq_true
def bO:=@if_neg
def gg:=@Ne.symm
def i9:=@List.lookup_cons
def aL:=@PySem.wpAny_pure
def av:=@Nat.le_trans
def iB:=@Nat.add_le_add_right
def C6:=@Nat.sub_le_iff_le_add
def ba:=@Nat.le_refl
def kc:=@List.cons_append
def br:=@List.append_assoc
def iG:=@List.nodup_append
def er:=@List.length_set
def qZ:=@List.getElem?_set_self
def o0:=@List.getElem?_set_ne
def a0:=@List.length_append
def dp:=@List.getElem?_append_right
def ew:=@Nat.sub_self
def bY:=@PySem.wpAny_mono
def xq:=@PySem.wpAny_truthy_bool
def aX:=@PySem.wpAny_bind
def dL:=@PySem.wpAny_standAt
def c8:=@PySem.wpAny_holding
def gM:=@Bool.eq_iff_iff
def gE:=@decide_eq_true_iff
def jt:=@Nat.blt_eq
def nH:=@Int.lt_of_lt_of_le
def nY:=@Int.negSucc_lt_zero
def gt:=@Int.natCast_nonneg
def kk:=@decide_eq_false
def lv:=@Int.lt_trans
def hH:=@Int.not_lt
def cu:=@Nat.lt_of_lt_of_le
def e9:=@Nat.lt_of_le_of_lt
def ol:=@Nat.not_lt
def fv:=@Nat.succ_le_succ
def fW:=@Bool.and_eq_true
def b0:=@PySem.Heap.get?_push_of_some
def dS:=@PySem.Heap.get?_push_size
def ee:=@List.nodup_cons
def kO:=@List.nodup_nil
def q4:=@List.length_eq_zero_iff
def oD:=@Int.le_trans
def mK:=@PySem.call_meets
def ka:=@Bool.false_ne_true
def di:=@List.size_toArray
def pw:=@Bool.or_eq_true_iff
def kx:=@LawfulBEq.eq_of_beq
def jl:=@List.length_nil
def ct:=@beq_iff_eq
def cB:=@List.length_cons
def tz:=@beq_self_eq_true
def em:=@Nat.beq_refl
def dx:=@List.getElem?_eq_getElem
def lK:=@List.length_take
def a4:=@Nat.le_of_eq
def b9:=@List.length_drop
def eY:=@List.drop_drop
def bx:=@Nat.sub_add_cancel
def fl:=@Nat.le_of_lt
def bE:=@Nat.le_add_right
def cF:=@Nat.add_comm
def bJ:=@Nat.zero_le
def iO:=@List.drop_zero
def fS:=@List.length_reverse
def n7:=@List.take_of_length_le
def eW:=@Nat.zero_add
def gq:=@Nat.sub_le
def kV:=@Bool.false_eq_true
def jd:=@if_false
def uB:=@List.findIdx?_toArray
def r9:=@Bool.and_false
def j5:=@PySem.Heap.SameBut.update
def jc:=@PySem.Heap.get?_update_self
def sP:=@beq_eq_false_iff_ne
def rh:=@PySem.Heap.get?_update_other
def bZ:=@if_pos
def hE:=@Nat.succ.inj
def mW:=@Nat.succ_pos
def s8:=@Int.add_comm
def q6:=@Nat.sub_eq_zero_of_le
def pY:=@Int.le_of_lt
def sH:=@List.getElem?_toArray
def tX:=@of_decide_eq_true
def rH:=@List.contains_cons
def pT:=@Bool.or_true
def p8:=@PySem.W.looks_findIn
def iQ:=@Nat.le_succ_of_le
def q0:=@PySem.wpAny_alloc
def kq:=@Nat.ne_of_lt
def qh:=@List.set_append_right
def qE:=@PySem.wpAny_bindName
def mB:=@Nat.le_of_succ_le
def hI:=@List.map_cons
def ux:=@Bool.or_eq_false_iff
def se:=@List.eq_nil_of_length_eq_zero
def nc:=@List.reverse_cons
def wB:=@PySem.wpAny_newObj_type
def oh:=@PySem.wpAny_field
def qH:=@PySem.codeAny_of_tree
def fJ:=@PySem.codeAny_mono
def jX:=@PySem.W.Looks.ld
def hR:=@List.forIn_cons
def jG:=@List.forIn_nil
def DB:=@decide_eq_false_iff_not
def sJ:=@PySem.Heap.size_push
def qm:=@Nat.succ_ne_self
def pu:=@PySem.wpAny_loadPart_at
def v3:=@PySem.wpAny_isSubtype_exc
def kr:=@PySem.typeIs_str
def jT:=@Nat.not_succ_le_zero
def bR:=@Nat.le_add_left
def oj:=@Nat.lt_irrefl
def wC:=@List.getElem?_drop
def p':=@List.length_map
def pF:=@Nat.not_lt_of_le
def nZ:=@Nat.mod_lt
def oL:=@Nat.lt_succ_self
def rX:=@List.pairwise_cons
def q3:=@List.zip_cons_cons
def tB:=@Nat.min_eq_left
def nx:=@List.take_append_drop
def ez:=@Nat.add_sub_cancel_left
def cz:=@Nat.add_assoc
def sd:=@List.take_left
def tk:=@List.drop_left
def e3:=@Nat.add_le_add_left
def eg:=@Nat.mul_le_mul_left
def k1:=@Iff.rfl
def n2:=@exists_congr
def sE:=@List.mem_of_getElem?
def eL:=@List.getElem?_eq_none
def ly:=@Nat.add_sub_cancel'
def mO:=@Nat.add_le_add
def iV:=@Nat.le_of_succ_le_succ
def DM:=@List.take_append_of_le_length
def r2:=@List.reverse_append
def gX:=@Nat.mul_succ
def sC:=@Nat.lt_of_succ_lt
def oi:=@Int.zero_add
def l2:=@List.ext_getElem?
def nS:=@Nat.lt_trans
def sl:=@Nat.add_right_comm
def dZ:=@List.cons.inj
def Bj:=@List.length_singleton
noncomputable def AB:{p:Program//PySem.Challenge.pw_sy0052_01=p}:=by refine⟨?p,?h⟩;case h=>conv=>lhs;reduce
noncomputable def ey:Program:=AB.1
def Pd:PySem.Challenge.pw_sy0052_01=ey:=AB.2
noncomputable def ck:PySem.W.OpenLaw:={prog:=ey,name:=⟨#[108,97,119]⟩,about:=[⟨#[83,116,114,101,97,109]⟩,⟨#[102,101,101,100]⟩],foot:=12,most:=some 63,bound:=none,writes:=false}
def S9:PySem.Challenge.rw_sy0052_01=ck:=by show PySem.W.OpenLaw.mk _ _ _ _ _ _ _=PySem.W.OpenLaw.mk _ _ _ _ _ _ _;rw[Pd];rfl
def xs:Env:={scope:=ey.main.scope,locals:=mainNs,globals:=mainNs,cells:=[],code:=.ref 13,frame:=some 14}
abbrev u6:List Stmt:=behindTheImports ey
abbrev i8:Code:=.body u6 xs
noncomputable def pz:Pos:=⟨0,0,0,0⟩
def S0(w:World)(os:OsState):Shared:=⟨boot_heap w.params,Array.mk [],boot_drawn,boot_toks,os⟩
def AG(w:World)(os:OsState):Option (Shared×Thread):=topGo treeTable ey w 11 (some<|.ref 6) 12 (S0 w os)<|topStub ey
def kU(w:World)(os:OsState):Shared:=match AG w os with|some r=>r.1|none=>S0 w os
def Ik(w)(os):AG w os=some (kU w os,⟨denote treeTable i8,i8,pz,[topFrame pz]⟩):=by kernel_rfl
noncomputable def DJ:List Obj->Nat->BT->BT|[],_,t=>t|o::l,i,t=>DJ l (i+1)<|t.ins i o
def yR(w:World)(os:OsState):SharedT:=⟨DJ (kU w os).heap.objs.toList 0 .nil,15,(kU w os).heap.life,#[],(kU w os).drawn,(kU w os).toks,os⟩
def Nh(w)(os):(yR w os).abs=kU w os:=by kernel_rfl
noncomputable def qp:Pos:=⟨964,0,974,53⟩
def nK(w:World)(os:OsState):Option (Flow×SharedT×Code×Pos):=Fast.tw10110043849684766642 Fast.tw14364793385576792824 ey w 11 (some<|.ref 6) 1 7600 (yR w os)<|piecesOf u6 xs i8 pz [topFrame pz]
noncomputable def Bx:List Stmt->List Stmt|[]=>[]|s::r=>match r with|[]=>[s]|_::_=>Bx r
def lD:Program:={ey with main:={ey.main with body:=Bx ey.main.body}}
def to:List Str:=ey.boundNames.filter λn=>!(n==ck.name)
abbrev dW:OpenRow:=ck.row
def QX:(defOf lD dW.name).isSome=true:=by kernel_rfl
def Uj:(chainsOk lD&&opensWell dW.prog&&(frees dW.toRowW&&dW.within.isEmpty))=true:=by kernel_rfl
def QE:noRoadLSs {strict:=!(importedModules dW.prog.main.body).all cThrough.contains,foot:=none,bare:=(["vars","dir","locals"]:List Str).filter<|readsOut dW.prog dW.prog.main.body} dW.prog.main.body=true:=by kernel_rfl
def BL:dW.wellSaid=true:=by
 unfold OpenRow.wellSaid OpenRow.partSaid looksOpen;rw[QE]
 kernel_rfl
def O5:(!dW.writes||dW.records.isEmpty)=true:=by kernel_rfl
def Jj:opening ey=plainProg ey.main.scope.names:=by kernel_rfl
def Nz:∀s,fenceModules? ey s=some s:=by intro s;kernel_rfl
def y8:importedModules ey.main.body=[]:=by kernel_rfl
set_option genCtorIdx true in
inductive eu where|len|ord|chr|max|sorted|int|str|tuple|range|exception
inductive V where|none|bool (b:Bool)|int (i:Int)|str (x:List Nat)|tup (l:List V)|ref (i:Nat)|fn (z:Addr)|blt (b:eu)|bm (z:Addr) (i:Nat)|an (lo j:Int)|bX (e:Expr) (sc:Scope) (cl:List (Str×Nat))
inductive au where|list (l:List V)|inst (E:Addr) (f:List (Str×V))|exc (E:Addr) (dj:Option Nat) (ctx:Option Nat)|dict (es:List (Str×V))|cell (v:Option V)
abbrev aq:=List au
abbrev Loc:=List<|Str×V
noncomputable def lim:Nat:=1048576
noncomputable def ar:List Nat->List Nat->Bool
 |[],[]=>true|a::l,b::k=>match Nat.beq a b with|true=>ar l k|false=>false
 |[],_::_=>false|_::_,[]=>false
noncomputable def sq(a b:Str):Bool:=ar a.cps.toList b.cps.toList
noncomputable def aC{f:Type}(x:Str):List (Str×f)->Option f|[]=>none|(k,v)::r=>match sq k x with|true=>some v|false=>aC x r
noncomputable def put{f:Type}(x:Str)(v:f):List (Str×f)->List (Str×f)|[]=>[(x,v)]|(k,u)::r=>match sq k x with|true=>(k,v)::r|false=>(k,u)::put x v r
noncomputable def kw{f:Type}(x:Str):List (Str×f)->List (Str×f)|[]=>[]|(k,u)::r=>match sq k x with|true=>kw x r|false=>(k,u)::kw x r
noncomputable def bi{f:Type}(a:Addr):List (Addr×f)->Option f|[]=>none|(k,v)::r=>match Nat.beq k a with|true=>some v|false=>bi a r
noncomputable def dY(x:Str):List Str->Bool|[]=>false|k::r=>match sq k x with|true=>true|false=>dY x r
noncomputable def aB{h:Sort _}(b:Bool)(x y:h):h:=match b with|true=>x|false=>y
noncomputable def pre:List Nat->List Nat->Bool|[],_=>true|_::_,[]=>false|a::y,b::x=>match Nat.beq a b with|true=>pre y x|false=>false
noncomputable def bq(y:List Nat):List Nat->Option Nat
 |[]=>match y with|[]=>some 0|_=>none
 |a::r=>match pre y (a::r)with|true=>some 0|false=>(bq y r).map (·+1)
noncomputable def bf(y:List Nat):List Nat->Nat->List Nat->List (List Nat)
 |[],_,U=>[U.reverse]|a::r,w+1,U=>bf y r w U
 |a::r,0,U=>match pre y (a::r)with|true=>U.reverse::bf y r (y.length-1) []|false=>bf y r 0<|a::U
noncomputable def l0:List Nat->Bool|[]=>true|c::r=>match Nat.blt c 256 with|true=>l0 r|false=>false
noncomputable def jn(y:List Nat):List (List Nat)->List Nat|[]=>[]|[a]=>a|a::b::r=>a++y++jn y (b::r)
noncomputable def b2(x y:List Nat):Bool:=pre y.reverse x.reverse
noncomputable def lL:List Nat->List Nat->Bool|[],[]=>false|[],_::_=>true|_::_,[]=>false|a::x,b::y=>match Nat.blt a b with|true=>true|false=>match Nat.beq a b with|true=>lL x y|false=>false
noncomputable def du:Int->Int->Bool|.ofNat a,.ofNat b=>Nat.blt a b|.negSucc _,.ofNat _=>true|.ofNat _,.negSucc _=>false|.negSucc a,.negSucc b=>Nat.blt b a
noncomputable def jW:Int->Int->Bool|.ofNat a,.ofNat b=>Nat.beq a b|.negSucc a,.negSucc b=>Nat.beq a b|_,_=>false
noncomputable def d8(i:Int)(n:Nat):Nat:=match i with
 |.ofNat k=>match Nat.ble k n with|true=>k|false=>n
 |.negSucc k=>n-(k+1)
noncomputable def tJ(i:Int)(n:Nat):Option Nat:=match i with
 |.ofNat k=>match Nat.blt k n with|true=>some k|false=>none
 |.negSucc k=>match Nat.ble (k+1) n with|true=>some (n-(k+1))|false=>none
noncomputable def fM{f:Type}(lo j:Nat)(x:List f):List f:=(x.drop lo).take<|j-lo
noncomputable def c9(i:Int):Bool:=match i with|.ofNat k=>Nat.blt k 4611686018427387904|.negSucc k=>Nat.blt k 4611686018427387904
noncomputable def cq(n:Nat):Bool:=Nat.ble n lim
set_option genCtorIdx true in
inductive R(f:Type)where|ok (a:f) (H:aq)|exc (i:Nat) (H:aq)
abbrev M(f:Type):=Option<|R f
noncomputable def bd{f h:Type}(m:M f)(k:f->aq->M h):M h:=match m with
 |some (.ok a H)=>k a H|some (.exc i H)=>some<|.exc i H
 |none=>none
noncomputable def rt{f:Type}(a:f)(H:aq):M f:=some<|.ok a H
noncomputable def pB{f h:Type}(m:M f)(k:f->aq->M h):M h:=match m with|some (.ok a H)=>k a H|_=>none
noncomputable def as{f:Type}(b:Bool)(m:M f):M f:=match b with|true=>m|false=>none
set_option genCtorIdx true in
inductive Fl where|next|brk|cont|ret (v:V)
set_option genCtorIdx true in
inductive RS where|ok (z:Fl) (l:Loc) (H:aq)|exc (i:Nat) (l:Loc) (H:aq)
abbrev MS:=Option RS
structure Fn where
 params:List Str
 dz:List V
 body:List Stmt
 scope:Scope
structure Cl where
 init:Option Addr
 eC:List (Str×Addr)
 exc:Bool
 own:List Str
structure cx where
 G:List (Str×V)
 B:List (Str×eu)
 fns:List (Addr×Fn)
 cls:List (Addr×Cl)
 sub:List (Addr×List Addr)
 il:Addr
 gz:Addr
 ge:Str
structure bh where
 sc:List (Str×NameKind)
 hd:Option Nat
 lam:Option (Addr×Str)
abbrev ap:=Option Nat->V->List V->aq->M V
noncomputable def ca:List (List Nat)->Nat|[]=>0|x::r=>x.length+ca r
noncomputable def ob{f h:Type}(o:Option f)(k:f->Option h):Option h:=match o with|some a=>k a|none=>none
noncomputable def np:V->Option (List V)|.tup l=>some l|_=>none
noncomputable def fG:V->Option Nat|.ref i=>some i|_=>none
noncomputable def ef:V->Option (List Nat)|.str x=>some x|_=>none
noncomputable def fQ:V->Option Int|.int i=>some i|_=>none
noncomputable def m7(a:V):Option Nat:=ob (fQ a) λi=>match i with|.ofNat k=>some k|.negSucc _=>none
noncomputable def jD:Option au->Option (List<|Str×V)|some o=>(match o with|.dict f=>some f|_=>none)|none=>none
noncomputable def dn:Option au->Option (List V)|some o=>(match o with|.list l=>some l|_=>none)|none=>none
noncomputable def nj(a b:V)(H:aq):M V:=match a with
 |.int x=>ob (fQ b) λy=>rt (.int<|x+y) H|.str x=>ob (ef b) λy=>as (cq<|x.length+y.length)<|rt (.str<|x++y) H
 |.tup x=>ob (np b) λy=>as (cq<|x.length+y.length)<|rt (.tup<|x++y) H
 |.ref i=>ob (fG b) λj=>ob (dn H[i]?) λl=>ob (dn H[j]?) λm=>as (cq<|l.length+m.length)<|rt (.ref H.length)<|H++[.list<|l++m]
 |_=>none
noncomputable def tQ(a b:V)(H:aq):M V:=match a with
 |.int x=>ob (fQ b) λy=>as (c9 x||c9 y)<|rt (.int<|x*y) H
 |.ref i=>ob (m7 b) λk=>ob (dn H[i]?) λl=>as (Nat.ble k 16&&Nat.ble l.length 16)<|rt (.ref H.length)<|H++[.list (List.replicate k l).flatten]
 |_=>none
noncomputable def pK(a b:V)(c:Int->Int->Bool)(z:Int->Int->Int)(H:aq):M V:=ob (fQ a) λx=>ob (fQ b) λy=>as (c x y)<|rt (.int<|z x y) H
noncomputable def bin(op:Operator)(a b:V)(H:aq):M V:=match op with|.Add=>nj a b H|.Sub=>pK a b (λ_ _=>true) (λx y=>x-y) H|.Mult=>tQ a b H|.FloorDiv=>pK a b (λ_ y=>du 0 y&&c9 y) Int.fdiv H|.Mod=>pK a b (λ_ y=>du 0 y) Int.fmod H|.Pow=>pK a b (λx y=>jW x 10&&jW y 18) (λ_ _=>1000000000000000000) H|_=>none
noncomputable def k8:List V->Option (List<|List Nat)|[]=>some []|a::r=>ob (ef a) λx=>ob (k8 r) λl=>some<|x::l
noncomputable def gS:V->Bool|.none=>true|_=>false
noncomputable def all2(z:V->V->Option Bool):List V->List V->Option Bool
 |[],m=>(match m with|[]=>some true|_::_=>some false)
 |a::l,m=>(match m with|[]=>some false|b::m=>ob (z a b) λx=>ob (all2 z l m) λy=>some<|match x with|true=>y|false=>false)
noncomputable def oQ(z:V->V->Option Bool)(o p:Option au):Option Bool:=ob (dn o) λl=>ob (dn p) λm=>match Nat.beq l.length m.length with|true=>all2 z l m|false=>some false
noncomputable def same:Nat->aq->V->V->Option Bool
 |0,_,_,_=>none
 |n+1,H,a,b=>match a with
  |.none=>(match b with|.none=>some true|.int _=>some false|.str _=>some false|_=>none)|.int x=>(match b with|.int y=>some (jW x y)|.none=>some false|_=>none)|.bool x=>(match b with|.bool y=>some (x==y)|_=>none)|.str x=>(match b with|.str y=>some (ar x y)|.none=>some false|_=>none)|.tup l=>ob (np b)<|all2 (same n H) l
  |.ref i=>ob (fG b) λj=>oQ (same n H) H[i]? H[j]?|_=>none
noncomputable def fK(x:List Nat):List V->Option Bool|[]=>some false|a::r=>ob (ef a) λy=>ob (fK x r) λq=>some<|match ar x y with|true=>true|false=>q
noncomputable def wP(x:List Nat):au->Option Bool|.list l=>fK x l|.dict es=>some (aC ⟨x.toArray⟩ es).isSome|_=>none
noncomputable def QT(x:List Nat)(b:V)(H:aq):Option Bool:=match b with|.str y=>some (bq x y).isSome|.ref i=>ob H[i]? (wP x)|_=>none
noncomputable def uk(a b:V)(H:aq):Option Bool:=ob (ef a) λx=>QT x b H
noncomputable def lC(a b:V)(z:Int->Int->Bool):Option Bool:=ob (fQ a) λx=>ob (fQ b) λy=>some<|z x y
noncomputable def qq(a b:V)(z:List Nat->List Nat->Bool):Option Bool:=ob (ef a) λx=>ob (ef b) λy=>some<|z x y
noncomputable def cN(op:CmpOp)(a b:V)(H:aq):Option Bool:=match op with
 |.Lt=>lC a b du
 |.LtE=>(match ef a with|some _=>qq a b λx y=>!lL y x|none=>lC a b λx y=>!du y x)
 |.Gt=>lC a b λx y=>du y x|.GtE=>lC a b λx y=>!du x y|.Eq=>same 40 H a b|.NotEq=>(same 40 H a b).map (!·)|.Is=>(match gS b with|true=>some (gS a)|false=>none)|.IsNot=>(match gS b with|true=>some (!gS a)|false=>none)|.In=>uk a b H|.NotIn=>(uk a b H).map (!·)
noncomputable def rA(i:V)(l:List V):Option V:=ob (fQ i) λn=>ob (tJ n l.length) λj=>l[j]?
noncomputable def atS(i:V)(x:List Nat):Option V:=ob (fQ i) λn=>ob (tJ n x.length) λj=>ob x[j]? λc=>some<|.str [c]
noncomputable def rI(i:V):au->Option V|.list l=>rA i l|.dict es=>ob (ef i) λx=>aC ⟨x.toArray⟩ es|_=>none
noncomputable def q8(a i:V)(H:aq):Option V:=match a with|.str x=>atS i x|.tup l=>rA i l|.ref r=>ob H[r]? (rI i)|_=>none
noncomputable def uH:Option V->Option (Option Int)|none=>some none|some a=>ob (fQ a) λi=>some<|some i
noncomputable def Ip(x:List Nat):Option Int->Option Int->Option V
 |none,h=>(match h with|none=>none|some j=>aB (c9 j) (some<|.str<|fM 0 (d8 j x.length) x) none)
 |some i,h=>(match h with|none=>aB (c9 i) (some<|.str<|fM (d8 i x.length) x.length x) none|some j=>aB (c9 i&&c9 j) (some<|.str<|fM (d8 i x.length) (d8 j x.length) x) none)
noncomputable def gN(a:V)(lo j:Option V):Option V:=ob (ef a) λx=>ob (uH lo) λl=>ob (uH j) λh=>Ip x l h
noncomputable abbrev q7:Str:=⟨#[115,116,97,114,116,115,119,105,116,104]⟩
noncomputable abbrev qd:Str:=⟨#[101,110,100,115,119,105,116,104]⟩
noncomputable abbrev mu:Str:=⟨#[102,105,110,100]⟩
noncomputable abbrev qS:Str:=⟨#[106,111,105,110]⟩
noncomputable abbrev q1:Str:=⟨#[115,112,108,105,116]⟩
noncomputable abbrev tc:Str:=⟨#[114,101,112,108,97,99,101]⟩
noncomputable abbrev ic:Str:=⟨#[97,112,112,101,110,100]⟩
noncomputable abbrev jY:Str:=⟨#[112,111,112]⟩
noncomputable abbrev ja:Str:=⟨#[101,120,116,101,110,100]⟩
noncomputable abbrev pi:Str:=⟨#[95,95,105,110,105,116,95,95]⟩
noncomputable def hj:Option Nat->Int|some k=>k|none=>-1
noncomputable def fR(l:List V)(k:V->M V):M V:=match l with|[]=>none|a::r=>match r with|[]=>k a|_::_=>none
noncomputable def hA(l:List V)(k:V->V->M V):M V:=match l with
 |[]=>none
 |a::r=>match r with|[]=>none|b::r=>match r with|[]=>k a b|_::_=>none
noncomputable def vInt(a:V)(k:Int->M V):M V:=match a with|.int i=>k i|_=>none
noncomputable def s4(a:V)(k:Nat->M V):M V:=vInt a λi=>match i with|.ofNat i=>k i|.negSucc _=>none
noncomputable def vStr(a:V)(k:List Nat->M V):M V:=match a with|.str x=>k x|_=>none
noncomputable def ra(a:V)(k:Nat->M V):M V:=match a with|.ref i=>k i|_=>none
noncomputable def ip(o:Option au)(k:List V->M V):M V:=match o with|some o=>(match o with|.list l=>k l|_=>none)|none=>none
noncomputable def ro(l:List V)(f:List Nat->M V)(k2:List Nat->Nat->M V):M V:=match l with
 |[]=>none
 |a::r=>vStr a λy=>match r with|[]=>f y|b::r=>match r with|[]=>s4 b (k2 y)|_::_=>none
noncomputable def nu(x:List Nat)(k:Nat->M V):M V:=match x with|[]=>none|c::r=>match r with|[]=>k c|_::_=>none
noncomputable def e8(m:Str)(x:List Nat)(args:List V)(H:aq):M V:=
 aB (sq m q7) (ro args (λy=>rt (.bool<|pre y x) H) λy i=>rt (.bool<|Nat.ble i x.length&&pre y (x.drop i)) H)<|
 aB (sq m qd) (ro args (λy=>rt (.bool<|b2 x y) H) λy i=>rt (.bool<|Nat.ble (i+y.length) x.length&&b2 x y) H)<|
 aB (sq m mu) (ro args (λy=>rt (.int<|hj<|bq y x) H) λy i=>as (Nat.ble 1 y.length)<|rt (.int<|hj<|(bq y<|x.drop i).map (·+i)) H)<|
 aB (sq m qS) (fR args λa=>ra a λr=>ip H[r]? λl=>ob (k8 l) λf=>as (cq<|ca f+f.length*x.length)<|rt (.str<|jn x f) H)<|
 aB (sq m q1) (fR args λa=>vStr a λy=>as (Nat.ble 1 y.length&&l0 y&&Nat.ble x.length 1000000)<|rt (.ref H.length)<|H++[.list<|(bf y x 0 []).map .str])<|
 aB (sq m tc) (hA args λa b=>vStr a λy=>vStr b λC=>nu y λc=>nu C λ_=>match bq [c] x with|none=>rt (.str x) H|some _=>none) none
noncomputable def eH(m:Str)(r:Nat)(l:List V)(args:List V)(H:aq):M V:=
 aB (sq m ic) (fR args λv=>as (cq<|l.length+1)<|rt .none<|H.set r<|.list<|l++[v])<|
 aB (sq m jY) (match args with
  |[]=>match l.getLast? with
   |some v=>rt v<|H.set r<|.list l.dropLast
   |none=>none
  |_::_=>none)<|
 aB (sq m ja) (fR args λa=>ra a λj=>ip H[j]? λn=>as (cq (l.length+n.length)&&!Nat.beq j r)<|rt .none<|H.set r<|.list<|l++n) none
noncomputable def insI(x:Int):List Int->List Int|[]=>[x]|y::r=>match du y x with|true=>y::insI x r|false=>x::y::r
noncomputable def sortI:List Int->List Int|[]=>[]|x::r=>insI x<|sortI r
noncomputable def mV:List V->Option (List Int)|[]=>some []|a::r=>ob (fQ a) λx=>ob (mV r) λl=>some<|x::l
noncomputable def hC:Nat->Nat->List Nat->List Nat|0,_,U=>U|z+1,n,U=>match Nat.ble 10 n with|true=>hC z (n/10) ((48+n%10)::U)|false=>(48+n)::U
noncomputable def qx(m:Str):Bool:=dY m [q7,qd,mu,qS,q1,tc]
noncomputable def ky(m:Str):Bool:=dY m [ic,jY,ja]
noncomputable def DN(a:V)(H:aq):M V:=match a with|.str x=>rt (.int x.length) H|.tup l=>rt (.int l.length) H|.ref i=>ip H[i]? λl=>rt (.int l.length) H|_=>none
noncomputable def zg(a:V)(H:aq):M V:=match a with|.int i=>rt (.int i) H|.bool b=>rt (.int<|match b with|true=>1|false=>0) H|_=>none
noncomputable def ku(x y:Int):Int:=match du x y with|true=>y|false=>x
noncomputable def xj(z:eu)(args:List V)(H:aq):M V:=match z with
 |.len=>fR args λa=>DN a H|.ord=>fR args λa=>vStr a λx=>nu x λc=>rt (.int c) H|.chr=>fR args λa=>s4 a λi=>as (Nat.ble i 1114111)<|rt (.str [i]) H
 |.max=>hA args λa b=>vInt a λx=>vInt b λy=>rt (.int<|ku x y) H|.sorted=>fR args λa=>ra a λi=>ip H[i]? λl=>ob (mV l) λns=>as (Nat.ble l.length 20)<|rt (.ref H.length)<|H++[.list<|(sortI ns).map .int]
 |.int=>fR args λa=>zg a H|.str=>fR args λa=>s4 a λi=>as (Nat.ble i 10000000)<|rt (.str<|hC 30 i []) H
 |.tuple=>fR args λa=>ra a λi=>ip H[i]? λl=>rt (.tup l) H
 |.range=>match args with
  |[]=>none
  |a::r=>vInt a λi=>match r with
   |[]=>as (c9 i)<|rt (.an 0 i) H
   |b::r=>match r with|[]=>vInt b λj=>as (c9 i&&c9 j) (rt (.an i j) H)|_::_=>none
 |.exception=>none
noncomputable def kL:V->Option Bool|.bool b=>some b|.none=>some false|_=>none
structure dQ where
 e:bh->Loc->Expr->aq->M V
 t:bh->Loc->Expr->aq->M Bool
 s:bh->Stmt->Loc->aq->MS
 wh:bh->Expr->List Stmt->Loc->aq->MS
 fr:bh->Expr->V->Nat->List Stmt->Loc->aq->MS
 lc:bh->Loc->Str->Expr->List Expr->V->Nat->List V->aq->M (List V)
noncomputable def dQ.bot:dQ:=⟨λ_ _ _ _=>none,λ_ _ _ _=>none,λ_ _ _ _=>none,λ_ _ _ _ _=>none,λ_ _ _ _ _ _ _=>none,λ_ _ _ _ _ _ _ _ _=>none⟩
section
variable(T:cx)(O:ap)(v:dQ)
noncomputable def ce(c:bh)(loc:Loc):List Expr->aq->M (List V)|[],H=>rt [] H|x::r,H=>bd (v.e c loc x H) λa H=>bd (ce c loc r H) λl H=>rt (a::l) H
noncomputable def lr(m:MS)(k:Loc->aq->MS):MS:=match m with
 |none=>none
 |some q=>match q with|.exc ..=>some q|.ok z loc H=>match z with|.next=>k loc H|_=>some q
noncomputable def cV(c:bh):List Stmt->Loc->aq->MS
 |[],loc,H=>some<|.ok .next loc H
 |x::r,loc,H=>lr (v.s c x loc H)<|cV c r
noncomputable def rV:Const->Option V
 |.none=>some .none|.bool b=>some<|.bool b
 |.int i=>some<|.int i
 |.str s=>aB (cq s.cps.toList.length) (some<|.str s.cps.toList) none|_=>none
noncomputable abbrev Bk:Str:=⟨#[95,95,99,108,97,115,115,100,105,99,116,95,95]⟩
noncomputable abbrev jv:Str:=⟨#[95,95,100,101,98,117,103,95,95]⟩
noncomputable def uJ:au->Option V|.cell v=>v|_=>none
noncomputable def oJ(loc:Loc)(x:Str)(H:aq):Option V:=aB (sq x Bk) none<|ob (aC x loc) λb=>ob (fG b) λi=>ob H[i]? uJ
noncomputable def we(x:Str)(o:Option V):Option V:=match o with|some a=>some a|none=>ob (aC x T.B) λb=>some<|.blt b
noncomputable def Dl(loc:Loc)(x:Str)(H:aq)(k:NameKind):Option V:=match k with|.local=>aC x loc|.cell=>oJ loc x H|.free=>oJ loc x H|.globalExplicit=>none|.globalImplicit=>we T x<|aC x T.G
noncomputable def lG(c:bh)(loc:Loc)(x:Str)(H:aq):Option V:=aB (sq x jv) none<|ob (aC x c.sc)<|Dl T loc x H
noncomputable def hr(c:bh)(loc:Loc)(x:Str)(H:aq):M V:=ob (lG T c loc x H) λa=>rt a H
noncomputable def ur(m:Str)(k:Cl)(i:Nat)(H:aq)(o:Option V):M V:=match o with
 |some b=>as (dY m k.own)<|rt b H
 |none=>ob (aC m k.eC) λz=>rt (.bm z i) H
noncomputable def TQ(m:Str)(i:Nat)(H:aq)(o:au):M V:=match o with
 |.inst E f=>ob (bi E T.cls) λk=>aB k.exc none<|ur m k i H<|aC m f
 |.exc E h _=>ob (bi E T.cls) λk=>as k.exc<|ob h λj=>ob (jD H[j]?) λf=>ob (aC m f) λb=>as (dY m k.own)<|rt b H
 |_=>none
noncomputable def mf(a:V)(m:Str)(H:aq):M V:=ob (fG a) λi=>ob H[i]? (TQ T m i H)
noncomputable def dV(hd:Option Nat)(z:Addr)(D:List V)(H:aq):M V:=ob (bi z T.fns) λ_=>O hd (.fn z) D H
noncomputable def wg(n:Nat)(r:V)(H:aq):M V:=as (gS r)<|rt (.ref n) H
noncomputable def tZ(E:Addr)(b:Bool):au:=match b with|true=>.exc E none none|false=>.inst E []
noncomputable def Bz(hd:Option Nat)(E:Addr)(k:Cl)(D:List V)(H:aq):M V:=ob k.init λz=>bd (dV T O hd z (.ref H.length::D)<|H++[tZ E k.exc]) λr H'=>wg H.length r H'
noncomputable def pb:Option Nat->Bool|none=>true|some _=>false
noncomputable def Nx(hd:Option Nat)(b:eu):Bool:=match b with|.max=>pb hd|_=>true
noncomputable def sU(hd:Option Nat)(z:Addr)(D:List V)(H:aq)(o:Option Cl):M V:=match o with|some k=>Bz T O hd z k D H|none=>dV T O hd z D H
noncomputable def bP(hd:Option Nat)(a:V)(D:List V)(H:aq):M V:=match a with
 |.fn z=>sU T O hd z D H<|bi z T.cls
 |.blt b=>as (Nx hd b)<|xj b D H
 |.bm z i=>dV T O hd z (.ref i::D) H|.bX ..=>O hd a D H|_=>none
noncomputable def EU:au->Option Addr|.exc E _ _=>some E|_=>none
noncomputable def jP{f:Type}:Option f->Bool|none=>true|some _=>false
noncomputable def oN(D:List V)(H:aq):M V:=hA D λa b=>ob (fG a) λi=>ob (ef b) λ_=>ob H[i]? λo=>ob (EU o) λE=>ob (bi E T.cls) λk=>as k.exc<|rt .none H
noncomputable def uC(hd:Option Nat)(i:Nat)(m:Str)(H:aq)(args:aq->M (List V))(o:au):M V:=match o with
 |.list _=>as (ky m)<|bd (args H) λD H=>ob (dn H[i]?) λl=>eH m i l D H
 |.inst E f=>as (jP<|aC m f)<|ob (bi E T.cls) λk=>aB k.exc none<|ob (aC m k.eC) λz=>bd (args H) λD H=>dV T O hd z (.ref i::D) H
 |_=>none
noncomputable def z5(m:Str)(H:aq)(args:aq->M (List V))(b:eu):M V:=match b with
 |.exception=>as (sq m pi)<|bd (args H)<|oN T
 |_=>none
noncomputable def sR(hd:Option Nat)(a:V)(m:Str)(H:aq)(args:aq->M (List V)):M V:=match a with
 |.str x=>as (qx m)<|bd (args H) λD H=>e8 m x D H
 |.blt b=>z5 T m H args b|.fn E=>ob (bi E T.cls) λk=>ob (aC m k.eC) λz=>bd (args H) λD H=>dV T O hd z D H|.ref i=>ob H[i]? (uC T O hd i m H args)|_=>none
noncomputable def vZ:Option NameKind->Bool|some .cell=>true|some .free=>true|_=>false
noncomputable def g0(sc:List<|Str×NameKind)(loc:Loc):List (Str×NameKind)->Option (List<|Str×Nat)|[]=>some []|(x,.free)::r=>ob (aC x loc) λa=>ob (fG a) λi=>ob (g0 sc loc r) λl=>bif vZ (aC x sc)then some ((x,i)::l)else none|_::r=>g0 sc loc r
noncomputable def db:List (Str×Nat)->Loc|[]=>[]|(x,i)::r=>(x,.ref i)::db r
noncomputable def eB:List (Str×NameKind)->Loc->aq->Loc×aq
 |[],loc,H=>(loc,H)|(x,.cell)::r,loc,H=>eB r ((x,.ref H.length)::loc)<|H++[.cell none]
 |_::r,loc,H=>eB r loc H
noncomputable def s0(k:aq->M Bool)(u C:Bool)(H:aq):M Bool:=match u with|true=>rt C H|false=>match C with|true=>k H|false=>rt false H
noncomputable def dB{f:Type}:List f->Bool|[]=>true|_::_=>false
noncomputable def m'(c:bh)(loc:Loc)(a:V):List CmpOp->List Expr->aq->M Bool
 |[],_,_=>none
 |op::h,f,H=>match f with|[]=>none|x::f=>bd (v.e c loc x H) λb H=>ob (cN op a b H) λC=>s0 (m' c loc b h f) (dB f) C H
noncomputable def rT(op:BoolOp)(b:Bool):Bool:=match op with|.And=>(match b with|true=>false|false=>true)|.Or=>b
noncomputable def rL(c:bh)(loc:Loc)(op:BoolOp):List Expr->aq->M V
 |[],_=>none
 |x::r,H=>match r with
  |[]=>v.e c loc x H
  |_::_=>bd (v.e c loc x H) λa H=>ob (kL a) λb=>match rT op b with|true=>rt a H|false=>rL c loc op r H
noncomputable def ze(op:BoolOp):Bool:=match op with|.And=>true|.Or=>false
noncomputable def lH(c:bh)(loc:Loc)(op:BoolOp):List Expr->aq->M Bool
 |[],H=>rt (ze op) H
 |x::r,H=>bd (v.t c loc x H) λb H=>match rT op b with|true=>rt b H|false=>lH c loc op r H
noncomputable def mz(c:bh)(loc:Loc)(x:Option Expr)(H:aq):M (Option V):=match x with|none=>rt none H|some x=>bd (v.e c loc x H) λa H=>rt (some a) H
noncomputable def Up:Expr->Option Expr|.Call z _ _ _=>some z|_=>none
noncomputable def mX(n:Nat)(x:Expr):Bool:=Nat.beq x.ctorIdx n
noncomputable def jr(n:Nat)(x:Expr):Bool:=match mX n x with|true=>false|false=>true
noncomputable def oe(x:Expr):Bool:=match Up x with|none=>true|some z=>jr 23 z
noncomputable def df:List Expr->Bool|[]=>true|x::r=>match jr 22 x with|true=>df r|false=>false
noncomputable def j0(x:Expr):Bool:=jr 7 x
noncomputable def hM:List Expr->Bool|[]=>true|x::r=>match j0 x with|true=>hM r|false=>false
noncomputable def mY(x:Expr):Bool:=jr 8 x&&(jr 9 x&&jr 10 x)
noncomputable def t5(a:Addr)(q:Str):Option (Addr×Str)->Bool|some b=>Nat.beq a b.1&&sq q b.2|none=>false
noncomputable def u9:NameKind->NameKind->Bool|.local,.local=>true|.cell,.cell=>true|.free,.free=>true|.globalImplicit,.globalImplicit=>true|_,_=>false
noncomputable def wk(o:Option NameKind)(k:NameKind):Bool:=match o with|some j=>u9 j k|none=>false
noncomputable def rQ(all:List<|Str×NameKind):List (Str×NameKind)->Bool|[]=>true|(x,k)::r=>wk (aC x all) k&&rQ all r
noncomputable def iu(sc:Scope):Bool:=rQ sc.names sc.names&&(match sc.kind with|.function=>true|_=>false)&&!sc.isGenerator&&!sc.isCoroutine
noncomputable def im:List (Str×NameKind)->Bool|[]=>true|(_,k)::r=>match u9 k .cell with|true=>false|false=>im r
noncomputable def eX(aY:V)(H:aq):Bool:=match aY with
 |.str _=>true|.tup _=>true|.an lo j=>c9 lo&&c9 j
 |.ref r=>match H[r]? with|some (.list _)=>true|_=>false
 |_=>false
noncomputable def kC:Expr->Option (Option Expr×Option Expr)|.Slice lo j none _=>some (lo,j)|_=>none
noncomputable def hU:Expr->Option (Expr×Str×Pos)|.Attribute e m p=>some (e,m,p)|_=>none
noncomputable def mc:Expr->Option Str|.Name x _=>some x|_=>none
noncomputable def tA{f:Type}:List f->Option f|[]=>none|a::r=>match r with|[]=>some a|_::_=>none
noncomputable def v6(l:List Comprehension):Option (Str×Expr×List Expr):=ob (tA l) λg=>aB (jW g.is_async 0) (ob (mc g.target) λx=>some (x,g.iter,g.ifs)) none
noncomputable def El:Arguments->Bool|⟨[],[],none,[],[],none,[]⟩=>true|_=>false
noncomputable def ec(c:bh)(loc:Loc)(x:Expr)(H:aq):M V:=match x with
 |.Constant k _ _=>ob (rV k) λa=>rt a H|.Name x _=>hr T c loc x H|.Attribute e m _=>as (oe e)<|bd (v.e c loc e H) λa H=>mf T a m H
 |.Subscript e i _=>match kC i with|some p=>bd (v.e c loc e H) λa H=>bd (mz v c loc p.1 H) λl H=>bd (mz v c loc p.2 H) λh H=>ob (gN a l h) λr=>rt r H|none=>bd (v.e c loc e H) λa H=>bd (v.e c loc i H) λb H=>ob (q8 a b H) λr=>rt r H
 |.Compare l f rs _=>as (hM rs&&Nat.beq f.length rs.length)<|bd (v.e c loc l H) λa H=>bd (m' v c loc a f rs H) λb H=>rt (.bool b) H
 |.BoolOp op D _=>rL v c loc op D H
 |.UnaryOp op x _=>match op with|.Not=>bd (v.e c loc x H) λa H=>ob (kL a) λb=>rt (.bool<|!b) H|.USub=>bd (v.e c loc x H) λa H=>ob (fQ a) λi=>rt (.int<|-i) H|_=>none
 |.BinOp l op r _=>bd (v.e c loc l H) λa H=>bd (v.e c loc r H) λb H=>bin op a b H|.IfExp t a b _=>bd (v.t c loc t H) λq H=>match q with|true=>v.e c loc a H|false=>v.e c loc b H
 |.Tuple es _ _=>as (df es&&cq es.length)<|bd (ce v c loc es H) λl H=>rt (.tup l) H
 |.List es _=>as (df es&&cq es.length)<|bd (ce v c loc es H) λl H=>rt (.ref H.length)<|H++[.list l]
 |.Dict J D _=>match J with|[]=>(match D with|[]=>rt (.ref H.length) (H++[.dict []])|_::_=>none)|_::_=>none
 |.Call z args J p=>match J with
  |[]=>(match hU z with
   |some q=>as (oe q.1&&df args&&Nat.blt args.length 30&&Nat.beq q.2.2.endLine p.line)<|bd (v.e c loc q.1 H) λa H=>sR T O c.hd a q.2.1 H<|ce v c loc args
   |none=>as (df args)<|bd (v.e c loc z H) λa H=>bd (ce v c loc args H) λD H=>as (Nat.blt D.length 30)<|bP T O c.hd a D H)
  |_::_=>none
 |.ListComp u j scope _=>ob (v6 j) λg=>as (j0 g.2.1&&iu scope&&pb c.hd)<|ob (g0 c.sc loc scope.names) λcl=>bd (v.e c loc g.2.1 H) λaY H=>as (eX aY H)<|pB (v.lc ⟨scope.names,c.hd,c.lam⟩ (eB scope.names (db cl) H).1 g.1 u g.2.2 aY 0 [] (eB scope.names (db cl) H).2) λl H=>rt (.ref H.length)<|H++[.list l]
 |.Lambda U e scope _=>as (El U)<|as (iu scope&&im scope.names&&t5 T.gz T.ge c.lam)<|ob (g0 c.sc loc scope.names) λcl=>rt (.bX e scope cl) H
 |_=>none
noncomputable def stepT(c:bh)(loc:Loc)(x:Expr)(H:aq):M Bool:=match x with
 |.Compare l f rs _=>as (hM rs&&Nat.beq f.length rs.length)<|bd (v.e c loc l H) λa H=>m' v c loc a f rs H
 |.UnaryOp .Not x _=>bd (v.t c loc x H) λb H=>rt (!b) H|.BoolOp op D _=>lH v c loc op D H|.IfExp ..=>none|x=>bd (v.e c loc x H) λa H=>ob (kL a) λb=>rt b H
noncomputable def cJ{f:Type}(o:Option f)(k:f->MS):MS:=match o with|some a=>k a|none=>none
noncomputable def fV(b:Bool)(m:MS):MS:=match b with|true=>m|false=>none
noncomputable def ea{f:Type}(m:M f)(loc:Loc)(k:f->aq->MS):MS:=match m with
 |some (.ok a H)=>k a H|some (.exc i H)=>some<|.exc i loc H
 |none=>none
noncomputable def DZ(o:au):Bool:=match o with|.cell _=>true|_=>false
noncomputable def GX(a:V)(loc:Loc)(H:aq)(i:Nat):MS:=cJ H[i]? λo=>fV (DZ o)<|some<|.ok .next loc<|H.set i<|.cell<|some a
noncomputable def F'(x:Str)(a:V)(loc:Loc)(H:aq)(k:NameKind):MS:=match k with
 |.local=>some<|.ok .next (put x a loc) H
 |.cell=>cJ (aC x loc) λb=>cJ (fG b)<|GX a loc H
 |_=>none
noncomputable def f9(c:bh)(x:Str)(a:V)(loc:Loc)(H:aq):MS:=cJ (aC x c.sc)<|F' x a loc H
noncomputable def tT(x:Expr):Bool:=mX 19 x
noncomputable def sL(x:Expr):Bool:=match mc x with|some y=>!sq y jv|none=>mX 16 x||(mX 24 x||(mX 20 x||(mX 5 x||mX 15 x)))
noncomputable def oS:Expr->Option (Expr×Expr)|.BinOp l _ r _=>some (l,r)|.Subscript x i _=>some (x,i)|_=>none
noncomputable def jE:Nat->Expr->Bool
 |0,x=>sL x
 |n+1,x=>match oS x with|some p=>(match jE n p.1 with|true=>true|false=>jE n p.2)|none=>sL x
noncomputable def pA:List Expr->Bool|[]=>true|x::r=>match tT x with|true=>pA r|false=>false
noncomputable def oY:List Expr->Bool|[]=>false|x::r=>match jE 8 x with|true=>true|false=>oY r
noncomputable def mT:Expr->Option (List Expr)|.Tuple es _ _=>some es|_=>none
noncomputable def og(t e:Expr):Bool:=match mT t with
 |none=>true
 |some _=>match mT e with|none=>true|some D=>match oY D with|true=>true|false=>pA D
noncomputable def Dy(m:MS)(k:Loc->aq->MS):MS:=match m with
 |none=>none
 |some q=>match q with|.exc ..=>none|.ok z loc H=>match z with|.next=>k loc H|_=>none
noncomputable def mI(c:bh):List Expr->List V->Loc->aq->MS
 |[],l,loc,H=>(match l with|[]=>some (.ok .next loc H)|_::_=>none)
 |t::r,l,loc,H=>(match l with|[]=>none|a::l=>cJ (mc t) λx=>Dy (f9 c x a loc H) λloc H=>mI c r l loc H)
noncomputable def Oy(m:Str)(a:V)(loc:Loc)(H:aq)(E:Addr)(i:Nat)(h x:Option Nat):MS:=match h with
 |none=>some<|.ok .next loc<|H.set i (.exc E (some H.length) x)++[.dict [(m,a)]]
 |some j=>cJ (jD H[j]?) λf=>fV (cq (put m a f).length)<|some<|.ok .next loc<|H.set j<|.dict<|put m a f
noncomputable def i7(m:Str)(a:V)(loc:Loc)(i:Nat)(H:aq)(o:au):MS:=match o with
 |.inst E f=>cJ (bi E T.cls) λk=>fV (dY m k.own&&cq (put m a f).length)<|some<|.ok .next loc<|H.set i<|.inst E<|put m a f
 |.exc E h x=>cJ (bi E T.cls) λk=>fV (k.exc&&dY m k.own)<|Oy m a loc H E i h x
 |_=>none
noncomputable def E6(j a:V)(loc:Loc)(r:Nat)(H:aq)(o:au):MS:=match o with
 |.list l=>cJ (m7 j) λk=>fV (Nat.blt k l.length)<|some<|.ok .next loc<|H.set r<|.list<|l.set k a
 |.dict es=>cJ (ef j) λx=>fV (cq<|es.length+1)<|some<|.ok .next loc<|H.set r<|.dict<|put ⟨x.toArray⟩ a es
 |_=>none
noncomputable def i'(c:bh)(t:Expr)(a:V)(loc:Loc)(H:aq):MS:=match t with
 |.Name x _=>f9 c x a loc H|.Tuple f _ _=>cJ (np a) λl=>match c.hd with|none=>mI c f l loc H|some _=>none
 |.Attribute e m _=>ea (v.e c loc e H) loc λb H=>cJ (fG b) λi=>cJ H[i]? (i7 T m a loc i H)|.Subscript e i _=>ea (v.e c loc e H) loc λb H=>ea (v.e c loc i H) loc λj H=>cJ (fG b) λr=>cJ H[r]? (E6 j a loc r H)|_=>none
noncomputable def jq(H:aq)(i:Nat):Nat->Option Nat->Bool
 |_,none=>true|0,some _=>false
 |n+1,some j=>match Nat.beq i j with
  |true=>false
  |false=>match H[j]? with|some (.exc _ _ c)=>jq H i n c|_=>false
noncomputable def p1:au->Option (Addr×Option Nat)|.exc E f _=>some (E,f)|_=>none
noncomputable def lR(hd:Option Nat)(i:Nat)(H:aq)(p:Addr×Option Nat):Option (Nat×aq):=match hd with
 |none=>some (i,H)
 |some j=>match Nat.beq i j with
  |true=>some (i,H)
  |false=>match jq H i 2 (some j)with|true=>some (i,H.set i<|.exc p.1 p.2<|some j)|false=>none
noncomputable def Be(hd:Option Nat)(i:Nat)(H:aq):Option (Nat×aq):=ob H[i]? λo=>ob (p1 o) λp=>ob (bi p.1 T.sub) λ_=>lR hd i H p
noncomputable def nN(hd:Option Nat)(loc:Loc)(a:V)(H:aq):MS:=cJ (fG a) λi=>cJ (Be T hd i H) λq=>some<|.exc q.1 loc q.2
noncomputable def Ee:V->Option Addr|.fn d=>some d|_=>none
noncomputable def tK(E:Addr)(aa:V):Option Bool:=ob (Ee aa) λd=>ob (bi E T.sub) λl=>ob (bi d T.sub) λ_=>some<|l.any<|Nat.beq d
noncomputable def ua(k:NameKind):Bool:=match k with|.local=>true|_=>false
noncomputable def lx(x:Str)(q:RS):RS:=match q with|.ok z loc H=>.ok z (kw x loc) H|.exc j loc H=>.exc j (kw x loc) H
noncomputable def xR(c:bh)(i:Nat)(nm:Option Str)(body:List Stmt)(loc:Loc)(H:aq):MS:=match nm with|none=>cV v ⟨c.sc,some i,c.lam⟩ body loc H|some x=>cJ (aC x c.sc) λk=>fV (ua k)<|cJ (cV v ⟨c.sc,some i,c.lam⟩ body (put x (.ref i) loc) H) λq=>some<|lx x q
noncomputable def qw(c:bh)(i:Nat)(E:Addr):List ExceptHandler->Loc->aq->MS
 |[],loc,H=>some<|.exc i loc H
 |h::r,loc,H=>match h with
  |.ExceptHandler f nm body _=>cJ f λt=>cJ (mc t) λy=>cJ (lG T ⟨c.sc,some i,c.lam⟩ loc y H) λaa=>cJ (tK T E aa) λb=>match b with|true=>xR v c i nm body loc H|false=>qw c i E r loc H
noncomputable def tI(c:bh)(f:List ExceptHandler)(i:Nat)(loc:Loc)(H:aq)(o:Option au):MS:=match o with|some (.exc E _ _)=>qw T v c i E f loc H|_=>none
noncomputable def x2(c:bh)(f:List ExceptHandler)(m:MS):MS:=match m with
 |none=>none|some (.ok z loc H)=>some<|.ok z loc H
 |some (.exc i loc H)=>tI T v c f i loc H H[i]?
noncomputable def ej(c:bh)(x:Stmt)(loc:Loc)(H:aq):MS:=match x with
 |.Expr e _=>fV (mY e)<|ea (v.e c loc e H) loc λ_ H=>some<|.ok .next loc H
 |.Assign u e _=>cJ (tA u) λt=>fV (mY e&&og t e)<|ea (v.e c loc e H) loc λa H=>i' T v c t a loc H
 |.AugAssign t op e _=>match op with|.Add=>cJ (mc t) λy=>ea (hr T c loc y H) loc λa H=>ea (v.e c loc e H) loc λb H=>cJ (fQ a) λi=>cJ (fQ b) λj=>f9 c y (.int<|i+j) loc H|_=>none
 |.If t a b _=>ea (v.t c loc t H) loc λq H=>match q with|true=>cV v c a loc H|false=>cV v c b loc H
 |.While t b dK _=>match dK with|[]=>v.wh c t b loc H|_::_=>none
 |.For t k b dK _=>match dK with
  |[]=>fV (j0 k&&pb c.hd)<|ea (v.e c loc k H) loc λaY H=>fV (eX aY H)<|v.fr c t aY 0 b loc H
  |_::_=>none
 |.Return x _=>match x with
  |none=>some<|.ok (.ret .none) loc H
  |some e=>ea (v.e c loc e H) loc λa H=>some<|.ok (.ret a) loc H
 |.Raise x y _=>match x with
  |some e=>(match y with|none=>ea (v.e c loc e H) loc λa H=>nN T c.hd loc a H|some _=>none)
  |none=>none
 |.Try b f dK bp _=>match f with
  |[]=>none
  |h::f=>(match dK with
   |[]=>(match bp with
    |[]=>x2 T v c (h::f)<|cV v c b loc H
    |_::_=>none)
   |_::_=>none)
 |.Pass _=>some<|.ok .next loc H
 |.Break _=>some<|.ok .brk loc H
 |.Continue _=>some<|.ok .cont loc H
 |_=>none
noncomputable def tD(c:bh)(t:Expr)(b:List Stmt)(loc:Loc)(H:aq):MS:=ea (v.t c loc t H) loc λq H=>match q with
 |false=>some<|.ok .next loc H
 |true=>match cV v c b loc H with
  |some (.ok .next loc H)=>v.wh c t b loc H|some (.ok .cont loc H)=>v.wh c t b loc H|some (.ok .brk loc H)=>some<|.ok .next loc H
  |o=>o
noncomputable def dC(aY:V)(k:Nat)(H:aq):Option (Option V):=match aY with
 |.str x=>some<|match x[k]? with|some c=>some (.str [c])|none=>none
 |.tup l=>some l[k]?|.an lo j=>some<|match du (lo+k) j with|true=>some (.int<|lo+k)|false=>none
 |.ref r=>match H[r]? with|some (.list l)=>some l[k]?|_=>none
 |_=>none
noncomputable def mn(c:bh)(t:Expr)(aY:V)(k:Nat)(b:List Stmt)(loc:Loc)(H:aq):MS:=match dC aY k H with
 |none=>none|some none=>some<|.ok .next loc H
 |some (some a)=>match i' T v c t a loc H with
  |some (.ok .next loc H)=>match cV v c b loc H with
   |some (.ok .next loc H)=>v.fr c t aY (k+1) b loc H|some (.ok .cont loc H)=>v.fr c t aY (k+1) b loc H|some (.ok .brk loc H)=>some<|.ok .next loc H
   |o=>o
  |o=>o
noncomputable def l9(c:bh)(loc:Loc)(x:Str)(f:Expr)(h:List Expr)(aY:V)(k:Nat)(U:List V)(H:aq):M (List V):=match dC aY k H with
 |none=>none|some none=>rt U H
 |some (some a)=>match f9 c x a loc H with
  |some (.ok .next loc H)=>pB (lH v c loc .And h H) λq H=>match q with|false=>v.lc c loc x f h aY (k+1) U H|true=>pB (v.e c loc f H) λb H=>as (cq<|U.length+1)<|v.lc c loc x f h aY (k+1) (U++[b]) H
  |_=>none
noncomputable def step:dQ:=⟨ec T O v,stepT v,ej T v,tD v,mn T v,l9 v⟩
end
noncomputable def ev(T:cx)(O:ap):Nat->dQ|0=>dQ.bot|n+1=>step T O<|ev T O n
noncomputable def EV(m:MS):Option (Loc×aq):=match m with
 |none=>none
 |some q=>match q with|.exc ..=>none|.ok z loc H=>match z with|.next=>some (loc,H)|_=>none
noncomputable def mb(c:bh):List Str->List V->Loc->aq->Option (Loc×aq)
 |[],l,loc,H=>(match l with|[]=>some (loc,H)|_::_=>none)
 |x::r,l,loc,H=>(match l with|[]=>none|a::l=>ob (EV<|f9 c x a loc H) λq=>mb c r l q.1 q.2)
noncomputable def fill(f:Nat)(dz args:List V):Option (List V):=aB (Nat.ble args.length f&&Nat.ble f (args.length+dz.length)) (some<|args++dz.drop (dz.length-(f-args.length))) none
noncomputable def pJ(q:RS):M V:=match q with
 |.ok z _ H=>(match z with
  |.ret a=>some<|.ok a H
  |.next=>some<|.ok .none H
  |_=>none)
 |.exc i _ H=>some<|.exc i H
noncomputable def yo(n:Nat)(T:cx)(O:ap)(hd:Option Nat)(lam:Option<|Addr×Str)(z:Fn)(args:List V)(H:aq):M V:=ob (fill z.params.length z.dz args) λD=>ob (mb ⟨z.scope.names,hd,lam⟩ z.params D (eB z.scope.names [] H).1 (eB z.scope.names [] H).2) λq=>ob (cV (ev T O n) ⟨z.scope.names,hd,lam⟩ z.body q.1 q.2) pJ
noncomputable def Ae(k:NameKind):Bool:=match k with|.free=>true|_=>false
noncomputable def m6(sc:List<|Str×NameKind):List (Str×Nat)->Bool
 |[]=>true
 |p::r=>match aC p.1 sc with|some k=>Ae k&&m6 sc r|none=>false
noncomputable def HI{f:Type}(l:List V)(m:M f):M f:=match l with|[]=>m|_::_=>none
noncomputable def aF(n:Nat)(T:cx)(O:ap):ap:=λhd a args H=>match a with
 |.fn z=>ob (bi z T.fns) λfn=>yo n T O hd (aB (Nat.beq z T.il) (some (T.gz,T.ge)) none) fn args H|.bX e sc cl=>HI args<|as (iu sc&&im sc.names&&m6 sc.names cl)<|(ev T O n).e ⟨sc.names,hd,none⟩ (db cl) e H
 |_=>none
def V.ref.inj(h:V.ref a=V.ref b):a=b:=by injection h
def V.tup.inj(h:V.tup a=V.tup b):a=b:=by injection h
def V.str.inj(h:V.str a=V.str b):a=b:=by injection h
def au.list.inj(h:au.list a=au.list b):a=b:=by injection h
section
open Builtin Builtin.ObjectAttr
noncomputable def eu.val:eu->Value|.len=>.builtin "len"|.ord=>.builtin "ord"|.chr=>.builtin "chr"|.max=>.builtin "max"|.sorted=>.builtin "sorted"|.int=>.type "int"|.str=>.type "str"|.tuple=>.type "tuple"|.range=>.type "range"|.exception=>.type "Exception"
noncomputable def lw:Value->Option Addr|.ref a=>some a|_=>none
noncomputable def yW(l:List Value):Bool:=l==[.type "object"]||l==[.type "Exception",.type "BaseException",.type "object"]
noncomputable def qc:List Value->Bool|[]=>false|v::r=>match lw v with|some _=>qc r|none=>yW<|v::r
noncomputable def xK(B:Frag)(E:Addr):Bool:=(clsIn B E).any λf=>qc f.mro
noncomputable def AF(b:Bool):String:=match b with|true=>"BaseException.__getattribute__"|false=>"object.__getattribute__"
noncomputable def xh(B:Frag)(E:Addr):Bool:=(clsIn B E).isSome
noncomputable def BX:Data->Option ClassData|.cls c=>some c|_=>none
noncomputable def Dx:List (Option Value)->Bool
 |[]=>false
 |_::l=>match l with
  |[]=>false
  |_::l=>match l with
   |[]=>false
   |_::l=>match l with
    |[]=>false
    |_::l=>match l with|[]=>false|v::l=>v==some (.builtin "Exception.__new__")&&Nat.beq l.length 1
noncomputable def CP(E:Addr):List Value->Bool|[]=>false|v::bm=>v==.ref E&&(bm.contains (.type "Exception")&&(!bm.contains (.type "AttributeError")&&!bm.contains (.type "NameError")))
noncomputable def GH(B:Frag)(E:Addr)(o:Obj)(f:ClassData):Bool:=o.cls==.type "type"&&(CP E f.mro&&(Dx o.slots.toList&&(!f.hasDel&&(specialIn B (.ref E) "__call__"==some (some<|.builtin "type.__call__")&&instIn B (.ref E) (.type "type")==some true))))
noncomputable def E5(o:Option Bool):Bool:=match o with|some b=>b|none=>false
def uw(B:Frag)(E:Addr):Bool:=E5<|ob (B.lookup E) λo=>ob (BX o.data) λf=>some<|GH B E o f
noncomputable def dk{f:Type}(o:Option f)(z:f->Bool):Bool:=match o with|some y=>z y|none=>false
noncomputable def wu:Value->Option Str|.str x _=>some x|_=>none
noncomputable def yz:Value->Option Int|.int i _=>some i|_=>none
noncomputable def vy:Data->Option (Array Value)|.fields v=>some v|_=>none
noncomputable def Es:Data->Option (Array Value×Nat)|.seq v n=>some (v,n)|_=>none
noncomputable def CI:Data->Option FuncData|.func z=>some z|_=>none
noncomputable def Cd:Data->Bool|.plain=>true|_=>false
end
noncomputable def yk:List Expr->List V|[]=>[]|.Constant k _ _::r=>(match rV k with|some a=>a|none=>.none)::yk r|_::r=>.none::yk r
noncomputable def zl:List Arg->List Str|[]=>[]|a::r=>a.arg::zl r
def fnOf(a:Arguments)(b:List Stmt)(s:Scope):Fn:=⟨zl a.args,yk a.defaults,b,s⟩
noncomputable def xD:List Stmt->List Fn->List Fn|[],t=>t|.FunctionDef _ a b _ _ _ s _ _ _::r,t=>fnOf a b s::xD r t|_::r,t=>xD r t
noncomputable def tW:List Stmt->List Fn
 |[]=>[]|.FunctionDef _ a b _ _ _ s _ _ _::r=>fnOf a b s::tW r|.ClassDef _ _ _ b _ _ _ _ _ _ _::r=>xD b<|tW r
 |_::r=>tW r
noncomputable def ES{f:Type}:List Addr->List f->List (Addr×f)|a::r,x::l=>(a,x)::ES r l|_,_=>[]
noncomputable def Io:List Addr:=[21,49,56,63,70,77,84,91,98,105,112,126,147,191,198,206,213,220,228,235,242,249,256,263,270,277,284,291,305,312,317,325,332,346,353,360,367,374,395,402,409,416,437,444,451,458,472,480,487,494,505,512,519,526,533,540,547,554,561,575,582,589,596,603,610,617,631,638,645,652,659,666,673,680,687,694,701,708,715,720,727,734,741,748,755,762,769,783,790,797,804,811,818,825,847,854,861,868,875,882,889,896,918,939,946,953,967,974,981,988,1003,1011,1018,1025,1032,1039,1046,1053,1060,1067,1081,1088,1095,1100,1107,1112,1119,1126,1131,1138,1145,1152]
noncomputable def QR:List (Str×V):=[(⟨#[95,119,97,108,108]⟩,.fn 21),
 (⟨#[83,80,65,67,69,83,95,99,104,97,114,115]⟩,.str [32,9,10,13]),
 (⟨#[67,72,65,82,95,82,65,78,71,69,83]⟩,.tup [.tup [.int 32,.int 55295],.tup [.int 57344,.int 65533],.tup [.int 65536,.int 1114111]]),
 (⟨#[83,84,65,82,84,95,82,65,78,71,69,83]⟩,.tup [.tup [.int 192,.int 214],.tup [.int 216,.int 246],.tup [.int 248,.int 767],.tup [.int 880,.int 893],.tup [.int 895,.int 8191],.tup [.int 8204,.int 8205],.tup [.int 8304,.int 8591],.tup [.int 11264,.int 12271],.tup [.int 12289,.int 55295],.tup [.int 63744,.int 64975],.tup [.int 65008,.int 65533],.tup [.int 65536,.int 983039]]),
 (⟨#[77,79,82,69,95,82,65,78,71,69,83]⟩,.tup [.tup [.int 183,.int 183],.tup [.int 768,.int 879],.tup [.int 8255,.int 8256]]),
 (⟨#[70,73,82,83,84,95,66,69,89,79,78,68]⟩,.int 128),
 (⟨#[105,115,95,105,110,95,114,97,110,103,101,115]⟩,.fn 49),
 (⟨#[105,115,95,115,112,97,99,101]⟩,.fn 56),
 (⟨#[105,115,95,99,104,97,114]⟩,.fn 63),
 (⟨#[105,115,95,115,109,97,108,108,95,108,101,116,116,101,114]⟩,.fn 70),
 (⟨#[105,115,95,110,97,109,101,95,115,116,97,114,116]⟩,.fn 77),
 (⟨#[105,115,95,110,97,109,101,95,99,104,97,114]⟩,.fn 84),
 (⟨#[102,105,114,115,116,95,111,116,104,101,114]⟩,.fn 91),
 (⟨#[105,115,95,110,109,116,111,107,101,110]⟩,.fn 98),
 (⟨#[105,115,95,110,97,109,101]⟩,.fn 105),
 (⟨#[112,108,97,105,110,95,101,110,100,115]⟩,.fn 112),
 (⟨#[77,97,114,107,117,112,69,114,114,111,114]⟩,.fn 129),
 (⟨#[83,121,110,116,97,120,70,97,117,108,116]⟩,.fn 150),
 (⟨#[69,110,116,105,116,121,70,97,117,108,116]⟩,.fn 162),
 (⟨#[76,105,109,105,116,70,97,117,108,116]⟩,.fn 174),
 (⟨#[67,117,114,115,111,114]⟩,.fn 294),
 (⟨#[68,73,71,73,84,83]⟩,.str [48,49,50,51,52,53,54,55,56,57]),
 (⟨#[72,69,88,95,68,73,71,73,84,83]⟩,.str [48,49,50,51,52,53,54,55,56,57,97,98,99,100,101,102]),
 (⟨#[77,79,83,84,95,68,73,71,73,84,83]⟩,.int 12),
 (⟨#[118,97,108,117,101,95,111,102,95,100,105,103,105,116,115]⟩,.fn 305),
 (⟨#[119,105,116,104,111,117,116,95,110,111,117,103,104,116,115]⟩,.fn 312),
 (⟨#[99,111,100,101,95,111,102]⟩,.fn 317),
 (⟨#[99,104,97,114,95,111,102]⟩,.fn 325),
 (⟨#[112,114,101,100,101,102,105,110,101,100]⟩,.fn 332),
 (⟨#[86,65,76,85,69,95,83,80,65,67,69,83]⟩,.str [9,13,10]),
 (⟨#[71,114,111,119,116,104]⟩,.fn 377),
 (⟨#[80,101,110,100,105,110,103]⟩,.fn 419),
 (⟨#[83,116,97,99,107]⟩,.fn 461),
 (⟨#[103,114,111,119,116,104,95,102,111,114]⟩,.fn 472),
 (⟨#[116,101,120,116,95,105,110,95,118,97,108,117,101]⟩,.fn 480),
 (⟨#[115,105,103,110,95,111,114,95,101,110,116,105,116,121]⟩,.fn 487),
 (⟨#[98,108,97,110,107,95,115,112,97,99,101,115]⟩,.fn 494),
 (⟨#[67,79,77,77,69,78,84]⟩,.str [60,33,45,45]),
 (⟨#[67,68,65,84,65]⟩,.str [60,33,91,67,68,65,84,65,91]),
 (⟨#[68,79,67,84,89,80,69]⟩,.str [60,33,68,79,67,84,89,80,69]),
 (⟨#[79,80,69,78,73,78,71,83]⟩,.tup [.tup [.str [60,33,45,45],.str [99,111,109,109,101,110,116],.str [45,45,62]],.tup [.str [60,33,91,67,68,65,84,65,91],.str [99,100,97,116,97],.str [93,93,62]],.tup [.str [60,33,68,79,67,84,89,80,69],.str [100,111,99,116,121,112,101],.none]]),
 (⟨#[81,85,79,84,69,83]⟩,.str [34,39]),
 (⟨#[109,97,121,95,98,101,99,111,109,101]⟩,.fn 505),
 (⟨#[98,101,104,105,110,100]⟩,.fn 512),
 (⟨#[102,111,117,110,100,95,101,110,100]⟩,.fn 519),
 (⟨#[116,97,103,95,101,110,100]⟩,.fn 526),
 (⟨#[100,111,99,116,121,112,101,95,101,110,100]⟩,.fn 533),
 (⟨#[111,112,101,110,101,100,95,112,105,101,99,101]⟩,.fn 540),
 (⟨#[109,97,114,107,117,112,95,112,105,101,99,101]⟩,.fn 547),
 (⟨#[116,101,120,116,95,101,110,100]⟩,.fn 554),
 (⟨#[104,101,108,100,95,98,114,97,99,107,101,116,115]⟩,.fn 561),
 (⟨#[80,105,101,99,101,115]⟩,.fn 620),
 (⟨#[76,69,84,84,69,82,83]⟩,.str [97,98,99,100,101,102,103,104,105,106,107,108,109,110,111,112,113,114,115,116,117,118,119,120,121,122,65,66,67,68,69,70,71,72,73,74,75,76,77,78,79,80,81,82,83,84,85,86,87,88,89,90]),
 (⟨#[70,73,71,85,82,69,83]⟩,.str [48,49,50,51,52,53,54,55,56,57]),
 (⟨#[99,104,101,99,107,95,99,104,97,114,115]⟩,.fn 631),
 (⟨#[114,101,97,100,95,115,116,97,114,116]⟩,.fn 638),
 (⟨#[114,101,97,100,95,101,113,117,97,108,115]⟩,.fn 645),
 (⟨#[114,101,97,100,95,97,116,116,114,105,98,117,116,101]⟩,.fn 652),
 (⟨#[114,101,97,100,95,101,110,100]⟩,.fn 659),
 (⟨#[114,101,97,100,95,99,111,109,109,101,110,116]⟩,.fn 666),
 (⟨#[114,101,97,100,95,105,110,115,116,114,117,99,116,105,111,110]⟩,.fn 673),
 (⟨#[114,101,97,100,95,99,100,97,116,97]⟩,.fn 680),
 (⟨#[114,101,97,100,95,119,111,114,100,95,118,97,108,117,101]⟩,.fn 687),
 (⟨#[105,115,95,101,110,99,111,100,105,110,103]⟩,.fn 694),
 (⟨#[105,115,95,118,101,114,115,105,111,110]⟩,.fn 701),
 (⟨#[114,101,97,100,95,100,101,99,108,97,114,97,116,105,111,110]⟩,.fn 708),
 (⟨#[105,115,95,112,117,98,108,105,99,95,115,105,103,110]⟩,.fn 715),
 (⟨#[114,101,97,100,95,112,117,98,108,105,99]⟩,.fn 720),
 (⟨#[114,101,97,100,95,115,121,115,116,101,109]⟩,.fn 727),
 (⟨#[114,101,97,100,95,111,117,116,101,114,95,110,97,109,101]⟩,.fn 734),
 (⟨#[114,101,97,100,95,105,110,110,101,114]⟩,.fn 741),
 (⟨#[114,101,97,100,95,100,111,99,116,121,112,101]⟩,.fn 748),
 (⟨#[78,79,84,72,73,78,71]⟩,.int 0),
 (⟨#[65,72,69,65,68]⟩,.int 1),
 (⟨#[87,73,84,72,73,78]⟩,.int 2),
 (⟨#[66,69,72,73,78,68]⟩,.int 3),
 (⟨#[79,82,68,69,82,95,77,65,82,75,95,115,116,114,101,97,109]⟩,.str [65279]),
 (⟨#[77,79,83,84,95,68,69,69,80]⟩,.int 60),
 (⟨#[106,111,105,110,101,100,95,116,101,120,116,115]⟩,.fn 755),
 (⟨#[99,104,101,99,107,95,115,105,103,110,115]⟩,.fn 762),
 (⟨#[105,115,95,100,101,99,108,97,114,97,116,105,111,110]⟩,.fn 769),
 (⟨#[67,111,110,116,101,110,116]⟩,.fn 828),
 (⟨#[83,116,114,101,97,109]⟩,.fn 899),
 (⟨#[83,80,65,67,69,83,95,101,110,116,105,116,105,101,115]⟩,.str [32,9,13,10]),
 (⟨#[84,69,88,84,95,72,69,65,68]⟩,.str [60,63,120,109,108]),
 (⟨#[79,82,68,69,82,95,77,65,82,75,95,101,110,116,105,116,105,101,115]⟩,.str [65279]),
 (⟨#[76,105,109,105,116,115]⟩,.fn 921),
 (⟨#[69,110,116,105,116,121]⟩,.fn 956),
 (⟨#[112,108,97,105,110,95,114,101,102,101,114,101,110,99,101]⟩,.fn 967),
 (⟨#[112,97,115,115,95,104,101,97,100]⟩,.fn 974),
 (⟨#[119,105,116,104,111,117,116,95,104,101,97,100]⟩,.fn 981),
 (⟨#[112,108,97,105,110,95,111,117,116,101,114]⟩,.fn 988),
 (⟨#[69,110,116,105,116,121,84,97,98,108,101]⟩,.fn 1070),
 (⟨#[95,108,97,119,95,112,111,111,108]⟩,.fn 1081),
 (⟨#[95,108,97,119,95,116,97,107,101]⟩,.fn 1088),
 (⟨#[95,108,97,119,95,111,110,101]⟩,.fn 1095),
 (⟨#[95,108,97,119,95,99,117,116]⟩,.fn 1100),
 (⟨#[95,108,97,119,95,102,97,117,108,116,95,111,102]⟩,.fn 1107),
 (⟨#[95,108,97,119,95,115,116,97,121,115]⟩,.fn 1112),
 (⟨#[95,108,97,119,95,119,114,111,110,103]⟩,.fn 1119),
 (⟨#[95,108,97,119,95,114,105,103,104,116]⟩,.fn 1126),
 (⟨#[95,108,97,119,95,105,115,95,106,111,105,110,101,100]⟩,.fn 1131),
 (⟨#[95,108,97,119,95,116,111,108,100,95,114,105,103,104,116]⟩,.fn 1138),
 (⟨#[95,108,97,119,95,100,101,101,112,95,114,105,103,104,116]⟩,.fn 1145),
 (⟨#[108,97,119]⟩,.fn 1152)]
noncomputable def UM:List (Str×eu):=[(⟨#[108,101,110]⟩,.len),(⟨#[111,114,100]⟩,.ord),(⟨#[99,104,114]⟩,.chr),(⟨#[109,97,120]⟩,.max),(⟨#[115,111,114,116,101,100]⟩,.sorted),(⟨#[105,110,116]⟩,.int),(⟨#[115,116,114]⟩,.str),(⟨#[116,117,112,108,101]⟩,.tuple),(⟨#[114,97,110,103,101]⟩,.range),(⟨#[69,120,99,101,112,116,105,111,110]⟩,.exception)]
noncomputable def H5:List (Addr×Cl):=[(129,⟨some 126,[(⟨#[95,95,105,110,105,116,95,95]⟩,126)],true,[⟨#[109,101,115,115,97,103,101]⟩]⟩),
 (150,⟨some 147,[(⟨#[95,95,105,110,105,116,95,95]⟩,147)],true,[⟨#[112,108,97,99,101]⟩,⟨#[109,101,115,115,97,103,101]⟩]⟩),
 (162,⟨some 126,[(⟨#[95,95,105,110,105,116,95,95]⟩,126)],true,[⟨#[109,101,115,115,97,103,101]⟩]⟩),
 (174,⟨some 126,[(⟨#[95,95,105,110,105,116,95,95]⟩,126)],true,[⟨#[109,101,115,115,97,103,101]⟩]⟩),
 (294,⟨some 191,[(⟨#[95,95,105,110,105,116,95,95]⟩,191),(⟨#[105,115,95,111,118,101,114]⟩,198),(⟨#[112,101,101,107]⟩,206),(⟨#[108,111,111,107,115]⟩,213),(⟨#[102,97,117,108,116]⟩,220),(⟨#[116,97,107,101]⟩,228),(⟨#[115,107,105,112]⟩,235),(⟨#[101,120,112,101,99,116]⟩,242),(⟨#[117,110,116,105,108]⟩,249),(⟨#[97,104,101,97,100,95,111,102]⟩,256),(⟨#[115,112,97,99,101,115]⟩,263),(⟨#[110,101,101,100,95,115,112,97,99,101,115]⟩,270),(⟨#[110,97,109,101]⟩,277),(⟨#[113,117,111,116,101,100]⟩,284),(⟨#[108,105,110,101,95,111,102]⟩,291)],false,[⟨#[116,101,120,116]⟩,⟨#[97,116]⟩]⟩),
 (377,⟨some 346,[(⟨#[95,95,105,110,105,116,95,95]⟩,346),(⟨#[97,100,100]⟩,353),(⟨#[101,110,116,101,114]⟩,360),(⟨#[108,101,97,118,101]⟩,367),(⟨#[112,117,116,95,105,110]⟩,374)],false,[⟨#[108,105,109,105,116,115]⟩,⟨#[115,105,122,101]⟩,⟨#[111,112,101,110]⟩]⟩),
 (419,⟨some 395,[(⟨#[95,95,105,110,105,116,95,95]⟩,395),(⟨#[105,115,95,111,118,101,114]⟩,402),(⟨#[114,117,110]⟩,409),(⟨#[114,101,102,101,114,101,110,99,101]⟩,416)],false,[⟨#[116,101,120,116]⟩,⟨#[110,97,109,101]⟩,⟨#[97,116]⟩]⟩),
 (461,⟨some 437,[(⟨#[95,95,105,110,105,116,95,95]⟩,437),(⟨#[116,111,112]⟩,444),(⟨#[114,101,102,101,114,101,110,99,101]⟩,451),(⟨#[112,117,116,95,105,110]⟩,458)],false,[⟨#[103,114,111,119,116,104]⟩,⟨#[114,111,119,115]⟩,⟨#[98,101,103,105,110]⟩]⟩),
 (620,⟨some 575,[(⟨#[95,95,105,110,105,116,95,95]⟩,575),(⟨#[102,101,101,100]⟩,582),(⟨#[102,101,101,100,95,112,108,97,105,110]⟩,589),(⟨#[102,105,110,105,115,104]⟩,596),(⟨#[99,117,116]⟩,603),(⟨#[116,97,107,101]⟩,610),(⟨#[116,97,107,101,95,116,101,120,116]⟩,617)],false,[⟨#[116,101,120,116]⟩,⟨#[97,116]⟩,⟨#[112,108,97,99,101]⟩,⟨#[104,101,108,100]⟩,⟨#[115,101,101,110]⟩]⟩),
 (828,⟨some 783,[(⟨#[95,95,105,110,105,116,95,95]⟩,783),(⟨#[114,101,97,100]⟩,790),(⟨#[118,97,108,117,101]⟩,797),(⟨#[115,116,97,114,116]⟩,804),(⟨#[101,110,100]⟩,811),(⟨#[114,101,102,101,114,101,110,99,101]⟩,818),(⟨#[101,110,116,105,116,121,95,101,118,101,110,116,115]⟩,825)],false,[⟨#[101,110,116,105,116,105,101,115]⟩,⟨#[103,114,111,119,116,104]⟩,⟨#[110,97,109,101,115]⟩]⟩),
 (899,⟨some 847,[(⟨#[95,95,105,110,105,116,95,95]⟩,847),(⟨#[102,101,101,100]⟩,854),(⟨#[99,108,111,115,101]⟩,861),(⟨#[116,111,108,100]⟩,868),(⟨#[101,118,101,110,116,115,95,111,102]⟩,875),(⟨#[111,117,116,115,105,100,101]⟩,882),(⟨#[115,112,97,99,101]⟩,889),(⟨#[100,111,99,116,121,112,101]⟩,896)],false,[⟨#[99,111,110,116,101,110,116]⟩,⟨#[111,110,95,100,111,99,116,121,112,101]⟩,⟨#[112,105,101,99,101,115]⟩,⟨#[115,116,97,103,101]⟩,⟨#[104,97,115,95,100,111,99,116,121,112,101]⟩,⟨#[102,97,117,108,116]⟩]⟩),
 (921,⟨some 918,[(⟨#[95,95,105,110,105,116,95,95]⟩,918)],false,[⟨#[109,111,115,116,95,100,101,112,116,104]⟩,⟨#[109,111,115,116,95,115,105,122,101]⟩]⟩),
 (956,⟨some 939,[(⟨#[95,95,105,110,105,116,95,95]⟩,939),(⟨#[105,115,95,111,117,116,101,114]⟩,946),(⟨#[105,115,95,117,110,112,97,114,115,101,100]⟩,953)],false,[⟨#[110,97,109,101]⟩,⟨#[118,97,108,117,101]⟩,⟨#[115,121,115,116,101,109]⟩,⟨#[110,111,116,97,116,105,111,110]⟩]⟩),
 (1070,⟨some 1003,[(⟨#[95,95,105,110,105,116,95,95]⟩,1003),(⟨#[100,101,99,108,97,114,101]⟩,1011),(⟨#[101,110,116,105,116,121]⟩,1018),(⟨#[105,115,95,100,101,99,108,97,114,101,100]⟩,1025),(⟨#[105,115,95,117,110,112,97,114,115,101,100]⟩,1032),(⟨#[111,117,116,101,114,95,116,101,120,116]⟩,1039),(⟨#[116,101,120,116,95,111,102]⟩,1046),(⟨#[114,101,112,108,97,99,101,109,101,110,116]⟩,1053),(⟨#[105,110,110,101,114,95,114,101,112,108,97,99,101,109,101,110,116]⟩,1060),(⟨#[112,97,114,97,109,101,116,101,114]⟩,1067)],false,[⟨#[108,105,109,105,116,115]⟩,⟨#[111,117,116,101,114]⟩,⟨#[103,101,110,101,114,97,108]⟩,⟨#[112,97,114,97,109,101,116,101,114,115]⟩]⟩)]
noncomputable def Pc:List (Addr×List Addr):=[(129,[129]),(150,[150,129]),(162,[162,129]),(174,[174,129])]
def Jw(b:List Stmt):cx:=⟨QR,UM,ES Io<|tW b,H5,Pc,1112,1111,⟨#[95,108,97,119,95,115,116,97,121,115,46,60,108,111,99,97,108,115,62,46]⟩⟩
noncomputable def Ja:{t:cx//Jw PySem.Challenge.pw_sy0052_01.main.body=t}:=by refine⟨?p,?h⟩;case h=>conv=>lhs;reduce
noncomputable def tab:cx:=Ja.1
noncomputable def vR:List Addr->List Addr|[]=>[]|a::l=>a::(a-1)::vR l
noncomputable def h0(T:cx):List Addr:=vR (T.cls.map (·.1))++(cStatics::140::184::199::221::318::473::840::911::996::1004::vR (T.fns.map (·.1)))
noncomputable def gJ(g:Addr->Option Obj):List Addr->Frag
 |[]=>[]
 |a::l=>match g a with|some o=>(a,o)::gJ g l|none=>gJ g l
noncomputable def vo(o:Option CFound)(v:Value):Bool:=match o with|some c=>(match c with|.val u=>u==v|.get ..=>false)|none=>false
noncomputable def vh(B:Frag)(E:Addr)(x:Str):Bool:=(match findIn B (.ref E) x with|some a=>noGet B a|none=>false)&&takerIn B E x==some none
noncomputable def w8(B:Frag)(E:Addr)(p:Str×Addr):Bool:=findIn B (.ref E) p.1==some (some<|.ref p.2)&&(typeIn B (.ref p.2)==some (.type "function")&&(specialIn B (.ref p.2) "__get__"==some (some<|.builtin "function.__get__")&&
 (takesIn B (.ref p.2)==some false&&(!copiedNames.contains p.1&&vo (findCls B (.ref E) (.type "type") p.1) (.ref p.2)))))
def yf(B:Frag)(E:Addr)(k:Cl):Bool:=findIn B (.ref E) "__getattribute__"==some (some<|.builtin<|AF k.exc)&&(findIn B (.ref E) "__getattr__"==some none&&(hasDictIn B E&&((!k.exc||mroIn B E (.type "BaseException")==some true)&&(k.own.all (vh B E)&&(k.eC.all (w8 B E)&&
 (findIn B (.ref E) "__setattr__"==some (some<|.builtin "object.__setattr__")&&(xK B E&&(readsIn B E (.type "type")&&specialIn B (.ref E) "__getattribute__"==some (some<|.builtin "type.__getattribute__")))))))))
noncomputable def FO(B:Frag)(E:Addr):Option Addr->Bool|none=>true|some z=>findIn B (.ref E) "__init__"==some (some<|.ref z)&&typeIn B (.ref z)==some (.type "function")
def u3(B:Frag)(E:Addr)(k:Cl):Bool:=FO B E k.init&&((match k.exc with|true=>uw B E|false=>makesIn B E)&&keepIn B (.ref E))
def subB(B:Frag)(T:cx)(p:Addr×List Addr):Bool:=mroIn B p.1 (.type "BaseException")==some true&&(typeIn B (.ref p.1)==some (.type "type")&&(xh B p.1&&T.sub.all λq=>mroIn B p.1 (.ref q.1)==some (p.2.any<|Nat.beq q.1)))
def uF(o:Option Obj):Option (List Value):=ob o λo=>ob (Es o.data) λp=>aB (jP o.dict&&(dB o.slots.toList&&(o.cls==.type "tuple"&&Nat.beq p.2 0))) (some p.1.toList) none
def y6(x:List Nat)(v:Value):Bool:=dk (wu v) λy=>ar y.cps.toList x&&Nat.ble x.length lim
mutual
noncomputable def rS (g:Addr->Option (List Value)):V->Value->Bool
 |.tup l,v=>dk (lw v) λa=>dk (g a) λD=>Nat.ble D.length lim&&ms g l D|.fn z,v=>v==.ref z|.none,v=>v==.none|.bool b,v=>v==.bool b|.int i,v=>dk (yz v)<|jW i
 |.str x,v=>y6 x v|.ref _,_=>false|.blt _,_=>false|.bm _ _,_=>false|.an _ _,_=>false|.bX _ _ _,_=>false
noncomputable def ms (g:Addr->Option (List Value)):List V->List Value->Bool|[],D=>(match D with|[]=>true|_::_=>false)|a::l,D=>(match D with|[]=>false|v::D=>rS g a v&&ms g l D)
end
def rG(o:Option Obj):Option FuncData:=ob o λo=>ob (CI o.data) λfd=>aB (o.cls==.type "function") (some fd) none
abbrev vv:=Option<|Scope×FuncBody×List (Str×Addr)×Addr×Addr×List Arg×Option Arg×List Arg×Option Arg×List Str
def pW(B:Frag)(z:Addr):vv:=(rG<|B.lookup z).map λfd=>(fd.scope,fd.body,fd.closure,fd.globals,fd.builtins,fd.params.posonlyargs,fd.params.vararg,fd.params.kwonlyargs,fd.params.kwarg,fd.params.args.map (·.arg))
noncomputable def sV(fn:Fn):vv:=some (fn.scope,.stmts fn.body,[],mainGlobals,builtinsNs,[],none,[],none,fn.params)
def DA(B:Frag)(fd:FuncData)(l:List V):Bool:=(dB l&&fd.defaults==.none)||dk (lw fd.defaults) λaa=>dk (uF<|B.lookup aa)<|ms (λ_=>none) l
def zE(B:Frag)(fd:FuncData):Bool:=dk (lw fd.code) λc=>dk (B.lookup c) λo=>dk (vy o.data) λD=>dk (ob (D[1]? :Option Value) wu) λx=>sq x fd.qualname
noncomputable def tF:List Str->Bool|[]=>true|x::l=>!dY x l&&tF l
def zS(B:Frag)(p:Addr×Fn):Bool:=dk (rG<|B.lookup p.1) λfd=>DA B fd p.2.dz&&zE B fd
def xf(p:Addr×Fn):Bool:=iu p.2.scope&&(tF p.2.params&&Nat.ble p.2.dz.length p.2.params.length)
def Oq(B:Frag)(T:cx):Bool:=dk (rG<|B.lookup T.il) λfd=>fd.code==.ref T.gz&&sq (fd.qualname++(".<locals>.":Str)) T.ge
def ts(x:Str)(v:Value):Bool:=match v with|.str y _=>sq y x|_=>false
noncomputable def oI(x:Str):List DictEntry->Option Value|[]=>none|e::l=>match ts x e.key with|true=>some e.val|false=>oI x l
set_option backward.match.sparseCases true in
def mv(g:Addr->Option Obj)(a:Addr)(x:Str):Option Value:=match g a with|some o=>(match o.data with|.dict es _=>oI x es.toList|_=>none)|none=>none
set_option backward.match.sparseCases true in
noncomputable def wY(g:Addr->Option Obj)(a:Addr):Bool:=match g a with|some o=>(match o.data with|.dict es _=>es.all (λe=>match e.key with|.str _ _=>true|_=>false)|_=>false)|none=>false
def PT(g:Addr->Option Obj)(p:Str×V):Bool:=dk (mv g mainGlobals p.1)<|rS (λa=>uF<|g a) p.2
def zq(g:Addr->Option Obj)(T:cx)(p:Str×eu):Bool:=match aC p.1 T.G with|some _=>true|none=>(mv g mainGlobals p.1).isNone&&mv g builtinsNs p.1==some p.2.val
def Na(o:Option Obj):Bool:=dk o λo=>o.cls==.type "module"&&(o.dict==some builtinsNs&&Cd o.data)
def D5(g:Addr->Option Obj)(a3:Addr):Bool:=dk (ob (mv g mainGlobals "__builtins__") lw) λbm=>!Nat.beq bm builtinsNs&&(!Nat.beq bm mainGlobals&&(!Nat.beq bm a3&&Na (g bm)))
def Bu(o:Option Obj):Bool:=dk o λo=>o.cls==.none&&(jP o.dict&&(dB o.slots.toList&&dk (vy o.data) λD=>dB D.toList))
noncomputable def mw(z:Nat->Bool):Nat->Bool|0=>true|n+1=>match z n with|true=>mw z n|false=>false
noncomputable def Cv(o:Option Obj):Bool:=match o with|some o=>!(o.cls==.type "traceback")|none=>true
def un(T:cx)(B:Frag):Bool:=T.cls.all (λp=>yf B p.1 p.2)&&(T.cls.all (λp=>u3 B p.1 p.2)&&T.sub.all (subB B T))
def vG(T:cx)(B:Frag)(a3:Addr):Bool:=T.fns.all (zS B)&&(Oq B T&&(codeHdIn B T.gz a3&&(!((h0 T).any<|Nat.beq a3))))
def vK(g:Addr->Option Obj)(n:Nat)(T:cx)(a3:Addr):Bool:=mw (λa=>Cv<|g a) n&&(wY g mainGlobals&&(wY g builtinsNs&&(wY g cStatics&&((mv g cStatics "sys.recursionlimit").isNone&&(T.G.all (PT g)&&(T.B.all (zq g T)&&(D5 g a3&&(Bu (g a3)&&((g sysModules).isSome&&(!Nat.beq cStatics a3&&!Nat.beq sysModules a3))))))))))
noncomputable def oH(s:SharedT)(a:Addr):Option Obj:=match Nat.blt a s.n with|true=>(s.tree.get a).bind alive|false=>none
noncomputable def zw(s:SharedT):Bool:=mw (λa=>(s.tree.get a).isSome) s.n
def yL:tab.fns.all xf=true:=by decide+kernel
noncomputable abbrev Bt(w:World)(os:OsState)(s:Shared):=(openSeen lD to [] (λ_=>true) true s,staticsOk [] (S0 w os).heap s.heap&&(namesBound ey s.heap&&(gensDone s&&laidKept (S0 w os).heap s.heap)))
def HK(w:World)(os:OsState):(nK w os).map (λr=>(r.1,r.2.2.1,r.2.2.2,r.2.1.n,zw r.2.1,Bt w os r.2.1.abs))=some (.next,i8,qp,1153,true,openGood lD to,true):=by kernel_rfl
def P4(w:World)(os:OsState):(nK w os).map (λr=>(un tab<|gJ (oH r.2.1)<|h0 tab,tab.fns.map λp=>pW (gJ (oH r.2.1)<|h0 tab) p.1))=some (true,tab.fns.map λp=>sV p.2):=by kernel_rfl
def L1(w:World)(os:OsState):(nK w os).map (λr=>vG tab (gJ (oH r.2.1)<|h0 tab) 1109&&vK (oH r.2.1) r.2.1.n tab 1109)=some true:=by kernel_rfl
def e6(f:A)(h:B)(j:E):A/\B/\E:=⟨f,h,j⟩
def LV(f:A)(h:B)(j:E)(k:aa):A/\B/\E/\aa:=⟨f,h,j,k⟩
def Gh(f:A)(h:B)(j:E)(k:aa)(u:U):A/\B/\E/\aa/\U:=⟨f,h,j,k,u⟩
def AP(f:A)(h:B)(j:E)(k:aa)(u:U)(x:F):A/\B/\E/\aa/\U/\F:=⟨f,h,j,k,u,x⟩
def a9{A B:f->Prop}(x)(h:A x)(j:B x):∃x,A x/\B x:=⟨x,h,j⟩
def fI{A B E:f->Prop}(x)(h:A x)(j:B x)(k:E x):∃x,A x/\B x/\E x:=⟨x,h,j,k⟩
def G4{A B E aa:f->Prop}(x)(h:A x)(j:B x)(k:E x)(u:aa x):∃x,A x/\B x/\E x/\aa x:=⟨x,h,j,k,u⟩
def SD{A B E aa U F G:f->Prop}(x)(h:A x)(j:B x)(k:E x)(u:aa x)(y:U x)(z:F x)(C:G x):∃x,A x/\B x/\E x/\aa x/\U x/\F x/\G x:=⟨x,h,j,k,u,y,z,C⟩
def mC{A:f->h->Prop}(x)(y)(j:A x y):∃x y,A x y:=⟨x,y,j⟩
def dX{A B:f->h->Prop}(x)(y)(j:A x y)(k:B x y):∃x y,A x y/\B x y:=⟨x,y,j,k⟩
def pQ{A B E:f->h->Prop}(x)(y)(j:A x y)(k:B x y)(u:E x y):∃x y,A x y/\B x y/\E x y:=⟨x,y,j,k,u⟩
def D7{A B E aa:f->h->Prop}(x)(y)(j:A x y)(k:B x y)(u:E x y)(z:aa x y):∃x y,A x y/\B x y/\E x y/\aa x y:=⟨x,y,j,k,u,z⟩
def xX{A B:f->h->j->Prop}(x)(y)(C)(k:A x y C)(u:B x y C):∃x y C,A x y C/\B x y C:=⟨x,y,C,k,u⟩
def oU{A B E:f->h->j->Prop}(x)(y)(C)(k:A x y C)(u:B x y C)(z:E x y C):∃x y C,A x y C/\B x y C/\E x y C:=⟨x,y,C,k,u,z⟩
def rb{A B E aa:f->h->j->Prop}(x)(y)(C)(k:A x y C)(u:B x y C)(z:E x y C)(D:aa x y C):∃x y C,A x y C/\B x y C/\E x y C/\aa x y C:=⟨x,y,C,k,u,z,D⟩
def Mg{A B E aa U:f->h->j->Prop}(x)(y)(C)(k:A x y C)(u:B x y C)(z:E x y C)(D:aa x y C)(I:U x y C):∃x y C,A x y C/\B x y C/\E x y C/\aa x y C/\U x y C:=⟨x,y,C,k,u,z,D,I⟩
def Bl{A B E aa U F:f->h->j->Prop}(x)(y)(C)(k:A x y C)(u:B x y C)(z:E x y C)(D:aa x y C)(I:U x y C)(J:F x y C):∃x y C,A x y C/\B x y C/\E x y C/\aa x y C/\U x y C/\F x y C:=⟨x,y,C,k,u,z,D,I,J⟩
def SP{A B E aa:f->h->j->k->Prop}(x)(y)(C)(u)(z:A x y C u)(D:B x y C u)(I:E x y C u)(J:aa x y C u):∃x y C u,A x y C u/\B x y C u/\E x y C u/\aa x y C u:=⟨x,y,C,u,z,D,I,J⟩
def JK{A B E aa U:f->h->j->k->Prop}(x)(y)(C)(u)(z:A x y C u)(D:B x y C u)(I:E x y C u)(J:aa x y C u)(N:U x y C u):∃x y C u,A x y C u/\B x y C u/\E x y C u/\aa x y C u/\U x y C u:=⟨x,y,C,u,z,D,I,J,N⟩
def zz{A:f->h->j->k->z->Prop}(x)(y)(C)(u)(v)(D:A x y C u v):∃x y C u v,A x y C u v:=⟨x,y,C,u,v,D⟩
def Oc{A B:f->h->j->k->z->Prop}(x)(y)(C)(u)(v)(D:A x y C u v)(E:B x y C u v):∃x y C u v,A x y C u v/\B x y C u v:=⟨x,y,C,u,v,D,E⟩
def LZ{A B E:f->h->j->k->z->Prop}(x)(y)(C)(u)(v)(D:A x y C u v)(I:B x y C u v)(J:E x y C u v):∃x y C u v,A x y C u v/\B x y C u v/\E x y C u v:=⟨x,y,C,u,v,D,I,J⟩
def vm{A B E aa:f->h->j->k->z->Prop}(x)(y)(C)(u)(v)(D:A x y C u v)(I:B x y C u v)(J:E x y C u v)(N:aa x y C u v):∃x y C u v,A x y C u v/\B x y C u v/\E x y C u v/\aa x y C u v:=⟨x,y,C,u,v,D,I,J,N⟩
def aS{P:Prop}(h:A/\B)(k:A->B->P):P:=by obtain⟨f,j⟩:=h;exact k f j
def cZ{P:Prop}(h:A/\B/\E)(k:A->B->E->P):P:=by obtain⟨f,j,u⟩:=h;exact k f j u
def jj{P:Prop}(h:A/\B/\E/\aa)(k:A->B->E->aa->P):P:=by obtain⟨f,j,u,x⟩:=h;exact k f j u x
def oT{P:Prop}(h:A/\B/\E/\aa/\U)(k:A->B->E->aa->U->P):P:=by obtain⟨f,j,u,x,y⟩:=h;exact k f j u x y
def wj{P:Prop}(h:A/\B/\E/\aa/\U/\F)(k:A->B->E->aa->U->F->P):P:=by obtain⟨f,j,u,x,y,z⟩:=h;exact k f j u x y z
def G5{P:Prop}(h:A/\B/\E/\aa/\U/\F/\G/\H)(k:A->B->E->aa->U->F->G->H->P):P:=by obtain⟨f,j,u,x,y,z,C,h'⟩:=h;exact k f j u x y z C h'
def aU{A:f->Prop}{P:Prop}(h:∃x,A x)(k:∀x,A x->P):P:=by obtain⟨x,j⟩:=h;exact k x j
def aZ{A B:f->Prop}{P:Prop}(h:∃x,A x/\B x)(k:∀x,A x->B x->P):P:=by obtain⟨x,j,u⟩:=h;exact k x j u
def dF{A B E:f->Prop}{P:Prop}(h:∃x,A x/\B x/\E x)(k:∀x,A x->B x->E x->P):P:=by obtain⟨x,j,u,y⟩:=h;exact k x j u y
def ix{A B E aa:f->Prop}{P:Prop}(h:∃x,A x/\B x/\E x/\aa x)(k:∀x,A x->B x->E x->aa x->P):P:=by obtain⟨x,j,u,y,z⟩:=h;exact k x j u y z
def EK{A B E aa U F G:f->Prop}{P:Prop}(h:∃x,A x/\B x/\E x/\aa x/\U x/\F x/\G x)(k:∀x,A x->B x->E x->aa x->U x->F x->G x->P):P:=by obtain⟨x,j,u,y,z,C,D,I⟩:=h;exact k x j u y z C D I
def hv{A:f->j->Prop}{P:Prop}(h:∃x y,A x y)(k:∀x y,A x y->P):P:=by obtain⟨x,y,u⟩:=h;exact k x y u
def bV{A B:f->j->Prop}{P:Prop}(h:∃x y,A x y/\B x y)(k:∀x y,A x y->B x y->P):P:=by obtain⟨x,y,u,z⟩:=h;exact k x y u z
def fi{A B E:f->j->Prop}{P:Prop}(h:∃x y,A x y/\B x y/\E x y)(k:∀x y,A x y->B x y->E x y->P):P:=by obtain⟨x,y,u,z,C⟩:=h;exact k x y u z C
def kD{A B E aa:f->j->Prop}{P:Prop}(h:∃x y,A x y/\B x y/\E x y/\aa x y)(k:∀x y,A x y->B x y->E x y->aa x y->P):P:=by obtain⟨x,y,u,z,C,D⟩:=h;exact k x y u z C D
def zA{A B E aa U F:f->j->Prop}{P:Prop}(h:∃x y,A x y/\B x y/\E x y/\aa x y/\U x y/\F x y)(k:∀x y,A x y->B x y->E x y->aa x y->U x y->F x y->P):P:=by obtain⟨x,y,u,z,C,D,I,J⟩:=h;exact k x y u z C D I J
def M4{A B E aa U F G H:f->j->Prop}{P:Prop}(h:∃x y,A x y/\B x y/\E x y/\aa x y/\U x y/\F x y/\G x y/\H x y)(k:∀x y,A x y->B x y->E x y->aa x y->U x y->F x y->G x y->H x y->P):P:=by obtain⟨x,y,u,z,C,D,I,J,N,h'⟩:=h;exact k x y u z C D I J N h'
def ke{A B:f->j->u->Prop}{P:Prop}(h:∃x y C,A x y C/\B x y C)(k:∀x y C,A x y C->B x y C->P):P:=by obtain⟨x,y,C,z,D⟩:=h;exact k x y C z D
def d5{A B E:f->j->u->Prop}{P:Prop}(h:∃x y C,A x y C/\B x y C/\E x y C)(k:∀x y C,A x y C->B x y C->E x y C->P):P:=by obtain⟨x,y,C,z,D,I⟩:=h;exact k x y C z D I
def gD{A B E aa:f->j->u->Prop}{P:Prop}(h:∃x y C,A x y C/\B x y C/\E x y C/\aa x y C)(k:∀x y C,A x y C->B x y C->E x y C->aa x y C->P):P:=by obtain⟨x,y,C,z,D,I,J⟩:=h;exact k x y C z D I J
def GA{A B E aa U:f->j->u->Prop}{P:Prop}(h:∃x y C,A x y C/\B x y C/\E x y C/\aa x y C/\U x y C)(k:∀x y C,A x y C->B x y C->E x y C->aa x y C->U x y C->P):P:=by obtain⟨x,y,C,z,D,I,J,N⟩:=h;exact k x y C z D I J N
def Dk{A B E aa U F:f->j->u->Prop}{P:Prop}(h:∃x y C,A x y C/\B x y C/\E x y C/\aa x y C/\U x y C/\F x y C)(k:∀x y C,A x y C->B x y C->E x y C->aa x y C->U x y C->F x y C->P):P:=by obtain⟨x,y,C,z,D,I,J,N,O⟩:=h;exact k x y C z D I J N O
def yK{A B:f->j->z->D->Prop}{P:Prop}(h:∃x y C u,A x y C u/\B x y C u)(k:∀x y C u,A x y C u->B x y C u->P):P:=by obtain⟨x,y,C,u,E,I⟩:=h;exact k x y C u E I
def D6{A B E:f->j->z->D->Prop}{P:Prop}(h:∃x y C u,A x y C u/\B x y C u/\E x y C u)(k:∀x y C u,A x y C u->B x y C u->E x y C u->P):P:=by obtain⟨x,y,C,u,I,J,N⟩:=h;exact k x y C u I J N
def rE{A B E aa:f->j->z->D->Prop}{P:Prop}(h:∃x y C u,A x y C u/\B x y C u/\E x y C u/\aa x y C u)(k:∀x y C u,A x y C u->B x y C u->E x y C u->aa x y C u->P):P:=by obtain⟨x,y,C,u,I,J,N,O⟩:=h;exact k x y C u I J N O
def yv{A B E aa U:f->j->z->D->Prop}{P:Prop}(h:∃x y C u,A x y C u/\B x y C u/\E x y C u/\aa x y C u/\U x y C u)(k:∀x y C u,A x y C u->B x y C u->E x y C u->aa x y C u->U x y C u->P):P:=by obtain⟨x,y,C,u,I,J,N,O,T⟩:=h;exact k x y C u I J N O T
def gv{A:f->j->z->D->E->Prop}{P:Prop}(h:∃x y C u v,A x y C u v)(k:∀x y C u v,A x y C u v->P):P:=by obtain⟨x,y,C,u,v,I⟩:=h;exact k x y C u v I
def Ak{A B:f->j->z->D->E->Prop}{P:Prop}(h:∃x y C u v,A x y C u v/\B x y C u v)(k:∀x y C u v,A x y C u v->B x y C u v->P):P:=by obtain⟨x,y,C,u,v,I,J⟩:=h;exact k x y C u v I J
def zZ{A B E:f->j->z->D->I->Prop}{P:Prop}(h:∃x y C u v,A x y C u v/\B x y C u v/\E x y C u v)(k:∀x y C u v,A x y C u v->B x y C u v->E x y C u v->P):P:=by obtain⟨x,y,C,u,v,J,N,O⟩:=h;exact k x y C u v J N O
def Gi{A B E aa:f->j->z->D->I->Prop}{P:Prop}(h:∃x y C u v,A x y C u v/\B x y C u v/\E x y C u v/\aa x y C u v)(k:∀x y C u v,A x y C u v->B x y C u v->E x y C u v->aa x y C u v->P):P:=by obtain⟨x,y,C,u,v,J,N,O,T⟩:=h;exact k x y C u v J N O T
def Pq{A B E aa U:f->j->z->D->I->Prop}{P:Prop}(h:∃x y C u v,A x y C u v/\B x y C u v/\E x y C u v/\aa x y C u v/\U x y C u v)(k:∀x y C u v,A x y C u v->B x y C u v->E x y C u v->aa x y C u v->U x y C u v->P):P:=by obtain⟨x,y,C,u,v,J,N,O,T,W⟩:=h;exact k x y C u v J N O T W
def l4{p:Prop}(h:∀Z:Prop,(p->Z)->Z):p:=h p id
def zb{P:Prop}(h:(a&&b)=true)(k:a=true->b=true->P):P:=k (cY.mp h).1 (cY.mp h).2
def zp{f j:Type _}{a c:f}{b d:j}{P:Prop}(h:(a,b)=(c,d))(k:a=c->b=d->P):P:=by cases h;exact k rfl rfl
@[elab_as_elim] theorem Y {f:Sort _} {a b:f} {p:f->Prop} (e:a=b) (h:p b):p a:=e▸h
def IA(w)(os):segRun treeTable ey w 11 (some<|.ref 6) 1 1 (kU w os) (blockOf u6 xs i8 pz [topFrame pz])=some (.next,kU w os,i8,pz):=by rfl
def LB(w)(s):topRun treeTable ey w 11 (some<|.ref 6) 3 s ⟨doneF .next,i8,qp,[topFrame pz]⟩=some s:=by rfl
def Qj(w)(os):((S0 w os).heap.isNs mainGlobals&&(S0 w os).gens.size==0,(S0 w os).heap.objs.size,(S0 w os).heap.nsMap mainGlobals "__annotations__")=(true,11,some<|.ref 6):=by kernel_rfl
def QO(h:zw s=true):s.abs.heap.get?=oH s:=by
 funext a;unfold oH;rcases c:Nat.blt a s.n;exact abs_get_none λh=>Bool.noConfusion<|c.symm.trans<|vJ h
 .have j:=bG c;have:∀{n:Nat},mw (λa=>(s.tree.get a).isSome) n=true->∀k,k<n->(s.tree.get k).isSome=true:=λ{n}=>by
   induction n with
   |zero=>intro _ k h;exact absurd h<|g6 k
   |succ n u=>intro e k aP;have e:(match(s.tree.get n).isSome with|true=>mw (λa=>(s.tree.get a).isSome) n|false=>false)=true:=e;revert e;rcases f:(s.tree.get n).isSome;intro e;cases e;intro e;rcases dJ k n with C|C;exact u e k C;exact Y (cf (eZ aP) C) f
  exact aU (vV.mp<|this h a j) λo e=>(abs_get j e).trans<|by refine Y e ?_;rfl
abbrev zX:=Bool×List vv
def tL(s:Shared):zX:=(un tab (gJ s.heap.get?<|h0 tab)&&(vG tab (gJ s.heap.get?<|h0 tab) 1109&&vK s.heap.get? s.heap.objs.size tab 1109),tab.fns.map λp=>pW (gJ s.heap.get?<|h0 tab) p.1)
def r6(_:World):zX:=(true,tab.fns.map λp=>sV p.2)
def QG(w)(os):∃st,nK w os=some (.next,st,i8,qp)/\Bt w os st.abs=(openGood lD to,true)/\tL st.abs=r6 w:=by refine aZ (lz.mp<|HK w os) λr e f=>aZ (lz.mp<|P4 w os) λU j y=>?_;rw[e]at j;cases j;refine aZ (lz.mp<|L1 w os) λU j J=>?_;rw[e]at j;cases j;obtain⟨z,st,c,q⟩:=r;refine zp f λu f=>zp f λk f=>zp f λx f=>zp f λh f=>zp f λT f=>zp f λC D=>?_;clear f;refine zp y λE I=>?_;have u:z=.next:=u;have k:c=i8:=k;have x:q=qp:=x;clear y h f;subst u k x;clear f;refine zb J λN O=>?_;have g:=QO T;have W:st.abs.heap.objs.size=st.n:=absHeap_size ..;refine fI st e (Prod.ext C D) ?_;unfold tL r6;refine Y g<|Y W<|Y E<|Y I<|Y N<|Y O ?_;rfl
def F8(x:(h.heap.isNs mainGlobals&&h.gens.size==0)=true)(y:h.heap.objs.size=k)(z:h.heap.nsMap mainGlobals "__annotations__"=j)(run:topRun tb p w k j N h (topStub p)=some f)(hm:importedModules p.main.body=mods)(l:(staticsOk mods h.heap f.heap&&(namesBound p f.heap&&(gensDone f&&laidKept h.heap f.heap)))=true):topFrom tb p w N h=some f:=by refine zb l λa1 l=>zb l λa2 l=>zb l λe7 u=>?_;unfold topFrom;refine Y x<|Y y<|Y z<|Y run<|Y hm ?_;show(match staticsOk mods h.heap f.heap&&namesBound p f.heap&&gensDone f&&laidKept h.heap f.heap with|true=>some f|false=>none)=_;refine Y a1<|Y a2<|Y e7<|Y u ?_;rfl
def Pj{f:Type}{z:Shared->f}{x:World->f}(e:fencedOpening treeTable p w N=some j)(t:topFrom treeTable p w N j=some k)(hm:importedModules p.main.body=mods)(l:openSeen q h mods u true k=openGood q h)(y:z k=x w):(openEnds treeTable p w N).map (λs=>(openSeen q h (importedModules p.main.body) u true s,z s))=some (openGood q h,x w):=by unfold openEnds;refine Y e ?_;show(topFrom treeTable p w N j).map _=_;exact Y t<|Y hm<|az some<|Prod.ext l y
noncomputable abbrev u0:Nat:=12+(1+(7600+3))
def Pl(w)(os)(h:nK w os=some (.next,f,i8,qp)):topRun treeTable ey w 11 (some<|.ref 6) u0 (S0 w os) (topStub ey)=some f.abs:=by unfold nK at h;rw[<-Fast.te10110043849684766642,<-Fast.te14364793385576792824]at h;have j:=segRun_of h;rw[Nh]at j;have k:=piece_app (rest:=[]) (q:=pz) (N:=3) (r:=f.abs) j<|piece_nil<|LB w f.abs;rw[be]at k;exact go_top (Ik w os)<|piece_block (IA w os) k
def NP{o:Option Shared}(e:o.map (λs=>(s.heap,s.gens,s.drawn,s.toks))=some (h,j,d,k)):∃os,o=some ⟨h,j,d,k,os⟩:=by
 obtain⟨⟨f,g,om,y,os⟩,x,u⟩:=lz.mp e;clear e;obtain⟨rfl,rfl,rfl,rfl⟩:f=h/\g=j/\om=d/\y=k:=by simpa using u
 exact⟨os,x⟩
def Pp:LeftO ey lD to (λ_=>true) tL r6 u0:=λw=>by exact aU (NP<|boot_open (N:=u0) Jj rfl Nz w) λos e=>dF (QG w os) λst f hl h=>zp (Qj w os) λu C=>zp C λx y=>zp hl λj k=>Pj e (F8 u x y (Pl w os f) y8 k) y8 j h
def KC:(defOf lD dW.name).map (λx=>(dW.prog.theDef dW.name,kwWritten? x.1.params.kwonlyargs x.1.params.kw_defaults))=(defOf lD dW.name).map (λx=>(some (x.1.params,x.1.body,x.1.scope),some x.2)):=by kernel_rfl
def Lu:dW.prog.bare:=⟨by kernel_rfl,by kernel_rfl,by kernel_rfl,by kernel_rfl,by kernel_rfl,by kernel_rfl⟩
noncomputable abbrev sY:WTm:=.lt (.lit<|.int 63)<|.len<|.arg 0
def ME(h:WTm.holds [] (.and (.not sY)<|.lit<|.bool true) {args:=[.list l]}=true):l.length<=63:=by
 refine mm λC=>?_;have v:WTm.value [] sY {args:=[.list l]}=some (.bool<|decide<|(63:Int)<(l.length:Int)):=by kernel_rfl
 rw[h4<|show(63:Int)<(l.length:Int) from hQ.mpr C]at v;have v:WTm.value [] (.not sY) {args:=[.list l]}=some (.bool false):=by rw[WTm.value,v];rfl
 have v:WTm.value [] (.and (.not sY)<|.lit<|.bool true) {args:=[.list l]}=some (.bool false):=by rw[WTm.value,v]
 rw[WTm.holds,v]at h;cases h
theorem ints_of:∀{l},WShape.hasItems [] l .int=true->∃k:List Int,l=k.map .int|[],_=>⟨[],rfl⟩|d::l,h=>by refine zb (show(WShape.has [] d .int&&WShape.hasItems [] l .int)=true from h) λf j=>aU (hasW_int f) λi u=>?_;subst u;refine aU (ints_of j) λk x=>?_;subst x;exact⟨i::k,rfl⟩
def QN(h:dW.toRowW.claim.pre args=true):∃u:List Int,args=[.list<|u.map .int]/\u.length<=63:=by refine zb (show(WShape.hasAll [] args [.list .int]&&WTm.holds [] (.and (.not<|.lt (.lit<|.int 63)<|.len<|.arg 0)<|.lit<|.bool true) {args:=args})=true from h) λf j=>?_;rcases args with _|⟨d,r⟩;cases f;refine zb (show(WShape.has [] d (.list .int)&&WShape.hasAll [] r [])=true from f) λk x=>?_;rcases r;refine aZ (hasW_list k) λl z y=>?_;subst z;refine aU (ints_of y) λu C=>?_;subst C;exact⟨u,rfl,by simpa using ME j⟩;cases x
theorem C':∀{u:List Int}{s r},layAllW k cl P ord (u.map .int) s=some r->r.2.heap=s.heap
 |[],s,r,h=>by cases h;rfl
 |i::u,s,r,h=>by refine fi (layAllW_cons h) λa q f j x=>?_;subst x;cases f;exact(C' j:_)
def K4:dW.toRowW.promised:=⟨[.list [.int 3,.int 1]],by decide+kernel,by decide+kernel⟩
def Iq:decide (ck.foot<=(behindTheImports ck.prog).length)=true:=by kernel_rfl
def Kh:ck.footing.all footLine=true:=by kernel_rfl
def Ln:noClassBlock ck.prog ck.footing=true:=by kernel_rfl
def RN:defStands ck.about ck.above=true:=by kernel_rfl
def Kw:ck.namesIt=true:=by kernel_rfl
def KQ:ck.own.contains ck.name=true:=by kernel_rfl
def Hi:(ck.own.eraseDups.length==ck.own.length)=true:=by kernel_rfl
def PS:noRoadLSs {strict:=true,foot:=some ck.bound',writes:=ck.writes,may:=ck.may} ck.footing=true:=by kernel_rfl
def J1:(ck.bound'.all λn=>!builtinNamed n||ck.about==[n]||!ck.reads n)=true:=by kernel_rfl
def T8:(ck.own.all λn=>!builtinNamed n)=true:=by kernel_rfl
def Td:(namesMeet ck.prog ck.above λx n=>!ck.own.contains n)=true:=by kernel_rfl
def Qq:(namesMeet ck.prog ck.footing λsc n=>(!(["type","isinstance","issubclass","getattr","hasattr"]:List Str).contains n||sc.names.lookup n==some .globalImplicit)&&(ck.may !=some n||sc.kind==.module||sc.names.lookup n==some .globalImplicit))=true:=by kernel_rfl
def GK:(namesMeet ck.prog ck.footing λsc n=>sc.kind==.module||sc.names.lookup n !=some .globalExplicit)=true:=by kernel_rfl
def RD:((["type","isinstance","issubclass","getattr","hasattr"]:List Str).all λn=>ck.about !=[n])=true:=by kernel_rfl
def NM:(!ck.writes||(ck.prog.main.body.flatMap importedNames).all λn=>!ck.reads n)=true:=by kernel_rfl
def HH:((ck.prog.main.body.flatMap importedNames).all λn=>!ck.reads n||(drawsOf n ck.prog.main.body).all λf=>f.2 !=("attrgetter":Str)&&f.2 !=("methodcaller":Str))=true:=by kernel_rfl
def Lq:ck.most.all (λn=>decide<|63<=n)=true:=by kernel_rfl
def Un:ck.bound.all (λn=>decide<|2^63<=n)=true:=by kernel_rfl
def Nl:ck.wellSaid=true:=by unfold OpenLaw.wellSaid;exact fD (fD (fD (fD (fD (fD (fD (fD (fD (fD (fD (fD (fD (fD (fD (fD (fD (fD BL Iq) Kh) Ln) Lq) Un) PS) RN) Kw) RD) J1) NM) HH) Qq) KQ) Hi) T8) Td) GK
abbrev a6:=List<|Addr×Addr
noncomputable abbrev DR(lo j:Int)(t u v:Tok):Obj:={cls:=.type "range",data:=.fields #[.int lo t,.int j u,.int 1 v]}
noncomputable abbrev BV(f:Str)(body:Expr)(scope:Scope)(cl:List<|Str×Addr)(j h:Value)(c:Addr):FuncData:=kla_fn ⟨#[60,108,97,109,98,100,97,62]⟩ f ⟨[],[],none,[],[],none,[]⟩ body scope cl j (.ref c) h
noncomputable abbrev Au(f:Str)(body:Expr)(scope:Scope)(cl:List<|Str×Addr)(j h:Value)(c:Addr):Obj:={cls:=.type "function",data:=.func<|BV f body scope cl j h c}
def iA(h:Heap)(c:Addr)(q:Str):Prop:=∃o D t,h.get? c=some o/\o.cls=.type "code"/\o.data=.fields D/\D[1]? =some (.str q t)
def iA.rec(k:iA h c q):h.CodeRec (.ref c) q:=let⟨o,D,t,e,_,d,x⟩:=k;⟨c,o,D,t,rfl,e,d,x⟩
def gR(f:a6)(cl:List<|Str×Nat)(k:List<|Str×Addr):Prop:=∀x i,aC x (db cl)=some (.ref i)->∃a d,k.lookup x=some a/\f[i]? =some (a,d)
noncomputable abbrev iq(D:List Value):Obj:={cls:=.type "tuple",data:=.seq D.toArray}
mutual
inductive RV (f:a6) (h:Heap):V->Value->Prop|none:RV f h .none .none|bool {b:Bool}:RV f h (.bool b) (.bool b)|int {i:Int} {t:Tok}:RV f h (.int i) (.int i t)|str {x:List Nat} {t:Tok}:x.length<=lim->RV f h (.str x) (.str ⟨x.toArray⟩ t)|tup {l:List V} {a:Addr} {D:List Value}:h.get? a=some (iq D)->D.length<=lim->aT f h l D->RV f h (.tup l) (.ref a)|ref {i:Nat} {a d:Addr}:f[i]? =some (a,d)->RV f h (.ref i) (.ref a)|fn {z:Addr}:RV f h (.fn z) (.ref z)|blt {b:eu} {v:Value}:v=b.val->RV f h (.blt b) v|an {lo j:Int} {a:Addr} {t u v:Tok}:h.get? a=some (DR lo j t u v)->RV f h (.an lo j) (.ref a)|bX {e:Expr} {sc:Scope} {cl:List (Str×Nat)} {a c:Addr} {q:Str} {k:List (Str×Addr)} {pm ct:Value}:h.get? a=some (Au q e sc k pm ct c)->iA h c q->gR f cl k->RV f h (.bX e sc cl) (.ref a)|bm {z:Addr} {i:Nat} {a d m:Addr}:f[i]? =some (a,d)->h.get? m=some (methodObj (.ref z) (.ref a))->RV f h (.bm z i) (.ref m)
inductive aT (f:a6) (h:Heap):List V->List Value->Prop|nil:aT f h [] []|cons {x:V} {v:Value} {l:List V} {D:List Value}:RV f h x v->aT f h l D->aT f h (x::l) (v::D)
end
inductive bM(P:Params)(f:a6)(h:Heap):List (Str×V)->List DictEntry->Prop|nil:bM P f h [] []|cons {x:Str} {t:Tok} {a:V} {v:Value} {l:List (Str×V)} {es:List DictEntry}:RV f h a v->bM P f h l es->bM P f h ((x,a)::l) (⟨PyData.keyHash P x,.str x t,v⟩::es)
def yS(h:Heap)(tb:Value):Prop:=tb=.none\/∃t D,tb=.ref t/\h.get? t=some {cls:=.type "traceback",data:=.fields D}/\D.size=11
noncomputable abbrev eA(D:List Value)(n:Nat):Obj:={cls:=.type "list",data:=.seq D.toArray n}
noncomputable abbrev ek(E:Addr)(d:Option Addr)(f tb h:Value):Obj:={cls:=.ref E,dict:=d,data:=.fields #[f,tb,h,.none,.bool false,.none]}
def js(f:a6)(c:Option Nat)(h:Value):Prop:=match c with|none=>h=.none|some j=>∃a d,f[j]? =some (a,d)/\h=.ref a
def i4(f:a6)(j:Option Nat)(d:Option Addr):Prop:=match j with|none=>d=none|some j=>∃a e,f[j]? =some (a,e)/\d=some a
inductive EI(f:a6)(h:Heap)(l:List V)(p:Addr):Prop|mk (D:List Value) (n:Nat) (e:h.get? p=some (eA D n)) (le:D.length<=lim) (q:aT f h l D)
inductive Po(P:Params)(f:a6)(h:Heap)(E:Addr)(k:List (Str×V))(p d:Addr):Prop|mk (es:List DictEntry) (n:Nat) (e:h.get? p=some (instObj E d)) (e':h.get? d=some (dictOf es n)) (q:bM P f h k es)
inductive Ur(f:a6)(h:Heap)(E:Addr)(j c:Option Nat)(p:Addr):Prop|mk (d:Option Addr) (a0 tb cx:Value) (e:h.get? p=some (ek E d a0 tb cx)) (dj:i4 f j d) (t:yS h tb) (cx:js f c cx)
inductive Gx(P:Params)(f:a6)(h:Heap)(k:List (Str×V))(p:Addr):Prop|mk (es:List DictEntry) (n:Nat) (e:h.get? p=some (dictOf es n)) (q:bM P f h k es)
inductive KO(f:a6)(h:Heap)(x:V)(p:Addr):Prop|mk (v:Value) (e:h.get? p=some {cls:=.type "cell",data:=.cell (some v)}) (q:RV f h x v)
def RO(P:Params)(f:a6)(h:Heap):au->Addr×Addr->Prop|.list l,p=>EI f h l p.1|.inst E k,p=>Po P f h E k p.1 p.2|.exc E j c,p=>Ur f h E j c p.1|.dict k,p=>Gx P f h k p.1|.cell none,p=>h.get? p.1=some {cls:=.type "cell",data:=.cell none}|.cell (some x),p=>KO f h x p.1
noncomputable def foot:au->Addr×Addr->List Addr|.list _,p=>[p.1]|.dict _,p=>[p.1]|.inst ..,p=>[p.1,p.2]|.exc ..,p=>[p.1]|.cell _,p=>[p.1]
noncomputable def bz:aq->a6->List Addr|o::H,p::f=>foot o p++bz H f|_,_=>[]
structure kb(P:Params)(h₀:Heap)(f:a6)(H:aq)(h:Heap):Prop where
 len:f.length=H.length
 obj:∀(i:Nat)(o:au)(p:Addr×Addr),H[i]? =some o->f[i]? =some p->RO P f h o p
 nd:(bz H f).Nodup
 new:∀a∈bz H f,h₀.get? a=none
theorem ep:∀{H f}{i:Nat}{o p},H[i]? =some o->f[i]? =some p->∀a∈foot o p,a∈bz H f
 |o::H,p::f,0,o',j,e1,h,a,m=>by simp only[qO,qM]at e1 h;subst e1 h;exact fF _ m
 |o::H,p::f,i+1,o',j,e1,h,a,m=>gA _<|ep (by simpa using e1) (by simpa using h) a m
 |[],_,i,_,_,e1,_,_,_=>by simp at e1
 |_::_,[],i,_,_,_,h,_,_=>by simp at h
theorem oq:∀{H f a},a∈bz H f->∃(i:Nat)(o:au)(p:Addr×Addr),H[i]? =some o/\f[i]? =some p/\a∈foot o p
 |o::H,p::f,a,m=>by rcases d2.mp m with m|m;exact oU 0 o p rfl rfl m;exact d5 (oq m) λi o' j e1 h T=>oU (i+1) o' j (by simpa using e1) (by simpa using h) T
 |[],_,_,m=>nomatch(show _∈([]:List Addr) from m)|_::_,[],_,m=>nomatch(show _∈([]:List Addr) from m)
def lY(v:Value):Prop:=v=.type "list"\/v=.type "dict"\/v=.type "cell"\/∃E,v=.ref E
theorem RO.cls(r:RO P f h o p):∀a∈foot o p,∃b,h.get? a=some b/\lY b.cls:=by intro a m;rcases o with l|⟨E,k⟩|⟨E,k,c⟩|l|x;obtain⟨D,n,e,_,_⟩:=r;simp only[foot,b8]at m;subst m;exact a9 _ e<|.inl rfl;obtain⟨es,n,e1,j,_⟩:=r;simp only[foot,bC,uO,or_false]at m;rcases m with rfl|rfl;exact a9 _ e1<|.inr<|.inr<|.inr ⟨E,rfl⟩;exact a9 _ j<|.inr<|.inl rfl;obtain⟨d,u,tb,y,e1,_⟩:=r;simp only[foot,b8]at m;subst m;exact a9 _ e1<|.inr<|.inr<|.inr ⟨E,rfl⟩;obtain⟨D,n,e,_⟩:=r;simp only[foot,b8]at m;subst m;exact a9 _ e<|.inr<|.inl rfl;simp only[foot,b8]at m;subst m;rcases x with _|x;exact a9 _ r<|.inr<|.inr<|.inl rfl;obtain⟨v,e,_⟩:=r;exact a9 _ e<|.inr<|.inr<|.inl rfl
theorem kb.cls(R:kb P h₀ f H h)(m:a∈bz H f):∃b,h.get? a=some b/\lY b.cls:=by exact d5 (oq m) λi o p e1 j T=>(R.obj i o p e1 j).cls a T
def Sm(o o':Obj):Prop:=o'=o\/(o.cls=.type "frame"/\∃f,o'={o with slots:=f})\/(∃D U:Array Value,o={cls:=.type "traceback",data:=.fields D}/\o'={cls:=.type "traceback",data:=.fields U}/\U.size=D.size)
theorem Sm.trans(x:Sm a b)(y:Sm b c):Sm a c:=by
 rcases x with rfl|⟨f,u,rfl⟩|⟨D,U,rfl,rfl,h⟩;exact y
 .rcases y with rfl|⟨_,z,rfl⟩|⟨D,U,e,_,_⟩;exact .inr<|.inl ⟨f,u,rfl⟩;exact .inr<|.inl ⟨f,z,rfl⟩
  .exfalso
   have:=az Obj.cls e;dsimp only at this;rw[f]at this;exact absurd (fh this)<|by decide
 .rcases y with rfl|⟨f,_,_⟩|⟨us,C,e,rfl,ht⟩;exact .inr<|.inr ⟨D,U,rfl,rfl,h⟩;exact absurd (fh f)<|by decide
  .have j:U=us:=by injection e with _ _ k _;injection k
   clear e;subst j;exact .inr<|.inr ⟨D,C,rfl,rfl,ht.trans h⟩
def hX(F:List Addr)(h h':Heap):Prop:=∀a o,a∉F->h.get? a=some o->∃o',h'.get? a=some o'/\Sm o o'
def hX.refl(F)(h):hX F h h:=λ_ o _ e=>⟨o,e,.inl rfl⟩
def hX.mono(k:hX F h h')(s:∀a∈F,a∈G):hX G h h':=λa o n e=>k a o (λm=>n<|s a m) e
def hX.plain(k:hX F h h')(n:a∉F)(e:h.get? a=some o)(j:o.cls≠.type "frame")(u:o.cls≠.type "traceback"):h'.get? a=some o:=by refine aZ (k a o n e) λo' x s=>?_;rcases s with rfl|⟨f,_⟩|⟨D,U,rfl,_,_⟩;exact x;exact absurd f j;exact absurd rfl u
theorem hX.trans(x:hX F h h')(y:hX G h' f)(s:∀a∈G,a∈F\/h.get? a=none):hX F h f:=λa o n e=>by exact aZ (x a o n e) λo' j J=>aZ (y a o' (λm=>(s a m).elim n λC=>by rw[C]at e;cases e) j) λu k z=>a9 u k<|J.trans z
structure al where
 w:World
 h₀:Heap
 os:OsState
 lc:Addr
 a3:Addr
 ar:Str
structure a5(p:Addr)(L:List Addr)(f:a6)(H:aq)(h:Heap)(ab:a6)(H':aq)(h':Heap):Prop where
 ext:∃τ,ab=f++τ
 keep:hX (p::(L++bz H f)) h h'
 new:∀a∈bz H' ab,a∈bz H f\/h.get? a=none
 live:∀a,h.get? a≠none->h'.get? a≠none
theorem a5.refl(p)(L)(f)(H)(h):a5 p L f H h f H h:=⟨⟨[],by simp⟩,.refl _ _,λ_ m=>.inl m,λ_ e=>e⟩
theorem a5.trans(x:a5 p L f H h ab H' h')(y:a5 p N ab H' h' u j k)(z:∀a∈N,a∈L\/h.get? a=none):a5 p L f H h u j k:=by refine aU x.ext λτ D=>?_;subst D;refine aU y.ext λI E=>?_;subst E;refine⟨⟨τ++I,by simp⟩,x.keep.trans y.keep λa m=>?_,λa m=>?_,λa e=>y.live a<|x.live a e⟩;rcases bC.mp m with rfl|m;exact .inl<|.head _;rcases d2.mp m with m|m;exact(z a m).imp (λC=>.tail _<|fF _ C) id;exact(x.new a m).imp (λC=>.tail _<|gA _ C) id;rcases y.new a m with m|m;exact x.new a m;right;rcases q:h.get? a with _|o;rfl;exact absurd m<|x.live a<|by refine Y q ?_;simp
def fT{i:Nat}(τ:a6)(e:f[i]? =some p):(f++τ)[i]? =some p:=by refine Y (dO (b4.mp e).1) ?_;exact e
def i4.more(τ)(x:i4 f j d):i4 (f++τ) j d:=by unfold i4 at x⊢;split at x;exact x;exact bV x λa e q C=>dX a e (fT τ q) C
def js.more(τ)(x:js f j d):js (f++τ) j d:=by unfold js at x⊢;split at x;exact x;exact bV x λa e q C=>dX a e (fT τ q) C
def kP(v:Value):Prop:=v=.type "tuple"\/v=.type "method"\/v=.type "range"\/v=.type "function"\/v=.type "code"
def kP.ne(c:kP v)(u)(f:(["tuple","method","range","function","code"].contains u)=false):v≠.type u:=by intro e;subst e;rcases c with c|c|c|c|c<;>(injection c with c;subst c;exact absurd f (by decide))
def kP.led(c:kP v)(l:lY v):False:=by rcases l with l|l|l|⟨E,l⟩;exact c.ne "list" (by decide) l;exact c.ne "dict" (by decide) l;exact c.ne "cell" (by decide) l;subst l;rcases c with c|c|c|c|c<;>cases c
def cw(h h':Heap):Prop:=∀a o,h.get? a=some o->kP o.cls->h'.get? a=some o
def cw.refl(h):cw h h:=λ_ _ e _=>e
def cw.trans(x:cw h h')(y:cw h' f):cw h f:=λa o e c=>y a o (x a o e c) c
def iA.keep(k:cw h h')(x:iA h c q):iA h' c q:=let⟨o,D,t,e,c,d,y⟩:=x;⟨o,D,t,k _ _ e<|.inr<|.inr<|.inr<|.inr c,c,d,y⟩
def gR.keep(τ)(c:gR f l k):gR (f++τ) l k:=λx i e=>by exact bV (c x i e) λa d e1 h=>dX a d e1<|fT τ h
theorem RV.keep(τ)(k:cw h h')(q:RV f h x v):RV (f++τ) h' x v:=
 RV.rec (motive_1:=λx v _=>RV (f++τ) h' x v) (motive_2:=λl D _=>aT (f++τ) h' l D) .none .bool .int (λe=>.str e) (λe l _ r=>.tup (k _ _ e<|.inl rfl) l r) (λe=>.ref<|fT τ e) .fn (λe=>.blt e)
  (λe=>.an<|k _ _ e<|.inr<|.inr<|.inl rfl) (λe c l=>.bX (k _ _ e<|.inr<|.inr<|.inr<|.inl rfl) (c.keep k)<|l.keep τ) (λe m=>.bm (fT τ e)<|k _ _ m<|.inr<|.inl rfl) .nil (λ_ _ r rs=>.cons r rs) q
theorem bM.keep(τ)(k:cw h h')(q:bM P f h l es):bM P (f++τ) h' l es:=by
 induction q with
 |nil=>exact .nil|cons r _ j=>exact .cons (r.keep τ k) j
def aW{j:Type}{p:Prop}{r:j}(e:none=some r):p:=by cases e
def ff{p:Prop}(e:false=true):p:=by cases e
def TU(h:dk o z=true):∃y,o=some y/\z y=true:=by rcases o with _|y;exact ff h;exact a9 y rfl h
def dD{P:Prop}(h:dk o z=true)(k:∀y,o=some y->z y=true->P):P:=aZ (TU h) k
def pr(e:lw v=some a):v=.ref a:=by cases v<;>first|exact az Value.ref (aQ e)|exact aW e
def zL(e:wu v=some x):∃t,v=.str x t:=by cases v<;>first|exact⟨_,by exact Y (aQ e).symm rfl⟩|exact aW e
def KZ(e:yz v=some i):∃t,v=.int i t:=by cases v<;>first|exact⟨_,by exact Y (aQ e).symm rfl⟩|exact aW e
def Fx(e:vy d=some a):d=.fields a:=by cases d<;>first|exact az Data.fields (aQ e)|exact aW e
def Ut(e:Es d=some p):d=.seq p.1 p.2:=by cases d<;>first|(exact Y (aQ e).symm rfl)|exact aW e
def ON(e:CI d=some z):d=.func z:=by cases d<;>first|exact az Data.func (aQ e)|exact aW e
def Qi(e:Cd d=true):d=.plain:=by cases d<;>first|rfl|exact ff e
inductive oV(f:a6)(i:Nat)(v:Value):Prop|mk (a d:Addr) (hv:v=.ref a) (e:f[i]? =some (a,d))
inductive B1(x:List Nat)(v:Value):Prop|mk (t:Tok) (h:x.length<=lim) (hv:v=.str ⟨x.toArray⟩ t)
inductive oB(f:a6)(h:Heap)(l:List V)(v:Value):Prop|mk (a:Addr) (D:List Value) (hv:v=.ref a) (e:h.get? a=some (iq D)) (le:D.length<=lim) (q:aT f h l D)
inductive vd(i:Int)(v:Value):Prop|mk (t:Tok) (hv:v=.int i t)
inductive Ap(h:Heap)(lo j:Int)(v:Value):Prop|mk (a:Addr) (t u w:Tok) (hv:v=.ref a) (e:h.get? a=some (DR lo j t u w))
inductive o7(f:a6)(h:Heap)(x:Expr)(sc:Scope)(cl:List (Str×Nat))(v:Value):Prop|mk (a c:Addr) (q:Str) (k:List (Str×Addr)) (pm ct:Value) (hv:v=.ref a) (e:h.get? a=some (Au q x sc k pm ct c)) (ck:iA h c q) (co:gR f cl k)
inductive nD(f:a6)(h:Heap)(z:Addr)(i:Nat)(v:Value):Prop|mk (a d m:Addr) (hv:v=.ref m) (e:f[i]? =some (a,d)) (e':h.get? m=some (methodObj (.ref z) (.ref a)))
def rn(f:a6)(h:Heap)(v:Value):V->Prop|.none=>v=.none|.bool b=>v=.bool b|.int i=>vd i v|.str x=>B1 x v|.tup l=>oB f h l v|.ref i=>oV f i v|.fn z=>v=.ref z|.blt b=>v=b.val|.an lo j=>Ap h lo j v|.bX e sc cl=>o7 f h e sc cl v|.bm z i=>nD f h z i v
section
variable{f:a6}{h:Heap}
def RV.inv(q:RV f h x v):rn f h v x:=by
 cases q with
 |none=>exact rfl|bool=>exact rfl|int=>exact⟨_,rfl⟩|str h=>exact⟨_,h,rfl⟩|tup a b c=>exact⟨_,_,rfl,a,b,c⟩|ref a=>exact⟨_,_,rfl,a⟩|fn=>exact rfl|blt a=>exact a|an a=>exact⟨_,_,_,_,rfl,a⟩|bX a b c=>exact⟨_,_,_,_,_,_,rfl,a,b,c⟩|bm a b=>exact⟨_,_,_,rfl,a,b⟩
def RV.qf(q:RV f h .none v):v=.none:=q.inv
def RV.te(q:RV f h (.bool b) v):v=.bool b:=q.inv
def RV.cG(q:RV f h (.int i) v):vd i v:=q.inv
def RV.dU(q:RV f h (.str x) v):B1 x v:=q.inv
def RV.oc(q:RV f h (.tup l) v):oB f h l v:=q.inv
def RV.ex(q:RV f h (.ref i) v):oV f i v:=q.inv
def RV.ki(q:RV f h (.fn z) v):v=.ref z:=q.inv
def RV.r7(q:RV f h (.blt b) v):v=b.val:=q.inv
def RV.Rh(q:RV f h (.an a b) v):Ap h a b v:=q.inv
def RV.uP(q:RV f h (.bX e sc cl) v):o7 f h e sc cl v:=q.inv
def RV.Cg(q:RV f h (.bm z i) v):nD f h z i v:=q.inv
inductive o9(f:a6)(h:Heap)(a:V)(l:List V)(us:List Value):Prop|mk (u:Value) (D:List Value) (hu:us=u::D) (q:RV f h a u) (j:aT f h l D)
inductive G2(f:a6)(h:Heap)(a:V)(us:List Value):Prop|mk (u:Value) (hu:us=[u]) (q:RV f h a u)
inductive KU(f:a6)(h:Heap)(a b:V)(us:List Value):Prop|mk (u w:Value) (hu:us=[u,w]) (q:RV f h a u) (q':RV f h b w)
def qK(f:a6)(h:Heap)(us:List Value):List V->Prop|[]=>us=[]|a::l=>o9 f h a l us
def aT.inv(q:aT f h l us):qK f h us l:=by
 cases q with
 |nil=>exact rfl|cons a b=>exact⟨_,_,rfl,a,b⟩
def aT.i0(q:aT f h [] us):us=[]:=q.inv
def aT.eO(q:aT f h (a::l) us):o9 f h a l us:=q.inv
def aT.i1(q:aT f h [a] us):G2 f h a us:=by obtain⟨u,D,rfl,k,j⟩:=q.eO;exact Y j.i0 ⟨u,rfl,k⟩
def aT.i2(q:aT f h [a,b] us):KU f h a b us:=by obtain⟨u,D,rfl,k,j⟩:=q.eO;clear q;obtain⟨w,rfl,x⟩:=j.i1;exact⟨u,w,rfl,k,x⟩
end
def RV.of(q:rn f h v x):RV f h x v:=by
 induction x using V.casesOn with
 |none=>exact Y (show v=.none from q) .none|bool=>exact Y (show v=.bool _ from q) .bool|int=>obtain⟨t,rfl⟩:=q;exact .int
 |str=>obtain⟨t,aE,rfl⟩:=q;exact .str aE
 |tup=>obtain⟨a,D,rfl,e,l,q⟩:=q;exact .tup e l q
 |ref=>obtain⟨a,d,rfl,e⟩:=q;exact .ref e
 |fn=>exact Y (show v=.ref _ from q) .fn|blt=>exact .blt q|an=>obtain⟨a,t,u,w,rfl,e⟩:=q;exact .an e
 |bX=>obtain⟨a,c,q,k,C,z,rfl,e,j,co⟩:=q;exact .bX e j co
 |bm=>obtain⟨a,d,m,rfl,e,y⟩:=q;exact .bm e y
def aT.of(q:qK f h us l):aT f h l us:=by rcases l;exact Y (show us=[] from q) .nil;obtain⟨u,D,rfl,j,k⟩:=q;exact .cons j k
def RV.iff:RV f h x v↔rn f h v x:=⟨RV.inv,RV.of⟩
def aT.iff:aT f h l us↔qK f h us l:=⟨aT.inv,aT.of⟩
theorem aT.keep(τ)(k:cw h h'):∀{D},aT f h l D->aT (f++τ) h' l D:=by
 induction l with
 |nil=>intro D q;exact Y q.i0 .nil
 |cons a l j=>intro D q;obtain⟨u,us,rfl,x,y⟩:=q.eO;exact .cons (x.keep τ k)<|j y
theorem aT.length:∀{D},aT f h l D->D.length=l.length:=by
 induction l with
 |nil=>intro D q;exact Y q.i0 rfl
 |cons a l j=>intro D q;obtain⟨u,us,rfl,x,k⟩:=q.eO;exact az Nat.succ<|j k
def aT.get:∀{D}{i:Nat}{x},aT f h l D->l[i]? =some x->∃v,D[i]? =some v/\RV f h x v:=by
 induction l with
 |nil=>intro D i x q e;exact aW e
 |cons a l j=>
  intro D i x q e;obtain⟨u,us,rfl,k,y⟩:=q.eO;induction i using Nat.casesOn with
  |zero=>exact Y (aQ e).symm<|a9 u rfl k
  |succ i=>exact j (i:=i) y e
def aT.append:∀{D},aT f h l D->aT f h k us->aT f h (l++k) (D++us):=by
 induction l with
 |nil=>intro D q r;exact Y q.i0 r
 |cons a l j=>intro D q r;obtain⟨u,us,rfl,x,y⟩:=q.eO;exact .cons x<|j y r
theorem aT.drop:∀{D} n,aT f h l D->aT f h (l.drop n) (D.drop n):=by
 induction l with
 |nil=>intro D n q;exact Y q.i0<|Y List.drop_nil<|Y List.drop_nil .nil
 |cons a l j=>
  intro D n q;induction n using Nat.casesOn with
  |zero=>exact q|succ n=>obtain⟨u,us,rfl,x,k⟩:=q.eO;exact j n k
theorem aT.set(q:RV f h a u):∀{D k},aT f h l D->aT f h (l.set k a) (D.set k u):=by
 induction l with
 |nil=>intro D k p;exact Y p.i0 .nil
 |cons b l x=>intro D k p;obtain⟨w,us,rfl,y,j⟩:=p.eO;rcases k with _|k;exact .cons q j;exact .cons y<|x j
def RG:∀{D},aT f h l D->aT f h l.dropLast D.dropLast:=by
 induction l with
 |nil=>intro D q;exact Y q.i0 .nil
 |cons a l k=>intro D q;obtain⟨u,us,rfl,x,j⟩:=q.eO;rcases l with _|⟨b,l⟩;exact Y j.i0 .nil;clear q;obtain⟨w,y,rfl,_,_⟩:=j.eO;exact .cons x<|k j
section
variable{l:List V}{a:V}{r:R V}
inductive One(l:List V)(k:V->M V)(r:R V):Prop|mk (a:V) (hl:l=[a]) (e:k a=some r)
inductive Jl(l:List V)(k:V->V->M V)(r:R V):Prop|mk (a b:V) (hl:l=[a,b]) (e:k a b=some r)
def iv(e:fR l k=some r):One l k r:=by rcases l with _|⟨a,l⟩;exact aW e;rcases l;exact⟨a,rfl,e⟩;exact aW e
def w5(e:hA l k=some r):Jl l k r:=by rcases l with _|⟨a,l⟩;exact aW e;rcases l with _|⟨b,l⟩;exact aW e;rcases l;exact⟨a,b,rfl,e⟩;exact aW e
def qD(e:vInt a k=some r):∃i,a=.int i/\k i=some r:=by
 induction a using V.casesOn with
 |int i=>exact a9 i rfl e|_=>exact aW e
def xm(e:s4 a k=some r):∃i,a=.int (Int.ofNat i)/\k i=some r:=by refine aZ (qD e) λi f e=>?_;clear e;subst f;rcases i with i|_;exact a9 i rfl e;exact aW e
def qV(e:vStr a k=some r):∃x,a=.str x/\k x=some r:=by
 induction a using V.casesOn with
 |str x=>exact a9 x rfl e|_=>exact aW e
def rz(e:ra a k=some r):∃i,a=.ref i/\k i=some r:=by
 induction a using V.casesOn with
 |ref i=>exact a9 i rfl e|_=>exact aW e
def w9(e:nu x k=some r):∃c,x=[c]/\k c=some r:=by rcases x with _|⟨c,l⟩;exact aW e;rcases l;exact a9 c rfl e;exact aW e
def E7(h:n<=lim):¬(n:Int)>=2^63:=Int.not_le.mpr<|Int.lt_of_le_of_lt (n0.mpr h)<|by decide
def vF(h:n<=lim):(n:Int)<2^63:=Int.not_le.mp<|E7 h
def pG(e:ip o k=some r):∃l,o=some (.list l)/\k l=some r:=by
 rcases o with _|o;exact aW e
 .induction o with|list l=>exact a9 l rfl e|_=>exact aW e
def uj(e:ro l j k2=some r):(∃y,l=[.str y]/\j y=some r)\/∃(y:List Nat)(i:Nat),l=[.str y,.int<|Int.ofNat i]/\k2 y i=some r:=by rcases l with _|⟨a,l⟩;exact aW e;refine aZ (qV e) λy f e=>?_;clear e;subst f;rcases l with _|⟨b,l⟩;exact .inl ⟨y,rfl,e⟩;rcases l;refine aZ (xm e) λi h e=>?_;subst h;exact .inr ⟨y,i,rfl,e⟩;exact aW e
def xM{r:j}(e:ob o k=some r):∃a,o=some a/\k a=some r:=by rcases o with _|a;exact aW e;exact a9 a rfl e
def lM{a:j}{P:Prop}(e:R.ok a H=R.ok b G)(k:a=b->H=G->P):P:=by cases e;exact k rfl rfl
def aK{r:j}{P:Prop}(e:ob o k=some r)(h:∀a,o=some a->k a=some r->P):P:=aZ (xM e) h
def Ry{r:RS}(e:cJ o k=some r):∃a,o=some a/\k a=some r:=by rcases o with _|a;exact aW e;exact a9 a rfl e
def dh{r:RS}{P:Prop}(e:cJ o k=some r)(h:∀a,o=some a->k a=some r->P):P:=aZ (Ry e) h
def wZ{r:RS}(e:Dy m k=some r):∃loc H,m=some (.ok .next loc H)/\k loc H=some r:=by
 rcases m with _|q;exact aW e
 .rcases q with⟨z,loc,H⟩|_
  .induction z with|next=>exact dX loc H rfl e|_=>exact aW e
  exact aW e
def qL(e:np a=some l):a=.tup l:=by cases a<;>first|(cases e;rfl)|exact aW e
def iD(e:fG a=some i):a=.ref i:=by cases a<;>first|(cases e;rfl)|exact aW e
def jQ(e:ef a=some x):a=.str x:=by cases a<;>first|(cases e;rfl)|exact aW e
def fp(e:fQ a=some i):a=.int i:=by cases a<;>first|(cases e;rfl)|exact aW e
def E3(e:m7 a=some k):a=.int (Int.ofNat k):=by refine aK e λi h e=>Y (fp h) ?_;rcases i with j|_;cases e;rfl;exact aW e
def xo(e:jD o=some j):o=some (.dict j):=by
 rcases o with _|o;exact aW e
 .induction o with
  |dict j=>cases e;rfl
  |_=>exact aW e
def p3(e:mc i=some x):∃p,i=.Name x p:=by
 induction i using Expr.casesOn with
 |Name y p=>cases e;exact⟨p,rfl⟩
 |_=>exact aW e
def BH{l:List j}{a:j}(e:tA l=some a):l=[a]:=by rcases l with _|⟨b,r⟩;exact aW e;rcases r;exact Y (aQ e) rfl;exact aW e
def j'(e:dn o=some l):o=some (.list l):=by
 rcases o with _|o;exact aW e
 .induction o with
  |list=>cases e;rfl
  |_=>exact aW e
def rO(e:gS a=true):a=.none:=by cases a<;>first|rfl|exact ff e
def r3{r:Bool}(e:lC a b z=some r):∃x y,a=.int x/\b=.int y/\z x y=r:=by exact aK e λx aE e=>aK e λy f e=>pQ x y (fp aE) (fp f)<|aQ e
def KE{r:Bool}(e:qq a b z=some r):∃x y,a=.str x/\b=.str y/\z x y=r:=by exact aK e λx aE e=>aK e λy f e=>pQ x y (jQ aE) (jQ f)<|aQ e
end
theorem j1:∀{a b},ar a b=true↔a=b
 |[],[]=>by simp[ar]
 |a::l,b::k=>by simp only[ar];rcases h:Nat.beq a b;simp[qt h];refine Y (cd h) ?_;simp[j1]
 |[],_::_=>by simp[ar]
 |_::_,[]=>by simp[ar]
def dr:sq a b=true↔a=b:=by unfold sq;rw[j1];constructor;intro h;obtain⟨⟨a⟩⟩:=a;obtain⟨⟨b⟩⟩:=b;simp only at h;exact Y h rfl;intro h;exact Y h rfl
def Bq:∀{l},dY x l=true->x∈l:=by
 intro l;induction l with
 |nil=>intro e;exact nomatch e
 |cons k r f=>intro e;have e:(match sq k x with|true=>true|false=>dY x r)=true:=e;rcases h:sq k x;rw[h]at e;exact .tail _<|f e;exact Y (dr.mp h).symm<|.head _
def RX(a):sq a a=true:=dr.mpr rfl
def Pk(h:a≠b):sq a b=false:=by rcases q:sq a b;rfl;exact absurd (dr.mp q) h
def lA(h:sq a b=false):a≠b:=λe=>by subst e;rw[RX]at h;exact ff<|h.symm
def iP(x y)(v):∀l:List (Str×j),aC y (put x v l)=if y=x then some v else aC y l:=by
 intro l;induction l with
 |nil=>unfold put aC;rcases q:sq x y;simp[(lA q).symm,aC];have:=(dr).mp q;clear q;subst this;simp
 |cons z r h=>rcases z with⟨k,u⟩;unfold put;rcases q:sq k x;simp only[aC];rcases f:sq k y;exact h;have:=(dr).mp f;clear f;subst this;simp[lA q];have:=(dr).mp q;clear q;subst this;simp only[aC];rcases f:sq k y;simp[(lA f).symm];have:=(dr).mp f;clear f;subst this;simp
def AA(x y):∀l:List (Str×j),aC y (kw x l)=if y=x then none else aC y l:=by
 intro l;induction l with
 |nil=>simp[kw,aC]|cons z r f=>rcases z with⟨k,u⟩;simp only[kw];rcases q:sq k x;simp only[aC];rcases h:sq k y;exact f;have:=(dr).mp h;clear h;subst this;simp[lA q];have:=(dr).mp q;clear q;subst this;simp only;refine Y (f) ?_;by_cases e:y=k;simp[e];simp only[bO e,aC,Pk<|gg e]
def DL(x):∀l:List (Str×j),l.lookup x=aC x l:=by
 intro l;induction l with
 |nil=>exact rfl
 |cons h r f=>
  rcases h with⟨k,u⟩;simp only[aC];refine Y i9 ?_;rcases q:sq k x
  .have:(x==k)=false:=by simpa using(lA q).symm
   simp only[this,f]
  have:=(dr).mp q;clear q;subst this;simp
structure bI where
 A:Around
 hd:Option Nat
 env:Env
 gi:Env
 outer:List Env
 L:Addr
inductive K6(h₀ h:Heap)(env:Env):Prop|mk (k:env.scope.kind=.function) (L:Addr) (o:Obj) (es:Array DictEntry) (n:Nat) (e:env.frame=some L) (e0:h₀.get? L=none) (eo:h.get? L=some o) (c:o.cls=.type "frame") (d:o.data=.dict es n)
def PX(h₀ h:Heap)(l:List Env):Prop:=∀env∈l,K6 h₀ h env
def eK(f:a6)(hd:Option Nat)(v:Option Value):Prop:=match hd with|none=>v=none|some i=>∃a d,f[i]? =some (a,d)/\v=some (.ref a)
structure g2(env:Env)(f:a6)(h:Heap)(loc:Loc)(m:Str->Option Value):Prop where
 own:∀x,aC x env.scope.names=some .local->∀a,aC x loc=some a->∃v,m x=some v/\RV f h a v
 gT:∀x i,aC x env.scope.names=some .cell\/aC x env.scope.names=some .free->aC x loc=some (.ref i)->∃a d,env.cells.lookup x=some a/\f[i]? =some (a,d)
inductive x9(K:al)(h:Heap):Prop|mk (N:Array Value) (e:h.get? K.a3=some (tabObj N)) (t:TriplesOk N.toList) (c:∀pos cv,codeAmong pos N.toList=some cv->∃c',cv=.ref c'/\iA h c' K.ar)
inductive R5(L:Addr)(env:Env)(f:a6)(h:Heap)(loc:Loc):Prop|mk (o:Obj) (m:Str->Option Value) (e:h.get? L=some o) (c:o.cls=.type "frame"\/o.cls=.type "dict") (n:h.Ns L m) (l:g2 env f h loc m)
structure aV(K:al)(F:bI)(loc:Loc)(f:a6)(H:aq)(s:Shared):Prop where
 base:∀b o,b≠K.a3->K.h₀.get? b=some o->s.heap.get? b=some o
 lam:x9 K s.heap
 tab:∃N,K.h₀.get? K.a3=some (tabObj N)
 mods:∃o,K.h₀.get? sysModules=some o/\sysModules≠K.a3
 rep:kb K.w.params K.h₀ f H s.heap
 gens:s.gens=#[]
 os:s.os=K.os
 stack:F.A.frames=some (F.gi::F.outer)
 locals:F.env.locals=F.L
 kind:F.env.scope.kind=.function
 glob:F.env.globals=mainGlobals
 blt:F.env.builtins=builtinsNs
 new:K.h₀.get? F.L=none
 apart:F.L∉bz H f
 loc:R5 F.L F.env f s.heap loc
 out:PX K.h₀ s.heap (F.gi::F.outer)
 hand:eK f F.hd F.A.handled
inductive ha(H:aq)(i:Nat):Prop|mk (E:Addr) (f c:Option Nat) (e:H[i]? =some (.exc E f c))
section
variable{K:al}{loc:Loc}
theorem aV.toks(R:aV K F loc f H s)(t):aV K F loc f H {s with toks:=t}:=⟨R.base,R.lam,R.tab,R.mods,R.rep,R.gens,R.os,R.stack,R.locals,R.kind,R.glob,R.blt,R.new,R.apart,R.loc,R.out,R.hand⟩
end
inductive eE{j:Type}(K:al)(F:bI)(loc:Loc)(k:j->a6->aq->Shared->Prop)(f:a6)(H:aq)(h:Heap)(a:j)(J:Shared):Prop|mk (ab:a6) (H':aq) (R:aV K F loc ab H' J) (st:a5 K.a3 [F.L] f H h ab H' J.heap) (q:k a ab H' J)
inductive jO(K:al)(F:bI)(loc:Loc)(X:Nat->aq->Prop)(f:a6)(H:aq)(h:Heap)(e:Value)(J:Shared):Prop|mk (ab:a6) (H':aq) (i:Nat) (a d:Addr) (R:aV K F loc ab H' J) (st:a5 K.a3 [F.L] f H h ab H' J.heap) (ei:ab[i]? =some (a,d)) (ee:e=.ref a) (ie:ha H' i) (x:X i H')
def aO{j:Type}(I:Program)(K:al)(F:bI)(loc:Loc)(t:Sem j)(k:j->a6->aq->Shared->Prop)(X:Nat->aq->Prop)(f:a6)(H:aq)(s:Shared):Prop:=wpAny (model I K.w) F.A t (eE K F loc k f H s.heap) (jO K F loc X f H s.heap) s
section
variable{j:Type}{I:Program}{K:al}{F:bI}{loc:Loc}{f:a6}{H:aq}{s:Shared}{k:j->a6->aq->Shared->Prop}{X:Nat->aq->Prop}
def LN(R:aV K F loc f H s)(h:k a f H s):aO I K F loc (pure a) k X f H s:=aL ⟨f,H,R,.refl ..,h⟩
end
section
variable{K:al}{loc:Loc}{f τ:a6}{h':Heap}
def aV.on(R:aV K F loc f H s):K.a3∉F.L::bz H f:=λm=>by refine aU R.tab λo e=>?_;rcases bC.mp m with m|m;rw[m,R.new]at e;exact aW e;rw[R.rep.new _ m]at e;exact aW e
def aV.alive(R:aV K F loc f H s):s.heap.get? F.L≠none:=λq=>by obtain⟨o,m,e,_⟩:=R.loc;rw[q]at e;exact aW e
def kb.alive(R:kb P h₀ f H h)(m:a∈bz H f):h.get? a≠none:=λq=>by refine aZ (R.cls m) λo e _=>?_;rw[q]at e;exact aW e
def rm(R:aV K F loc f H s)(j:∀b o,b∉F.L::bz H f->s.heap.get? b=some o->h'.get? b=some o):cw s.heap h':=λa o e c=>by refine j a o (λm=>?_) e;rcases bC.mp m with m|m;subst m;obtain⟨o',_,h,q,_⟩:=R.loc;rw[e]at h;obtain rfl:=aQ h;rcases q with q|q;exact c.ne "frame" (by decide) q;exact c.ne "dict" (by decide) q;refine aZ (R.rep.cls m) λo' h l=>?_;rw[e]at h;clear m;obtain rfl:=aQ h;exact c.led l
def aV.move(R:aV K F loc f H s)(t:Tok)(x:∀b o,b∉F.L::bz H f->s.heap.get? b=some o->h'.get? b=some o)(live:∀a,s.heap.get? a≠none->h'.get? a≠none)(rep:kb K.w.params K.h₀ (f++τ) H' h')(new:∀a∈bz H' (f++τ),a∈bz H f\/s.heap.get? a=none)(lo:∀o m,s.heap.get? F.L=some o->s.heap.Ns F.L m->g2 F.env f s.heap loc m->∃es n T,h'.get? F.L=some {o with data:=.dict es n}/\h'.Ns F.L T/\g2 F.env (f++τ) h' ag T):aV K F ag (f++τ) H' {s with heap:=h',toks:=t}/\a5 K.a3 [F.L] f H s.heap (f++τ) H' h':=by
 have fx:=rm R x;obtain⟨oL,nO,I,O,nL,lL⟩:=R.loc;refine d5 (lo oL nO I nL lL) λes n T u n' j=>?_;refine⟨⟨λb o ne e=>x b o (λm=>?_)<|R.base b o ne e,?_,R.tab,R.mods,rep,R.gens,R.os,R.stack,R.locals,R.kind,R.glob,R.blt,R.new,λm=>?_,⟨_,T,u,O,n',j⟩,λenv m=>?_,?_⟩,
  ⟨⟨τ,rfl⟩,λa o na e=>⟨o,x a o (λm=>na ?_) e,.inl rfl⟩,new,live⟩⟩
 rcases bC.mp m with m|m;rw[m,R.new]at e;exact aW e;rw[R.rep.new _ m]at e;exact aW e;obtain⟨N,e,ht,h⟩:=R.lam;refine⟨N,x _ _ R.on e,ht,λpos U q=>?_⟩;exact aZ (h pos U q) λJ y k=>a9 J y<|k.keep fx;rcases new _ m with m|m;exact R.apart m;exact R.alive m;obtain⟨k,L,o,W,aa,e1,y,z,C,D⟩:=R.out env m;by_cases q:L=F.L;subst q;rw[I]at z;clear D;obtain rfl:=aQ z;exact⟨k,F.L,_,es,n,e1,y,u,C,rfl⟩;refine⟨k,L,o,W,aa,e1,y,x L o (λm=>?_) z,C,D⟩;rcases bC.mp m with m|m;exact q m;refine aZ (R.rep.cls m) λo' u l=>?_;rw[z]at u;clear m;obtain rfl:=aQ u;rcases l with l|l|l|⟨E,l⟩<;>(rw[C]at l;first|exact absurd (fh l) (by decide)|cases l)
 have hh:=R.hand;unfold eK at hh⊢;split at hh;exact hh;exact bV hh λa d e q=>dX a d (fT τ e) q
 .rcases bC.mp m with m|m;exact .tail _<|fF _<|by refine Y m ?_;exact .head _
  exact .tail _<|gA _ m
theorem g2.keep(x:g2 env f h loc m)(τ)(k:cw h h'):g2 env (f++τ) h' loc m:=by refine⟨λy e a u=>?_,λy i c e=>?_⟩;exact aZ (x.own y e a u) λv e1 r=>a9 v e1<|r.keep τ k;exact bV (x.gT y i c e) λa d e1 j=>dX a d e1<|fT τ j
theorem Ns.data{h:Heap}(n:h.Ns a m):∃o es k,h.get? a=some o/\o.data=.dict es k:=let⟨o,es,k,e,d,_⟩:=n;⟨o,es,k,e,d⟩
def yj(R:aV K F loc f H s)(j:∀b o,b∉F.L::bz H f->s.heap.get? b=some o->h'.get? b=some o)(qQ:∀o,s.heap.get? F.L=some o->h'.get? F.L=some o):∀o m,s.heap.get? F.L=some o->s.heap.Ns F.L m->g2 F.env f s.heap loc m->∃es n T,h'.get? F.L=some {o with data:=.dict es n}/\h'.Ns F.L T/\g2 F.env (f++τ) h' loc T:=λo m e n l=>by refine d5 n λo' es k h d r=>?_;rw[e]at h;obtain rfl:=aQ h;refine oU es k m ?_ ⟨o,es,k,qQ _ e,d,r⟩<|l.keep τ<|rm R j;exact Y (qQ _ e)<|Y d.symm rfl
def aV.keeps(R:aV K F loc f H s)(t:Tok)(k:∀b o,s.heap.get? b=some o->h'.get? b=some o):aV K F loc f H {s with heap:=h',toks:=t}/\a5 K.a3 [F.L] f H s.heap f H h':=by
 have:=R.move (τ:=[]) (H':=H) (ag:=loc) (h':=h') t (λb o _ e=>k b o e) (λa n q=>?_) ?_ ?_<|yj R (λb o _ e=>k b o e)<|k _;simpa using this;rcases e:s.heap.get? a with _|o;exact n e;rw[k _ _ e]at q;exact aW<|q.symm
 .have fx:cw s.heap h':=λa o e _=>k a o e;refine Y (be ..) ⟨R.rep.len,λi o p e1 j=>?_,R.rep.nd,R.rep.new⟩;have r:=R.rep.obj i o p e1 j;have kp:∀{x v},RV f s.heap x v->RV f h' x v:=λr=>by have:=r.keep [] fx;rwa [be]at this
  have O:∀{x v},aT f s.heap x v->aT f h' x v:=λr=>by have:=r.keep [] fx;rwa [be]at this
  have y:∀{x v},bM K.w.params f s.heap x v->bM K.w.params f h' x v:=λr=>by have:=r.keep [] fx;rwa [be]at this
  rcases o with l|⟨E,h⟩|⟨E,h,c⟩|h|x;obtain⟨D,n,e,l,q⟩:=r;exact⟨D,n,k _ _ e,l,O q⟩;obtain⟨es,n,e,J,q⟩:=r;exact⟨es,n,k _ _ e,k _ _ J,y q⟩;obtain⟨d,z,tb,I,e,q,u,C⟩:=r;refine⟨d,z,tb,I,k _ _ e,q,?_,C⟩;rcases u with u|⟨t,D,e1,j,N⟩;exact .inl u;exact .inr ⟨t,D,e1,k _ _ j,N⟩;obtain⟨es,n,e,q⟩:=r;exact⟨es,n,k _ _ e,y q⟩;rcases x with _|x;exact k _ _ r;obtain⟨v,e,q⟩:=r;exact⟨v,k _ _ e,kp q⟩
 intro a m;rw[be]at m;exact .inl m
end
def aR{z:Nat}(h:a<=b)(k:b+e<=a+z):e<=z:=Nat.le_of_add_le_add_left<|av k<|iB h _
def a7{z:Nat}(h:a<=b)(i:c<=d)(k:b+(d+e)<=a+(c+z)):e<=z:=aR i<|aR h k
def cS{h:Nat}(i:a<=b)(j:c<=d)(k:e<=z)(l:b+(d+(z+g))<=a+(c+(e+h))):g<=h:=aR k<|a7 i j l
def sr{y:Nat}(i:a<=b)(j:c<=d)(k:e<=z)(m:x<=y)(l:b+(d+(z+(y+g)))<=a+(c+(e+(x+h)))):g<=h:=aR m<|cS i j k l
def cn(a b:Nat):a<=a-b+b:=C6.mp<|ba _
def TbKeep(h h':Heap):Prop:=∀t D,h.get? t=some {cls:=.type "traceback",data:=.fields D}->∃U,h'.get? t=some {cls:=.type "traceback",data:=.fields U}/\U.size=D.size
theorem RO.keep(r:RO P f h o p)(fx:cw h h')(k:∀a∈foot o p,∀ob,h.get? a=some ob->h'.get? a=some ob)(W:TbKeep h h'):RO P (f++τ) h' o p:=by rcases o with l|⟨E,j⟩|⟨E,j,c⟩|j|x;obtain⟨D,n,e,l,q⟩:=r;exact⟨D,n,k _ (.head _) _ e,l,q.keep τ fx⟩;obtain⟨es,n,e,I,q⟩:=r;exact⟨es,n,k _ (.head _) _ e,k _ (.tail _<|.head _) _ I,q.keep τ fx⟩;obtain⟨d,y,tb,C,e,q,u,z⟩:=r;refine⟨d,y,tb,C,k _ (.head _) _ e,q.more τ,?_,z.more τ⟩;rcases u with u|⟨t,D,e1,J,N⟩;exact .inl u;exact aZ (W _ _ J) λU O T=>.inr ⟨t,U,e1,O,T.trans N⟩;obtain⟨es,n,e,q⟩:=r;exact⟨es,n,k _ (.head _) _ e,q.keep τ fx⟩;rcases x with _|x;exact k _ (.head _) _ r;obtain⟨v,e,q⟩:=r;exact⟨v,k _ (.head _) _ e,q.keep τ fx⟩
theorem so:∀{H f G τ},f.length=H.length->bz (H++G) (f++τ)=bz H f++bz G τ
 |[],[],_,_,_=>by simp[bz]
 |o::H,p::f,G,τ,e=>by simp only[kc,bz];exact Y (so<|by simpa using e)<|Y (br ..) rfl
 |[],_::_,_,_,e=>by simp at e
 |_::_,[],_,_,e=>by simp at e
theorem tg:∀{H f i o p o'},H[i]? =some o->f[i]? =some p->foot o' p=foot o p->bz (H.set i o') f=bz H f
 |o::H,p::f,0,j,k,o',e1,h,e=>by simp only[qO,qM]at e1 h;subst e1 h;simp only[List.set_cons_zero,bz,e]
 |o::H,p::f,i+1,j,k,o',e1,h,e=>by simp only[List.set_cons_succ,bz];exact Y (tg (by simpa using e1) (by simpa using h) e) rfl
 |[],_,i,_,_,_,e1,_,_=>by simp at e1
 |_::_,[],i,_,_,_,_,h,_=>by simp at h
theorem jR:∀{H f}{i j:Nat}{o o' p x},(bz H f).Nodup->i≠j->H[i]? =some o->f[i]? =some p->H[j]? =some o'->f[j]? =some x->∀a∈foot o p,a∉foot o' x
 |_::H,_::f,0,0,_,_,_,_,_,ne,_,_,_,_,_,_=>absurd rfl ne|_::H,_::f,0,j+1,o,o',p,x,nd,_,e1,h,k,u,a,m=>λT=>by simp only[qO,qM]at e1 h;subst e1 h;have:=(iG.mp nd).2.2 a m a<|ep (by simpa using k) (by simpa using u) a T;exact this rfl
 |_::H,_::f,i+1,0,o,o',p,x,nd,_,e1,h,k,u,a,m=>λT=>by simp only[qO,qM]at k u;subst k u;have:=(iG.mp nd).2.2 a T a<|ep (by simpa using e1) (by simpa using h) a m;exact this rfl
 |_::H,_::f,i+1,j+1,o,o',p,x,nd,ne,e1,h,k,u,a,m=>jR (iG.mp nd).2.1 (λe=>ne<|az (·+1) e) (by simpa using e1) (by simpa using h) (by simpa using k) (by simpa using u) a m|[],_,i,j,_,_,_,_,_,_,e1,_,_,_,_,_=>by simp at e1
 |_::_,[],i,j,_,_,_,_,_,_,_,h,_,_,_,_=>by simp at h
section
variable{K:al}{loc:Loc}
def t4(R:aV K F loc f H s)(j:∀b o,b∉F.L::bz H f->s.heap.get? b=some o->h'.get? b=some o):TbKeep s.heap h':=λt D e=>by
 refine⟨D,j _ _ (λm=>?_) e,rfl⟩;rcases bC.mp m with m|m;subst m;obtain⟨o',_,h,q,_⟩:=R.loc;rw[e]at h;obtain rfl:=aQ h;rcases q with q|q<;>exact absurd (fh q) (by decide)
 refine aZ (R.rep.cls m) λo' h l=>?_;rw[e]at h;clear m;obtain rfl:=aQ h;rcases l with l|l|l|⟨E,l⟩<;>first|exact absurd (fh l) (by decide)|cases l
theorem aV.set(R:aV K F loc f H s)(t:Tok)(e1:H[i]? =some o)(h:f[i]? =some p)(x:foot o' p=foot o p)(y:∀b ob,b∉foot o p->s.heap.get? b=some ob->h'.get? b=some ob)(r:cw s.heap h'->RO K.w.params f h' o' p):aV K F loc f (H.set i o') {s with heap:=h',toks:=t}/\a5 K.a3 [F.L] f H s.heap f (H.set i o') h':=by have z:∀b ob,b∉F.L::bz H f->s.heap.get? b=some ob->h'.get? b=some ob:=λb ob n e=>y b ob (λm=>n<|.tail _<|ep e1 h _ m) e;have fx:=rm R z;have D:=r fx;have:=R.move (τ:=[]) (H':=H.set i o') (ag:=loc) (h':=h') t z (λa n q=>?_) ?_ ?_<|yj R z λob e=>y _ _ (λm=>R.apart<|ep e1 h _ m) e;simpa using this;by_cases m:a∈foot o p;refine aZ (D.cls a<|x▸m) λb e _=>?_;rw[q]at e;exact aW e;rcases e:s.heap.get? a with _|ob;exact n e;rw[y _ _ m e]at q;exact aW<|q.symm;refine Y (be ..) ⟨by refine Y er ?_;exact R.rep.len,λj ob q k u=>?_,by refine Y (tg e1 h x) ?_;exact R.rep.nd,by refine Y (tg e1 h x) ?_;exact R.rep.new⟩;by_cases C:i=j;subst C;have hl:=(b4.mp e1).1;rw[qZ hl]at k;obtain rfl:=aQ k;rw[h]at u;obtain rfl:=aQ u;exact D;rw[o0 C]at k;have:=(R.rep.obj j ob q k u).keep (τ:=[]) fx (λa m E e=>y a E (λT=>jR R.rep.nd (gg C) k u e1 h a m T) e)<|t4 R z;rwa [be]at this;intro a m;rw[be,tg e1 h x]at m;exact .inl m
def aV.add(R:aV K F loc f H s)(t:Tok)(k:∀b ob,s.heap.get? b=some ob->h'.get? b=some ob)(fr:∀a∈foot o p,s.heap.get? a=none/\a≠K.a3)(nd:(foot o p).Nodup)(r:cw s.heap h'->RO K.w.params (f++[p]) h' o p):aV K F loc (f++[p]) (H++[o]) {s with heap:=h',toks:=t}/\a5 K.a3 [F.L] f H s.heap (f++[p]) (H++[o]) h':=by
 have y:∀b ob,b∉F.L::bz H f->s.heap.get? b=some ob->h'.get? b=some ob:=λb ob _ e=>k b ob e;have fx:=rm R y;have z:bz (H++[o]) (f++[p])=bz H f++foot o p:=by refine Y (so R.rep.len) ?_;simp[bz]
 refine R.move t y (λa n q=>?_) ?_ (λa m=>?_)<|yj R y λob e=>k _ _ e;rcases e:s.heap.get? a with _|ob;exact n e;rw[k _ _ e]at q;exact aW<|q.symm
 .refine⟨by exact Y a0<|Y a0<|Y R.rep.len rfl,λj ob q h u=>?_,?_,λa m=>?_⟩
  .by_cases x:j<H.length;rw[dO x]at h;rw[dO<|by refine Y R.rep.len ?_;exact x]at u;exact(R.rep.obj j ob q h u).keep fx (λa _ D e=>k _ _ e)<|t4 R y
   .have C:j<(H++[o]).length:=(b4.mp h).1;have:j=H.length:=by simp at C;exact cf (aR C<|by simp+arith)<|aR (mm x)<|by simp+arith
    clear x C;subst this;rw[dp<|ba _,ew]at h;rw[<-R.rep.len,dp<|ba _,ew]at u;simp only[qO,qM]at h u;subst h u;exact r fx
  refine Y z (iG.mpr ⟨R.rep.nd,nd,λa m b T q=>?_⟩);subst q;exact R.rep.alive m (fr a T).1;rw[z]at m;rcases d2.mp m with m|m;exact R.rep.new _ m;rcases e:K.h₀.get? a with _|ob;rfl;exact absurd ((R.base a ob (fr a m).2 e).symm.trans (fr a m).1)<|by simp
 rw[z]at m;rcases d2.mp m with m|m;exact .inl m;exact .inr (fr a m).1
end
abbrev jb(h y:Type):=a6->Heap->h->y->Prop
inductive aM{h y:Type}(ρ:jb h y)(r:R h)(v:y)(ab:a6)(H':aq)(J:Shared):Prop|mk (a:h) (e:r=.ok a H') (q:ρ ab J.heap a v)
def a8{h:Type}(r:R h):Nat->aq->Prop:=λi H'=>r=.exc i H'
def Sn{h y:Type}(I:Program)(K:al)(F:bI)(loc:Loc)(ρ:jb h y)(m:M h)(t:Sem y)(f:a6)(H:aq)(s:Shared):Prop:=∀r,m=some r->aO I K F loc t (aM ρ r) (a8 r) f H s
abbrev kH:jb Bool Bool:=λ_ _ a b=>b=a
abbrev aN:jb V Value:=λf h a v=>RV f h a v
abbrev vB:jb (List V) (List Value):=λf h a v=>aT f h a v
section
variable{h y:Type}{I:Program}{K:al}{F:bI}{loc:Loc}{ρ:jb h y}{f C:a6}{H j:aq}{z:Heap}{s:Shared}
def fN(st:a5 K.a3 [F.L] C j z f H s.heap)(h:aO I K F loc t k X f H s):wpAny (model I K.w) F.A t (eE K F loc k C j z) (jO K F loc X C j z) s:=bY h (λ_ _⟨_,_,u,ae,E⟩=>⟨_,_,u,st.trans ae λ_ m=>.inl m,E⟩) λ_ _⟨_,_,i,a,d,u,ae,e1,y,D,x⟩=>⟨_,_,i,a,d,u,st.trans ae λ_ m=>.inl m,e1,y,D,x⟩
def Sn.then(st:a5 K.a3 [F.L] C j z f H s.heap)(h:Sn I K F loc ρ m t f H s)(e:bd m k=some r)(g:∀a v ab H' J,aV K F loc ab H' J->a5 K.a3 [F.L] C j z ab H' J.heap->a5 K.a3 [F.L] f H s.heap ab H' J.heap->ρ ab J.heap a v->k a H'=some r->G v J):wpAny (model I K.w) F.A t G (jO K F loc (a8 r) C j z) s:=by refine l4 λU T=>?_;rcases y:m with _|q;clear h;subst y;exact aW e;rcases q with⟨a,H'⟩|⟨i,H'⟩;rw[y]at e;refine T<|bY (h _ y) (λv J⟨ab,E,u,ae,D,q,x⟩=>?_) λev J⟨ab,E,i,D,d,u,ae,e1,N,O,x⟩=>nomatch x;cases q;exact g _ v _ _ J u (st.trans ae λ_ m=>.inl m) ae x e;rw[y]at e;clear g;cases e;refine T<|bY (h _ y) (λv J⟨ab,E,u,ae,D,q,x⟩=>nomatch q) λev J⟨ab,E,W,D,d,u,ae,e1,N,O,x⟩=>?_;cases x;exact⟨ab,_,_,D,d,u,st.trans ae λ_ m=>.inl m,e1,N,O,rfl⟩
def Sn.ok(R:aV K F loc f H s)(x:ρ f s.heap a v)(e:rt a H=some r)(h:t=pure v):aO I K F loc t (aM ρ r) (a8 r) f H s:=by subst h;cases e;exact LN R ⟨a,rfl,x⟩
def bj(R:aV K F loc f H s)(st:a5 K.a3 [F.L] C j z f H s.heap)(x:ρ f s.heap a v)(e:rt a H=some r):eE K F loc (aM ρ r) C j z v s:=by cases e;exact⟨f,H,R,st,a,rfl,x⟩
def jN(e:as b m=some r):b=true/\m=some r:=by rcases b;exact aW e;exact⟨rfl,e⟩
def cH{P:Prop}(e:as b m=some r)(h:b=true->m=some r->P):P:=aS (jN e) h
theorem RV.at(st:a5 K.a3 [F.L] f H s.heap ab j h')(R:aV K F loc f H s)(q:RV f s.heap x v):RV ab h' x v:=by
 refine aU st.ext λτ k=>?_;subst k;refine q.keep τ λa o e c=>st.keep.plain (λm=>?_) e (c.ne "frame"<|by decide)<|c.ne "traceback"<|by decide
 rcases bC.mp m with m|m;obtain⟨N,h,_⟩:=R.lam;rw[m,h]at e;clear m;cases e;rcases c with c|c|c|c|c<;>cases c
 rcases d2.mp m with m|m;obtain⟨o',_,h,q,_⟩:=R.loc;rw[b8.mp m,h]at e;clear m h;cases e;rcases q with q|q;exact c.ne "frame" (by decide) q;exact c.ne "dict" (by decide) q;refine aZ (R.rep.cls m) λo' h l=>?_;rw[h]at e;clear m h;cases e;exact c.led l
end
def kX(d:Nat)(A:Around):Prop:=A.depth+2*d+30<=recursionLimit/\A.units+8*d+200<=cLine
structure CtxOk(d:Nat)(c:bh)(F:bI):Prop where
 sc:∀x,aC x F.env.scope.names=aC x c.sc\/(aC x c.sc=some .free/\aC x F.env.scope.names=some .cell)
 hd:c.hd=F.hd
 room:kX d F.A
 lam:∀a q,c.lam=some (a,q)->F.env.code=.ref a/\F.env.qual=q
def CtxOk.kl(E:CtxOk d c F)(h:aC x c.sc=some k):aC x F.env.scope.names=some k\/(k=.free/\aC x F.env.scope.names=some .cell):=by rcases E.sc x with e|⟨e,f⟩;exact .inl<|e.trans h;rw[h]at e;clear h;cases e;exact .inr ⟨rfl,f⟩
def CtxOk.kn(E:CtxOk d c F)(h:aC x c.sc=some k)(n:k≠.free):aC x F.env.scope.names=some k:=(E.kl h).elim id λC=>absurd C.1 n
structure bB(I:Program)(K:al)(d:Nat)(v:dQ):Prop where
 e:∀{F:bI}{c:bh}{loc:Loc}{x:Expr}{f:a6}{H:aq}{s:Shared},CtxOk d c F->aV K F loc f H s->Sn I K F loc aN (v.e c loc x H) (eval x F.env) f H s
 t:∀{F:bI}{c:bh}{loc:Loc}{x:Expr}{f:a6}{H:aq}{s:Shared},CtxOk d c F->aV K F loc f H s->Sn I K F loc kH (v.t c loc x H) (isTrue x F.env (eval x F.env)) f H s
section
variable{K:al}
def Ih(x):(⟨x.cps.toList.toArray⟩:Str)=x:=by obtain⟨⟨l⟩⟩:=x;rfl
def Jk(R:aV K F loc f H s)(u:rV k=some a)(e:rt a H=some r):aO I K F loc (eval (.Constant k n p) F.env) (aM aN r) (a8 r) f H s:=by
 refine l4 λz y=>?_;induction k with
 |none=>cases u;exact y<|wpAny_Constant_none<|bj R (.refl ..) .none e
 |bool=>cases u;exact y<|wpAny_Constant_bool<|bj R (.refl ..) .bool e
 |int=>cases u;exact y<|wpAny_Constant_int<|bj (R.toks _) (.refl ..) .int e
 |str x=>have u:aB (cq x.cps.toList.length) (some<|V.str x.cps.toList) none=some a:=u;revert u;rcases j:cq x.cps.toList.length;intro u;exact aW u;intro u;cases u;refine y<|wpAny_Constant_str<|bj (R.toks _) (.refl ..) ?_ e;have:=RV.str (f:=f) (h:=s.heap) (t:=s.toks)<|bG j;rwa [Ih]at this
 |_=>exact aW u
def xl(q:RV f s.heap a u)(e:kL a=some b)(h:Q b s):wpAny (model I K.w) A (truthy u) Q U s:=by
 refine l4 λk j=>?_;induction a using V.casesOn with
 |none=>refine j<|Y q.qf ?_;cases e;exact λ_ _ _=>h
 |bool=>refine j<|Y q.te ?_;cases e;exact xq h
 |_=>exact aW e
def UN{x y:Sem h}:(match op,b with|.And,false|.Or,true=>x|_,_=>y)=match rT op b with|true=>x|false=>y:=by cases op<;>cases b<;>rfl
def I'(N:bB I K d v)(E:CtxOk d c F):∀{f H s},aV K F loc f H s->Sn I K F loc aN (rL v c loc op k H) (boolOp p op<|evalEach k F.env) f H s:=by
 induction k with
 |nil=>intro f H s R r e;exact aW e
 |cons x k C=>intro f H s R r e;rcases k with _|⟨y,k⟩;exact N.e E R r e;refine aX (Sn.then (.refl ..) (N.e E R) e λa u ab H' J j st _ q h=>aX<|dL<|aX<|c8<|aK h λb z h=>xl q z ?_);have D:=C j r;cases op<;>cases b<;>first|exact fN st (D h)|exact aL (bj j st q h)
def Lg(C:bB I K d v)(E:CtxOk d c F):∀{f H s},aV K F loc f H s->Sn I K F loc kH (lH v c loc op k H) (allTrue op k F.env) f H s:=by
 induction k with
 |nil=>intro f H s R r e;refine Y (arm_allTrue_nil ..)<|aL<|bj R (.refl ..) ?_ e;cases op<;>rfl
 |cons x k y=>intro f H s R r e;refine Y (arm_allTrue_cons ..)<|aX<|Sn.then (.refl ..) (C.t E R) e λb u ab H' J h st _ q j=>?_;cases q;have z:=y h r;cases op<;>cases b<;>first|exact fN st (z j)|exact aL (bj h st rfl j)
def rN(h:jr 22 x=true):starEach (x::l) env=(false,eval x env)::starEach l env:=by cases x<;>first|rfl|exact ff h
def l6(h:df (x::l)=true):jr 22 x=true/\df l=true:=by have e:(match jr 22 x with|true=>df l|false=>false)=true:=h;revert e;rcases k:jr 22 x;intro e;exact ff e;intro e;exact⟨rfl,e⟩
def vl(U:bB I K d v)(E:CtxOk d c F):∀{h f H s},df h=true->aV K F loc f H s->Sn I K F loc vB (ce v c loc h H) (spliced<|backTo p<|starEach h F.env) f H s:=by
 intro h;induction h with
 |nil=>intro f H s _ R r e;exact wpAny_items_nil<|bj (ρ:=vB) R (.refl ..) aT.nil e
 |cons x h C=>intro f H s ns R r e;unfold ce at e;have D:=(l6 ns).2;have he:=rN (l:=h) (env:=F.env) (l6 ns).1;refine wpAny_items_cons (Sn.then (.refl ..) (U.e E R) e λa u ab H' J j st _ q y=>?_) he;exact Sn.then st (C D j) y λl us aa T W k ae O N z=>bj (ρ:=vB) k ae (.cons (q.at O j) N) z
def IV(k:bB I K d v)(E:CtxOk d c F)(R:aV K F loc f H s)(e:ec T O v c loc (.IfExp t a b p) H=some r):aO I K F loc (eval (.IfExp t a b p) F.env) (aM aN r) (a8 r) f H s:=by
 refine wpAny_IfExp<|Sn.then (.refl ..) (k.t E R) e λq u ab H' J j st _ x h=>?_;cases x;cases q<;>simp only at h⊢
 exact fN st<|k.e E j r h;exact fN st<|k.e E j r h
end
def gw{f:Type}{r:f}(e:none=some r):False:=nomatch e
def UE(a b):b<a↔Int.negSucc a<Int.negSucc b:=(Nat.succ_lt_succ_iff.symm.trans hQ.symm).trans (Int.neg_lt_neg_iff).symm
def ib:∀{a b},du a b=decide (a<b)
 |.ofNat a,.ofNat b=>by show Nat.blt a b=_;rw[gM,gE,jt];exact hQ.symm
 |.negSucc a,.ofNat b=>by show true=_;exact(h4<|nH (nY a)<|gt b).symm
 |.ofNat a,.negSucc b=>by show false=_;refine(kk λh=>?_).symm;exact absurd (lv h<|nY b)<|hH.mpr<|gt a
 |.negSucc a,.negSucc b=>by show Nat.blt b a=_;rw[gM,gE,jt];exact UE a b
def nl:∀{a b},jW a b=decide (a=b)
 |.ofNat a,.ofNat b=>by show Nat.beq a b=_;rw[gM,gE,Nat.beq_eq];exact⟨λh=>Y h rfl,λh=>by injection h⟩
 |.negSucc a,.negSucc b=>by show Nat.beq a b=_;rw[gM,gE,Nat.beq_eq];exact⟨λh=>Y h rfl,λh=>by injection h⟩
 |.negSucc a,.ofNat b=>(kk λh=>nomatch h).symm|.ofNat a,.negSucc b=>(kk λh=>nomatch h).symm
def t2(h:c9 i=true):-(4611686018427387904+1)<i/\i<4611686018427387904:=by rcases i with k|k;exact⟨nH (by decide)<|gt k,hQ.mpr<|jt.mp h⟩;exact⟨(show-((4611686018427387904+1:Nat):Int)< -((k+1:Nat):Int) from Int.neg_lt_neg<|hQ.mpr<|Nat.succ_lt_succ<|jt.mp h),lv (nY k)<|by decide⟩
def yD(h:c9 i=true):Builtin.Int.intBits i<=64:=intBits_le_64 (lv (by decide) (t2 h).1) (lv (t2 h).2<|by decide)
def S4(h:c9 b=true):b.natAbs<2^64:=by
 rcases b with k|k;exact cu (jt.mp h)<|by decide
 exact e9 (jt.mp h)<|by decide
def Rc(h:c9 b=true):¬(Builtin.divisionGoesByPylong a b)=true:=by
 unfold Builtin.divisionGoesByPylong;have f:¬((if b==0 then 0 else b.natAbs.log2/30+1)>300):=by
  split;decide
  .have:b.natAbs.log2<64:=by rw[Nat.log2_lt<|by rename_i q;intro C;exact q<|by simpa using Int.natAbs_eq_zero.mp C];exact S4 h
   exact ol.mpr<|av (fv<|Nat.div_le_self ..)<|av this<|by decide
 simp only[fW,gE,not_and];intro q;exact absurd q f
def hP(h:cq n=true):n<=lim:=bG h
def fH:lim<=sizeLine:=by refine Y sizeLine_eq ?_;decide
section
variable{K:al}{loc:Loc}{H:aq}{s:Shared}
def wJ(R:aV K F loc f H s)(e:rt a H=some r)(q:cw s.heap (s.heap.push o)->ρ f (s.heap.push o) a v):eE K F loc (aM ρ r) f H s.heap v {s with heap:=s.heap.push o}:=by have kp:∀b ob,s.heap.get? b=some ob->(s.heap.push o).get? b=some ob:=λb ob e=>b0 o e;exact aS (R.keeps s.toks kp) λh st=>bj h st (q λa ob e _=>kp a ob e) e
theorem RV.fx(q:RV f s.heap x v)(fx:cw s.heap h'):RV f h' x v:=by have:=q.keep [] fx;rwa [be]at this
theorem aT.fx(q:aT f s.heap x v)(fx:cw s.heap h'):aT f h' x v:=by have:=q.keep [] fx;rwa [be]at this
theorem bM.fx(q:bM P f s.heap x v)(fx:cw s.heap h'):bM P f h' x v:=by have:=q.keep [] fx;rwa [be]at this
def aV.isList(R:aV K F loc f H s){i:Nat}(e:H[i]? =some (.list l))(h:f[i]? =some (a,d)):EI f s.heap l a:=R.rep.obj i _ _ e h
def aV.h6(R:aV K F loc f H s)(e:s.heap.get? a=none):a≠K.a3:=λq=>by obtain⟨N,h,_⟩:=R.lam;rw[q,h]at e;exact aW<|e.symm
def ei(h:Heap):h.get? h.objs.size=none:=Heap.get?_none_of_le<|ba _
def wn(R:aV K F loc f H s)(hl:l.length<=lim)(q:aT f s.heap l D)(e:rt (V.ref H.length) (H++[.list l])=some r):eE K F loc (aM aN r) f H s.heap (.ref s.heap.objs.size) {s with heap:=s.heap.push {cls:=.type "list",data:=.seq D.toArray}}:=by
 have kp:∀b ob,s.heap.get? b=some ob->(s.heap.push {cls:=.type "list",data:=.seq D.toArray}).get? b=some ob:=λb ob e=>b0 _ e;have h:∀a∈foot (.list l) (s.heap.objs.size,0),s.heap.get? a=none/\a≠K.a3:=λa m=>by exact Y (b8.mp m) ⟨ei _,R.h6<|ei _⟩
 have j:cw s.heap (s.heap.push {cls:=.type "list",data:=.seq D.toArray})->RO K.w.params (f++[(s.heap.objs.size,0)]) (s.heap.push {cls:=.type "list",data:=.seq D.toArray}) (.list l) (s.heap.objs.size,0):=λfx=>⟨D,0,dS _ rfl,by refine Y q.length ?_;exact hl,q.keep _ fx⟩;refine aS (R.add (o:=.list l) (p:=(s.heap.objs.size,0)) s.toks kp h (ee.mpr ⟨by simp,kO⟩) j) λk st=>bj (ρ:=aN) k st ?_ e;refine RV.ref (d:=0)<|Y R.rep.len.symm<|Y (dp<|ba _)<|Y (ew ..) ?_;rfl
def aT.nil_of(q:aT f h l []):l=[]:=q4.mp<|q.length▸rfl
def Qk(q:aT f h l D):∀k,aT f h (List.replicate k l).flatten (List.replicate k D).flatten:=by
 intro k;induction k with
 |zero=>exact .nil|succ k j=>exact Y List.replicate_succ<|Y List.replicate_succ<|Y List.flatten_cons<|Y List.flatten_cons<|q.append<|j
def LX(h:0<=x)(f:x<1000):¬(!Builtin.List.listFitsIndex x)=true:=by unfold Builtin.List.listFitsIndex;rw[h4<|oD (by decide) h,h4<|lv f<|by decide];decide
def Ig(f:s.heap.get? a=some (eA D n))(k:0<=x)(j:x<1000)(u:D.length*x.toNat<=256)(h:Q (.ref s.heap.objs.size) {s with heap:=s.heap.push {cls:=.type "list",data:=.seq (List.replicate x.toNat D).flatten.toArray}}):wpAny (model I K.w) A (binaryOp .Mult (.ref a)<|.int x t) Q U s:=by
 have y:D.toArray.size*x.toNat<=256:=by simpa using u
 refine wpAny_binaryOp_repeat_ref (by decide) ⟨_,f,rfl⟩ (λJ=>typeIs_int J x t) noFill_list_mul PySem.F.fills_int_mul PySem.F.slot_int_rmul repeat_list PySem.F.slot_int_index.lookup
  (mK PySem.F.slot_int_rmul (typeIs_int s x t) PySem.F.entry_int_rmul (PySem.F.args_int_rmul_2 _ _) (lm_int_rmul_list_any x t a D.toArray n none #[])
   ⟨f,rfl,⟨_,f,rfl⟩,mK PySem.F.slot_list_mul ⟨_,f,rfl⟩ PySem.F.entry_list_mul (PySem.F.args_list_mul_2 _ _)
    (lm_list_mul_any a D.toArray n none #[] x t (LX k j) (ol.mpr<|av y<|by decide)<|by simp[Builtin.List.listTooLong,sizeLine];exact av ‹_›<|by decide)
    ⟨f,?_⟩⟩)
 exact Y (listMul_foldl_if ..) h
def Rq(k:s.heap.get? a=some (iq D))(u:s.heap.get? b=some (iq f))(hl:D.length+f.length<=lim)(x:D=[]->Q (.ref b) s)(h:f=[]->Q (.ref a) s)(j:Q (.ref s.heap.objs.size) {s with heap:=s.heap.push<|iq<|D++f}):wpAny (model I K.w) A (binaryOp .Add (.ref a)<|.ref b) Q U s:=by
 have y:Q (.ref s.heap.objs.size) {s with heap:=s.heap.push {cls:=Value.type "tuple",data:=Data.seq<|D.toArray++f.toArray}}:=by refine Y (List.append_toArray ..) ?_;exact j
 rcases D with _|⟨v,D⟩;exact concat_meets ⟨_,k,rfl⟩ ⟨_,u,rfl⟩ noFill_tuple_add seq_tuple_add PySem.F.slot_tuple_add PySem.F.entry_tuple_add (PySem.F.args_tuple_add_2 _ _) (tuple_addW0 a b [].toArray f.toArray 0 0 none none #[] #[] rfl) ⟨k,u,x rfl⟩;rcases f with _|⟨w,f⟩;exact concat_meets ⟨_,k,rfl⟩ ⟨_,u,rfl⟩ noFill_tuple_add seq_tuple_add PySem.F.slot_tuple_add PySem.F.entry_tuple_add (PySem.F.args_tuple_add_2 _ _) (tuple_addW1 a b (v::D).toArray [].toArray 0 0 none none #[] #[] ka rfl) ⟨k,u,h rfl⟩;exact concat_meets ⟨_,k,rfl⟩ ⟨_,u,rfl⟩ noFill_tuple_add seq_tuple_add PySem.F.slot_tuple_add PySem.F.entry_tuple_add (PySem.F.args_tuple_add_2 _ _) (tuple_addW2 a b (v::D).toArray (w::f).toArray 0 0 none none #[] #[] ka ka<|av hl fH) ⟨k,u,y⟩
section
variable{a b:V}{u J:Value}{r:R V}
inductive RA(a b:V)(c:Int->Int->Bool)(z:Int->Int->Int)(H:aq)(r:R V)(u J:Value):Prop|mk (x y:Int) (t t':Tok) (hu:u=.int x t) (hu':J=.int y t') (k:c x y=true) (e:rt (.int (z x y)) H=some r)
def tR(j:RV f h a u)(C:RV f h b J)(e:pK a b c z H=some r):RA a b c z H r u J:=by refine aK e λx D e=>aK e λy E e=>cH e λk e=>?_;rw[fp D]at j;rw[fp E]at C;obtain⟨t,I⟩:=j.cG;obtain⟨O,N⟩:=C.cG;exact⟨x,y,t,O,I,N,k,e⟩
def Jy(R:aV K F loc f H s)(k:RV f s.heap (.int x) u)(h:RV f s.heap b J)(e:nj (.int x) b H=some r):aO I K F loc (binaryOp .Add u J) (aM aN r) (a8 r) f H s:=by refine aK e λy j e=>?_;rw[fp j]at h;obtain⟨t,rfl⟩:=k.cG;obtain⟨z,rfl⟩:=h.cG;exact AutoIntOps.add_0<|bj (R.toks _) (.refl ..) .int e
def GS(R:aV K F loc f H s)(C:RV f s.heap (.str x) u)(h:RV f s.heap b J)(e:nj (.str x) b H=some r):aO I K F loc (binaryOp .Add u J) (aM aN r) (a8 r) f H s:=by refine aK e λy j e=>?_;rw[jQ j]at h;refine cH e λz e=>?_;obtain⟨t,aE,rfl⟩:=C.dU;obtain⟨E,D,rfl⟩:=h.dU;have hl:=hP z;refine SB.add (λN k=>bj (R.toks _) (.refl ..) ?_ e)<|av (show x.toArray.size+y.toArray.size<=lim from hl) fH;exact Y (show(⟨x.toArray⟩++⟨y.toArray⟩:Str)=⟨(x++y).toArray⟩ from az Str.mk<|List.append_toArray ..)<|.str<|by refine Y a0 ?_;exact hl
def F0(R:aV K F loc f H s)(W:RV f s.heap (.tup x) u)(T:RV f s.heap b J)(e:nj (.tup x) b H=some r):aO I K F loc (binaryOp .Add u J) (aM aN r) (a8 r) f H s:=by refine aK e λy U e=>?_;rw[qL U]at T;refine cH e λz e=>?_;obtain⟨a,D,rfl,j,O,N⟩:=W.oc;obtain⟨b,ws,rfl,k,E,h⟩:=T.oc;have hl:=hP z;rw[<-N.length,<-h.length]at hl;refine Rq j k hl (λC=>bj R (.refl ..) ?_ e) (λC=>bj R (.refl ..) ?_ e)<|wJ R e λfx=>?_;clear e j O hl;subst C;exact Y ((aT.nil_of N))<|.tup k E h;clear e k E hl;subst C;exact Y ((aT.nil_of h))<|Y (be ..)<|.tup j O N;exact .tup (dS _ rfl) (by refine Y a0 ?_;exact hl)<|(N.fx fx).append<|h.fx fx
def Qd(R:aV K F loc f H s)(qa:RV f s.heap (.ref i) u)(y:RV f s.heap b J)(e:nj (.ref i) b H=some r):aO I K F loc (binaryOp .Add u J) (aM aN r) (a8 r) f H s:=by
 refine aK e λj U e=>?_;rw[iD U]at y;refine aK e λl x e=>aK e λm W e=>cH e λz e=>?_;obtain⟨a,d,rfl,O⟩:=qa.ex;obtain⟨b,d',rfl,T⟩:=y.ex;have hl:=hP z;obtain⟨D,n,h,la,N⟩:=R.isList (j' x) O;obtain⟨ws,n',k,E,C⟩:=R.isList (j' W) T;refine concat_meets ⟨_,h,rfl⟩ ⟨_,k,rfl⟩ noFill_list_add seq_list_add PySem.F.slot_list_add PySem.F.entry_list_add (PySem.F.args_list_add_2 _ _)
  (list_addW a b D.toArray ws.toArray n n' none none #[] #[]<|by refine Y di<|Y di<|Y N.length<|Y C.length ?_;exact av hl fH) ⟨h,k,?_⟩
 exact Y (List.append_toArray ..)<|wn R (by refine Y a0 ?_;exact hl) (N.append C) e
def Sw(R:aV K F loc f H s)(h:RV f s.heap a u)(j:RV f s.heap b J)(e:nj a b H=some r):aO I K F loc (binaryOp .Add u J) (aM aN r) (a8 r) f H s:=by
 induction a using V.casesOn with
 |int=>exact Jy R h j e|str=>exact GS R h j e|tup=>exact F0 R h j e|ref=>exact Qd R h j e|_=>exact aW e
def RT{l:List V}(h:k<=16)(j:l.length<=16):(List.replicate k l).flatten.length<=lim:=by exact Y List.length_flatten<|Y List.map_replicate<|Y List.sum_replicate_nat<|av (Nat.mul_le_mul h j)<|by decide
def OP(R:aV K F loc f H s)(T:RV f s.heap (.ref i) u)(y:RV f s.heap b J)(e:tQ (.ref i) b H=some r):aO I K F loc (binaryOp .Mult u J) (aM aN r) (a8 r) f H s:=by
 refine aK e λk O e=>?_;rw[E3 O]at y;refine aK e λl x e=>cH e λz e=>?_;obtain⟨a,d,rfl,E⟩:=T.ex;obtain⟨t,rfl⟩:=y.cG;have h:=bG (cY.mp z).1;have j:=bG (cY.mp z).2;obtain⟨D,n,C,U,N⟩:=R.isList (j' x) E;exact Ig C (gt k) (hQ.mpr<|e9 h<|by decide) (by refine Y N.length ?_;exact av (Nat.mul_le_mul j h)<|by decide)
  (wn R (RT h j) (Qk N k) e)
def KR(R:aV K F loc f H s)(C:RV f s.heap (.int x) u)(j:RV f s.heap b J)(e:tQ (.int x) b H=some r):aO I K F loc (binaryOp .Mult u J) (aM aN r) (a8 r) f H s:=by refine aK e λy k e=>?_;rw[fp k]at j;obtain⟨t,rfl⟩:=C.cG;obtain⟨D,rfl⟩:=j.cG;exact cH e λz e=>AutoIntOps.mul_0 (bj (R.toks _) (.refl ..) .int e)<|(pw.mp z).elim (λh=>.of_left<|yD h) λh=>.of_right<|yD h
def HA(R:aV K F loc f H s)(h:RV f s.heap a u)(j:RV f s.heap b J)(e:tQ a b H=some r):aO I K F loc (binaryOp .Mult u J) (aM aN r) (a8 r) f H s:=by
 induction a using V.casesOn with
 |int=>exact KR R h j e|ref=>exact OP R h j e|_=>exact aW e
def zW(h:du 0 y=true):0<y:=by rwa [ib,gE]at h
def Mx(R:aV K F loc f H s)(h:RV f s.heap a u)(j:RV f s.heap b J)(e:bin .Sub a b H=some r):aO I K F loc (binaryOp .Sub u J) (aM aN r) (a8 r) f H s:=by obtain⟨x,y,t,k,rfl,rfl,_,e⟩:=tR h j e;exact AutoIntOps.sub_0<|bj (R.toks _) (.refl ..) .int e
def Jx(R:aV K F loc f H s)(z:RV f s.heap a u)(D:RV f s.heap b J)(e:bin .FloorDiv a b H=some r):aO I K F loc (binaryOp .FloorDiv u J) (aM aN r) (a8 r) f H s:=by obtain⟨x,y,t,E,rfl,rfl,k,e⟩:=tR z D e;obtain⟨h,j⟩:=cY.mp k;exact AutoIntOps.floordiv_1 (λC=>Int.ne_of_gt (zW h)<|kx C) (Rc j)<|bj (R.toks _) (.refl ..) .int e
def OY(R:aV K F loc f H s)(h:RV f s.heap a u)(j:RV f s.heap b J)(e:bin .Mod a b H=some r):aO I K F loc (binaryOp .Mod u J) (aM aN r) (a8 r) f H s:=by obtain⟨x,y,t,z,rfl,rfl,k,e⟩:=tR h j e;exact AutoIntOps.mod_1 (λC=>Int.ne_of_gt (zW k)<|kx C)<|bj (R.toks _) (.refl ..) .int e
def Ox(R:aV K F loc f H s)(z:RV f s.heap a u)(C:RV f s.heap b J)(e:bin .Pow a b H=some r):aO I K F loc (binaryOp .Pow u J) (aM aN r) (a8 r) f H s:=by obtain⟨x,y,t,D,rfl,rfl,k,e⟩:=tR z C e;obtain⟨h,j⟩:=cY.mp k;rw[nl,gE]at h j;exact Y h<|Y j<|AutoIntOps.pow_4 (by decide) (by decide) (by decide) (by decide) (by decide)<|bj (R.toks _) (.refl ..) .int e
def Nr(R:aV K F loc f H s)(h:RV f s.heap a u)(j:RV f s.heap b J)(e:bin op a b H=some r):aO I K F loc (binaryOp op u J) (aM aN r) (a8 r) f H s:=by
 induction op with
 |Add=>exact Sw R h j e|Sub=>exact Mx R h j e|Mult=>exact HA R h j e|FloorDiv=>exact Jx R h j e|Mod=>exact OY R h j e|Pow=>exact Ox R h j e|_=>exact aW e
end
end
section
open SeqAt
noncomputable def ov(z:V->V->Option Bool)(l m:List V)(j:Nat):Bool:=match l[j]?,m[j]? with|some x,some y=>z x y==some true|_,_=>false
def A8(e:all2 z (a::l) (b::m)=some r):∃x y,z a b=some x/\all2 z l m=some y/\r=(x&&y):=by refine aK e λx aE e=>aK e λy f e=>pQ x y aE f ?_;cases x<;>exact(aQ e).symm
def vN{f:Type}{p:Prop}{j:Nat}{x:f}(e:([]:List f)[j]? =some x):p:=by rw[List.getElem?_nil]at e;exact aW e
def xi:∀{l m r},all2 z l m=some r->(∀(j:Nat) x y,l[j]? =some x->m[j]? =some y->∃q,z x y=some q)/\ r=((List.range<|min l.length m.length).all (ov z l m)&&l.length==m.length):=by
 intro l;induction l with
 |nil=>intro m r e;rcases m;obtain rfl:=aQ e;exact⟨λj x y e=>vN e,rfl⟩;obtain rfl:=aQ e;exact⟨λj x y e=>vN e,by exact Y jl<|Y (Nat.zero_min ..) rfl⟩
 |cons a l E=>
  intro m r e;rcases m with _|⟨b,m⟩;obtain rfl:=aQ e;exact⟨λj x y _ e=>vN e,by exact Y jl<|Y (Nat.min_zero ..) rfl⟩
  .refine fi (A8 e) λx y aE D N=>?_;clear e;subst N;refine aS (E D) λh k=>⟨λj u v e1 C=>?_,?_⟩;rcases j with _|j;obtain rfl:=aQ e1;obtain rfl:=aQ C;exact⟨x,aE⟩;exact h j u v e1 C
   .have f:ov z (a::l) (b::m) 0=x:=by show(z a b==some true)=x;refine Y aE ?_;cases x<;>rfl
    have I:ov z (a::l) (b::m)∘Nat.succ=ov z l m:=rfl;have J:(l.length+1==m.length+1)=(l.length==m.length):=by rw[gM,ct,ct,Nat.add_right_cancel_iff]
    exact Y k<|Y cB<|Y cB<|Y (Nat.succ_min_succ ..)<|Y List.range_succ_eq_map<|Y List.all_cons<|Y List.all_map<|Y f<|Y I<|Y J<|Y (Bool.and_assoc ..) rfl
inductive hV(n:Nat)(H:aq):V->V->Bool->Prop|nn:hV n H .none .none true|qB {i:Int}:hV n H .none (.int i) false|ns {x:List Nat}:hV n H .none (.str x) false|vs {x y:Bool}:hV n H (.bool x) (.bool y) (x==y)|ii {x y:Int}:hV n H (.int x) (.int y) (jW x y)|jn {i:Int}:hV n H (.int i) .none false|ss {x y:List Nat}:hV n H (.str x) (.str y) (ar x y)|sn {x:List Nat}:hV n H (.str x) .none false|tt {l m:List V} {r:Bool}:all2 (same n H) l m=some r->hV n H (.tup l) (.tup m) r|Y {i j:Nat} {l m:List V} {r:Bool}:H[i]? =some (.list l)->H[j]? =some (.list m)->Nat.beq l.length m.length=true->all2 (same n H) l m=some r->hV n H (.ref i) (.ref j) r|rf {i j:Nat} {l m:List V}:H[i]? =some (.list l)->H[j]? =some (.list m)->Nat.beq l.length m.length=false->hV n H (.ref i) (.ref j) false
def zv(e:same (n+1) H a b=some r):hV n H a b r:=by
 induction a using V.casesOn with
 |none=>
  induction b using V.casesOn with
  |none=>obtain rfl:=aQ e;exact .nn
  |int=>obtain rfl:=aQ e;exact .qB
  |str=>obtain rfl:=aQ e;exact .ns
  |_=>exact aW e
 |bool=>
  induction b using V.casesOn with
  |bool=>obtain rfl:=aQ e;exact .vs
  |_=>exact aW e
 |int=>
  induction b using V.casesOn with
  |int=>obtain rfl:=aQ e;exact .ii
  |none=>obtain rfl:=aQ e;exact .jn
  |_=>exact aW e
 |str=>
  induction b using V.casesOn with
  |str=>obtain rfl:=aQ e;exact .ss
  |none=>obtain rfl:=aQ e;exact .sn
  |_=>exact aW e
 |tup l=>exact aK e λm hm e=>Y (qL hm)<|.tt e
 |ref i=>refine aK e λj h e=>Y (iD h)<|aK e λl hl e=>aK e λm hm e=>?_;revert e;rcases f:Nat.beq l.length m.length;intro e;obtain rfl:=aQ e;exact .rf (j' hl) (j' hm) f;intro e;exact .Y (j' hl) (j' hm) f e
 |_=>exact aW e
section
variable{K:al}{loc:Loc}
def aV.inj(R:aV K F loc f H s){j:Nat}(e1:f[i]? =some (a,d))(x:f[j]? =some (a,u))(h:H[i]? =some o)(k:H[j]? =some o'):i=j:=by
 refine Classical.byContradiction λne=>?_;have aw:a∈foot o (a,d):=by cases o<;>exact .head _
 have aG:a∈foot o' (a,u):=by cases o'<;>exact .head _
 exact jR R.rep.nd ne h e1 k x a aw aG
def CZ(C:∀{a b:V}{u:Value}{r:Bool},RV f h a u->RV f h b u->same n H a b=some r->r=true):∀{l m D r},aT f h l D->aT f h m D->all2 (same n H) l m=some r->r=true:=by
 intro l;induction l with
 |nil=>intro m D r q j e;obtain rfl:=q.i0;cases j;obtain rfl:=aQ e;rfl
 |cons x l E=>
  intro m D r q j e;obtain⟨u,us,rfl,I,z⟩:=q.eO;cases j with|cons J N=>
  refine fi (A8 e) λx y aE k O=>?_;clear e;subst O;exact Y (C I J aE)<|Y (E z N k) rfl
def OJ(R:aV K F loc f H s)(n):∀{a b u r},RV f s.heap a u->RV f s.heap b u->same n H a b=some r->r=true:=by
 induction n with
 |zero=>exact λ_ _ e=>aW e
 |succ n O=>
  intro a b u r T U e;have y:=T.inv;have x:=U.inv;have e:=zv e;clear T U;cases e with
  |nn=>rfl|qB=>obtain⟨_,h⟩:=x;rw[show u=.none from y]at h;exact(by cases h)
  |ns=>obtain⟨_,_,h⟩:=x;rw[show u=.none from y]at h;exact(by cases h)
  |vs=>have h:=Eq.trans (Eq.symm y) x;clear x e;obtain rfl:=PySem.Value.bool.inj h;exact tz _
  |ii=>obtain⟨_,h⟩:=y;obtain⟨_,h'⟩:=x;rw[h]at h';clear e;refine aS (PySem.Value.int.inj h') λab ae=>?_;subst ab ae;exact Y nl<|h4 rfl
  |jn=>obtain⟨_,h⟩:=y;rw[show u=.none from x]at h;exact(by cases h)
  |ss=>obtain⟨_,_,h⟩:=y;obtain⟨_,_,h'⟩:=x;rw[h]at h';cases h';exact j1.mpr rfl
  |sn=>obtain⟨_,_,h⟩:=y;rw[show u=.none from x]at h;exact(by cases h)
  |tt e=>obtain⟨a,D,rfl,ea,_,z⟩:=y;obtain⟨b,ws,h,J,_,aa⟩:=x;obtain rfl:=PySem.Value.ref.inj h;rw[ea]at J;cases J;exact CZ O z aa e
  |Y j C _ e=>obtain⟨a,d,rfl,E⟩:=y;obtain⟨b,W,h,I⟩:=x;obtain rfl:=PySem.Value.ref.inj h;obtain rfl:=R.inj E I j C;rw[j]at C;obtain rfl:=au.list.inj<|aQ C;obtain⟨D,k,_,_,z⟩:=R.isList j E;exact CZ O z z e
  |rf j C N=>obtain⟨a,d,rfl,E⟩:=y;obtain⟨b,W,h,I⟩:=x;obtain rfl:=PySem.Value.ref.inj h;clear e;obtain rfl:=R.inj E I j C;rw[j]at C;obtain rfl:=au.list.inj<|aQ C;rw[em]at N;exact absurd N.symm<|by decide
end
section
variable{K:al}
def Al(N:∀{a b:V}{u x:Value}{r:Bool},RV f s.heap a u->RV f s.heap b x->same n H a b=some r->EqAt A s u x r)(q:aT f s.heap l D)(J:aT f s.heap m z)(e:all2 (same n H) l m=some r):∀j h(y:j<z.toArray.size),EqAt A s D.toArray[j] z.toArray[j] (ov (same n H) l m j):=λj h y=>by
 simp only[di]at h y;have C:j<l.length:=by refine Y q.length.symm ?_;exact h
 have E:j<m.length:=by refine Y J.length.symm ?_;exact y
 refine aZ (q.get<|dx C) λu e1 O=>?_;refine aZ (J.get<|dx E) λx I T=>?_;rw[dx h]at e1;rw[dx y]at I;refine aU ((xi e).1 j _ _ (dx C)<|dx E) λk aP=>?_;have:=N O T aP;unfold ov;simp only[dx C,dx E,aP,List.getElem_toArray];refine Y (aQ e1)<|Y (aQ I) ?_;cases k<;>exact this
def DY:((⟨x.toArray⟩:Str)==⟨y.toArray⟩)=ar x y:=by rw[gM,j1,ct];constructor;intro h;simpa using h;intro h;exact Y h rfl
def uD(self:Value.ref a=.ref b->r=true)(h:RcAt A s (.ref a) (.ref b) r):EqAt A s (.ref a) (.ref b) r:=by by_cases f:a=b;clear h;subst f;exact Y (self rfl)<|.same _;exact .of_refs f h
set_option tactic.hygienic true in
def C8(R:aV K F loc f H s)(n):∀{a b u x r A},A.units+n<cLine->RV f s.heap a u->RV f s.heap b x->same n H a b=some r->RcAt A s u x r/\EqAt A s u x r/\RcNeAt A s u x (!r):=by
 induction n with
 |zero=>exact λ_ _ _ e=>aW e
 |succ n ab=>
  intro a b u x r A hu qa qb e;have ih:∀{a b:V}{u x:Value}{r:Bool},RV f s.heap a u->RV f s.heap b x->same n H a b=some r->EqAt A.in1 s u x r:=λqa qb e=>(ab (by refine Y (Around.in1_units ..) ?_;exact aR hu<|by simp+arith) qa qb e).2.1;have U:A.units<cLine:=aR hu<|by simp+arith
  have self:u=x->r=true:=λh=>by subst h;exact OJ R (n+1) qa qb e
  clear hu ab;have C:=qa.inv;have I:=qb.inv;have e:=zv e;clear qa qb;cases e with
  |nn=>exact Y (show u=.none from C)<|Y (show x=.none from I)<|e6 .none_none (.same _) .none_none
  |qB=>obtain⟨_,rfl⟩:=I;exact Y (show u=.none from C)<|e6 (.none_int _ _) (.none_int _ _)<|.none_int _ _
  |ns=>obtain⟨_,_,rfl⟩:=I;exact Y (show u=.none from C)<|e6 (.none_str _ _) (.none_str _ _)<|.none_str _ _
  |vs=>exact Y (show u=.bool _ from C)<|Y (show x=.bool _ from I)<|e6 (.bool_bool _ _) (.bool_bool _ _)<|.bool_bool _ _
  |ii=>
   rename_i i j;obtain⟨_,rfl⟩:=C;obtain⟨_,rfl⟩:=I;have:jW i j=(i==j):=by exact Y nl rfl
   exact Y this<|e6 (.int_int _ _ _ _) (.int_int _ _ _ _)<|.int_int _ _ _ _
  |jn=>obtain⟨_,rfl⟩:=C;exact Y (show x=.none from I)<|e6 (.int_none _ _) (.int_none _ _)<|.int_none _ _
  |ss=>obtain⟨_,_,rfl⟩:=C;obtain⟨_,_,rfl⟩:=I;exact Y DY.symm<|e6 (.str_str _ _ _ _) (.str_str _ _ _ _)<|.str_str _ _ _ _
  |sn=>obtain⟨_,_,rfl⟩:=C;exact Y (show x=.none from I)<|e6 (.str_none _ _) (.str_none _ _)<|.str_none _ _
  |tt e=>obtain⟨a,D,rfl,N,la,y⟩:=C;obtain⟨b,ws,rfl,O,E,T⟩:=I;have ta:s.heap.IsTuple a D.toArray:=⟨_,N,rfl,_,rfl⟩;have tb:s.heap.IsTuple b ws.toArray:=⟨_,O,rfl,_,rfl⟩;have es:=(xi e).2;have pa:=Al ih y T e;have J:=RcAt.tuples ta tb U pa;have rn:=RcNeAt.tuples ta tb U pa;rw[di,di,y.length,T.length,<-es]at J rn;exact e6 J (uD self J) rn
  |Y z hj hb e=>obtain⟨a,d,rfl,ei⟩:=C;obtain⟨b,d',rfl,ej⟩:=I;obtain⟨D,k,N,_,y⟩:=R.isList z ei;obtain⟨ws,k',O,_,T⟩:=R.isList hj ej;have aa:=cd hb;have es:=(xi e).2;have pa:=Al ih y T e;have W:D.toArray.size=ws.toArray.size:=Y di<|Y di<|Y y.length<|Y T.length<|Y aa rfl;have J:=RcAt.lists ⟨_,N,rfl,_,rfl⟩ ⟨_,O,rfl,_,rfl⟩ W U pa;have rn:=RcNeAt.lists ⟨_,N,rfl,_,rfl⟩ ⟨_,O,rfl,_,rfl⟩ W U pa;rw[<-aa,Nat.min_self,tz,Bool.and_true]at es;rw[di,y.length,<-es]at J rn;exact e6 J (uD self J) rn
  |rf z hj hb=>
   obtain⟨a,d,rfl,ei⟩:=C;obtain⟨b,d',rfl,ej⟩:=I;obtain⟨D,k,N,_,y⟩:=R.isList z ei;obtain⟨ws,k',O,_,T⟩:=R.isList hj ej;have W:(D.toArray.size !=ws.toArray.size)=true:=by exact Y di<|Y di<|Y y.length<|Y T.length<|bne_iff_ne.mpr<|qt hb
   have J:=RcAt.lists_lengths ⟨_,N,rfl,_,rfl⟩ ⟨_,O,rfl,_,rfl⟩ W U;exact e6 J (uD self J)<|RcNeAt.lists_lengths ⟨_,N,rfl,_,rfl⟩ ⟨_,O,rfl,_,rfl⟩ W U
end
end
section
open Builtin Builtin.Str StrLaws
theorem iM:∀{y x},pre y x=true↔x.take y.length=y
 |[],x=>by simp[pre]
 |_::_,[]=>by simp[pre]
 |a::y,b::x=>by simp only[pre];rcases h:Nat.beq a b;have:=qt h;simp[gg this];refine Y (cd h) ?_;simp[iM]
def kf(h:pre y x=true):y.length<=x.length:=by have:=az List.length<|iM.mp h;rw[lK]at this;exact av (a4 this.symm)<|Nat.min_le_right ..
noncomputable abbrev tx(x:List Nat):Str:=⟨x.toArray⟩
def cK(x):(tx x).length=x.length:=by show x.toArray.size=_;simp
def od(k:i<=x.length):At (tx x) (tx y) x.length i↔pre y (x.drop i)=true:=by unfold At;rw[subAt_eq,cK,iM];constructor;rintro⟨_,h⟩;simpa using h;intro h;refine⟨?_,by simpa using h⟩;have:=az List.length h;rw[lK,b9]at this;exact Nat.add_le_of_le_sub' k<|av (a4 this.symm)<|Nat.min_le_right _ _
def qz:∀{x},bq y x=none->∀i,i<=x.length->pre y (x.drop i)=false:=by
 intro x;induction x with
 |nil=>
  intro h i k;have:i=0:=by simpa using k
  clear k;subst this;unfold bq at h;rcases y;exact aW<|h.symm;rfl
 |cons a r f=>
  intro h i k;unfold bq at h;revert h;rcases q:pre y (a::r);intro h;rcases i with _|i;exact q;exact f (by simpa using h) i<|by simpa using k
  intro h;exact aW<|h.symm
def jZ:∀{x j},bq y x=some j->j<=x.length/\pre y (x.drop j)=true/\∀k,k<j->pre y (x.drop k)=false:=by
 intro x;induction x with
 |nil=>intro j h;unfold bq at h;rcases y;obtain rfl:=aQ h;exact e6 (ba _) rfl nofun;exact aW h
 |cons a r C=>intro j h;unfold bq at h;revert h;rcases q:pre y (a::r);intro h;refine aZ (lz.mp h) λk aP D=>?_;clear h;subst D;refine cZ (C aP) λu f z=>e6 (by simpa using u) f λm hm=>?_;rcases m with _|m;exact q;exact z m<|eZ ‹_›;intro h;obtain rfl:=aQ h;exact e6 (by simp) q nofun
def q9(x y)(lo C)(hl:1<=C)(O:lo<=x.length\/1<=y.length):(bq y (x.drop lo)=none/\occurrences (tx x) (tx y) lo x.length C=[])\/∃j r,bq y (x.drop lo)=some j/\occurrences (tx x) (tx y) lo x.length C=(j+lo)::r:=by
 have I:=occ_head_from (tx x) (tx y) lo C hl;rw[cK]at I;rcases I with⟨u,f⟩|⟨i,r,u,f,z,N⟩
 .refine .inl ⟨?_,u⟩;rcases q:bq y (x.drop lo)with _|j;rfl
  .refine cZ (jZ q) λE D _=>?_;rw[eY]at D;rw[b9]at E;have:lo+j<=x.length:=by
    have:=kf D;rw[b9]at this;rcases O with h|h;exact a7 E (a4<|bx h)<|by simp+arith
    exact fl<|Nat.lt_of_sub_pos<|av h this
   exact absurd ((od this).mpr D)<|f _<|bE ..
 .have k:i<=x.length:=by have:=z.1;rw[cK]at this;exact aR this (by simp+arith)
  have g:=(od k).mp z;rcases q:bq y (x.drop lo)with _|j;have:=qz q (i-lo) (by refine Y b9 ?_;exact cS k (cn x.length lo) (a4<|bx<|show lo<=i from aR f<|by simp+arith)<|by simp+arith);rw[eY,show lo+(i-lo)=i by exact cf (aR (a4<|bx<|show lo<=i from aR f<|by simp+arith)<|by simp+arith)<|aR (cn i lo)<|by simp+arith,g]at this;exact ff<|this.symm
  .refine cZ (jZ q) λE D J=>?_;rw[eY]at D;rw[b9]at E;refine .inr ⟨j,r,rfl,?_⟩;refine Y u ?_;have le:lo+j<=x.length:=a7 E (a4<|bx<|show lo<=x.length from a7 f k<|by simp+arith)<|by simp+arith
   have e:i=lo+j:=by rcases Nat.lt_trichotomy i (lo+j)with h|h|h;have:=J (i-lo) (a7 h (a4<|bx<|show lo<=i from aR f<|by simp+arith)<|by simp+arith);rw[eY,show lo+(i-lo)=i by exact cf (aR (a4<|bx<|show lo<=i from aR f<|by simp+arith)<|by simp+arith)<|aR (cn i lo)<|by simp+arith,g]at this;exact ff<|this.symm;exact h;exact absurd ((od le).mpr D)<|N _ (bE ..) h
   exact Y e<|Y (cF ..) rfl
def FI(x y):Txt.find (tx x) (tx y)=hj (bq y x):=by have:=q9 x y 0 1 (ba _)<|.inl<|bJ _;unfold Txt.find;refine Y (cK ..) ?_;rcases this with⟨u,f⟩|⟨j,r,u,f⟩;rw[iO]at u;exact Y f<|Y u rfl;rw[iO]at u;exact Y f<|Y u rfl
def UB(x y):Txt.contains (tx x) (tx y)=(bq y x).isSome:=by have:=q9 x y 0 1 (ba _)<|.inl<|bJ _;unfold Txt.contains;refine Y (cK ..) ?_;rcases this with⟨u,f⟩|⟨j,r,u,f⟩;rw[iO]at u;exact Y f<|Y u rfl;rw[iO]at u;exact Y f<|Y u rfl
def wS(n i):fromIndex n (Int.ofNat i)=i:=by unfold fromIndex;refine Y (bO<|hH.mpr<|gt i) ?_;show(max 0 (i:Int)).toNat=i;rfl
def Ub(x y)(i)(h:1<=y.length):Txt.find3 (tx x) (tx y) (Int.ofNat i)=hj ((bq y<|x.drop i).map (·+i)):=by unfold Txt.find3;refine Y (cK ..)<|Y (wS ..) ?_;rcases q9 x y i 1 (ba _) (.inr h)with⟨u,f⟩|⟨j,r,u,f⟩;exact Y f<|Y u rfl;exact Y f<|Y u rfl
def OM(x y):Txt.startswith (tx x) (tx y)=pre y x:=by unfold Txt.startswith;have:=od (x:=x) (y:=y) (i:=0)<|bJ _;unfold At at this;rw[iO]at this;rw[gM,fW,gE];exact Y (cK x) this
def Qz(x y)(i):Txt.startswith3 (tx x) (tx y) (Int.ofNat i)=(Nat.ble i x.length&&pre y (x.drop i)):=by unfold Txt.startswith3;rw[cK x,wS,gM,fW,fW,gE,Nat.ble_eq];by_cases k:i<=x.length;have:=od (y:=y) k;unfold At at this;rw[this];simp[k];constructor;rintro⟨h,_⟩;exact absurd (av (bE ..) h) k;rintro⟨h,_⟩;exact absurd h k
def AY(x y):Txt.endswith (tx x) (tx y)=b2 x y:=by unfold Txt.endswith b2;rw[cK,cK,gM,fW,gE,iM,subAt_eq];simp only[fS,cK,ct];refine Y List.take_reverse ?_;constructor;rintro⟨u,f⟩;rw[List.reverse_inj];rw[n7<|by refine Y b9 ?_;exact a4<|Nat.sub_sub_self<|av (a4 (eW _).symm) u]at f;exact f;intro h;rw[List.reverse_inj]at h;have hl:=az List.length h;rw[b9]at hl;refine⟨by exact a7 (a4 hl.symm) (gq x.length<|x.length-y.length) (by simp+arith),?_⟩;exact Y (n7<|by rw[b9];exact aR (a4 hl)<|by simp+arith)<|Y h rfl
end
section
variable{P:Params}{f:a6}{h:Heap}
def bM.find{j:List (Str×V)}{es:List DictEntry}(q:bM P f h j es)(x:Str):match aC x j with|some a=>∃v,(es.find? λe=>Value.isStrOf x e.key).map (·.val)=some v/\RV f h a v|none=>(es.find? λe=>Value.isStrOf x e.key).map (·.val)=none:=by
 induction q with
 |nil=>rfl
 |@cons y t a v l es r rs k=>
  unfold aC;have aP:Value.isStrOf x (.str y t)=sq y x:=by refine Y (isStr_of ..).symm ?_;show(y==x)=sq y x;rw[gM,ct,dr]
  rcases e:sq y x;simp only[List.find?_cons,aP,e];exact k;simp only[List.find?_cons,aP,e];exact⟨v,rfl,r⟩
def bM.keys(q:bM P f h j es):KeysLit P es:=by
 induction q with
 |nil=>trivial|cons r rs k=>exact⟨⟨_,_,rfl,rfl⟩,k⟩
theorem bM.length(q:bM P f h j es):es.length=j.length:=by
 induction q with
 |nil=>rfl|cons r rs k=>exact Y cB<|Y cB<|Y k rfl
noncomputable def nk(x:Str):List (Str×V)->Option Nat|[]=>none|(k,_)::r=>match sq k x with|true=>some 0|false=>(nk x r).map (·+1)
def bM.findIdx(q:bM P f h j es)(x):es.findIdx? (λe=>e.key.isStr x)=nk x j:=by
 induction q with
 |nil=>rfl
 |@cons y t a v l es r rs k=>
  have aP:(Value.str y t).isStr x=sq y x:=by show(y==x)=sq y x;rw[gM,ct,dr]
  refine Y List.findIdx?_cons ?_;unfold nk;simp only[aP];rcases e:sq y x;simp only[kV,jd,k];rfl
theorem bM.put(q:bM P f h j es){x:Str}{t:Tok}{a:V}{v:Value}(r:RV f h a v):bM P f h (put x a j) (match nk x j with|some i=>es.modify i λe=>{e with val:=v}|none=>es++[⟨PyData.keyHash P x,.str x t,v⟩]):=by
 induction q with
 |nil=>exact .cons r .nil|@cons y C b u l es z rs k=>unfold nk Mine.Internal.put;rcases e:sq y x;simp only;revert k;rcases q:nk x l with _|i;intro k;exact .cons z k;intro k;simp only[Option.map_some,List.modify_succ_cons];exact .cons z k;simp only[List.modify_zero_cons];exact .cons r rs
end
noncomputable def fg(es:List DictEntry)(x:Str)(k:Int)(t:Tok)(v:Value):List DictEntry:=match es.findIdx? (λe=>e.key.isStr x)with|some i=>es.modify i λe=>{e with val:=v}|none=>es++[⟨k,.str x t,v⟩]
theorem bM.fg(q:bM P f h j es)(r:RV f h a v):bM P f h (Mine.Internal.put x a j) (Mine.Internal.fg es x (PyData.keyHash P x) t v):=by unfold Mine.Internal.fg;exact Y (q.findIdx ..)<|q.put r
set_option tactic.hygienic true in
def P7(hd:o.data=.dict es.toArray n)(x)(k)(t)(v):∃h,Obj.putName x k (.str x t) v o={o with data:=.dict (fg es x k t v).toArray h}:=by obtain⟨c,d,j,u⟩:=o;dsimp only at hd;subst hd;refine Y Obj.putName_eq ?_;unfold Obj.putNameByArray fg;dsimp only;refine Y (uB ..) ?_;split;rename_i i f;exact Y f ⟨n,by simp⟩;rename_i f;exact Y f ⟨n+1,by simp⟩
def rJ(f:s.heap.get? a=some o)(hd:o.data=.dict es.toArray n)(aP:∀e∈es,∃y t,e.key=.str y t)(h:∀h' k,h'.get? a=some {o with data:=.dict (fg es x (PyData.keyHash w.params x) s.toks v).toArray k}->Heap.SameBut a s.heap h'->Q () {s with heap:=h',toks:=s.toks+1}):wpAny (model I w) A (nsSet a x v) Q U s:=by
 unfold nsSet;refine aX<|aX<|wpAny_askSetting<|aL<|aX<|wpAny_mkText<|aX<|wpAny_loadPart f<|Y hd ?_;dsimp only;have u:es.toArray.any (·.refKey)=false:=by rw[Array.any_eq_false'];intro e he;refine hv (aP e<|by simpa using he) λy t q=>?_;simp[DictEntry.refKey,q]
 refine Y aRefKeyMayBeTheName_eq ?_;simp only[aRefKeyMayBeTheNameByArray,u,r9,kV,jd];refine wpAny_updatePart f<|aU (P7 hd x (PyData.keyHash w.params x) s.toks v) λk e=>h _ k ?_<|j5 ..;have j:(Obj.putName x (PyData.keyHash w.params x) (.str x s.toks) v o).isFreed=false:=by exact Y e rfl
 have:=jc (Obj.putName x (PyData.keyHash w.params x) (.str x s.toks) v) f j;rw[e]at this;exact this
structure eQ(K:al)(T:cx):Prop where
 g:∃mg mb,K.h₀.Ns mainGlobals mg/\K.h₀.Ns builtinsNs mb/\(∀x a,aC x T.G=some a->∃v,mg x=some v/\∀f,RV f K.h₀ a v)/\
  (∀x b,aC x T.G=none->aC x T.B=some b->mg x=none/\mb x=some b.val)
def Ex:("__debug__":Str)=jv:=by decide+kernel
def RE:("__classdict__":Str)=Bk:=by decide+kernel
def r1{f:Type}{m:Option f}{r:f}(e:aB b none m=some r):b=false/\m=some r:=by rcases b;exact⟨rfl,e⟩;exact aW e
def RV.pR(q:RV f h x v)(k:cw h h'):RV f h' x v:=by have:=q.keep [] k;rwa [be]at this
section
variable{K:al}{T:cx}{c:bh}{loc:Loc}{H:aq}
def aV.BJ(R:aV K F loc f H s)(n:K.h₀.Ns a m):s.heap.Ns a m:=by refine d5 n λo es k e d q=>⟨o,es,k,R.base a o (λC=>?_) e,d,q⟩;refine aU R.tab λN h=>?_;clear n;subst C;rw[h]at e;obtain rfl:=aQ e;cases d
def aV.QM(R:aV K F loc f H s):cw K.h₀ s.heap:=λa o e c=>R.base a o (λC=>by refine aU R.tab λN h=>?_;subst C;rw[h]at e;obtain rfl:=aQ e;rcases c with c|c|c|c|c<;>cases c) e
def kG(x)(env:Env):env.kindOf x=aC x env.scope.names:=DL x _
inductive H9(T:cx)(c:bh)(loc:Loc)(x:Str)(H:aq)(a:V):Prop|loc (aP:aC x c.sc=some .local) (h:aC x loc=some a)|glob (aP:aC x c.sc=some .globalImplicit) (h:we T x (aC x T.G)=some a)|gT (aP:aC x c.sc=some .cell) (h:oJ loc x H=some a)|HG (aP:aC x c.sc=some .free) (h:oJ loc x H=some a)
def Eh(e:lG T c loc x H=some a):sq x jv=false/\H9 T c loc x H a:=by
 refine aS (r1 e) λhd e=>aK e λk aP e=>⟨hd,?_⟩;induction k with
 |«local»=>exact .loc aP e|cell=>exact .gT aP e|free=>exact .HG aP e|globalExplicit=>exact aW e|globalImplicit=>exact .glob aP e
inductive Nd(loc:Loc)(x:Str)(H:aq)(a:V):Prop|mk (i:Nat) (f:(x==("__classdict__":Str))=false) (h:aC x loc=some (.ref i)) (j:H[i]? =some (.cell (some a)))
def wb(h:sq x y=false):(x==y)=false:=sP.mpr<|lA h
def R3(e:uJ o=some a):o=.cell (some a):=by
 induction o with
 |cell v=>exact Y (show v=some a from e) rfl|_=>exact aW e
def Ji(e:oJ loc x H=some a):Nd loc x H a:=by refine aS (r1 e) λhd e=>aK e λb j e=>aK e λi h e=>aK e λo f e=>?_;rw[iD h]at j;rw[R3 e]at f;exact⟨i,by refine Y RE ?_;exact wb hd,j,f⟩
def BZ(R:aV K F loc f H s)(aP:aC x F.env.scope.names=some .cell\/aC x F.env.scope.names=some .free)(e:oJ loc x H=some a)(bp:∀u,RV f s.heap a u->Q u s):wpAny (model I K.w) A (loadName F.env x) Q U s:=by obtain⟨i,z,h,y⟩:=Ji e;obtain⟨N,m,J,C,n,l⟩:=R.loc;refine bV (l.gT x i aP h) λD E e1 k=>?_;obtain⟨u,j,q⟩:=R.rep.obj i _ _ y k;exact aP.elim (λaP=>wpAny_loadName_cell R.kind ((kG x F.env).trans aP) e1 ⟨_,j,rfl⟩<|bp u q) λaP=>wpAny_loadName_free R.kind ((kG x F.env).trans aP) e1 ⟨_,j,rfl⟩ (bp u q) z
def QA(R:aV K F loc f H s)(aP:aC x F.env.scope.names=some .local)(e:aC x loc=some a)(bp:∀u,RV f s.heap a u->Q u s):wpAny (model I K.w) A (loadName F.env x) Q U s:=by obtain⟨k,m,j,h,n,l⟩:=R.loc;exact aZ (l.own x aP a e) λu e1 q=>wpAny_loadName_local R.kind ((kG x F.env).trans aP) (by refine Y R.locals ?_;exact n) e1<|bp u q
def O3(G:eQ K T)(R:aV K F loc f H s)(aP:aC x F.env.scope.names=some .globalImplicit)(e:we T x (aC x T.G)=some a)(bp:∀u,RV f s.heap a u->Q u s):wpAny (model I K.w) A (loadName F.env x) Q U s:=by refine kD G.g λE D z C k j=>Y (loadName_read R.kind<|(kG x F.env).trans aP) ?_;unfold loadGlobal;refine Y R.glob<|Y R.blt<|aX<|wpAny_nsGet (R.BJ z) ?_;revert e;rcases hg:aC x T.G with _|b;intro e;exact aK e λb y e=>aS (j x b hg y) λe1 h=>Y e1<|aX<|wpAny_nsGet (R.BJ C)<|Y h<|aL<|bp _<|aQ e▸.blt rfl;intro e;exact aZ (k x b hg) λu e1 q=>Y e1<|aL<|bp u<|aQ e▸(q f).pR R.QM
def yB(G:eQ K T)(E:CtxOk d c F)(R:aV K F loc f H s)(e:lG T c loc x H=some a)(bp:∀u,RV f s.heap a u->Q u s):wpAny (model I K.w) A (loadName F.env x) Q U s:=by rcases(Eh e).2 with⟨aP,h⟩|⟨aP,h⟩|⟨aP,h⟩|⟨aP,h⟩;exact QA R (E.kn aP<|by decide) h bp;exact O3 G R (E.kn aP<|by decide) h bp;exact BZ R (.inl<|E.kn aP<|by decide) h bp;exact BZ R ((E.kl aP).elim .inr λC=>.inl C.2) h bp
def E0(e:lG T c loc x H=some a):(x==("__debug__":Str))=false:=by exact Y Ex<|wb (Eh e).1
def A6(G:eQ K T)(E:CtxOk d c F)(R:aV K F loc f H s)(e:hr T c loc x H=some r):aO I K F loc (loadName F.env x) (aM aN r) (a8 r) f H s/\(x==("__debug__":Str))=false:=by exact aK e λa h e=>⟨yB G E R h λ_ q=>bj R (.refl ..) q e,E0 h⟩
end
set_option tactic.hygienic true in
def w3(es)(x y)(k)(t)(v):nsFind (fg es x k t v).toArray y=if y=x then some v else nsFind es.toArray y:=by
 unfold fg nsFind;split
 .rename_i i j;have:=findBy_modify (λn v=>v.isStr n) Value.isStr_inj es.toArray x y v i<|by refine Y (uB ..) ?_;exact j
  simpa using this
 .rename_i j;have:=findBy_push (λn v=>v.isStr n) es.toArray x y k (.str x t) v (λC=>by show(x==C)=decide (C=x);rw[gM,ct,gE];exact eq_comm)<|by refine Y (uB ..) ?_;exact j
  simpa using this
set_option tactic.hygienic true in
def EC(h:∀e∈es,∃n t,e.key=.str n t)(x)(k)(t)(v):∀e∈fg es x k t v,∃n t,e.key=.str n t:=by
 unfold fg;split;rename_i i j;intro e he;have:StrKeys (es.toArray.modify i λe=>{e with val:=v}):=StrKeys.modify (λe m=>h e<|by simpa using m) _ _;exact this e<|by simpa using he
 intro e he;rcases d2.mp he with m|m;exact h e m;exact Y (b8.mp m)<|mC x t rfl
section
variable{K:al}{F:bI}{c:bh}{loc:Loc}{H:aq}{x:Str}{a:V}
inductive OR(c:bh)(x:Str)(a:V)(loc:Loc)(H:aq)(r:RS):Prop|own (aP:aC x c.sc=some .local) (e:r=.ok .next (put x a loc) H)|gT (i:Nat) (w:Option V) (aP:aC x c.sc=some .cell) (j:aC x loc=some (.ref i)) (k:H[i]? =some (.cell w)) (e:r=.ok .next loc (H.set i (.cell (some a))))
def Ns.uniq{h:Heap}{a:Addr}(n:h.Ns a m)(u:h.Ns a T):T=m:=by refine gD n λo es k e d _ q=>gD u λo' z C j f _ y=>?_;rw[e]at j;rw[<-aQ j,d]at f;funext x;exact Y (q x).symm<|Y (y x).symm<|Y ((Data.dict.inj f).1) rfl
def H0(e:DZ o=true):∃w,o=.cell w:=by
 induction o with
 |cell w=>exact⟨w,rfl⟩|_=>exact ff e
def Np(e:fV q m=some r):q=true/\m=some r:=by rcases q;exact aW e;exact⟨rfl,e⟩
def is{P:Prop}(e:fV q m=some r)(h:q=true->m=some r->P):P:=aS (Np e) h
def CR(e:f9 c x a loc H=some r):OR c x a loc H r:=by
 refine dh e λk aP e=>?_;induction k with
 |«local»=>exact .own aP (aQ e).symm|cell=>refine dh e λb u e=>dh e λi j e=>dh e λo h e=>is e λf e=>aU (H0 f) λw y=>?_;clear f;subst y;rw[iD j]at u;exact .gT i w aP u h (aQ e).symm
 |_=>exact aW e
def aV.own(R:aV K F loc f H s){es:List DictEntry}(t:Tok)(D:s.heap.get? F.L=some o)(u:h'.get? F.L=some {o with data:=.dict es.toArray n})(y:Heap.SameBut F.L s.heap h')(nn:h'.Ns F.L T)(lo:∀m,s.heap.Ns F.L m->g2 F.env f s.heap loc m->cw s.heap h'->g2 F.env f h' ag T):aV K F ag f H {s with heap:=h',toks:=t}/\a5 K.a3 [F.L] f H s.heap f H h':=by
 have j:∀b o,b∉F.L::bz H f->s.heap.get? b=some o->h'.get? b=some o:=λb o nm h=>by refine Y (y.2 b λC=>nm<|by rw[C];exact .head _) ?_;exact h
 have fx:=rm R j;have kl:∀b,b≠F.L->h'.get? b=s.heap.get? b:=y.2;have M:=R.move (τ:=[]) (H':=H) (ag:=ag) (h':=h') t j (λb N C=>?_) ?_ (λb m=>.inl<|by rwa [be]at m) λO J x no E=>?_;rw[be]at M;exact M;by_cases z:b=F.L;rw[z,u]at C;exact aW<|C.symm;rw[kl b z]at C;exact N C;refine Y (be ..) ⟨R.rep.len,λi o p e1 k=>?_,R.rep.nd,R.rep.new⟩;have:=(R.rep.obj i o p e1 k).keep (τ:=[]) fx (λb I ob h=>by refine Y (kl b λC=>R.apart<|by rw[<-C];exact ep e1 k _ I) ?_;exact h)<|t4 R j;rwa [be]at this;rw[D]at x;obtain rfl:=aQ x;exact oU _ n T u nn<|Y (be ..)<|lo J no E fx
def RO.Q'(q:RO P f h (.cell w) p):∃C,h.get? p.1=some {cls:=.type "cell",data:=.cell C}:=by rcases w with _|w;exact⟨_,q⟩;obtain⟨C,e,_⟩:=q;exact⟨_,e⟩
def TZ(R:aV K F loc f H s)(q:RV f s.heap a u)(aP:aC x F.env.scope.names=some .cell)(j:aC x loc=some (.ref i))(k:H[i]? =some (.cell w))(h:∀J,aV K F loc f (H.set i<|.cell<|some a) J->a5 K.a3 [F.L] f H s.heap f (H.set i<|.cell<|some a) J.heap->Q () J):wpAny (model I K.w) A (storeName F.env x u) Q U s:=by
 obtain⟨oL,m,eL,W,n,l⟩:=R.loc;refine bV (l.gT x i (.inl aP) j) λE dd e1 z=>aU ((R.rep.obj i _ _ k z).Q') λC y=>?_;unfold storeName;refine Y ((kG x F.env).trans aP) ?_;simp only[show(some NameKind.cell==some NameKind.globalImplicit)=false from rfl,Bool.false_and,kV,jd,R.kind,show(ScopeKind.function==ScopeKind.class)=false from rfl];unfold cellOf;refine Y e1<|aX<|aL<|aX<|wpAny_load y<|wpAny_update y ?_;have O:=jc (h:=s.heap) (λo=>{o with data:=.cell<|some u}) y rfl;obtain⟨D,st⟩:=R.set (h':=s.heap.update E λo=>{o with data:=.cell<|some u}) s.toks (o:=.cell w) (o':=.cell<|some a) k z rfl (λb ob T N=>by refine Y (rh _ _ λC=>T<|by rw[<-C];exact .head _) ?_;exact N)
  (λfx=>⟨u,O,q.pR fx⟩)
 exact h _ D st
def NK(l:g2 F.env f h loc m)(aP:aC x F.env.scope.names=some .local)(q:RV f h a u)(fx:cw h h'):g2 F.env f h' (put x a loc) (λy=>if y=x then some u else m y):=by
 refine⟨λy z b k=>?_,λy i j z=>?_⟩;rw[iP]at k;by_cases C:y=x;rw[bZ C]at k;exact Y (aQ k).symm<|a9 u (bZ C)<|q.pR fx;rw[bO C]at k;exact aZ (l.own y z b k) λw e1 r=>a9 w ((bO C).trans e1)<|r.pR fx
 .rw[iP]at z;by_cases C:y=x;rw[C,aP]at j;rcases j with j|j<;>cases j
  rw[bO C]at z;exact l.gT y i j z
def Ug(R:aV K F loc f H s)(q:RV f s.heap a u)(aP:aC x F.env.scope.names=some .local)(h:∀J,aV K F (put x a loc) f H J->a5 K.a3 [F.L] f H s.heap f H J.heap->Q () J):wpAny (model I K.w) A (storeName F.env x u) Q U s:=by
 refine Y (storeName_local ((kG x F.env).trans aP) (by rw[R.kind];rfl) ..)<|Y R.locals ?_;obtain⟨oL,m,z,cL,n,l⟩:=R.loc;refine hv (id n) λo' ae O=>?_;obtain⟨es⟩:=ae;refine ix O λk D W aa hm=>?_;rw[z]at D;clear O;obtain rfl:=aQ D;have N:∀e∈es,∃y t,e.key=.str y t:=λe he=>aa e<|List.mem_toArray.mpr he;refine rJ z W N λh' n' E sb=>?_;have nn:h'.Ns F.L (λy=>if y=x then some u else m y):=⟨_,_,n',E,rfl,λe he=>EC N _ _ _ _ e<|List.mem_toArray.mp he,λy=>by refine Y (w3 ..) ?_;by_cases C:y=x;exact Y (bZ C)<|(bZ C).symm;refine Y (bO C) ?_;exact(hm y).trans (bO C).symm⟩;obtain⟨T,st⟩:=R.own (s.toks+1) z E sb nn λaf ab j fx=>by rw[Ns.uniq n ab]at j;exact NK j aP q fx
 exact h _ T st
def my(E:CtxOk d c F)(R:aV K F loc f H s)(q:RV f s.heap a u)(e:f9 c x a loc H=some (.ok .next ag H'))(h:∀J,aV K F ag f H' J->a5 K.a3 [F.L] f H s.heap f H' J.heap->Q () J):wpAny (model I K.w) A (storeName F.env x u) Q U s:=by rcases CR e with⟨aP,e⟩|⟨i,w,aP,j,k,e⟩;cases e;exact Ug R q (E.kn aP<|by decide) h;cases e;exact TZ R q (E.kn aP<|by decide) j k h
end
section
open SeqAt
def yi(x:List Nat)(v:Value):Bool:=match v with|.str C _=>C==tx x|_=>false
theorem zV:∀{a b},lL a b=decide (a<b)
 |[],[]=>by exact Y StrLaws.lt_nil_nil rfl
 |[],b::t=>by exact Y (StrLaws.lt_nil_cons ..) rfl
 |a::r,[]=>by exact Y (StrLaws.lt_cons_nil ..) rfl
 |a::r,b::t=>by
  refine Y (StrLaws.lt_cons_cons ..) ?_;unfold lL;rcases h:Nat.blt a b
  .have k:¬a<b:=λC=>by rw[jt.mpr C]at h;exact ff (h.symm)
   rcases j:Nat.beq a b;have:=qt j;simp[k,this];have:=cd j;clear h k j;subst this;simp[zV]
  have:=jt.mp h;simp[this]
section
variable{K:al}{loc:Loc}{s:Shared}
def aV.S5(R:aV K F loc f H s){i:Nat}(e1:H[i]? =some o)(h:f[i]? =some p):∀a∈foot o p,(a==sysModules)=false:=λa m=>by rw[sP];intro C;subst C;refine aZ R.mods λo' e _=>?_;rw[R.rep.new _<|ep e1 h _ m]at e;exact aW e
def aV.mapOf(R:aV K F loc f H s){i:Nat}(e1:H[i]? =some (.dict h))(k:f[i]? =some (a,j)):∃z,s.heap.MapOf (PySem.strKind I K.w) a z/\∀x,match aC x h with|some b=>∃v,z x=some v/\RV f s.heap b v|none=>z x=none:=by obtain⟨es,n,e,q⟩:=R.rep.obj i _ _ e1 k;refine a9 (λx=>(es.find? λe=>Value.isStrOf x e.key).map (·.val)) ⟨_,es.toArray,n,e,⟨rfl,rfl,rfl⟩,rfl,λe he=>?_,λx=>?_⟩ λx=>q.find x;exact bV (q.keys.all e<|by simpa using he) λx t u k2=>a9 x (by refine Y u ?_;exact strKind_is I K.w x t) k2;show findBy Value.isStrOf es.toArray x=_;unfold findBy;exact Y (List.find?_toArray ..) rfl
def Pb(x y):ar y x=ar x y:=by rw[gM,j1,j1];exact eq_comm
def Tx:∀{D r},aT f s.heap l D->fK x l=some r->(∀v∈D,∃y t,v=.str (tx y) t)/\D.any (yi x)=r:=by
 induction l with
 |nil=>intro D r q e;refine Y q.i0 ?_;obtain rfl:=aQ e;exact⟨λ_ m=>(nomatch m),rfl⟩
 |cons a l I=>intro D r q e;obtain⟨u,us,rfl,C,z⟩:=q.eO;refine aK e λy E e=>aK e λJ bk e=>?_;rw[jQ E]at C;clear q;obtain⟨t,_,rfl⟩:=C.dU;refine aS (I z bk) λk j=>⟨λv m=>(bC.mp m).elim (λh=>⟨y,t,h⟩)<|k v,?_⟩;refine Y List.any_cons<|Y j ?_;show((tx y==tx x)||J)=_;refine Y DY<|Y (Pb ..)<|Y (aQ e).symm ?_;cases ar x y<;>rfl
end
section
variable{K:al}{s:Shared}
def JH(R:aV K F loc f H s)(T:RV f s.heap (.ref i) j)(hl:H[i]? =some (.list l))(e:fK x l=some r)(z:Bool)(J:Q (.bool<|z^^r) s):wpAny (model I K.w) A (compareOp (if z then .NotIn else .In) (.str (tx x) t) j) Q U s:=by
 obtain⟨ca,dd,rfl,O⟩:=T.ex;obtain⟨D,n,E,la,k⟩:=R.isList hl O;refine aS (Tx k e) λu h=>?_;have he:∀y,y∈D.toArray->EqAt A.in1 s y (.str (tx x) t) (yi x y):=λy m=>by refine hv (u y<|List.mem_toArray.mp m) λC t' W=>?_;clear m;subst W;exact .str_str _ _ _ _
 have N:D.toArray.any (yi x)=r:=Y h.symm<|Y List.any_toArray rfl;rcases z;exact in_listAt _ ⟨_,E,rfl,_,rfl⟩ he<|by refine Y N ?_;rwa [Bool.false_xor]at J
 exact notIn_listAt _ ⟨_,E,rfl,_,rfl⟩ he<|by refine Y N ?_;rwa [Bool.true_xor]at J
def GZ(R:aV K F loc f H s)(O:RV f s.heap (.ref i) j)(E:H[i]? =some (.dict es))(C:Bool)(h:∀k,Q (.bool<|C^^(aC ⟨x.toArray⟩ es).isSome) {s with toks:=k}):wpAny (model I K.w) A (compareOp (if C then .NotIn else .In) (.str (tx x) t) j) Q U s:=by
 obtain⟨N,T,rfl,D⟩:=O.ex;obtain⟨z,J,y⟩:=R.mapOf E D;have lo:=R.S5 E D N<|.head _;have aE:(aC ⟨x.toArray⟩ es).isSome=(z<|tx x).isSome:=by have:=y<|tx x;show(aC (tx x) es).isSome=_;revert this;rcases W:aC (tx x) es with _|b;intro this;exact Y (show z (tx x)=none from this) rfl;intro this;obtain⟨w,e1,_⟩:=this;exact Y e1 rfl
 have u:=h<|s.toks+1;rw[aE]at u;rcases C;exact wpAny_in_of (PySem.strKind_is I K.w (tx x) t) lo J<|by rwa [Bool.false_xor]at u
 exact wpAny_notIn_of (PySem.strKind_is I K.w (tx x) t) lo J<|by rwa [Bool.true_xor]at u
def zi(R:aV K F loc f H s)(J:RV f s.heap a u)(E:RV f s.heap b j)(e:uk a b H=some r)(C:Bool)(h:∀k,Q (.bool<|C^^r) {s with toks:=k}):wpAny (model I K.w) A (compareOp (if C then .NotIn else .In) u j) Q U s:=by
 refine aK e λx aE e=>?_;rw[jQ aE]at J;obtain⟨t,_,rfl⟩:=J.dU;induction b using V.casesOn with
 |str y=>
  obtain⟨N,_,rfl⟩:=E.dU;have D:Q (.bool<|C^^r) s:=h s.toks;rw[<-aQ e,<-UB]at D;rcases C;exact SB.contains<|by rwa [Bool.false_xor]at D
  exact SB.notContains<|by rwa [Bool.true_xor]at D
 |ref i=>
  refine aK e λo z e=>?_;induction o with
  |list l=>exact JH R E z e C<|h s.toks
  |dict es=>obtain rfl:=aQ e;exact GZ R E z C h
  |_=>exact aW e
 |_=>exact aW e
def AN(q:RV f s.heap a u):(u==Value.none)=gS a:=by
 have q:=q.inv;induction a using V.casesOn with
 |none=>exact Y (show u=.none from q) rfl|bool=>exact Y (show u=.bool _ from q) rfl|int=>obtain⟨_,rfl⟩:=q;rfl
 |str=>obtain⟨_,_,rfl⟩:=q;rfl
 |tup=>obtain⟨_,_,rfl,_⟩:=q;rfl
 |ref=>obtain⟨_,_,rfl,_⟩:=q;rfl
 |fn=>exact Y (show u=.ref _ from q) rfl|blt b=>refine Y (show u=b.val from q) ?_;cases b<;>rfl
 |an=>obtain⟨_,_,_,_,rfl,_⟩:=q;rfl
 |bX=>obtain⟨_,_,_,_,_,_,rfl,_⟩:=q;rfl
 |bm=>obtain⟨_,_,_,rfl,_⟩:=q;rfl
def sx(R:aV K F loc f H s)(T:A.units+40<cLine)(E:RV f s.heap a u)(J:RV f s.heap b j)(e:cN op a b H=some r)(h:∀k,Q (.bool r) {s with toks:=k}):wpAny (model I K.w) A (compareOp op u j) Q U s:=by
 have D:Q (.bool r) s:=h s.toks;induction op with
 |Eq=>exact(C8 R 40 T E J e).1 I K.w U Q D|NotEq=>clear h;refine aZ (lz.mp e) λq e1 al=>?_;subst al;exact(C8 R 40 T E J e1).2.2 I K.w U Q D
 |Lt=>clear h;refine bV (r3 e) λx y aq ar=>?_;subst aq;refine aS ar λas au=>?_;subst as au;obtain⟨t,rfl⟩:=E.cG;obtain⟨N,rfl⟩:=J.cG;rw[ib]at D;exact lt_int D
 |LtE=>
  rcases z:ef a with _|C
  .have e:lC a b (λx y=>!du y x)=some r:=by
    have e:(match ef a with|some _=>qq a b λx y=>!lL y x|none=>lC a b λx y=>!du y x)=some r:=e
    rwa [z]at e
   clear h z;refine bV (r3 e) λx y aa ab=>?_;subst aa;refine aS ab λae af=>?_;subst ae af;clear e;obtain⟨t,rfl⟩:=E.cG;clear e;obtain⟨N,rfl⟩:=J.cG;rw[ib,<-decide_not]at D;exact le_int<|by refine Y (show decide (x<=y)=decide (¬y<x) from decide_eq_decide.mpr hH.symm) ?_;exact D
  .have e:qq a b (λx y=>!lL y x)=some r:=by
    have e:(match ef a with|some _=>qq a b λx y=>!lL y x|none=>lC a b λx y=>!du y x)=some r:=e
    rwa [z]at e
   clear h z;refine bV (KE e) λx y av aw=>?_;subst av;refine aS aw λax W=>?_;subst ax W;clear e;obtain⟨t,_,rfl⟩:=E.dU;clear e;obtain⟨N,_,rfl⟩:=J.dU;rw[zV]at D;exact P.le_str<|by simpa using D
 |Gt=>clear h;refine bV (r3 e) λx y ag ah=>?_;subst ag;refine aS ah λai aj=>?_;subst ai aj;obtain⟨t,rfl⟩:=E.cG;obtain⟨N,rfl⟩:=J.cG;rw[ib]at D;exact gt_int D
 |GtE=>clear h;refine bV (r3 e) λx y ak am=>?_;subst ak;refine aS am λan ao=>?_;subst an ao;obtain⟨t,rfl⟩:=E.cG;obtain⟨N,rfl⟩:=J.cG;rw[ib,<-decide_not]at D;exact ge_int<|by refine Y (show decide (x>=y)=decide (¬x<y) from decide_eq_decide.mpr hH.symm) ?_;exact D
 |In=>exact zi R E J e false λk=>by refine Y (Bool.false_xor ..) ?_;exact h k
 |NotIn=>clear D;refine aZ (lz.mp e) λq e1 ap=>?_;subst ap;exact zi R E J e1 true λk=>by refine Y (Bool.true_xor ..) ?_;exact h k
 |Is=>have e:(match gS b with|true=>some (gS a)|false=>none)=some r:=e;revert e;rcases O:gS b;intro e;exact aW e;intro e;cases rO O;exact Y J.qf<|is_none<|by refine Y (AN E)<|Y (aQ e) ?_;exact D
 |IsNot=>have e:(match gS b with|true=>some (!gS a)|false=>none)=some r:=e;revert e;rcases O:gS b;intro e;exact aW e;intro e;cases rO O;exact Y J.qf<|isNot_none<|by refine Y (AN E)<|Y (aQ e) ?_;exact D
end
end
section
variable{K:al}
theorem kX.units(h:kX d A):A.units+40<cLine:=by have:=h.2;exact aR this<|by simp+arith
def F9:∀{x},j0 x=true->behindInMarks op x=false|x,h=>by cases x<;>first|rfl|exact ff h
def Bf(h:hM (x::f)=true):j0 x=true/\hM f=true:=by unfold hM at h;split at h;rename_i q;exact⟨q,h⟩;exact ff h
abbrev tE:jb Bool Value:=λ_ _ a b=>b=.bool a
def H8(y:bB I K d v)(E:CtxOk d c F)(R:aV K F loc f H s)(q:RV f s.heap a u)(e:(bd (v.e c loc x H) λb H=>ob (cN op a b H) λC=>rt C H)=some r):aO I K F loc (compareChain p u [op] [eval x F.env]) (aM tE r) (a8 r) f H s:=by exact aX<|c8<|Sn.then (.refl ..) (y.e E R) e λb w ab H' J j ae _ k h=>aK h λC hz h=>aX<|dL<|wpAny_operate'<|sx j E.room.units (q.at ae R) k hz λt=>bj (j.toks t) ae rfl h
def SQ(y:bB I K d v)(E:CtxOk d c F)(R:aV K F loc f H s)(q:RV f s.heap a u)(e:(bd (v.e c loc x H) λb H=>ob (cN op a b H) λC=>rt C H)=some r):aO I K F loc (testChain p u [op] [eval x F.env]) (aM kH r) (a8 r) f H s:=by exact aX<|c8<|Sn.then (.refl ..) (y.e E R) e λb w ab H' J j ae _ k h=>aK h λC hz h=>aX<|dL<|aX<|wpAny_operate'<|sx j E.room.units (q.at ae R) k hz λt=>c8<|xq<|bj (j.toks t) ae rfl h
def GY{k:V->aq->M Bool}(T:bB I K d v)(E:CtxOk d c F)(R:aV K F loc f H s)(q:RV f s.heap a u)(e:(bd (v.e c loc x H) λb H=>ob (cN op a b H) λC=>s0 (k b) false C H)=some r)(h:∀{b:V}{w:Value}{f:a6}{H:aq}{s:Shared},aV K F loc f H s->RV f s.heap b w->Sn I K F loc tE (k b H) (compareChain p w (j::y)<|t::z) f H s):aO I K F loc (compareChain p u (op::j::y)<|eval x F.env::t::z) (aM tE r) (a8 r) f H s:=by refine aX<|c8<|Sn.then (.refl ..) (T.e E R) e λb w ab H' J N ae _ O D=>aK D λC hz D=>aX<|dL<|aX<|c8<|sx N E.room.units (q.at ae R) O hz λt=>aX<|wpAny_release<|aX<|c8<|xq ?_;rcases C;exact aL<|bj (N.toks t) ae rfl D;exact fN ae<|h (N.toks t) O r D
def Ra{k:V->aq->M Bool}(T:bB I K d v)(E:CtxOk d c F)(R:aV K F loc f H s)(q:RV f s.heap a u)(e:(bd (v.e c loc x H) λb H=>ob (cN op a b H) λC=>s0 (k b) false C H)=some r)(h:∀{b:V}{w:Value}{f:a6}{H:aq}{s:Shared},aV K F loc f H s->RV f s.heap b w->Sn I K F loc kH (k b H) (testChain p w (j::y)<|t::z) f H s):aO I K F loc (testChain p u (op::j::y)<|eval x F.env::t::z) (aM kH r) (a8 r) f H s:=by refine aX<|c8<|Sn.then (.refl ..) (T.e E R) e λb w ab H' J N ae _ O D=>aK D λC hz D=>aX<|dL<|aX<|c8<|sx N E.room.units (q.at ae R) O hz λt=>aX<|wpAny_release<|aX<|c8<|xq ?_;rcases C;exact aL<|bj (N.toks t) ae rfl D;exact fN ae<|h (N.toks t) O r D
def Ba(h:j0 x=true):markedEach [op] [x] (evalEach [x] env)=[eval x env]:=by show[markedBehindIn op x<|eval x env]=_;exact Y (markedBehindIn_of_false<|F9 h) rfl
def z3(h:(k::j).length=(y::f).length):∃t u,markedEach (k::j) (y::f) (evalEach (y::f) env)=t::u/\ markedEach (op::k::j) (x::y::f) (evalEach (x::y::f) env)=eval x env::t::u:=by rcases j with _|⟨o,os⟩;rcases f with _|⟨C,z⟩;exact dX _ _ rfl rfl;exact absurd (hE h) λC=>nomatch C;exact dX _ _ rfl rfl
def UK(T:bB I K d v)(E:CtxOk d c F):∀{z a u f H s},k.length=z.length->hM z=true->aV K F loc f H s->RV f s.heap a u->Sn I K F loc tE (m' v c loc a k z H) (compareChain p u k<|markedEach k z<|evalEach z F.env) f H s:=by
 induction k with
 |nil=>intro z a u f H s _ _ _ _ r e;exact aW e
 |cons op k J=>intro z a u f H s hl ns R q r e;rcases z with _|⟨x,z⟩;exact aW e;refine aS (Bf ns) λN O=>?_;have D:=hE hl;rcases z with _|⟨y,z⟩;exact Y (q4.mp D)<|Y (Ba N)<|H8 T E R q e;rcases k with _|⟨U,k⟩;exact absurd D λC=>nomatch C;exact bV (z3 D) λt W h j=>Y j<|GY T E R q e λR q=>h▸J D O R q
def Pr(T:bB I K d v)(E:CtxOk d c F):∀{z a u f H s},k.length=z.length->hM z=true->aV K F loc f H s->RV f s.heap a u->Sn I K F loc kH (m' v c loc a k z H) (testChain p u k<|markedEach k z<|evalEach z F.env) f H s:=by
 induction k with
 |nil=>intro z a u f H s _ _ _ _ r e;exact aW e
 |cons op k J=>intro z a u f H s hl ns R q r e;rcases z with _|⟨x,z⟩;exact aW e;refine aS (Bf ns) λN O=>?_;have D:=hE hl;rcases z with _|⟨y,z⟩;exact Y (q4.mp D)<|Y (Ba N)<|SQ T E R q e;rcases k with _|⟨U,k⟩;exact absurd D λC=>nomatch C;exact bV (z3 D) λt W h j=>Y j<|Ra T E R q e λR q=>h▸J D O R q
end
def z7:∀{h H H' l},ce v c loc h H=some (.ok l H')->l.length=h.length:=by
 intro h;induction h with
 |nil=>intro H H' l e;refine lM (aQ e) λj k=>?_;subst j k;rfl
 |cons x h z=>intro H H' l e;unfold ce at e;revert e;rcases aE:v.e c loc x H with _|q;intro e;exact aW e;intro e;rcases q with⟨a,u⟩|_;simp only[bd]at e;revert e;rcases y:ce v c loc h u with _|q;intro e;exact aW e;intro e;rcases q with⟨f,C⟩|_;refine lM (aQ e) λj k=>?_;subst j k;exact(Y cB<|Y cB<|Y (z y) rfl);cases e;cases e
section
variable{h z:Type}{I:Program}{K:al}{F:bI}{loc:Loc}{ρ:jb h z}{f y:a6}{H j:aq}{u:Heap}{s:Shared}
def Sn.DO(st:a5 K.a3 [F.L] y j u f H s.heap)(h:Sn I K F loc ρ m t f H s)(e:bd m k=some r)(g:∀a v ab H' J,m=some (.ok a H')->aV K F loc ab H' J->a5 K.a3 [F.L] y j u ab H' J.heap->a5 K.a3 [F.L] f H s.heap ab H' J.heap->ρ ab J.heap a v->k a H'=some r->G v J):wpAny (model I K.w) F.A t G (jO K F loc (a8 r) y j u) s:=by rcases z:m with _|q;clear h g;subst z;exact aW e;rcases q with⟨a,H'⟩|⟨i,H'⟩;rw[z]at e;refine bY (h _ z) (λv J⟨ab,E,C,ae,D,q,x⟩=>?_) λev J⟨ab,E,i,D,d,C,ae,e1,N,O,x⟩=>nomatch x;refine lM q λT U=>?_;subst T U;exact g _ v _ _ J z C (st.trans ae λ_ m=>.inl m) ae x e;rw[z]at e;clear g;obtain rfl:=aQ e;refine bY (h _ z) (λv J⟨ab,E,C,ae,D,q,x⟩=>nomatch q) λev J⟨ab,E,W,D,d,C,ae,e1,N,O,x⟩=>?_;cases x;exact⟨ab,_,_,D,d,C,st.trans ae λ_ m=>.inl m,e1,N,O,rfl⟩
def Ea(st:a5 K.a3 [F.L] y j u f H k)(p:eE K F loc (aM ρ r) f H k v J):eE K F loc (aM ρ r) y j u v J:=by obtain⟨ab,H',h,ae,q⟩:=p;exact⟨ab,H',h,st.trans ae λ_ m=>.inl m,q⟩
end
section
variable{K:al}
def Rg(N:bB I K d v)(E:CtxOk d c F)(R:aV K F loc f H s)(e:ec T O v c loc (.Compare l k rs p) H=some r):aO I K F loc (eval (.Compare l k rs p) F.env) (aM aN r) (a8 r) f H s:=by refine cH e λh e=>?_;simp only[fW]at h;unfold aO;refine Y (arm_eval_Compare ..)<|aX<|Sn.then (.refl ..) (N.e E R) e λa u ab H' J j st _ q z=>bY (Sn.then st (UK N E (cd h.2) h.1 j q) z λb w aa U W y ae _ D C=>?_) (λ_ _ x=>x) λ_ _ x=>x;clear e;subst D;exact bj y ae .bool C
def IW(y:bB I K d v)(E:CtxOk d c F)(R:aV K F loc f H s)(e:stepT v c loc (.Compare l k rs p) H=some r):aO I K F loc (isTrue (.Compare l k rs p) F.env w) (aM kH r) (a8 r) f H s:=by unfold stepT at e;refine cH e λh e=>?_;simp only[fW]at h;unfold aO;exact Y (arm_isTrue_Compare ..)<|aX<|Sn.then (.refl ..) (y.e E R) e λa u ab H' J j st _ q x=>fN st<|Pr y E (cd h.2) h.1 j q r x
def Q5(N:bB I K d v)(E:CtxOk d c F)(R:aV K F loc f H s)(e:ec T O v c loc (.BinOp l op x p) H=some r):aO I K F loc (eval (.BinOp l op x p) F.env) (aM aN r) (a8 r) f H s:=by unfold aO;exact Y (arm_eval_BinOp ..)<|aX<|Sn.then (.refl ..) (N.e E R) e λa u ab H' J j st _ q y=>aX<|c8<|Sn.then st (N.e E j) y λb h aa U W k D ae C z=>aX<|dL<|wpAny_operate'<|fN D<|Nr k (q.at ae j) C z
def Oe(y:bB I K d v)(E:CtxOk d c F)(R:aV K F loc f H s)(e:ec T O v c loc (.UnaryOp .Not x p) H=some r):aO I K F loc (eval (.UnaryOp .Not x p) F.env) (aM aN r) (a8 r) f H s:=by exact wpAny_UnaryOp<|Sn.then (.refl ..) (y.e E R) e λa u ab H' J j st _ q h=>aK h λb k h=>not_value<|xl q k<|bj j st .bool h
def Ui(y:bB I K d v)(E:CtxOk d c F)(R:aV K F loc f H s)(e:ec T O v c loc (.UnaryOp .USub x p) H=some r):aO I K F loc (eval (.UnaryOp .USub x p) F.env) (aM aN r) (a8 r) f H s:=by refine wpAny_UnaryOp<|Sn.then (.refl ..) (y.e E R) e λa u ab H' J k st _ q j=>aK j λi h j=>?_;rw[fp h]at q;obtain⟨t,rfl⟩:=q.cG;exact neg_int<|bj (k.toks _) st .int j
def Rx(z:bB I K d v)(E:CtxOk d c F)(R:aV K F loc f H s)(e:ec T O v c loc (.Tuple x k p) H=some r):aO I K F loc (eval (.Tuple x k p) F.env) (aM aN r) (a8 r) f H s:=by
 refine cH e λh e=>?_;simp only[fW]at h;refine wpAny_Tuple<|Sn.DO (.refl ..) (vl z E h.1 R) e λl D ab H' J y j st _ q u=>?_;have hl:D.length<=lim:=by refine Y q.length<|Y (z7 y) ?_;exact hP h.2
 refine⟨av hl fH,Ea st<|wJ j u λfx=>?_⟩;exact .tup (dS _ rfl) hl<|q.fx fx
def FU(y:bB I K d v)(E:CtxOk d c F)(R:aV K F loc f H s)(e:ec T O v c loc (.List k p) H=some r):aO I K F loc (eval (.List k p) F.env) (aM aN r) (a8 r) f H s:=by
 refine cH e λh e=>?_;simp only[fW]at h;refine wpAny_List<|Sn.DO (.refl ..) (vl y E h.1 R) e λl D ab H' J x j st _ q u=>?_;have hl:l.length<=lim:=by refine Y (z7 x) ?_;exact hP h.2
 exact⟨av (by refine Y q.length ?_;exact hl) fH,Ea st<|wn j hl q u⟩
def J3(R:aV K F loc f H s)(e:rt (V.ref H.length) (H++[.dict []])=some r):eE K F loc (aM aN r) f H s.heap (.ref s.heap.objs.size) {s with heap:=s.heap.push {cls:=.type "dict",data:=.dict #[]}}:=by
 have kp:∀b ob,s.heap.get? b=some ob->(s.heap.push {cls:=.type "dict",data:=.dict #[]}).get? b=some ob:=λb ob e=>b0 _ e;have h:∀a∈foot (.dict []) (s.heap.objs.size,0),s.heap.get? a=none/\a≠K.a3:=λa m=>by exact Y (b8.mp m) ⟨ei _,R.h6<|ei _⟩
 have j:cw s.heap (s.heap.push {cls:=.type "dict",data:=.dict #[]})->RO K.w.params (f++[(s.heap.objs.size,0)]) (s.heap.push {cls:=.type "dict",data:=.dict #[]}) (.dict []) (s.heap.objs.size,0):=λfx=>⟨[],0,dS _ rfl,.nil⟩;refine aS (R.add (o:=.dict []) (p:=(s.heap.objs.size,0)) s.toks kp h (ee.mpr ⟨by simp,kO⟩) j) λk st=>bj (ρ:=aN) k st ?_ e;refine RV.ref (d:=0)<|Y R.rep.len.symm<|Y (dp<|ba _)<|Y (ew ..) ?_;rfl
def KW(R:aV K F loc f H s)(e:ec T O v c loc (.Dict [] [] p) H=some r):aO I K F loc (eval (.Dict [] [] p) F.env) (aM aN r) (a8 r) f H s:=by exact wpAny_Dict_empty<|J3 R e
def AM(y:bB I K d v)(E:CtxOk d c F)(R:aV K F loc f H s)(e:(bd (v.e c loc x H) λa H=>ob (kL a) λb=>rt b H)=some r)(he:isTrue x F.env (eval x F.env)=(do let v<-eval x F.env;standAt x.pos;holding [v] (truthy v))):aO I K F loc (isTrue x F.env<|eval x F.env) (aM kH r) (a8 r) f H s:=by refine isTrue_plain (Sn.then (.refl ..) (y.e E R) e λa u ab H' J j st _ q h=>?_) he;exact aK h λb k h=>xl q k<|bj j st rfl h
set_option tactic.hygienic true in
def ys(h:bB I K d v)(E:CtxOk d c F)(R:aV K F loc f H s)(e:stepT v c loc x H=some r):aO I K F loc (isTrue x F.env<|eval x F.env) (aM kH r) (a8 r) f H s:=by
 rcases x;case Compare=>exact IW h E R e
 case BoolOp op y p=>unfold stepT at e;exact Y (arm_isTrue_BoolOp ..)<|Lg h E R r e
 case IfExp=>exact(gw e).elim
 case UnaryOp op x p=>
  rcases op;case Not=>unfold stepT at e;refine isTrue_not<|Sn.then (.refl ..) (h.t E R) e λa u ab H' J j st _ q k=>?_;subst q;exact bj j st rfl k
  all_goals exact AM h E R e rfl
 all_goals exact AM h E R e rfl
end
section
open Builtin Builtin.Str StrLaws
set_option tactic.hygienic true in
def x6(h:tJ i n=some j):seqIndex? i n=some j/\j<n:=by rcases i with k|k;replace h:(match Nat.blt k n with|true=>some k|false=>none)=some j:=h;rcases q:Nat.blt k n;rw[q]at h;exact aW h;rw[q]at h;have e:=aQ h;subst e;have l:=jt.mp q;refine⟨?_,l⟩;unfold seqIndex?;simp only[];exact(bZ<|by simp only[fW,decide_eq_true_eq];exact⟨gt k,hQ.mpr l⟩);replace h:(match Nat.ble (k+1) n with|true=>some (n-(k+1))|false=>none)=some j:=h;rcases q:Nat.ble (k+1) n;rw[q]at h;exact aW h;rw[q]at h;have e:=aQ h;subst e;have l:=bG q;have f:=Nat.sub_lt (cu (mW k) l)<|mW k;refine⟨?_,f⟩;unfold seqIndex?;simp only[bZ<|nY k];refine Y (show Int.negSucc k+(n:Int)=((n-(k+1):Nat):Int) from Y (s8 ..) (Int.ofNat_sub l).symm)<|Y (bZ<|by simp only[fW,decide_eq_true_eq];exact⟨gt _,hQ.mpr f⟩) ?_;rfl
set_option tactic.hygienic true in
def yc(h:tJ i n=some j)(C:n<=lim):-(2^63)<=i/\i<2^63:=by
 have f:-(2^63)<=-((lim:Nat):Int):=by decide+kernel
 have u:((lim:Nat):Int)<=2^63:=by decide+kernel
 rcases i with k|k;replace h:(match Nat.blt k n with|true=>some k|false=>none)=some j:=h;rcases q:Nat.blt k n;rw[q]at h;exact aW h;exact⟨oD (by decide)<|gt k,nH (hQ.mpr<|cu (jt.mp q) C) u⟩;replace h:(match Nat.ble (k+1) n with|true=>some (n-(k+1))|false=>none)=some j:=h;rcases q:Nat.ble (k+1) n;rw[q]at h;exact aW h;exact⟨oD f<|show-((lim:Nat):Int)<=-((k+1:Nat):Int) from Int.neg_le_neg<|n0.mpr<|av (bG q) C,lv (nY k)<|by decide⟩
def rD{n:Nat}(h:a<=n):max (0:Int) (min (a:Int) n)=a:=Y (Int.min_eq_left<|n0.mpr h)<|Int.max_eq_right<|gt a
def zQ(a:Nat):¬((a:Int)<0):=hH.mpr<|gt a
def MQ(lo y n:Nat)(u:lo<=n)(j:y<=n):strSliceIndices (some (lo:Int)) (some (y:Int)) 1 n=(List.range<|y-lo).map (λk=>lo+k):=by
 simp only[strSliceIndices,sliceRange,zQ,jd,rD u,rD j,show((1:Int)>0)=True from by simp,if_true];by_cases f:(lo:Int)<y
 .have h:(((y:Int)-lo+1-1)/1).toNat=y-lo:=by rw[Int.add_sub_cancel,Int.ediv_one,Int.toNat_sub]
  simp only[f,if_true,h];refine List.map_congr_left λk _=>?_;rw[Int.one_mul];rfl
 have:y-lo=0:=q6 (mm λC=>f<|hQ.mpr C);simp only[bO f,this];rfl
def n8(i)(n):d8 i n<=n:=by unfold d8;split;split;rename_i h;exact bG h;exact ba _;exact gq ..
def imax(a b:Nat):max (0:Int) ((b:Int)-(a:Int))=((b-a:Nat):Int):=by rw[Int.max_comm,<-Int.ofNat_toNat,Int.toNat_sub]
def Sc(i)(n:Nat):max (0:Int) (min (if i<0 then i+n else i) n)=(d8 i n:Nat):=by
 unfold d8;rcases i with k|k
 .refine Y (bO<|show¬(Int.ofNat k<0) from hH.mpr<|gt k) ?_;simp only;rcases h:Nat.ble k n
  .have:¬k<=n:=λC=>by rw[Nat.ble_eq.mpr C]at h;exact ff (h.symm)
   exact Y (Int.min_eq_right<|n0.mpr<|Nat.le_of_not_le this)<|Int.max_eq_right<|gt n
  exact Y (Int.min_eq_left<|n0.mpr<|bG h)<|Int.max_eq_right<|gt k
 refine Y (bZ<|nY k) ?_;refine Y (Int.min_eq_left<|Int.add_le_of_le_sub_right<|by rw[Int.sub_self];exact pY<|nY k) ?_;rw[s8];exact imax (k+1) n
def wy(i j)(n):strSliceIndices (some i) (some j) 1 n=strSliceIndices (some (d8 i n:Int)) (some (d8 j n:Int)) 1 n:=by simp only[strSliceIndices,show((1:Int)>0)=True from by simp,if_true,Sc,zQ,jd,rD<|n8 i n,rD<|n8 j n]
def vC(x){lo y:Nat}(j:lo<=x.length)(f:y<=x.length)(e:strSliceIndices l u 1 x.length=strSliceIndices (some (lo:Int)) (some (y:Int)) 1 x.length):Txt.slice (tx x) l u=tx (fM lo y x):=by
 unfold Txt.slice;refine Y (cK ..)<|Y e<|Y (MQ lo y _ j f) ?_;unfold fM;split
 .rename_i h;have hl:y-lo=x.length:=by simpa using h
  have k:lo=0:=cf (cS f (a4 hl.symm) (a4<|bx<|show lo<=y from cS j (a4 hl.symm) (gq y lo)<|by simp+arith)<|by simp+arith)<|by simp+arith
  clear j e h;subst k;exact Y hl<|Y iO<|Y List.take_length rfl
 by_cases h:lo<=y;have:=picks x (y-lo) lo (a7 f (a4<|bx<|show lo<=y from aR h<|by simp+arith)<|by simp+arith);simp only[tx,sH];exact Y this rfl;exact Y (q6<|Nat.le_of_not_le h) rfl
def PV(x)(i j):Txt.slice (tx x) (some i) (some j)=tx (fM (d8 i x.length) (d8 j x.length) x):=vC x (n8 _ _) (n8 _ _) (wy i j _)
def SI(x)(j):Txt.slice (tx x) none (some j)=tx (fM 0 (d8 j x.length) x):=vC x (bJ _) (n8 _ _) (by exact Y (sliceIdx_none_lo ..)<|Y (wy 0 j ..) rfl)
def Py(x)(i):Txt.slice (tx x) (some i) none=tx (fM (d8 i x.length) x.length x):=
 vC x (n8 _ _) (ba _) (by
  refine Y (sliceIdx_none_hi ..)<|Y (wy i ..) ?_;have:d8 (x.length:Int) x.length=x.length:=by show(match Nat.ble x.length x.length with|true=>_|false=>_)=_;cases Nat.ble x.length x.length<;>rfl
  exact Y this rfl)
section
variable{K:al}{v:dQ}{f:a6}
def u7{gN:Expr}(h:ItemOn (model I w) A U o i Q s)(y:subscripted gN false o i=operate j (getItem o i)):wpAny (model I w) A (subscriptTail k gN o i) Q U s:=let⟨_,_,hl,f,hg⟩:=h;tail_any f hl hg y
def va(gN)(o i):∃f,subscripted gN false o i=operate f (getItem o i):=by
 induction gN using Expr.casesOn with
 |Slice a b c=>cases c<;>exact⟨_,rfl⟩
 |_=>exact⟨_,rfl⟩
def pE(q:aT f h l D){j:Nat}(e:l[j]? =some x):∃u,D.toArray[j]? =some u/\RV f h x u:=by exact aZ (q.get e) λu e1 r=>a9 u (by simpa using e1) r
def Rj(f:-(2^63)<=n)(J:n<2^63):fitsSsize n=true:=by unfold fitsSsize;rw[kk<|hH.mpr f,kk<|Int.not_le.mpr J];rfl
def MV(aE:x.length<=lim)(N:RV f s.heap i z)(e:atS i x=some b)(h:∀w k,RV f s.heap b w->Q w {s with toks:=k}):ItemOn (model I K.w) A U (.str (tx x) t) z Q s:=by
 refine aK e λn C e=>aK e λj D e=>aK e λch E e=>?_;rw[fp C]at N;obtain⟨T,rfl⟩:=N.cG;cases e;clear e;refine aS (x6 D) λy O=>?_;have J:=yc D aE;have u:Txt.charAt (tx x) n=some ch:=by unfold Txt.charAt;exact Y (cK ..)<|Y y<|(sH ..).trans E
 refine SB.item (Rj J.1 J.2) (by exact Y u rfl) ?_;exact Y (show Txt.item (tx x) n=tx [ch] by unfold Txt.item;rw[u];rfl)<|h _ _<|.str<|show(1:Nat)<=lim by decide
def MW(qa:RV f s.heap (.tup l) u)(N:RV f s.heap i z)(e:rA i l=some b)(h:∀w k,RV f s.heap b w->Q w {s with toks:=k}):ItemOn (model I K.w) A U u z Q s:=by
 obtain⟨ta,D,rfl,O,W,x⟩:=qa.oc;refine aK e λn C e=>aK e λj E e=>?_;rw[fp C]at N;obtain⟨t',rfl⟩:=N.cG;refine aS (x6 E) λy ab=>?_;have J:=yc E<|by refine Y x.length.symm ?_;exact W
 refine aZ (pE x e) λw T aa=>?_;have ht:PyProof.Rows.IsTup s.heap ta D.toArray:=⟨_,O,rfl,_,rfl⟩;exact⟨"tuple",_,PyProof.Rows.slot_tuple_getitem.lookup,ht.typeIs,PyProof.Rows.getItem_tuple ht J.1 J.2 (by refine Y di<|Y x.length ?_;exact y) T<|h _ s.toks aa⟩
def LF(R:aV K F loc f H s)(qa:RV f s.heap (.ref r) u)(hl:H[r]? =some (.list l))(qi:RV f s.heap i z)(e:rA i l=some b)(h:∀w k,RV f s.heap b w->Q w {s with toks:=k}):ItemOn (model I K.w) A U u z Q s:=by
 obtain⟨ra,rd,rfl,er⟩:=qa.ex;obtain⟨D,ae,ea,la,x⟩:=R.isList hl er;refine aK e λn C e=>aK e λj T e=>?_;rw[fp C]at qi;obtain⟨t',rfl⟩:=qi.cG;refine aS (x6 T) λy aa=>?_;have hr:=yc T<|by refine Y x.length.symm ?_;exact la
 refine aZ (pE x e) λw ew ab=>?_;have W:s.heap.IsList ra D.toArray:=⟨_,ea,rfl,_,rfl⟩;refine⟨"list",_,slot_list_getitem.lookup,W.typeIs,?_⟩;have J:=h _ s.toks ab;have ar:=x.length;clear h R x e la;unfold seqIndex? at y;by_cases O:n<0;rw[bZ O]at y;dsimp only at y;split at y;rename_i E;have E:=cY.mp E;clear e T aa;cases y;have N:=tX E.1;exact wpAny_getItem_list_neg W O (by refine Y di<|Y ar ?_;exact Int.le_of_add_le_add_right (b:=l.length)<|Y (Int.add_left_neg _) N) hr.1 (by refine Y di<|Y ar ?_;exact ew) J;exact aW y;rw[bO O]at y;dsimp only at y;split at y;clear e T aa;cases y;exact wpAny_getItem_list W (hH.mp O) hr.2 ew J;exact aW y
def Rw(R:aV K F loc f H s)(N:RV f s.heap (.ref r) u)(J:H[r]? =some (.dict es))(e:aC ⟨x.toArray⟩ es=some b)(h:∀w k,RV f s.heap b w->Q w {s with toks:=k}):ItemOn (model I K.w) A U u (.str (tx x) y) Q s:=by obtain⟨T,rd,rfl,D⟩:=N.ex;refine aZ (R.mapOf (I:=I) J D) λz C j=>?_;have:=j<|tx x;rw[show aC (tx x) es=some b from e]at this;exact aZ this λw E O=>⟨"dict",_,slot_dict_getitem.lookup,C.typeIs,wpAny_getItem_of (PySem.strKind_is I K.w (tx x) y) C E<|h _ _ O⟩
def Tj(R:aV K F loc f H s)(C:RV f s.heap a u)(y:RV f s.heap i z)(e:q8 a i H=some b)(h:∀w k,RV f s.heap b w->Q w {s with toks:=k}):ItemOn (model I K.w) A U u z Q s:=by
 induction a using V.casesOn with
 |str x=>obtain⟨t,aE,rfl⟩:=C.dU;exact MV aE y e h
 |tup l=>exact MW C y e h
 |ref r=>
  refine aK e λo j e=>?_;induction o with
  |list l=>exact LF R C j y e h|dict es=>refine aK e λx aE e=>?_;rw[jQ aE]at y;obtain⟨D,_,rfl⟩:=y.dU;exact Rw R C j e h
  |_=>exact aW e
 |_=>exact aW e
def NT(W:bB I K d v)(E:CtxOk d c F)(R:aV K F loc f H s)(e:(bd (v.e c loc x H) λa H=>bd (v.e c loc i H) λb H=>ob (q8 a b H) λr=>rt r H)=some r):aO I K F loc (eval (.Subscript x i p) F.env) (aM aN r) (a8 r) f H s:=by exact Subscript_<|Sn.then (.refl ..) (W.e E R) e λa u ab H' J y st _ q D=>Sn.then st (W.e E y) D λb z ah aa ag C U ae O h=>aK h λb' N h=>aU (va i u z) λaf j=>u7 (Tj C (q.at ae y) O N λw k T=>bj (C.toks k) U T h) j
def hZ:jb (Option V) Value:=λf h a v=>match a with|none=>v=.none|some a=>RV f h a v
def CL(k:bB I K d v)(E:CtxOk d c F)(R:aV K F loc f H s):Sn I K F loc hZ (mz v c loc x H) (evalPart x F.env) f H s:=λr e=>by rcases x with _|x;exact aL<|bj (ρ:=hZ) (a:=none) R (.refl ..) rfl e;unfold mz at e;exact bY (Sn.then (G:=eE K F loc (aM hZ r) f H s.heap) (.refl ..) (k.e E R) e λa u ab H' J h st _ q j=>bj (ρ:=hZ) (a:=some a) h st q j) (λ_ _ x=>x) λ_ _ x=>x
theorem hZ.at{v:Value}(st:a5 K.a3 [F.L] f H s.heap ab h h')(R:aV K F loc f H s)(q:hZ f s.heap x v):hZ ab h' x v:=by rcases x with _|x;exact q;exact RV.at st R q
def w7{f:Type}{x r:f}(e:aB c (some x) none=some r):x=r:=by rcases c;exact aW e;exact aQ e
def HV(l:Option Int)(v:Value):Prop:=match l with|none=>v=.none|some i=>vd i v
def hZ.int{lo:Option V}{v:Value}(q:hZ f h lo v)(e:uH lo=some l):HV l v:=by rcases lo with _|a;cases e;exact q;refine aK e λi y e=>?_;cases e;have q:RV f h a v:=q;rw[fp y]at q;exact q.cG
def wq{x:List Nat}{lo:Nat}(aE:x.length<=lim):(fM lo y x).length<=lim:=by unfold fM;exact Y lK<|Y b9<|av (Nat.min_le_right ..)<|av (gq ..) aE
def PH{lo:Option V}(R:aV K F loc f H s)(O:RV f s.heap a u)(ql:hZ f s.heap lo l)(z:hZ f s.heap y h)(e:gN a lo y=some b)(bk:∀w J,aV K F loc f H J->a5 K.a3 [F.L] f H s.heap f H J.heap->RV f J.heap b w->Q w J):ItemOn (model I K.w) A U u (.ref s.heap.objs.size) Q {s with heap:=s.heap.push {cls:=.type "slice",data:=.fields #[l,h,.none]}}:=by
 refine aK e λx aE e=>aK e λaa hl e=>aK e λN hh e=>?_;rw[jQ aE]at O;obtain⟨t,aE,rfl⟩:=O.dU;have ql:=ql.int hl;have z:=z.int hh;clear hl hh;have kp:KeptByPush (λJ=>aV K F loc f H J/\a5 K.a3 [F.L] f H s.heap f H J.heap):=λJ ob k x=>by clear ql z aE;refine aS (x.1.keeps (h':=J.heap.push ob) k λb o e=>b0 _ e) λW st=>?_;exact⟨W,x.2.trans st λ_ m=>.inl m⟩
 have E:(tx x).length<=sizeLine:=by refine Y (cK ..) ?_;exact av aE fH
 have T:(λJ=>aV K F loc f H J/\a5 K.a3 [F.L] f H s.heap f H J.heap) s:=⟨R,.refl ..⟩;rcases aa with _|i;obtain rfl:l=.none:=ql;rcases N with _|j;exact aW e;obtain⟨C,rfl⟩:=z;obtain rfl:=w7 e;exact SBG.sliceItem_ns kp T (λJ C D=>bk _ J D.1 D.2<|by refine Y (SI ..) ?_;exact .str<|wq aE) E;obtain⟨C,rfl⟩:=ql;rcases N with _|j;obtain rfl:h=.none:=z;obtain rfl:=w7 e;exact SBG.sliceItem_sn kp T (λJ C D=>bk _ J D.1 D.2<|by refine Y (Py ..) ?_;exact .str<|wq aE) E;obtain⟨ab,rfl⟩:=z;obtain rfl:=w7 e;exact SBG.sliceItem_ss kp T (λJ C D=>bk _ J D.1 D.2<|by refine Y (PV ..) ?_;exact .str<|wq aE) E
def Hc(aa:bB I K d v)(E:CtxOk d c F){lo:Option Expr}(R:aV K F loc f H s)(e:ec T O v c loc (.Subscript x (.Slice lo y none k) p) H=some r):aO I K F loc (eval (.Subscript x (.Slice lo y none k) p) F.env) (aM aN r) (a8 r) f H s:=by exact Subscript_<|Sn.then (.refl ..) (aa.e E R) e λa u ar al ap D ag _ q ab=>wpAny_Slice<|Sn.then ag (CL aa E D) ab λl vl as am aq z ai ah ql af=>Sn.then ai (CL aa E z) af λh vh au an ak W aj N qh C=>Y (evalPart_none ..)<|aL<|aK C λb hb C=>aU (va (.Slice lo y none k) u<|.ref ak.heap.objs.size) λao j=>u7 (PH W ((q.at ah D).at N z) (hZ.at N z ql) qh hb λw J U ae qw=>bj U (aj.trans ae λ_ m=>.inl m) qw C) j
end
end
section
open Builtin Builtin.ObjectAttr
def Lc(self):∀{l},qc l=true->refuseLoop self "__setattr__" l=pure ()/\l.contains (.type "object")=true:=by
 intro l;induction l with
 |nil=>exact ff
 |cons v r f=>intro e;have e:(match lw v with|some _=>qc r|none=>yW<|v::r)=true:=e;revert e;rcases h:lw v with _|c;intro e;rcases pw.mp e with e|e;exact Y (ct.mp e) ⟨PySem.F.store_object.passes self,by decide+kernel⟩;exact Y (ct.mp e) ⟨PySem.F.store_Exception.passes self,by decide+kernel⟩;intro e;have:=f e;exact Y (pr h)<|Y (refuseLoop_ref ..) ⟨this.1,by exact Y rH<|Y this.2<|Y (pT ..) rfl⟩
structure tC(B:Frag)(E:Addr)(k:Cl):Prop where
 fz:findIn B (.ref E) "__getattribute__"=some (some (.builtin (AF k.exc)))
 aP:findIn B (.ref E) "__getattr__"=some none
 hh:hasDictIn B E=true
 aE:k.exc=true->mroIn B E (.type "BaseException")=some true
 own:∀x,dY x k.own=true->(∃attr,findIn B (.ref E) x=some attr/\noGet B attr=true)/\takerIn B E x=some none
 eC:∀x z,aC x k.eC=some z->findIn B (.ref E) x=some (some (.ref z))/\typeIn B (.ref z)=some (.type "function")/\specialIn B (.ref z) "__get__"=some (some (.builtin "function.__get__"))/\
  takesIn B (.ref z)=some false/\copiedNames.contains x=false/\findCls B (.ref E) (.type "type") x=some (.val (.ref z))
 set:findIn B (.ref E) "__setattr__"=some (some (.builtin "object.__setattr__"))
 po:xK B E=true
 reads:readsIn B E (.type "type")=true
 Ol:specialIn B (.ref E) "__getattribute__"=some (some (.builtin "type.__getattribute__"))
def eT(h:Heap):Prop:=∀b o,h.get? b=some o->o.cls≠.type "traceback"
structure TabC(K:al)(T:cx)(B:Frag):Prop where
 base:∀a o,B.lookup a=some o->K.h₀.get? a=some o/\a≠K.a3
 cls:∀E k,bi E T.cls=some k->tC B E k
 fY:eT K.h₀
 sub:∀E l,bi E T.sub=some l->mroIn B E (.type "BaseException")=some true/\typeIn B (.ref E)=some (.type "type")/\xh B E=true/\∀aa f,bi aa T.sub=some f->mroIn B E (.ref aa)=some (l.any (Nat.beq aa))
theorem bM.lookIn{P:Params}{f:a6}{h:Heap}{y:List (Str×V)}{es:List DictEntry}(q:bM P f h y es)(x:Str)(n:Nat):match aC x y with|some a=>∃v,lookIn x (dictOf es n)=some (some v)/\RV f h a v|none=>lookIn x (dictOf es n)=some none:=by
 have k:es.any (·.refKey)=false:=by
  induction q with
  |nil=>rfl|cons r rs u=>exact Y List.any_cons<|Y u rfl
 have j:=q.find x;have e1:(es.find? λe=>Value.isStrOf x e.key)=es.find? (·.key.isStr x):=by congr 1;funext e;exact(isStr_of x e.key).symm▸rfl
 rw[e1]at j;refine Y (lookIn_dict ..) ?_;unfold getL;revert j;induction hl:aC x y with
 |some a=>
  intro j;refine aZ j λv e r=>?_;revert e;induction hz:es.find? (·.key.isStr x)with
  |none=>exact aW
  |some en=>intro e;obtain rfl:=aQ e;exact a9 _ rfl r
 |none=>
  intro j;induction hz:es.find? (·.key.isStr x)with
  |none=>simp only[k];rfl
  |some en=>rw[hz]at j;exact aW<|j.symm
def Gl:builtinKind "BaseException.__getattribute__"=some .slot:=by decide+kernel
def PI:splitId "BaseException.__getattribute__"=some ("BaseException","__getattribute__"):=by decide+kernel
def SK(X:B.In s.heap)(O:InstAt s.heap x D E C)(fz:findIn B (.ref E) "__getattribute__"=some (some<|.builtin "BaseException.__getattribute__"))(aP:findIn B (.ref E) "__getattr__"=some none)(hm:mroIn B E (.type "BaseException")=some true)(j:findObj B E C name=some (.value v))(hh:handedIn v=true)(h:Q v {s with toks:=s.toks+1}):wpAny (model I w) A (getAttr (.ref x) name z) Q U s:=by obtain⟨f,g,d,t,os⟩:=s;have k:=O.type (M:=model I w);have u:=p8 (M:=model I w) X fz;have y:=p8 (M:=model I w) X aP;have J:=looks_mroIn (M:=model I w) X hm;have N:=looks_find (M:=model I w) X O j;unfold getAttr getAttrBy;refine aX<|wpAny_mkText<|c8<|aX<|k.at<|aX<|u.at ?_;dsimp only;refine Y (show(onTheHeap (Value.ref E)&&Value.builtin "BaseException.__getattribute__"==Value.builtin "object.__getattribute__")=false from by rw[show(Value.builtin "BaseException.__getattribute__"==Value.builtin "object.__getattribute__")=false from by decide+kernel,r9])<|Y (bO<|by decide) ?_;unfold getAttrByItsOwn hookBefore;refine Y (bZ<|show onTheHeap (Value.ref E)=true from rfl)<|aX<|y.at<|aX<|wpAny_attempt<|c8 ?_;unfold callGetattribute;refine Y (show(z&&onTheHeap (Value.builtin "BaseException.__getattribute__"))=false from r9 _)<|Y (bO<|by decide) ?_;unfold boundAndCalled;refine Y (PySem.F.excAttr_ValueError.ga.bind ..)<|aX<|aL ?_;show wpAny _ _ (call (.builtin "BaseException.__getattribute__") [.ref x,.str name t]) _ _ _;refine wpAny_call<|codeAny_call_builtin PySem.F.excAttr_ValueError.ga.plain PySem.F.entry_bexc_ga<|@check_slot (model I w) _ _ _ "BaseException.__getattribute__" "BaseException" "__getattribute__" (.ref x) [.str name t] [] _ Gl PI (k.andThen J) (PySem.F.args_bexc_ga (.ref x)<|.str name t) ?_;unfold Builtin.«object.__getattribute__»;refine aX<|aL<|aX<|aL<|aX<|k.at<|aX<|N.at<|aL ?_;show wpAny _ _ (handedOut v) _ _ _;exact Y (handedOut_of hh)<|aL h
section
variable{I:Program}{K:al}{d:Nat}{T:cx}{B:Frag}{O:ap}{v:dQ}{F:bI}{c:bh}{loc:Loc}{f:a6}{H:aq}{s:Shared}
theorem TabC.In(G:TabC K T B)(R:aV K F loc f H s):B.In s.heap:=λa o e=>R.base a o (G.base a o e).2 (G.base a o e).1
def RV.handed(q:RV f h a u):handedIn u=true:=by
 induction a using V.casesOn with
 |none=>exact Y q.qf rfl|bool=>exact Y q.te rfl|int=>obtain⟨_,rfl⟩:=q.cG;rfl
 |str=>obtain⟨_,_,rfl⟩:=q.dU;rfl
 |tup=>obtain⟨_,_,rfl⟩:=q.oc;rfl
 |ref=>obtain⟨_,_,rfl⟩:=q.ex;rfl
 |fn=>exact Y q.ki rfl|blt b=>refine Y q.r7 ?_;cases b<;>first|rfl|decide+kernel
 |an=>obtain⟨_,_,_,_,rfl⟩:=q.Rh;rfl
 |bX=>obtain⟨_,_,_,_,_,_,rfl⟩:=q.uP;rfl
 |bm=>obtain⟨_,_,_,rfl⟩:=q.Cg;rfl
def aV.y2(R:aV K F loc f H s){i:Nat}(e1:H[i]? =some (.inst E y))(j:f[i]? =some p):∃es n h,InstAt s.heap p.1 h E (some<|dictOf es n)/\h.dict=some p.2/\bM K.w.params f s.heap y es:=by obtain⟨es,n,D,J,N⟩:=R.rep.obj i _ _ e1 j;exact oU es n _ ⟨D,rfl,rfl,J⟩ rfl N
def aV.excAt(R:aV K F loc f H s){i:Nat}{c:Option Nat}(e1:H[i]? =some (.exc E (some j) c))(h:f[i]? =some p)(k:H[j]? =some (.dict y)):∃es n x,InstAt s.heap p.1 x E (some<|dictOf es n)/\bM K.w.params f s.heap y es:=by obtain⟨d,z,tb,C,D,⟨aa,I,J,rfl⟩,_⟩:=R.rep.obj i _ _ e1 h;obtain⟨es,n,N,u⟩:=R.rep.obj j _ _ k J;exact xX es n _ ⟨D,rfl,rfl,N⟩ u
def CO(X:B.In s.heap)(u:tC B E k)(T:InstAt s.heap x z E<|some<|dictOf es n)(q:bM K.w.params f s.heap y es)(N:aC m y=some b)(hm:dY m k.own=true)(h:∀w,RV f s.heap b w->Q w {s with toks:=s.toks+1}):wpAny (model I K.w) A (getAttr (.ref x) m j) Q U s:=by have:=q.lookIn m n;rw[N]at this;refine aZ this λw e C=>aS (u.own m hm) λO _=>aZ O λW D J=>?_;have fz:=u.fz;revert fz;rcases aE:k.exc;intro fz;exact get_value X T fz (findObj_own u.hh D J e) C.handed<|h w C;intro fz;exact SK X T fz u.aP (u.aE aE) (findObj_own u.hh D J e) C.handed<|h w C
section
variable{i:Nat}{m:Str}{u:Value}{r:R V}{E:Addr}{k:Cl}{y:List (Str×V)}
def Rb(G:TabC K T B)(R:aV K F loc f H s)(q:RV f s.heap (.ref i) u)(h:H[i]? =some (.inst E y))(aP:bi E T.cls=some k)(aE:k.exc=false)(e:ur m k i H (aC m y)=some r):aO I K F loc (getAttr u m true) (aM aN r) (a8 r) f H s:=by
 have X:=G.In R;have W:=G.cls E k aP;have fz:=W.fz;rw[aE]at fz;obtain⟨x,dx,rfl,ei⟩:=q.ex;refine d5 (R.y2 h ei) λes n ox ab ae q=>?_;revert e;rcases hb:aC m y with _|b
 .intro e;refine aK e λz j e=>wj (W.eC m z j) λD J N h4 h5 _=>?_;have hl:=q.lookIn m n;rw[hb]at hl;refine aZ (any_some W.hh) λcd O hd=>?_;have fo:findObj B E (some<|dictOf es n) m=some (.bind (.builtin "function.__get__")<|.ref z):=by
   unfold findObj;have U:PySem.W.ownOf cd (some<|dictOf es n) m=some none:=by unfold PySem.W.ownOf;exact Y (bZ hd) hl
   refine Y O<|Y (Option.bind_some ..)<|Y D<|Y (Option.bind_some ..) ?_;refine(az (λC=>Option.bind C _) N).trans ?_;refine(az (λC=>Option.bind C _) h4).trans ?_;refine(az (λC=>Option.bind C _) U).trans ?_;exact bO<|by rw[h5];exact ka
  exact get_bind X ab fz fo W.aP<|wpAny_call<|fn_get X J<|handed_on rfl<|wJ (R.toks<|s.toks+1) e λfx=>.bm ei<|dS _ rfl
 intro e;exact cH e λhm e=>CO X W ab q hb hm λw aa=>bj (R.toks _) (.refl ..) aa e
def Mo(G:TabC K T B)(R:aV K F loc f H s)(q:RV f s.heap (.ref i) u)(h:H[i]? =some (.exc E z C))(aP:bi E T.cls=some k)(e:(ob z λj=>ob (jD H[j]?) λy=>ob (aC m y) λb=>as (dY m k.own)<|rt b H)=some r):aO I K F loc (getAttr u m true) (aM aN r) (a8 r) f H s:=by obtain⟨x,W,rfl,D⟩:=q.ex;refine aK e λj hd e=>aK e λy N e=>aK e λb J e=>cH e λhm e=>?_;rw[hd]at h;exact ke (R.excAt h D<|xo N) λes n ox U q=>CO (G.In R) (G.cls E k aP) U q J hm λw O=>bj (R.toks _) (.refl ..) O e
def KY(G:TabC K T B)(R:aV K F loc f H s)(q:RV f s.heap a u)(e:mf T a m H=some r):aO I K F loc (getAttr u m true) (aM aN r) (a8 r) f H s:=by
 refine aK e λi j e=>aK e λo h e=>?_;rw[iD j]at q;induction o with
 |inst E y=>exact aK e λk aP e=>aS (r1 e) λaE e=>Rb G R q h aP aE e|exc E z x=>exact aK e λk aP e=>cH e λaE e=>Mo G R q h aP e|_=>exact aW e
end
def DD(h:oe o=true):attributeBase o m env t=t:=by
 induction o using Expr.casesOn with
 |Call z args f p=>cases z<;>first|rfl|exact ff h
 |_=>rfl
def Ii(G:TabC K T B)(y:bB I K d v)(E:CtxOk d c F)(R:aV K F loc f H s)(e:ec T O v c loc (.Attribute x m p) H=some r):aO I K F loc (eval (.Attribute x m p) F.env) (aM aN r) (a8 r) f H s:=by refine cH e λk e=>?_;unfold aO;refine Y (arm_eval_Attribute ..)<|Y (DD k)<|aX<|Sn.then (.refl ..) (y.e E R) e λa u ab H' J h st _ q j=>aX<|dL<|aX<|c8<|bY (fN st<|KY G h q j) (λw z C=>?_) λ_ _ C=>C;exact aX<|wpAny_letTemporaryGo<|aL C
end
def qT(f:a6)(h:Heap):Fl->Flow->Prop|.next,.next=>True|.brk,.brk=>True|.cont,.cont=>True|.ret a,.ret v=>RV f h a v|_,_=>False
inductive cR(K:al)(F:bI)(r:RS)(f:a6)(H:aq)(h:Heap)(j:Flow)(J:Shared):Prop|mk (z:Fl) (ag:Loc) (ab:a6) (H':aq) (e:r=.ok z ag H') (R:aV K F ag ab H' J) (st:a5 K.a3 [F.L] f H h ab H' J.heap) (q:qT ab J.heap z j)
inductive ci(K:al)(F:bI)(r:RS)(f:a6)(H:aq)(h:Heap)(e:Value)(J:Shared):Prop|mk (ag:Loc) (ab:a6) (H':aq) (i:Nat) (a d:Addr) (er:r=.exc i ag H') (R:aV K F ag ab H' J) (st:a5 K.a3 [F.L] f H h ab H' J.heap) (ei:ab[i]? =some (a,d)) (ee:e=.ref a) (ie:ha H' i)
def rp(I:Program)(K:al)(F:bI)(m:MS)(t:Sem Flow)(f:a6)(H:aq)(s:Shared):Prop:=∀r,m=some r->wpAny (model I K.w) F.A t (cR K F r f H s.heap) (ci K F r f H s.heap) s
section
variable{h N:Type}{I:Program}{K:al}{F:bI}{loc:Loc}{ρ:jb h N}{f D:a6}{H y:aq}{C:Heap}{s:Shared}
def Sn.hL(st:a5 K.a3 [F.L] D y C f H s.heap)(h:Sn I K F loc ρ m t f H s)(e:ea m loc k=some r)(g:∀a v ab H' J,aV K F loc ab H' J->a5 K.a3 [F.L] D y C ab H' J.heap->a5 K.a3 [F.L] f H s.heap ab H' J.heap->ρ ab J.heap a v->k a H'=some r->G v J):wpAny (model I K.w) F.A t G (ci K F r D y C) s:=by rcases u:m with _|q;clear h;subst u;exact aW e;rcases q with⟨a,H'⟩|⟨i,H'⟩;rw[u]at e;refine bY (h _ u) (λv J⟨ab,E,j,ae,z,q,x⟩=>?_) λev J⟨ab,E,i,z,d,j,ae,e1,N,O,x⟩=>nomatch x;refine lM q λT U=>?_;subst T U;exact g _ v _ _ J j (st.trans ae λ_ m=>.inl m) ae x e;rw[u]at e;clear g;obtain rfl:=aQ e;refine bY (h _ u) (λv J⟨ab,E,j,ae,z,q,x⟩=>nomatch q) λev J⟨ab,E,W,z,d,j,ae,e1,N,O,x⟩=>?_;cases x;exact⟨loc,ab,_,_,z,d,rfl,j,st.trans ae λ_ m=>.inl m,e1,N,O⟩
def fk(R:aV K F loc f H s)(st:a5 K.a3 [F.L] D y C f H s.heap)(x:qT f s.heap z j)(e:some (RS.ok z loc H)=some r):cR K F r D y C j s:=by obtain rfl:=aQ e;exact⟨z,loc,f,H,rfl,R,st,x⟩
def cR.from(st:a5 K.a3 [F.L] D y C ab H' h')(p:cR K F r ab H' h' j J):cR K F r D y C j J:=by obtain⟨z,l,h,f,e,R,ae,x⟩:=p;exact⟨z,l,h,f,e,R,st.trans ae λ_ m=>.inl m,x⟩
def ci.from(st:a5 K.a3 [F.L] D y C ab H' h')(p:ci K F r ab H' h' e J):ci K F r D y C e J:=by obtain⟨l,k,f,i,a,d,e1,R,ae,x1,h,j⟩:=p;exact⟨l,k,f,i,a,d,e1,R,st.trans ae λ_ m=>.inl m,x1,h,j⟩
theorem rp.from(st:a5 K.a3 [F.L] D y C f H s.heap)(h:rp I K F m t f H s)(e:m=some r):wpAny (model I K.w) F.A t (cR K F r D y C) (ci K F r D y C) s:=bY (h r e) (λ_ _ p=>p.from st) λ_ _ p=>p.from st
end
section
variable{K:al}
def a5.fx(st:a5 K.a3 [F.L] f H s.heap ab H' h')(R:aV K F loc f H s):cw s.heap h':=λa o h j=>by
 refine st.keep.plain (λm=>?_) h (j.ne "frame"<|by decide)<|j.ne "traceback"<|by decide
 rcases bC.mp m with m|m;obtain⟨N,k,_⟩:=R.lam;rw[m,k]at h;clear m;obtain rfl:=aQ h;rcases j with c|c|c|c|c<;>cases c
 rcases d2.mp m with m|m;obtain⟨o',_,k,q,_⟩:=R.loc;rw[b8.mp m,k]at h;clear m;clear m;obtain rfl:=aQ h;rcases q with q|q;exact j.ne "frame" (by decide) q;exact j.ne "dict" (by decide) q;refine aZ (R.rep.cls m) λo' k l=>?_;rw[k]at h;clear m;clear m;obtain rfl:=aQ h;exact j.led l
def aT.at(st:a5 K.a3 [F.L] f H s.heap ab H' h')(R:aV K F loc f H s)(q:aT f s.heap x v):aT ab h' x v:=by have fx:=st.fx R;refine aU st.ext λτ h=>?_;clear st;subst h;exact q.keep τ fx
end
section
variable{B:Frag}{E x:Addr}{s:Shared}
def AQ{R:Result->Shared->Prop}{ox:Obj}{od:Option Obj}{name:Str}{C:Tok}{v:Value}(X:B.In s.heap)(W:InstAt s.heap x ox E od)(k:xK B E=true)(ht:takerIn B E name=some none)(h:∀b,wpAny (model I w) A.in1 (storeInOwnDict (.ref x) (.ref E) (.str name C) name v b) (λbp J=>match bp with|.done z=>R (.ok z) J|.again u=>u.quiet=true/\codeAny (model I w) A u R J) (λe J=>R (.error e) J) s):codeAny (model I w) A (.call (.builtin "object.__setattr__") ⟨[.ref x,.str name C,v],[]⟩) R s:=by
 have y:=PySem.F.store_object;refine aZ (any_some k) λD j f=>?_;have T:=Lc (.ref x) f;have ne:D.mro.isEmpty=false:=by induction q:D.mro using List.casesOn with|nil=>rw[q]at f;simp[qc]at f|cons _ _=>rfl
 have sub:Looks (model I w) s.heap (isInstance (.ref x)<|.type "object") true:=W.type.andThen<|looks_mroIn X<|by unfold mroIn;exact Y j<|Y (Option.bind_some ..)<|Y (bO<|by rw[ne];decide)<|Y T.2 rfl
 refine codeAny_call_builtin y.slot.plain y.entry<|@check_slot (model I w) _ _ s "object.__setattr__" "object" "__setattr__" (.ref x) [.str name C,v] [] _ y.kind y.split sub (y.args (.ref x) (.str name C) v)<|aZ (Option.bind_eq_some_iff.mp ht) λN ha U=>?_;have hm:Looks (model I w) s.heap (mroOf<|.ref E) D.mro:=(looks_clsIn X j).andThen .now;have L3:Looks (model I w) s.heap (storeTaker? N) none:=by rcases N with _|a;cases U;exact .now;refine aZ (lz.mp U) λb O aa=>(looks_takesIn X O).andThen ?_;clear O;rcases b;exact .now;exact aW<|aa.symm
 exact Y (osa_eq ..)<|Y (refuse_eq ..)<|aX<|aX<|W.type.here<|aX<|hm.here<|Y T.1<|aL<|aX<|W.type.here<|aX<|(p8 X ha).here<|aX<|L3.here<|h _
def EA(X:B.In s.heap)(D:tC B E k)(ab:InstAt s.heap x O E<|some<|dictOf es n)(hd:O.dict=some J)(q:bM P f s.heap z es)(hm:dY m k.own=true)(hz:(fg es m (PyData.keyHash w.params m) (s.toks+1) u).length<=lim)(h:∀h' T,h'.get? J=some (dictOf (fg es m (PyData.keyHash w.params m) (s.toks+1) u) T)->Heap.SameBut J s.heap h'->Q () {s with heap:=h',toks:=s.toks+2}):wpAny (model I w) A (setAttr (.ref x) m u) Q U s:=by refine set_plain X ab D.set<|AQ X ab D.po (D.own m hm).2 λb=>?_;have X':B.In ({s with toks:=s.toks+1}:Shared).heap:=X;refine aZ (any_some D.hh) λcd j ae=>?_;obtain⟨aE,aa,C,N⟩:=ab;obtain⟨oc,ag,af,ah⟩:=O;dsimp only at aa hd N;subst aa hd;dsimp only at N;refine aX<|aL<|aX<|aX<|wpAny_loadPart aE<|aX<|(looks_clsIn X' j).here<|Y ae<|aL<|aX<|aL<|aX<|rJ N rfl (λe he=>?_) λh' T W sb=>?_;exact bV (q.keys.all e he) λy t e1 _=>⟨y,t,e1⟩;refine aX<|wpAny_lookBehind W (pastItsLine_dict ?_) ?_;exact Y di<|iQ<|av hz fH;exact aL<|h h' T W sb
end
section
variable{K:al}
def JG(G:TabC K T B)(R:aV K F loc f H s)(e1:H[i]? =some (.inst E z))(j:f[i]? =some p)(aP:bi E T.cls=some k)(hm:dY m k.own=true)(hl:(put m a z).length<=lim)(q:RV f s.heap a u)(h:∀J,aV K F loc f (H.set i<|.inst E<|put m a z) J->a5 K.a3 [F.L] f H s.heap f (H.set i<|.inst E<|put m a z) J.heap->Q () J):wpAny (model I K.w) A (setAttr (.ref p.1) m u) Q U s:=by
 obtain⟨es,n,y,N,O⟩:=R.rep.obj i _ _ e1 j;have aa:InstAt s.heap p.1 (instObj E p.2) E (some<|dictOf es n):=⟨y,rfl,rfl,N⟩;have he:=O.fg (t:=s.toks+1) q (x:=m);refine EA (G.In R) (G.cls E k aP) aa rfl O hm (by refine Y he.length ?_;exact hl) λh' n' eh D=>?_;have ne:p.1≠p.2:=λC=>by rw[C,N]at y;cases y
 obtain⟨W,st⟩:=R.set (h':=h') (s.toks+2) (o:=.inst E z) (o':=.inst E<|put m a z) e1 j rfl
  (λb ob nb eb=>by refine Y (D.2 b λC=>nb<|by rw[C];exact .tail _<|.head _) ?_;exact eb)
  (λfx=>⟨_,n',by refine Y (D.2 p.1 ne) ?_;exact y,eh,he.fx fx⟩)
 exact h _ W st
def NW{i:Nat}(G:TabC K T B)(R:aV K F loc f H s)(e1:H[i]? =some (.exc E (some j) ab))(e2:f[i]? =some p)(D:H[j]? =some (.dict z))(aP:bi E T.cls=some k)(hm:dY m k.own=true)(hl:(put m a z).length<=lim)(q:RV f s.heap a u)(h:∀J,aV K F loc f (H.set j<|.dict<|put m a z) J->a5 K.a3 [F.L] f H s.heap f (H.set j<|.dict<|put m a z) J.heap->Q () J):wpAny (model I K.w) A (setAttr (.ref p.1) m u) Q U s:=by
 obtain⟨d,a0,tb,cx,y,⟨aa,e',N,rfl⟩,_⟩:=R.rep.obj i _ _ e1 e2;obtain⟨es,n,O,W⟩:=R.rep.obj j _ _ D N;have ae:InstAt s.heap p.1 (ek E (some aa) a0 tb cx) E (some<|dictOf es n):=⟨y,rfl,rfl,O⟩;have he:=W.fg (t:=s.toks+1) q (x:=m);refine EA (G.In R) (G.cls E k aP) ae rfl W hm (by refine Y he.length ?_;exact hl) λh' n' eh sb=>?_;obtain⟨R',st⟩:=R.set (h':=h') (s.toks+2) (o:=.dict z) (o':=.dict<|put m a z) D N rfl
  (λb ob nb eb=>by refine Y (sb.2 b λC=>nb<|by rw[C];exact .head _) ?_;exact eb)
  (λfx=>⟨_,n',eh,he.fx fx⟩)
 exact h _ R' st
def R6(G:TabC K T B)(R:aV K F loc f H s)(e1:H[i]? =some (.exc E none z))(e2:f[i]? =some p)(aP:bi E T.cls=some k)(hm:dY m k.own=true)(q:RV f s.heap a u)(h:∀τ J,aV K F loc (f++τ) (H.set i (.exc E (some H.length) z)++[.dict [(m,a)]]) J->a5 K.a3 [F.L] f H s.heap (f++τ) (H.set i (.exc E (some H.length) z)++[.dict [(m,a)]]) J.heap->Q () J):wpAny (model I K.w) A (setAttr (.ref p.1) m u) Q U s:=by
 obtain⟨d,a0,tb,cx,y,N,O,h4⟩:=R.rep.obj i _ _ e1 e2;have N:d=none:=N;subst N;have X:=G.In R;have x:=G.cls E k aP;have ap:InstAt s.heap p.1 (ek E none a0 tb cx) E none:=⟨y,rfl,rfl,trivial⟩;refine set_plain X ap x.set<|AQ (s:={s with toks:=s.toks+1}) X ap x.po (x.own m hm).2 λb=>?_;have X':B.In ({s with toks:=s.toks+1}:Shared).heap:=X;refine aZ (any_some x.hh) λcd j an=>aX<|aL<|aX<|aX<|wpAny_loadPart y<|aX<|(looks_clsIn X' j).here<|Y an ?_;have kp:∀b ob,s.heap.get? b=some ob->(s.heap.push {cls:=.type "dict",data:=.dict #[]}).get? b=some ob:=λb ob e=>b0 _ e;have W:s.heap.get? s.heap.objs.size=none:=ei _;obtain⟨ae,ai⟩:=R.add (o:=.dict []) (p:=(s.heap.objs.size,0)) (h':=s.heap.push {cls:=.type "dict",data:=.dict #[]}) (s.toks+1) kp
  (λa m=>by refine Y (b8.mp m) ?_;exact⟨W,R.h6 W⟩) (ee.mpr ⟨by simp,kO⟩) (λfx=>⟨[],0,dS _ rfl,.nil⟩)
 show wpAny _ _ (alloc {cls:=.type "dict",data:=.dict #[]}>>=_) _ _ _;refine aX<|q0<|aX<|wpAny_update (kp _ _ y) ?_;have ah:=(b4.mp e1).1;have ak:(H++[au.dict []])[i]? =some (.exc E none z):=by refine Y (dO ah) ?_;exact e1
 have al:(f++[(s.heap.objs.size,0)])[i]? =some p:=fT _ e2;have hD:(f++[(s.heap.objs.size,0)])[H.length]? =some (s.heap.objs.size,0):=by refine Y R.rep.len.symm<|Y (dp<|ba _)<|Y (ew ..) ?_;rfl
 have up:((s.heap.push {cls:=.type "dict",data:=.dict #[]}).update p.1 λo=>{o with dict:=some s.heap.objs.size}).get? p.1=some (ek E (some s.heap.objs.size) a0 tb cx):=by exact Y (jc _ (kp _ _ y) rfl) rfl
 obtain⟨af,ab⟩:=ae.set (h':=(s.heap.push {cls:=.type "dict",data:=.dict #[]}).update p.1 λo=>{o with dict:=some s.heap.objs.size}) (s.toks+1) (o:=.exc E none z) (o':=.exc E (some H.length) z) ak al rfl
  (λb ob nb eb=>((j5 _ _ _).2 b λC=>nb<|by refine Y C ?_;exact .head _).trans eb)
  (λfx=>⟨_,a0,tb,cx,up,⟨_,_,hD,rfl⟩,by rcases O with O|⟨t,D,z1,z2,z3⟩;exact .inl O;exact .inr ⟨t,D,z1,((j5 _ _ _).2 t λC=>by rw[C,y]at z2;cases z2).trans<|kp _ _ z2,z3⟩,h4.more _⟩)
 have pD:s.heap.objs.size≠p.1:=λC=>by rw[<-C,W]at y;exact aW y
 have Dat:((s.heap.push {cls:=.type "dict",data:=.dict #[]}).update p.1 λo=>{o with dict:=some s.heap.objs.size}).get? s.heap.objs.size=some (dictOf [] 0):=((j5 _ _ _).2 _ pD).trans (dS _ rfl);have aa:=((q.at ai R).at ab ae);generalize aq:((s.heap.push {cls:=.type "dict",data:=.dict #[]}).update p.1 λo=>{o with dict:=some s.heap.objs.size})=ao at af ab up Dat aa⊢;refine aL (a:=some s.heap.objs.size)<|aX<|aL<|aX<|rJ (s:={s with heap:=ao,toks:=s.toks+1}) Dat rfl (λe he=>by cases he) λh' n' e' sb=>aX<|wpAny_lookBehind e' (pastItsLine_dict ?_) ?_;exact iQ<|show 1<=sizeLine by decide
 refine aL ?_;have am:((H++[au.dict []]).set i<|.exc E (some H.length) z)[H.length]? =some (.dict []):=by refine Y (o0<|kq (b4.mp e1).1)<|Y (dp<|ba _)<|Y (ew ..) ?_;rfl
 obtain⟨ag,aj⟩:=af.set (h':=h') (s.toks+2) (o:=.dict []) (o':=.dict [(m,a)]) am hD rfl
  (λb ob nb eb=>(sb.2 b λC=>nb<|by refine Y C ?_;exact .head _).trans eb)
  (λfx=>⟨_,n',e',(bM.cons aa .nil).fx fx⟩)
 have eq:((H++[au.dict []]).set i<|.exc E (some H.length) z).set H.length (.dict [(m,a)])=H.set i (.exc E (some H.length) z)++[.dict [(m,a)]]:=by refine Y (List.set_append_left _ _ ah)<|Y (qh _ _<|by rw[er];exact ba _)<|Y er<|Y (ew ..) ?_;rfl
 rw[eq]at ag aj;exact h _ _ ag<|(ai.trans ab λ_ m=>.inl m).trans aj λ_ m=>.inl m
end
end
section
open Builtin
def v7{h:Heap}(z)(j:h.get? a=some (eA D n)):∃f,(h.update a<|Obj.mapSeq z).get? a=some (eA (z D.toArray).toList f):=by
 refine aU (Obj.data_mapSeq (o:=eA D n) rfl z) λf hd=>⟨f,?_⟩;refine Y (jc _ j<|Obj.isFreed_of_seq hd) ?_;have:Obj.mapSeq z (eA D n)={cls:=.type "list",data:=(Obj.mapSeq z<|eA D n).data}:=by unfold Obj.mapSeq eA;rfl
 exact Y this<|Y hd rfl
def TV(j:s.heap.get? l=some (eA D n))(aP:k<D.length)(u:i=(k:Int))(f:Builtin.List.listFitsIndex i=true)(z:∀h' x,h'.get? l=some (eA (D.set k v) x)->Heap.SameBut l s.heap h'->Q () {s with heap:=h'}):wpAny (model I w) A (setItem (.ref l) (.int i t) v) Q U s:=by
 have h:s.TypeIs (.ref l) "list":=⟨_,j,rfl⟩;unfold setItem;refine c8<|aX<|wpAny_sequenceKey h (by decide) ?_;refine aX (wpAny_callSpecial?_slot h slot_list_setitem
  (wpAny_call_entry slot_list_setitem h entry_list_setitem ?_<|args_list_setitem _ _ _))
 show wpAny _ _ (Builtin.List.listSubscript? (.int i t)>>=_) _ _ s;refine aX<|wpAny_listSubscript_int f ?_;clear f;subst u;have C:D.toArray[k]? =some D[k]:=by refine Y sH ?_;exact dx aP
 show wpAny _ _ ((seqItemAt l k>>=λr=>pure<|r.map (k,·))>>=_) _ _ s;refine aX<|aX<|wpAny_seqItemAt j rfl<|aL<|Y C ?_;show wpAny _ _ (setSeqItemAt l k v>>=_) _ _ s;refine aU (v7 (·.setIfInBounds k v) j) λx y=>?_;have bk:=z _ x (by refine Y y ?_;simp)<|j5 ..;exact aX<|wpAny_setSeqItemAt j rfl<|aL ⟨.none,rfl,aL bk⟩
def Sk(j:s.heap.get? l=some (eA D n))(aP:k<D.length)(h:(k:Int)<2^63)(f:∀h' u,h'.get? l=some (eA (D.set k v) u)->Heap.SameBut l s.heap h'->Q () {s with heap:=h'}):wpAny (model I w) A (setItem (.ref l) (.int (.ofNat k) t) v) Q U s:=TV j aP rfl (fitsIndex_of (gt k) h) f
def Az(j:s.heap.get? l=some (eA D n))(y:D.length<=lim)(u:∀h' f,h'.get? l=some (eA (D++[x]) f)->Heap.SameBut l s.heap h'->Q .none {s with heap:=h'}):wpAny (model I w) A (call (.builtin "list.append") [.ref l,x]) Q U s:=by
 refine wpAny_call_entry slot_list_append ⟨_,j,rfl⟩ entry_list_append ?_<|args_list_append _ _;show wpAny _ _ (updateSeq l (·.push x)>>=λ_=>ret .none) _ _ s;refine aU (v7 (·.push x) j) λf k=>?_;have:=u _ f (by refine Y k ?_;simp)<|j5 ..;have h:D.toArray.size<=sizeLine:=by refine Y di ?_;exact av y fH
 refine aX<|wpAny_updateSeq j rfl (hz:=h) (_hz':=by simpa using h)<|aL ⟨.none,rfl,this⟩
def NO(j:P=w.params)(q:bM P f h k es):KeysOf (PySem.strKind I w) es.toArray:=λe he=>by subst j;exact bV (q.keys.all e<|by simpa using he) λx t u k2=>a9 x (by refine Y u ?_;exact strKind_is I w x t) k2
def Kd(es:List DictEntry)(x):es.toArray.findIdx? (λe=>(PySem.strKind I w).is x e.key)=es.findIdx? (λe=>e.key.isStr x):=by refine Y (uB ..) ?_;congr 1;funext e;exact(isStr_of x e.key).symm▸rfl
def LA(j:s.heap.get? d=some (dictOf es n))(q:bM w.params f s.heap k es)(hz:es.length<=lim)(h:∀h' C,h'.get? d=some (dictOf (fg es x (PyData.keyHash w.params x) t v) C)->Heap.SameBut d s.heap h'->Q () {s with heap:=h',toks:=s.toks+1}):wpAny (model I w) A (dictSet d (.str x t) v) Q U s:=by
 have aP:=NO (I:=I) rfl q;have y:=strKind_is I w x t;have z:es.toArray.size<=sizeLine:=by refine Y di ?_;exact av hz fH
 unfold dictSet;refine c8<|aX<|(PySem.strKind I w).pyHash y ?_;unfold dictSetHashed;refine c8<|aX<|wpAny_dictFind_of (s:={s with toks:=s.toks+1}) y j rfl aP<|Y (Kd ..) ?_;induction u:es.findIdx? (λe=>e.key.isStr x)with
 |some i=>refine aX<|wpAny_rule<|aX<|wpAny_updateDict (s:={s with toks:=s.toks+1}) j rfl<|wpAny_point<|h _ n ?_<|j5 ..;unfold fg;refine Y u ?_;have:=jc (h:=s.heap) (Obj.mapDict (·.modify i λe=>{e with val:=v})) j rfl;refine Y this ?_;exact az (λa=>some<|Obj.mapDict (λ_=>a)<|dictOf es n)<|List.modify_toArray ..
 |none=>refine aX<|wpAny_rule<|wpAny_updateDictKeys (hz:=z) (s:={s with toks:=s.toks+1}) j rfl<|h _ (n+1) ?_<|j5 ..;unfold fg;refine Y u ?_;have:=jc (h:=s.heap) (Obj.mapDictKeys (·.push ⟨PyData.keyHash w.params x,.str x t,v⟩)) j rfl;exact this.trans<|az (λa=>some<|Obj.mapDictKeys (λ_=>a)<|dictOf es n)<|List.push_toArray ..
section
variable{K:al}
def L7(R:aV K F loc f H s)(e1:H[i]? =some (.dict k))(D:f[i]? =some p)(hl:k.length<=lim)(q:RV f s.heap a u)(h:∀J,aV K F loc f (H.set i<|.dict<|put x a k) J->a5 K.a3 [F.L] f H s.heap f (H.set i<|.dict<|put x a k) J.heap->Q () J):wpAny (model I K.w) A (setItem (.ref p.1) (.str x t) u) Q U s:=by
 obtain⟨es,n,y,j⟩:=R.rep.obj i _ _ e1 D;have z:s.TypeIs (.ref p.1) "dict":=⟨_,y,rfl⟩;unfold setItem;refine c8<|aX<|wpAny_sequenceKey z (by decide) ?_;refine aX (wpAny_callSpecial?_slot z slot_dict_setitem
  (wpAny_call_entry slot_dict_setitem z entry_dict_setitem ?_<|args_dict_setitem _ _ _))
 show wpAny _ _ (Builtin.Dict.notOrdered "__setitem__" ⟨[.ref p.1,.str x t,u],[]⟩>>=_) _ _ s;refine aX<|wpAny_notOrdered_dict z ?_;show wpAny _ _ (dictSet p.1 (.str x t) u>>=_) _ _ s;refine aX<|LA y j (by refine Y j.length ?_;exact hl) λh' T O sb=>aL ⟨.none,rfl,aL ?_⟩;obtain⟨E,st⟩:=R.set (s.toks+1) (o':=.dict<|put x a k) e1 D rfl
  (λb ob W N=>by refine Y (sb.2 b λC=>W<|by rw[C];exact .head _) ?_;exact N)
  (λfx=>⟨_,T,O,(j.fg q (x:=x) (t:=t)).fx fx⟩)
 exact h _ E st
def Kr(R:aV K F loc f H s)(e1:H[i]? =some (.list l))(z:f[i]? =some p)(aP:k<l.length)(q:RV f s.heap a u)(h:∀J,aV K F loc f (H.set i<|.list<|l.set k a) J->a5 K.a3 [F.L] f H s.heap f (H.set i<|.list<|l.set k a) J.heap->Q () J):wpAny (model I K.w) A (setItem (.ref p.1) (.int (.ofNat k) t) u) Q U s:=by
 obtain⟨D,n,y,x,j⟩:=R.rep.obj i _ _ e1 z;have hl:=j.length;refine Sk y (a7 aP (a4 hl.symm)<|by simp+arith) (nH (hQ.mpr<|cu aP<|Y hl.symm x)<|by decide) λh' T O sb=>?_;obtain⟨E,st⟩:=R.set s.toks (o':=.list<|l.set k a) e1 z rfl
  (λb ob W N=>by refine Y (sb.2 b λC=>W<|by rw[C];exact .head _) ?_;exact N)
  (λfx=>⟨D.set k u,T,O,by refine Y er ?_;exact x,(aT.set q j).fx fx⟩)
 exact h _ E st
def O0(E:CtxOk d c F)(N):∀{l D loc H s},aV K F loc f H s->aT f s.heap l D->a5 K.a3 [F.L] C j k f H s.heap->mI c N l loc H=some r->wpAny (model I K.w) F.A (assignInOrder ((assignEach N F.env).map (·.2)) D) (λ_ J=>cR K F r C j k .next J) U s:=by
 induction N with
 |nil=>
  intro l D loc H s R q st e;rcases l
  .exact Y q.i0<|aL<|fk (z:=.next) R st trivial e
  exact aW e
 |cons t N T=>intro l D loc H s R q st e;rcases l with _|⟨a,l⟩;exact aW e;obtain⟨u,us,rfl,W,y⟩:=q.eO;refine dh e λx aE e=>aU (p3 aE) λp aa=>?_;clear aE;subst aa;refine bV (wZ e) λag H' h e=>?_;show wpAny (model I K.w) F.A (do holding _ (assign (.Name x p) F.env _);assignInOrder ((assignEach N F.env).map (·.2)) _) _ U s;exact aX<|c8<|Y (arm_assign_Name ..)<|aX<|dL<|qE<|my E R W h λJ O ae=>T O (y.at ae R) (st.trans ae λ_ m=>.inl m) e
end
def BP(e:f9 c x a loc H=some r):∃ag H',r=.ok .next ag H':=by rcases CR e with⟨_,e⟩|⟨_,_,_,_,_,e⟩;exact mC _ _ e;exact mC _ _ e
section
variable{K:al}{F:bI}
def Fg(hh:A.handled=none)(R:aV K F loc f H s)(q:RV f s.heap (.tup l) u)(x:n=l.length)(h:∀D J,aV K F loc f H J->a5 K.a3 [F.L] f H s.heap f H J.heap->aT f J.heap l D->Q D J):wpAny (model I K.w) A (unpackItems u n none) Q U s:=by obtain⟨a,D,rfl,z,E,j⟩:=q.oc;obtain rfl:n=D.toArray.size:=Y x<|Y di<|Y j.length rfl;refine unpackItems_tuple hh (show IsTup s.heap a D.toArray from⟨_,z,rfl,_,rfl⟩) λh' he=>?_;have k:=λb o e=>he b o (λC=>by rw[C,ei]at e;exact aW e) e;exact aS (R.keeps s.toks k) λy st=>Y List.toList_toArray<|h D _ y st<|j.fx λa o e _=>k a o e
theorem eK.none(x:eK f hd A)(e:hd=none):A=none:=by subst e;exact x
def Qy:∀{l loc H r},mI c j l loc H=some r->(assignEach j F.env).length=l.length/\(assignEach j F.env).findIdx? (·.1)=none:=by
 induction j with
 |nil=>intro l loc H r e;rcases l;exact⟨rfl,rfl⟩;exact aW e
 |cons t j k=>intro l loc H r e;rcases l with _|⟨a,l⟩;exact aW e;refine dh e λx aE e=>aU (p3 aE) λp u=>?_;clear aE;subst u;refine bV (wZ e) λag H' _ e=>aS (k e) λf h=>⟨az Nat.succ f,?_⟩;show((false,assign (.Name x p) F.env)::assignEach j F.env).findIdx? _=none;refine Y List.findIdx?_cons<|Y h ?_;rfl
def K2(E:CtxOk d c F)(R:aV K F loc f H s)(q:RV f s.heap (.tup l) u)(st:a5 K.a3 [F.L] aa N O f H s.heap)(hd:c.hd=none)(e:mI c h l loc H=some r):wpAny (model I K.w) F.A (assign (.Tuple h k p) F.env u) (λ_ J=>cR K F r aa N O .next J) (ci K F r aa N O) s:=by have hh:=R.hand.none<|E.hd.symm.trans hd;refine aS (Qy (F:=F) e) λy z=>Y (arm_assign_Tuple ..)<|aX<|dL ?_;unfold unpack;exact Y z<|aX<|c8<|Fg hh R q y λD J x ae j=>O0 E h x j (st.trans ae λ_ m=>.inl m) e
def Ju(G:TabC K T B)(R:aV K F loc f H s)(qb:RV f s.heap (.ref i) w)(q:RV f s.heap a u)(st:a5 K.a3 [F.L] aa N O f H s.heap)(h:H[i]? =some o)(e:i7 T m a loc i H o=some r):wpAny (model I K.w) A (setAttr w m u) (λ_ J=>cR K F r aa N O .next J) U s:=by
 obtain⟨xa,xd,rfl,W⟩:=qb.ex;induction o with
 |inst C' x=>refine dh e λk aP e=>is e λC e=>?_;have C:=cY.mp C;exact JG G R h W aP C.1 (hP C.2) q λab D E=>fk (z:=.next) D (st.trans E λ_ m=>.inl m) trivial e
 |exc C' dj ae=>
  refine dh e λk aP e=>is e λC e=>?_;have C:=cY.mp C;rcases dj with _|j
  .exact R6 G R h W aP C.2 q λτ ab D E=>fk (z:=.next) D (st.trans E λ_ m=>.inl m) trivial e
  .exact dh e λx hj e=>is e λy e=>NW G R h W (xo hj) aP C.2 (hP y) q λab D E=>fk (z:=.next) D (st.trans E λ_ m=>.inl m) trivial e
 |_=>exact aW e
def PJ(R:aV K F loc f H s)(qb:RV f s.heap (.ref i) w)(C:RV f s.heap j x)(q:RV f s.heap a u)(st:a5 K.a3 [F.L] aa N O f H s.heap)(h:H[i]? =some o)(e:E6 j a loc i H o=some r):wpAny (model I K.w) A (setItem w x u) (λ_ J=>cR K F r aa N O .next J) U s:=by
 obtain⟨xa,xd,rfl,W⟩:=qb.ex;induction o with
 |list l=>refine dh e λk aP e=>is e λE e=>?_;rw[E3 aP]at C;obtain⟨t,rfl⟩:=C.cG;exact Kr R h W (jt.mp E) q λab D T=>fk (z:=.next) D (st.trans T λ_ m=>.inl m) trivial e
 |dict es=>refine dh e λy hy e=>is e λE e=>?_;rw[jQ hy]at C;obtain⟨t,_,rfl⟩:=C.dU;exact L7 R h W (mB<|hP E) q λab D T=>fk (z:=.next) D (st.trans T λ_ m=>.inl m) trivial e
 |_=>exact aW e
def CG(G:TabC K T B)(aj:bB I K d v)(E:CtxOk d c F)(R:aV K F loc f H s)(q:RV f s.heap a u)(st:a5 K.a3 [F.L] aa N O f H s.heap)(e:i' T v c t a loc H=some r):wpAny (model I K.w) F.A (assign t F.env u) (λ_ J=>cR K F r aa N O .next J) (ci K F r aa N O) s:=by
 induction t using Expr.casesOn with
 |Name x p=>refine hv (BP e) λag H' al=>?_;subst al;exact Y (arm_assign_Name ..)<|aX<|dL<|qE<|my E R q e λJ D ae=>fk (z:=.next) D (st.trans ae λ_ m=>.inl m) trivial rfl
 |Tuple ts k p=>refine dh e λl hl e=>?_;rw[qL hl]at q;revert e;rcases hd:c.hd;intro e;exact K2 E R q st hd e;exact aW
 |Attribute x m p=>refine Y (arm_assign_Attribute ..)<|aX<|c8<|Sn.hL st (aj.e E R) e λb w ab H' J D af ae q' U=>dh U λi h U=>dh U λo y U=>?_;rw[iD h]at q';exact aX<|dL<|aX<|c8<|bY (Ju G D q' (q.at ae R) af y U) (λ_ _ C=>wpAny_release C) λ_ _ C=>C
 |Subscript x i p=>refine Y (arm_assign_Subscript ..)<|aX<|c8<|Sn.hL st (aj.e E R) e λb w ab H' J D af ae q' U=>aX<|c8<|Sn.hL af (aj.e E D) U λj w' ao am an ai ak ah qj W=>dh W λi h W=>dh W λo y W=>?_;rw[iD h]at q';exact aX<|dL<|aX<|c8<|bY (PJ ai (q'.at ah D) qj ((q.at ae R).at ah D) ak y W) (λ_ _ C=>wpAny_release C) λ_ _ C=>C
 |_=>exact aW e
end
def FP(e:(!sq x jv)=true):constantsAlone n (.Name x p)=false:=by
 have:sq x jv=false:=by induction h:sq x jv with|true=>rw[h]at e;exact ff e|false=>rfl
 cases n<;>(show(x==("__debug__":Str))=false;refine Y Ex ?_;exact wb this)
def Dv(e:sL x=true):constantsAlone n x=false:=by
 induction x using Expr.casesOn with
 |Name x p=>exact FP e|Call|List|Attribute|IfExp|Compare=>cases n<;>rfl
 |_=>exact ff e
def GB(e:oS x=some q)(n):constantsAlone (n+1) x=(constantsAlone n q.1&&constantsAlone n q.2):=by cases x<;>first|(cases e;rfl)|exact aW e
def GG:∀{n x},jE n x=true->constantsAlone n x=false:=by
 intro n;induction n with
 |zero=>exact Dv
 |succ n f=>
  intro x e;have e:(match oS x with|some p=>(match jE n p.1 with|true=>true|false=>jE n p.2)|none=>sL x)=true:=e
  revert e;rcases h:oS x with _|q;intro e;exact Dv e;intro e;refine Y (GB h ..) ?_;have e:(match jE n q.1 with|true=>true|false=>jE n q.2)=true:=e;rcases h:jE n q.1;rw[h]at e;exact Y (f e)<|Y (r9 ..) rfl;exact Y (f h) rfl
def PW:∀{l},oY l=true->l.all (constantsAlone 8)=false:=by
 intro l;induction l with
 |nil=>exact ff
 |cons x l f=>intro e;unfold oY at e;refine Y List.all_cons ?_;rcases h:jE 8 x;rw[h]at e;exact Y (f e)<|Y (r9 ..) rfl;exact Y (GG h) rfl
def N6(e:tT x=true):foldedForSure n x=true:=by
 induction x using Expr.casesOn with
 |Constant=>cases n<;>rfl
 |_=>exact ff e
def G1:∀{l},pA l=true->l.all (foldedForSure 8)=true:=by
 intro l;induction l with
 |nil=>exact λ_=>rfl|cons x l f=>intro e;have e:(match tT x with|true=>pA l|false=>false)=true:=e;refine Y List.all_cons ?_;revert e;rcases h:tT x;intro e;exact ff e;intro e;exact Y (N6 h)<|Y (f e) rfl
def Lr{z:Expr->Option Str}{f:List Expr}(e:(f.filterMap z).length=f.length):f.map z=(f.filterMap z).map some:=by
 induction f with
 |nil=>rfl
 |cons t f j=>
  rcases h:z t with _|n;rw[List.filterMap_cons_none h,cB]at e;exact absurd (List.length_filterMap_le z f)<|by rw[e];exact Nat.not_succ_le_self _
  rw[List.filterMap_cons_some h]at e⊢;exact Y hI<|Y h<|az _<|j<|hE e
def Ff(e:mT x=some es):∃k p,x=.Tuple es k p:=by cases x<;>first|(cases e;exact⟨_,_,rfl⟩)|exact aW e
def lB(env:Env)(t:Expr)(m:Sem<|Option<|List Str):Prop:=m=pure none\/
  ∃(h:List Expr)(k:Nat)(p:Pos)(f:List Str),t=Expr.Tuple h k p/\m=pure (some f)/\(f.length=2\/f.length=3)/\f.eraseDups.length=f.length/\(∀x∈f,env.kindOf x=some .local)/\h.length=f.length/\
   ∀(i:Nat)(x:Str),f[i]? =some x->∃p:Pos,h[i]? =some (Expr.Name x p)
def lB.dK [Decidable c](h:¬c->lB env t m):lB env t (if c then pure none else m):=by by_cases C:c;exact .inl<|bZ C;exact Y (bO C)<|h C
abbrev A9(env:Env)(t e:Expr):Prop:=lB env t<|swappedStores [t] e env
def yu(e:(!b)=false):b=true:=by rcases b;exact ff e.symm;rfl
def CU{b:Nat}(e:(a !=b)=false):a=b:=kx<|yu e
set_option backward.match.sparseCases true in
def yx{env:Env}{l:Nat}{y:Expr}{x:Str}(h:(match y with|.Name u pos=>if env.kindOf u==some .local&&pos.line==l then some u else none|_=>none)=some x):env.kindOf x=some .local/\∃p,y=.Name x p:=by
 induction y using Expr.casesOn with
 |Name u p=>have h:(if env.kindOf u==some .local&&p.line==l then some u else none)=some x:=h;rcases q:env.kindOf u==some .local&&p.line==l;rw[q]at h;exact aW h;rw[q]at h;obtain rfl:=aQ h;exact⟨ct.mp (cY.mp q).1,p,rfl⟩
 |_=>exact aW h
def Oj(h:og (.Tuple z k p) (.Tuple D E I)=true):A9 env (.Tuple z k p) (.Tuple D E I):=by
 have f:D.all (foldedForSure 8)=true\/D.all (constantsAlone 8)=false:=by have h:(match oY D with|true=>true|false=>pA D)=true:=h;rcases C:oY D;rw[C]at h;exact .inl<|G1 h;exact .inr<|PW C
 clear h;refine lB.dK λj=>lB.dK λ_=>lB.dK λu=>lB.dK λT=>?_;rcases f with f|f;exact absurd f T;refine Y (bO<|by rw[f];decide) ?_;have O:=yu (ux.mp (ux.mp<|Bool.eq_false_iff.mpr j).1).1;have u:=ux.mp<|Bool.eq_false_iff.mpr u;have J:=CU u.1;refine .inr ⟨z,k,p,_,rfl,rfl,?_,CU u.2,?_,J.symm,?_⟩;exact Y J<|(pw.mp O).imp kx kx;intro x m;exact aZ (List.mem_filterMap.mp m) λy _ N=>(yx N).1;intro i x aE;have:=List.getElem?_map.symm.trans<|(az (λl=>l[i]?)<|Lr J).trans<|List.getElem?_map.trans<|az (Option.map some) aE;exact aZ (lz.mp this) λy N e=>aU (yx e).2 λq e=>⟨q,e▸N⟩
def EJ(h:mT t=none\/mT e=none)(hl:∀f p,t≠Expr.List f p):swappedStores [t] e env=pure none:=by
 induction t using Expr.casesOn with
 |Tuple f k p=>
  induction e using Expr.casesOn with
  |Tuple=>exact h.elim (λC=>nomatch C) λC=>nomatch C|_=>rfl
 |List f p=>exact absurd rfl<|hl f p
 |_=>rfl
def LY(h:og t e=true)(hl:∀f p,t≠Expr.List f p):A9 env t e:=by rcases ht:mT t with _|f;exact .inl<|EJ (.inl ht) hl;rcases he:mT e with _|D;exact .inl<|EJ (.inr he) hl;clear hl;refine hv (Ff ht) λk p j=>?_;clear ht;subst j;refine hv (Ff he) λx y u=>?_;clear he;subst u;exact Oj h
section
variable{K:al}{d:Nat}{F:bI}{c:bh}{loc:Loc}{H:aq}
def aV.locs{ag:Loc}(R:aV K F loc f H s)(h:∀x,aC x loc=aC x ag):aV K F ag f H s:=by obtain⟨o,m,e,q,n,l⟩:=R.loc;refine⟨R.base,R.lam,R.tab,R.mods,R.rep,R.gens,R.os,R.stack,R.locals,R.kind,R.glob,R.blt,R.new,R.apart,⟨o,m,e,q,n,λx aE a k=>?_,λx i aE j=>?_⟩,R.out,R.hand⟩;rw[<-h x]at k;exact l.own x aE a k;rw[<-h x]at j;exact l.gT x i aE j
def xz(E:CtxOk d c F)(aP:F.env.kindOf x=some .local)(loc)(H):f9 c x a loc H=some (.ok .next (put x a loc) H):=by
 rw[kG]at aP;have f:=(E.sc x).elim (λe=>e.symm.trans aP) λe=>absurd (aP.symm.trans e.2)<|by decide
 show cJ (aC x c.sc) _=_;exact Y f rfl
def Oo(l:List Str):l.eraseDups.length<=l.length:=by
 induction h:l.length using Nat.strongRecOn generalizing l with
 |_ n f=>rcases l with _|⟨a,l⟩;exact bJ _;refine Y List.eraseDups_cons (Y cB ?_);have j:(l.filter λb=>!b==a).length<=l.length:=List.length_filter_le ..;rw[cB]at h;subst h;exact fv<|av (f _ (Nat.lt_succ_of_le j) _ rfl) j
def Gc:∀{l:List Str},l.eraseDups.length=l.length->l.Nodup:=by
 intro l;induction l with
 |nil=>exact λ_=>.nil
 |cons a l k=>
  intro h;rw[List.eraseDups_cons,cB,cB]at h;have h:=hE h;have j:=cf (List.length_filter_le ..)<|by refine Y h.symm ?_;exact Oo _
  have f:=List.length_filter_eq_length_iff.mp j;rw[List.filter_eq_self.mpr f]at h;refine ee.mpr ⟨λm=>?_,k h⟩;have:=f a m;rw[tz]at this;exact nomatch this
end
section
variable{K:al}{F:bI}{loc:Loc}
def En(h:mY x=true):swapsWith x t n env=pure false:=by unfold swapsWith;cases x<;>first|rfl|exact ff h
noncomputable def putAll:List Str->List V->Loc->Loc|[],_,loc=>loc|n::ns,l,loc=>match l with|[]=>loc|a::l=>putAll ns l<|put n a loc
def TN:∀{ns l}{loc ag:Loc},(∀C,aC C loc=aC C ag)->∀C,aC C (putAll ns l loc)=aC C (putAll ns l ag):=by
 intro ns;induction ns with
 |nil=>exact λh=>h|cons n ns f=>intro l loc ag h;rcases l with _|⟨a,l⟩;exact h;exact f λC=>Y (iP ..)<|Y (iP ..)<|Y (h ..) rfl
def OW:∀{ns l}{loc:Loc},n∉ns->∀C,aC C (putAll ns l<|put n a loc)=aC C (put n a<|putAll ns l loc):=by
 intro ns;induction ns with
 |nil=>exact λ_ _=>rfl|cons m ns f=>intro l loc h C;rcases l with _|⟨b,l⟩;rfl;refine(TN (loc:=put m b<|put n a loc) (ag:=put n a<|put m b loc) (λy=>?_) C).trans (f (l:=l) (loc:=put m b loc) (λk=>h<|.tail _ k) C);refine Y (iP ..)<|Y (iP ..)<|Y (iP ..)<|Y (iP ..) ?_;by_cases j:y=m;subst j;exact Y (bZ rfl)<|Y (bZ rfl)<|Y (bO λk=>h<|by rw[k];exact .head _) rfl;exact Y (bO j)<|Y (bO j) rfl
def putAll_snoc:∀{ns l loc},l.length=ns.length->putAll (ns++[n]) (l++[a]) loc=put n a (putAll ns l loc):=by
 intro ns;induction ns with
 |nil=>intro l loc h;exact Y (se h) rfl
 |cons m ns f=>intro l loc h;rcases l with _|⟨b,l⟩;cases h;exact f<|hE h
def J2:∀{ns l loc},ns.Nodup->l.length=ns.length->∀C,aC C (putAll ns.reverse l.reverse loc)=aC C (putAll ns l loc):=by
 intro ns;induction ns with
 |nil=>intro l loc _ h C;exact Y (se h) rfl
 |cons n ns f=>intro l loc nd h C;rcases l with _|⟨a,l⟩;cases h;have nd:=ee.mp nd;have h:=hE h;exact Y nc<|Y nc<|Y (putAll_snoc<|by rw[fS,fS,h])<|Y (iP ..)<|Y (f nd.2 h ..)<|(iP ..).symm.trans (OW nd.1 C).symm
def aT.rev:∀{l D},aT f h l D->aT f h l.reverse D.reverse:=by
 intro l;induction l with
 |nil=>intro D q;exact Y q.i0 .nil
 |cons a l j=>intro D q;obtain⟨u,us,rfl,k,y⟩:=q.eO;exact Y nc<|Y nc<|(j y).append<|.cons k .nil
def Nj(E:CtxOk d c F):∀{ns l D loc s},(∀x∈ns,F.env.kindOf x=some .local)->aV K F loc f H s->aT f s.heap l D->l.length=ns.length->(∀J,aV K F (putAll ns l loc) f H J->a5 K.a3 [F.L] f H s.heap f H J.heap->Q () J)->wpAny (model I K.w) F.A (assignInOrder (ns.map λn=>bindName F.env n) D) Q U s:=by
 intro ns;induction ns with
 |nil=>intro l D loc s _ R q h k;obtain rfl:=se h;exact Y q.i0<|aL<|k s R<|.refl ..
 |cons n ns N=>intro l D loc s aP R q h k;rcases l with _|⟨a,l⟩;cases h;obtain⟨u,us,rfl,O,y⟩:=q.eO;show wpAny (model I K.w) F.A (do holding us (bindName F.env n u);assignInOrder (ns.map λn=>bindName F.env n) us) Q U s;exact aX<|c8<|qE<|my E R O (xz E (aP n<|.head _) _ _) λaa z j=>N (λx m=>aP x<|.tail _ m) z (y.at j R) (hE h) λW C T=>k W C<|j.trans T λ_ m=>.inl m
def Im(E:CtxOk d c F):∀{ns k l loc r},(∀x∈ns,F.env.kindOf x=some .local)->k.length=ns.length->(∀(i:Nat) x,ns[i]? =some x->∃p,k[i]? =some (Expr.Name x p))->mI c k l loc H=some r->l.length=ns.length/\r=.ok .next (putAll ns l loc) H:=by
 intro ns;induction ns with
 |nil=>intro k l loc r _ hl _ e;rw[se hl]at e;rcases l;obtain rfl:=aQ e;exact⟨rfl,rfl⟩;exact aW e
 |cons n ns u=>intro k l loc r aP hl hg e;rcases k with _|⟨t,k⟩;cases hl;rcases l with _|⟨a,l⟩;exact aW e;refine aU (hg 0 n rfl) λp ht=>?_;obtain rfl:=aQ ht;refine bV (wZ e) λ_ _ f e=>?_;rw[xz E<|aP n<|.head _]at f;cases f;exact aS (u (λx m=>aP x<|.tail _ m) (hE hl) (λi x aE=>hg (i+1) x aE) e) λj h=>⟨az Nat.succ j,h⟩
def OU(E:CtxOk d c F){O:List Str}(R:aV K F loc f H s)(q:RV f s.heap a u)(st:a5 K.a3 [F.L] C k z f H s.heap)(hd:O.eraseDups.length=O.length)(T:∀x∈O,F.env.kindOf x=some .local)(ab:N.length=O.length)(aa:∀(i:Nat)(x:Str),O[i]? =some x->∃p:Pos,N[i]? =some (Expr.Name x p))(e:cJ (np a) (λl=>match c.hd with|none=>mI c N l loc H|some _=>none)=some r):wpAny (model I K.w) F.A (do let h<-unpackItems u O.length none;assignInOrder (O.reverse.map λn=>bindName F.env n) h.reverse;pure Flow.next) (cR K F r C k z) (ci K F r C k z) s:=by
 refine dh e λl hl e=>?_;rw[qL hl]at q;revert e;rcases J:c.hd
 .intro e;have hh:=R.hand.none<|E.hd.symm.trans J;refine aS (Im E T ab aa e) λj ag=>?_;clear e;subst ag;exact aX<|Fg hh R q j.symm λD ah U ae y=>aX<|Nj E (λx m=>T x<|List.mem_reverse.mp m) U y.rev (Y fS<|Y fS<|Y j rfl) λai W af=>aL ⟨.next,_,f,H,rfl,W.locs<|J2 (Gc hd) j,(st.trans ae λ_ m=>.inl m).trans af λ_ m=>.inl m,trivial⟩
 exact aW
def L2(e:i' T v c t a loc H=some r):assignEach [t] F.env=[(false,assign t F.env)]:=by cases t<;>first|rfl|exact aW e
def JL(G:TabC K T B)(af:bB I K d v)(E:CtxOk d c F)(R:aV K F loc f H s)(e:ej T v c (.Assign [t] x p) loc H=some r):wpAny (model I K.w) F.A (exec (.Assign [t] x p) F.env) (cR K F r f H s.heap) (ci K F r f H s.heap) s:=by
 refine is e λD e=>?_;have D:=cY.mp D;refine Y (exec_Assign ..)<|aX<|dL<|Y (show swapsWithSole [t] x p.line F.env=pure false from En D.1)<|aX<|aL<|Y (bO<|by decide)<|aX<|Sn.hL (.refl ..) (af.e E R) e λa u ab H' J O st _ q z=>?_;have nl:∀N p,t≠Expr.List N p:=λN p C=>by clear e;clear e;subst C;exact aW z
 rcases LY D.2 nl with j|⟨N,k,tp,U,rfl,j,y,hd,ae,aa,W⟩;refine Y j (Y (L2 z)<|aX<|aL ?_);show wpAny _ _ (do assignAll u [assign t F.env];pure Flow.next) _ _ J;exact aX<|bY (CG G af E O q st z) (λ_ _ C=>aL C) λ_ _ C=>C;refine Y j (aX<|aL ?_);show wpAny _ _ (do rule "assign.swapped-stores";let h<-unpackItems u U.length none;assignInOrder (U.reverse.map λn=>bindName F.env n) h.reverse;pure Flow.next) _ _ J;exact aX<|wpAny_rule<|OU E O q st hd ae aa W z
end
end
section
variable{K:al}{loc:Loc}
def Sm.plain(x:Sm o o')(h:o.cls≠.type "frame")(f:o.cls≠.type "traceback"):o'=o:=by rcases x with x|⟨x,_⟩|⟨D,U,rfl,_,_⟩;exact x;exact absurd x h;exact absurd rfl f
theorem Sm.data(x:Sm o o')(f:o.cls≠.type "traceback"):o'.data=o.data/\o'.cls=o.cls:=by rcases x with rfl|⟨_,h,rfl⟩|⟨D,U,rfl,_,_⟩;exact⟨rfl,rfl⟩;exact⟨rfl,rfl⟩;exact absurd rfl f
def lY.nf(l:lY v):v≠.type "frame"/\v≠.type "traceback":=by rcases l with l|l|l|⟨E,l⟩<;>subst l<;>exact⟨(λe=>by first|exact absurd (fh e) (by decide)|cases e),λe=>by first|exact absurd (fh e) (by decide)|cases e⟩
def aV.note(R:aV K F loc f H s){i:Nat}(ei:f[i]? =some (a,d))(u:H[i]? =some (.exc E O c))(ai:i4 f O z)(ah:js f c I)(W:∀b o,b≠a->s.heap.get? b=some o->∃o',h'.get? b=some o'/\Sm o o')(kb:∀b o,K.h₀.get? b=some o->s.heap.get? b=some o->h'.get? b=some o)(ha:h'.get? a=some (ek E z J tb I))(ht:yS h' tb)(t:Tok):aV K F loc f H {s with heap:=h',toks:=t}/\a5 K.a3 [F.L] f H s.heap f H h':=by
 obtain⟨d0,b0,an,ak,g1,g3,g4,g5⟩:=R.rep.obj i _ _ u ei;have af:∀b o,s.heap.get? b=some o->lY o.cls->b≠a->h'.get? b=some o:=λb o e l ne=>by exact aZ (W b o ne e) λo' T x=>Y T<|Y (x.plain l.nf.1 l.nf.2) rfl
 have fx:cw s.heap h':=λb o e cc=>by
  have ne:b≠a:=λC=>by rw[C,g1]at e;obtain rfl:=aQ e;rcases cc with c|c|c|c|c<;>cases c
  exact aZ (W b o ne e) λo' T x=>Y T<|Y (x.plain (cc.ne "frame"<|by decide)<|cc.ne "traceback"<|by decide) rfl
 have tk:TbKeep s.heap h':=λt D e=>by
  have ne:t≠a:=λC=>by rw[C,g1]at e;cases e
  refine aZ (W t _ ne e) λo' T x=>?_;rcases x with rfl|⟨x,_⟩|⟨us,aj,x,rfl,y⟩;exact a9 D T rfl;exact absurd (fh x)<|by decide
  injection x with _ _ x _;injection x with x;subst x;exact a9 aj T y
 have aF:a≠F.L:=λC=>R.apart<|by refine Y C.symm ?_;exact ep u ei _<|.head _
 have ag:a≠K.a3:=λC=>R.on<|.tail _<|by refine Y C.symm ?_;exact ep u ei _<|.head _
 refine⟨⟨λb o ne e=>kb b o e<|R.base b o ne e,?_,R.tab,R.mods,⟨R.rep.len,λj o p e1 U=>?_,R.rep.nd,R.rep.new⟩,R.gens,R.os,R.stack,R.locals,R.kind,R.glob,R.blt,R.new,R.apart,?_,λenv m=>?_,R.hand⟩,
  ⟨⟨[],by simp⟩,λb o nb e=>W b o (λC=>nb<|.tail _<|gA _<|by refine Y C ?_;exact ep u ei _<|.head _) e,λ_ m=>.inl m,λb nb=>?_⟩⟩
 .obtain⟨N,e,ht,h⟩:=R.lam;refine aZ (W _ _ (gg ag) e) λo' T x=>?_;have:=x.plain (λC=>by cases C) λC=>by cases C
  clear x;subst this;refine⟨N,T,ht,λpos cv q=>?_⟩;clear ht;exact aZ (h pos cv q) λc' U k=>a9 c' U<|k.keep fx
 by_cases ij:j=i;subst ij;rw[u]at e1;rw[ei]at U;obtain rfl:=aQ e1;obtain rfl:=aQ U;exact⟨z,J,tb,I,ha,ai,ht,ah⟩;have r:=R.rep.obj j o p e1 U;have:=r.keep (τ:=[]) fx (λb m ob eb=>by refine aZ (r.cls b m) λal ab l=>?_;rw[eb]at ab;obtain rfl:=aQ ab;exact af b ob eb l λC=>jR R.rep.nd ij e1 U u ei b m<|by refine Y C ?_;exact .head _) tk;rwa [be]at this
 .obtain⟨o,m,e,q,nn,l⟩:=R.loc;refine aZ (W _ _ (gg aF) e) λo' T x=>?_;have aE:=x.data λC=>by rcases q with q|q<;>rw[q]at C<;>exact absurd (fh C) (by decide)
  refine d5 nn λam aa k' ae z r=>?_;rw[e]at ae;obtain rfl:=aQ ae;refine⟨o',m,T,by refine Y aE.2 ?_;exact q,⟨o',aa,k',T,by refine Y aE.1 ?_;exact z,r⟩,?_⟩;have:=l.keep [] fx;rwa [be]at this
 .obtain⟨k,L,o,aa,n',e1,U,e3,e4,e5⟩:=R.out env m;have ne:L≠a:=λC=>by rw[C,g1]at e3;obtain rfl:=aQ e3;cases e4
  refine aZ (W _ _ ne e3) λo' T x=>?_;have aE:=x.data λC=>by rw[e4]at C;exact absurd (fh C)<|by decide
  exact⟨k,L,o',aa,n',e1,U,T,aE.2.trans e4,aE.1.trans e5⟩
 by_cases C:b=a;refine Y C<|Y ha ?_;simp;rcases e:s.heap.get? b with _|o;exact absurd e nb;refine aZ (W b o C e) λo' T _=>Y T ?_;simp
def iZ(h:Heap)(a:Addr):Prop:=∃E k f t j,h.get? a=some (ek E k f (.ref t) j)
def aV.frames(R:aV K F loc f H s):s.heap.FunFrames K.h₀ (F.gi::F.outer):=by
 have:=R.out;generalize F.gi::F.outer=l at this;induction l with
 |nil=>trivial|cons env l x=>obtain⟨k,L,o,es,n,e1,h,j,y,u⟩:=this env<|.head _;exact⟨by refine Y k ?_;decide,⟨L,o,e1,h,j,λD C=>by rw[u]at C;cases C⟩,x λe m=>this e<|.tail _ m⟩
theorem aV.frame(R:aV K F loc f H s):∃L,F.gi.frame=some L:=by obtain⟨_,L,_,_,_,e,_⟩:=R.out F.gi<|.head _;exact⟨L,e⟩
def aV.old(R:aV K F loc f H s)(k:eT K.h₀)(e:s.heap.get? t=some o)(c:o.cls=.type "traceback"):K.h₀.get? t=none:=by
 rcases q:K.h₀.get? t with _|ob;rfl
 .exfalso
  by_cases C:t=K.a3;obtain⟨N,h,_⟩:=R.lam;rw[C,h]at e;obtain rfl:=aQ e;cases c;have:=R.base t ob C q;rw[e]at this;obtain rfl:=aQ this;exact k t _ q c
def aV.MP(R:aV K F loc f H s){i:Nat}(u:H[i]? =some o)(h:f[i]? =some p):∀a∈foot o p,K.h₀.get? a=none:=λa m=>R.rep.new a<|ep u h a m
end
section
variable{K:al}
def Tf:Obj.mapFields (·.setIfInBounds 1 v) (ek E d f tb h)=ek E d f v h:=rfl
def z2(R:aV K F loc f H s)(k:eT K.h₀){i:Nat}(ei:f[i]? =some (a,d))(u:H[i]? =some (.exc E O c))(he:s.heap.get? a=some (ek E x z (.ref t) j))(ab:i4 f O x)(aa:js f c j)(ht:s.heap.get? t=some {cls:=.type "traceback",data:=.fields D})(y:D.size=11)(h:∀J,aV K F loc f H J->a5 K.a3 [F.L] f H s.heap f H J.heap->J.heap.get? a=some (ek E x z (.ref t) j)->Q () J):wpAny (model I K.w) A (setField (.ref t) 3 v) Q U s:=by
 refine wpAny_setField ht rfl (aR (a4 y.symm)<|by simp+arith) ?_;have T:t≠a:=λC=>by rw[C,he]at ht;cases ht
 have W:=jc (Obj.mapFields (·.setIfInBounds 3 v)) ht rfl;have N:∀b,b≠t->(s.heap.update t<|Obj.mapFields (·.setIfInBounds 3 v)).get? b=s.heap.get? b:=λb nb=>rh _ _<|gg nb;obtain⟨R',st⟩:=R.note ei u ab aa
  (λb o ne e=>by by_cases C:b=t;clear he h T N;subst C;rw[ht]at e;obtain rfl:=aQ e;exact a9 _ W<|.inr<|.inr ⟨_,_,rfl,rfl,by simp⟩;exact a9 o (by refine Y (N b C) ?_;exact e)<|.inl rfl)
  (λb o e e'=>by refine Y (N b λC=>by rw[C,R.old k ht rfl]at e;exact aW e) ?_;exact e')
  (by refine Y (N a<|gg T) ?_;exact he) (.inr ⟨t,_,rfl,W,by simp[y]⟩) s.toks
 exact h _ R' st<|by show(s.heap.update t _).get? a=_;refine Y (N a<|gg T) ?_;exact he
def D2(hF:F.env=F.gi)(hA:A.frames=F.A.frames)(R:aV K F loc f H s)(hL:F.env.frame=some L){i:Nat}(ei:f[i]? =some (a,d))(u:H[i]? =some (.exc E O c))(he:s.heap.get? a=some (ek E aa ab tb T))(ap:i4 f O aa)(ao:js f c T)(h:∀J,aV K F loc f H J->a5 K.a3 [F.L] f H s.heap f H J.heap->iZ J.heap a->Q () J):wpAny (model I K.w) A (do let z<-frameOf F.env;let pl<-entryPlaceOf L y;let b<-EntryCells.newEntry ae z .none (rawInt L) .none pl;setField (.ref a) 1 b) Q U s:=by
 have hl:=R.frames;have al:=R.stack;have aj:=R.out;rw[<-hF]at hl al aj;have aq:a∉(F.env::F.outer).filterMap (·.frame):=λhm=>by refine aS (hl.mem hm) λ_ au=>aZ au λo x ar=>?_;rw[he]at x;obtain rfl:=aQ x;exact ar _ rfl
 refine aX<|wpAny_frameOf_fun (hA.trans al) hl hL λj ah=>aX<|wpAny_entryPlaceOf λpl ak=>?_;unfold EntryCells.newEntry newFields;refine aX<|wB ?_<|ak.sizeOk5 _ _ _ _ _;have ai:j.get? a=some (ek E aa ab tb T):=(ah.2.1 a aq).trans he;generalize am:({cls:=.type "traceback",dict:=none,data:=.fields ([ae,.ref L,.none,rawInt L,.none]++(if pl.isEmpty then List.replicate 6 Value.none else pl)).toArray}:Obj)=ot;have af:=b0 ot ai;refine wpAny_setField af rfl (by show 1<6;decide) ?_;have an:j.objs.size≠a:=Nat.ne_of_gt<|Heap.lt_size ai;have ag:=jc (Obj.mapFields (·.setIfInBounds 1 (Value.ref j.objs.size))) af rfl;rw[Tf]at ag;have W:=(rh (j.push ot) (Obj.mapFields (·.setIfInBounds 1 (Value.ref j.objs.size)))<|gg an).trans<|dS j<|by clear af;subst am;rfl
 have keep:∀b o,b≠a->j.get? b=some o->((j.push ot).update a<|Obj.mapFields (·.setIfInBounds 1 (Value.ref j.objs.size))).get? b=some o:=λb o ne e=>by refine Y (rh _ _<|gg ne) ?_;exact b0 _ e
 have fr:∀b,b∈(F.env::F.outer).filterMap (·.frame)->K.h₀.get? b=none/\∃o,s.heap.get? b=some o/\o.cls=.type "frame":=λb m=>by refine aZ (List.mem_filterMap.mp m) λenv me ef=>?_;obtain⟨k,N,o,es,n,e1,e2,e3,e4,e5⟩:=aj env me;rw[e1]at ef;clear m;obtain rfl:=aQ ef;exact⟨e2,o,e3,e4⟩
 have as:∃D,ot={cls:=.type "traceback",data:=.fields D}/\D.size=11:=by clear af ag W keep;subst am;refine a9 _ rfl ?_;rcases ak with rfl|⟨_,_,_,_,_,_,_,rfl⟩<;>simp
 refine aZ as λtv e1 e2=>?_;have W:=W.trans<|az some e1;obtain⟨R',st⟩:=R.note ei u ap ao
  (λb o ne e=>by by_cases m:b∈(F.env::F.outer).filterMap (·.frame);refine aS (fr b m) λ_ av=>aZ av λaw q1 q2=>?_;rw[e]at q1;clear W;obtain rfl:=aQ q1;exact aU (ah.2.2 b o e) λsl hb=>a9 _ (keep b _ ne hb)<|.inr<|.inl ⟨q2,sl,rfl⟩;exact a9 o (keep b _ ne<|(ah.2.1 b m).trans e)<|.inl rfl)
  (λb o e e'=>by
   have m:b∉(F.env::F.outer).filterMap (·.frame):=λm=>by rw[(fr b m).1]at e;exact aW e
   have ne:b≠a:=λC=>by rw[C,R.MP u ei a<|.head _]at e;exact aW e
   exact keep b _ ne<|(ah.2.1 b m).trans e')
  ag (.inr ⟨_,tv,rfl,W,e2⟩) s.toks
 exact h _ R' st ⟨E,aa,ab,_,T,ag⟩
def sM(T:F.env=F.gi)(W:A.frames=F.A.frames)(R:aV K F loc f H s)(k:eT K.h₀)(x:f[i]? =some (a,d))(ie:ha H i)(h:∀J,aV K F loc f H J->a5 K.a3 [F.L] f H s.heap f H J.heap->iZ J.heap a->Q () J):wpAny (model I K.w) A (noteFrame (.ref a) F.env) Q U s:=by obtain⟨E,O,c,u⟩:=ie;obtain⟨dd,a0,tb,cx,z,D,g4,N⟩:=R.rep.obj i _ _ u x;refine aU R.frame λL C=>?_;rw[<-T]at C;unfold noteFrame;simp only[C];refine aX (oh (x:=tb) z rfl rfl ?_);rcases g4 with rfl|⟨t,ts,rfl,ht,y⟩;exact Y (bO (by decide)) (D2 T W R C x u z D N h);refine Y (bZ (show(Value.ref t !=Value.none)=true from by simp)) (aX (oh (x:=ts[3]'(aR (a4 y.symm) (by simp+arith))) ht rfl (Array.getElem?_eq_getElem _) ?_));split;exact aL (h _ R (.refl ..) ⟨E,dd,a0,t,cx,z⟩);exact aX (z2 R k x u z D N ht y λaf aa ab g=>D2 T W aa C x u g D N λJ R' ae j=>h J R' (ab.trans ae λ_ m=>.inl m) j)
def m8(R:aV K F loc f H s)(k:eT K.h₀)(j:f[i]? =some (a,d))(ie:ha H i)(h:∀J,aV K F loc f H J->a5 K.a3 [F.L] f H s.heap f H J.heap->(iZ s.heap a->iZ J.heap a)->Q () J):wpAny (model I K.w) A (setFlight (.ref a) fr) Q U s:=by obtain⟨E,O,c,u⟩:=ie;obtain⟨N,C,tb,D,x,T,W,g5⟩:=R.rep.obj i _ _ u j;unfold setFlight;refine aX<|oh (x:=tb) x rfl rfl ?_;rcases W with rfl|⟨t,ts,rfl,ht,y⟩;exact Y (bO<|by decide)<|aL<|h _ R (.refl ..) id;exact Y (bZ<|show(Value.ref t !=Value.none)=true from by simp)<|z2 R k j u x T g5 ht y λab z aa g=>h _ z aa λ_=>⟨E,N,C,t,D,g⟩
end
section
open Builtin
structure fm(d:Nat)(c:bh)(F:bI):Prop extends CtxOk d c F where
 h9:F.env=F.gi
def fq(K:al)(F:bI)(r:RS)(f:a6)(H:aq)(h:Heap)(res:Result)(J:Shared):Prop:=match res with|.ok z=>cR K F r f H h z J|.error e=>ci K F r f H h e J/\∃a,e=.ref a/\iZ J.heap a
structure eV(I:Program)(K:al)(d:Nat)(v:dQ):Prop where
 s:∀{F:bI}{c:bh}{loc:Loc}{x:Stmt}{f:a6}{H:aq}{s:Shared},fm d c F->aV K F loc f H s->rp I K F (v.s c x loc H) (exec x F.env) f H s
 wh:∀{F:bI}{c:bh}{loc:Loc}{t:Expr}{b:List Stmt}{f:a6}{H:aq}{s:Shared}{r:RS},fm d c F->aV K F loc f H s->v.wh c t b loc H=some r->
  codeAny (model I K.w) F.A (.whileLoop t b [] F.env) (fq K F r f H s.heap) s
section
variable{K:al}
def jS(O:eV I K d v)(E:fm d c F):∀{loc f H s},aV K F loc f H s->rp I K F (cV v c h loc H) (execs h F.env) f H s:=by
 induction h with
 |nil=>intro loc f H s R r e;exact wpAny_execs_nil<|fk (z:=.next) R (.refl ..) trivial e
 |cons x h N=>
  intro loc f H s R r e;have e:lr (v.s c x loc H) (cV v c h)=some r:=e;revert e;rcases u:v.s c x loc H with _|q;exact aW
  .intro e;refine wpAny_execs_cons<|bY (O.s E R q u) (λj J⟨z,ag,ab,H',eq,k,st,x⟩=>?_) λev J⟨ag,ab,H',i,a,y,eq,k,st,e1,C,D⟩=>?_
   .clear u;subst eq;cases z<;>cases j<;>first|(exact x.elim;done)|skip
    exact(N k).from st e
    .cases e;exact⟨_,_,ab,_,rfl,k,st,trivial⟩
    .cases e;exact⟨_,_,ab,_,rfl,k,st,trivial⟩
    cases e;exact⟨_,_,ab,_,rfl,k,st,x⟩
   clear u;subst eq;cases e;exact⟨ag,ab,_,_,a,y,rfl,k,st,e1,C,D⟩
def PQ(R:aV K F loc f H s):interactive F.env=false:=by unfold interactive;exact Y R.kind rfl
def MA(y:bB I K d v)(E:CtxOk d c F)(R:aV K F loc f H s)(e:ej T v c (.Expr x p) loc H=some r):wpAny (model I K.w) F.A (exec (.Expr x p) F.env) (cR K F r f H s.heap) (ci K F r f H s.heap) s:=by refine is e λk e=>wpAny_Expr_any (Sn.hL (.refl ..) (y.e E R) e λa u ab H' J h st _ q j=>fk (z:=.next) h st trivial j) (PQ R)<|En k
def GF(k:bB I K d v)(W:eV I K d v)(E:fm d c F)(R:aV K F loc f H s)(e:ej T v c (.If t a b p) loc H=some r):wpAny (model I K.w) F.A (exec (.If t a b p) F.env) (cR K F r f H s.heap) (ci K F r f H s.heap) s:=by refine wpAny_If<|Sn.hL (.refl ..) (k.t E.toCtxOk R) e λq u ab H' J h st _ x j=>?_;cases x;rcases q;exact(jS W E h).from st j;exact(jS W E h).from st j
def F6(k:bB I K d v)(E:CtxOk d c F)(R:aV K F loc f H s)(e:ej T v c (.Return x p) loc H=some r):wpAny (model I K.w) F.A (exec (.Return x p) F.env) (cR K F r f H s.heap) (ci K F r f H s.heap) s:=by rcases x with _|x;exact wpAny_Return_none<|fk (z:=.ret .none) R (.refl ..) RV.none e;exact wpAny_Return_some<|Sn.hL (.refl ..) (k.e E R) e λa u ab H' J h st _ q j=>fk (z:=.ret a) h st q j
def Sp(G:eQ K T)(ak:bB I K d v)(E:CtxOk d c F)(R:aV K F loc f H s)(e:ej T v c (.AugAssign (.Name y q) .Add x p) loc H=some r):wpAny (model I K.w) F.A (exec (.AugAssign (.Name y q) .Add x p) F.env) (cR K F r f H s.heap) (ci K F r f H s.heap) s:=by have k:Sn I K F loc aN (hr T c loc y H) (loadName F.env y) f H s:=λr e=>(A6 G E R e).1;refine wpAny_AugAssign_Name<|Sn.hL (.refl ..) k e λa u ao ai al J aa _ D N=>Sn.hL aa (ak.e E J) N λb w ap aj am U ae ab O C=>?_;have D:=D.at ab J;refine dh C λi h C=>dh C λj hj C=>?_;rw[fp h]at D;rw[fp hj]at O;obtain⟨t,rfl⟩:=D.cG;clear D;obtain⟨t',rfl⟩:=O.cG;refine hv (BP C) λag H' ah=>?_;clear e N D;subst ah;exact AutoIntOps.iadd_0<|my E (U.toks _) .int C λan W af=>fk (z:=.next) W (ae.trans af λ_ m=>.inl m) trivial rfl
end
section
variable{R:Result->Shared->Prop}{s:Shared}
def HQ{f body env}(h:wpAny (model I w) A (isTrue f env<|eval f env) (λb y=>match b with
    |true=>wpAny (model I w) A (execs body env) (λz u=>match z with|.next|.cont=>codeAny (model I w) A (.whileLoop f body [] env) R u|.brk=>R (.ok .next) u|.ret v=>R (.ok<|.ret v) u) (notedBy (model I w) A env λe J=>R (.error e) J) y
    |false=>R (.ok .next) y)
    (notedBy (model I w) A env λe J=>R (.error e) J) s):codeAny (model I w) A (.whileLoop f body [] env) R s:=by refine qH ?_;show wpAny _ A ((whileTurn f body [] env).onRaise λx=>do noteFrame x env;theTreesLotGoes x) _ _ s;refine wpAny_noted ?_;simp only[whileTurn];refine aX<|bY h (λb y j=>?_) λ_ _ h'=>h';rcases b;simp only[kV,jd]at j⊢;exact aX<|wpAny_execs_nil<|aL j;simp only[if_true]at j⊢;refine aX<|bY j (λz u k=>?_) λ_ _ h'=>h';rcases z with _|_|_|v;exact aL ⟨rfl,k⟩;exact aL k;exact aL ⟨rfl,k⟩;exact aL k
end
section
variable{K:al}
def ci.qJ(D:F.env=F.gi)(k:eT K.h₀)(x:ci K F r y f u e s):notedBy (model I K.w) F.A F.env (λe J=>fq K F r y f u (.error e) J) e s:=by obtain⟨l,ab,H',i,a,C,eq,R,st,e1,rfl,h⟩:=x;exact sM D rfl R k e1 h λJ z ae j=>⟨⟨l,ab,H',i,a,C,eq,z,st.trans ae λ_ m=>.inl m,e1,rfl,h⟩,a,rfl,j⟩
def tr(k:eT K.h₀)(x:fq K F r y f u (.error e) s):cameBackBy (model I K.w) F.A F.env (ci K F r y f u) e s:=by refine aS x λN O=>?_;obtain⟨l,ab,H',i,a,D,eq,R,st,e1,rfl,z⟩:=N;refine aZ O λT h j=>?_;cases h;refine gv j λE d' U t W g=>?_;unfold cameBackBy;exact aX<|oh (x:=.ref t) g rfl rfl<|Y (bO<|by simp)<|m8 R k e1 z λJ C ae _=>⟨l,ab,H',i,a,D,eq,C,st.trans ae λ_ m=>.inl m,e1,rfl,z⟩
theorem fq.from(st:a5 K.a3 [F.L] y f u ab H' h')(x:fq K F r ab H' h' res s):fq K F r y f u res s:=by rcases res with e|z;exact⟨x.1.from st,x.2⟩;exact cR.from st x
def Aj(k:eT K.h₀)(af:bB I K d v)(W:eV I K d v)(E:fm d c F)(R:aV K F loc f H s)(e:tD v c t b loc H=some r):codeAny (model I K.w) F.A (.whileLoop t b [] F.env) (fq K F r f H s.heap) s:=by
 unfold tD at e;refine HQ (bY (Sn.hL (.refl ..) (af.t E.toCtxOk R) e (G:=λq D=>match q with
    |true=>wpAny (model I K.w) F.A (execs b F.env) (λz U=>match z with|.next|.cont=>codeAny (model I K.w) F.A (.whileLoop t b [] F.env) (fq K F r f H s.heap) U|.brk=>fq K F r f H s.heap (.ok .next) U|.ret v=>fq K F r f H s.heap (.ok<|.ret v) U) (notedBy (model I K.w) F.A F.env λe J=>fq K F r f H s.heap (.error e) J) D
    |false=>fq K F r f H s.heap (.ok .next) D) λq u ab H' J R' st _ x h=>?_) (λ_ _ C=>C) λ_ _ C=>C.qJ E.h9 k)
 cases x;rcases q
 .exact fk (z:=.next) R' st trivial h
 .dsimp only at h⊢;revert h;rcases O:cV v c b loc H' with _|q;intro h;cases h
  .intro h;refine bY (jS W E R' q O) (λj D⟨z,ag,N,aa,eq,y,T,x⟩=>?_) λev D⟨ag,N,aa,i,a,dd,eq,y,T,e1,e2,ie⟩=>?_
   .clear O;subst eq;have ae:=st.trans T λ_ m=>.inl m;have again:v.wh c t b ag aa=some r->codeAny (model I K.w) F.A (.whileLoop t b [] F.env) (fq K F r f H s.heap) D:=λe=>fJ (W.wh E y e) λ_ _ C=>C.from ae;cases z<;>cases j<;>first|(exact x.elim;done)|skip
    exact again h
    .clear e again;cases h;exact⟨.next,_,N,_,rfl,y,ae,trivial⟩
    exact again h;clear e again;cases h;exact⟨.ret _,_,N,_,rfl,y,ae,x⟩
   clear O;subst eq;clear e;cases h;exact ci.qJ E.h9 k ⟨ag,N,_,_,a,dd,rfl,y,st.trans T λ_ m=>.inl m,e1,e2,ie⟩
def MT(k:eT K.h₀)(W:eV I K d v)(E:fm d c F)(R:aV K F loc f H s)(e:ej T v c (.While t b [] p) loc H=some r):wpAny (model I K.w) F.A (exec (.While t b [] p) F.env) (cR K F r f H s.heap) (ci K F r f H s.heap) s:=by have e:=e;refine wpAny_While<|fJ (W.wh E R e) λres J C=>?_;rcases res with e|z;exact tr k C;exact C
end
def DX:entryFor table "proto.unchain"=some Builtin.«proto.unchain»:=entryFor_of_tree<|by kernel_rfl
section
variable{R:Result->Shared->Prop}
def Fs(j:s.heap.get? a=some o)(hd:o.data=.fields D)(f:D[2]? =some .none)(h:R (.ok<|.ret .none) s):codeAny (model I w) A (.builtin "proto.unchain" ⟨[v,.ref a,k,.bool u],[]⟩) R s:=by refine codeAny_builtin DX ?_;unfold Builtin.«proto.unchain»;exact aX<|oh j hd f<|Y (bZ<|by decide)<|aL h
def R7(j:s.heap.get? a=some o)(hd:o.data=.fields D)(f:D[2]? =some (.ref b))(u:s.heap.get? b=some o')(x:o'.data=.fields U)(k:U[2]? =some .none)(z:Value.ref b≠v)(y:b≠a)(h:R (.ok<|.ret .none) s):codeAny (model I w) A (.builtin "proto.unchain" ⟨[v,.ref a,.ref a,.bool false],[]⟩) R s:=by refine codeAny_builtin DX ?_;unfold Builtin.«proto.unchain»;exact aX<|oh j hd f<|Y (bO<|by simp)<|Y (bO<|by simpa using z)<|Y (bO<|by simpa using y)<|aX<|aL<|aL<|And.intro (Code.quiet_builtin _ (by decide+kernel)) (Fs u x k h)
end
section
variable{K:al}{T:cx}{H:aq}
def xS(h:jq H i (n+1) (some j)=true):Nat.beq i j=false/\∃E z c,H[j]? =some (.exc E z c)/\jq H i n c=true:=by
 have e:(match Nat.beq i j with|true=>false|false=>match H[j]? with|some (.exc _ _ c)=>jq H i n c|_=>false)=true:=h;revert e;rcases k:Nat.beq i j
 .intro e;rcases f:H[j]? with _|o;rw[f]at e;exact ff e
  .induction o with
   |exc E z c=>rw[f]at e;exact⟨rfl,E,z,c,rfl,e⟩
   |_=>rw[f]at e;exact ff e
 exact ff
def NQ(h:jq H i 0 c=true):c=none:=by rcases c with _|j;rfl;exact ff h
def Ts(R:aV K F loc f H s)(ei:f[i]? =some (a,x))(T:f[j]? =some (u,D))(ie:ha H i)(e:jq H i 2 (some j)=true)(h:Q .none s):wpAny (model I K.w) A (runValue<|.builtin "proto.unchain" ⟨[.ref a,.ref u,.ref u,.bool false],[]⟩) Q U s:=by refine wpAny_runValue<|aS (xS e) λap ag=>ke ag λE z c O e=>?_;obtain⟨dd,a0,tb,cx,N,g3,g4,g5⟩:=R.rep.obj j _ _ O T;rcases c with _|k;rw[show cx=.none from g5]at N;exact Fs N rfl rfl h;refine bV g5 λak dk J ah=>?_;subst ah;refine aS (xS e) λae ai=>ke ai λC' am c' aP e=>?_;rw[NQ e]at aP;obtain⟨al,aj,aq,aa,W,an,ao,ab⟩:=R.rep.obj k _ _ aP J;rw[show aa=.none from ab]at W;obtain⟨Ci,fi,ci,y⟩:=ie;refine R7 N rfl rfl W rfl rfl (λC=>?_) (λC=>?_) h;exact qt ae<|R.inj ei (Value.ref.inj C▸J) y aP;have af:=R.inj T (C▸J) O aP;subst af;rw[O]at aP;cases aP
inductive HE(T:cx)(hd:Option Nat)(i:Nat)(H:aq)(r:Nat×aq):Prop|mk (E:Addr) (z ctx:Option Nat) (l:List Addr) (y:H[i]? =some (.exc E z ctx)) (hl:bi E T.sub=some l) (e:lR hd i H (E,z)=some r)
def JT(e:p1 o=some p):∃f,o=.exc p.1 p.2 f:=by
 induction o with
 |exc E z f=>obtain rfl:=aQ e;exact⟨f,rfl⟩
 |_=>exact aW e
def Ri(e:Be T hd i H=some r):HE T hd i H r:=by refine aK e λo y e=>aK e λp f e=>aK e λl hl e=>aU (JT f) λh j=>?_;rw[j]at y;exact⟨p.1,p.2,h,l,y,hl,e⟩
inductive Iv(hd:Option Nat)(i:Nat)(H:aq)(p:Addr×Option Nat)(r:Nat×aq):Prop|none (h:hd=none) (e:r=(i,H))|same (h:hd=some i) (e:r=(i,H))|add (j:Nat) (h:hd=some j) (n:Nat.beq i j=false) (f:jq H i 2 (some j)=true) (e:r=(i,H.set i (.exc p.1 p.2 (some j))))
def Lz(e:lR hd i H p=some r):Iv hd i H p r:=by rcases hd with _|j;exact .none rfl (aQ e).symm;have e:(match Nat.beq i j with|true=>some (i,H)|false=>match jq H i 2 (some j)with|true=>some (i,H.set i<|.exc p.1 p.2<|some j)|false=>none)=some r:=e;revert e;rcases h:Nat.beq i j;intro e;revert e;rcases f:jq H i 2 (some j);intro e;exact aW e;intro e;exact .add j rfl h f (aQ e).symm;intro e;exact .same (Y (cd h) rfl) (aQ e).symm
def Nq(R:aV K F loc f H s)(ei:f[i]? =some (a,x))(y:H[i]? =some (.exc E z c))(ej:f[j]? =some (k,u))(h:∀J,aV K F loc f (H.set i<|.exc E z<|some j) J->a5 K.a3 [F.L] f H s.heap f (H.set i<|.exc E z<|some j) J.heap->Q () J):wpAny (model I K.w) A (setField (.ref a) 2<|.ref k) Q U s:=by
 obtain⟨dd,a0,tb,cx,N,g3,T,g5⟩:=R.rep.obj i _ _ y ei;unfold setField updateField;refine aX<|wpAny_load N ?_;dsimp only;refine Y (bZ<|show 2<#[a0,tb,cx,Value.none,Value.bool false,Value.none].size from(by decide:2<6))<|wpAny_update N ?_;have eh:=jc (h:=s.heap) (Obj.mapFields (·.setIfInBounds 2 (Value.ref k))) N rfl;have eo:∀b,b≠a->(s.heap.update a<|Obj.mapFields (·.setIfInBounds 2 (Value.ref k))).get? b=s.heap.get? b:=λb W=>rh _ _<|gg W;obtain⟨R',st⟩:=R.set (h':=s.heap.update a<|Obj.mapFields (·.setIfInBounds 2 (Value.ref k))) s.toks (o:=.exc E z c) (o':=.exc E z<|some j) y ei rfl
  (λb ob W eb=>by refine Y (eo b λC=>W<|by rw[C];exact .head _) ?_;exact eb)
  (λfx=>⟨dd,a0,tb,.ref k,eh,g3,by rcases T with T|⟨t,D,z1,O,z3⟩;exact .inl T;refine .inr ⟨t,D,z1,?_,z3⟩;refine Y (eo t (λC=>by rw[C]at O;dsimp only at N;rw[N]at O;cases O)) ?_;exact O,k,u,ej,rfl⟩)
 exact h _ R' st
def KA(R:aV K F loc f H s)(N:f[i]? =some (a,x))(y:H[i]? =some (.exc E z u))(e:lR F.hd i H (E,z)=some q)(h:∀J,q.1=i->aV K F loc f q.2 J->a5 K.a3 [F.L] f H s.heap f q.2 J.heap->ha q.2 i->U (.ref a) J):wpAny (model I K.w) F.A (raiseNew (.ref a):Sem k) Q U s:=by have hh:=R.hand;unfold raiseNew;refine aX<|wpAny_handled ?_;rcases Lz e with⟨hd,e⟩|⟨hd,e⟩|⟨j,hd,aa,W,e⟩;subst e;exact Y (show F.A.handled=none from hh.none hd)<|aX<|aL<|wpAny_throw<|h s rfl R (.refl ..) ⟨E,z,u,y⟩;subst e;unfold eK at hh;rw[hd]at hh;refine bV hh λT dj D O=>?_;rw[N]at D;refine zp (aQ D) λab ae=>?_;subst ab ae;refine Y O ?_;dsimp only;exact Y (bO<|by simp)<|wpAny_throw<|h s rfl R (.refl ..) ⟨E,z,u,y⟩;subst e;unfold eK at hh;rw[hd]at hh;refine bV hh λT dj D O=>Y O ?_;dsimp only;refine aS (xS W) λ_ af=>ke af λCj fj cj hj _=>?_;have ne:T≠a:=λC=>qt aa<|R.inj N (C▸D) y hj;exact Y (bZ<|by simpa using ne)<|aX<|c8<|Ts R N D ⟨E,z,u,y⟩ W<|aX<|Nq R N y D λJ R' st=>wpAny_throw<|h _ rfl R' st ⟨E,z,some j,by exact Y (qZ (b4.mp y).1) rfl⟩
section
variable{i:Nat}
def Hq(G:TabC K T B)(R:aV K F loc f H s)(D:f[i]? =some (a,u))(y:H[i]? =some (.exc E z j))(hl:bi E T.sub=some l)(h:Q (.ref a) s):wpAny (model I K.w) A (excFromValue (.ref a) k) Q U s:=by obtain⟨W,N,tb,O,x,g3,g4,g5⟩:=R.rep.obj _ _ _ y D;refine aS (G.sub E l hl) λJ _=>?_;have T0:Looks (model I K.w) s.heap (typeOf<|.ref a) (.ref E):=(jX x).andThen .now;have C:=looks_mroIn (M:=model I K.w) (G.In R) J;have jU:Looks (model I K.w) s.heap (isType<|.ref a) false:=(jX x).andThen .now;unfold excFromValue isExcClass;refine aX<|aX<|jU.here<|aL<|Y (bO<|by decide) ?_;unfold isInstance;exact aX<|aX<|T0.here<|C.here<|aL h
def Jm(G:TabC K T B)(R:aV K F loc f H s)(x:f[i]? =some (a,k))(y:H[i]? =some (.exc E z j))(hl:bi E T.sub=some l)(h:Q (.ref a) s):wpAny (model I K.w) A (raisedInstance<|.ref a) Q U s:=by obtain⟨N,D,tb,J,C,O,W,g5⟩:=R.rep.obj _ _ _ y x;refine cZ (G.sub E l hl) λ_ k2 _=>?_;have T0:Looks (model I K.w) s.heap (typeOf<|.ref a) (.ref E):=(jX C).andThen .now;have u:=looks_typeIn (M:=model I K.w) (G.In R) k2;unfold raisedInstance;exact aX<|T0.here<|aX<|u.here<|Y (bZ<|by decide)<|aL h
end
def Ke(G:TabC K T B)(ai:bB I K d v)(E:CtxOk d c F)(R:aV K F loc f H s)(e:ej T v c (.Raise (some x) none p) loc H=some r):wpAny (model I K.w) F.A (exec (.Raise (some x) none p) F.env) (cR K F r f H s.heap) (ci K F r f H s.heap) s:=by show wpAny _ F.A (do standAt p;raiseStmt F.env (some<|do let v<-eval x F.env;standAt p;pure v) none) _ _ s;refine aX<|dL ?_;unfold raiseStmt;refine aX<|aX<|Sn.hL (.refl ..) (ai.e E R) e λaA u al ah ag D ab _ q k=>aX<|dL<|aL<|dh k λi ha k=>dh k λaa C k=>?_;rw[iD ha]at q;obtain⟨a,W,rfl,j⟩:=q.ex;obtain⟨J,z,U,l,y,hl,C⟩:=Ri C;obtain⟨dd,a0,tb,cx,g1,_⟩:=D.rep.obj _ _ _ y j;have jU:Looks (model I K.w) ag.heap (isType<|.ref a) false:=(jX g1).andThen .now;refine aX<|aL<|aX<|c8<|Hq G D j y hl ?_;dsimp only;refine aX<|jU.here<|Y (bO<|by decide)<|aX<|Jm G D j y hl<|aX<|m8 D G.fY j ⟨J,z,U,y⟩ λaj N ae _=>?_;rw[E.hd]at C;refine KA N j y C λak h O af ie=>?_;clear e C;obtain rfl:=aQ k;exact⟨loc,_,_,_,a,W,rfl,O,(ab.trans ae λ_ m=>.inl m).trans af λ_ m=>.inl m,by refine Y h ?_;exact j,rfl,by refine Y h ?_;exact ie⟩
end
def Tp{es:List DictEntry}(j:s.heap.get? a=some o)(hd:o.data=.dict es.toArray n)(aP:∀e∈es,∃y t,e.key=.str y t)(aE:(nsFind es.toArray x).isSome=true)(h:∀h'(u:List DictEntry) T,h'.get? a=some {o with data:=.dict u.toArray T}->(∀e∈u,∃y t,e.key=.str y t)->(∀y,y≠x->nsFind u.toArray y=nsFind es.toArray y)->Heap.SameBut a s.heap h'->Q true {s with heap:=h'}):wpAny (model I w) A (nsDel a x) Q U s:=by
 have z:es.toArray.any (·.key.isStr x)=true:=by simp only[nsFind,findBy,Option.isSome_map]at aE;rw[Array.find?_isSome]at aE;refine aZ aE λe he k=>?_;rw[Array.any_eq_true];obtain⟨i,f,rfl⟩:=Array.mem_iff_getElem.mp he;exact⟨i,f,k⟩
 have J:nsHas x o=pure true:=by refine Y nsHas_eq ?_;unfold nsHasByArray;refine Y hd ?_;show(if(es.toArray.any λC=>C.key.isStr x)=true then _ else _)=_;exact Y (bZ z) rfl
 unfold nsDel;refine aX<|wpAny_loadPart j<|Y J<|aX<|aL<|Y (bZ rfl)<|aX<|wpAny_updatePart j<|aL ?_;obtain⟨cl,D,W,E⟩:=o;dsimp only at hd;subst hd;rcases f:es.toArray.findIdx? (·.key.isStr x)with _|i
 .exfalso
  rw[Array.findIdx?_eq_none_iff]at f;rw[Array.any_eq_true]at z;obtain⟨i,N,k⟩:=z;have:=f _<|Array.getElem_mem N;rw[k]at this;exact ff<|this.symm
 .have eq:Obj.dropName x ⟨cl,D,.dict es.toArray n,E⟩=⟨cl,D,.dict (es.eraseIdx i).toArray<|n+1,E⟩:=by refine Y Obj.dropName_eq ?_;simp only[Obj.dropNameByArray,f,List.eraseIdxIfInBounds_toArray]
  have e1:=jc (Obj.dropName x) j<|by exact Y eq rfl
  rw[eq]at e1;refine h _ (es.eraseIdx i) (n+1) e1 (λe he=>aP e<|List.mem_of_mem_eraseIdx he) (λy O=>?_)<|j5 ..;have:=nsFind_erase_other f O;rwa [List.eraseIdxIfInBounds_toArray]at this
section
variable{K:al}
def z6(R:aV K F loc f H s)(aP:aC x F.env.scope.names=some .local)(h:∀J,aV K F (kw x loc) f H J->a5 K.a3 [F.L] f H s.heap f H J.heap->(∀b,b≠F.L->J.heap.get? b=s.heap.get? b)->Q () J):wpAny (model I K.w) A (do bindName F.env x .none;unbindBehindTheSuite F.env x p) Q U s:=by
 have af:F.env.kindOf x=some .local:=by refine Y (kG ..) ?_;exact aP
 obtain⟨oL,m,E,cL,nn,l⟩:=R.loc;refine gD nn λo' es k W N ae hm=>?_;rw[E]at W;obtain rfl:=aQ W;obtain⟨es⟩:=es;refine aX<|qE<|Y (storeName_local af (by rw[R.kind];rfl) ..)<|Y R.locals<|rJ E N (λe he=>ae e<|by simpa using he) λj az ai ar=>?_;unfold unbindBehindTheSuite;refine wpAny_onRaise ?_;unfold unbindName;refine aX<|wpAny_point<|aX ?_;unfold deleteName;simp only[af];refine Y (show(F.env.scope.kind==.class||(F.env.scope.kind==.module&&F.env.locals !=F.env.globals))=false from by rw[R.kind];rfl)<|Y (bO<|by decide)<|Y R.locals ?_;have an:=EC (λe he=>ae e<|by simpa using he) x (PyData.keyHash K.w.params x) s.toks .none;refine aX<|Tp (s:={s with heap:=j,toks:=s.toks+1}) ai rfl an (by refine Y (w3 ..) ?_;simp) λam aj aq aa ao ak as=>?_;refine Y (bO<|by decide)<|aL<|wpAny_point ?_;have sb:=ar.trans as;obtain⟨R',st⟩:=R.own (ag:=kw x loc) (h':=am) (T:=nsFind aj.toArray) (s.toks+1) E aa sb ⟨_,_,aq,aa,rfl,λe he=>ao e (by simpa using he),λ_=>rfl⟩ λay ap ah fx=>by refine gD ap λaA aw ax ab O _ al=>?_;rw[E]at ab;obtain rfl:=aQ ab;rw[N]at O;refine aS (PySem.Data.dict.inj O) λau av=>?_;subst au av;refine⟨λy z a D=>?_,λy i cy z=>?_⟩;rw[AA]at D;by_cases C:y=x;rw[bZ C]at D;exact aW D;rw[bO C]at D;refine aZ (ah.own y z a D) λu e1 r=>a9 u ?_<|r.pR fx;exact Y (ak y C)<|Y (w3 ..)<|Y (bO C)<|Y (al y) e1;rw[AA]at z;by_cases C:y=x;rw[bZ C]at z;exact aW z;rw[bO C]at z;exact ah.gT y i cy z
 exact h _ R' st sb.2
end
section
variable{R:Result->Shared->Prop}
def JA(h:wpAny (model I w) A (setFlight e none) (λ_ j=>wpAny (model I w) A (execs body env) (λz k=>R (.ok z) k) (notedBy (model I w) A env λx k=>R (.error x) k) j) (notedBy (model I w) A env λx j=>R (.error x) j) s):codeAny (model I w) A (.handlers e [.ExceptHandler none none body pos] env) R s:=by refine qH ?_;show wpAny _ A (do return Fin.done (<-(handleWith e env [.ExceptHandler none none body pos]).onRaise (λx=>do noteFrame x env;theTreesLotGoes x))) _ _ s;refine aX<|wpAny_noted ?_;unfold handleWith;exact aX<|dL<|aX<|bY h (λ_ j f=>bY f (λz k u=>aL u) λ_ _ x=>x) λ_ _ x=>x
def PM(h:wpAny (model I w) A (setFlight e none) (λ_ D=>wpAny (model I w) A (storeName env n e) (λ_ E=> wpAny (model I w) A (execs body env) (λz k=>R (.ok z) k) (λx k=>wpAny (model I w) A (noteFrame x env) (λ_ N=> wpAny (model I w) A (do bindName env n .none;unbindBehindTheSuite env n pos) (λ_ u=>wpAny (model I w) A (PySem.passOn "try.except-as" x env:Sem Flow) (λ_ _=>False) (notedBy (model I w) A env λx J=>R (.error x) J) u) (λy u=>wpAny (model I w) A (setFlight x none) (λ_ W=>(notedBy (model I w) A env λx J=>R (.error x) J) y W) (notedBy (model I w) A env λx J=>R (.error x) J) u) N) (notedBy (model I w) A env λx J=>R (.error x) J) k) E) (notedBy (model I w) A env λx J=>R (.error x) J) D) (notedBy (model I w) A env λx J=>R (.error x) J) s):codeAny (model I w) A (.handlers e [.ExceptHandler none (some n) body pos] env) R s:=by refine qH ?_;show wpAny _ A (do return Fin.done (<-(handleWith e env [.ExceptHandler none (some n) body pos]).onRaise (λx=>do noteFrame x env;theTreesLotGoes x))) _ _ s;refine aX<|wpAny_noted ?_;unfold handleWith;refine aX<|dL<|aX<|bY h (λ_ D f=>?_) λ_ _ x=>x;refine aX<|qE<|bY f (λ_ E O=>?_) λ_ _ x=>x;refine aX<|wpAny_attempt<|bY O (λz k C=>aL<|aL C) λx k C=>aX<|bY C (λ_ N T=>?_) λ_ _ y=>y;refine aX<|c8<|wpAny_onRaise<|bY T (λ_ u U=>?_) λ_ _ y=>y;exact bY U (λ_ _ j=>j.elim) λ_ _ y=>y
end
noncomputable abbrev bI.mk'(F:bI)(i:Nat)(a:Addr):bI:={F with A:=F.A.mark<|some<|.ref a,hd:=some i}
section
variable{K:al}{loc:Loc}
def aV.mark(R:aV K F loc f H s)(j:f[i]? =some (a,h)):aV K (F.mk' i a) loc f H s:=⟨R.base,R.lam,R.tab,R.mods,R.rep,R.gens,R.os,R.stack,R.locals,R.kind,R.glob,R.blt,R.new,R.apart,R.loc,R.out,⟨a,h,j,rfl⟩⟩
def aV.unmark(R:aV K (F.mk' i a) loc f H s)(h:eK f F.hd F.A.handled):aV K F loc f H s:=⟨R.base,R.lam,R.tab,R.mods,R.rep,R.gens,R.os,R.stack,R.locals,R.kind,R.glob,R.blt,R.new,R.apart,R.loc,R.out,h⟩
def eK.more(h:eK f hd v)(st:a5 p L f H h₀ ab H' h'):eK ab hd v:=by refine aU st.ext λτ j=>?_;clear st;subst j;unfold eK at h⊢;split at h;exact h;exact bV h λa d e q=>dX a d (fT τ e) q
def CtxOk.mark(E:CtxOk d c F)(i)(a):CtxOk d ⟨c.sc,some i,c.lam⟩ (F.mk' i a):=⟨E.sc,rfl,E.room,E.lam⟩
theorem cR.unmark(h:eK k F.hd F.A.handled)(p:cR K (F.mk' i a) r k u f j s):cR K F r k u f j s:=by obtain⟨z,l,ab,H',e,R,st,x⟩:=p;exact⟨z,l,ab,H',e,R.unmark<|h.more st,st,x⟩
theorem ci.unmark(h:eK k F.hd F.A.handled)(p:ci K (F.mk' i a) r k u f e s):ci K F r k u f e s:=by obtain⟨l,ab,H',i,a,d,e1,R,st,x1,j,x⟩:=p;exact⟨l,ab,H',i,a,d,e1,R.unmark<|h.more st,st,x1,j,x⟩
def A7(u:eT K.h₀)(R:aV K F loc f H s)(D:f[i]? =some (a,y))(N:ha H i)(j:iZ s.heap a)(h:∀J,aV K F loc f H J->a5 K.a3 [F.L] f H s.heap f H J.heap->iZ J.heap a->U (.ref a) J):wpAny (model I K.w) A (PySem.passOn z (.ref a) F.env:Sem x) Q U s:=by refine gv (id j) λE W O t T g=>?_;unfold PySem.passOn;exact aX<|oh (x:=.ref t) g rfl rfl<|Y (bO<|by simp)<|aX<|m8 R u D N λJ C ae k=>wpAny_throw<|h J C ae<|k j
def I8(e:Ee a=some d):a=.fn d:=by
 induction a using V.casesOn with
 |fn=>exact Y (aQ e) rfl|_=>exact aW e
def Sd(G:TabC K T B)(R:aV K F loc f H s){i:Nat}(ei:f[i]? =some (a,C))(x:H[i]? =some (.exc E y z))(q:RV f s.heap aa u)(e:tK T E aa=some b)(h:Q b s):wpAny (model I K.w) A (excMatches (.ref a) u) Q U s:=by
 refine aK e λj hD e=>aK e λl hl e=>aK e λk O e=>?_;rw[I8 hD]at q;refine Y q.ki ?_;rw[<-aQ e]at h;clear e;obtain⟨dd,a0,tb,cx,g1,g3,g4,g5⟩:=R.rep.obj _ _ _ x ei;refine jj (G.sub E l hl) λ_ _ _ k4=>jj (G.sub j k O) λk1 k2 k3 _=>?_;have X:=G.In R;have T0:Looks (model I K.w) s.heap (typeOf<|.ref a) (.ref E):=(jX g1).andThen .now;have W:=looks_typeIn (M:=model I K.w) X k2;have L2:=looks_subIn (M:=model I K.w) X<|show subIn B (.type "type") (.type "tuple")=some false from by show(fastBuiltinMro "type").map _=_;decide+kernel
 have L3:=looks_mroIn (M:=model I K.w) X k1;have L4:=looks_mroIn (M:=model I K.w) X<|k4 j k O;have jU:Looks (model I K.w) s.heap (isType<|.ref j) true:=by
  refine aU (vV.mp k3) λcd D=>?_;unfold clsIn at D;rcases J:B.lookup j with _|⟨_,_,dt,_⟩;rw[J]at D;exact aW D
  .rw[J]at D;induction dt using Data.casesOn with|cls c=>exact(jX<|X _ _ J).andThen .now|_=>exact aW D
 unfold excMatches isInstance isExcClass;refine aX<|aX<|W.here<|L2.here<|aX<|aL ?_;dsimp only;refine aX<|Y (hR ..)<|aX<|aX<|aX<|jU.here<|Y (bZ rfl)<|L3.here<|Y (bO<|by decide)<|aL ?_;dsimp only;refine Y jG<|aL<|aX<|T0.here<|aX<|Y (hR ..)<|aX<|aX<|L4.here ?_;rcases N:l.any (Nat.beq j);rw[N]at h;refine Y (bO<|by decide)<|aL ?_;dsimp only;exact Y jG<|aL<|aL h;rw[N]at h;exact Y (bZ rfl)<|aL<|aL<|aL h
end
section
variable{I:Program}{K:al}{F:bI}{loc:Loc}
theorem qT.at(st:a5 K.a3 [F.L] f H s.heap ab H' h')(R:aV K F loc f H s)(q:qT f s.heap z j):qT ab h' z j:=by cases z<;>cases j<;>first|exact q|exact RV.at st R q
def aV.Og(R:aV K F loc f H s)(j:f[i]? =some (a,h))(k:ha H i):a≠F.L:=λC=>by obtain⟨E,fs,c,hi⟩:=k;exact R.apart<|by refine Y C.symm ?_;exact ep hi j _<|.head _
def iZ.keep(j:iZ h a)(e:h'.get? a=h.get? a):iZ h' a:=by exact gv j λE d f t k g=>⟨E,d,f,t,k,e.trans g⟩
def L5(a):(Value.ref a)≠byPass:=λq=>by cases q
def z0(f:F.env=F.gi)(y:eT K.h₀)(h:eK u F.hd F.A.handled)(p:ci K (F.mk' i a) r u D N e s):notedBy (model I K.w) (F.mk' i a).A F.env (λe J=>cameBackBy (model I K.w) F.A F.env (ci K F r u D N) e J) e s:=by refine bY (ci.qJ f y p) (λ_ J C=>?_) λe J C=>?_;exact tr y ⟨C.1.unmark h,C.2⟩;exact tr y ⟨C.1.unmark h,C.2⟩
section
variable{a:Addr}{pos:Pos}
def Jn(e:ua k=true):k=.local:=by
 induction k with
 |«local»=>rfl|_=>exact ff e
def GV(h₀:eK u F.hd F.A.handled)(aP:aC x F.env.scope.names=some .local)(p:cR K (F.mk' i a) q u D N z s):wpAny (model I K.w) F.A (do bindName F.env x .none;unbindBehindTheSuite F.env x pos) (λ_ s=>cR K F (lx x q) u D N z s) (ci K F (lx x q) u D N) s:=by obtain⟨C,l,ab,H',eq,k,h,E⟩:=p;subst eq;have f:=k.unmark<|h₀.more h;exact z6 f aP λJ y j _=>⟨C,_,_,_,rfl,y,h.trans j λ_ m=>.inl m,E.at j f⟩
def Kb(G:TabC K T B)(E:fm d c F){ev:Value}(h₀:eK u F.hd F.A.handled)(aP:aC x F.env.scope.names=some .local)(p:ci K (F.mk' i a) q u D N ev s):wpAny (model I K.w) (F.mk' i a).A (noteFrame ev F.env) (λ_ aj=> wpAny (model I K.w) (F.mk' i a).A (do bindName F.env x .none;unbindBehindTheSuite F.env x pos) (λ_ z=>wpAny (model I K.w) (F.mk' i a).A (PySem.passOn "try.except-as" ev F.env:Sem Flow) (λ_ _=>False) (notedBy (model I K.w) (F.mk' i a).A F.env λf J=>cameBackBy (model I K.w) F.A F.env (ci K F (lx x q) u D N) f J) z) (λy z=>wpAny (model I K.w) (F.mk' i a).A (setFlight ev none) (λ_ O=>(notedBy (model I K.w) (F.mk' i a).A F.env λf J=>cameBackBy (model I K.w) F.A F.env (ci K F (lx x q) u D N) f J) y O) (notedBy (model I K.w) (F.mk' i a).A F.env λf J=>cameBackBy (model I K.w) F.A F.env (ci K F (lx x q) u D N) f J) z) aj) (notedBy (model I K.w) (F.mk' i a).A F.env λf J=>cameBackBy (model I K.w) F.A F.env (ci K F (lx x q) u D N) f J) s:=by obtain⟨l,ab,H',k,b,db,eq,U,af,h,rfl,j⟩:=p;subst eq;exact sM (F:=F.mk' i a) E.h9 rfl U G.fY h j λz C ag ae=>z6 (F:=F.mk' i a) C aP λO W ah kk=>A7 (F:=F.mk' i a) G.fY W h j (ae.keep<|kk b<|C.Og h j) λal aa ai ak=>z0 E.h9 G.fY h₀ ⟨_,_,_,_,b,db,rfl,aa,((af.trans ag λ_ m=>.inl m).trans ah λ_ m=>.inl m).trans ai λ_ m=>.inl m,h,rfl,j⟩
def Cf(k:Flow->Shared->Prop)(U:Value->Shared->Prop):Except Value Flow->Shared->Prop|.ok z=>k z|.error x=>U x
def EG(I:Program)(K:al)(F:bI)(U:Value->Shared->Prop)(pos:Pos)(k:Shared->Prop):Option Str->Shared->Prop|none=>k|some n=>wpAny (model I K.w) F.A (do bindName F.env n .none;unbindBehindTheSuite F.env n pos) (λ_=>k) U
def SR(G:TabC K T B)(W:eV I K d v)(E:fm d c F)(h₀:eK u F.hd F.A.handled)(J:f[i]? =some (a,h))(ie:ha H i)(R:aV K (F.mk' i a) loc f H s)(st:a5 K.a3 [F.L] u D N f H s.heap)(e:xR v c i nm body loc H=some r):codeAny (model I K.w) (F.mk' i a).A (.handlers (.ref a) [.ExceptHandler none nm body pos] F.env) (Cf (λz=>EG I K F (ci K F r u D N) pos (cR K F r u D N z) nm)<|cameBackBy (model I K.w) F.A F.env<|ci K F r u D N) s:=by
 have y:=E.toCtxOk.mark i a;have U:fm d ⟨c.sc,some i,c.lam⟩ (F.mk' i a):=⟨y,E.h9⟩;rcases nm with _|x;refine JA (m8 R G.fY J ie λaf C O _=>?_);have j:=st.trans O λ_ m=>.inl m;exact bY (jS W U C r e) (λ_ _ p=>cR.unmark h₀<|cR.from j p) λ_ _ p=>z0 E.h9 G.fY h₀<|ci.from j p
 .refine dh e λk aP e=>is e λhl e=>dh e λq em e=>?_;obtain rfl:=aQ e;rw[Jn hl]at aP;have aP:=E.kn aP<|by decide
  refine PM<|m8 R G.fY J ie λaf C O _=>?_;have j:=st.trans O λ_ m=>.inl m;refine my (F:=F.mk' i a) y C (.ref J) (xz y ((kG x F.env).trans aP) _ _) λag ab ae=>?_;have aa:=j.trans ae λ_ m=>.inl m;exact bY (jS W U ab q em) (λ_ _ p=>GV h₀ aP<|cR.from aa p) λ_ _ p=>Kb G E h₀ aP<|ci.from aa p
def HL(G:TabC K T B)(Gg:eQ K T)(E:fm d c F)(W:f[i]? =some (a,J))(hi:H[i]? =some (.exc k fs D))(R:aV K F loc f H s)(en:lG T ⟨c.sc,some i,c.lam⟩ loc y H=some aa)(ec:tK T k aa=some b)(ht:b=true->codeAny (model I K.w) (F.mk' i a).A (.handlers (.ref a) [.ExceptHandler none nm body pos] F.env) (Cf (λz=>EG I K F U pos (Q z) nm)<|cameBackBy (model I K.w) F.A F.env U) s)(j:b=false->wpAny (model I K.w) F.A (handleBy (.ref a) F.env O) Q U s):wpAny (model I K.w) F.A (handleBy (.ref a) F.env<|.ExceptHandler (some<|.Name y N) nm body pos::O) Q U s:=by
 refine wpAny_handleBy_cons (codeAny_handlers_test<|wpAny_Name (yB (F:=F.mk' i a) (A:=(F.mk' i a).A) Gg (E.toCtxOk.mark i a) (R.mark (F:=F) W) en λu qD=>Sd G R W hi qD ec ?_)<|E0 en)<|L5 a;rcases b;exact j rfl
 .rcases nm with _|x;exact fJ (ht rfl) λC _ h=>by cases C<;>exact h
  exact fJ (ht rfl) λC _ h=>by cases C<;>exact h
def T1(G:TabC K T B)(Gg:eQ K T)(W:eV I K d v)(E:fm d c F)(h₀:eK u F.hd F.A.handled)(U:f[i]? =some (a,z))(hi:H[i]? =some (.exc k fs x))(O)(R:aV K F loc f H s)(j:iZ s.heap a)(st:a5 K.a3 [F.L] u D N f H s.heap)(e:qw T v c i k O loc H=some r):wpAny (model I K.w) F.A (handleBy (.ref a) F.env O) (cR K F r u D N) (ci K F r u D N) s:=by
 have ie:ha H i:=⟨k,fs,x,hi⟩;induction O with
 |nil=>obtain rfl:=aQ e;exact wpAny_handleBy_nil<|A7 G.fY R U ie j λJ R' ae ag=>⟨loc,f,H,i,a,z,rfl,R',st.trans ae λ_ m=>.inl m,U,rfl,ie⟩
 |cons h O ih=>obtain⟨ty,nm,body,pos⟩:=h;refine dh e λt ab e=>?_;subst ab;refine dh e λy hy e=>aU (p3 hy) λyp af=>?_;clear hy;subst af;exact dh e λaa en e=>dh e λb ec e=>HL G Gg E U hi R en ec (λC=>SR G W E h₀ U ie (R.mark U) st<|by rw[C]at e;exact e) λC=>ih<|by rw[C]at e;exact e
end
def Rs(e:tI T v c O i l H o=some r):∃E fs f,o=some (.exc E fs f)/\qw T v c i E O l H=some r:=by
 rcases o with _|o;exact aW e
 .induction o with|exc E fs f=>exact xX E fs f rfl e|_=>exact aW e
def Sb(G:TabC K T B)(Gg:eQ K T)(W:eV I K d v)(E:fm d c F)(R:aV K F loc f H s)(e:ej T v c (.Try b (h::O) [] [] p) loc H=some r):wpAny (model I K.w) F.A (exec (.Try b (h::O) [] [] p) F.env) (cR K F r f H s.heap) (ci K F r f H s.heap) s:=by
 have y:=G.fY;have e:x2 T v c (h::O) (cV v c b loc H)=some r:=e;revert e;rcases D:cV v c b loc H with _|q;exact aW
 .intro e;refine wpAny_Try_except<|bY (jS W E R q D) (λj U⟨z,l,ab,H',eq,u,J,x⟩=>?_) λev U⟨l,ab,H',i,a,d',eq,u,J,C,ea,N⟩=>?_
  .clear D;subst eq;obtain rfl:=aQ e;have:cR K F (.ok z l H') f H s.heap j U:=⟨z,l,ab,H',rfl,u,J,x⟩;cases z<;>cases j<;>first|(exact x.elim;done)|exact wpAny_execs_nil this|exact this
  clear D;subst eq ea;exact sM E.h9 rfl u y C N λaj aa ag af=>m8 aa y C N λak ae ah k=>ke (Rs e) λCc fs ai hi e=>T1 G Gg W E R.hand C hi _ ae (k af) ((J.trans ag λ_ m=>.inl m).trans ah λ_ m=>.inl m) e
end
def jC(v:Value):Prop:=∃n,v=.type n/\(n="list_iterator"\/n="tuple_iterator"\/n="range_iterator"\/n="str_ascii_iterator"\/n="str_iterator")
def jC.ne(c:jC v)(u)(h:(["list_iterator","tuple_iterator","range_iterator","str_ascii_iterator","str_iterator"].contains u)=false):v≠.type u:=by intro e;refine aZ c λn f c=>?_;rw[e]at f;obtain rfl:=PySem.Value.type.inj f;rcases c with rfl|rfl|rfl|rfl|rfl<;>exact absurd h (by decide)
def jC.led(c:jC v)(l:lY v):False:=by rcases l with l|l|l|⟨E,l⟩;exact c.ne "list" (by decide) l;exact c.ne "dict" (by decide) l;exact c.ne "cell" (by decide) l;refine aZ c λn e _=>?_;rw[l]at e;cases e
def jC.fix(c:jC v)(l:kP v):False:=by rcases l with l|l|l|l|l;exact c.ne "tuple" (by decide) l;exact c.ne "method" (by decide) l;exact c.ne "range" (by decide) l;exact c.ne "function" (by decide) l;exact c.ne "code" (by decide) l
section
variable{K:al}{loc:Loc}
def aV.qI(R:aV K F loc f H s)(t:Tok)(e:s.heap.get? x=some o)(c:jC o.cls)(u:K.h₀.get? x=none)(E:∀b ob,b≠x->s.heap.get? b=some ob->h'.get? b=some ob):aV K F loc f H {s with heap:=h',toks:=t}:=by
 have fx:cw s.heap h':=λb ob z cb=>E b ob (λC=>by rw[C,e]at z;obtain rfl:=aQ z;exact c.fix cb) z;have ab:K.a3≠x:=λC=>by obtain⟨N,y,_⟩:=R.lam;rw[C,e]at y;clear e;obtain rfl:=aQ y;refine aZ c λn q _=>?_;cases q
 have T:F.L≠x:=λC=>by obtain⟨o',_,y,q,_⟩:=R.loc;rw[C,e]at y;obtain rfl:=aQ y;rcases q with q|q;exact c.ne "frame" (by decide) q;exact c.ne "dict" (by decide) q
 refine⟨λb ob ne z=>E b ob (λC=>by rw[C,u]at z;exact aW z)<|R.base b ob ne z,?_,R.tab,R.mods,⟨R.rep.len,λj o p e1 I=>?_,R.rep.nd,R.rep.new⟩,R.gens,R.os,R.stack,R.locals,R.kind,R.glob,R.blt,R.new,R.apart,?_,λenv m=>?_,R.hand⟩;obtain⟨N,y,ht,h⟩:=R.lam;refine⟨N,E _ _ ab y,ht,λpos cv q=>?_⟩;exact aZ (h pos cv q) λc' I k=>a9 c' I<|k.keep fx;have r:=R.rep.obj j o p e1 I;have:=r.keep (τ:=[]) fx (λb m ob z=>E b ob (λC=>by refine aZ (r.cls b m) λaf W l=>?_;rw[C,e]at W;obtain rfl:=aQ W;exact c.led l) z) λt D O=>⟨D,E _ _ (λC=>by rw[C,e]at O;clear e;obtain rfl:=aQ O;exact c.ne "traceback" (by decide) rfl) O,rfl⟩;rwa [be]at this;obtain⟨o',m,y,q,⟨ae,es,k,aa,dd,r⟩,l⟩:=R.loc;refine⟨o',m,E _ _ T y,q,⟨ae,es,k,E _ _ T aa,dd,r⟩,?_⟩;have:=l.keep [] fx;rwa [be]at this;obtain⟨k,L,o',es,n,e1,I,J,U,e5⟩:=R.out env m;exact⟨k,L,o',es,n,e1,I,E _ _ (λC=>by rw[C,e]at J;obtain rfl:=aQ J;exact c.ne "frame" (by decide) U) J,U,e5⟩
def a5.qI(st:a5 p L y u k f H h)(j:k.get? z=none)(E:∀b ob,b≠z->h.get? b=some ob->h'.get? b=some ob):a5 p L y u k f H h':=by refine⟨st.ext,λa o D e=>?_,st.new,λa D C=>?_⟩;exact aZ (st.keep a o D e) λo' I x=>a9 o' (E _ _ (λC=>by rw[C,j]at e;exact aW e) I) x;rcases q:h.get? a with _|ob;exact st.live a D q;rw[E a ob (λC=>D<|by refine Y C ?_;exact j) q]at C;exact aW<|C.symm
end
def fe(f:a6)(h:Heap)(aY:V)(k:Nat)(u:Addr):Prop:=match aY with|.str x=>x.length<=lim/\∃t,h.IsStrIter u "str_ascii_iterator" (tx x) t k\/h.IsStrIter u "str_iterator" (tx x) t k|.tup l=>∃t D,PyProof.Rows.IsTupIter h u t k/\h.get? t=some (iq D)/\aT f h l D|.an lo j=>IsRangeIter h u (lo+k) (j-lo-k) 1\/(j<=lo+k/\∃x left,IsRangeIter h u x left 1/\left<=0)|.ref r=>∃a d,f[r]? =some (a,d)/\h.IsListIter u a k|_=>False
def fe.obj(x:fe f h aY k j):∃o,h.get? j=some o/\jC o.cls:=by
 cases aY<;>try(exact x.elim)
 obtain⟨_,t,⟨o,e,c,_⟩|⟨o,e,c,_⟩⟩:=x;exact a9 o e ⟨_,c,by simp⟩;exact a9 o e ⟨_,c,by simp⟩;exact bV x λt D u _=>dF u λo e c _=>a9 o e ⟨_,c,by simp⟩;exact bV x λa d _ y=>dF y λo e c _=>a9 o e ⟨_,c,by simp⟩;rcases x with x|⟨_,_,_,x,_⟩;exact a9 _ x ⟨_,rfl,by simp⟩;exact a9 _ x ⟨_,rfl,by simp⟩
section
variable{K:al}
def fe.move(x:fe f h aY k u)(e:h'.get? u=h.get? u)(τ)(es:ab=f++τ)(fx:cw h h'):fe ab h' aY k u:=by
 subst es;cases aY<;>try(exact x.elim)
 refine aS x λhl I=>aU I λt x=>⟨hl,t,?_⟩;rcases x with⟨o,z,c,y⟩|⟨o,z,c,y⟩;exact .inl ⟨o,e.trans z,c,y⟩;exact .inr ⟨o,e.trans z,c,y⟩;exact fi x λt D J E j=>dF J λo z c y=>⟨t,D,⟨o,e.trans z,c,y⟩,fx _ _ E<|.inl rfl,j.keep τ fx⟩;exact bV x λa d C N=>dF N λo z c y=>⟨a,d,fT τ C,o,e.trans z,c,y⟩;rcases x with x|⟨aE,a,b,x,l⟩;exact .inl<|e.trans x;exact .inr ⟨aE,a,b,e.trans x,l⟩
theorem fe.at(x:fe f s.heap aY k h)(st:a5 K.a3 [F.L] f H s.heap ab H' h')(R:aV K F loc f H s):fe ab h' aY k h:=by
 refine aZ x.obj λo e c=>aU st.ext λτ es=>x.move ?_ τ es<|st.fx R;refine Y e<|st.keep.plain (λm=>?_) e (c.ne "frame"<|by decide)<|c.ne "traceback"<|by decide
 rcases bC.mp m with m|m;obtain⟨N,j,_⟩:=R.lam;rw[m,j]at e;clear m;obtain rfl:=aQ e;refine aZ c λn q _=>?_;cases q;rcases d2.mp m with m|m;obtain⟨o',_,j,q,_⟩:=R.loc;rw[b8.mp m,j]at e;clear m;obtain rfl:=aQ e;rcases q with q|q;exact c.ne "frame" (by decide) q;exact c.ne "dict" (by decide) q;refine aZ (R.rep.cls m) λo' j l=>?_;rw[j]at e;clear m;obtain rfl:=aQ e;exact c.led l
end
section
variable{R:Result->Shared->Prop}{s:Shared}
def Ly{j f body env}(h:wpAny (model I w) A (pyNext f) (λr y=>match r with
   |none=>R (.ok .next) y
   |some v=>wpAny (model I w) A (letOwnedTupleGo j f v) (λ_ C=>
     wpAny (model I w) A (assign j env v) (λ_ D=>wpAny (model I w) A (execs body env) (λz u=>match z with|.next|.cont=>codeAny (model I w) A (.forLoop j f body [] env) R u|.brk=>R (.ok .next) u|.ret v=>R (.ok<|.ret v) u) (notedBy (model I w) A env λe J=>R (.error e) J) D) (notedBy (model I w) A env λe J=>R (.error e) J) C) (notedBy (model I w) A env λe J=>R (.error e) J) y) (notedBy (model I w) A env λe J=>R (.error e) J) s):
  codeAny (model I w) A (.forLoop j f body [] env) R s:=by refine qH ?_;show wpAny _ A ((forTurn j f body [] env).onRaise λx=>do noteFrame x env;theTreesLotGoes x) _ _ s;refine wpAny_noted ?_;simp only[forTurn];refine aX<|dL<|aX<|wpAny_onRaise<|bY h (λr y E=>?_) λ_ _ h'=>dL h';rcases r with _|v;exact aL ⟨rfl,codeAny_block<|wpAny_execs_nil E⟩;refine aX (bY E (λ_ C N=>?_) λ_ _ h'=>h');refine aX<|bY N (λ_ D O=>aX<|bY O (λz u k=>?_) λ_ _ h'=>h') λ_ _ h'=>h';rcases z with _|_|_|v;exact aL ⟨rfl,k⟩;exact aL k;exact aL ⟨rfl,k⟩;exact aL k
def Co(e:s.heap.get? f=some o)(c:jC o.cls)(h:Q () s):wpAny (model I w) A (letOwnedTupleGo (.Tuple es k p) (.ref f) v) Q U s:=by
 induction v with
 |ref a=>
  refine aX<|wpAny_load e<|aZ c λn j c=>Y j ?_;induction o.data with
  |fields D=>dsimp only;refine Y (bO ?_)<|aL h;rcases c with rfl|rfl|rfl|rfl|rfl<;>simp
  |_=>exact aL h
 |_=>exact aL h
def zR(e:s.heap.get? f=some o)(c:jC o.cls)(h:Q () s):wpAny (model I w) A (letOwnedTupleGo j (.ref f) v) Q U s:=by
 induction j using Expr.casesOn with
 |Tuple=>exact Co e c h|List _ p=>exact Co (es:=[]) (k:=0) (p:=p) e c h|_=>exact aL h
end
section
variable{K:al}
def mU(R:aV K F loc f H s):K.h₀.get? s.heap.objs.size=none:=by rcases q:K.h₀.get? s.heap.objs.size with _|o;rfl;by_cases C:s.heap.objs.size=K.a3;exact absurd C<|R.h6<|ei _;have:=R.base _ o C q;rw[ei]at this;exact aW this
def L4(e:(match o with|some (au.list _)=>true|_=>false)=true):∃l,o=some (.list l):=by
 rcases o with _|o;exact ff e
 .induction o with|list l=>exact⟨l,rfl⟩|_=>exact ff e
def RJ{k:Nat}(e:(match o with|some (au.list l)=>some l[k]? |_=>none)=some r):∃l,o=some (.list l)/\r=l[k]? :=by
 rcases o with _|o;exact aW e
 .induction o with|list l=>exact⟨l,rfl,(aQ e).symm⟩|_=>exact aW e
def Eu(lo j):Builtin.Range.rangeSize lo j 1=if lo<j then j-lo else 0:=by unfold Builtin.Range.rangeSize;refine Y (bZ<|by decide) ?_;split;rw[Int.ediv_one,Int.sub_add_cancel];rfl
def nC(f:-4611686018427387905<=x)(h:x<9223372036854775808):Builtin.Range.rangeFitsLong x=true:=by unfold Builtin.Range.rangeFitsLong;rw[h4<|oD (by decide) f,h4<|nH h<|by decide];rfl
def MD{lo:Int}(h:-(4611686018427387904+1)<lo/\lo<4611686018427387904)(f:-(4611686018427387904+1)<j/\j<4611686018427387904):Builtin.Range.small lo j 1=true:=by
 unfold Builtin.Range.small;rw[Eu,nC (pY h.1)<|lv h.2<|by decide,nC (pY f.1)<|lv f.2<|by decide,nC (by decide)<|by decide];have k:=nC (pY f.1)<|lv f.2<|by decide
 by_cases q:lo<j;rw[bZ q,nC (oD (by decide)<|pY<|Int.sub_pos_of_lt q)<|nH (Int.sub_lt_sub_of_lt_of_le f.2<|Int.add_one_le_of_lt h.1)<|by decide,bZ (show(1:Int)>0 by decide),show j+((1:Int)-1)=j from Int.add_zero j,k,pT];rfl;rw[bO q,nC (by decide)<|by decide];rfl
set_option tactic.hygienic true in
def CE(R:aV K F loc f H s)(q:RV f s.heap aY u)(e:eX aY H=true)(h:∀o,fe f (s.heap.push o) aY 0 s.heap.objs.size->Q (.ref s.heap.objs.size) {s with heap:=s.heap.push o}):wpAny (model I K.w) A (pyIter u) Q U s:=by
 cases q<;>try exact ff e
 rename_i x t aE;rcases N:(tx x).cps.all (·<128);exact wpAny_pyIter_wide N<|h _ ⟨aE,t,.inr ⟨_,dS _ rfl,rfl,rfl⟩⟩;exact wpAny_pyIter_ascii N<|h _ ⟨aE,t,.inl ⟨_,dS _ rfl,rfl,rfl⟩⟩;rename_i l a D C T y;have fx:cw s.heap (s.heap.push {cls:=.type "tuple_iterator",data:=.fields #[.ref a,.int 0 0]}):=λb o e _=>b0 _ e;exact PyProof.Rows.iter_tuple (show IsTup s.heap a D.toArray from⟨_,C,rfl,_,rfl⟩)<|h _ ⟨a,D,⟨_,dS _ rfl,rfl,rfl⟩,b0 _ C,y.fx fx⟩;rename_i i a O J;have e:=e;obtain⟨l,hl⟩:=L4 e;obtain⟨D,n,C,T,y⟩:=R.isList hl J;exact wpAny_pyIter_list (show s.heap.IsList a D.toArray from⟨_,C,rfl,_,rfl⟩)<|h _ ⟨a,O,J,_,dS _ rfl,rfl,rfl⟩;rename_i lo j a t k z C;have e:=cY.mp<|show(c9 lo&&c9 j)=true from e;refine wpAny_pyIter_range C (MD (t2 e.1)<|t2 e.2)<|h _ ?_;refine Y (Eu lo j) ?_;by_cases E:lo<j;refine Y (bZ E) (.inl ?_);have:=dS s.heap (o:={cls:=.type "range_iterator",data:=.fields #[rawInt lo,rawInt<|j-lo,rawInt 1]}) rfl;exact Y (show lo+((0:Nat):Int)=lo by simp+arith)<|Y (show j-lo-((0:Nat):Int)=j-lo by simp+arith) this;refine Y (bO E)<|.inr ⟨oD (hH.mp E)<|Int.le_of_eq (Int.add_zero lo).symm,lo,0,dS _ rfl,by decide⟩
set_option tactic.hygienic true in
def C9(hh:A.handled=none)(R:aV K F loc f H s)(x:fe f s.heap aY k aa)(hn:K.h₀.get? aa=none)(O:E.get? aa=none)(st:a5 K.a3 [F.L] N z E f H s.heap)(e:dC aY k H=some res)(h0:res=none->∀J,aV K F loc f H J->a5 K.a3 [F.L] N z E f H J.heap->(∀b ob,b≠aa->s.heap.get? b=some ob->J.heap.get? b=some ob)->Q none J)(h:∀a u J,res=some a->aV K F loc f H J->a5 K.a3 [F.L] N z E f H J.heap->(∀b ob,b≠aa->s.heap.get? b=some ob->J.heap.get? b=some ob)->RV f J.heap a u->fe f J.heap aY (k+1) aa->Q (some u) J):wpAny (model I K.w) A (pyNext<|.ref aa) Q U s:=by
 refine aZ x.obj λo eo c=>?_;have go:∀(h':Heap)(t:Tok),(∀b ob,b≠aa->s.heap.get? b=some ob->h'.get? b=some ob)->aV K F loc f H {s with heap:=h',toks:=t}/\a5 K.a3 [F.L] N z E f H h'/\cw s.heap h':=λh' t W=>⟨R.qI t eo c hn W,st.qI O W,λb ob eb cb=>W b ob (λC=>by rw[C,eo]at eb;obtain rfl:=aQ eb;exact c.fix cb) eb⟩;have af:∀h',Heap.ExtBut aa s.heap h'->res=none->Q none {s with heap:=h'}:=λh' he hr=>by exact cZ (go h' s.toks he) λR' ae _=>h0 hr _ R' ae he
 cases aY<;>try(exact x.elim)
 .rename_i x';refine aS x λhl ah=>aU ah λt x=>?_;have e:res=(match x'[k]? with|some c=>some (V.str [c])|none=>none):=(aQ e).symm;rcases aP:x'[k]? with _|ch
  .have ab:(tx x').cps[k]? =none:=by simpa using aP
   rw[aP]at e;rcases x with x|x;exact wpAny_pyNext_ascii_end hh x ab λh' he=>af h' he e;exact wpAny_pyNext_wide_end hh x ab λh' he=>af h' he e
  .have ab:(tx x').cps[k]? =some ch:=by simpa using aP
   rw[aP]at e;rcases x with x|x;refine wpAny_pyNext_ascii_item x ab λh' j sb=>?_;have W:∀b ob,b≠aa->s.heap.get? b=some ob->h'.get? b=some ob:=λb ob nb eb=>(sb.2 b nb).trans eb;exact cZ (go h' (s.toks+1) W) λR' ae fx=>h _ _ _ e R' ae W (.str<|show(1:Nat)<=lim by decide) ⟨hl,t,.inl j⟩;refine wpAny_pyNext_wide_item x ab λh' j sb=>?_;have W:∀b ob,b≠aa->s.heap.get? b=some ob->h'.get? b=some ob:=λb ob nb eb=>(sb.2 b nb).trans eb;exact cZ (go h' (s.toks+1) W) λR' ae fx=>h _ _ _ e R' ae W (.str<|show(1:Nat)<=lim by decide) ⟨hl,t,.inr j⟩
 .rename_i l;refine fi x λt D x et y=>?_;have e:res=l[k]? :=(aQ e).symm;have T:IsTup s.heap t D.toArray:=⟨_,et,rfl,_,rfl⟩;rcases aP:l[k]? with _|a
  .have ab:D.toArray[k]? =none:=by refine Y sH ?_;rw[List.getElem?_eq_none_iff]at aP⊢;exact Y y.length aP
   exact PyProof.Rows.next_tuple_end hh x T ab λh' he=>af h' he<|e.trans aP
  refine aZ (pE y aP) λu eu qu=>PyProof.Rows.next_tuple_item x T eu λh' j sb=>?_;have W:∀b ob,b≠aa->s.heap.get? b=some ob->h'.get? b=some ob:=λb ob nb eb=>(sb.2 b nb).trans eb;exact cZ (go h' s.toks W) λR' ae fx=>h _ _ _ (e.trans aP) R' ae W (qu.fx fx) ⟨t,D,j,fx _ _ et<|.inl rfl,y.fx fx⟩
 .rename_i r;refine bV x λa d' ea x=>?_;have e:(match H[r]? with|some (au.list l)=>some l[k]? |_=>none)=some res:=e;refine aZ (RJ e) λl hl e=>?_
  .obtain⟨D,n,eb,la,y⟩:=R.isList hl ea;have T:s.heap.IsList a D.toArray:=⟨_,eb,rfl,_,rfl⟩;rcases aP:l[k]? with _|b
   .have ab:D.toArray[k]? =none:=by refine Y sH ?_;rw[List.getElem?_eq_none_iff]at aP⊢;exact Y y.length aP
    exact wpAny_pyNext_list_end hh x T ab λh' he=>af h' he<|e.trans aP
   refine aZ (pE y aP) λu eu qu=>wpAny_pyNext_list_item x T eu λh' j sb=>?_;have W:∀b ob,b≠aa->s.heap.get? b=some ob->h'.get? b=some ob:=λb ob nb eb=>(sb.2 b nb).trans eb;exact cZ (go h' s.toks W) λR' ae fx=>h _ _ _ (e.trans aP) R' ae W (qu.fx fx) ⟨a,d',ea,j⟩
 rename_i lo j;have e:res=(match du (lo+k) j with|true=>some (V.int<|lo+k)|false=>none):=(aQ e).symm;revert e;rcases aP:du (lo+k) j;intro e;rw[ib,DB]at aP;rcases x with x|⟨_,_,_,x,hl⟩;exact wpAny_pyNext_range_end hh x (Y (Int.sub_sub ..)<|Int.sub_nonpos_of_le<|hH.mp aP) λh' he=>af h' he e;exact wpAny_pyNext_range_end hh x hl λh' he=>af h' he e;intro e;rw[ib,gE]at aP;rcases x with x|⟨aE,_⟩;refine wpAny_pyNext_range_item x (Y (Int.sub_sub ..)<|Int.sub_pos_of_lt aP) λh' ag sb=>?_;have W:∀b ob,b≠aa->s.heap.get? b=some ob->h'.get? b=some ob:=λb ob nb eb=>(sb.2 b nb).trans eb;exact cZ (go h' (s.toks+1) W) λR' ae fx=>h _ _ _ e R' ae W .int<|.inl<|Y (show lo+((k+1:Nat):Int)=lo+(k:Int)+1 by simp+arith)<|Y (show j-lo-((k+1:Nat):Int)=j-lo-(k:Int)-1 by simp+arith) ag;exact absurd aP<|hH.mpr aE
end
structure oa(I:Program)(K:al)(d:Nat)(v:dQ):Prop where
 fr:∀{F:bI}{c:bh}{loc:Loc}{t:Expr}{aY:V}{k:Nat}{it:Addr}{b:List Stmt}{f C:a6}{H y:aq}{h:Heap}{s:Shared}{r:RS},fm d c F->F.hd=none->aV K F loc f H s->fe f s.heap aY k it->K.h₀.get? it=none->h.get? it=none->
  a5 K.a3 [F.L] C y h f H s.heap->v.fr c t aY k b loc H=some r->codeAny (model I K.w) F.A (.forLoop t (.ref it) b [] F.env) (fq K F r C y h) s
section
variable{K:al}
def A5(G:TabC K T B)(ar:bB I K d v)(W:eV I K d v)(Z:oa I K d v)(E:fm d c F)(hd:F.hd=none)(R:aV K F loc f H s)(x:fe f s.heap aY k U)(O:K.h₀.get? U=none)(N:h.get? U=none)(st:a5 K.a3 [F.L] C y h f H s.heap)(e:mn T v c t aY k b loc H=some r):codeAny (model I K.w) F.A (.forLoop t (.ref U) b [] F.env) (fq K F r C y h) s:=by
 have D:=G.fY;unfold mn at e;revert e;rcases en:dC aY k H with _|res;exact aW
 .intro e;refine Ly<|C9 (R.hand.none hd) R x O N st en (λhr J R' ae _=>?_) λa u J hr R' ae _ q x'=>?_
  .clear en;subst hr;exact fk (z:=.next) R' ae trivial e
  .clear en;subst hr;dsimp only at e;obtain⟨o,eo,co⟩:=x'.obj;refine zR eo co ?_;revert e;rcases es:i' T v c t a loc H with _|rs;exact aW
   .intro e;refine bY (CG G ar E.toCtxOk R' q (.refl ..) es) (λ_ ap⟨z,l,ao,ak,eq,ab,af,xx⟩=>?_) λev ap⟨l,ao,ak,i,a',dd,eq,ab,af,e1,e2,ie⟩=>?_
    .clear es;subst eq;cases z<;>try(exact xx.elim)
     dsimp only at e;have aq:=x'.at af R';have am:=ae.trans af λ_ m=>.inl m;revert e;rcases em:cV v c b l ak with _|q;exact aW
     .intro e;refine bY (jS W E ab q em) (λj an⟨z,ai,ah,al,eq,aa,ag,xx⟩=>?_) λev an⟨ai,ah,al,i,a',dd,eq,aa,ag,e1,e2,ie⟩=>?_
      .clear em;subst eq;have aj:=am.trans ag λ_ m=>.inl m;have again:v.fr c t aY (k+1) b ai al=some r->codeAny (model I K.w) F.A (.forLoop t (.ref U) b [] F.env) (fq K F r C y h) an:=λe=>Z.fr E hd aa (aq.at ag ab) O N aj e;cases z<;>cases j<;>first|(exact xx.elim;done)|skip
       exact again e
       .clear xx again;obtain rfl:=aQ e;exact⟨.next,_,ah,_,rfl,aa,aj,trivial⟩
       exact again e;clear again;obtain rfl:=aQ e;exact⟨.ret _,_,ah,_,rfl,aa,aj,xx⟩
      clear em;subst eq;obtain rfl:=aQ e;exact ci.qJ E.h9 D ⟨ai,ah,_,_,a',dd,rfl,aa,am.trans ag λ_ m=>.inl m,e1,e2,ie⟩
    clear es;subst eq;obtain rfl:=aQ e;exact ci.qJ E.h9 D ⟨l,ao,_,_,a',dd,rfl,ab,ae.trans af λ_ m=>.inl m,e1,e2,ie⟩
def Aa(h:j0 x=true):foldedSetIterable x env v=pure v:=by cases x<;>first|rfl|exact ff h
def Mc(G:TabC K T B)(ab:bB I K d v)(Z:oa I K d v)(E:fm d c F)(R:aV K F loc f H s)(e:ej T v c (.For t i b [] p) loc H=some r):wpAny (model I K.w) F.A (exec (.For t i b [] p) F.env) (cR K F r f H s.heap) (ci K F r f H s.heap) s:=by
 have D:=G.fY;refine is e λy e=>?_;simp only[fW]at y;have hd:F.hd=none:=by have:=y.2;rw[E.hd]at this;rcases q:F.hd;rfl;rw[q]at this;exact ff this
 refine wpAny_For (Sn.hL (.refl ..) (ab.e E.toCtxOk R) e λaY u ae aa N j U _ q k=>?_) λx=>Aa y.1;refine is k λh k=>CE j q h λo x=>aS (j.keeps (h':=N.heap.push o) N.toks λb ob e=>b0 _ e) λO W=>?_;refine fJ (Z.fr E hd O x (mU j) (ei _) W k) λres J C=>?_;have C:=fq.from U C;rcases res with e|z;exact tr D C;exact C
end
section
variable{K:al}{loc:Loc}
def aV.back(R:aV K F loc f H s)(y:aV K j ag ab H' J)(st:a5 K.a3 h f H s.heap ab H' J.heap)(W:∀a∈h,s.heap.get? a=none):aV K F loc ab H' J:=by
 refine aU st.ext λτ ae=>?_;subst ae;have old:∀{b o},s.heap.get? b=some o->b∉bz H f->b≠K.a3->∃o',J.heap.get? b=some o'/\Sm o o':=λ{b o} e nf D=>st.keep b o (λm=>by rcases bC.mp m with m|m;exact D m;rcases d2.mp m with m|m;rw[W b m]at e;exact aW e;exact nf m) e;have fx:cw s.heap J.heap:=λb o e c=>by
  have nf:b∉bz H f:=λm=>by refine aZ (R.rep.cls m) λo' u l=>?_;rw[u]at e;obtain rfl:=aQ e;exact c.led l
  have D:b≠K.a3:=λm=>by obtain⟨N,u,_⟩:=R.lam;rw[m,u]at e;obtain rfl:=aQ e;rcases c with c|c|c|c|c<;>cases c
  exact aZ (old e nf D) λo' u x=>Y u<|Y (x.plain (c.ne "frame"<|by decide)<|c.ne "traceback"<|by decide) rfl
 have aa:F.L≠K.a3:=λC=>R.on<|by refine Y C.symm ?_;exact .head _
 refine⟨y.base,y.lam,R.tab,R.mods,y.rep,y.gens,y.os,R.stack,R.locals,R.kind,R.glob,R.blt,R.new,λm=>?_,?_,λenv m=>?_,R.hand.more st⟩;rcases st.new _ m with m|m;exact R.apart m;exact R.alive m
 .obtain⟨o,m,e,q,⟨af,es,k,O,T,r⟩,l⟩:=R.loc;rw[e]at O;obtain rfl:=aQ O;refine aZ (old e R.apart aa) λo' u x=>?_;have aE:=x.data λC=>by rcases q with q|q<;>rw[q]at C<;>exact absurd (fh C) (by decide)
  exact⟨o',m,u,by refine Y aE.2 ?_;exact q,⟨o',es,k,u,by refine Y aE.1 ?_;exact T,r⟩,l.keep τ fx⟩
 .obtain⟨k,L,o,es,n,e1,U,z,E,I⟩:=R.out env m;have nf:L∉bz H f:=λm=>by refine aZ (R.rep.cls m) λo' u l=>?_;rw[u]at z;clear m I;obtain rfl:=aQ z;exact l.nf.1 E
  have D:L≠K.a3:=λC=>by obtain⟨N,u,_⟩:=R.lam;rw[C,u]at z;clear I;obtain rfl:=aQ z;cases E
  refine aZ (old z nf D) λo' u x=>?_;have aE:=x.data λC=>by rw[E]at C;exact absurd (fh C)<|by decide
  exact⟨k,L,o',es,n,e1,U,u,aE.2.trans E,aE.1.trans I⟩
def aV.B7(R:aV K F loc f H s)(t:Tok)(e:s.heap.get? x=some o)(c1:¬kP o.cls)(ab:∀env∈F.gi::F.outer,env.frame≠some x)(U:o.cls≠.type "traceback")(O:x≠F.L)(nl:x≠K.a3)(nf:x∉bz H f)(h:K.h₀.get? x=none)(z:∀b ob,b≠x->s.heap.get? b=some ob->h'.get? b=some ob):aV K F loc f H {s with heap:=h',toks:=t}:=by have fx:cw s.heap h':=λb ob y W=>z b ob (λC=>by rw[C,e]at y;obtain rfl:=aQ y;exact c1 W) y;refine⟨λb ob ne y=>z b ob (λC=>by rw[C,h]at y;exact aW y)<|R.base b ob ne y,?_,R.tab,R.mods,⟨R.rep.len,λj o p e1 E=>?_,R.rep.nd,R.rep.new⟩,R.gens,R.os,R.stack,R.locals,R.kind,R.glob,R.blt,R.new,R.apart,?_,λenv m=>?_,R.hand⟩;obtain⟨N,I,ht,u⟩:=R.lam;refine⟨N,z _ _ (gg nl) I,ht,λpos cv q=>?_⟩;exact aZ (u pos cv q) λT E k=>a9 T E<|k.keep fx;have r:=R.rep.obj j o p e1 E;have:=r.keep (τ:=[]) fx (λb m ob y=>z b ob (λC=>nf<|by refine Y C.symm ?_;exact ep e1 E b m) y) λt D J=>⟨D,z _ _ (λC=>by rw[C,e]at J;clear e c1;obtain rfl:=aQ J;exact U rfl) J,rfl⟩;rwa [be]at this;obtain⟨o',m,I,q,⟨ae,es,k,aa,dd,r⟩,l⟩:=R.loc;refine⟨o',m,z _ _ (gg O) I,q,⟨ae,es,k,z _ _ (gg O) aa,dd,r⟩,?_⟩;have:=l.keep [] fx;rwa [be]at this;obtain⟨k,L,o',es,n,e1,E,e3,e4,e5⟩:=R.out env m;exact⟨k,L,o',es,n,e1,E,z _ _ (λC=>ab env m<|Y e1<|Y C rfl) e3,e4,e5⟩
def aV.turn(R:aV K F loc f H s)(t:Tok)(e:s.heap.get? j=some o)(c1:¬kP o.cls)(c2:o.cls≠.type "frame")(x:o.cls≠.type "traceback")(I:j≠F.L)(J:j≠K.a3)(nf:j∉bz H f)(h:K.h₀.get? j=none)(E:∀b ob,b≠j->s.heap.get? b=some ob->h'.get? b=some ob):aV K F loc f H {s with heap:=h',toks:=t}:=R.B7 t e c1 (λenv m C=>by obtain⟨k,L,o',es,n,e1,y,u,z,D⟩:=R.out env m;rw[C]at e1;clear y;obtain rfl:=aQ e1;rw[e]at u;clear D;obtain rfl:=aQ u;exact c2 z) x I J nf h E
def aV.adopt(R:aV K F loc f H s)(nd:(foot o p).Nodup)(nf:∀a∈foot o p,a≠F.L/\a∉bz H f/\K.h₀.get? a=none)(r:RO K.w.params (f++[p]) s.heap o p):aV K F loc (f++[p]) (H++[o]) s:=by
 have fx:cw s.heap s.heap:=.refl _;have x:bz (H++[o]) (f++[p])=bz H f++foot o p:=by refine Y (so R.rep.len) ?_;simp[bz]
 refine⟨R.base,R.lam,R.tab,R.mods,⟨by exact Y a0<|Y a0<|Y R.rep.len rfl,λj ob q h k=>?_,?_,λa m=>?_⟩,R.gens,R.os,R.stack,R.locals,R.kind,R.glob,R.blt,R.new,λm=>?_,?_,R.out,?_⟩
 .by_cases u:j<H.length;rw[dO u]at h;rw[dO<|by refine Y R.rep.len ?_;exact u]at k;exact(R.rep.obj j ob q h k).keep fx (λa _ z e=>e) λt D e=>⟨D,e,rfl⟩
  .have y:j<(H++[o]).length:=(b4.mp h).1;have:j=H.length:=by simp at y;exact cf (aR y<|by simp+arith)<|aR (mm u)<|by simp+arith
   clear u y;subst this;rw[dp<|ba _,ew]at h;rw[<-R.rep.len,dp<|ba _,ew]at k;simp only[qO,qM]at h k;subst h k;exact r
 refine Y x (iG.mpr ⟨R.rep.nd,nd,λa m b T q=>?_⟩);subst q;exact(nf a T).2.1 m;rw[x]at m;rcases d2.mp m with m|m;exact R.rep.new _ m;exact(nf a m).2.2;rw[x]at m;rcases d2.mp m with m|m;exact R.apart m;exact(nf _ m).1 rfl;obtain⟨o',m,e,q,n,l⟩:=R.loc;exact⟨o',m,e,q,n,l.keep _ fx⟩;have hh:=R.hand;unfold eK at hh⊢;split at hh;exact hh;exact bV hh λa d e q=>dX a d (fT _ e) q
end
def a5.fresh(st:a5 p L f H h ab H' h')(k:∀a∈L,h.get? a=none):a5 p N f H h ab H' h':=
 ⟨st.ext,λa o j e=>st.keep a o (λm=>by
  rcases bC.mp m with m|m;exact j<|by refine Y m ?_;exact .head _
  rcases d2.mp m with m|m;rw[k a m]at e;exact aW e;exact j<|.tail _<|gA _ m) e,st.new,st.live⟩
def a5.adopt(st:a5 p L f H h ab H' h')(hl:ab.length=H'.length)(bk:∀a∈foot o q,h.get? a=none):a5 p L f H h (ab++[q]) (H'++[o]) h':=by refine aU st.ext λτ j=>?_;subst j;refine⟨⟨τ++[q],by simp⟩,st.keep,λa m=>?_,st.live⟩;rw[so hl]at m;rcases d2.mp m with m|m;exact st.new a m;exact .inr<|bk a<|by simpa[bz]using m
def jM(f:a6)(loc:Loc)(ae:List<|Str×Addr):Prop:=∀x i,aC x loc=some (.ref i)->∃a d,ae.lookup x=some a/\f[i]? =some (a,d)
def jM.more(x:jM f loc ae)(τ):jM (f++τ) loc ae:=λy i e=>by exact bV (x y i e) λa d e1 h=>dX a d e1<|fT τ h
def gR.gT(c:gR f cl k):jM f (db cl) k:=c
section
variable{K:al}
theorem qr(z)(j:∀name kind ae,z (name,kind) ae=if kind==.cell then(do let a<-alloc {cls:=.type "cell",data:=.cell none};pure (.yield<|(name,a)::ae))else pure<|.yield ae):∀N{y C ae f H k s Q},aV K F loc f H s->jM f y ae->eB N y H=(C,k)->(∀ab J D,aV K F loc ab k J->a5 K.a3 [F.L] f H s.heap ab k J.heap->jM ab C D->(∀b o,s.heap.get? b=some o->J.heap.get? b=some o)->Q D J)->wpAny (model I K.w) A (forIn N ae z) Q U s
 |[],y,C,ae,f,H,k,s,Q,R,ok,e,h=>by refine zp e λah ai=>?_;subst ah ai;exact Y jG<|aL<|h f s ae R (.refl ..) ok λ_ _ e=>e
 |(name,kind)::r,y,C,ae,f,H,k,s,Q,R,ok,e,h=>by
  refine Y (hR ..)<|Y (j ..) ?_;rcases aP:kind==NameKind.cell
  .refine Y (bO<|by decide) ?_;have E:kind≠.cell:=by simpa using aP
   have e':eB r y H=(C,k):=by refine Y e.symm ?_;cases kind<;>first|rfl|exact absurd rfl E
   exact aX<|aL<|qr z j r R ok e' h
  .have E:kind=.cell:=by simpa using aP
   clear aP;subst E;refine Y (bZ rfl)<|aX<|aX<|q0<|aL ?_;have kp:∀b ob,s.heap.get? b=some ob->(s.heap.push {cls:=.type "cell",data:=.cell none}).get? b=some ob:=λb ob e=>b0 _ e;obtain⟨O,st⟩:=R.add (o:=.cell none) (p:=(s.heap.objs.size,0)) (h':=s.heap.push {cls:=.type "cell",data:=.cell none}) s.toks kp
    (λa m=>by refine Y (b8.mp m) ?_;exact⟨ei _,R.h6<|ei _⟩) (ee.mpr ⟨by simp,kO⟩) (λfx=>dS _ rfl)
   have hl:(f++[(s.heap.objs.size,0)])[H.length]? =some (s.heap.objs.size,0):=by refine Y R.rep.len.symm<|Y (dp<|ba _)<|Y (ew ..) ?_;rfl
   refine qr z j r O (λx i u=>?_) e λab J D T ag af aa=>?_
   .unfold aC at u;rcases q:sq name x
    .rw[q]at u;refine bV (ok x i u) λW d' e1 e2=>dX W d' ?_<|fT _ e2;refine Y i9 ?_;have:(x==name)=false:=by simpa using(lA q).symm
     exact Y this e1
    have:=dr.mp q;subst this;rw[q]at u;obtain rfl:=V.ref.inj<|aQ u;exact dX _ _ (by simp) hl
   exact h ab J D T (st.trans ag λ_ m=>.inl m) af λb o e=>aa b o<|kp b o e
end
def Iy(h:u9 a b=true):a=b:=by cases a<;>cases b<;>first|rfl|exact ff h
def Ma(h:wk o k=true):o=some k:=by rcases o with _|j;exact ff h;exact az some<|Iy h
def Ou{all:List (Str×NameKind)}:rQ all l=true->∀p∈l,aC p.1 all=some p.2:=by
 induction l with
 |nil=>exact λ_ _ m=>nomatch m|cons q r f=>intro e p m;have e:=(cY).mp<|show(wk (aC q.1 all) q.2&&rQ all r)=true from e;rcases bC.mp m with C|m;subst C;exact Ma e.1;exact f e.2 p m
def Qh{f:Type}{a r:f}{P:Prop}(e:(bif b then some a else none)=some r)(k:b=true->a=r->P):P:=by cases b;exact aW e;exact k rfl<|aQ e
def FD{P:Prop}(e:g0 sc loc ((x,.free)::r)=some cl)(k:∀i l,vZ (aC x sc)=true->aC x loc=some (.ref i)->g0 sc loc r=some l->(x,i)::l=cl->P):P:=aK (show ob (aC x loc) (λa=>ob (fG a) λi=>ob (g0 sc loc r) λl=>bif vZ (aC x sc)then some ((x,i)::l)else none)=some cl from e) λa f e=>aK e λi N e=>aK e λl hl e=>Qh e λu e=>k i l u (f.trans<|az some<|iD N) hl e
structure CS(sc:Scope):Prop where
 ns:∀p∈sc.names,aC p.1 sc.names=some p.2
 kind:sc.kind=.function
 gen:sc.isGenerator=false
 co:sc.isCoroutine=false
def wA(h:iu sc=true):CS sc:=by unfold iu at h;simp only[fW,Bool.not_eq_true']at h;refine⟨Ou h.1.1.1,?_,h.1.2,h.2⟩;have:=h.1.1.2;cases q:sc.kind<;>rw[q]at this<;>first|rfl|exact ff this
def KeysIn(all:List<|Str×NameKind)(loc:Loc):Prop:=∀x a,aC x loc=some a->∃k,(k=.cell\/k=.free)/\aC x all=some k
def yV{all:List (Str×NameKind)}:∀{j loc ag H H'},(∀p∈j,aC p.1 all=some p.2)->KeysIn all loc->eB j loc H=(ag,H')->KeysIn all ag:=by
 intro j;induction j with
 |nil=>intro _ _ _ _ _ k e;refine zp e λD E=>?_;subst D E;exact k
 |cons C r z=>
  rcases C with⟨x,kd⟩;intro loc ag H H' f k e;have u:=λp m=>f p<|.tail _ m;rcases kd;case cell=>refine z u (λy a h=>?_)<|show eB r ((x,.ref H.length)::loc) (H++[.cell none])=(ag,H') from e;simp only[aC]at h;rcases q:sq x y;rw[q]at h;exact k y a h;have:=dr.mp q;clear h q;subst this;exact a9 .cell (.inl rfl)<|f _<|.head _
  all_goals exact z u k<|show eB r loc H=(ag,H') from e
def M8{all:List (Str×NameKind)}:∀{k cl},(∀p∈k,aC p.1 all=some p.2)->g0 sc loc k=some cl->KeysIn all (db cl):=by
 intro k;induction k with
 |nil=>intro _ _ e;obtain rfl:=aQ e;exact λx a h=>aW h
 |cons C r z=>
  rcases C with⟨x,kd⟩;intro cl f e;have u:=λp m=>f p<|.tail _ m;rcases kd;case free=>refine FD e λi l _ _ hl e=>?_;subst e;intro y a j;simp only[db,aC]at j;rcases q:sq x y;rw[q]at j;exact z u hl y a j;have:=dr.mp q;clear j q;subst this;exact a9 .free (.inr rfl)<|f _<|.head _
  all_goals exact z u<|show g0 sc loc r=some cl from e
section
variable{K:al}
set_option tactic.hygienic true in
def G9(E:CtxOk d c F)(R:aV K F loc f H s)(O:∀name kind W,z (name,kind) W=if kind==.free then(do let a<-cellOf F.env name;pure (.yield<|(name,a)::W))else pure<|.yield W):∀{aa cl} U,g0 c.sc loc aa=some cl->∃W,forIn aa U z=pure W/\(∀x i,aC x (db cl)=some (.ref i)->W.lookup x=F.env.cells.lookup x/\∃a dd,F.env.cells.lookup x=some a/\f[i]? =some (a,dd))/\∀x,aC x (db cl)=none->W.lookup x=U.lookup x:=by
 intro aa;induction aa with
 |nil=>intro cl U e;obtain rfl:=aQ e;exact fI U (Y jG rfl) (λx i h=>nomatch h) λ_ _=>rfl
 |cons q9 r ab=>
  rcases q9 with⟨x,kd⟩;intro cl U e;by_cases aP:kd=.free
  .subst aP;refine FD e λi l u N hl e=>?_;subst e;have ae:aC x F.env.scope.names=some .cell\/aC x F.env.scope.names=some .free:=by
    revert u;rcases q:aC x c.sc with _|k;exact ff
    .intro u;cases k<;>first|exact ff u|skip
     exact .inl<|E.kn q<|by decide
     exact(E.kl q).elim .inr λC=>.inl C.2
   obtain⟨oL,m,eL,cL,n,lo⟩:=R.loc;refine bV (lo.gT x i ae N) λa dd e1 e2=>dF (ab ((x,a)::U) hl) λW J D I=>fI W ?_ (λy j T=>?_) λy T=>?_;refine Y (hR ..) (Y (O ..)<|Y (bZ<|show(NameKind.free==NameKind.free)=true from rfl) ?_);unfold cellOf;exact Y e1 J
   .unfold db aC at T;rcases q:sq x y;rw[q]at T;exact D y j T
    .have:=dr.mp q;subst this;rw[q]at T;obtain rfl:=V.ref.inj<|aQ T;refine⟨?_,a,dd,e1,e2⟩;rcases q2:aC x (db l)with _|b;refine Y (I x q2)<|Y e1 ?_;simp
     .have:∃j,b=.ref j:=by
       have af:∀(l:List<|Str×Nat)(b:V),aC x (db l)=some b->∃j,b=.ref j:=by
        intro l;induction l with
        |nil=>intro b h;exact aW h
        |cons p l ih=>intro b h;unfold db aC at h;split at h;obtain rfl:=aQ h;exact⟨_,rfl⟩;exact ih b h
       exact af l b q2
      refine aU this λj ag=>?_;subst ag;exact(D x j q2).1
   .unfold db aC at T;revert T;rcases q:sq x y
    .intro T;refine Y (I y T)<|Y i9 ?_;have:(y==x)=false:=by simpa using(lA q).symm
     exact Y this rfl
    intro T;exact aW<|T.symm
  .have e':g0 c.sc loc r=some cl:=by refine Y e.symm ?_;cases kd<;>first|rfl|exact absurd rfl aP
   refine dF (ab U e') λW J D I=>fI W ?_ D I;exact Y (hR ..)<|Y (O ..)<|Y (bO<|by simpa using aP) J
def AE(E:CtxOk d c F)(R:aV K F loc f H s)(e:g0 c.sc loc scope.names=some cl):∃h,closureFor scope F.env=pure h/\gR f cl h:=by simp only[closureFor];refine dF (G9 (z:=λx r=>if(x.snd==NameKind.free)=true then(do let a<-cellOf F.env x.fst;pure (ForInStep.yield<|(x.fst,a)::r))else pure<|ForInStep.yield r) E R (λ_ _ _=>rfl) [] e) λh J D _=>a9 h ?_ λx i k=>?_;exact Y J rfl;exact aS (D x i k) λI C=>bV C λa j u y=>dX a j (I.trans u) y
end
noncomputable abbrev r8(env:Env):Expr->Bool->Sem (ForInStep Bool):=λc r=>if r=true then do let ok<-isTrue c env (eval c env);pure (ForInStep.yield ok)else pure<|ForInStep.yield r
section
variable{I:Program}{w:World}{A:Around}{R:Result->Shared->Prop}{s:Shared}
def Hr(u k iter)(y)(scope)(pos)(h U)(env):compTurn (.ListComp u [⟨k,iter,y,0⟩] scope pos) 0 h U env=(standAt iter.pos>>=λ_=>pyNext h>>=λr=>match r with
   |none=>pure<|.done .next
   |some v=>letOwnedTupleGo k h v>>=λ_=>assign k env v>>=λ_=>
    (forIn y true<|r8 env)>>=λok=>
    if ok=true then(eval u env>>=λx=>call (.builtin "list.append") [U,x]>>=λ_=>pure ())>>=λ_=>again<|.compLoop (.ListComp u [⟨k,iter,y,0⟩] scope pos) 0 h U env
    else again<|.compLoop (.ListComp u [⟨k,iter,y,0⟩] scope pos) 0 h U env):=by rfl
def N9{u iter:Expr}{y:List Expr}{scope:Scope}{pos:Pos}{f U:Value}{env:Env}(h:wpAny (model I w) A (pyNext f) (λr z=>match r with
   |none=>R (.ok .next) z
   |some v=>wpAny (model I w) A (letOwnedTupleGo u f v) (λ_ J=>wpAny (model I w) A (assign u env v) (λ_ N=>
     wpAny (model I w) A (forIn y true<|r8 env) (λok D=>match ok with|true=>wpAny (model I w) A (eval k env) (λx O=>wpAny (model I w) A (call (.builtin "list.append") [U,x]) (λ_ T=>codeAny (model I w) A (.compLoop (.ListComp k [⟨u,iter,y,0⟩] scope pos) 0 f U env) R T) (λ_ _=>False) O) (λ_ _=>False) D|false=>codeAny (model I w) A (.compLoop (.ListComp k [⟨u,iter,y,0⟩] scope pos) 0 f U env) R D) (λ_ _=>False) N) (λ_ _=>False) J) (λ_ _=>False) z) (λ_ _=>False) s):
  codeAny (model I w) A (.compLoop (.ListComp k [⟨u,iter,y,0⟩] scope pos) 0 f U env) R s:=by refine qH ?_;show wpAny _ A ((compTurn (.ListComp k [⟨u,iter,y,0⟩] scope pos) 0 f U env).onRaise λx=>do noteFrame x env;theTreesLotGoes x) _ _ s;refine wpAny_noted<|Y (Hr ..)<|aX<|dL<|aX<|bY h (λr z j=>?_) λ_ _ C=>C.elim;rcases r with _|v;exact aL j;refine aX (bY j (λ_ J W=>aX<|bY W (λ_ N aa=>aX<|bY aa (λok D E=>?_) λ_ _ C=>C.elim) λ_ _ C=>C.elim) λ_ _ C=>C.elim);rcases ok;exact Y (bO<|by decide)<|aL ⟨rfl,E⟩;exact Y (bZ rfl)<|aX<|aX<|bY E (λx O ab=>aX<|bY ab (λ_ T ae=>aL<|aL ⟨rfl,ae⟩) λ_ _ C=>C.elim) λ_ _ C=>C.elim
end
def Uh:∀{f:List Expr},(forIn f false (r8 env):Sem Bool)=pure false:=by
 intro f;induction f with
 |nil=>exact Y jG rfl|cons x f h=>refine Y (hR ..) ?_;show(pure (ForInStep.yield false)>>=_:Sem Bool)=_;exact h
def vi(e:pB m k=some r):∃a H,m=some (.ok a H)/\k a H=some r:=by rcases m with _|q;exact aW e;rcases q with⟨a,H⟩|_;exact dX a H rfl e;exact aW e
section
variable{I:Program}{K:al}{d:Nat}{v:dQ}{F:bI}{c:bh}{loc:Loc}{f ag:a6}{H T:aq}{j:Heap}{s:Shared}
def Sn.AD(h:Sn I K F loc ρ m t f H s)(e:m=some (.ok a H'))(g:∀w ab J,aV K F loc ab H' J->a5 K.a3 [F.L] f H s.heap ab H' J.heap->ρ ab J.heap a w->G w J):wpAny (model I K.w) F.A t G (λ_ _=>False) s:=by refine bY (h _ e) (λw J⟨ab,k,j,ae,u,q,x⟩=>?_) λev J⟨ab,k,i,u,d,j,ae,e1,y,z,x⟩=>nomatch x;cases q;exact g w ab J j ae x
def Sj(T:bB I K d v)(E:CtxOk d c F):∀{f H H' s q G},aV K F loc f H s->lH v c loc .And h H=some (.ok q H')->(∀ab J,aV K F loc ab H' J->a5 K.a3 [F.L] f H s.heap ab H' J.heap->G q J)->wpAny (model I K.w) F.A (forIn h true<|r8 F.env) G (λ_ _=>False) s:=by
 induction h with
 |nil=>intro f H H' s q G R e g;cases e;exact Y jG<|aL<|g f s R<|.refl ..
 |cons x h C=>intro f H H' s q G R e g;unfold lH at e;refine Y (hR ..) ?_;revert e;rcases k:v.t c loc x H with _|D;intro e;exact aW e;intro e;rcases D with⟨b,y⟩|⟨i,y⟩;simp only[bd]at e;refine aX ?_;show wpAny _ _ (if true=true then(do let ok<-isTrue x F.env (eval x F.env);pure (ForInStep.yield ok))else pure<|ForInStep.yield true) _ _ _;refine Y (bZ rfl)<|aX<|Sn.AD (T.t E R) k λw O N j u x=>aL ?_;cases x;rcases b;clear k;cases e;dsimp only;exact Y Uh<|aL<|g O N j u;exact C j e λab J z ae=>g ab J z<|u.trans ae λ_ m=>.inl m;cases e
def LstAt(K:al)(F:bI)(f:a6)(H:aq)(h:Heap)(aa:Addr)(U:List V):Prop:=(∃D n,h.get? aa=some (eA D n)/\D.length<=lim/\aT f h U D)/\aa≠F.L/\aa≠K.a3/\aa∉bz H f/\K.h₀.get? aa=none
theorem LstAt.at(x:LstAt K F f H s.heap aa U)(st:a5 K.a3 [F.L] f H s.heap ab H' h')(R:aV K F loc f H s):LstAt K F ab H' h' aa U:=by refine oT x λk h N O j=>fi k λD n e hl q=>⟨⟨D,n,?_,hl,q.at st R⟩,h,N,λm=>?_,j⟩;refine st.keep.plain (λm=>?_) e (by intro C;exact absurd (fh C)<|by decide) (by intro C;exact absurd (fh C)<|by decide);rcases bC.mp m with m|m;exact N m;rcases d2.mp m with m|m;exact h<|b8.mp m;exact O m;rcases st.new _ m with m|m;exact O m;rw[e]at m;exact aW<|m.symm
def yl(K:al)(F:bI)(aa:Addr)(r:R<|List V)(f:a6)(H:aq)(h:Heap)(res:Result)(J:Shared):Prop:=res=.ok .next/\∃l ab H' ag,r=.ok l H'/\aV K F ag ab H' J/\a5 K.a3 [F.L] f H h ab H' J.heap/\LstAt K F ab H' J.heap aa l
structure oR(I:Program)(K:al)(d:Nat)(v:dQ):Prop where
 lc:∀{F:bI}{c:bh}{loc:Loc}{x:Str}{elt:Expr}{ifs:List Expr}{aY:V}{k:Nat}{U:List V}{it aa:Addr}{f ag:a6}{H T:aq}{j:Heap}{s:Shared}{r:R (List V)}{px:Pos}{iter:Expr}{scope:Scope}{pos:Pos},
  CtxOk d c F->F.hd=none->aV K F loc f H s->fe f s.heap aY k it->K.h₀.get? it=none->j.get? it=none->a5 K.a3 [F.L] ag T j f H s.heap->LstAt K F f H s.heap aa U->j.get? aa=none->aa≠it->
  v.lc c loc x elt ifs aY k U H=some r->codeAny (model I K.w) F.A (.compLoop (.ListComp elt [⟨.Name x px,iter,ifs,0⟩] scope pos) 0 (.ref it) (.ref aa) F.env) (yl K F aa r ag T j) s
set_option tactic.hygienic true in
def Mb(aK:bB I K d v)(af:oR I K d v)(E:CtxOk d c F)(hd:F.hd=none){iter:Expr}(R:aV K F loc f H s)(xi:fe f s.heap aY k ab)(hn:K.h₀.get? ab=none)(hf:j.get? ab=none)(st:a5 K.a3 [F.L] ag T j f H s.heap)(la:LstAt K F f H s.heap aa U)(hD:j.get? aa=none)(ne:aa≠ab)(e:l9 v c loc x ah ai aY k U H=some r):codeAny (model I K.w) F.A (.compLoop (.ListComp ah [⟨.Name x px,iter,ai,0⟩] scope pos) 0 (.ref ab) (.ref aa) F.env) (yl K F aa r ag T j) s:=by
 unfold l9 at e;revert e;rcases en:dC aY k H with _|res;exact aW
 .intro e;have lk:∀{J:Shared},(∀b ob,b≠ab->s.heap.get? b=some ob->J.heap.get? b=some ob)->LstAt K F f H J.heap aa U:=λ{J} kx=>by refine oT la λaI h N O h4=>fi aI λD n ed hl q=>⟨⟨D,n,kx aa _ ne ed,hl,q.fx λb ob W cb=>kx b ob (λC=>?_) W⟩,h,N,O,h4⟩;refine aZ xi.obj λo eo co=>?_;rw[C,eo]at W;clear eo;cases W;exact co.fix cb
  refine N9<|C9 (R.hand.none hd) R xi hn hf st en (λhr J R' ae kx=>?_) λa u J hr R' ae kx q x'=>?_;clear en;subst hr;cases e;exact⟨rfl,U,f,H,loc,rfl,R',ae,lk kx⟩
  .clear en;subst hr;dsimp only at e;refine aZ x'.obj λo eo co=>zR eo co ?_;have aB:=lk kx;revert e;rcases hs:f9 c x a loc H with _|q;intro e;exact aW e;intro e;rcases q with⟨z,aP,aL⟩|_
   .cases z<;>try exact aW e
    refine Y (arm_assign_Name ..)<|aX<|dL<|qE<|my E R' q hs λaR al am=>?_;have aE:=ae.trans am λ_ m=>.inl m;have aC:=aB.at am R';have aH:=x'.at am R';refine bV (vi e) λb aM W e=>Sj aK E al W λaT aS aj an=>?_;have as:=aE.trans an λ_ m=>.inl m;have ar:=aC.at an al;have au:=aH.at an al;rcases b;exact af.lc E hd aj au hn hf as ar hD ne e
    .dsimp only at e⊢;refine bV (vi e) λy aN ey e=>cH e λaz e=>Sn.AD (aK.e E aj) ey λw aU ap aw ao qy=>?_;have aF:=as.trans ao λ_ m=>.inl m;have aD:=ar.at ao aj;have av:=au.at ao aj;refine oT aD λaJ h N O h4=>fi aJ λD n ed hl qv=>?_;have aA:=qv.length;refine Az ed hl λh' n' ay sb=>?_;have ak:∀b ob,b≠aa->ap.heap.get? b=some ob->h'.get? b=some ob:=λb ob nb W=>(sb.2 b nb).trans W;have fx:cw ap.heap h':=λb ob W cb=>ak b ob (λC=>by rw[C,ed]at W;cases W;exact cb.ne "list" (by decide) rfl) W;have ax:=aw.turn ap.toks ed (λcb=>cb.ne "list" (by decide) rfl) (by intro C;exact absurd (fh C)<|by decide) (by intro C;exact absurd (fh C)<|by decide) h N O h4 ak;have aG:=aF.qI hD ak;refine af.lc E hd ax ?_ hn hf aG ⟨⟨D++[w],n',ay,?_,?_⟩,h,N,O,h4⟩ hD ne e;exact aZ av.obj λaQ aq aO=>av.move (by refine Y aq ?_;exact ak ab _ (gg ne) aq) [] (by simp) fx;have:=hP az;simp only[a0,cB,jl];exact a7 (a4 aA) this<|by simp+arith
     exact(qv.fx fx).append<|.cons (qy.fx fx) .nil
   exact aW e
end
def AX(env:Env)(x):∀h,aC x (h.map λ(n,k)=>if(k==NameKind.free&&env.scope.kind==.function&&env.kindOf n==some .cell)then(n,NameKind.cell)else(n,k))=aC x h\/ (aC x h=some .free/\aC x (h.map λ(n,k)=>if(k==NameKind.free&&env.scope.kind==.function&&env.kindOf n==some .cell)then(n,NameKind.cell)else(n,k))=some .cell):=by
 intro h;induction h with
 |nil=>exact .inl rfl
 |cons y r u=>
  rcases y with⟨n,k⟩;have j:=u;refine Y hI ?_;unfold aC;rcases q:sq n x;by_cases f:(k==NameKind.free&&env.scope.kind==.function&&env.kindOf n==some .cell)=true;refine Y (bZ f) ?_;simp only[q];exact j;refine Y (bO f) ?_;simp only[q];exact j
  .by_cases f:(k==NameKind.free&&env.scope.kind==.function&&env.kindOf n==some .cell)=true
   .refine Y (bZ f) ?_;simp only[fW,ct]at f;simp only[q,f.1.1];exact .inr ⟨trivial,trivial⟩
   .refine Y (bO f) ?_;simp only[q];exact .inl trivial
section
variable{K:al}{F:bI}{loc:Loc}{f:a6}{H:aq}{j:Heap}{s:Shared}
def Tm(x:fe f s.heap aY k u)(h:Q (.ref u) s):wpAny (model I K.w) A (pyIter<|.ref u) Q U s:=by
 cases aY<;>try(exact x.elim)
 obtain⟨_,t,x|x⟩:=x;exact wpAny_pyIter_striter_ascii x h;exact wpAny_pyIter_striter_wide x h;exact bV x λt D y _=>dF y λo e c j=>wpAny_pyIter_tupleiter ⟨o,e,c,j⟩ h;exact bV x λa d _ x=>wpAny_pyIter_listiter x h;rcases x with x|⟨_,_,_,x,_⟩;exact wpAny_pyIter_rangeiter x h;exact wpAny_pyIter_rangeiter x h
def uQ{h:Heap}(e:h.get? E=some {cls,data:=.dict #[]}):h.Ns E (λ_=>none):=⟨_,#[],0,e,rfl,λ_ he=>by simp at he,λ_=>rfl⟩
def KJ(h:Q (.ref s.heap.objs.size) {s with heap:=s.heap.push {cls:=.type "list",data:=.seq #[]}}):wpAny (model I K.w) A (newList []) Q U s:=wB h (by show 0<=sizeLine;exact bJ _)
noncomputable def Ai(F:bI)(env:Env)(E:Addr):bI:={A:=F.A,hd:=F.hd,env:=env,gi:=F.gi,outer:=F.outer,L:=E}
def Kg(keys:KeysIn scope.names loc)(ok:jM f loc ae):g2 (compEnvC scope ae E F.env) f h loc (λ_=>none):=by
 refine⟨λy j a x=>?_,λy i _ D=>ok y i D⟩;refine aZ (keys y a x) λk aP z=>?_;have j:=j;rcases AX F.env y scope.names with C|⟨_,C⟩;have u:=(show aC y (relabel scope F.env).names=_ from C).symm.trans j;rw[z]at u;rcases aP with rfl|rfl<;>cases u
 cases(show aC y (relabel scope F.env).names=_ from C).symm.trans j
inductive O6(K:al)(F:bI)(aa I:Addr)(aY:V)(loc:Loc)(σ₁:a6)(H₁:aq)(j:Heap)(f:a6)(H:aq)(s:Shared):Prop|mk (R:aV K F loc f H s) (st:a5 K.a3 [F.L] σ₁ H₁ j f H s.heap) (xi:fe f s.heap aY 0 I) (la:LstAt K F f H s.heap aa [])
def Mj{j:Shared}(sk:scope.kind=.function)(ai:aV K F loc z D h)(T:∀b ob,h.heap.get? b=some ob->j.heap.get? b=some ob)(af:h.heap.get? k=none)(ah:h.heap.get? aa=none)(ab:K.h₀.get? k=none)(ag:K.h₀.get? aa=none)(Dl:aa≠K.a3)(CD:aa≠k)(O:j.heap.get? k=some {cls:=.type "dict",data:=.dict #[]})(Dat:j.heap.get? aa=some (eA [] 0))(W:fe z j.heap aY 0 I)(f:aV K F loc u x y)(N:a5 K.a3 [F.L] z D j.heap u x y.heap)(J:∀b ob,j.heap.get? b=some ob->y.heap.get? b=some ob)(ok:jM u E ae)(keys:KeysIn scope.names E):O6 K (Ai F (compEnvC scope ae k F.env) k) aa I aY E z D h.heap u x y:=by
 have nw:∀{a:Addr},j.heap.get? a=none->h.heap.get? a=none:=λ{a} C=>by rcases q:h.heap.get? a with _|ob;rfl;rw[T _ _ q]at C;exact aW C.symm
 have nf:∀{a:Addr}{ob:Obj},h.heap.get? a=none->j.heap.get? a=some ob->a∉bz x u:=λC z' m=>(N.new _ m).elim (λm=>ai.rep.alive m C) λm=>aW<|m.symm.trans z';refine⟨⟨f.base,f.lam,f.tab,f.mods,f.rep,f.gens,f.os,f.stack,rfl,sk,f.glob,f.blt,ab,nf af O,⟨_,_,J _ _ O,.inr rfl,uQ<|J _ _ O,Kg keys ok⟩,f.out,f.hand⟩,
  ⟨N.ext,λa o _ e=>⟨o,J _ _<|T a o e,.inl rfl⟩,λa m=>(N.new a m).imp id nw,λa na C=>?_⟩,?_,⟨⟨[],0,J _ _ Dat,bJ _,.nil⟩,CD,Dl,nf ah Dat,ag⟩⟩
 rcases q:h.heap.get? a with _|ob;exact na q;exact aW<|C.symm.trans<|J _ _<|T _ _ q;exact aZ W.obj λob U co=>aU N.ext λτ aj=>W.move (by refine Y U ?_;exact J _ _ U) τ aj λa o e _=>J _ _ e
def OL(W:aV K F loc E y x)(ak:a5 K.a3 [F.L] f H s.heap E y x.heap)(U:x.heap.get? u.L=none)(af:x.heap.get? aa=none)(ai:K.h₀.get? u.L=none)(Cl:u.L≠K.a3)(CD:aa≠u.L)(e:rt (.ref z.length) (z++[.list l])=some r)(C:yl K u aa (.ok l z) E y x.heap res J):compPost (model I K.w) F.A (jO K F loc (a8 r) f H s.heap) none (eE K F loc (aM aN r) f H s.heap) (.ref aa) u.L res J:=by
 refine aS C λe1 al=>rE al λh ab H' ag e2 O ae aj=>?_;subst e1;refine lM e2 λam an=>?_;subst am an;obtain⟨oC,mC,eC,j,nC,lC⟩:=O.loc;refine⟨mC,nC,λh' sb=>?_⟩;have kx:∀b ob,b≠u.L->J.heap.get? b=some ob->h'.get? b=some ob:=λb ob nb T=>(sb.2 b nb).trans T;have fr:∀a∈[u.L],x.heap.get? a=none:=λa m=>by refine Y (b8.mp m) ?_;exact U
 have Rb:=W.back O ae fr;have ah:¬kP oC.cls:=λcb=>by rcases j with j|j<;>exact cb.ne _ (by decide) j
 have Rt:=Rb.B7 (h':=h') J.toks eC ah (λenv m C=>by obtain⟨k,L,o',es,n,e1,e2,e3,e4,e5⟩:=W.out env m;rw[C]at e1;clear e2;obtain rfl:=aQ e1;exact aW<|U.symm.trans e3) (λC=>by rcases j with j|j<;>(rw[j]at C;exact absurd (fh C) (by decide))) (λC=>W.alive<|by refine Y C.symm ?_;exact U) Cl O.apart ai kx;refine oT aj λao g1 g2 g3 g4=>fi ao λD n ed hl qv=>?_;have fx:cw J.heap h':=λb ob T cb=>kx b ob (λC=>by rw[C,eC]at T;obtain rfl:=aQ T;exact ah cb) T;have Ra:=Rt.adopt (o:=.list l) (p:=(aa,0)) (ee.mpr ⟨uO,kO⟩) (λa m=>by refine Y (b8.mp m) ?_;exact⟨λC=>W.alive (by refine Y C.symm ?_;exact af),g3,g4⟩) ⟨D,n,kx _ _ CD ed,hl,(qv.fx fx).keep _<|.refl _⟩;have ls:=((ae.fresh (N:=[F.L]) fr).qI U kx).adopt (q:=(aa,0)) (o:=.list l) O.rep.len λa m=>by refine Y (b8.mp m) ?_;exact af
 refine bj (ρ:=aN) Ra (ak.trans ls λ_ m=>.inl m) (RV.ref (d:=0) ?_) e;refine Y O.rep.len.symm<|Y (dp<|ba _)<|Y (ew ..) ?_;rfl
def vL{h:Heap}(e:(h.push o).get? a=none):h.get? a=none:=by rcases q:h.get? a with _|ob;rfl;exact aW<|e.symm.trans<|b0 _ q
def R0(aG:bB I K d v)(af:oR I K d v)(E:CtxOk d c F)(R:aV K F loc f H s)(e:ec T O v c loc (.ListComp D [⟨.Name x px,k,z,0⟩] scope p) H=some r):aO I K F loc (eval (.ListComp D [⟨.Name x px,k,z,0⟩] scope p) F.env) (aM aN r) (a8 r) f H s:=by
 refine cH e λhb e=>zb hb λhb ag=>zb hb λax aw=>?_;have hd:F.hd=none:=by rw[E.hd]at ag;rcases q:F.hd;rfl;rw[q]at ag;exact ff ag
 have W:=wA aw;refine aK e λcl aj e=>aZ (AE E R aj) λcs au as=>?_;unfold aO;refine Y (eval_ListComp ..)<|wpAny_comprehension_free (use:=none) (g:=⟨.Name x px,k,z,0⟩) (gs:=[]) rfl (λy=>Aa ax) au W.kind (λy m hy=>Y (DL ..)<|Y (W.ns y m)<|Y hy rfl) ?_;show wpAny _ F.A (eval k F.env) _ _ s;refine Sn.then (.refl ..) (aG.e E R) e λaY u aI aE j N am _ q U=>cH U λh U=>bV (vi U) λl aF el U=>CE N q h λo xi=>KJ ?_;simp only[newFunctionEnv,Option.isSome_some,if_true];refine aX<|q0 ?_;have ak:∀b ob,j.heap.get? b=some ob->(((j.heap.push o).push {cls:=.type "list",data:=.seq #[]}).push {cls:=.type "dict",data:=.dict #[]}).get? b=some ob:=λb ob e=>b0 _<|b0 _<|b0 _ e;refine aS (N.keeps j.toks ak) λap _=>aU am.ext λaD ar=>?_;refine aX<|qr (F:=F) (loc:=loc) _ (λname kind ae=>by cases av:kind==NameKind.cell<;>simp[av]) scope.names ap (by refine Y ar ?_;exact(as.keep aD).gT) rfl λaJ aH ae aq aC az ay=>?_;refine aX<|Y jG<|aL<|aL ?_;have ah:=vL<|vL<|ei<|(j.heap.push o).push {cls:=.type "list",data:=.seq #[]};have aa:=vL<|ei<|j.heap.push o;refine aS (N.keeps (h':=j.heap.push o) j.toks λb ob e=>b0 _ e) λai _=>?_;refine aS (N.keeps (h':=(j.heap.push o).push {cls:=.type "list",data:=.seq #[]}) j.toks λb ob e=>b0 _<|b0 _ e) λab _=>?_;have Cl:=ab.h6<|ei _;have CD:(j.heap.push o).objs.size≠((j.heap.push o).push {cls:=.type "list",data:=.seq #[]}).objs.size:=by refine Y (sJ (j.heap.push o) ..) ?_;exact(qm _).symm
 clear hb;obtain⟨Rc,aB,an,la⟩:=Mj (ae:=ae) W.kind N ak ah aa (mU ab) (mU ai) (ai.h6<|ei _) CD (dS _ rfl) (b0 _<|dS _ rfl)
  (xi.move (by refine aZ xi.obj λob eo co=>?_;refine Y eo ?_;exact b0 _<|b0 _ eo) [] (by simp) λa o e _=>b0 _<|b0 _ e) aq aC ay az (yV (all:=scope.names) W.ns (M8 W.ns aj) rfl)
 have ao:CtxOk d ⟨scope.names,c.hd,c.lam⟩ (Ai F (compEnvC scope ae ((j.heap.push o).push {cls:=.type "list",data:=.seq #[]}).objs.size F.env) ((j.heap.push o).push {cls:=.type "list",data:=.seq #[]}).objs.size):=⟨λy=>AX F.env y scope.names,E.hd,E.room,E.lam⟩;have DI:(j.heap.push o).objs.size≠j.heap.objs.size:=by refine Y (sJ ..) ?_;exact qm _
 have al:=λ{aA:Pos}=>fJ (af.lc (px:=aA) (iter:=k) (scope:=scope) (pos:=p) ao hd Rc an (mU N) (ei _) aB la aa DI el) λres J C=>OL (I:=I) N am ah aa (mU ab) Cl CD U C;exact codeAny_compStart_list al<|Tm an al
end
end
section
open Builtin Builtin.ObjectAttr Builtin.Getset_descriptor
inductive t'(M:Model)(h:Heap)(E:Addr):Prop|mk {nm q N ea bm hdct sn sub ab col dd k0 k1 k2 k3 k5} (hC:h.get? E=some (excClassObj nm q E N ea bm hdct sn sub ab col dd k0 k1 k2 k3 k5 "Exception.__new__")) (hB:bm.contains (.type "Exception")=true) (hA:bm.contains (.type "AttributeError")=false) (hN:bm.contains (.type "NameError")=false)
  (call:Looks M h (specialOf (.ref E) "__call__") (some (.builtin "type.__call__"))) (typ:Looks M h (isInstance (.ref E) (.type "type")) true)
def Hp(e:E5 o=true):o=some true:=by rcases o with _|b;exact ff e;rw[show b=true from e]
def MB(e:BX x=some c):x=.cls c:=by
 induction x with
 |cls=>rw[aQ e]|_=>exact aW e
def ML{f:Type}{l:List f}(e:l.length=1):∃a,l=[a]:=by rcases l with _|⟨a,l⟩;exact absurd e Nat.zero_ne_one;exact⟨a,by rw[q4.mp<|hE e]⟩
inductive Nu(l:List (Option Value)):Prop|mk (k0 k1 k2 k3 k5:Option Value) (h:l=[k0,k1,k2,k3,some (.builtin "Exception.__new__"),k5])
def Lh(e:Dx l=true):Nu l:=by rcases l with _|⟨k,l⟩;exact ff e;rcases l with _|⟨u,l⟩;exact ff e;rcases l with _|⟨k2,l⟩;exact ff e;rcases l with _|⟨x,l⟩;exact ff e;rcases l with _|⟨v,l⟩;exact ff e;exact zb e λf j=>aU (ML<|cd j) λy h=>⟨k,u,k2,x,y,by rw[kx f,h]⟩
inductive N5(E:Addr)(l:List Value):Prop|mk (bm:List Value) (h:l=.ref E::bm) (f:bm.contains (.type "Exception")=true) (j:bm.contains (.type "AttributeError")=false) (k:bm.contains (.type "NameError")=false)
def ws(e:(!b)=true):b=false:=by rcases b;rfl;exact ff e
def RQ(e:CP E l=true):N5 E l:=by rcases l with _|⟨v,bm⟩;exact ff e;exact zb e λh e=>zb e λf e=>zb e λj k=>⟨bm,by rw[kx h],f,ws j,ws k⟩
def z4{M:Model}(X:B.In h)(e:uw B E=true):t' M h E:=by refine aK (Hp e) λo f e=>aK e λz j e=>?_;have e:=aQ e;refine zb e λO e=>zb e λx e=>zb e λy e=>zb e λT e=>zb e λU W=>?_;clear e;obtain⟨k0,k1,k2,k3,k5,k⟩:=Lh y;clear e;obtain⟨bm,hm,e1,D,I⟩:=RQ x;have u:=X _ _ f;clear f y e;obtain⟨N,dd,data,⟨sl⟩⟩:=o;clear x e;obtain⟨nm,ea,J,ns,qn,hd,sn,sub,ab,aa,C⟩:=z;rw[show N=_ from kx O,show data=_ from MB j,show J=_ from hm,show sl=_ from k,show C=false from ws T]at u;exact⟨u,e1,D,I,looks_specialIn X<|kx U,looks_instIn X<|kx W⟩
section
variable{R:Result->Shared->Prop}{h:Heap}{os:OsState}
variable{ea:List Value}{sub:List Value}
def FJ(D:h.get? E=some (excClassObj nm q E N ea bm u sn sub f j k x y k2 z C "Exception.__new__"))(T:bm.contains (.type "Exception")=true)(O:bm.contains (.type "AttributeError")=false)(U:bm.contains (.type "NameError")=false)(ae:rest.length<=sizeLine)(bk:R (.ok<|.ret<|.ref<|h.objs.size+1) ⟨(h.push {cls:=.type "tuple",data:=.seq rest.toArray}).push<|ek E none (.ref h.objs.size) .none .none,g,d,t,os⟩):codeAny (model I w) A (.call (.builtin "Exception.__new__") ⟨.ref E::rest,[]⟩) R ⟨h,g,d,t,os⟩:=by
 have F:=PySem.F.excBase_Exception;have J:(Value.ref E::bm).contains (.type "Exception")=true:=by rw[rH,T,pT]
 have W:(Value.ref E::bm).contains (.type "AttributeError")=false:=by rw[rH,O];rfl
 have aa:(Value.ref E::bm).contains (.type "NameError")=false:=by rw[rH,U];rfl
 have af:=F.noStar;have ab:=F.ends;refine codeAny_call_builtin_code (Code.quiet_builtin _ F.quiet) ?_
 delta checkBuiltinCall
 refine Y F.newKind<|Y F.newSplit ?_;dsimp only
 repeat(first|refine pu D ?_|(refine v3 D ?_;rw[J])|refine wpAny_staticBase_exc D ?_|refine wpAny_madeBy_exc D ?_|simp only[bne_self_eq_false,kV,jd]|wp_step)
 refine PySem.codeAny_builtinAt F.entry ?_;unfold Builtin.«BaseException.__new__»;refine PySem.wpAt_bind ?_;show PySem.wpAt _ _ _ (stack>>=_) _ _ _;refine PySem.wpAt_bind<|PySem.wpAt_stack λp below=>PySem.wpAt_of_wpAny ?_
 wp_walk
 refine PySem.wpAt_of_wpAny ?_;rw[F.owner]
 repeat(first|with_reducible refine wpAny_madeHere_exc F.canon D ?_|with_reducible refine pu D ?_|(with_reducible refine v3 D ?_;first|rw[J]|rw[W]|rw[aa])|wp_step)
 show R _ _;rw[sJ];exact bk
def Ta(af:t' (model I w) h E)(T:rest.length<=sizeLine)(f:Looks (model I w) h (typeLookup (.ref E) "__init__")<|some init)(D:∀self,Looks (model I w) h (bindSpecial init self) (init,[self]))(bk:codeAny (model I w) (A.under<|.builtin "type.__call__" ⟨.ref E::rest,[]⟩) (.call init ⟨.ref (h.objs.size+1)::rest,[]⟩) (InitBack (h.objs.size+1) R) ⟨(h.push {cls:=.type "tuple",data:=.seq rest.toArray}).push<|ek E none (.ref h.objs.size) .none .none,g,d,t,os⟩):codeAny (model I w) A (.call (.ref E) ⟨rest,[]⟩) R ⟨h,g,d,t,os⟩:=by
 obtain @⟨nm,q,N,ea,bm,ab,sn,sub,W,aa,dd,k0,k1,k2,k3,k5,j,x,u,z,call,U⟩:=af;refine qH ?_;show wpAny _ _ (callAny (.ref E) _) _ _ _;refine nd_load j ?_;show wpAny _ _ (callAny.viaDunder (.ref E) _) _ _ _;unfold callAny.viaDunder;refine aX<|call.at ?_;dsimp only;rw[tc_bind];refine aX<|aL<|aX<|aL<|aL (a:=Fin.again<|.call (.builtin "type.__call__") ⟨.ref E::rest,[]⟩)<|And.intro rfl (codeAny_call_builtin_at (Code.quiet_builtin _ (by decide+kernel)) entry_typeCall (check_slot tc_kind tc_split U (tc_args _ _ _) ?_));unfold Builtin.«type.__call__»
 repeat(first|with_reducible refine pu j ?_|with_reducible refine wpAny_madeBy_exc j ?_|wp_step)
 refine FJ j x u z T ?_;have k:∀b o,h.get? b=some o->((h.push {cls:=.type "tuple",data:=.seq rest.toArray}).push<|ek E none (.ref h.objs.size) .none .none).get? b=some o:=λb o e=>b0 _<|b0 _ e;have aE:((h.push {cls:=.type "tuple",data:=.seq rest.toArray}).push<|ek E none (.ref h.objs.size) .none .none).get? (h.objs.size+1)=some (ek E none (.ref h.objs.size) .none .none):=by heap_get
 have t1:Looks (model I w) ((h.push {cls:=.type "tuple",data:=.seq rest.toArray}).push<|ek E none (.ref h.objs.size) .none .none) (typeOf<|.ref<|h.objs.size+1) (.ref E):=(jX aE).andThen .now;have y:=k _ _ j;have O:(Value.ref E::bm).contains (.ref E)=true:=by simp
 have i1:=f.keeps k;have b1:=(D<|.ref<|h.objs.size+1).keeps k;unfold isInstance callSpecial? specialOf
 repeat(first|with_reducible refine pu aE ?_|(with_reducible refine v3 y ?_;rw[O])|with_reducible refine wpAny_call ?_|lk|wp_step)
 refine fJ bk λr J C=>?_;rcases r with e|(v|_|_|_)<;>first|exact C|exact C.elim|skip
 obtain⟨rfl,C⟩:=C;exact aL<|aL C
end
section
variable{os:OsState}
def HP(af:t' (model I w) h E)(he:h.get? e=some (ek E k f tb j))(bk:∀h',(∀b o,b≠e->h.get? b=some o->h'.get? b=some o)->h'.get? e=some (ek E k (.ref h.objs.size) tb j)->Q .none ⟨h',g,d,t,os⟩):wpAny (model I w) A (call (.builtin "Exception.__init__") [.ref e,v]) Q U ⟨h,g,d,t,os⟩:=by
 have F:=PySem.F.excBase_Exception;obtain @⟨nm,q,N,ea,bm,aa,sn,sub,O,T,W,k0,k1,k2,k3,k5,u,z,hA,hN,call,ae⟩:=af;have C:(Value.ref E::bm).contains (.type "Exception")=true:=Y rH<|Y z<|Y (pT ..) rfl;have ab:=F.noStar;refine wpAny_call<|codeAny_call_builtin F.init.plain F.initEntry ?_
 delta checkBuiltinCall
 refine Y F.initKind<|Y F.initSplit<|Y F.initRow ?_;dsimp only
 repeat(first|with_reducible refine pu he ?_|with_reducible refine pu u ?_|(with_reducible refine v3 u ?_;refine Y C ?_)|wp_step)
 have bp:Q .none ⟨(h.push {cls:=Value.type "tuple",data:=Data.seq #[v]}).update e<|Obj.mapFields λx=>x.setIfInBounds 0<|Value.ref h.objs.size,g,d,t,os⟩:=by have D:=b0 {cls:=Value.type "tuple",data:=Data.seq #[v]} he;refine bk _ (λb o J y=>?_) ?_;refine Y (rh _ _<|gg J) ?_;exact b0 _ y;refine Y (jc _ D rfl) ?_;rfl
 cases f<;>first|exact wpAny_letGo (aL bp)|exact aL (aL bp)
end
structure yt(B:Frag)(E:Addr)(k:Cl):Prop where
 init:∀z,k.init=some z->findIn B (.ref E) "__init__"=some (some (.ref z))/\typeIn B (.ref z)=some (.type "function")
 made:(match k.exc with|true=>uw B E|false=>makesIn B E)=true
 kp:keepIn B (.ref E)=true
structure p5(B:Frag)(z:Addr)(fn:Fn)(fd:FuncData):Prop where
 obj:∃o,B.lookup z=some o/\o.cls=.type "function"/\o.data=.func fd
 scope:fd.scope=fn.scope
 body:fd.body=.stmts fn.body
 pM:fd.closure=[]
 glob:fd.globals=mainGlobals
 blt:fd.builtins=builtinsNs
 par:fd.params.posonlyargs=[]/\fd.params.vararg=none/\fd.params.kwonlyargs=[]/\fd.params.kwarg=none/\fd.params.args.map (·.arg)=fn.params
 dz:(fn.dz=[]/\fd.defaults=.none)\/∃aa D,fd.defaults=.ref aa/\B.lookup aa=some (iq D)/\∀f h,aT f h fn.dz D
 code:∃c oc D t,fd.code=.ref c/\B.lookup c=some oc/\oc.data=.fields D/\D[1]? =some (.str fd.qualname t)
 sc:CS fn.scope
 nd:fn.params.Nodup
 dl:fn.dz.length<=fn.params.length
structure cy(K:al)(T:cx)(B:Frag):Prop extends TabC K T B where
 v9:∀E k,bi E T.cls=some k->yt B E k
 fns:∀z fn,bi z T.fns=some fn->∃fd,p5 B z fn fd
 lam:∀fn fd,bi T.il T.fns=some fn->p5 B T.il fn fd->fd.code=.ref T.gz/\fd.qualname++".<locals>."=T.ge
 lc:CodeHd K.h₀ T.gz K.a3
 ar:T.ge++"<lambda>"=K.ar
 Me:∃mg,K.h₀.Ns mainGlobals mg/\K.h₀.BuiltinsAt mg K.a3
 lim:K.h₀.NoLimit
 IL:cStatics≠K.a3
def h7(K:al)(F:bI)(loc:Loc)(r:R V)(f:a6)(H:aq)(h:Heap)(res:Result)(J:Shared):Prop:=match res with|.ok (.ret v)=>eE K F loc (aM aN r) f H h v J|.ok _=>False|.error e=>jO K F loc (a8 r) f H h e J
def iC(K:al)(F:bI)(loc:Loc)(r:R V)(f:a6)(H:aq)(h:Heap)(res:Result)(J:Shared):Prop:=∃ab H',aV K F loc ab H' J/\a5 K.a3 [] f H h ab H' J.heap/\match res with|.ok (.ret v)=>aM aN r v ab H' J|.ok _=>False|.error e=>∃i a d,ab[i]? =some (a,d)/\e=.ref a/\ha H' i/\r=.exc i H'
def gC(d:Nat)(A:Around):Prop:=A.depth+2*d+29<=recursionLimit/\A.units+8*d+196<=cLine
structure dc(I:Program)(K:al)(d:Nat)(O:ap):Prop where
 call:∀{F:bI}{loc:Loc}{f:a6}{H:aq}{s:Shared}{a:V}{u:Value}{D:List V}{us:List Value}{r:R V},gC d F.A->aV K F loc f H s->RV f s.heap a u->aT f s.heap D us->O F.hd a D H=some r->
  codeAny (model I K.w) F.A (.call u ⟨us,[]⟩) (h7 K F loc r f H s.heap) s
def ik(M:Model)(h:Heap)(z:Value):Prop:=∃k,(k=Keeper.frame\/k=Keeper.machine\/k=Keeper.boundFrame)/\Looks M h (keeperOf z) k
def ik.blt{M:Model}(n:∀a,z≠.ref a):ik M h z:=by refine⟨.machine,.inr<|.inl rfl,?_⟩;cases z<;>first|exact .now|exact absurd rfl (n _)
def ik.fn{M:Model}(e:h.get? z=some o)(d:o.data=.func fd):ik M h (.ref z):=by refine⟨.frame,.inl rfl,(jX e).andThen ?_⟩;exact Y d .now
def ik.bm{M:Model}(e:h.get? m=some (methodObj (.ref z) self))(f:h.get? z=some o)(d:o.data=.func fd):ik M h (.ref m):=by refine⟨.boundFrame,.inr<|.inr rfl,(jX e).andThen ?_⟩;exact(jX f).andThen<|Y d .now
section
variable{K:al}{F:bI}{loc:Loc}{f:a6}{H:aq}{s:Shared}
def l1(W:bB I K d v)(E:CtxOk d c F)(ns:df args=true)(st:a5 K.a3 [F.L] u j k f H s.heap)(R:aV K F loc f H s)(e:bd (ce v c loc args H) y=some r)(g:∀D us ab H' J,aV K F loc ab H' J->a5 K.a3 [F.L] u j k ab H' J.heap->a5 K.a3 [F.L] f H s.heap ab H' J.heap->aT ab J.heap D us->y D H'=some r->ik (model I K.w) J.heap z/\wpAny (model I K.w) F.A (call z<|first++us) (eE K F loc (aM aN r) u j k) (jO K F loc (a8 r) u j k) J):wpAny (model I K.w) F.A (callWith pos z first (backTo pos<|starEach args F.env) []) (eE K F loc (aM aN r) u j k) (jO K F loc (a8 r) u j k) s:=by
 have plain:∀{l:List Expr},df l=true->(backTo pos<|starEach l F.env).any (·.1)=false:=by
  intro l;induction l with
  |nil=>intro _;rfl
  |cons x l O=>intro n;have T:=(l6 n).2;refine Y (rN (l6 n).1) ?_;show(false||(backTo pos<|starEach l F.env).any (·.1))=false;exact Y (O T) rfl
 refine callWith_of (P:=λh=>ik (model I K.w) h z) (by exact Y (plain ns) rfl) (λh x=>x) ?_;rcases args with _|⟨x,l⟩
 .refine evalArgs_nil3 ?_;have:=g [] [] f H s R st (.refl ..) .nil<|by simpa[ce,bd,rt]using e
  exact this
 .have he:=rN (l:=l) (env:=F.env) (l6 ns).1;have ev:backTo pos (starEach (x::l) F.env)=(false,eval x F.env)::backTo pos (starEach l F.env):=by exact Y he rfl
  exact Y ev<|evalArgs_plain<|Y ev.symm<|Sn.then st (vl W E ns R) e λD us ab H' J C ae U q N=>g D us ab H' J C ae U q N
def aV.around(R:aV K F loc f H s)(h:u.frames=F.A.frames)(hh:u.handled=F.A.handled):aV K {F with A:=u} loc f H s:=⟨R.base,R.lam,R.tab,R.mods,R.rep,R.gens,R.os,h.trans R.stack,R.locals,R.kind,R.glob,R.blt,R.new,R.apart,R.loc,R.out,by have:=R.hand;show eK f F.hd u.handled;refine Y hh ?_;exact this⟩
def kX.o(h:kX d F.A):gC d F.A:=⟨by have:=h.1;exact fl ‹_›,by have:=h.2;exact aR this<|by simp+arith⟩
def cy.fnAt(G:cy K T B)(R:aV K F loc f H s)(e:bi z T.fns=some fn):∃fd o,p5 B z fn fd/\s.heap.get? z=some o/\o.cls=.type "function"/\o.data=.func fd:=by exact aU (G.fns z fn e) λfd ok=>dF ok.obj λo e1 h j=>D7 fd o ok (G.toTabC.In R _ _ e1) h j
def wd(e:dV T O hd z D H=some r):(∃fn,bi z T.fns=some fn)/\O hd (.fn z) D H=some r:=by exact aK e λfn h e=>⟨⟨fn,h⟩,e⟩
theorem ik.dV(G:cy K T B)(j:aV K F loc f H s)(e:dV T O hd z D H'=some r):ik (model I K.w) s.heap (.ref z):=by exact aS (wd e) λu _=>aU u λfn h=>kD (G.fnAt j h) λfd o _ e1 _ k=>.fn e1 k
def h7.from(st:a5 K.a3 [F.L] u j k ab H' h')(x:h7 K F loc r ab H' h' res J):h7 K F loc r u j k res J:=by unfold h7 at x⊢;split at x;obtain⟨z,f,h,y,q⟩:=x;exact⟨z,f,h,st.trans y λ_ m=>.inl m,q⟩;exact x.elim;obtain⟨z,f,i,a,C,h,y,q,D,E,I⟩:=x;exact⟨z,f,i,a,C,h,st.trans y λ_ m=>.inl m,q,D,E,I⟩
def ng(h:codeAny (model I K.w) F.A (.call u ⟨us,[]⟩) (h7 K F loc r f H s.heap) s):aO I K F loc (call u us) (aM aN r) (a8 r) f H s:=by refine wpAny_call<|fJ h λres J x=>?_;unfold h7 at x;split at x<;>first|exact x|exact x.elim
def E9(j:aV K F loc f H s){x:Shared}(k:a5 K.a3 [F.L] f H s.heap (f++[p]) (H++[o]) x.heap)(h:aV K {F with A:=u} loc ab H' J)(ae:a5 K.a3 [F.L] (f++[p]) (H++[o]) x.heap ab H' J.heap):aV K F loc ab H' J/\a5 K.a3 [F.L] f H s.heap ab H' J.heap:=⟨⟨h.base,h.lam,h.tab,h.mods,h.rep,h.gens,h.os,j.stack,h.locals,h.kind,h.glob,h.blt,h.new,h.apart,h.loc,h.out,j.hand.more<|k.trans ae λ_ m=>.inl m⟩,k.trans ae λ_ m=>.inl m⟩
def xr{o:au}(h:aV K F loc f H s):(f++[p])[H.length]? =some p:=by refine Y h.rep.len.symm<|Y (dp<|ba _)<|Y (ew ..) ?_;rfl
def Ct(aE:p.1=x)(D:aV K F loc f H s){N:Shared}(I:a5 K.a3 [F.L] f H s.heap (f++[p]) (H++[o]) N.heap)(e:bd (some y) (λa H'=>wg H.length a H')=some r)(C:h7 K {F with A:=u} loc y (f++[p]) (H++[o]) N.heap res J):InitBack x (h7 K F loc r f H s.heap) res J:=by
 subst aE;unfold InitBack;rcases res with ev|j;obtain⟨ab,H',i,a,O,k,ae,e1,T,U,x⟩:=C;cases x;obtain rfl:=aQ e;obtain⟨z,E⟩:=E9 D I k ae;exact⟨ab,_,i,a,O,z,E,e1,T,U,rfl⟩
 .induction j with
  |ret v=>obtain⟨ab,H',k,ae,a,x,q⟩:=C;subst x;obtain⟨h,e⟩:=jN e;rw[rO h]at q;have q:=q;refine Y q.qf ?_;obtain rfl:=aQ e;obtain⟨z,E⟩:=E9 D I k ae;refine⟨rfl,ab,_,z,E,_,rfl,?_⟩;obtain⟨τ,rfl⟩:=ae.ext;exact RV.ref<|fT _<|xr (o:=o) D
  |_=>exact C.elim
end
structure g8(I:Program)(K:al):Prop where
 blt:∀{F:bI}{loc:Loc}{f:a6}{H:aq}{s:Shared}{b:eu}{D:List V}{us:List Value}{r:R V},F.A.depth+30<=recursionLimit->F.A.units+200<=cLine->(b=.max->F.hd=none)->aV K F loc f H s->aT f s.heap D us->xj b D H=some r->
  aO I K F loc (call b.val us) (aM aN r) (a8 r) f H s
section
variable{K:al}
def nM(G:cy K T B)(W:dc I K d O)(j:gC d F.A)(h:aV K F loc f H s)(q:aT f s.heap D us)(e:dV T O F.hd z D H=some r):codeAny (model I K.w) F.A (.call (.ref z) ⟨us,[]⟩) (h7 K F loc r f H s.heap) s:=W.call j h .fn q (wd e).2
def Nf{A:Around}{id:String}(h:Code.envs (.builtin id args)=[]):(A.under<|.builtin id args).frames=A.frames:=by show pushEnvs (Code.envs<|.builtin id args) A.frames=A.frames;exact Y h rfl
def Mk(f:kX d A)(h:(A.under c).depth=A.depth+1)(h':(A.under c).units=A.units+1):gC d (A.under c):=⟨by have:=f.1;refine Y h ?_;exact aR this (by simp+arith),by have:=f.2;refine Y h' ?_;exact aR this<|by simp+arith⟩
def Ov(G:cy K T B)(W:dc I K d O)(hr:kX d F.A)(u:aV K F loc f H s)(aP:bi E T.cls=some k)(hu:us.length<=sizeLine)(q:aT f s.heap D us)(e:Bz T O F.hd E k D H=some r):codeAny (model I K.w) F.A (.call (.ref E) ⟨us,[]⟩) (h7 K F loc r f H s.heap) s:=by
 have X:=G.toTabC.In u;have ck:=G.v9 E k aP;refine aK e λz j e=>aS (ck.init z j) λi1 i2=>?_;have hm:=ck.made;obtain⟨h,g,om,t,os⟩:=s;have ae:gC d (F.A.under<|.builtin "type.__call__" ⟨.ref E::us,[]⟩):=Mk hr rfl rfl;have ab:=Nf (A:=F.A)<|show Code.envs (.builtin "type.__call__" ⟨.ref E::us,[]⟩)=[] from rfl;have Dn:h.get? h.objs.size=none:=ei _;have U:h.get? (h.objs.size+1)=none:=Heap.get?_none_of_le<|Nat.le_succ _;revert e;rcases x:dV T O F.hd z (.ref H.length::D) (H++[tZ E k.exc])with _|y;exact aW
 .intro e;revert hm x;rcases aE:k.exc
  .intro hm x;refine make_core (makes_of X hm) (p8 X i1) (λself=>bind_fn X self i2) (.inl rfl) ?_;have kp:∀b ob,h.get? b=some ob->((h.push emptyDict).push<|instObj E h.objs.size).get? b=some ob:=λb ob e=>b0 _<|b0 _ e;obtain⟨aa,N⟩:=u.add (o:=.inst E []) (p:=(h.objs.size+1,h.objs.size)) (h':=(h.push emptyDict).push<|instObj E h.objs.size) t kp
    (λa m=>by rcases bC.mp m with rfl|m;exact⟨U,u.h6 U⟩;refine Y (b8.mp m) ?_;exact⟨Dn,u.h6 Dn⟩) (ee.mpr ⟨λm=>qm _<|b8.mp m,ee.mpr ⟨λm=>(uO m),kO⟩⟩)
    (λfx=>⟨[],0,Heap.get?_push_at (sJ ..).symm rfl,b0 _<|dS _ rfl,.nil⟩)
   exact fJ (nM (F:={F with A:=F.A.under<|.builtin "type.__call__" ⟨.ref E::us,[]⟩}) G W ae (aa.around ab rfl) (.cons (.ref<|xr (o:=.inst E []) u)<|q.at N u) x) λres J C=>Ct rfl u N e C
  .intro hm x;refine Ta (z4 X hm) hu (p8 X i1) (λself=>bind_fn X self i2) ?_;have kp:∀b ob,h.get? b=some ob->((h.push {cls:=.type "tuple",data:=.seq us.toArray}).push<|ek E none (.ref h.objs.size) .none .none).get? b=some ob:=λb ob e=>b0 _<|b0 _ e;obtain⟨aa,N⟩:=u.add (o:=.exc E none none) (p:=(h.objs.size+1,0)) (h':=(h.push {cls:=.type "tuple",data:=.seq us.toArray}).push<|ek E none (.ref h.objs.size) .none .none) t kp
    (λa m=>by refine Y (b8.mp m) ?_;exact⟨U,u.h6 U⟩) (ee.mpr ⟨λm=>(uO m),kO⟩)
    (λfx=>⟨none,_,_,_,Heap.get?_push_at (sJ ..).symm rfl,rfl,.inl rfl,rfl⟩)
   exact fJ (nM (F:={F with A:=F.A.under<|.builtin "type.__call__" ⟨.ref E::us,[]⟩}) G W ae (aa.around ab rfl) (.cons (.ref<|xr (o:=.exc E none none) u)<|q.at N u) x) λres J C=>Ct rfl u N e C
def MJ(e:pb o=true):o=none:=by rcases o;rfl;exact ff e
def K7(G:cy K T B)(W:dc I K d O)(af:g8 I K)(x:kX d F.A)(h:aV K F loc f H s)(E:RV f s.heap a u)(hu:us.length<=sizeLine)(q:aT f s.heap D us)(e:bP T O F.hd a D H=some r):ik (model I K.w) s.heap u/\aO I K F loc (call u us) (aM aN r) (a8 r) f H s:=by
 induction a using V.casesOn with
 |fn z=>refine Y E.ki ?_;have e:sU T O F.hd z D H (bi z T.cls)=some r:=e;revert e;rcases aP:bi z T.cls with _|k;intro e;exact⟨.dV G h e,ng<|nM G W x.o h q e⟩;intro e;exact aZ (keeps_K (G.v9 _ _ aP).kp _<|G.toTabC.In h) λkk aa ab=>⟨⟨kk,aa,ab⟩,ng<|Ov G W x h aP hu q e⟩
 |blt b=>refine Y E.r7<|cH e λJ e=>?_;exact⟨.blt (λa C=>by cases b<;>cases C),af.blt (by have:=x.1;exact aR this<|by simp+arith) (by have:=x.2;exact aR this<|by simp+arith) (λC=>MJ<|by rw[C]at J;exact J) h q e⟩
 |bX=>obtain⟨a,c',qn,k,pm,ct,rfl,e1,y,N⟩:=E.uP;exact⟨.fn e1 rfl,ng<|W.call x.o h (.bX e1 y N) q e⟩
 |bm z i=>obtain⟨a,d',m,rfl,e1,y⟩:=E.Cg;exact aS (wd e) λae _=>aU ae λfn j=>kD (G.fnAt h j) λfd o _ U _ g2=>⟨.bm y U g2,ng<|method_call y<|nM G W x.o h (.cons (.ref e1) q) e⟩
 |_=>exact aW e
end
structure fX(I:Program)(K:al):Prop where
 str:∀m,qx m=true->∃id,Slot "str" m id/\typeOf (.builtin id)=pure (.type "method_descriptor")/\∀{F:bI}{loc:Loc}{f:a6}{H:aq}{s:Shared}{x:List Nat}{t:Tok}{D:List V}{us:List Value}{r:R V},
  x.length<=lim->aV K F loc f H s->aT f s.heap D us->e8 m x D H=some r->aO I K F loc (call (.builtin id) (.str ⟨x.toArray⟩ t::us)) (aM aN r) (a8 r) f H s
 list:∀m,ky m=true->∃id,Slot "list" m id/\typeOf (.builtin id)=pure (.type "method_descriptor")/\∀{F:bI}{loc:Loc}{f:a6}{H:aq}{s:Shared}{i:Nat}{a d:Addr}{l D:List V}{us:List Value}{r:R V},
  H[i]? =some (.list l)->f[i]? =some (a,d)->aV K F loc f H s->aT f s.heap D us->eH m i l D H=some r->aO I K F loc (call (.builtin id) (.ref a::us)) (aM aN r) (a8 r) f H s
def Js:typeOf (.type "Exception")=pure (.type "type"):=by kernel_rfl
def Oi:Manifest.isStub "Exception"=false:=by decide+kernel
def La(X:B.In s.heap)(ht:typeOf (.type T)=pure (.type "type"))(k:Manifest.isStub T=false)(e:findCls B (.type T) (.type "type") name=some (.val v))(hh:handedIn v=true)(h:Q (v,[]) {s with toks:=s.toks+1}):wpAny (model I w) A (getMethod (.type T) name pl) Q U s:=by
 have u:opaqueClassAbove (.type T)=pure none:=by unfold opaqueClassAbove;dsimp only;exact Y k rfl
 have f:Looks (model I w) s.heap (typeOf<|.type T) (.type "type"):=Looks.of_pure ht;have hg:findIn B (.type "type") "__getattribute__"=some (some<|.builtin "type.__getattribute__"):=type_tga;unfold getMethod specialOf;refine aX<|aX<|f.here<|(p8 X hg).here ?_;dsimp only;refine Y (bZ canon_tga)<|aX<|bY (Q:=λv=>Q (v,[])) (E:=U) ?_ (λ_ _ C=>aL C) λ_ _ C=>C;have j:Looks (model I w) s.heap (opaqueClassAbove<|.type T) none:=Looks.of_pure u;refine cls_open X j f hg (looks_hook X (r:=none)<|by rfl) (by show subIn B _ _=_;rfl) e
  (aL<|by show wpAny _ _ (handedOut v) _ _ _;refine Y (handedOut_of hh) ?_;exact aL h)
def Oz(B):findCls B (.type "Exception") (.type "type") pi=some (.val<|.builtin "Exception.__init__"):=by rfl
section
variable{I:Program}{K:al}{F:bI}{loc:Loc}{y:a6}{H h:aq}{j:Heap}{s:Shared}
def RM(e:H[i]? =some o):H.set i o=H:=by refine aU (b4.mp e) λhl e=>?_;exact Y e.symm<|List.set_getElem_self hl
def Kp(G:cy K T B)(y:aV K F loc f H s){i:Nat}(e1:H[i]? =some (.exc E J z))(W:f[i]? =some (a,N))(aP:bi E T.cls=some k)(aE:k.exc=true)(e:rt V.none H=some r):aO I K F loc (call (.builtin "Exception.__init__") [.ref a,v]) (aM aN r) (a8 r) f H s:=by
 have X:=G.toTabC.In y;have hm:=(G.v9 E k aP).made;rw[aE]at hm;obtain⟨dd,a0,tb,cx,x,u,j,h4⟩:=y.rep.obj i _ _ e1 W;obtain⟨h,g,om,t,os⟩:=s;refine HP (z4 X hm) x λh' kx ha=>?_;obtain⟨U,aa⟩:=y.set (h':=h') t (o:=.exc E J z) (o':=.exc E J z) e1 W rfl (λb ob nb eb=>kx b ob (λC=>nb<|by refine Y C ?_;exact .head _) eb)
  (λfx=>⟨dd,_,tb,cx,ha,u,by rcases j with j|⟨t,D,z1,O,z3⟩;exact .inl j;exact .inr ⟨t,D,z1,kx _ _ (λC=>by dsimp only at x;rw[C,x]at O;cases O) O,z3⟩,h4⟩)
 rw[RM e1]at U aa;exact bj (ρ:=aN) U aa .none e
def MethP(I:Program)(K:al)(F:bI)(loc:Loc)(args:List Expr)(pos:Pos)(y:a6)(h:aq)(j:Heap)(r:R V)(fx:Value×List Value)(s:Shared):Prop:=wpAny (model I K.w) F.A (callWith pos fx.1 fx.2 (backTo pos<|starEach args F.env) []) (eE K F loc (aM aN r) y h j) (jO K F loc (a8 r) y h j) s
def l8(I:Program)(K:al)(F:bI)(loc:Loc)(args:List Expr)(pos:Pos)(pl:Sem Bool)(y:a6)(h:aq)(j:Heap)(r:R V)(u:Value)(m:Str)(s:Shared):Prop:=wpAny (model I K.w) F.A (getMethod u m pl) (MethP I K F loc args pos y h j r) (jO K F loc (a8 r) y h j) s
def Pe(M:fX I K)(aa:bB I K d v)(E:CtxOk d c F)(ns:df args=true)(st:a5 K.a3 [F.L] y h j f H s.heap)(N:aV K F loc f H s)(T:RV f s.heap (.str x) u)(e:as (qx m) (bd (ce v c loc args H) λD H=>e8 m x D H)=some r):l8 I K F loc args pos pl y h j r u m s:=by obtain⟨t,aE,rfl⟩:=T.dU;exact cH e λhm e=>dF (M.str m hm) λid U W k=>getMethod_builtin (T:="str") (kr _ _ _) PySem.F.plainAttrs_str U W (λa e=>by cases e)<|l1 aa E ns st N e λD us ab H' J z ae af q O=>⟨.blt (λa C=>by cases C),fN ae<|k aE z q O⟩
def OZ(M:fX I K)(ag:bB I K d v)(E:CtxOk d c F)(ns:df args=true)(st:a5 K.a3 [F.L] y h j f H s.heap)(T:aV K F loc f H s)(qa:RV f s.heap (.ref i) u)(N:H[i]? =some (.list l))(e:as (ky m) (bd (ce v c loc args H) λD H=>ob (dn H[i]?) λl=>eH m i l D H)=some r):l8 I K F loc args pos pl y h j r u m s:=by obtain⟨a,d',rfl,U⟩:=qa.ex;refine cH e λhm e=>dF (M.list m hm) λid sl ty k=>?_;obtain⟨D,n,x,_⟩:=T.isList N U;refine getMethod_builtin (T:="list") ⟨_,x,rfl⟩ PySem.F.plainAttrs_list sl ty (λa e=>by obtain rfl:=PySem.Value.ref.inj e;exact a9 _ x rfl)<|l1 ag E ns st T e λD us ab H' J R' ae W q O=>⟨.blt (λa C=>by cases C),?_⟩;refine aK O λz aa O=>aU W.ext λτ af=>?_;clear e W;subst af;exact fN ae<|k (j' aa) (fT τ U) R' q O
def Uz(e:jP o=true):o=none:=by rcases o with _|a;rfl;exact ff e
def IC(G:cy K T B)(W:dc I K d O)(ah:bB I K d v)(E:CtxOk d c F)(ns:df args=true)(st:a5 K.a3 [F.L] y h j f H s.heap)(Rl:aV K F loc f H s)(qa:RV f s.heap (.ref i) u)(N:H[i]? =some (.inst U C))(e:(as (jP<|aC m C)<|ob (bi U T.cls) λk=>aB k.exc none<|ob (aC m k.eC) λz=>bd (ce v c loc args H) λD H=>dV T O c.hd z (.ref i::D) H)=some r):l8 I K F loc args pos pl y h j r u m s:=by obtain⟨a,d',rfl,ei⟩:=qa.ex;refine cH e λhb e=>aK e λk aP e=>aS (r1 e) λaE e=>aK e λz x e=>?_;have ck:=G.cls U k aP;refine d5 (Rl.y2 N ei) λes n ox ag ai q=>cZ (ck.eC m z x) λaw aG _=>?_;have fz:=ck.fz;rw[aE]at fz;have hl:=q.lookIn m n;rw[Uz hb]at hl;refine method_fn (G.toTabC.In Rl) ag fz ck.aP aw aG (by show(lookIn m<|dictOf es n).map _=some false;exact Y hl rfl) ?_;refine l1 ah E ns st Rl e λD us ab H' J R' ae aa q e'=>?_;rw[E.hd]at e';refine⟨.dV G R' e',fN ae<|ng<|nM G W E.room.o R' (.cons ?_ q) e'⟩;refine aU aa.ext λτ af=>?_;clear e R' ae aa q;subst af;exact .ref<|fT τ ei
def FF(G:cy K T B)(W:dc I K d O)(aa:bB I K d v)(E:CtxOk d c F)(ns:df args=true)(st:a5 K.a3 [F.L] y h j f H s.heap)(C:aV K F loc f H s)(qa:RV f s.heap (.fn z) u)(e:(ob (bi z T.cls) λk=>ob (aC m k.eC) λz=>bd (ce v c loc args H) λD H=>dV T O c.hd z D H)=some r):l8 I K F loc args pos pl y h j r u m s:=by refine Y qa.ki<|aK e λk aP e=>aK e λg x e=>?_;have N:=G.cls z k aP;refine wj (N.eC m g x) λaw aG da fP m5 m6=>method_cls (G.toTabC.In C) N.Ol<|cls_value (G.toTabC.In C) N.reads m6 rfl<|l1 (s:={s with toks:=s.toks+1}) aa E ns st (C.toks _) e λD us ab H' J R' ae af q U=>?_;rw[E.hd]at U;exact⟨.dV G R' U,fN ae<|ng<|nM G W E.room.o R' q U⟩
def I4(e:EU o=some E):∃h f,o=.exc E h f:=by
 induction o with
 |exc j h f=>exact mC h f<|Y (aQ e) rfl
 |_=>exact aW e
def Tu(G:cy K T B)(j:aV K F loc f H s)(q:aT f s.heap D us)(e:oN T D H=some r):aO I K F loc (call (.builtin "Exception.__init__") us) (aM aN r) (a8 r) f H s:=by obtain⟨a,b,rfl,e⟩:=w5 e;refine aK e λi C e=>aK e λx _ e=>aK e λo N e=>aK e λE h e=>aK e λk aP e=>cH e λaE y=>?_;rw[iD C]at q;clear e;obtain⟨u,w,rfl,J,_⟩:=q.i2;clear e q;obtain⟨p,W,rfl,z⟩:=J.ex;refine hv (I4 h) λdj U O=>?_;clear h e;subst O;exact Kp G j N z aP aE y
def Jq(G:cy K T B)(O:bB I K d v)(E:CtxOk d c F)(ns:df args=true)(st:a5 K.a3 [F.L] y h j f H s.heap)(k:aV K F loc f H s)(N:RV f s.heap (.blt b) u)(e:z5 T m H (ce v c loc args) b=some r):l8 I K F loc args pos pl y h j r u m s:=by
 induction b with
 |exception=>exact Y N.r7<|cH e λhm e=>Y (show m=pi from dr.mp hm)<|La (G.toTabC.In k) Js Oi (Oz B) rfl<|l1 (s:={s with toks:=s.toks+1}) O E ns st (k.toks _) e λD us ab H' J x ae U q z=>⟨.blt (λa C=>by cases C),fN ae<|Tu G x q z⟩
 |_=>exact aW e
def I0(G:cy K T B)(W:dc I K d O)(M:fX I K)(z:bB I K d v)(E:CtxOk d c F)(ns:df args=true)(st:a5 K.a3 [F.L] y h j f H s.heap)(k:aV K F loc f H s)(x:RV f s.heap (.ref i) u)(N:H[i]? =some o)(e:uC T O c.hd i m H (ce v c loc args) o=some r):l8 I K F loc args pos pl y h j r u m s:=by
 induction o with
 |list=>exact OZ M z E ns st k x N e|inst=>exact IC G W z E ns st k x N e|_=>exact aW e
def Nm(G:cy K T B)(W:dc I K d O)(M:fX I K)(z:bB I K d v)(E:CtxOk d c F)(ns:df args=true)(st:a5 K.a3 [F.L] y h j f H s.heap)(k:aV K F loc f H s)(x:RV f s.heap a u)(e:sR T O c.hd a m H (ce v c loc args)=some r):l8 I K F loc args pos pl y h j r u m s:=by
 induction a using V.casesOn with
 |str=>exact Pe M z E ns st k x e|blt=>exact Jq G z E ns st k x e|fn=>exact FF G W z E ns st k x e|ref=>exact aK e λo N e=>I0 G W M z E ns st k x N e|_=>exact aW e
def Ob(n:df l=true):(backTo p<|starEach l env).all (!·.1)=true:=by
 induction l with
 |nil=>rfl|cons x l f=>have h:=(l6 n).2;refine Y (rN (l6 n).1) ?_;show(true&&(backTo p<|starEach l env).all (!·.1))=true;exact Y (f h) rfl
def I1(n:df l=true)(h:l.length<30):methodCallForm (l.length+([]:List Keyword).length) (backTo p<|starEach l env) (backToKw p<|keywordEach [] env)=true:=by unfold methodCallForm;exact Y (Ob n)<|h4 h
def P5(h:Nat.beq f.endLine p.line=true):methodCallPos true x env f p=pure p:=by unfold methodCallPos;refine Y (cd h) ?_;simp
def FY(G:cy K T B)(W:dc I K d O)(M:fX I K)(ae:bB I K d v)(E:CtxOk d c F)(y:aV K F loc f H s)(e:ec T O v c loc (.Call (.Attribute x m k) args [] p) H=some r):aO I K F loc (eval (.Call (.Attribute x m k) args [] p) F.env) (aM aN r) (a8 r) f H s:=by refine cH e λh e=>?_;simp only[fW]at h;refine aS h λU N=>aS U λaa D=>aS aa λh ns=>?_;unfold aO;refine Y (arm_eval_Call ..)<|Y (DD h)<|aX<|Sn.then (.refl ..) (ae.e E y) e λa u ab H' J j st _ q z=>aX<|dL ?_;unfold methodCall;refine Y (I1 ns<|bG D)<|Y (P5 N)<|aX<|c8 ?_;unfold calleeOf;refine Y (bZ rfl)<|bY (Nm (pos:=p) G W M ae E ns st j q z) (λfx af C=>?_) λ_ _ C=>C;exact aX<|aL C
end
end
section
open Builtin Builtin.Str StrLaws
noncomputable def gn(y:List Nat):List Nat->Nat->Nat->List Nat
 |[],_,_=>[]|_::r,w+1,i=>gn y r w<|i+1
 |a::r,0,i=>match pre y (a::r)with|true=>i::gn y r (y.length-1) (i+1)|false=>gn y r 0<|i+1
def Jg(x y)(T:1<=y.length):∀r i E free,r=x.drop i->i<=x.length->E.size<=i->(forIn (List.range' i<|r.length+1) (E,free)<|occBody (tx x) (tx y) x.length<|x.length+1).run.fst.toList=E.toList++gn y r (free-i) i:=by
 intro r;induction r with
 |nil=>
  intro i E free I j f;have z:x.length<=i:=by have:=az List.length I;rw[b9]at this;simp at this;exact a7 (a4 this.symm) (cn x.length i)<|by simp+arith
  refine Y jl<|Y List.range'_succ<|Y List.range'_zero<|Y (hR ..) ?_;have k:¬(((E.size<x.length+1/\free<=i)/\i+(tx y).length<=x.length)/\subAt (tx x) (tx y) i=true):=λh=>by have:=h.1.2;rw[cK]at this;exact jT 0<|cS T z this<|by simp+arith
  unfold occBody;refine Y (bO k) ?_;show E.toList=_;unfold gn;simp
 |cons a r U=>
  intro i E free I j f;have N:i<x.length:=by have:=az List.length I;rw[b9,cB]at this;exact a7 (a4 this) (a4<|bx<|show i<=x.length from aR j<|by simp+arith)<|by simp+arith
  have O:r=x.drop (i+1):=by exact Y eY.symm<|Y I.symm rfl
  refine Y cB<|Y List.range'_succ<|Y (hR ..) ?_;have J:=od (x:=x) (y:=y) j;rw[<-I]at J;unfold At at J;by_cases u:free<=i
  .refine Y (q6 u) ?_;unfold gn;rcases D:pre y (a::r)
   .have k:¬(((E.size<x.length+1/\free<=i)/\i+(tx y).length<=x.length)/\subAt (tx x) (tx y) i=true):=λh=>by have:=J.mp ⟨h.1.2,h.2⟩;rw[D]at this;exact ff this
    conv=>lhs;unfold occBody
    refine Y (bO k) ?_;show(forIn (List.range' (i+1)<|r.length+1) (E,free)<|occBody (tx x) (tx y) x.length<|x.length+1).run.fst.toList=_;exact Y (U (i+1) _ _ O N<|iQ ‹_›)<|Y (show free-(i+1)=0 from q6<|iQ u) rfl
   .have C:=J.mpr D;have k:(((E.size<x.length+1/\free<=i)/\i+(tx y).length<=x.length)/\subAt (tx x) (tx y) i=true):=⟨⟨⟨by exact a7 j f (by simp+arith),u⟩,C.1⟩,C.2⟩;conv=>lhs;unfold occBody
    refine Y (bZ k) ?_;show(forIn (List.range' (i+1)<|r.length+1) (E.push i,i+(tx y).length)<|occBody (tx x) (tx y) x.length<|x.length+1).run.fst.toList=_;refine Y (U (i+1) _ _ O N<|by rw[Array.size_push];exact fv ‹_›)<|Y (cK ..)<|Y (show i+y.length-(i+1)=y.length-1 by exact cf (a7 (cn y.length 1) (a4<|bx<|show i+1<=i+y.length from aR T<|by simp+arith)<|by simp+arith)<|a7 (cn (i+y.length)<|i+1) (a4<|bx<|show 1<=y.length from aR T<|by simp+arith)<|by simp+arith) ?_;simp
  .have k:¬(((E.size<x.length+1/\free<=i)/\i+(tx y).length<=x.length)/\subAt (tx x) (tx y) i=true):=λh=>u h.1.1.2;conv=>lhs;unfold occBody
   refine Y (bO k) ?_;show(forIn (List.range' (i+1)<|r.length+1) (E,free)<|occBody (tx x) (tx y) x.length<|x.length+1).run.fst.toList=_;refine Y (U (i+1) _ _ O N<|aR f<|by simp+arith)<|Y (show free-i=(free-(i+1))+1 by exact cf (a7 (cn free<|i+1) (a4<|bx<|show i<=free from aR (Nat.lt_of_not_le u)<|by simp+arith)<|by simp+arith)<|a7 (cn free i) (a4<|bx<|show i+1<=free from aR (Nat.lt_of_not_le u)<|by simp+arith)<|by simp+arith) ?_;rfl
def rK(x y)(f:1<=y.length):occurrences (tx x) (tx y) 0 (tx x).length ((tx x).length+1)=gn y x 0 0:=by refine Y (occ_eq ..)<|Y (cK ..) ?_;have:=Jg x y f x 0 #[] 0 (by simp) (bJ _)<|bJ _;refine Y (show x.length+1-0=x.length+1 by rfl)<|Y this ?_;simp
def uM(x)(i j):strSub (tx x) i j=tx ((x.drop i).take<|j-i):=by show Str.mk (x.toArray.extract i j)=_;exact Y List.extract_toArray rfl
theorem td(x y)(E:1<=y.length):∀r i w start U,r=x.drop i->i<=x.length->(w=0->start<=i/\U.reverse=(x.drop start).take (i-start))->(0<w->U=[]/\start=i+w)->(bf y r w U).map tx=partsFrom (tx x) y.length start (gn y r w i)
 |[],i,w,start,U,k,j,I,h=>by
  have z:i=x.length:=by have:=az List.length k;rw[b9]at this;simp at this;exact cf (aR j<|by simp+arith)<|a7 (a4 this.symm) (cn x.length i)<|by simp+arith
  unfold bf gn partsFrom;refine Y (cK ..)<|Y (uM ..) ?_;show[tx U.reverse]=_;rcases w with _|w;exact Y ((I rfl).2)<|Y z rfl;refine aS (h<|bR ..) λu f=>Y u (Y f ?_);have:x.length-(i+(w+1))=0:=q6<|av (a4 z.symm)<|bE ..;exact Y this<|Y List.take_zero rfl
 |a::r,i,w+1,start,U,k,j,I,h=>by
  have J:i<x.length:=by have:=az List.length k;rw[b9,cB]at this;exact a7 (a4 this) (a4<|bx<|show i<=x.length from aR j<|by simp+arith)<|by simp+arith
  have N:r=x.drop (i+1):=by exact Y eY.symm<|Y k.symm rfl
  refine aS (h<|by simp+arith) λu f=>?_;unfold bf gn;refine td x y E r (i+1) w start U N J (λC=>?_) λC=>⟨u,by exact cf (aR (a4 f)<|by simp+arith)<|aR (a4 f.symm)<|by simp+arith⟩;refine⟨by exact a7 (a4 f) (a4 C) (by simp+arith),?_⟩;exact Y u<|Y (show i+1-start=0 by exact cf (a7 (a4 f.symm) (a4<|bx<|show start<=i+1 from a7 (a4 f) (a4 C)<|by simp+arith)<|by simp+arith)<|by simp+arith)<|Y List.take_zero rfl
 |a::r,i,0,start,U,k,j,I,h=>by
  have J:i<x.length:=by have:=az List.length k;rw[b9,cB]at this;exact a7 (a4 this) (a4<|bx<|show i<=x.length from aR j<|by simp+arith)<|by simp+arith
  have N:r=x.drop (i+1):=by exact Y eY.symm<|Y k.symm rfl
  refine aS (I rfl) λf u=>?_;unfold bf gn;rcases D:pre y (a::r)
  .dsimp only;refine td x y E r (i+1) 0 start (a::U) N J (λ_=>⟨by exact iQ ‹_›,?_⟩) λC=>absurd C<|oj 0;refine Y nc<|Y u<|Y (show i+1-start=(i-start)+1 by exact cf (a7 (cn i start) (a4<|bx<|show start<=i+1 from aR f<|by simp+arith)<|by simp+arith)<|a7 (cn (i+1) start) (a4<|bx<|show start<=i from aR f<|by simp+arith)<|by simp+arith)<|Y List.take_add_one ?_;congr 1;refine Y wC<|Y (show start+(i-start)=i by exact cf (aR (a4<|bx<|show start<=i from aR f<|by simp+arith)<|by simp+arith)<|aR (cn i start)<|by simp+arith) ?_;have:x[i]? =(a::r)[0]? :=by refine Y k<|Y wC ?_;rfl
   exact Y this rfl
  dsimp only;refine Y hI ?_;unfold partsFrom;refine Y (uM ..)<|Y u.symm ?_;congr 1;refine td x y E r (i+1) (y.length-1) (i+y.length) [] N J (λC=>?_) λC=>⟨rfl,by exact cf (aR (cn y.length 1)<|by simp+arith)<|aR (a4<|bx<|show 1<=y.length from aR E<|by simp+arith)<|by simp+arith⟩;refine⟨by exact a7 (a4 C) (cn y.length 1) (by simp+arith),?_⟩;exact Y (show i+1-(i+y.length)=0 by exact cf (a7 E (a4<|bx<|show i+y.length<=i+1 from a7 (a4 C) (cn y.length 1)<|by simp+arith)<|by simp+arith)<|by simp+arith)<|Y List.take_zero rfl
def JC(x y)(f:1<=y.length):partsBetween (tx x) (occurrences (tx x) (tx y) 0 (tx x).length<|(tx x).length+1) (tx y).length=(bf y x 0 []).map tx:=by exact Y (rK x y f)<|Y (partsBetween_eq ..)<|Y (cK ..)<|Y (td x y f x 0 0 0 [] (by simp) (bJ _) (λ_=>⟨ba _,by simp⟩) λC=>by decide) rfl
noncomputable def l5(y:List Nat):List (List Nat)->List Nat|[]=>[]|a::r=>y++a++l5 y r
theorem A3(y a):∀r,jn y (a::r)=a++l5 y r
 |[]=>by simp[jn,l5]
 |b::r=>by show a++y++jn y (b::r)=_;refine Y (A3 y b r) ?_;simp[l5,br]
def Uv(y):∀r U,((r.map tx).foldl (λU p=>U++(tx y).cps++p.cps) U.toArray)=(U++l5 y r).toArray:=by
 intro r;induction r with
 |nil=>intro U;simp[l5]
 |cons a r f=>
  intro U;refine Y hI<|Y List.foldl_cons ?_;have:U.toArray++(tx y).cps++(tx a).cps=(U++y++a).toArray:=by simp
  refine Y this<|Y (f ..) ?_;simp[l5,br]
def rF(y)(N):glued (tx y) (N.map tx)=tx (jn y N):=by unfold glued;rcases N with _|⟨a,r⟩;rfl;refine Y (A3 ..) ?_;show Str.mk (((r.map tx)).foldl (λ(U:Array Nat) p=>U++(tx y).cps++p.cps) a.toArray)=_;exact Y (Uv ..) rfl
def JI(k)(N)(n):(N.map tx).toArray.foldl (λU p=>U+p.length+k) n=n+ca N+N.length*k:=by
 refine Y (Array.foldl_toList ..).symm ?_;show(N.map tx).foldl (λU p=>U+p.length+k) n=_;induction N generalizing n with
 |nil=>simp[ca]|cons a r f=>rw[hI,List.foldl_cons,f,cK,cB,ca,Nat.succ_mul];exact cf (by simp+arith)<|by simp+arith
def M9:∀{D k},aT f h l D->k8 l=some k->∃N,D=strValues N/\N.map (·.1)=k.map tx:=by
 induction l with
 |nil=>intro D k q e;exact Y q.i0<|Y (aQ e).symm<|a9 ([]) rfl rfl
 |cons a l z=>intro D k q e;obtain⟨u,us,rfl,y,C⟩:=q.eO;refine aK e λx aE e=>aK e λI e1 e=>?_;rw[jQ aE]at y;obtain⟨t,_,rfl⟩:=y.dU;refine aZ (z C e1) λN E j=>?_;subst E;exact Y (aQ e).symm<|a9 ((tx x,t)::N) rfl<|Y hI<|Y j<|Y hI rfl
def UG:∀{N:List (List Nat)}(t:Tok),(∀p∈N,p.length<=lim)->aT f h (N.map .str) (strsFrom t<|N.map tx):=by
 intro N;induction N with
 |nil=>intro _ _;exact .nil
 |cons p N j=>intro t hl;exact .cons (.str<|hl p<|.head _)<|j (t+1) λq m=>hl q<|.tail _ m
def Sa:q7=("startswith":Str):=by decide+kernel
def P8:qd=("endswith":Str):=by decide+kernel
def Uf:mu=("find":Str):=by decide+kernel
def P':qS=("join":Str):=by decide+kernel
def R9:q1=("split":Str):=by decide+kernel
def RH:tc=("replace":Str):=by decide+kernel
def PZ(x y)(i)(t u v):Gives («str.endswith» ⟨[.str x t,.str y u,.int i v],[]⟩) (.val<|.bool<|fromIndex x.length i+y.length<=x.length&&subAt x y (x.length-y.length)):=by show Gives (ret<|.bool<|fromIndex x.length i+y.length<=min x.length x.length&&subAt x y (min x.length x.length-y.length)) _;exact Y (Nat.min_self ..)<|.of_eq rfl
def Rn(x y)(i):(decide (fromIndex (tx x).length (Int.ofNat i)+(tx y).length<=(tx x).length)&&subAt (tx x) (tx y) ((tx x).length-(tx y).length))=(Nat.ble (i+y.length) x.length&&b2 x y):=by
 refine Y (cK ..)<|Y (cK ..)<|Y (wS ..) ?_;have:=AY x y;unfold Txt.endswith at this;rw[cK,cK]at this;by_cases h:i+y.length<=x.length;have j:(0+y.length<=x.length):=aR h (by simp+arith);rw[h4 j,Bool.true_and]at this;exact Y (h4 h)<|Y this<|Y (Nat.ble_eq.mpr h) rfl
 .have f:Nat.ble (i+y.length) x.length=false:=by rcases q:Nat.ble (i+y.length) x.length;rfl;exact absurd (bG q) h
  exact Y (kk h)<|Y f rfl
def Gy:∀{y},l0 y=true->Builtin.Str.strKind (tx y)=1:=by
 intro y h;unfold Builtin.Str.strKind;have:(tx y).cps.all (λc=>decide<|c<256)=true:=by
  show y.toArray.all _=true;refine Y List.all_toArray ?_;induction y with
  |nil=>rfl|cons c r j=>unfold l0 at h;split at h;rename_i f;exact Y List.all_cons<|Y (j h)<|Y (Bool.and_true ..)<|h4<|bG f;exact ff h
 exact Y (bZ this) rfl
def Rl(h:n<=lim):tooLong n=false:=by exact kk<|ol.mpr<|av h fH
theorem s1(y):∀r w U,∀p∈bf y r w U,p.length<=U.length+r.length
 |[],w,U,p,m=>by unfold bf at m;refine Y (b8.mp m) ?_;simp
 |a::r,w+1,U,p,m=>by unfold bf at m;have:=s1 y r w U p m;simp;exact iQ ‹_›
 |a::r,0,U,p,m=>by
  unfold bf at m;split at m;rcases bC.mp m with rfl|m;simp;have:=s1 y r _ [] p m;simp at this⊢;exact aR this<|by simp+arith
  have:=s1 y r 0 (a::U) p m;simp at this⊢;exact aR this<|by simp+arith
theorem sT(y):∀r w U,(bf y r w U).length<=r.length+1
 |[],w,U=>by unfold bf;simp
 |a::r,w+1,U=>by unfold bf;have:=sT y r w U;simp;exact iQ ‹_›
 |a::r,0,U=>by unfold bf;split;have:=sT y r (y.length-1) [];simp;omega;have:=sT y r 0 (a::U);simp;exact iQ ‹_›
def Iz(h:bq [a] x=none):(occurrences (tx x) (tx [a]) 0 (tx x).length<|(tx x).length+1).isEmpty=true:=by have:=q9 x [a] 0 (x.length+1) (bR ..)<|.inl<|bJ _;rw[iO]at this;refine Y (cK ..) ?_;rcases this with⟨_,z⟩|⟨j,r,k,_⟩;exact Y z rfl;rw[h]at k;exact aW k
section
variable{K:al}
def Gv(W:aV K F loc f H s)(aE:x.length<=1000000)(U:1<=y.length)(T:l0 y=true)(e:rt (.ref H.length) (H++[.list<|(bf y x 0 []).map .str])=some r):aO I K F loc (call (.builtin "str.split") [.str (tx x) t,.str (tx y) u]) (aM aN r) (a8 r) f H s:=by
 have hl:x.length<=lim:=av aE<|by decide
 have ah:∀p∈bf y x 0 [],p.length<=lim:=λp m=>by have:=s1 y x 0 [] p m;simp at this;exact av ‹_› ‹_›
 have af:(bf y x 0 []).length<=lim:=by
  have:=sT y x 0 [];have:x.length+1<=lim:=av (fv aE)<|by decide
  exact av ‹_› ‹_›
 have bp:∀{D:List Value}{J:Shared},aT f s.heap ((bf y x 0 []).map .str) D->J={s with heap:=s.heap.push {cls:=.type "list",data:=.seq D.toArray},toks:=J.toks}->eE K F loc (aM aN r) f H s.heap (.ref s.heap.objs.size) J:=λ{D J} q es=>by
  obtain⟨R',st⟩:=W.add (o:=.list<|(bf y x 0 []).map .str) (p:=(s.heap.objs.size,0)) (h':=s.heap.push {cls:=.type "list",data:=.seq D.toArray}) J.toks (λb ob e=>b0 _ e)
   (λa m=>by refine Y (b8.mp m) ?_;exact⟨ei _,W.h6<|ei _⟩) (ee.mpr ⟨by simp,kO⟩)
   (λfx=>⟨D,0,dS _ rfl,by refine Y q.length<|Y (p' ..) ?_;exact af,q.keep _ fx⟩)
  refine Y es<|bj (ρ:=aN) R' st (RV.ref (d:=0) ?_) e;refine Y W.rep.len.symm<|Y (dp<|ba _)<|Y (ew ..) ?_;rfl
 have aP:decide (Builtin.Str.strKind (tx x)<Builtin.Str.strKind (tx y))=false:=by
  refine Y (Gy T) ?_;have:1<=Builtin.Str.strKind (tx x):=by unfold Builtin.Str.strKind;split<;>(try split)<;>decide
  exact kk<|pF<|aR this<|by simp+arith
 have ae:=JC x y U;have ag:((tx y).length==0)=false:=by refine Y (cK ..) ?_;simp;intro C;clear T e;subst C;simp at U
 have fR:gn y x 0 0=[]->bf y x 0 []=[x]:=λC=>by
  have z:=ae;rw[rK x y U,C]at z;have E:(bf y x 0 []).map tx=[tx x]:=by refine Y z.symm<|Y (partsBetween_eq ..) ?_;unfold partsFrom;refine Y (cK ..)<|Y (uM ..) ?_;simp
  revert E;rcases q:bf y x 0 []with _|⟨p,N⟩;intro E;cases E;intro E;rcases N;simp only[hI,List.map_nil,List.cons.injEq,and_true]at E;have:=az (λC:Str=>C.cps.toList) E;simpa using this;cases E
 by_cases aa:x.length<y.length
 .have ab:gn y x 0 0=[]:=by
   rcases q:gn y x 0 0 with _|⟨i,l⟩;rfl
   .exfalso
    have k:=q9 x y 0 (x.length+1) (bR ..)<|.inl<|bJ _;have z:=rK x y U;rw[cK]at z;rw[z,q]at k;rcases k with⟨_,h⟩|⟨j,r',h,_⟩;cases h;refine cZ (jZ h) λg1 g2 _=>?_;have:=kf g2;simp at this;exact jT 0<|cS aa this (gq x.length j)<|by simp+arith
  refine mK PySem.F.slot_str_split (kr _ _ _) PySem.F.entry_str_split (PySem.F.args_str_split_2 _ _) (meets_str_split_cannot_occur (tx x) (tx y) t u<|by exact Y (cK ..)<|Y (cK ..)<|Y (h4 aa) rfl) ?_;refine bp (D:=[.str (tx x) t]) ?_ rfl;exact Y (fR ab)<|.cons (.str hl) .nil
 .have k:(decide ((tx x).length<(tx y).length)||decide (Builtin.Str.strKind (tx x)<Builtin.Str.strKind (tx y)))=false:=by exact Y aP (Y (cK ..)<|Y (cK ..)<|Y (kk aa) rfl)
  rcases O:(occurrences (tx x) (tx y) 0 (tx x).length ((tx x).length+1)).isEmpty;refine mK PySem.F.slot_str_split (kr _ _ _) PySem.F.entry_str_split (PySem.F.args_str_split_2 _ _) (meets_str_split_sep (tx x) (tx y) t u k ag O (by refine Y (cK ..) ?_;exact av hl fH)<|by refine Y ae<|Y (p' ..) ?_;exact av af fH) ?_;exact Y ae<|bp (UG _ ah) rfl
  .refine mK PySem.F.slot_str_split (kr _ _ _) PySem.F.entry_str_split (PySem.F.args_str_split_2 _ _) (meets_str_split_not_found (tx x) (tx y) t u k ag O) (bp (D:=[.str (tx x) t]) ?_ rfl);have ab:gn y x 0 0=[]:=by refine Y (rK x y U).symm ?_;exact List.isEmpty_iff.mp O
   exact Y (fR ab)<|.cons (.str hl) .nil
end
end
section
variable{K:al}{loc:Loc}
def TD:ic=("append":Str):=by decide+kernel
def Rr:jY=("pop":Str):=by decide+kernel
def R2:ja=("extend":Str):=by decide+kernel
def aV.DQ(R:aV K F loc f H s)(e1:H[i]? =some (.list l))(u:f[i]? =some (a,d))(h:s.heap.get? a=some (eA D n))(z)(y:(z D.toArray).toList=U)(hl:j.length<=lim)(q:aT f s.heap j U):aV K F loc f (H.set i<|.list j) {s with heap:=s.heap.update a<|Obj.mapSeq z}/\a5 K.a3 [F.L] f H s.heap f (H.set i<|.list j) (s.heap.update a<|Obj.mapSeq z):=by
 refine aU (v7 z h) λE k=>?_;rw[y]at k;exact R.set s.toks e1 u rfl
  (λb ob I x=>((j5 _ _ _).2 b λC=>I<|by refine Y C ?_;exact .head _).trans x)
  (λfx=>⟨U,E,k,by refine Y q.length ?_;exact hl,q.fx fx⟩)
def H7(q:aT f h l D)(e:l.getLast?=some v):∃u,D[D.length-1]? =some u/\RV f h v u/\aT f h l.dropLast D.dropLast:=by
 have j:l[l.length-1]? =some v:=by refine Y List.getLast?_eq_getElem?.symm ?_;exact e
 refine aZ (q.get j) λu k x=>fI u (by refine Y q.length ?_;exact k) x ?_;exact RG q
def Iu(e1:H[i]? =some (.list l))(h:f[i]? =some (a,d))(R:aV K F loc f H s)(q:aT f s.heap D us)(e:eH ic i l D H=some r):aO I K F loc (call (.builtin "list.append")<|.ref a::us) (aM aN r) (a8 r) f H s:=by
 have e:=e;obtain⟨v,rfl,e⟩:=iv e;obtain⟨u,rfl,T⟩:=q.i1;obtain⟨y,e⟩:=jN e;obtain⟨W,n,E,J,j⟩:=R.isList e1 h;refine Az E J λh' N z U=>?_;obtain⟨k,st⟩:=R.set s.toks (o':=.list<|l++[v]) e1 h rfl
  (λb ob O x=>(U.2 b λC=>O<|by refine Y C ?_;exact .head _).trans x)
  (λfx=>⟨W++[u],N,z,by refine Y a0<|Y j.length ?_;exact hP y,(j.fx fx).append<|.cons (T.fx fx) .nil⟩)
 exact bj (ρ:=aN) k st .none e
def Hw(e1:H[i]? =some (.list l))(k:f[i]? =some (a,d))(R:aV K F loc f H s)(q:aT f s.heap D us)(e:eH jY i l D H=some r):aO I K F loc (call (.builtin "list.pop")<|.ref a::us) (aM aN r) (a8 r) f H s:=by
 rcases D
 .obtain rfl:=q.i0;have e:(match l.getLast? with
   |some v=>rt v<|H.set i<|.list l.dropLast
   |none=>none)=some r:=e
  revert e;rcases C:l.getLast? with _|v;intro e;exact(gw e).elim;intro e;obtain⟨h,n,j,x,y⟩:=R.isList e1 k;refine dF (H7 y C) λu E k2 J=>mK PySem.F.slot_list_pop ⟨_,j,rfl⟩ PySem.F.entry_list_pop (PySem.F.args_list_pop_1 _) (PySem.MeetsSeq.list_pop_last a h.toArray n u (by simpa using E)<|by refine Y di ?_;exact av x fH) ⟨j,?_⟩;obtain⟨z,st⟩:=R.DQ e1 k j (λN=>N.eraseIdxIfInBounds<|h.toArray.size-1) (by show((h.toArray).eraseIdxIfInBounds<|h.toArray.size-1).toList=_;exact Y Array.toList_eraseIdxIfInBounds<|Y di<|Y List.eraseIdx_length_sub_one rfl) (by refine Y List.length_dropLast<|Y y.length.symm ?_;exact av (gq ..) x) J;exact bj z st (k2.at st R) e
 exact(gw e).elim
def S8(e1:H[i]? =some (.list l))(J:f[i]? =some (a,d))(R:aV K F loc f H s)(q:aT f s.heap D us)(e:eH ja i l D H=some r):aO I K F loc (call (.builtin "list.extend")<|.ref a::us) (aM aN r) (a8 r) f H s:=by
 have e:=e;obtain⟨v,rfl,e⟩:=iv e;obtain⟨u,rfl,q1⟩:=q.i1;refine aZ (rz e) λj aa e=>?_;subst aa;obtain⟨b,d',rfl,W⟩:=q1.ex;refine aZ (pG e) λk aP e=>cH e λy e=>?_;have hl:=hP (cY.mp y).1;obtain⟨T,n,z,g2,N⟩:=R.isList e1 J;obtain⟨E,n',k1,k2,O⟩:=R.isList aP W;have h:T.toArray.size+E.toArray.size<=sizeLine:=by refine Y di<|Y di<|Y N.length<|Y O.length ?_;exact av hl fH
 refine mK PySem.F.slot_list_extend ⟨_,z,rfl⟩ PySem.F.entry_list_extend (PySem.F.args_list_extend_2 _ _) (PySem.AutoSeq1.list_extend_list_list_0 a T.toArray n b E.toArray n' ?_ (av ‹_›<|by decide)<|iQ ‹_›) ⟨z,k1,?_⟩;simp only[fW,not_and];intro _ C;exact absurd (tX C)<|ol.mpr h;refine aS (R.DQ e1 J z (λx=>x++E.toArray) (by simp) (by refine Y a0 ?_;exact hl)<|N.append O) λU st=>?_;exact bj U st .none e
def On(m)(hm:ky m=true):∃id,Slot "list" m id/\typeOf (.builtin id)=pure (.type "method_descriptor")/\∀{F loc f H s i a d l D us r},H[i]? =some (.list l)->f[i]? =some (a,d)->aV K F loc f H s->aT f s.heap D us->eH m i l D H=some r->aO I K F loc (call (.builtin id)<|.ref a::us) (aM aN r) (a8 r) f H s:=by
 induction h:sq ic m with
 |true=>clear hm;obtain rfl:=dr.mp h;exact fI ("list.append") (by refine Y TD ?_;exact PySem.F.slot_list_append) PySem.F.type_list_append Iu
 |false=>
 induction j:sq jY m with
 |true=>clear hm h;obtain rfl:=dr.mp j;exact fI ("list.pop") (by refine Y Rr ?_;exact PySem.F.slot_list_pop) PySem.F.type_list_pop Hw
 |false=>
 rcases k:sq ja m;unfold ky dY dY dY dY at hm;rw[h,j,k]at hm;exact ff hm;clear hm h j;obtain rfl:=dr.mp k;exact fI ("list.extend") (by refine Y R2 ?_;exact PySem.F.slot_list_extend) PySem.F.type_list_extend S8
end
section
open Builtin Builtin.Str StrLaws
section
variable{I:Program}{K:al}
def JN(j:aV K F loc f H s)(q:aT f s.heap D us)(e:e8 q7 x D H=some r):aO I K F loc (call (.builtin "str.startswith")<|.str (tx x) t::us) (aM aN r) (a8 r) f H s:=by have e:=e;rcases uj e with⟨y,rfl,e⟩|⟨y,i,rfl,e⟩;obtain⟨u,rfl,h⟩:=q.i1;obtain⟨C,k,rfl⟩:=h.dU;refine call_gives PySem.F.slot_str_startswith (kr _ _ _) PySem.F.entry_str_startswith (PySem.F.args_str_startswith_2 _ _) (gives_str_startswith _ _ _ _) ?_;have:=OM x y;unfold Txt.startswith at this;exact Y (show(0+(tx _).length<=(tx x).length&&subAt (tx x) (tx _) 0)=_ from this)<|bj j (.refl ..) .bool e;obtain⟨u,w,rfl,h,z⟩:=q.i2;obtain⟨C,k,rfl⟩:=h.dU;obtain⟨E,rfl⟩:=z.cG;exact SC.startswith3<|Y (Qz ..)<|bj j (.refl ..) .bool e
def Qb(j:aV K F loc f H s)(q:aT f s.heap D us)(e:e8 qd x D H=some r):aO I K F loc (call (.builtin "str.endswith")<|.str (tx x) t::us) (aM aN r) (a8 r) f H s:=by have e:=e;rcases uj e with⟨y,rfl,e⟩|⟨y,i,rfl,e⟩;obtain⟨u,rfl,h⟩:=q.i1;obtain⟨C,k,rfl⟩:=h.dU;refine call_gives PySem.F.slot_str_endswith (kr _ _ _) PySem.F.entry_str_endswith (PySem.F.args_str_endswith_2 _ _) (gives_str_endswith _ _ _ _) ?_;have:=AY x y;unfold Txt.endswith at this;exact Y (show(0+(tx _).length<=(tx x).length&&subAt (tx x) (tx _) ((tx x).length-(tx _).length))=_ from this)<|bj j (.refl ..) .bool e;obtain⟨u,w,rfl,h,z⟩:=q.i2;obtain⟨C,k,rfl⟩:=h.dU;obtain⟨E,rfl⟩:=z.cG;exact call_gives PySem.F.slot_str_endswith (kr _ _ _) PySem.F.entry_str_endswith (PySem.F.args_str_endswith_3 _ _ _) (PZ _ _ _ _ _ _)<|Y (Rn ..)<|bj j (.refl ..) .bool e
def FM(k:aV K F loc f H s)(q:aT f s.heap D us)(e:e8 mu x D H=some r):aO I K F loc (call (.builtin "str.find")<|.str (tx x) t::us) (aM aN r) (a8 r) f H s:=by have e:=e;rcases uj e with⟨y,rfl,e⟩|⟨y,i,rfl,e⟩;obtain⟨u,rfl,j⟩:=q.i1;obtain⟨C,h,rfl⟩:=j.dU;refine call_gives PySem.F.slot_str_find (kr _ _ _) PySem.F.entry_str_find (PySem.F.args_str_find_2 _ _) (gives_str_find _ _ _ _) ?_;show(Made.int<|Txt.find (tx x)<|tx _).post _ _;exact Y (FI ..)<|bj (k.toks _) (.refl ..) .int e;obtain⟨u,w,rfl,j,z⟩:=q.i2;obtain⟨C,h,rfl⟩:=j.dU;obtain⟨E,rfl⟩:=z.cG;obtain⟨h,e⟩:=jN e;exact SC.find3<|Y (Ub _ _ _<|bG h)<|bj (k.toks _) (.refl ..) .int e
theorem yQ:∀f,(jn x f).length<=ca f+f.length*x.length
 |[]=>by simp[jn,ca]
 |[a]=>by simp[jn,ca]
 |a::b::r=>by have:=yQ (x:=x)<|b::r;show(a++x++jn x (b::r)).length<=a.length+ca (b::r)+(r.length+1+1)*x.length;refine Y a0<|Y a0<|Y (Nat.succ_mul ..) ?_;simp only[cB]at this;exact aR this<|by simp+arith
def K0{j:Nat}(D:aV K F loc f H s)(U:f[j]? =some (a,d))(hj:H[j]? =some (.list l))(aa:k8 l=some u)(e:as (cq<|ca u+u.length*x.length) (rt (V.str<|jn x u) H)=some r):aO I K F loc (call (.builtin "str.join") [.str (tx x) t,.ref a]) (aM aN r) (a8 r) f H s:=by
 refine cH e λh e=>?_;have hl:=hP h;obtain⟨ws,n,W,g2,E⟩:=D.isList hj U;refine aZ (M9 E aa) λN ab z=>?_;clear g2 E;subst ab;refine mK PySem.F.slot_str_join (kr _ _ _) PySem.F.entry_str_join (PySem.F.args_str_join_2 _ _) (meets_str_join_list (tx x) t a N ?_) ⟨⟨_,W,rfl,_,rfl⟩,?_⟩;refine Y z ?_;have:=JI (tx x).length u 0;rw[cK,eW]at this;exact Y (show(u.map tx).toArray.foldl (λx1 x2=>x1+x2.length+(tx x).length) 0=ca u+u.length*x.length from by rw[cK];exact this)<|Rl hl
 .have C:=av (yQ u) hl;have bp:∀T k,eE K F loc (aM aN r) f H s.heap (.str (tx<|jn x u) T) {s with toks:=k}:=λT k=>bj (D.toks k) (.refl ..) (.str C) e;match N,u,z,bp with
  |[p],u,z,bp=>show eE K F loc (aM aN r) f H s.heap (.str p.1 p.2) s;rcases u with _|⟨y,u⟩;simp at z;rcases u;simp only[hI,List.map_nil,List.cons.injEq,and_true]at z;exact Y z<|bp p.2 s.toks;simp at z
  |[],u,z,bp=>refine⟨?_,?_⟩;show(glued (tx x)<|([]:List<|Str×Tok).map (·.1)).length<=sizeLine;exact Y z<|Y (rF ..)<|Y (cK ..)<|av C fH;show eE K F loc (aM aN r) f H s.heap (.str (glued (tx x)<|([]:List<|Str×Tok).map (·.1)) s.toks) {s with toks:=s.toks+1};exact Y z<|Y (rF ..)<|bp _ _
  |p::J::O,u,z,bp=>refine⟨?_,?_⟩;show(glued (tx x)<|(p::J::O).map (·.1)).length<=sizeLine;exact Y z<|Y (rF ..)<|Y (cK ..)<|av C fH;show eE K F loc (aM aN _) f H s.heap (.str (glued (tx x)<|(p::J::O).map (·.1)) s.toks) {s with toks:=s.toks+1};exact Y z<|Y (rF ..)<|bp _ _
def QV(h:aV K F loc f H s)(q:aT f s.heap D us)(e:e8 qS x D H=some r):aO I K F loc (call (.builtin "str.join")<|.str (tx x) t::us) (aM aN r) (a8 r) f H s:=by have e:=e;obtain⟨v,rfl,e⟩:=iv e;obtain⟨u,rfl,C⟩:=q.i1;refine aZ (rz e) λj E e=>?_;subst E;obtain⟨a,d,rfl,k⟩:=C.ex;exact aZ (pG e) λl y e=>aK e λJ z e=>K0 h k y z e
def K5(k:aV K F loc f H s)(q:aT f s.heap D us)(e:e8 q1 x D H=some r):aO I K F loc (call (.builtin "str.split")<|.str (tx x) t::us) (aM aN r) (a8 r) f H s:=by have e:=e;obtain⟨v,rfl,e⟩:=iv e;obtain⟨u,rfl,z⟩:=q.i1;refine aZ (qV e) λy C e=>?_;subst C;obtain⟨J,E,rfl⟩:=z.dU;refine cH e λj e=>?_;have j:=cY.mp j;have h:=cY.mp j.1;exact Gv k (bG j.2) (bG h.1) h.2 e
def Iw(aE:x.length<=lim)(E:aV K F loc f H s)(q:aT f s.heap D us)(e:e8 tc x D H=some r):aO I K F loc (call (.builtin "str.replace")<|.str (tx x) t::us) (aM aN r) (a8 r) f H s:=by
 have e:hA D (λa b=>vStr a λy=>vStr b λC=>nu y λc=>nu C λ_=>match bq [c] x with|none=>rt (.str x) H|some _=>none)=some r:=e
 obtain⟨v,w,rfl,e⟩:=w5 e;obtain⟨u,k,rfl,J,N⟩:=q.i2;refine aZ (qV e) λy O e=>?_;subst O;refine aZ (qV e) λC T e=>?_;subst T;refine aZ (w9 e) λc U e=>?_;subst U;refine aZ (w9 e) λc' W z=>?_;subst W;obtain⟨t',hy,rfl⟩:=J.dU;obtain⟨aa,hz,rfl⟩:=N.dU;revert z;rcases h:bq [c] x;intro z;have j:=Iz h;exact call_gives PySem.F.slot_str_replace (kr _ _ _) PySem.F.entry_str_replace (PySem.F.args_str_replace_3 _ _ _) (gives_str_replace _ _ _ _ _ _ λC=>by rw[j]at C;exact ff<|C.symm)<|Y j<|Y (Bool.true_or ..)<|Y (bZ rfl)<|bj E (.refl ..) (.str aE) z;intro z;exact(gw z).elim
def Jb(I)(K):fX I K:=by refine⟨λm hm=>?_,λm hm=>On m hm⟩;have h:=Bq hm;clear hm;rcases bC.mp h with rfl|h;exact fI ("str.startswith") (by refine Y Sa ?_;exact PySem.F.slot_str_startswith) PySem.F.type_str_startswith λ_ R q e=>JN R q e;rcases bC.mp h with rfl|h;exact fI ("str.endswith") (by refine Y P8 ?_;exact PySem.F.slot_str_endswith) PySem.F.type_str_endswith λ_ R q e=>Qb R q e;rcases bC.mp h with rfl|h;exact fI ("str.find") (by refine Y Uf ?_;exact PySem.F.slot_str_find) PySem.F.type_str_find λ_ R q e=>FM R q e;rcases bC.mp h with rfl|h;exact fI ("str.join") (by refine Y P' ?_;exact PySem.F.slot_str_join) PySem.F.type_str_join λ_ R q e=>QV R q e;rcases bC.mp h with rfl|h;exact fI ("str.split") (by refine Y R9 ?_;exact PySem.F.slot_str_split) PySem.F.type_str_split λ_ R q e=>K5 R q e;obtain rfl:=b8.mp h;exact fI ("str.replace") (by refine Y RH ?_;exact PySem.F.slot_str_replace) PySem.F.type_str_replace λaE R q e=>Iw aE R q e
end
end
def DW:∀n,n<10->(Nat.digitChar n).toNat=48+n:=by decide
theorem Br:∀z g n U ds,n<10^(z+1)->n<g->ds.map Char.toNat=U->(Nat.toDigitsCore 10 g n ds).map Char.toNat=hC (z+1) n U
 |z,0,n,U,ds,_,h,_=>absurd h<|g6 _
 |z,g+1,n,U,ds,x,y,e=>by
  unfold Nat.toDigitsCore hC;dsimp only;by_cases E:n<10
  .refine Y (bZ<|Nat.div_eq_of_lt E) ?_;have f:Nat.ble 10 n=false:=by rcases q:Nat.ble 10 n;rfl;exact absurd E<|ol.mpr<|bG q
   exact Y f<|Y hI<|Y e<|Y (Nat.mod_eq_of_lt E)<|Y (DW n E) rfl
  have f:Nat.ble 10 n=true:=Nat.ble_eq.mpr (aR (mm E)<|by simp+arith);refine Y (bO λC=>(Nat.div_eq_zero_iff.mp C).elim (λC=>absurd C<|by decide) E)<|Y f ?_;dsimp only;rcases z with _|z;exact absurd (show n<10 from x) E;refine Br z g (n/10) _ _ ?_ (cu (Nat.div_lt_self (cu (by decide)<|mm E)<|by decide)<|eZ y) (by exact Y hI<|Y e<|Y (DW _<|nZ _<|by decide) rfl);rw[Nat.div_lt_iff_lt_mul<|by decide];rw[Nat.pow_succ]at x;exact x
def QI(h:n<=10000000):Str.ofString (toString<|Int.ofNat n)=⟨(hC 30 n []).toArray⟩:=by refine Y (Str.ofString_eq_toList ..) ?_;show Str.mk ((String.ofList<|Nat.toDigits 10 n).toList.map Char.toNat).toArray=_;refine Y String.toList_ofList ?_;unfold Nat.toDigits;exact Y (Br 29 (n+1) n [] [] (e9 h<|by decide) (oL _) rfl) rfl
def Sl:∀z n U,(hC z n U).length<=U.length+z:=by
 intro z;induction z with
 |zero=>intro n U;unfold hC;simp
 |succ z f=>
  intro n U;unfold hC;split;have:=f (n/10) ((48+n%10)::U);simp at this⊢;exact aR this<|by simp+arith
  simp
def insI_perm(x):∀l,(insI x l).Perm (x::l):=by
 intro l;induction l with
 |nil=>exact .refl _|cons y r f=>simp only[insI];split;exact((f).cons y).trans<|.swap ..;exact .refl _
def sortI_perm:∀l,(sortI l).Perm l:=by
 intro l;induction l with
 |nil=>exact .refl _|cons x r f=>exact(insI_perm x _).trans<|(f).cons x
def Il(x):∀{l},l.Pairwise (·<=·)->(insI x l).Pairwise (·<=·):=by
 intro l;induction l with
 |nil=>intro _;simp[insI]
 |cons y r j=>intro h;simp only[insI];have h':=rX.mp h;split;rename_i f;rw[ib,gE]at f;refine rX.mpr ⟨λC m=>?_,j h'.2⟩;rcases bC.mp ((insI_perm x r).mem_iff.mp m)with rfl|m;exact pY f;exact h'.1 C m;rename_i f;rw[ib,DB]at f;refine rX.mpr ⟨λC m=>?_,h⟩;rcases bC.mp m with rfl|m;exact hH.mp f;exact oD (hH.mp f)<|h'.1 C m
def I2:∀l,(sortI l).Pairwise (·<=·):=by
 intro l;induction l with
 |nil=>simp[sortI]|cons x r f=>exact Il x<|f
theorem Fa:∀{l k:List Int},l.Perm k->l.Pairwise (·<=·)->k.Pairwise (·<=·)->l=k
 |[],k,p,_,_=>(List.nil_perm.mp p).symm|a::l,[],p,_,_=>by simpa using p.length_eq
 |a::l,b::k,p,x,y=>by
  have f:=rX.mp x;have h:=rX.mp y;have j:a=b:=by have aw:=p.mem_iff.mp<|.head _;have aG:=p.mem_iff.mpr<|.head _;rcases bC.mp aw with e|aw;exact e;rcases bC.mp aG with e|aG;exact e.symm;exact Int.le_antisymm (f.1 b aG)<|h.1 a aw
  clear y;subst j;exact Y (Fa (List.Perm.cons_inv p) f.2 h.2) rfl
def Tz:∀{D ns},aT f h l D->mV l=some ns->IntsAre D ns:=by
 induction l with
 |nil=>intro D ns q e;exact Y q.i0<|Y (aQ e).symm .nil
 |cons a l k=>intro D ns q e;obtain⟨u,us,rfl,j,y⟩:=q.eO;refine aK e λx aE e=>aK e λz e1 e=>?_;rw[fp aE]at j;clear q;obtain⟨t,rfl⟩:=j.cG;exact Y (aQ e).symm<|.cons _ _<|k y e1
def t8(q:IntsAre D ns):aT f h (ns.map .int) D:=by
 induction q with
 |nil=>exact .nil|cons n t _ j=>exact .cons .int j
section
variable{K:al}{F:bI}{loc:Loc}{f:a6}{H:aq}{s:Shared}{r:R V}{u:Value}
def PR(y:aV K F loc f H s)(q:RV f s.heap a u)(e:DN a H=some r):aO I K F loc (call eu.len.val [u]) (aM aN r) (a8 r) f H s:=by
 induction a using V.casesOn with
 |str x=>obtain⟨t,aE,rfl⟩:=q.dU;have h:Str.length ⟨x.toArray⟩=x.length:=di;refine PySem.P.len_str (by refine Y h ?_;exact E7 aE) ?_;exact bj (y.toks<|s.toks+1+1) (.refl ..) (by refine Y h ?_;exact .int) e
 |tup l=>obtain⟨a,D,rfl,z,hl,j⟩:=q.oc;refine PyProof.Rows.len_tuple ⟨_,z,rfl,_,rfl⟩ (by refine Y di ?_;exact vF hl) ?_;exact Y di<|Y j.length<|bj (y.toks<|s.toks+1+1) (.refl ..) .int e
 |ref i=>obtain⟨a,d,rfl,C⟩:=q.ex;refine aZ (pG e) λl k e=>?_;obtain⟨D,n,z,hl,j⟩:=y.isList k C;refine Calls.call_len_list ⟨_,z,rfl,_,rfl⟩ (by refine Y di ?_;exact vF hl) ?_;exact Y di<|Y j.length<|bj (y.toks<|s.toks+1+1) (.refl ..) .int e
 |_=>exact(gw e).elim
def Ho{i:Nat}(h:aV K F loc f H s)(q:RV f s.heap (.int i) u)(e:as (Nat.ble i 1114111) (rt (V.str [i]) H)=some r):aO I K F loc (call eu.chr.val [u]) (aM aN r) (a8 r) f H s:=by obtain⟨t,rfl⟩:=q.cG;obtain⟨k,e⟩:=jN e;exact chr_of_range (gt i) (n0.mpr<|bG k)<|bj (h.toks _) (.refl ..) (.str<|show 1<=lim by decide) e
def Qx{hd:Option Nat}{x y:Int}{w:Value}(hh:F.A.handled=none)(k:aV K F loc f H s)(q:RV f s.heap (.int x) u)(C:RV f s.heap (.int y) w)(e:rt (V.int<|ku x y) H=some r):aO I K F loc (call eu.max.val [u,w]) (aM aN r) (a8 r) f H s:=by obtain⟨t,rfl⟩:=q.cG;obtain⟨E,rfl⟩:=C.cG;refine max_two_ints hh λh' D z=>aS (k.keeps D z) λj st=>bj j st ?_ e;unfold ku;refine Y ib ?_;by_cases h:x<y;exact Y (bZ h)<|Y (h4 h) .int;exact Y (bO h)<|Y (kk h) .int
def Nt(C:aV K F loc f H s)(q:RV f s.heap (.ref i) u)(k:H[i]? =some (.list l))(U:mV l=some ns)(e:as (Nat.ble l.length 20) (rt (V.ref H.length)<|H++[.list<|(sortI ns).map .int])=some r):aO I K F loc (call eu.sorted.val [u]) (aM aN r) (a8 r) f H s:=by
 obtain⟨a,d,rfl,O⟩:=q.ex;obtain⟨hl,e⟩:=jN e;have hl:=bG hl;obtain⟨J,n,T,_,j⟩:=C.isList k O;have D:=j.length;have ii:=Tz j U;refine sorted_ints ⟨_,T,rfl,_,rfl⟩ ii (by refine Y D ?_;exact e9 hl<|by decide) λout aa a1 a2 e7=>?_;obtain rfl:aa=sortI ns:=Fa (a2.trans (sortI_perm ns).symm) e7<|I2 ns;obtain⟨c,z⟩:=sortedAll_at s.heap J out;have E:s.heap.get? (s.heap.objs.size+1)=none:=Heap.get?_none_of_le<|Nat.le_succ _;have W:out.toList.length<=lim:=by have x:=(t8 (f:=f) (h:=s.heap) a1).length;have y:=(t8 (f:=f) (h:=s.heap) ii).length;rw[p']at y;exact Y x<|Y (p' ..)<|Y ((sortI_perm ns).length_eq)<|Y y.symm<|Y D<|av hl<|by decide
 clear hl;obtain⟨N,st⟩:=C.add (o:=.list<|(sortI ns).map .int) (p:=(s.heap.objs.size+1,0)) (h':=sortedAll s.heap J out) s.toks (λb ob e=>sortedAll_old e)
  (λa m=>by refine Y (b8.mp m) ?_;exact⟨E,C.h6 E⟩) (ee.mpr ⟨nofun,kO⟩)
  (λfx=>⟨out.toList,c,by exact Y z rfl,W,t8 a1⟩)
 exact bj (ρ:=aN) N st (RV.ref (d:=0)<|by refine Y C.rep.len.symm<|Y (dp<|ba _)<|Y (ew ..) ?_;rfl) e
def F4(h:aV K F loc f H s)(q:RV f s.heap a u)(e:zg a H=some r):aO I K F loc (call eu.int.val [u]) (aM aN r) (a8 r) f H s:=by
 induction a using V.casesOn with
 |int i=>obtain⟨t,rfl⟩:=q.cG;exact PySem.call_int_int<|bj h (.refl ..) .int e
 |bool b=>obtain rfl:=q.te;exact PySem.call_int_bool<|bj (h.toks _) (.refl ..) (by cases b<;>exact .int) e
 |_=>exact(gw e).elim
def O7{i:Nat}(x:aV K F loc f H s)(q:RV f s.heap (.int i) u)(e:as (Nat.ble i 10000000) (rt (V.str<|hC 30 i []) H)=some r):aO I K F loc (call eu.str.val [u]) (aM aN r) (a8 r) f H s:=by
 obtain⟨t,rfl⟩:=q.cG;obtain⟨k,e⟩:=jN e;have k:=bG k;refine PySem.P.str_of_int ?_ ?_;show i.log2<1920;by_cases h:i=0;clear q e k;subst h;decide;rw[Nat.log2_lt h];exact e9 k<|cu (by decide:10000000<2^24)<|Nat.pow_le_pow_right (by decide)<|by decide
 have j:=QI k;rw[show(Int.ofNat i)=(i:Int) from rfl]at j;exact Y j<|bj (x.toks _) (.refl ..) (.str<|av (Sl 30 i [])<|by decide) e
def NF(h:aV K F loc f H s)(q:RV f s.heap (.ref i) u)(k:H[i]? =some (.list l))(e:rt (V.tup l) H=some r):aO I K F loc (call eu.tuple.val [u]) (aM aN r) (a8 r) f H s:=by
 obtain⟨a,d,rfl,z⟩:=q.ex;obtain⟨x,n,C,hl,j⟩:=h.isList k z;refine call_tuple_list (items:=x.toArray) ⟨_,C,rfl,_,rfl⟩ (λh' D=>?_)<|by refine Y di ?_;exact av hl fH
 refine aS (h.keeps (h':=h'.push {cls:=.type "tuple",data:=.seq x.toArray}) s.toks λb ob e=>b0 _<|D b ob e) λy st=>?_;exact bj (ρ:=aN) y st (.tup (dS _ rfl) hl<|j.at st h) e
def HO(j:aV K F loc f H s)(q:RV f s.heap (.int i) u)(e:rt (V.an 0 i) H=some r):aO I K F loc (call eu.range.val [u]) (aM aN r) (a8 r) f H s:=by obtain⟨t,rfl⟩:=q.cG;refine call_range_1 ?_;obtain⟨h,st⟩:=j.keeps (s.toks+1+1) λb ob e=>b0 _ e;exact bj h st (.an<|dS _ rfl) e
def G0(k:aV K F loc f H s)(q:RV f s.heap (.int i) u)(x:RV f s.heap (.int j) w)(e:rt (V.an i j) H=some r):aO I K F loc (call eu.range.val [u,w]) (aM aN r) (a8 r) f H s:=by obtain⟨t,rfl⟩:=q.cG;obtain⟨y,rfl⟩:=x.cG;refine call_range_2 ?_;obtain⟨h,st⟩:=k.keeps (s.toks+1) λb ob e=>b0 _ e;exact bj h st (.an<|dS _ rfl) e
def NJ{hd:Option Nat}{b:eu}{D:List V}{us:List Value}(hh:b=.max->F.A.handled=none)(z:aV K F loc f H s)(q:aT f s.heap D us)(e:xj b D H=some r):aO I K F loc (call b.val us) (aM aN r) (a8 r) f H s:=by
 induction b with
 |len=>obtain⟨a,rfl,e⟩:=iv e;obtain⟨u,rfl,h⟩:=q.i1;exact PR z h e
 |ord=>obtain⟨a,rfl,e⟩:=iv e;obtain⟨u,rfl,h⟩:=q.i1;refine aZ (qV e) λx J e=>?_;subst J;refine aZ (w9 e) λc O e=>?_;subst O;obtain⟨t,aE,rfl⟩:=h.dU;exact PySem.P.ord_of_char<|bj (z.toks _) (.refl ..) .int e
 |chr=>obtain⟨a,rfl,e⟩:=iv e;obtain⟨u,rfl,h⟩:=q.i1;refine aZ (xm e) λi T e=>?_;subst T;exact Ho z h e
 |max=>obtain⟨a,b,rfl,e⟩:=w5 e;obtain⟨u,w,rfl,h,C⟩:=q.i2;refine aZ (qD e) λx U e=>?_;subst U;refine aZ (qD e) λy W e=>?_;subst W;exact Qx (hd:=hd) (hh rfl) z h C e
 |sorted=>obtain⟨a,rfl,e⟩:=iv e;obtain⟨u,rfl,h⟩:=q.i1;refine aZ (rz e) λi aa e=>?_;subst aa;exact aZ (pG e) λl k e=>aK e λns E e=>Nt z h k E e
 |int=>obtain⟨a,rfl,e⟩:=iv e;obtain⟨u,rfl,h⟩:=q.i1;exact F4 z h e
 |str=>obtain⟨a,rfl,e⟩:=iv e;obtain⟨u,rfl,h⟩:=q.i1;refine aZ (xm e) λi ab e=>?_;subst ab;exact O7 z h e
 |tuple=>obtain⟨a,rfl,e⟩:=iv e;obtain⟨u,rfl,h⟩:=q.i1;refine aZ (rz e) λi ae e=>?_;subst ae;exact aZ (pG e) λl k e=>NF z h k e
 |range=>rcases D with _|⟨a,D⟩;exact(gw e).elim;refine aZ (qD e) λi af e=>?_;subst af;rcases D with _|⟨b,D⟩;obtain⟨u,rfl,h⟩:=q.i1;exact HO z h (jN e).2;rcases D;obtain⟨u,w,rfl,h,C⟩:=q.i2;refine aZ (qD e) λj N e=>?_;subst N;exact G0 z h C (jN e).2;exact(gw e).elim
 |exception=>exact(gw e).elim
end
def ND(I)(K):g8 I K:=⟨λ{F loc f H s b D us r} hd j hh h q e=>NJ (hd:=none) (λC=>h.hand.none<|hh C) h q e⟩
section
open Builtin Builtin.ObjectAttr Builtin.Getset_descriptor
section
variable{K:al}
def Q0(G:cy K T B)(W:dc I K d O)(af:g8 I K)(ag:bB I K d v)(E:CtxOk d c F)(k:aV K F loc f H s)(ns:df args=true)(e:(bd (v.e c loc x H) λa H=>bd (ce v c loc args H) λD H=>as (Nat.blt D.length 30)<|bP T O c.hd a D H)=some r)(he:eval (.Call x args [] p) F.env=(do callWith p (<-eval x F.env) [] (backTo p<|starEach args F.env) [])):aO I K F loc (eval (.Call x args [] p) F.env) (aM aN r) (a8 r) f H s:=by
 unfold aO;refine Y he<|aX<|Sn.then (.refl ..) (ag.e E k) e λa u ab H' J j st _ q z=>l1 ag E ns st j z λD us aj ah ai y U ae aa h=>cH h λC h=>?_;rw[E.hd]at h;have hl:us.length<=sizeLine:=by refine Y aa.length ?_;have:D.length<30:=bG C;exact av (fl this)<|by decide
 exact aS (K7 G W af E.room y (q.at ae j) hl aa h) λN k2=>⟨N,fN U k2⟩
end
end
theorem CH:∀{P:List Str}{us:List Value},a∉P->(P.zip us).lookup a=none
 |[],_,_=>by simp
 |_::_,[],_=>by simp
 |p::P,u::us,n=>by
  refine Y q3<|Y i9 ?_;have f:(a==p)=false:=sP.mpr λC=>n<|by refine Y C ?_;exact .head _
  exact Y f<|CH λm=>n<|.tail _ m
theorem wU:∀{P:List Str}{us:List Value},a∈P->P.length=us.length->((P.zip us).lookup a).isSome=true
 |p::P,u::us,m,e=>by
  refine Y q3<|Y i9 ?_;rcases h:a==p;rcases bC.mp m with rfl|m;simp at h;exact wU m<|by simpa using e
  rfl
 |[],_,m,_=>nomatch m|_::_,[],_,e=>by simp at e
theorem EF:∀{P:List Str}{W}(S:List<|Str×Value),P.Nodup->P.length=W.length->(∀p∈P,S.lookup p=(P.zip W).lookup p)->(P.filterMap λn=>(S.lookup n).map (n,·))=P.zip W
 |[],[],_,_,_,_=>rfl
 |p::P,w::W,S,nd,e,h=>by
  have j:=h p<|.head _;rw[q3,i9,tz]at j;refine Y List.filterMap_cons<|Y j<|Y q3 ?_;show(p,w)::_=_;congr 1;refine EF S (ee.mp nd).2 (by simpa using e) λq m=>Y (h q<|.tail _ m)<|Y q3<|Y i9 ?_;have f:(q==p)=false:=sP.mpr λC=>(ee.mp nd).1<|by refine Y C.symm ?_;exact m
  exact Y f rfl
 |[],_::_,_,_,e,_=>by simp at e
 |_::_,[],_,_,e,_=>by simp at e
section
variable{z:Str×Value->List (Str×Value)->Sem (ForInStep (List (Str×Value)))}(j:∀n d S,z (n,d) S=if(S.lookup n).isNone then pure (.yield (S++[(n,d)]))else pure (.yield S))
include j
omit j in
theorem Hv(S T:List<|Str×Value)(x):(S++T).lookup x=(S.lookup x).or (T.lookup x):=by
 induction S with
 |nil=>simp|cons p S f=>obtain⟨k,v⟩:=p;refine Y kc<|Y i9<|Y i9 ?_;rcases x==k;exact f;rfl
theorem Pt:∀{l S},(l.map (·.1)).Nodup->(∀p∈l,S.lookup p.1=none)->forIn l S z=pure (S++l):=by
 intro l;induction l with
 |nil=>intro S _ _;exact Y jG<|Y (be ..) rfl
 |cons u l k=>
  rcases u with⟨n,d⟩;intro S nd h;refine Y (hR ..)<|Y (j ..)<|Y (h (n,d)<|.head _)<|Y (bZ<|by rfl) ?_;show forIn l (S++[(n,d)]) z=_;rw[hI]at nd;rw[k (ee.mp nd).2 λp m=>?_];exact Y (br ..) rfl
  .refine Y (Hv ..) (Y (h p<|.tail _ m) ?_);show[(n,d)].lookup p.1=none;refine Y i9 ?_;have f:(p.1==n)=false:=sP.mpr λC=>(ee.mp nd).1<|by refine Y C.symm ?_;exact List.mem_map_of_mem (f:=(·.1)) m
   exact Y f rfl
theorem Km:∀{l k S},(∀p∈l,(S.lookup p.1).isSome=true)->(k.map (·.1)).Nodup->(∀p∈k,S.lookup p.1=none)->forIn (l++k) S z=pure (S++k):=by
 intro l;induction l with
 |nil=>intro k S _ nd h;exact Pt j nd h
 |cons x l u=>
  rcases x with⟨n,d⟩;intro k S h nd h';refine Y kc<|Y (hR ..)<|Y (j ..) ?_;have:=h (n,d)<|.head _;have f:(S.lookup n).isNone=false:=by rcases q:S.lookup n;rw[q]at this;exact ff this;rfl
  refine Y f<|Y (bO<|by decide) ?_;show forIn (l++k) S z=_;exact u (λp m=>h p<|.tail _ m) nd h'
end
inductive EW(P:List Str)(us ds:List Value):Prop|mk (A B aa:List Str) (u0 u1 d0 d1:List Value) (hP:P=(A++B)++aa) (hu:us=u0++u1) (hd:ds=d0++d1) (f:A.length=u0.length) (j:B.length=u1.length) (u:B.length=d0.length) (h4:aa.length=d1.length)
def Q7(h:P.length=a+b+c)(j:us.length=a+b)(hd:ds.length=b+c):EW P us ds:=by
 have f:(P.take<|a+b).length=a+b:=by refine Y lK<|Y h ?_;exact tB<|bE _ _
 refine⟨(P.take<|a+b).take a,(P.take<|a+b).drop a,P.drop<|a+b,us.take a,us.drop a,ds.take b,ds.drop b,?_,?_,?_,?_,?_,?_,?_⟩;exact Y (nx ..)<|Y (nx ..) rfl;exact Y (nx ..) rfl;exact Y (nx ..) rfl;exact Y lK<|Y f<|Y lK<|Y j rfl;exact Y b9<|Y f<|Y b9<|Y j rfl;exact Y b9<|Y f<|Y lK<|Y hd<|Y (ez ..)<|Y (tB<|bE _ _) rfl;exact Y b9<|Y h<|Y b9<|Y hd<|Y (ez ..)<|Y (ez ..) rfl
def KP(hd:ds.length<=P.length)(hg:us.length<=P.length)(k:P.length<=us.length+ds.length):EW P us ds:=by exact aU (Nat.exists_eq_add_of_le hg) λc f=>aU (Nat.exists_eq_add_of_le' hd) λa j=>aU (Nat.exists_eq_add_of_le<|show a<=us.length from Nat.le_of_add_le_add_right<|j▸k) λb h=>Q7 (Y f<|Y h rfl) h<|Nat.add_left_cancel<|Y j.symm<|Y f<|Y h<|Y (cz ..) rfl
def Jo{f:Type}{o:Option f}(h:o.isSome=true):¬o.isNone=true:=by rcases o with _|a;exact ff h;exact λC=>Bool.noConfusion C
def Q3(f:fd.params.posonlyargs=[])(j:fd.params.vararg=none)(u:fd.params.kwonlyargs=[])(h4:fd.params.kwarg=none)(W:fd.params.args.map (·.arg)=(A++B)++aa)(nd:((A++B)++aa).Nodup)(y:(h.getD #[]).toList=N++d1)(l1:A.length=I.length)(l2:B.length=J.length)(l3:B.length=N.length)(l4:aa.length=d1.length):∃k,bindArgs fd ⟨I++J,[]⟩=seqItems? fd.defaults>>=k/\k h=pure (((A++B)++aa).zip<|(I++J)++d1):=by
 have O:(A++B).length=(I++J).length:=Y a0<|Y a0<|Y l1<|Y l2 rfl;have a3:((A++B)++aa).length=(I++J).length+aa.length:=Y a0<|Y O rfl;have ld:(N++d1).length=B.length+aa.length:=Y a0<|Y l3<|Y l4 rfl;have e0:(N++d1).length-((A++B)++aa).length=0:=by exact q6<|Y ld<|Y a0<|Y a0<|Y (cz ..)<|bR _ _
 have e1:((A++B)++aa).length-(N++d1).length=A.length:=Y ld<|Y a0<|Y a0<|Y (cz ..)<|Y (Nat.add_sub_cancel ..) rfl;have hz:((A++B)++aa).zip (I++J)=(A++B).zip (I++J):=by have C:=List.zip_append (r₁:=aa) (r₂:=([]:List Value)) O;rw[be,List.zip_nil_right,be]at C;exact C
 have vb:((A++B)++aa).take A.length=A:=by refine Y (br ..) ?_;exact sd
 have dA:((A++B)++aa).drop A.length=B++aa:=by refine Y (br ..) ?_;exact tk
 have ab:(List.filter (λn=>(List.lookup n<|(A++B).zip<|I++J).isNone) A)=[]:=by rw[List.filter_eq_nil_iff];exact λn m=>Jo<|wU (fF _ m) O
 have ae:aa.Nodup:=nd.sublist<|List.sublist_append_right _ _;have apart:∀n∈aa,n∉A++B:=λn m T=>(iG.mp nd).2.2 n T n m rfl;have D:=Km (z:=λx(U:List (Str×Value))=>if(List.lookup x.fst U).isNone=true then pure (ForInStep.yield<|U++[(x.fst,x.snd)])else pure<|ForInStep.yield U) (λn d S=>rfl)
  (l:=B.zip N) (k:=aa.zip d1) (S:=(A++B).zip<|I++J)
  (λp m=>wU (gA _ (List.of_mem_zip (a:=p.1) (b:=p.2) m).1) O)
  (by refine Y (List.map_fst_zip<|a4 l4) ?_;exact ae)
  (λp m=>CH<|apart _ (List.of_mem_zip (a:=p.1) (b:=p.2) m).1)
 have rest:((A++B)++aa).zip ((I++J)++d1)=(A++B).zip (I++J)++aa.zip d1:=List.zip_append O;have e2:(List.drop (((A++B)++aa).length-(N++d1).length)<|(A++B)++aa).zip (N++d1)=B.zip N++aa.zip d1:=Y e1<|Y dA<|Y (List.zip_append l3) rfl;obtain⟨nm,qn,⟨po,ar,va,ko,kd,kw,df⟩,bd,sc,gl,cl,dz,af,E,pm,an,co,ct,bl⟩:=fd;subst f j u h4;refine a9 _ rfl ?_;dsimp only[List.map_nil,List.nil_append]at W⊢;refine Y W<|Y y ?_;clear W y;refine(bO ?_).trans ?_;intro C;have:=tX (cY.mp C).1;exact absurd (show((A++B)++aa).length<(I++J).length from this)<|ol.mpr<|by refine Y a3 ?_;exact bE _ _
 refine(bO ?_).trans ?_;show¬(!(List.filter (λn=>(List.lookup n<|((A++B)++aa).zip<|I++J).isNone)<|List.take (((A++B)++aa).length-(List.drop ((N++d1).length-((A++B)++aa).length)<|N++d1).length)<|(A++B)++aa).isEmpty)=true;refine Y e0<|Y iO<|Y e1<|Y vb<|Y hz<|Y ab ?_;decide;refine(az (λm=>Bind.bind m _) (?_:forIn _ _ _=pure ((A++B).zip (I++J)++aa.zip d1))).trans ?_;show forIn ((List.drop (((A++B)++aa).length-(List.drop ((N++d1).length-((A++B)++aa).length)<|N++d1).length)<|(A++B)++aa).zip<|List.drop ((N++d1).length-((A++B)++aa).length)<|N++d1) (((A++B)++aa).zip<|I++J) _=_;rw[e0,iO,e2,hz];exact D;show(pure (List.filterMap (λn=>Option.map (λx=>(n,x))<|List.lookup n<|(A++B).zip (I++J)++aa.zip d1)<|((A++B)++aa)++[]):Sem _)=_;exact Y (be ..)<|Y rest.symm<|Y (EF _ nd (by rw[a0,a0 (as:=I++J),O,l4]) λp _=>rfl) rfl
def vD(f:fd.params.posonlyargs=[])(j:fd.params.vararg=none)(u:fd.params.kwonlyargs=[])(E:fd.params.kwarg=none)(I:fd.params.args.map (·.arg)=P)(nd:P.Nodup)(y:(h.getD #[]).toList=ds)(hd:ds.length<=P.length)(hg:us.length<=P.length)(J:P.length<=us.length+ds.length):∃k,bindArgs fd ⟨us,[]⟩=seqItems? fd.defaults>>=k/\k h=pure (P.zip<|us++ds.drop (ds.length-(P.length-us.length))):=by obtain⟨A,B,aa,O,T,D,d1,rfl,rfl,rfl,x,z,l3,C⟩:=KP hd hg J;have N:(A++B).length=(O++T).length:=Y a0<|Y a0<|Y x<|Y z rfl;exact Y (a0 (as:=A++B))<|Y N<|Y (ez ..)<|Y (a0 (as:=D))<|Y C<|Y (Nat.add_sub_cancel ..)<|Y tk<|Q3 f j u E I nd y x z l3 C
section
variable{K:al}{F:bI}{loc:Loc}{s:Shared}
def Gk(e:EV m=some q):m=some (.ok .next q.1 q.2):=by
 rcases m with _|r;exact aW e
 .rcases r with⟨z,loc,H⟩|_
  .induction z with
   |next=>obtain rfl:=aQ e;rfl
   |_=>exact aW e
  exact aW e
def AK(E:CtxOk d c F)(z)(k:∀n v u,z (n,v) u=(do storeName F.env n v;pure (.yield u))):∀{D us loc H s},aV K F loc f H s->aT f s.heap D us->mb c C D loc H=some q->(∀J,aV K F q.1 f q.2 J->a5 K.a3 [F.L] f H s.heap f q.2 J.heap->Q ⟨⟩ J)->wpAny (model I K.w) A (forIn (C.zip us) PUnit.unit z) Q U s:=by
 induction C with
 |nil=>intro D us loc H s R j e h;rcases D;obtain rfl:=aQ e;exact Y List.zip_nil_left<|Y jG<|aL<|h s R<|.refl ..;exact aW e
 |cons x C W=>intro D us loc H s R j e h;rcases D with _|⟨a,D⟩;exact aW e;obtain⟨u,us,rfl,q1,q2⟩:=j.eO;exact aK e λp y e=>Y q3<|Y (hR ..)<|Y (k ..)<|aX<|aX<|my E R q1 (Gk y) λaa T N=>aL<|W T (q2.at N R) e λJ O ae=>h J O<|N.trans ae λ_ m=>.inl m
def zj(e:fill f dz args=some D):args.length<=f/\f<=args.length+dz.length/\D=args++dz.drop (dz.length-(f-args.length)):=by unfold fill at e;revert e;rcases h:(Nat.ble args.length f&&Nat.ble f (args.length+dz.length));intro e;exact aW e;intro e;obtain rfl:=aQ e;rw[fW]at h;exact e6 (bG h.1) (bG h.2) rfl
def aV.nolimit(G:cy K T B)(R:aV K F loc f H s):s.heap.NoLimit:=G.lim.at λo e=>R.base _ o G.IL e
def xN(k:aV K F loc f H s)(j:aV K h ag ab H' J)(st:a5 K.a3 [h.L] f H s.heap ab H' J.heap)(x:s.heap.get? h.L=none)(q:RV ab J.heap a u)(e:some (R.ok a H')=some r):iC K F loc r f H s.heap (.ok<|.ret u) J:=by
 obtain rfl:=aQ e;have hl:∀a∈[h.L],s.heap.get? a=none:=λa m=>by refine Y (b8.mp m) ?_;exact x
 exact⟨ab,H',k.back j st hl,st.fresh hl,a,rfl,q⟩
def L3(u:aV K F loc f H s)(k:aV K h ag ab H' J)(st:a5 K.a3 [h.L] f H s.heap ab H' J.heap)(y:s.heap.get? h.L=none)(x:ab[i]? =some (a,j))(z:ha H' i)(e:some (R.exc i H')=some r):iC K F loc r f H s.heap (.error<|.ref a) J:=by
 obtain rfl:=aQ e;have hl:∀a∈[h.L],s.heap.get? a=none:=λa m=>by refine Y (b8.mp m) ?_;exact y
 exact⟨ab,H',u.back k st hl,st.fresh hl,i,a,j,x,rfl,z,rfl⟩
def iC.weak(x:iC K F loc r f H h res J):h7 K F loc r f H h res J:=by
 refine fi x λab H' R st q=>?_;have ae:a5 K.a3 [F.L] f H h ab H' J.heap:=st.fresh λa m=>by cases m
 rcases res with e|c;exact gD q λi a d e1 j k u=>⟨ab,H',i,a,d,R,ae,e1,j,k,u⟩
 .cases c<;>first|exact q.elim|skip
  exact⟨ab,H',R,ae,q⟩
noncomputable def enter(F:bI)(env:Env)(L:Addr):bI:=⟨F.A.deeper env,F.hd,env,env,F.gi::F.outer,L⟩
noncomputable abbrev lh:Obj:={cls:=.type "frame",data:=.dict #[]}
inductive Nc(env:Env)(L:Addr):Prop|mk (loc:env.locals=L) (kind:env.scope.kind=.function) (glob:env.globals=mainGlobals) (blt:env.builtins=builtinsNs) (fr:env.frame=some L)
def Rt(keys:KeysIn env.scope.names loc)(C:jM f loc env.cells):g2 env f h loc (λ_=>none):=by refine⟨λy u a x=>?_,λy i _ z=>C y i z⟩;refine aZ (keys y a x) λk aP j=>?_;rw[j]at u;clear j;obtain rfl:=aQ u;rcases aP with aP|aP<;>cases aP
def zC{J:Shared}(Rl:aV K F loc f H s)(hL:s.heap.get? L=none)(Lh:K.h₀.get? L=none)(O:∀b ob,s.heap.get? b=some ob->J.heap.get? b=some ob)(W:J.heap.get? L=some lh)(I:aV K F loc z D y)(U:a5 K.a3 [F.L] f H J.heap z D y.heap)(T:∀b o,J.heap.get? b=some o->y.heap.get? b=some o)(ab:jM z E env.cells)(keys:KeysIn env.scope.names E)(ok:Nc env L):aV K (enter F env L) E z D y/\a5 K.a3 [L] f H s.heap z D y.heap:=by
 obtain⟨j,h,k,u,x⟩:=ok;have N:=T _ _ W;have nw:∀{a:Addr},J.heap.get? a=none->s.heap.get? a=none:=λ{a} C=>by rcases q:s.heap.get? a with _|ob;rfl;rw[O _ _ q]at C;exact aW<|C.symm
 refine⟨⟨I.base,I.lam,I.tab,I.mods,I.rep,I.gens,I.os,?_,j,h,k,u,Lh,λm=>?_,⟨_,_,N,.inl rfl,uQ N,Rt keys ab⟩,λaa m=>?_,I.hand⟩,
  ⟨U.ext,λa o _ e=>⟨o,T _ _<|O a o e,.inl rfl⟩,λa m=>(U.new a m).imp id nw,λa na C=>?_⟩⟩
 show(F.A.frames).map (env::·)=_;exact Y Rl.stack rfl;rcases U.new _ m with C|C;exact Rl.rep.alive C hL;exact aW<|C.symm.trans W;rcases bC.mp m with rfl|m;exact⟨h,L,_,_,_,x,Lh,N,rfl,rfl⟩;exact I.out aa m;rcases q:s.heap.get? a with _|ob;exact na q;rw[T _ _<|O _ _ q]at C;exact aW<|C.symm
def Cj(f:gC (d+1) F.A)(hl:∀a q,lam=some (a,q)->env.code=.ref a/\env.qual=q):CtxOk d ⟨env.scope.names,F.hd,lam⟩ (enter F env L):=by
 refine⟨λx=>.inl rfl,rfl,⟨?_,?_⟩,hl⟩;have h:=f.1;show F.A.depth+1+2*d+30<=recursionLimit;exact aR h<|by simp+arith
 have h:=f.2;show F.A.units+3+8*d+200<=cLine;exact aR h<|by simp+arith
def Ew(G:cy K T B)(O:h.env=h.gi)(N:A.frames=h.A.frames)(z:aV K F loc f H s)(y:aV K h ag ab H' J)(st:a5 K.a3 [h.L] f H s.heap ab H' J.heap)(U:s.heap.get? h.L=none)(k:ab[i]? =some (a,j))(u:ha H' i)(e:some (R.exc i H')=some r):wpAny (model I K.w) A (leaving h.env<|.ref a) (λ_ x=>iC K F loc r f H s.heap (.error<|.ref a) x) (λE x=>iC K F loc r f H s.heap (.error E) x) J:=by unfold leaving;exact aX<|sM O N y G.fY k u λae C W _=>m8 C G.fY k u λaf D aa _=>L3 z D ((st.trans W λ_ m=>.inl m).trans aa λ_ m=>.inl m) U k u e
def Fh(X:B.In s.heap)(ok:p5 B z fn fd)(q:aT f s.heap D us)(f1:D.length<=fn.params.length)(j:fn.params.length<=D.length+fn.dz.length):∃O,aT f s.heap (D++fn.dz.drop (fn.dz.length-(fn.params.length-D.length))) O/\∀{Q U A},Q (fn.params.zip O) s->wpAny (model I K.w) A (bindArgs fd ⟨us,[]⟩) Q U s:=by refine oT ok.par λy C E J N=>?_;have T:=q.length;rw[<-T]at f1 j⊢;rcases ok.dz with⟨d1,fu⟩|⟨aa,ds,d1,fu,mR⟩;rw[d1]at j⊢;refine a9 (us++[]) (by refine Y List.drop_nil<|Y (be ..)<|Y (be ..) ?_;exact q) λ{Q U A} bk=>?_;exact aZ (vD (us:=us) (ds:=[]) (h:=none) y C E J N ok.nd rfl (bJ _) f1 j) λk u k2=>Y u<|Y fu<|aX<|aL<|Y k2<|Y List.drop_nil<|aL bk;have x:=(mR f s.heap).length;rw[<-x]at j⊢;refine a9 (us++ds.drop (ds.length-(fn.params.length-us.length))) (q.append<|(mR _ _).drop _) λ{Q U A} bk=>aZ (vD (us:=us) (ds:=ds) (h:=some ds.toArray) y C E J N ok.nd rfl (by refine Y x ?_;exact ok.dl) f1 j) λk u k2=>?_;exact Y u<|Y d1<|aX<|wpAny_seqItems (X _ _ fu) rfl<|Y k2<|aL bk
def KN(G:cy K T B)(W:eV I K d v)(U:A.deeper env=h.A)(hE:env=h.env)(u:aV K F loc f H s)(SC:fm d c h)(E:aV K h ag ab H' J)(st:a5 K.a3 [h.L] f H s.heap ab H' J.heap)(z:s.heap.get? h.L=none)(y:cV v c body ag H'=some q)(e:pJ q=some r):codeAny (model I K.w) A (.func body env) (iC K F loc r f H s.heap) J:=by
 subst hE;refine codeAny_func<|Y U<|bY (jS W SC E q y) (λj ae⟨O,aa,af,D,eq,k,C,x⟩=>?_) λev ae⟨aa,af,D,i,a,dd,eq,k,C,e1,N,ie⟩=>?_
 .clear y;subst eq;have st:=st.trans C λ_ m=>.inl m;induction O with
  |next=>cases j<;>first|exact x.elim|exact xN u k st z .none e
  |ret a=>cases j<;>first|exact x.elim|exact xN u k st z x e
  |_=>exact aW e
 clear y;subst eq N;exact Ew G SC.h9 rfl u k (st.trans C λ_ m=>.inl m) z e1 ie e
def EN{ob:Obj}(e:s.heap.get? b=some ob):({s with heap:=s.heap.push o}:Shared).heap.get? b=some ob:=b0 _ e
def C1(G:cy K T B)(W:eV I K d v)(hr:gC (d+1) F.A)(C:aV K F loc f H s)(k:bi z T.fns=some fn)(q:aT f s.heap D us)(ak:fill fn.params.length fn.dz D=some U)(O:mb ⟨fn.scope.names,F.hd,aB (Nat.beq z T.il) (some (T.gz,T.ge)) none⟩ fn.params U (eB fn.scope.names [] H).1 (eB fn.scope.names [] H).2=some aa)(eb:cV v ⟨fn.scope.names,F.hd,aB (Nat.beq z T.il) (some (T.gz,T.ge)) none⟩ fn.body aa.1 aa.2=some rs)(e3:pJ rs=some r):codeAny (model I K.w) F.A (.call (.ref z) ⟨us,[]⟩) (iC K F loc r f H s.heap) s:=by
 refine kD (G.fnAt C k) λfd o ok h aw hd=>cZ (zj ak) λf1 j as=>?_;subst as;refine rE ok.code λcc oc aj ct c1 c2 c3 c4=>codeAny_call_function (cu (cu (oL _) (by have:=hr.1;exact aR this<|by simp+arith))<|ba recursionLimit) h hd (by refine Y ok.scope ?_;exact ok.sc.co) (by refine Y ok.scope ?_;exact ok.sc.gen) ok.body ⟨cc,oc,aj,ct,c1,(G.toTabC.In C) _ _ c2,c3,c4⟩ ?_;refine aZ (Fh (I:=I) (K:=K) (G.toTabC.In C) ok q f1 j) λaz ap args=>args<|Y ok.scope<|Y ok.glob<|Y ok.pM<|Y ok.blt ?_;simp only[newFunctionEnv,Option.isSome_none,kV,jd];refine aX<|q0 ?_;have J:=ei s.heap;refine aS (C.keeps (h':=s.heap.push lh) s.toks λb ob e=>b0 _ e) λRa _=>?_;refine aX<|qr (F:=F) (loc:=loc) (y:=[]) _ (λname kind ae=>by cases am:kind==NameKind.cell<;>simp[am]) fn.scope.names Ra (λx i ex=>by exact aW ex) rfl λaA ax ae ah aq ao an=>?_;have en:=zC (env:={scope:=fn.scope,locals:=s.heap.objs.size,globals:=mainGlobals,cells:=ae,qual:=fd.qualname++".<locals>.",func:=some z,code:=fd.code,frame:=some s.heap.objs.size,builtins:=builtinsNs}) C J (mU C) (λ_ _ e=>EN e) (dS _ rfl) ah aq an ao
  (yV (all:=fn.scope.names) ok.sc.ns (λx a E=>by exact aW E) rfl) ⟨rfl,ok.sc.kind,rfl,rfl,rfl⟩
 refine aS en λai ag=>?_;have ab:=Cj (F:=F) (env:={scope:=fn.scope,locals:=s.heap.objs.size,globals:=mainGlobals,cells:=ae,qual:=fd.qualname++".<locals>.",func:=some z,code:=fd.code,frame:=some s.heap.objs.size,builtins:=builtinsNs}) (L:=s.heap.objs.size) (lam:=aB (Nat.beq z T.il) (some (T.gz,T.ge)) none) hr (λa qq E=>by revert E;rcases O:Nat.beq z T.il;intro E;exact aW E;intro E;refine zp (aQ E) λau av=>?_;subst au av;have al:=cd O;subst al;exact G.lam fn fd k ok);exact aX (AK ab _ (λn v u=>rfl) ai (ap.at (ag.fresh (N:=[F.L]) λa m=>by refine Y (b8.mp m) ?_;exact J) C) O λay af ar=>aL ⟨aV.nolimit G af,KN G W rfl rfl C ⟨ab,rfl⟩ af (ag.trans ar λ_ m=>.inl m) J eb e3⟩)
def L'(G:cy K T B)(W:eV I K d<|ev T O n)(E:gC (d+1) F.A)(h:aV K F loc f H s)(k:bi z T.fns=some fn)(q:aT f s.heap D us)(e:yo n T O F.hd (aB (Nat.beq z T.il) (some (T.gz,T.ge)) none) fn D H=some r):codeAny (model I K.w) F.A (.call (.ref z) ⟨us,[]⟩) (iC K F loc r f H s.heap) s:=by exact aK e λU C e1=>aK e1 λaa y j=>aK j λrs x u=>C1 G W E h k q C y x u
end
def OQ:∀{l},TriplesOk l->codeAmong pos (l++[a,b,c])=some y->codeAmong pos l=some y\/y=c:=by
 intro l h
 fun_induction TriplesOk l with
 |case1=>
  intro e;induction a with
  |int l t=>
   induction b with
   |int k u=>have e:(if l==pos.line&&k==pos.col then some c else none)=some y:=e;revert e;rcases q:l==pos.line&&k==pos.col;intro e;exact aW e;intro e;exact .inr (aQ e).symm
   |_=>exact aW e
  |_=>exact aW e
 |case2 z t C u x rest D=>intro e;have e:(if z==pos.line&&C==pos.col then some x else codeAmong pos<|rest++[a,b,c])=some y:=e;show(if z==pos.line&&C==pos.col then some x else codeAmong pos rest)=some y\/_;revert e;rcases q:z==pos.line&&C==pos.col;intro e;exact D h e;intro e;exact .inl e
 |case3 l f j=>exact h.elim
section
variable{M:Model}
def CA(u:h.CodeRec (.ref c) q)(ht:h.TableAt c P #[]):iA h c q:=by refine rE u λz o D t e g d x=>?_;obtain rfl:=PySem.Value.ref.inj e;refine aS ht λy _=>kD y λC E j f k _=>?_;rw[g]at j;clear k;obtain rfl:=aQ j;exact⟨o,D,t,g,f,d,x⟩
def QJ(ak:closureFor scope env=pure pM)(am:env.globals=mainGlobals)(hg:s.heap.Ns mainGlobals j)(W:env.code=.ref c)(E:CodeHd s.heap c P)(z:s.heap.get? P=some (tabObj N))(ht:TriplesOk N.toList)(ag:codeAmong pos N.toList=none)(C:mainGlobals≠P)(hb:s.heap.BuiltinsAt j P)(h:∀u ai h' y,Heap.ExtBut P s.heap h'->iA h' u f->h'.get? P=some (tabObj<|N++#[rawInt pos.line,rawInt pos.col,.ref u])->Q (.ref h'.objs.size) {s with heap:=h'.push<|kla_obj name f params body scope pM ((j "__name__").getD .none) u ai,toks:=y}):wpAny M A (makeFunction name f params (.expr body) scope env [] [] [] pos k) Q U s:=by
 refine Y (makeFunction_eq ..) ?_;simp only[List.zip_nil_right,List.filterMap_nil,List.isEmpty_nil,if_true,pure_bind];refine M4 hb λbm ob J ae _ af O T ab aa=>?_;unfold makeTail;refine Y ak<|Y am<|aX<|aL ?_;rcases pM with _|⟨q,r⟩;simp only[List.isEmpty_nil,if_true];exact aX<|aL<|aX<|wpAny_functionCodeX W (E.code z ht) (E.tab z) ag λu h' y aE al an _ D I x=>dF x λP' _ _ x=>aX<|wpAny_builtinsFor (hg.extBut aE C) J ae (aE _ _ af O) T ab aa<|aX<|wpAny_nsGet (hg.extBut aE C)<|aX<|aL<|wB (h u .none h' y aE (CA D x) I.2)<|by size_fits
 simp only[List.isEmpty_cons,kV,jd];refine aX<|wpAny_newTextTuple<|aX<|wpAny_functionCodeX W ((E.keeps λb o e=>b0 _ e).code (b0 _ z) ht) ((E.keeps λb o e=>b0 _ e).tab<|b0 _ z) ag λu h' y aE al an _ D I x=>?_;refine dF x λP' _ _ x=>?_;have ah:Heap.ExtBut P s.heap h':=λb o aj e=>aE b o aj<|b0 _ e;exact aX<|wpAny_builtinsFor ((hg.push _).extBut aE C) J ae (ah _ _ af O) T ab aa<|aX<|wpAny_nsGet ((hg.push _).extBut aE C)<|aX<|aL<|wB (h u _ h' y ah (CA D x) I.2)<|by size_fits
end
section
variable{K:al}{T:cx}{loc:Loc}{s:Shared}
def aV.grow(R:aV K F loc f H s)(t:Tok)(aE:Heap.ExtBut K.a3 s.heap h')(hl:x9 K h'):aV K F loc f H {s with heap:=h',toks:=t}/\a5 K.a3 [F.L] f H s.heap f H h':=by
 have h:=λb ob x e=>aE b ob x e;obtain⟨N,J,_⟩:=R.lam;have fx:cw s.heap h':=λb ob u U=>h b ob (λC=>by rw[C,J]at u;obtain rfl:=aQ u;rcases U with c|c|c|c|c<;>cases c) u;refine⟨⟨λb ob ne u=>h b ob ne<|R.base b ob ne u,hl,R.tab,R.mods,⟨R.rep.len,λj o p e1 y=>?_,R.rep.nd,R.rep.new⟩,R.gens,R.os,R.stack,R.locals,R.kind,R.glob,R.blt,R.new,R.apart,?_,λenv m=>?_,R.hand⟩,
  ⟨⟨[],by simp⟩,λb o x e=>⟨o,h b o (λC=>x<|by refine Y C ?_;exact .head _) e,.inl rfl⟩,λ_ m=>.inl m,λb x=>?_⟩⟩
 have r:=R.rep.obj j o p e1 y;have:=r.keep (τ:=[]) fx (λb m ob u=>h b ob (λC=>R.on<|.tail _<|by refine Y C.symm ?_;exact ep e1 y b m) u) λt D I=>⟨D,h _ _ (λC=>by rw[C,J]at I;cases I) I,rfl⟩;rwa [be]at this
 .obtain⟨o',m,z,q,⟨ab,es,k,aa,W,r⟩,l⟩:=R.loc;have T:F.L≠K.a3:=λC=>R.on<|by refine Y C.symm ?_;exact .head _
  refine⟨o',m,h _ _ T z,q,⟨ab,es,k,h _ _ T aa,W,r⟩,?_⟩;have:=l.keep [] fx;rwa [be]at this
 obtain⟨k,L,o',es,n,e1,y,E,O,e5⟩:=R.out env m;exact⟨k,L,o',es,n,e1,y,h _ _ (λC=>by rw[C,J]at E;obtain rfl:=aQ E;cases O) E,O,e5⟩;by_cases C:b=K.a3;obtain⟨ae,z,_⟩:=hl;refine Y C<|Y z ?_;simp;rcases q:s.heap.get? b with _|o;exact absurd q x;refine Y (h b o C q) ?_;simp
inductive Ot(K:al)(T:cx)(h:Heap):Prop|mk (mg:Str->Option Value) (gne:mainGlobals≠K.a3) (hg:h.Ns mainGlobals mg) (hb:h.BuiltinsAt mg K.a3) (f:CodeHd h T.gz K.a3)
def F7(G:cy K T B)(h:aV K F loc f H s):Ot K T s.heap:=by
 refine aZ G.Me λmg hg W=>aU h.tab λab x=>?_;have u:mainGlobals≠K.a3:=λC=>by refine d5 hg λo es n j N _=>?_;rw[C,x]at j;obtain rfl:=aQ j;cases N
 refine⟨mg,u,?_,?_,?_⟩;exact ke hg λo es n j rest=>⟨o,es,n,h.base _ _ u j,rest⟩;exact zA W λbm o b1 z E k I J=>⟨bm,o,b1,z,E,k,h.base _ _ k I,J⟩;refine gv G.lc λo D O tf U y=>yK y λtg aa text tt c1 rest=>⟨o,D,O,tf,U,tg,aa,text,tt,h.base _ _ (λC=>?_) c1,rest⟩;rw[C,x]at c1;clear y;obtain rfl:=aQ c1;cases rest.1
def IP(e:t5 a q o=true):o=some (a,q):=by rcases o with _|p;exact ff e;exact zb e λf j=>Y (cd f)<|Y (dr.mp j) rfl
def zt{y:Tok}(E:gR f cl j)(z:aV K F loc f H {s with heap:=h',toks:=y})(I:a5 K.a3 [F.L] f H s.heap f H h')(aP:iA h' h K.ar)(e:rt (.bX x scope cl) H=some r):eE K F loc (aM aN r) f H s.heap (.ref h'.objs.size) {s with heap:=h'.push<|kla_obj ⟨#[60,108,97,109,98,100,97,62]⟩ K.ar ⟨[],[],none,[],[],none,[]⟩ x scope j u h k,toks:=y}:=by refine aS (z.keeps (h':=h'.push<|kla_obj ⟨#[60,108,97,109,98,100,97,62]⟩ K.ar ⟨[],[],none,[],[],none,[]⟩ x scope j u h k) y λb ob e=>b0 _ e) λC J=>?_;exact bj (ρ:=aN) C (I.trans J λ_ m=>.inl m) (RV.bX (dS _ rfl) (aP.keep λb ob D _=>b0 _ D) E) e
def L9(G:cy K T B)(E:CtxOk d c F)(j:aV K F loc f H s)(e:(as (iu scope&&im scope.names&&t5 T.gz T.ge c.lam)<|ob (g0 c.sc loc scope.names) λcl=>rt (.bX x scope cl) H)=some r):aO I K F loc (eval (.Lambda ⟨[],[],none,[],[],none,[]⟩ x scope p) F.env) (aM aN r) (a8 r) f H s:=by
 refine cH e λhb e=>aS (E.lam _ _<|IP (cY.mp hb).2) λae am=>aK e λcl ak e=>aZ (AE E j ak) λcs ag ab=>?_;obtain⟨mg,al,ah,W,aa⟩:=F7 G j;obtain⟨N,J,y,af⟩:=j.lam;unfold aO;refine Y (arm_eval_Lambda ..)<|aX<|aL<|aX<|c8<|aL ?_;have bk:F.env.qual++"<lambda>"=K.ar:=by refine Y am ?_;exact G.ar
 rcases h:codeAmong p N.toList with _|u
 .refine QJ ag j.glob ah ae aa J y h al W λD ai h' U aE aP an=>?_;rw[bk]at aP⊢;have hl:x9 K h':=by
   refine⟨_,an,?_,λpos u q=>?_⟩;simpa using TriplesOk_snoc _ _ _ _ y
   .have q:codeAmong pos (N.toList++[rawInt p.line,rawInt p.col,.ref D])=some u:=by simpa using q
    rcases OQ y q with q|rfl;refine aZ (af pos u q) λaj e2 k2=>a9 aj e2 (k2.keep λb ob k cb=>aE b ob (λC=>?_) k);rw[C,J]at k;clear e q;obtain rfl:=aQ k;rcases cb with c|c|c|c|c<;>cases c
    exact a9 D rfl aP
  exact aS (j.grow U aE hl) λz O=>zt ab z O aP e
 refine aZ (af p u h) λD ao aP=>?_;subst ao;exact kla_makeFunctionHit ag j.glob ah ae aa J y h W λai h' U kx ap=>Y bk<|aS (j.keeps U kx) λz O=>zt ab z O (aP.keep λb ob k _=>kx _ _ k) e
end
def Cc(e:im h=true):eB h loc H=(loc,H):=by
 induction h with
 |nil=>rfl|cons p r f=>obtain⟨x,k⟩:=p;unfold im at e;split at e;exact ff e;rename_i aP;have:=f e;cases k<;>first|exact this|(exact absurd aP (by decide))
def Nb(e:m6 sc cl=true):KeysIn sc (db cl):=by
 induction cl with
 |nil=>intro x a h;exact aW h
 |cons p r u=>intro x a h;have e:(match aC p.1 sc with|some k=>Ae k&&m6 sc r|none=>false)=true:=e;revert e;rcases aP:aC p.1 sc with _|k;intro e;exact ff e;intro e;refine zb e λf j=>?_;have h:(match sq p.1 x with|true=>some (V.ref p.2)|false=>aC x<|db r)=some a:=h;rcases q:sq p.1 x;rw[q]at h;exact u j x a h;refine Y (dr.mp q).symm ?_;exact a9 k (.inr<|by cases k<;>first|rfl|exact ff f) aP
section
variable{I:Program}{K:al}{d:Nat}{F:bI}{loc:Loc}{f:a6}{H:aq}{s:Shared}
def Lv(G:cy K T B)(ap:bB I K d<|ev T O n)(hr:gC (d+1) F.A)(j:aV K F loc f H s)(q:RV f s.heap (.bX x sc cl) u)(J:(iu sc&&im sc.names&&m6 sc.names cl)=true)(e:(ev T O n).e ⟨sc.names,F.hd,none⟩ (db cl) x H=some r):codeAny (model I K.w) F.A (.call u ⟨[],[]⟩) (iC K F loc r f H s.heap) s:=by
 refine zb J λJ ag=>zb J λaj ai=>?_;have N:=wA aj;obtain⟨fa,c',qn,k,pm,ct,rfl,e1,E,e3⟩:=q.uP;refine kla_callFunE (cu (cu (oL _) (by have:=hr.1;exact aR this<|by simp+arith))<|ba recursionLimit) e1 rfl N.co N.gen rfl E.rec<|aZ (vD (fd:=BV qn x sc k pm ct c') (P:=[]) (us:=[]) (ds:=[]) (h:=none) rfl rfl rfl rfl rfl kO rfl (ba _) (ba _)<|ba _) λkk k1 k2=>Y k1<|aX<|aL<|Y k2<|aL ?_;simp only[newFunctionEnv,Option.isSome_none,kV,jd];refine aX<|q0 ?_;have z:=ei s.heap;refine aS (j.keeps (h':=s.heap.push lh) s.toks λb ob e=>b0 _ e) λRa _=>?_;refine aX<|qr (F:=F) (loc:=loc) (y:=db cl) _ (λname kind ae=>by cases ah:kind==NameKind.cell<;>simp[ah]) sc.names Ra e3.gT (Cc ai) λar aq ae af am al ak=>?_;obtain⟨W,aa⟩:=zC (env:={scope:=sc,locals:=s.heap.objs.size,globals:=mainGlobals,cells:=ae,qual:=qn++".<locals>.",func:=some fa,code:=.ref c',frame:=some s.heap.objs.size,builtins:=builtinsNs}) j z (mU j) (λ_ _ e=>EN e) (dS _ rfl) af am ak al
  (Nb ag) ⟨rfl,N.kind,rfl,rfl,rfl⟩
 refine Y List.zip_nil_left<|Y jG<|aX<|aL<|aL ⟨aV.nolimit G W,?_⟩;refine kla_codeExpr<|bY (ap.e (Cj hr λ_ _ C=>aW C) W r e) (λw an⟨ao,ab,D,U,a,eq,x⟩=>?_) λev an⟨ao,ab,i,a,dd,D,U,e1,E,ie,eq⟩=>?_;subst eq;exact xN j D (aa.trans U λ_ m=>.inl m) z x rfl;have eq:=eq;subst eq E;exact Ew G rfl rfl j D (aa.trans U λ_ m=>.inl m) z e1 ie rfl
def Good(I:Program)(K:al)(d:Nat)(hd:Option Nat)(a:V)(D:List V)(H:aq)(r:R V):Prop:=∀{F:bI}{loc:Loc}{f:a6}{s:Shared}{u:Value}{us:List Value},gC d F.A->F.hd=hd->aV K F loc f H s->RV f s.heap a u->aT f s.heap D us->
  codeAny (model I K.w) F.A (.call u ⟨us,[]⟩) (iC K F loc r f H s.heap) s
def Good.run(G:cy K T B)(J:bB I K d<|ev T O n)(W:eV I K d<|ev T O n)(e:aF n T O hd a D H=some r):Good I K (d+1) hd a D H r:=by
 intro F loc f s u us k C j y q;subst C;induction a using V.casesOn with
 |fn z=>exact Y y.ki<|aK e λfn h e=>L' G W k j h q e
 |bX x sc cl=>rcases D;exact Y q.i0<|cH e λE e=>Lv G J k j y E e;exact aW e
 |_=>exact aW e
def sO(G:cy K T B)(y:bB I K d<|ev T O n)(W:eV I K d<|ev T O n):dc I K (d+1) (aF n T O):=by refine⟨λ{F loc f H s a u D us r} j h k q e=>?_⟩;exact fJ (Good.run G y W e j rfl h k q) λ_ _ x=>x.weak
end
section
variable{K:al}
set_option tactic.hygienic true in
def J'(e:kC i=some q):∃p,i=.Slice q.1 q.2 none p:=by
 cases i<;>try(exact aW e)
 rename_i lo f st p;rcases st;obtain rfl:=aQ e;exact⟨p,rfl⟩;exact aW e
def M7(e:hU i=some q):i=.Attribute q.1 q.2.1 q.2.2:=by
 cases i<;>try(exact aW e)
 obtain rfl:=aQ e;rfl
def Aw(e:hU x=none):eval (.Call x args [] p) env=(do callWith p (<-eval x env) [] (backTo p<|starEach args env) []):=by cases x<;>first|rfl|exact aW (e.symm)
def TS{f:Type}{m:Option f}{r:f}(e:aB b m none=some r):b=true/\m=some r:=by rcases b;exact aW e;exact⟨rfl,e⟩
def Ia(e:v6 j=some q):∃p,j=[⟨.Name q.1 p,q.2.1,q.2.2,0⟩]:=by refine aK e λg hg e=>aS (TS e) λh e=>aK e λx aE e=>aU (p3 aE) λp f=>?_;clear aE;obtain⟨k,y,u,U⟩:=g;rw[nl,gE]at h;exact Y (BH hg)<|Y (aQ e).symm<|Y (show U=0 from h)<|Y (show k=_ from f) ⟨p,rfl⟩
def IB(e:El a=true):a=⟨[],[],none,[],[],none,[]⟩:=by
 obtain⟨a,b,c,d,z,g,h⟩:=a;induction a using List.casesOn with
 |cons=>exact ff e|nil=>
 induction b using List.casesOn with
 |cons=>exact ff e|nil=>
 induction c with
 |some=>exact ff e|none=>
 induction d using List.casesOn with
 |cons=>exact ff e|nil=>
 induction z using List.casesOn with
 |cons=>exact ff e|nil=>
 induction g with
 |some=>exact ff e|none=>
 rcases h;rfl;exact ff e
def Kq(C:eQ K T)(E:CtxOk d c F)(R:aV K F loc f H s)(e:hr T c loc y H=some r):aO I K F loc (eval (.Name y p) F.env) (aM aN r) (a8 r) f H s:=by obtain⟨h,hd⟩:=A6 C E R e;unfold aO at h⊢;show wpAny _ _ (do standAt p;if y==("__debug__":Str)then _ else _) _ _ _;exact aX<|dL<|Y hd h
def Qe(u:bB I K d v)(E:CtxOk d c F)(R:aV K F loc f H s)(e:ec T O v c loc (.Subscript x i p) H=some r):aO I K F loc (eval (.Subscript x i p) F.env) (aM aN r) (a8 r) f H s:=by
 rcases h:kC i with _|q
 .have j:(match kC i with|some p=>bd (v.e c loc x H) λa H=>bd (mz v c loc p.1 H) λl H=>bd (mz v c loc p.2 H) λh H=>ob (gN a l h) λr=>rt r H|none=>bd (v.e c loc x H) λa H=>bd (v.e c loc i H) λb H=>ob (q8 a b H) λr=>rt r H)=some r:=e
  rw[h]at j;exact NT u E R j
 refine aU (J' h) λy k=>?_;clear h;subst k;exact Hc u E R e
def J6(G:cy K T B)(W:dc I K d O)(M:fX I K)(af:g8 I K)(k:bB I K d v)(E:CtxOk d c F)(R:aV K F loc f H s)(e:ec T O v c loc (.Call z args [] p) H=some r):aO I K F loc (eval (.Call z args [] p) F.env) (aM aN r) (a8 r) f H s:=by
 rcases h:hU z with _|q
 .have j:(match hU z with
   |some q=>as (oe q.1&&df args&&Nat.blt args.length 30&&Nat.beq q.2.2.endLine p.line)<|bd (v.e c loc q.1 H) λa H=>sR T O c.hd a q.2.1 H<|ce v c loc args
   |none=>as (df args)<|bd (v.e c loc z H) λa H=>bd (ce v c loc args H) λD H=>as (Nat.blt D.length 30)<|bP T O c.hd a D H)=some r:=e
  rw[h]at j;exact cH j λns j=>Q0 G W af k E R ns j<|Aw h
 rw[M7 h]at e⊢;exact FY G W M k E R e
def G8(y:bB I K d v)(Z:oR I K d v)(E:CtxOk d c F)(R:aV K F loc f H s)(e:ec T O v c loc (.ListComp k j sc p) H=some r):aO I K F loc (eval (.ListComp k j sc p) F.env) (aM aN r) (a8 r) f H s:=by refine aK e λq h u=>aU (Ia h) λpx x=>?_;clear e h;subst x;exact R0 (T:=T) (O:=O) y Z E R u
def Mp(G:cy K T B)(E:CtxOk d c F)(R:aV K F loc f H s)(e:ec T O v c loc (.Lambda U x sc p) H=some r):aO I K F loc (eval (.Lambda U x sc p) F.env) (aM aN r) (a8 r) f H s:=by refine cH e λh j=>?_;clear e;obtain rfl:=IB h;exact L9 G E R j
def B5(G:cy K T B)(C:eQ K T)(W:dc I K d O)(M:fX I K)(af:g8 I K)(j:bB I K d v)(Z:oR I K d v)(E:CtxOk d c F)(R:aV K F loc f H s)(e:ec T O v c loc x H=some r):aO I K F loc (eval x F.env) (aM aN r) (a8 r) f H s:=by
 induction x using Expr.casesOn with
 |Constant k u p=>exact aK e λa h e=>Jk R h e|Name y p=>exact Kq C E R e|Attribute=>exact Ii G.toTabC j E R e|Subscript=>exact Qe j E R e|Compare=>exact Rg j E R e|BoolOp=>exact I' j E R r e
 |UnaryOp op=>
  induction op with
  |Not=>exact Oe j E R e|USub=>exact Ui j E R e|_=>exact aW e
 |BinOp=>exact Q5 j E R e|IfExp=>exact IV j E R e|Tuple=>exact Rx j E R e|List=>exact FU j E R e|Dict J D=>rcases J;rcases D;exact KW R e;exact aW e;exact aW e
 |Call z args J=>rcases J;exact J6 G W M af j E R e;exact aW e
 |ListComp=>exact G8 j Z E R e|Lambda=>exact Mp G E R e|_=>exact aW e
def wD(G:cy K T B)(C:eQ K T)(u:bB I K d v)(W:eV I K d v)(Z:oa I K d v)(E:fm d c F)(R:aV K F loc f H s)(e:ej T v c x loc H=some r):wpAny (model I K.w) F.A (exec x F.env) (cR K F r f H s.heap) (ci K F r f H s.heap) s:=by
 induction x using Stmt.casesOn with
 |Expr=>exact MA u E.toCtxOk R e|Assign N=>exact dh e λt h e=>Y (BH h)<|JL G.toTabC u E.toCtxOk R e
 |AugAssign t op x p=>
  induction op with
  |Add=>refine dh e λy D e=>aU (p3 D) λp J=>?_;clear D;subst J;exact Sp C u E.toCtxOk R e
  |_=>exact aW e
 |If=>exact GF u W E R e|While t b dK=>rcases dK;exact MT G.fY W E R e;exact aW e
 |For t i b dK=>rcases dK;exact Mc G.toTabC u Z E R e;exact aW e
 |Return=>exact F6 u E.toCtxOk R e|Raise x y=>rcases x with _|x;exact aW e;rcases y;exact Ke G.toTabC u E.toCtxOk R e;exact aW e
 |Try b k dK bp=>rcases k with _|⟨h,k⟩;exact aW e;rcases dK;rcases bp;exact Sb G.toTabC C W E R e;exact aW e;exact aW e
 |Pass=>exact Y (arm_exec_Pass ..)<|aX<|dL<|aL<|fk (z:=.next) (j:=.next) R (.refl ..) trivial e
 |Break=>exact Y (arm_exec_Break ..)<|aX<|dL<|aL<|fk (z:=.brk) (j:=.brk) R (.refl ..) trivial e
 |Continue=>exact Y (arm_exec_Continue ..)<|aX<|dL<|aL<|fk (z:=.cont) (j:=.cont) R (.refl ..) trivial e
 |_=>exact aW e
end
def lQ{K:al}(G:cy K T B)(C:eQ K T)(M:fX I K)(af:g8 I K)(W:dc I K d O):∀n,bB I K d (ev T O n)/\eV I K d (ev T O n)/\oa I K d (ev T O n)/\oR I K d (ev T O n):=by
 intro n;induction n with
 |zero=>exact⟨⟨λ_ _ _ e=>(gw e).elim,λ_ _ _ e=>(gw e).elim⟩,⟨λ_ _ _ e=>(gw e).elim,λ_ _ e=>(gw e).elim⟩,⟨λ_ _ _ _ _ _ _ e=>(gw e).elim⟩,⟨λ_ _ _ _ _ _ _ _ _ _ e=>(gw e).elim⟩⟩
 |succ n u=>
  refine jj (u) λj S Z L=>?_;refine⟨⟨λE R r e=>B5 G C W M af j L E R e,λE R r e=>ys j E R e⟩,⟨λE R r e=>wD G C j S Z E R e,λE R e=>Aj G.fY j S E R e⟩,
   ⟨λE hd R x h f st e=>A5 G.toTabC j S Z E hd R x h f st e⟩,⟨λE hd R z h f st y k ne e=>Mb j L E hd R z h f st y k ne e⟩⟩
def gC.mono(h:d<=f)(x:gC f A):gC d A:=⟨by have:=x.1;exact cS h h this (by simp+arith),av (iB (e3 (eg 8 h) _) 196) x.2⟩
theorem dc.mono{K:al}(h:d<=f)(x:dc I K d O):dc I K f O:=⟨λj R k q e=>x.call (j.mono h) R k q e⟩
set_option tactic.hygienic true in
def dc.or{K:al}(x:dc I K d S)(y:dc I K d O):dc I K d (λhd a args H=>match S hd a args H with|some r=>some r|none=>O hd a args H):=by refine⟨λ{F loc f H s a u D us r} h R j q e=>?_⟩;split at e;rename_i z k;obtain rfl:=aQ e;exact x.call h R j q k;exact y.call h R j q e
mutual
noncomputable def bl (ρ:Nat->Nat):V->V
 |.tup l=>.tup<|bF ρ l
 |.ref i=>.ref<|ρ i
 |.bm z i=>.bm z<|ρ i
 |.bX e sc cl=>.bX e sc<|cl.map λp=>(p.1,ρ p.2)
 |.none=>.none|.bool b=>.bool b|.int i=>.int i|.str x=>.str x|.fn z=>.fn z|.blt b=>.blt b|.an a b=>.an a b
noncomputable def bF (ρ:Nat->Nat):List V->List V|[]=>[]|a::l=>bl ρ a::bF ρ l
end
mutual
noncomputable def hS (aa:Nat->Prop):V->Prop|.tup l=>ij aa l|.ref i=>aa i|.bm _ i=>aa i|.bX _ _ cl=>∀p∈cl,aa p.2|.none=>True|.bool _=>True|.int _=>True|.str _=>True|.fn _=>True|.blt _=>True|.an _ _=>True
noncomputable def ij (aa:Nat->Prop):List V->Prop|[]=>True|a::l=>hS aa a/\ij aa l
end
noncomputable def gx(ρ:Nat->Nat):List (Str×V)->List (Str×V)|[]=>[]|(x,a)::l=>(x,bl ρ a)::gx ρ l
noncomputable def j7(aa:Nat->Prop):List (Str×V)->Prop|[]=>True|(_,a)::l=>hS aa a/\j7 aa l
noncomputable def bn(ρ:Nat->Nat):au->au
 |.list l=>.list<|bF ρ l
 |.inst E k=>.inst E<|gx ρ k
 |.exc E j c=>.exc E (j.map ρ)<|c.map ρ
 |.dict k=>.dict<|gx ρ k
 |.cell v=>.cell<|v.map<|bl ρ
def jf(aa:Nat->Prop):au->Prop|.list l=>ij aa l|.inst _ k=>j7 aa k|.exc _ j c=>(∀i,j=some i->aa i)/\∀i,c=some i->aa i|.dict k=>j7 aa k|.cell v=>∀a,v=some a->hS aa a
section
variable{aa:Nat->Prop}{ρ:Nat->Nat}{f ab:a6}{h:Heap}
def B':aC x (db<|cl.map λp=>(p.1,ρ p.2))=some (.ref i)↔∃j,aC x (db cl)=some (.ref j)/\i=ρ j:=by
 induction cl with
 |nil=>constructor;intro e;exact aW e;rintro⟨_,e,_⟩;exact aW e
 |cons p r f=>obtain⟨y,k⟩:=p;simp only[hI,db,aC];rcases sq y x;exact f;constructor;intro e;clear f;obtain rfl:=V.ref.inj<|aQ e;exact a9 k rfl rfl;rintro⟨j,e,rfl⟩;clear f;obtain rfl:=V.ref.inj<|aQ e;rfl
def Ag(e:aC x (db cl)=some (.ref i)):∃p∈cl,p.2=i:=by
 induction cl with
 |nil=>exact aW e|cons p r f=>obtain⟨y,k⟩:=p;simp only[db,aC]at e;rcases q:sq y x;rw[q]at e;exact aZ (f e) λp m e=>a9 p (.tail _ m) e;rw[q]at e;clear f;obtain rfl:=V.ref.inj<|aQ e;exact a9 _ (.head _) rfl
variable(u:∀i,aa i->ab[ρ i]? =f[i]?)
include u
omit u in
theorem oB.bl(k:∀D,aT ab h (bF ρ l) D↔aT f h l D):oB ab h (bF ρ l) v↔oB f h l v:=⟨λ⟨a,D,j,e,le,q⟩=>⟨a,D,j,e,le,(k D).mp q⟩,λ⟨a,D,j,e,le,q⟩=>⟨a,D,j,e,le,(k D).mpr q⟩⟩
theorem oV.bl(d:aa i):oV ab (ρ i) v↔oV f i v:=⟨λ⟨a,b,h,e⟩=>⟨a,b,h,(u i d).symm.trans e⟩,λ⟨a,b,h,e⟩=>⟨a,b,h,(u i d).trans e⟩⟩
theorem nD.bl(d:aa i):nD ab h z (ρ i) v↔nD f h z i v:=⟨λ⟨a,b,m,j,e,C⟩=>⟨a,b,m,j,(u i d).symm.trans e,C⟩,λ⟨a,b,m,j,e,C⟩=>⟨a,b,m,j,(u i d).trans e,C⟩⟩
theorem gR.bl(d:∀p∈cl,aa p.2):gR ab (cl.map λp=>(p.1,ρ p.2)) k↔gR f cl k:=by refine⟨λc x i h=>?_,λc x i h=>?_⟩;refine bV (c x (ρ i)<|B'.mpr ⟨i,h,rfl⟩) λa y z k2=>aZ (Ag h) λp m D=>?_;subst D;exact dX a y z<|(u _<|d p m).symm.trans k2;refine aZ (B'.mp h) λj C E=>?_;subst E;refine bV (c x j C) λa y z k2=>aZ (Ag C) λp m I=>?_;subst I;exact dX a y z<|(u _<|d p m).trans k2
theorem o7.bl(d:∀p∈cl,aa p.2):o7 ab h e sc (cl.map λp=>(p.1,ρ p.2)) v↔o7 f h e sc cl v:=⟨λ⟨a,c,q,k,z,x,y,e,j,co⟩=>⟨a,c,q,k,z,x,y,e,j,(gR.bl u d).mp co⟩,λ⟨a,c,q,k,z,x,y,e,j,co⟩=>⟨a,c,q,k,z,x,y,e,j,(gR.bl u d).mpr co⟩⟩
omit u in
theorem o9.bl(x:∀v,RV ab h (bl ρ a) v↔RV f h a v)(y:∀D,aT ab h (bF ρ l) D↔aT f h l D):o9 ab h (bl ρ a) (bF ρ l) us↔o9 f h a l us:=⟨λ⟨u,D,k,q,j⟩=>⟨u,D,k,(x u).mp q,(y D).mp j⟩,λ⟨u,D,k,q,j⟩=>⟨u,D,k,(x u).mpr q,(y D).mpr j⟩⟩
omit u in
theorem RV.fw(k:rn ab h v x↔rn f h v y):RV ab h x v↔RV f h y v:=RV.iff.trans<|k.trans RV.iff.symm
omit u in
theorem aT.fw(k:qK ab h v x↔qK f h v y):aT ab h x v↔aT f h y v:=aT.iff.trans<|k.trans aT.iff.symm
mutual
theorem RV.eI:∀{x:V}{v:Value},hS aa x->(RV ab h (bl ρ x) v↔RV f h x v)
 |.tup l,v,d=>RV.fw<|oB.bl λD=>aT.eI d
 |.ref i,v,d=>RV.fw<|oV.bl u d
 |.bm z i,v,d=>RV.fw<|nD.bl u d
 |.bX e sc cl,v,d=>RV.fw<|o7.bl u d
 |.none,v,d=>RV.fw k1|.bool b,v,d=>RV.fw k1|.int i,v,d=>RV.fw k1|.str x,v,d=>RV.fw k1|.fn z,v,d=>RV.fw k1|.blt b,v,d=>RV.fw k1|.an a b,v,d=>RV.fw k1
theorem aT.eI:∀{l:List V}{D:List Value},ij aa l->(aT ab h (bF ρ l) D↔aT f h l D)|[],D,d=>aT.fw k1|a::l,D,d=>aT.fw<|o9.bl (λv=>RV.eI d.1) λD=>aT.eI d.2
end
def xZ(P:Params)(f:a6)(h:Heap)(es:List DictEntry):List (Str×V)->Prop|[]=>es=[]|p::l=>∃t v r,es=⟨PyData.keyHash P p.1,.str p.1 t,v⟩::r/\RV f h p.2 v/\bM P f h l r
omit u in
theorem bM.iff:bM P f h l es↔xZ P f h es l:=by
 refine⟨λq=>?_,λq=>?_⟩
 .cases q with|nil=>exact rfl|cons r rs=>exact⟨_,_,_,rfl,r,rs⟩
 rcases l with _|⟨p,l⟩;rw[show es=[] from q];exact .nil;refine ke q λt v r u x=>?_;clear q;subst u;exact aS x λj k=>.cons j k
omit u in
theorem bM.fw(k:xZ P ab h v x↔xZ P f h v y):bM P ab h x v↔bM P f h y v:=bM.iff.trans<|k.trans bM.iff.symm
theorem bM.eI:∀{es},j7 aa l->(bM P ab h (gx ρ l) es↔bM P f h l es):=by
 induction l with
 |nil=>exact λ_=>bM.fw k1|cons p l j=>exact λd=>bM.fw<|n2 λt=>n2 λv=>n2 λr=>and_congr_right λ_=>and_congr (RV.eI u d.1)<|j d.2
theorem RO.eI(d:jf aa o):RO P ab h (bn ρ o) p↔RO P f h o p:=by
 rcases o with l|⟨E,k⟩|⟨E,j,c⟩|k|v;exact⟨λ⟨D,n,e,l,q⟩=>⟨D,n,e,l,(aT.eI u d).mp q⟩,λ⟨D,n,e,l,q⟩=>⟨D,n,e,l,(aT.eI u d).mpr q⟩⟩;exact⟨λ⟨D,n,e,I,q⟩=>⟨D,n,e,I,(bM.eI u d).mp q⟩,λ⟨D,n,e,I,q⟩=>⟨D,n,e,I,(bM.eI u d).mpr q⟩⟩
 .have z:∀x,i4 ab (j.map ρ) x↔i4 f j x:=λx=>by rcases j with _|j;exact .rfl;exact n2 λa=>n2 λe=>by rw[u j<|d.1 j rfl]
  have O:∀x,js ab (c.map ρ) x↔js f c x:=λx=>by rcases c with _|j;exact .rfl;exact n2 λa=>n2 λe=>by rw[u j<|d.2 j rfl]
  exact⟨λ⟨x,y,tb,C,e,h,t,c⟩=>⟨x,y,tb,C,e,(z _).mp h,t,(O _).mp c⟩,λ⟨x,y,tb,C,e,h,t,c⟩=>⟨x,y,tb,C,e,(z _).mpr h,t,(O _).mpr c⟩⟩
 exact⟨λ⟨D,n,e,q⟩=>⟨D,n,e,(bM.eI u d).mp q⟩,λ⟨D,n,e,q⟩=>⟨D,n,e,(bM.eI u d).mpr q⟩⟩;rcases v with _|a;exact .rfl;exact⟨λ⟨v,e,q⟩=>⟨v,e,(RV.eI u<|d a rfl).mp q⟩,λ⟨v,e,q⟩=>⟨v,e,(RV.eI u<|d a rfl).mpr q⟩⟩
omit u
theorem jo:foot (bn ρ o) p=foot o p:=by cases o<;>rfl
end
theorem w0:∀{H f},(∀(i:Nat) o p,H[i]? =some o->f[i]? =some p->(foot o p).Nodup)->(∀(i j:Nat) o o' p h,i≠j->H[i]? =some o->f[i]? =some p->H[j]? =some o'->f[j]? =some h->∀a∈foot o p,a∉foot o' h)->(bz H f).Nodup|[],_,_,_=>(.nil:([]:List Addr).Nodup)|_::_,[],_,_=>(.nil:([]:List Addr).Nodup)|o::H,p::f,a,b=>by refine iG.mpr ⟨a 0 o p rfl rfl,w0 (λi o p e1 k=>a (i+1) o p e1 k) λi j o o' p h ne e1 k u z=>b (i+1) (j+1) o o' p h (λC=>ne<|hE C) e1 k u z,λx m y T e=>?_⟩;subst e;exact d5 (oq T) λj o' h e1 k T=>b 0 (j+1) o o' p h (Nat.succ_ne_zero j).symm rfl rfl e1 k x m T
def vf{i:Nat}(nd:(bz H f).Nodup)(e1:H[i]? =some o)(h:f[i]? =some p):(foot o p).Nodup:=by
 induction H generalizing f i with
 |nil=>simp at e1
 |cons o' H j=>
  induction f using List.casesOn with
  |nil=>simp at h
  |cons k f=>
   induction i using Nat.casesOn with
   |zero=>simp at e1 h;clear j;subst e1 h;exact(iG.mp nd).1
   |succ i=>exact j (iG.mp nd).2.1 (by simpa using e1)<|by simpa using h
def Kept(n:Nat)(y:List Nat)(i:Nat):Prop:=i<n\/i∈y
structure zJ(ρ:Nat->Nat)(y:List Nat)(x Hs' H H':aq):Prop where
 inj:∀i j,i<x.length->j<x.length->ρ i=ρ j->i=j
 obj:∀i o,x[i]? =some o->H[ρ i]? =some (bn ρ o)/\jf (·<x.length) o
 nw:∀m i,y[m]? =some i->ρ i=H.length+m
 zB:∀i∈y,x.length<=i/\i<Hs'.length
 le:x.length<=Hs'.length
 knd:y.Nodup
 len:H'.length=H.length+y.length
 yI:∀i o,Kept x.length y i->Hs'[i]? =some o->H'[ρ i]? =some (bn ρ o)/\jf (Kept x.length y) o
 rest:∀j,j<H.length->(∀i,i<x.length->ρ i≠j)->H'[j]? =H[j]?
noncomputable def Je(ρ:Nat->Nat)(H':aq):R V->R V|.ok a _=>.ok (bl ρ a) H'|.exc i _=>.exc (ρ i) H'
def IQ(aa:Nat->Prop)(f:aq):R V->Prop|.ok a H=>hS aa a/\H=f|.exc i H=>aa i/\H=f
section
variable{K:al}{loc:Loc}
def aV.MN(R:aV K F loc f H s):aV K F [] f H s:=⟨R.base,R.lam,R.tab,R.mods,R.rep,R.gens,R.os,R.stack,R.locals,R.kind,R.glob,R.blt,R.new,R.apart,by obtain⟨o,m,e,q,n,l⟩:=R.loc;exact⟨o,m,e,q,n,⟨λx _ a h=>(aW h),λx i _ h=>(aW h)⟩⟩,R.out,R.hand⟩
def aV.other(R:aV K F [] f H s)(hh:F.hd=none)(rep:kb K.w.params K.h₀ ab H' s.heap)(k:F.L∉bz H' ab):aV K F [] ab H' s:=
 ⟨R.base,R.lam,R.tab,R.mods,rep,R.gens,R.os,R.stack,R.locals,R.kind,R.glob,R.blt,R.new,k,by
  obtain⟨o,m,e,q,n,l⟩:=R.loc;exact⟨o,m,e,q,n,⟨λx _ a j=>(aW j),λx i _ j=>(aW j)⟩⟩,R.out,by
  have h:=R.hand;rw[hh]at h⊢;exact h⟩
def Of(st:a5 p L f H h ab H' h')(n:∀t o,h.get? t=some o->o.cls=.type "traceback"->t∉p::(L++bz H f)):TbKeep h h':=λt D e=>by
 refine aZ (st.keep t _ (n t _ e rfl) e) λo' y x=>?_;rcases x with rfl|⟨j,_⟩|⟨us,z,e1,rfl,u⟩;exact a9 D y rfl;exact absurd (fh j)<|by decide
 injection e1 with _ _ k _;injection k with k;subst k;exact a9 z y u
def Good.lift(g:Good I K d none a D x r)(L:zJ ρ y x ae H H')(oa:hS (·<x.length) a)(ov:ij (·<x.length) D)(or:IQ (Kept x.length y) ae r):Good I K d none (bl ρ a) (bF ρ D) H (Je ρ H' r):=by
 intro F loc f s u us hr hF R qa q;have al:=R.rep.len;obtain⟨aa,hl,aj⟩:∃aa:a6,aa.length=x.length/\∀i,i<x.length->f[ρ i]? =aa[i]? :=by refine a9 ((List.range x.length).map λi=>(f[ρ i]?).getD (0,0)) (by simp) λi U=>?_;obtain⟨o,eo⟩:∃o,x[i]? =some o:=⟨_,dx U⟩;have z:=(b4.mp (L.obj i o eo).1).1;rw[<-al]at z;simp[U,dx z]
 have aA:kb K.w.params K.h₀ aa x s.heap:=by
  have ab:∀i o p,x[i]? =some o->aa[i]? =some p->H[ρ i]? =some (bn ρ o)/\f[ρ i]? =some p:=λi o p e1 W=>⟨(L.obj i o e1).1,by rw[aj i (b4.mp e1).1];exact W⟩;refine⟨hl,λi o p e1 W=>(RO.eI (λi U=>aj i U) (L.obj i o e1).2).mp<|R.rep.obj (ρ i) _ p (ab i o p e1 W).1 (ab i o p e1 W).2,w0 (λi o p e1 W=>?_) λi j o o' p p' ne e1 W e3 e4 a m T=>?_,λa m=>?_⟩;have:=vf R.rep.nd (ab i o p e1 W).1 (ab i o p e1 W).2;rwa [jo]at this;have U:=(b4.mp e1).1;have hj:=(b4.mp e3).1;exact jR R.rep.nd (λC=>ne<|L.inj i j U hj C) (ab i o p e1 W).1 (ab i o p e1 W).2 (ab j o' p' e3 e4).1 (ab j o' p' e3 e4).2 a (by rw[jo];exact m)<|by rw[jo];exact T
  exact d5 (oq m) λi o p e1 W m=>R.rep.new a<|ep (ab i o p e1 W).1 (ab i o p e1 W).2 a<|by rw[jo];exact m
 have sub:∀a∈bz x aa,∃k o p,k<x.length/\H[ρ k]? =some o/\f[ρ k]? =some p/\a∈foot o p:=λa m=>by refine d5 (oq m) λi o p e1 W m=>?_;have U:=(b4.mp e1).1;exact rb i _ p U ((L.obj i o e1).1) (by rw[aj i U];exact W)<|by rw[jo];exact m
 have aq:∀a∈bz x aa,a∈bz H f:=λa m=>by exact gD (sub a m) λk o p _ e1 W m=>ep e1 W a m
 have R0:=R.MN.other hF aA λm=>R.apart<|aq _ m;refine fJ (g hr hF R0 ((RV.eI (λi U=>aj i U) oa).mp qa)<|(aT.eI (λi U=>aj i U) ov).mp q) λres J⟨aO,ag,R1,af,ah⟩=>?_;have hH:ag=ae:=by
  rcases res with e|c;refine gD ah λi a' d' _ _ _ aI=>?_;subst aI;exact or.2
  .cases c<;>first|exact ah.elim|skip
   obtain⟨a',rfl,_⟩:=ah;exact or.2
 subst hH;refine aU af.ext λam aJ=>?_;subst aJ;have ax:=R1.rep.len;obtain⟨τ,ay,ap⟩:∃τ:a6,τ.length=y.length/\∀i,Kept x.length y i->(f++τ)[ρ i]? =(aa++am)[i]? :=by refine a9 (y.map λi=>((aa++am)[i]?).getD (0,0)) (by simp) λi U=>?_;by_cases hn:i<x.length;obtain⟨o,eo⟩:∃o,x[i]? =some o:=⟨_,dx hn⟩;have z:=(b4.mp (L.obj i o eo).1).1;rw[dO (by rw[al];exact z),dO (by rw[hl];exact hn),aj i hn];have U:i∈y:=U.resolve_left hn;refine aU (List.mem_iff_getElem?.mp U) λm em=>?_;have z:=(L.zB i U).2;rw[<-ax]at z;rw[L.nw m i em,<-al,dp<|bE ..,ez];simp[em,dx z]
 have fx:cw s.heap J.heap:=(af.fresh λa m=>by cases m).fx R0;have kt:TbKeep s.heap J.heap:=Of af λt o e c m=>by rcases bC.mp m with m|m;obtain⟨N,e',_⟩:=R.lam;rw[m,e']at e;obtain rfl:=aQ e;cases c;refine aZ (R0.rep.cls m) λo' e' l=>?_;rw[e]at e';obtain rfl:=aQ e';exact l.nf.2 c
 have ai:∀i,i<H'.length->(∃j,Kept x.length y j/\ρ j=i)\/(i<H.length/\∀j,j<x.length->ρ j≠i):=λi U=>by
  by_cases z:i<H.length;by_cases O:∃j,j<x.length/\ρ j=i;exact aZ O λj hj e=>.inl ⟨j,.inl hj,e⟩;exact .inr ⟨z,λj hj e=>O ⟨j,hj,e⟩⟩
  .have O:i-H.length<y.length:=by have:=L.len;exact cS U (a4 this) (a4<|bx<|show List.length H<=i from aR (mm z)<|by simp+arith) (by simp+arith)
   obtain⟨j,ej⟩:∃j,y[i-H.length]? =some j:=⟨_,dx O⟩;exact .inl ⟨j,.inr<|sE ej,by rw[L.nw _ _ ej];exact cf (aR (a4<|bx<|show List.length H<=i from aR (mm z)<|by simp+arith)<|by simp+arith)<|aR (cn i<|List.length H)<|by simp+arith⟩
 have ak:∀j o p,Kept x.length y j->H'[ρ j]? =some o->(f++τ)[ρ j]? =some p->∃o',ag[j]? =some o'/\(aa++am)[j]? =some p/\o=bn ρ o'/\jf (Kept x.length y) o':=λj o p hj e1 W=>by have hl:j<ag.length:=hj.elim (λh=>cu h L.le) λh=>(L.zB j h).2;obtain⟨o',eo⟩:∃o',ag[j]? =some o':=⟨_,dx hl⟩;refine aS (L.yI j o' hj eo) λz O=>?_;rw[z]at e1;obtain rfl:=aQ e1;exact G4 o' eo (by rw[<-ap j hj];exact W) rfl O
 have left:∀i o p,i<H.length->(∀j,j<x.length->ρ j≠i)->H'[i]? =some o->(f++τ)[i]? =some p->H[i]? =some o/\f[i]? =some p:=λi o p z O e1 W=>by rw[L.rest i z O]at e1;rw[dO<|by rw[al];exact z]at W;exact⟨e1,W⟩
 have ar:∀i o p,i<H.length->(∀j,j<x.length->ρ j≠i)->H[i]? =some o->f[i]? =some p->∀a∈foot o p,a∉bz ag (aa++am):=λi o p z O e1 W a m T=>by rcases af.new a T with T|C;exact gD (sub a T) λk o' p' aP e3 e4 T=>jR R.rep.nd (O k aP) e3 e4 e1 W a T m;exact R.rep.alive (ep e1 W a m) C
 have lt:∀i o,H'[i]? =some o->i<H'.length:=λi o e=>(b4.mp e).1;have new:∀a∈bz H' (f++τ),a∈bz H f\/(a∈bz ag (aa++am)/\s.heap.get? a=none):=λa m=>by refine d5 (oq m) λi o p e1 W m=>?_;rcases ai i (lt i o e1)with⟨j,hj,rfl⟩|⟨z,O⟩;refine ix (ak j o p hj e1 W) λo' e3 e4 aK _=>?_;subst aK;rw[jo]at m;have T:=ep e3 e4 a m;rcases af.new a T with C|C;exact .inl<|aq a C;exact .inr ⟨T,C⟩;exact aS (left i o p z O e1 W) λe3 e4=>.inl<|ep e3 e4 a m
 have aB:kb K.w.params K.h₀ (f++τ) H' J.heap:=by
  refine⟨by rw[a0,al,ay,L.len],λi o p e1 W=>?_,w0 (λi o p e1 W=>?_) λi j o o' p p' ne e1 W e3 e4 a m T=>?_,λa m=>?_⟩
  .rcases ai i (lt i o e1)with⟨j,hj,rfl⟩|⟨z,O⟩;refine ix (ak j o p hj e1 W) λo' e3 e4 aL ok=>?_;subst aL;exact(RO.eI ap ok).mpr<|R1.rep.obj j o' p e3 e4
   .refine aS (left i o p z O e1 W) λe3 e4=>(R.rep.obj i o p e3 e4).keep fx (λa m ob eb=>?_) kt;refine aZ ((R.rep.obj i o p e3 e4).cls a m) λaM as l=>?_;rw[eb]at as;obtain rfl:=aQ as;refine af.keep.plain (λT=>?_) eb l.nf.1 l.nf.2;rcases bC.mp T with T|T;exact R.on<|.tail _<|by rw[<-T];exact ep e3 e4 a m
    exact gD (sub a T) λk o' p' aP e5 e6 T=>jR R.rep.nd (O k aP) e5 e6 e3 e4 a T m
  rcases ai i (lt i o e1)with⟨j,hj,rfl⟩|⟨z,O⟩;refine ix (ak j o p hj e1 W) λo' e3 e4 aC _=>?_;subst aC;rw[jo];exact vf R1.rep.nd e3 e4;exact aS (left i o p z O e1 W) λe3 e4=>vf R.rep.nd e3 e4;rcases ai i (lt i o e1)with⟨k,aP,rfl⟩|⟨z,O⟩;refine ix (ak k o p aP e1 W) λaN e5 e6 aD _=>?_;subst aD;rw[jo]at m;rcases ai j (lt j o' e3)with⟨l,hl,rfl⟩|⟨an,ao⟩;refine ix (ak l o' p' hl e3 e4) λaz e7 e8 aE _=>?_;subst aE;rw[jo]at T;exact jR R1.rep.nd (λC=>ne<|by rw[C]) e5 e6 e7 e8 a m T;exact aS (left j o' p' an ao e3 e4) λe7 e8=>ar j o' p' an ao e7 e8 a T<|ep e5 e6 a m;refine aS (left i o p z O e1 W) λe5 e6=>?_;rcases ai j (lt j o' e3)with⟨l,hl,rfl⟩|⟨an,ao⟩;refine ix (ak l o' p' hl e3 e4) λaz e7 e8 aF _=>?_;subst aF;rw[jo]at T;exact ar i o p z O e5 e6 a m<|ep e7 e8 a T;exact aS (left j o' p' an ao e3 e4) λe7 e8=>jR R.rep.nd ne e5 e6 e7 e8 a m T;rcases new a m with m|⟨m,_⟩;exact R.rep.new a m;exact R1.rep.new a m
 have au:∀a∈bz H' (f++τ),a∈bz H f\/s.heap.get? a=none:=λa m=>(new a m).imp id And.right;have aw:F.L∉bz H' (f++τ):=λm=>by rcases au _ m with m|m;exact R.apart m;exact R.alive m
 have av:a5 K.a3 [] f H s.heap (f++τ) H' J.heap:=⟨⟨τ,rfl⟩,af.keep.mono λa m=>by rcases bC.mp m with rfl|m;exact .head _;exact .tail _<|aq a m,au,af.live⟩;refine⟨f++τ,H',R.back (R1.other hF aB aw) av (λa m=>by cases m),av,?_⟩;rcases res with e|c;refine gD ah λi a' d' e1 W aG aH=>?_;obtain⟨E,j,c,e3⟩:=aG;subst aH;exact aS (L.yI i _ or.1 e3) λz _=>rb (ρ i) a' d' (by rw[ap i or.1];exact e1) W ⟨E,_,_,z⟩ rfl
 .cases c<;>first|exact ah.elim|skip
  obtain⟨a',rfl,q'⟩:=ah;exact⟨bl ρ a',rfl,(RV.eI ap or.1).mpr q'⟩
end
section
mutual
noncomputable def c0:V->List Nat|.tup l=>cm l|.ref i=>[i]|.bm _ i=>[i]|.bX _ _ cl=>cl.map (·.2)|.none=>[]|.bool _=>[]|.int _=>[]|.str _=>[]|.fn _=>[]|.blt _=>[]|.an _ _=>[]
noncomputable def cm:List V->List Nat|[]=>[]|a::l=>c0 a++cm l
end
noncomputable def r':List (Str×V)->List Nat|[]=>[]|p::l=>c0 p.2++r' l
noncomputable def yq(o:Option Nat):List Nat:=match o with|none=>[]|some i=>[i]
noncomputable def bH:au->List Nat|.list l=>cm l|.inst _ f=>r' f|.exc _ j c=>yq j++yq c|.dict f=>r' f|.cell v=>match v with|none=>[]|some a=>c0 a
noncomputable def bv(i:Nat):List Nat->Bool|[]=>false|k::l=>match Nat.beq k i with|true=>true|false=>bv i l
noncomputable def gy:List Nat->Bool|[]=>true|k::l=>match bv k l with|true=>false|false=>gy l
noncomputable def cQ(z:Nat->Bool):List Nat->Bool|[]=>true|k::l=>match z k with|true=>cQ z l|false=>false
noncomputable def bc(i:Nat):List Nat->Nat|[]=>0|k::l=>match Nat.beq k i with|true=>0|false=>bc i l+1
noncomputable def reach(n:Nat)(H:aq)(f done:List Nat):Option (List Nat):=match n with
 |0=>none
 |n+1=>match f with
  |[]=>some done
  |i::t=>match bv i done with|true=>reach n H t done|false=>ob H[i]? λo=>reach n H (bH o++t)<|done++[i]
noncomputable def b'(ρ:Nat->Nat)(H:aq):List Nat->aq|[]=>[]|k::l=>(match H[k]? with|some o=>bn ρ o|none=>.cell none)::b' ρ H l
noncomputable def cp(ρ:Nat->Nat)(H:aq)(l:List Nat)(x:aq):aq:=match l with
 |[]=>H
 |k::l=>match x with|[]=>H|o::x=>cp ρ (H.set k<|bn ρ o) l x
termination_by structural l
noncomputable def dE(z:Nat->Bool)(H:aq):List Nat->Bool
 |[]=>true
 |k::l=>match H[k]? with|some o=>(match cQ z (bH o)with|true=>dE z H l|false=>false)|none=>false
noncomputable def eo(n:Nat)(y:List Nat)(i:Nat):Bool:=match Nat.blt i n with|true=>true|false=>bv i y
noncomputable def bt(H:aq)(J y:List Nat)(i:Nat):Nat:=match J[i]? with|some k=>k|none=>H.length+bc i y
noncomputable def cC:aq->Nat->List Nat|[],_=>[]|o::H,n=>match n with|0=>[]|n+1=>bH o++cC H n
noncomputable def upTo:Nat->List Nat->List Nat|0,l=>l|n+1,l=>upTo n<|n::l
def back(H:aq)(J:List Nat)(b:V)(x:aq)(k:(Nat->Nat)->aq->M V):M V:=
 ob (reach 4000 x (c0 b++cC x J.length)<|upTo J.length []) λkl=>
  match(Nat.ble J.length x.length&&(gy (kl.drop J.length)&&(cQ (λi=>Nat.ble J.length i) (kl.drop J.length)&&(cQ (eo J.length<|kl.drop J.length) (c0 b)&&(dE (eo J.length<|kl.drop J.length) x (upTo J.length [])&&dE (eo J.length<|kl.drop J.length) x (kl.drop J.length))))))with
  |true=>k (bt H J<|kl.drop J.length)<|cp (bt H J<|kl.drop J.length) H J x++b' (bt H J<|kl.drop J.length) x (kl.drop J.length)
  |false=>none
def m0(H:aq)(J:List Nat)(q:R V):M V:=match q with
 |.ok b x=>back H J b x λρ H'=>some<|.ok (bl ρ b) H'
 |.exc i x=>back H J (.ref i) x λρ H'=>some<|.exc (ρ i) H'
def bD(X:List V->aq->M V)(D:List V)(H:aq):M V:=
 ob (reach 4000 H (cm D) []) λJ=>match(gy J&&(cQ (λi=>bv i J) (cm D)&&dE (λi=>bv i J) H J))with
  |true=>ob (X (bF (λi=>bc i J) D)<|b' (λi=>bc i J) H J)<|m0 H J
  |false=>none
theorem eM:∀{l},bv i l=true↔i∈l|[]=>⟨λh=>(nomatch h),λh=>(nomatch h)⟩|k::l=>by show(match Nat.beq k i with|true=>true|false=>bv i l)=true↔_;rcases h:Nat.beq k i;exact eM.trans ⟨λm=>.tail _ m,λm=>(bC.mp m).resolve_left λe=>by rw[e,em]at h;exact ff<|h.symm⟩;exact⟨λ_=>by refine Y (cd h) ?_;exact .head _,λ_=>rfl⟩
def BC:∀{l},gy l=true->l.Nodup:=by
 intro l;induction l with
 |nil=>intro _;exact .nil
 |cons k l f=>intro h;have h:(match bv k l with|true=>false|false=>gy l)=true:=h;revert h;rcases e:bv k l;intro h;exact ee.mpr ⟨λm=>(by rw[eM.mpr m]at e;exact ff<|e.symm),f h⟩;exact ff
def ta:∀{l},cQ z l=true->∀i∈l,z i=true:=by
 intro l;induction l with
 |nil=>intro _ _ m;exact nomatch m
 |cons k l f=>intro h i m;have h:(match z k with|true=>cQ z l|false=>false)=true:=h;revert h;rcases e:z k;intro h;exact ff h;intro h;rcases bC.mp m with rfl|m;exact e;exact f h i m
def uf:∀{l},dE z H l=true->∀k∈l,∃o,H[k]? =some o/\∀i∈bH o,z i=true:=by
 intro l;induction l with
 |nil=>intro _ _ m;exact nomatch m
 |cons k l j=>intro h i m;have h:(match H[k]? with|some o=>(match cQ z (bH o)with|true=>dE z H l|false=>false)|none=>false)=true:=h;revert h;rcases e:H[k]? with _|o;intro h;exact ff h;intro h;have h:(match cQ z (bH o)with|true=>dE z H l|false=>false)=true:=h;revert h;rcases f:cQ z (bH o);intro h;exact ff h;intro h;rcases bC.mp m with rfl|m;exact a9 o e<|ta f;exact j h i m
def pH:∀{l},i∈l->l[bc i l]? =some i:=by
 intro l;induction l with
 |nil=>intro m;exact nomatch m
 |cons k l f=>
  intro m;have e:bc i (k::l)=match Nat.beq k i with|true=>0|false=>bc i l+1:=rfl;rcases h:Nat.beq k i;exact Y e<|Y h<|f<|(bC.mp m).resolve_left λe=>by rw[e,em]at h;exact ff<|h.symm
  exact Y e<|Y h<|Y (cd h) rfl
theorem lu:∀{l},l.Nodup->l[k]? =some i->bc i l=k
 |[],_,e=>nomatch e
 |a::l,nd,e=>by
  have nd:=ee.mp nd;have f:bc i (a::l)=match Nat.beq a i with|true=>0|false=>bc i l+1:=rfl;induction k using Nat.casesOn with
  |zero=>obtain rfl:a=i:=aQ e;exact Y f<|Y (em ..) rfl
  |succ k=>
   have m:i∈l:=sE e;induction h:Nat.beq a i with
   |true=>exact absurd (cd h▸m) nd.1|false=>exact Y f<|Y h<|az (·+1)<|lu nd.2 e
section
variable{aa u:Nat->Prop}{z g:Nat->Nat}
mutual
theorem pd:∀{a:V},(∀i∈c0 a,aa i)->hS aa a
 |.tup _,h=>mi h|.ref _,h=>h _<|.head _
 |.bm _ _,h=>h _<|.head _
 |.bX _ _ _,h=>λ_ m=>h _<|List.mem_map_of_mem m
 |.none,_=>trivial|.bool _,_=>trivial|.int _,_=>trivial|.str _,_=>trivial|.fn _,_=>trivial|.blt _,_=>trivial|.an _ _,_=>trivial
theorem mi:∀{l:List V},(∀i∈cm l,aa i)->ij aa l|[],_=>trivial|_::_,h=>⟨pd λi m=>h i<|fF _ m,mi λi m=>h i<|gA _ m⟩
end
def zH:∀{l},(∀i∈r' l,aa i)->j7 aa l:=by
 intro l;induction l with
 |nil=>intro _;exact trivial
 |cons j k f=>rcases j with⟨_,_⟩;intro h;exact⟨pd λi m=>h i<|fF _ m,f λi m=>h i<|gA _ m⟩
def jz(h:∀i∈bH o,aa i):jf aa o:=by rcases o with l|⟨E,f⟩|⟨E,j,c⟩|f|v;exact mi h;exact zH h;exact⟨λi e=>h i<|fF _<|by refine Y e ?_;exact .head _,λi e=>h i<|gA _<|by refine Y e ?_;exact .head _⟩;exact zH h;exact λa e=>pd λi m=>h i<|by refine Y e ?_;exact m
variable(d:∀i,aa i->u (z i))
include d
mutual
theorem yb:∀{a:V},hS aa a->hS u (bl z a)
 |.tup _,h=>s7 h|.ref _,h=>d _ h|.bm _ _,h=>d _ h|.bX _ _ _,h=>λp m=>by refine aZ (List.mem_map.mp m) λq T e=>?_;exact Y e.symm<|d _<|h q T
 |.none,_=>trivial|.bool _,_=>trivial|.int _,_=>trivial|.str _,_=>trivial|.fn _,_=>trivial|.blt _,_=>trivial|.an _ _,_=>trivial
theorem s7:∀{l:List V},ij aa l->ij u (bF z l)|[],_=>trivial|_::_,h=>⟨yb h.1,s7 h.2⟩
end
theorem yH:∀{l},j7 aa l->j7 u (gx z l):=by
 intro l;induction l with
 |nil=>intro _;exact trivial
 |cons j k f=>rcases j with⟨_,_⟩;intro h;exact⟨yb d h.1,f h.2⟩
theorem Lk(h:jf aa o):jf u (bn z o):=by rcases o with l|⟨E,f⟩|⟨E,j,c⟩|f|v;exact s7 d h;exact yH d h;refine⟨λi e=>?_,λi e=>?_⟩;rcases j with _|j;exact aW e;obtain rfl:=aQ e;exact d _<|h.1 j rfl;rcases c with _|j;exact aW e;obtain rfl:=aQ e;exact d _<|h.2 j rfl;exact yH d h;rcases v with _|b;exact λa e=>nomatch e;exact λa e=>by obtain rfl:=aQ e;exact yb d<|h b rfl
omit d
variable(b:∀i,aa i->g (z i)=i)
include b
mutual
theorem v5:∀{a:V},hS aa a->bl g (bl z a)=a
 |.tup _,h=>az V.tup<|p6 h
 |.ref _,h=>az V.ref<|b _ h
 |.bm _ _,h=>az (V.bm _)<|b _ h
 |.bX _ _ cl,h=>by
  have:∀cl:List (Str×Nat),(∀p∈cl,aa p.2)->(cl.map λp=>(p.1,z p.2)).map (λp=>(p.1,g p.2))=cl:=λcl h=>by
   induction cl with
   |nil=>rfl|cons p r ih=>show(p.1,g<|z p.2)::_=_;exact Y (b _<|h p<|.head _)<|Y (ih λq m=>h q<|.tail _ m) rfl
  exact az (V.bX _ _)<|this cl h
 |.none,_=>rfl|.bool _,_=>rfl|.int _,_=>rfl|.str _,_=>rfl|.fn _,_=>rfl|.blt _,_=>rfl|.an _ _,_=>rfl
theorem p6:∀{l:List V},ij aa l->bF g (bF z l)=l|[],_=>rfl|_::_,h=>by show bl g (bl z _)::bF g (bF z _)=_;exact Y (v5 h.1)<|Y (p6 h.2) rfl
end
theorem zs:∀{l},j7 aa l->gx g (gx z l)=l:=by
 intro l;induction l with
 |nil=>intro _;exact rfl
 |cons j k f=>rcases j with⟨_,_⟩;intro h;show(_,bl g<|bl z _)::gx g (gx z _)=_;exact Y (v5 b h.1)<|Y (f h.2) rfl
theorem yY(h:jf aa o):bn g (bn z o)=o:=by
 rcases o with l|⟨E,f⟩|⟨E,j,c⟩|f|v;exact az au.list<|p6 b h;exact az (au.inst E)<|zs b h
 .have e:∀j:Option Nat,(∀i,j=some i->aa i)->(j.map z).map g=j:=λj h=>by rcases j with _|i;rfl;exact az some<|b i<|h i rfl
  show au.exc E ((j.map z).map g) ((c.map z).map g)=_;exact Y (e j h.1)<|Y (e c h.2) rfl
 exact az au.dict<|zs b h;rcases v with _|a;rfl;exact az (λa=>au.cell<|some a)<|v5 b<|h a rfl
end
theorem n6:∀{l}{i k:Nat}{o},l[i]? =some k->H[k]? =some o->(b' ρ H l)[i]? =some (bn ρ o)
 |[],_,_,_,e,_=>nomatch e|a::l,0,k,o,e,h=>by obtain rfl:a=k:=aQ e;show some (match H[a]? with|some o=>bn ρ o|none=>.cell none)=_;exact Y h rfl
 |a::l,i+1,k,o,e,h=>n6 (l:=l) (i:=i) e h
def n1:∀{l},(b' ρ H l).length=l.length:=by
 intro l;induction l with
 |nil=>exact rfl|cons _ l f=>exact az (·+1)<|f
theorem iF:∀{l H x},(cp ρ H l x).length=H.length|[],_,_=>rfl|_::_,_,[]=>rfl|k::l,H,o::x=>(iF (l:=l) (H:=H.set k<|bn ρ o) (x:=x)).trans er
theorem xP:∀{l H x},j∉l->(cp ρ H l x)[j]? =H[j]?|[],_,_,_=>rfl|_::_,_,[],_=>rfl|k::l,H,o::x,n=>(xP (l:=l) (H:=H.set k<|bn ρ o) (x:=x) λm=>n<|.tail _ m).trans<|o0 λe=>n<|by refine Y e ?_;exact .head _
theorem pq:∀{l H x}{i k:Nat}{o},l.Nodup->(∀k∈l,k<H.length)->l[i]? =some k->x[i]? =some o->(cp ρ H l x)[k]? =some (bn ρ o)
 |[],_,_,_,_,_,_,_,e,_=>nomatch e|_::_,_,[],_,_,_,_,_,_,e=>nomatch e
 |a::l,H,p::x,i,k,o,nd,h,e,f=>by
  have nd:=ee.mp nd;induction i using Nat.casesOn with
  |zero=>obtain rfl:a=k:=aQ e;obtain rfl:p=o:=aQ f;exact(xP (l:=l) (H:=H.set a<|bn ρ p) (x:=x) nd.1).trans<|qZ<|h a<|.head _
  |succ i=>exact pq (l:=l) (H:=H.set a<|bn ρ p) (x:=x) (i:=i) nd.2 (λk m=>by refine Y er ?_;exact h k<|.tail _ m) e f
def mem_upTo:∀{n l},i<n\/i∈l->i∈upTo n l:=by
 intro n;induction n with
 |zero=>intro _ h;exact h.resolve_left<|g6 _
 |succ n f=>intro l h;exact f (l:=n::l)<|h.elim (λh=>(dJ i n).imp id λg=>by refine Y (cf (eZ h) g) ?_;exact .head _) λm=>.inr<|.tail _ m
def e0(h:(a&&b)=true):a=true/\b=true:=cY.mp h
section
variable{K:al}{J:List Nat}
def ty(e:back H J b x k=some r):∃y,k (bt H J y) (cp (bt H J y) H J x++b' (bt H J y) x y)=some r/\J.length<=x.length/\y.Nodup/\(∀i∈y,J.length<=i)/\(∀i∈c0 b,Kept J.length y i)/\(∀i,Kept J.length y i->∃o,x[i]? =some o/\∀j∈bH o,Kept J.length y j)/\∀H' f u,f.length=J.length->back H' f b x u=u (bt H' f y) (cp (bt H' f y) H' f x++b' (bt H' f y) x y):=by
 refine aK e λkl aP e=>?_;generalize T:kl.drop J.length=y at e;have kp:∀i,eo J.length y i=true->Kept J.length y i:=λi h=>by have h:(match Nat.blt i J.length with|true=>true|false=>bv i y)=true:=h;rcases e:Nat.blt i J.length;rw[e]at h;exact .inr<|eM.mp h;exact .inl<|bG e
 revert e;rcases c:(Nat.ble J.length x.length&&(gy y&&(cQ (λi=>Nat.ble J.length i) y&&(cQ (eo J.length y) (c0 b)&&(dE (eo J.length y) x (upTo J.length [])&&dE (eo J.length y) x y)))));exact aW
 .intro e;have z:=c;refine zb c λc1 c=>zb c λc2 c=>zb c λD c=>zb c λI c=>zb c λN O=>SD y e (bG c1) (BC c2) (λi m=>bG<|ta D i m) (λi m=>kp i<|ta I i m) (λi m=>?_) λH' f u hl=>?_;exact aZ (m.elim (λh=>uf N i<|mem_upTo<|.inl h) λh=>uf O i h) λo C E=>a9 o C λj m=>kp j<|E j m
  .unfold back;refine Y hl<|Y aP ?_;show(match(Nat.ble J.length x.length&&(gy (kl.drop J.length)&&(cQ (λi=>Nat.ble J.length i) (kl.drop J.length)&&(cQ (eo J.length<|kl.drop J.length) (c0 b)&&(dE (eo J.length<|kl.drop J.length) x (upTo J.length [])&&dE (eo J.length<|kl.drop J.length) x (kl.drop J.length))))))with
    |true=>u (bt H' f<|kl.drop J.length)<|cp (bt H' f<|kl.drop J.length) H' f x++b' (bt H' f<|kl.drop J.length) x (kl.drop J.length)
    |false=>none)=_
   exact Y T<|Y z rfl
def AL{b:V}{x:aq}{y:List Nat}(nd:J.Nodup)(cl:∀k∈J,∃o,H[k]? =some o/\∀i∈bH o,i∈J)(le:J.length<=x.length)(ab:y.Nodup)(W:∀i∈y,J.length<=i)(T:∀i,Kept J.length y i->∃o,x[i]? =some o/\∀j∈bH o,Kept J.length y j):zJ (bt H J y) y (b' (λi=>bc i J) H J) x H (cp (bt H J y) H J x++b' (bt H J y) x y):=by
 have I:∀{i},i<J.length->∃k,J[i]? =some k:=λh=>⟨_,dx h⟩;have z:∀{i k},J[i]? =some k->bt H J y i=k:=λe=>by unfold bt;exact Y e rfl
 have U:∀{m i},y[m]? =some i->bt H J y i=H.length+m:=λ{m i} e=>by have:J[i]? =none:=eL<|W i<|sE e;unfold bt;refine Y this ?_;show H.length+bc i y=_;exact Y (lu ab e) rfl
 have O:∀k,k∈J->bt H J y (bc k J)=k:=λk m=>z<|pH m;have kl:∀k∈J,k<H.length:=λk m=>by refine aZ (cl k m) λo e _=>?_;exact(b4.mp e).1
 have pl:=n1 (ρ:=λi=>bc i J) (H:=H) (l:=J);refine⟨λi j f D e=>?_,λi o e=>?_,λm i e=>U e,λi m=>?_,by refine Y pl ?_;exact le,ab,by exact Y a0<|Y iF<|Y n1 rfl,λi o kp e=>?_,λj D n=>?_⟩;rw[pl]at f D;refine aU (I f) λk C=>aU (I D) λl E=>?_;rw[z C,z E]at e;subst e;exact Y (lu nd C).symm<|Y (lu nd E).symm rfl
 .have f:i<J.length:=by refine Y pl.symm ?_;exact(b4.mp e).1
  refine aU (I f) λk C=>aZ (cl k<|sE C) λo' E u=>?_;rw[n6 C E]at e;obtain rfl:=aQ e;have ok:=jz (aa:=(·∈J)) u;refine⟨?_,Lk (λi m=>?_) ok⟩;exact Y (z C)<|Y (yY O ok) E;exact Y pl<|(b4.mp<|pH m).1
 exact Y pl<|aZ (T i<|.inr m) λo e _=>⟨W i m,(b4.mp e).1⟩;rw[pl]at kp⊢;refine aZ (T i kp) λo' N h=>?_;rw[N]at e;obtain rfl:=aQ e;refine⟨?_,jz h⟩;by_cases f:i<J.length;refine aU (I f) λk C=>?_;have aP:=kl k<|sE C;refine Y (z C)<|Y (dO<|by rw[iF];exact aP) ?_;exact pq nd kl C N;refine aU (List.mem_iff_getElem?.mp<|kp.resolve_left f) λm hm=>Y (U hm) (Y (dp<|by rw[iF];exact bE ..)<|Y iF<|Y (ez ..) ?_);exact n6 hm N;refine Y (dO<|by rw[iF];exact D) ?_;exact xP λm=>n (bc j J) (by refine Y pl ?_;exact(b4.mp<|pH m).1)<|O j m
def Hj{X:List V->aq->M V}(g:∀D H r,X D H=some r->Good I K d none (.fn z) D H r)(e:bD X D H=some r):Good I K d none (.fn z) D H r:=by
 obtain⟨J,_,e⟩:=xM e;revert e;rcases c:(gy J&&(cQ (λi=>bv i J) (cm D)&&dE (λi=>bv i J) H J));exact aW
 .intro e;obtain⟨c1,c⟩:=e0 c;obtain⟨c2,c3⟩:=e0 c;obtain⟨q,eq,e⟩:=xM e;have nd:=BC c1;have cl:∀k∈J,∃o,H[k]? =some o/\∀i∈bH o,i∈J:=λk m=>by obtain⟨o,C,E⟩:=uf c3 k m;exact a9 o C λi m=>eM.mp<|E i m
  have pl:=n1 (ρ:=λi=>bc i J) (H:=H) (l:=J);have T:=mi (aa:=(·∈J)) (l:=D) λi m=>eM.mp<|ta c2 i m;have U:ij (·<(b' (λi=>bc i J) H J).length) (bF (λi=>bc i J) D):=s7 (λi m=>by refine Y pl ?_;exact(b4.mp<|pH m).1) T;have gd:Good I K d none (.fn z) (bF (λi=>bc i J) D) (b' (λi=>bc i J) H J) q:=g _ _ _ eq;have W:∀y,bF (bt H J y) (bF (λi=>bc i J) D)=D:=λy=>p6 (λk m=>by unfold bt;exact Y (pH m) rfl) T;rcases q with⟨b,x⟩|⟨i,x⟩
  .have e:back H J b x (λρ H'=>some<|.ok (bl ρ b) H')=some r:=e;obtain⟨y,e,le,O,N,j,h,_⟩:=ty (b:=b) e;obtain rfl:=aQ e;refine Y (W y).symm ?_;intro F loc f s u us;exact gd.lift (AL (b:=b) nd cl le O N h) trivial U ⟨by refine Y pl ?_;exact pd j,rfl⟩
  .have e:back H J (.ref i) x (λρ H'=>some<|.exc (ρ i) H')=some r:=e;obtain⟨y,e,le,O,N,j,h,_⟩:=ty (b:=.ref i) e;obtain rfl:=aQ e;refine Y (W y).symm ?_;intro F loc f s u us;exact gd.lift (AL (b:=.ref i) nd cl le O N h) trivial U ⟨by refine Y pl ?_;exact j i<|.head _,rfl⟩
end
def gp(a:V):Prop:=c0 a=[]/\∀z,bl z a=a
def aH(l:List V):Prop:=cm l=[]/\∀z,bF z l=l
def cA(o:au):Prop:=bH o=[]/\∀z,bn z o=o
def aH.nil:aH []:=⟨rfl,λ_=>rfl⟩
def aH.cons{a:V}{l:List V}(h:gp a)(k:aH l):aH (a::l):=⟨by show c0 a++cm l=[];exact Y h.1<|Y k.1 rfl,λz=>by show bl z a::bF z l=_;exact Y (h.2 ..)<|Y (k.2 ..) rfl⟩
theorem gp.tup(k:aH l):gp (.tup l):=⟨k.1,λz=>az V.tup<|k.2 z⟩
theorem gp.str:gp (.str x):=⟨rfl,λ_=>rfl⟩
theorem gp.int:gp (.int x):=⟨rfl,λ_=>rfl⟩
theorem gp.bool:gp (.bool x):=⟨rfl,λ_=>rfl⟩
theorem gp.none:gp .none:=⟨rfl,λ_=>rfl⟩
theorem cA.list(k:aH l):cA (.list l):=⟨k.1,λz=>az au.list<|k.2 z⟩
end
section
def rk:∀{l},bi a l=some v->(a,v)∈l:=by
 intro l;induction l with
 |nil=>intro e;exact nomatch e
 |cons j r f=>rcases j with⟨k,u⟩;intro e;have e:(match Nat.beq k a with|true=>some u|false=>bi a r)=some v:=e;revert e;rcases h:Nat.beq k a;intro e;exact .tail _<|f e;intro e;cases e;exact Y (cd h)<|.head _
def ud:∀{l},aC x l=some v->(x,v)∈l:=by
 intro l;induction l with
 |nil=>intro e;exact nomatch e
 |cons j r f=>rcases j with⟨k,u⟩;intro e;have e:(match sq k x with|true=>some u|false=>aC x r)=some v:=e;revert e;rcases h:sq k x;intro e;exact .tail _<|f e;intro e;cases e;exact Y (dr.mp h).symm<|.head _
def wW:∀{l},(gJ g l).lookup a=some o->g a=some o/\a∈l:=by
 intro l;induction l with
 |nil=>intro e;exact nomatch e
 |cons b l f=>intro e;simp only[gJ]at e;revert e;rcases h:g b with _|p;intro e;exact⟨(f e).1,.tail _ (f e).2⟩;intro e;rw[i9]at e;revert e;rcases c:a==b;intro e;exact⟨(f e).1,.tail _ (f e).2⟩;intro e;cases e;exact Y (ct.mp c) ⟨h,.head _⟩
def rZ(h:(!b)=true):b=false:=by induction b with|false=>rfl|true=>cases h
def jL{f:Type}{z:f->Bool}{l:List f}(h:l.all z=true){a:f}(m:a∈l):z a=true:=List.all_eq_true.mp h a m
def N8(h:vh B E x=true):(∃k,findIn B (.ref E) x=some k/\noGet B k=true)/\takerIn B E x=some none:=by unfold vh at h;refine zb h λf j=>⟨?_,ct.mp j⟩;revert f;rcases c:findIn B (.ref E) x with _|a;intro f;cases f;intro f;exact a9 a rfl f
def Tb(h:vo o v=true):o=some (.val v):=by unfold vo at h;rcases o with _|c;cases h;rcases c with u|_;exact Y (ct.mp h) rfl;cases h
def UA(h:w8 B E p=true):findIn B (.ref E) p.1=some (some<|.ref p.2)/\typeIn B (.ref p.2)=some (.type "function")/\specialIn B (.ref p.2) "__get__"=some (some<|.builtin "function.__get__")/\ takesIn B (.ref p.2)=some false/\copiedNames.contains p.1=false/\findCls B (.ref E) (.type "type") p.1=some (.val<|.ref p.2):=by unfold w8 at h;exact zb h λf h=>zb h λj h=>zb h λu h=>zb h λk h=>zb h λx y=>AP (ct.mp f) (ct.mp j) (ct.mp u) (ct.mp k) (rZ x)<|Tb y
def Ps(h:yf B E k=true):tC B E k:=by unfold yf at h;refine zb h λf h=>zb h λj h=>zb h λu h=>zb h λy h=>zb h λD h=>zb h λI h=>zb h λJ h=>zb h λN h=>zb h λO C=>⟨ct.mp f,ct.mp j,u,λe=>?_,λx m=>N8<|jL D<|Bq m,λx z e=>UA<|jL I<|ud e,ct.mp J,N,O,ct.mp C⟩;rw[e]at y;exact ct.mp y
def PK(h:u3 B E k=true):yt B E k:=by unfold u3 at h;refine zb h λf h=>zb h λj u=>⟨λz e=>?_,j,u⟩;rw[e]at f;have f:=f;exact zb f λa b=>⟨ct.mp a,ct.mp b⟩
def Ij{T:cx}(h:T.sub.all (subB B T)=true)(e:bi E T.sub=some l):mroIn B E (.type "BaseException")=some true/\typeIn B (.ref E)=some (.type "type")/\xh B E=true/\∀aa k,bi aa T.sub=some k->mroIn B E (.ref aa)=some (l.any<|Nat.beq aa):=by have h:=jL h<|rk e;unfold subB at h;exact zb h λf h=>zb h λj h=>zb h λu y=>LV (ct.mp f) (ct.mp j) u λaa k x=>ct.mp<|jL y<|rk x
def EO{f:Type}{a r:f}(e:aB b (some a) none=some r):b=true/\a=r:=by rcases b;exact aW e;exact⟨rfl,aQ e⟩
def Bd(e:jP o=true):o=none:=by rcases o;rfl;exact ff e
def sI(e:dB l=true):l=[]:=by rcases l;rfl;exact ff e
def Bh{o:Obj}(f:o.cls=c)(j:o.dict=none)(u:o.data=d)(h:o.slots.toList=[]):o={cls:=c,data:=d}:=by obtain⟨_,_,_,⟨_⟩⟩:=o;subst f j u;exact az (Obj.mk _ _ _)<|az Array.mk h
def y0(h:uF o=some D):o=some (iq D):=by refine aK h λo y g=>aK g λp x k=>aS (EO k) λk aP=>Y y<|Y aP.symm<|zb k λf k=>zb k λj k=>zb k λu z=>az some<|Bh (ct.mp u) (Bd f) ?_<|sI j;exact Y (Ut x)<|Y (cd z) rfl
def Ll(e:y6 x v=true):RV f h (.str x) v:=by refine dD e λy j e=>aU (zL j) λt u=>?_;clear j;subst u;exact zb e λe1 k=>Y (show y=⟨x.toArray⟩ from az Str.mk<|by rw[<-j1.mp e1])<|.str<|bG k
def GO(e:ms g (a::l) D=true):∃u us,D=u::us/\rS g a u=true/\ms g l us=true:=by rcases D with _|⟨u,us⟩;exact ff e;exact dX u us rfl<|e0 e
def LJ(e:ms g [] D=true):D=[]:=by rcases D;rfl;exact ff e
mutual
theorem B2 {g:Addr->Option (List Value)} {h:Heap} (hg:∀a D,g a=some D->h.get? a=some (iq D)) (f:a6):∀{x:V}{v:Value},rS g x v=true->RV f h x v
 |.tup _,_,e=>by exact dD e λa ha e=>dD e λD c e=>Y (pr ha)<|.tup (hg a D c) (bG (e0 e).1)<|ub hg f (e0 e).2
 |.fn z,v,e=>by refine Y (ct.mp<|show(v==.ref z)=true from e) ?_;exact .fn
 |.none,v,e=>by refine Y (ct.mp<|show(v==.none)=true from e) ?_;exact .none
 |.bool b,v,e=>by refine Y (ct.mp<|show(v==.bool b)=true from e) ?_;exact .bool
 |.int i,_,e=>by refine dD e λj hj e=>aU (KZ hj) λt z_2=>?_;clear hj;subst z_2;exact Y (tX<|nl.symm.trans e) .int
 |.str _,_,e=>Ll e|.ref _,_,e=>ff e|.blt _,_,e=>ff e|.bm _ _,_,e=>ff e|.an _ _,_,e=>ff e|.bX _ _ _,_,e=>ff e
theorem ub {g:Addr->Option (List Value)} {h:Heap} (hg:∀a D,g a=some D->h.get? a=some (iq D)) (f:a6):∀{l:List V}{D:List Value},ms g l D=true->aT f h l D
 |[],_,e=>by refine Y (LJ e) ?_;exact .nil
 |_::_,_,e=>by refine bV (GO e) λu us z_3 z_4=>?_;clear e;subst z_3;exact aS z_4 λe1 e2=>.cons (B2 hg f e1)<|ub hg f e2
end
def HW:nsFind es x=oI x es.toList:=by
 obtain⟨l⟩:=es;unfold nsFind findBy;refine Y (List.find?_toArray ..) ?_;show(l.find? λe=>e.key.isStr x).map (·.val)=oI x l;induction l with
 |nil=>rfl
 |cons e l f=>
  have aP:e.key.isStr x=ts x e.key:=by
   induction h:e.key with
   |str y t=>show(y==x)=sq y x;rw[gM,ct,dr]
   |_=>rfl
  show((e::l).find? λe=>e.key.isStr x).map (·.val)=(match ts x e.key with|true=>some e.val|false=>oI x l);refine Y List.find?_cons<|Y aP ?_;rcases ts x e.key;exact f;rfl
section
variable{h:Heap}
set_option backward.match.sparseCases true in
def pk:h.nsMap a x=mv h.get? a x:=by unfold Heap.nsMap mv;rcases h.get? a with _|o;rfl;show(match o.data with|.dict es _=>nsFind es x|_=>none)=(match o.data with|.dict es _=>oI x es.toList|_=>none);cases o.data<;>first|rfl|exact HW
end
def zD(e:rG o=some fd):∃p,o=some p/\p.cls=.type "function"/\p.data=.func fd:=by exact aK e λo y g=>aK g λz f k=>aS (EO k) λk aP=>fI o y (ct.mp k)<|aP▸ON f
def TB:∀{l},tF l=true->l.Nodup:=by
 intro l;induction l with
 |nil=>intro _;exact .nil
 |cons x l y=>
  intro h;refine zb (show(!dY x l&&tF l)=true from h) λf j=>ee.mpr ⟨λm=>?_,y j⟩;have:∀{l:List Str},x∈l->dY x l=true:=λ{l}=>by
   induction l with
   |nil=>exact λm=>nomatch m|cons k r u=>intro m;show(match sq k x with|true=>true|false=>dY x r)=true;rcases bC.mp m with rfl|m;exact Y (dr.mpr rfl) rfl;refine Y (u m) ?_;cases sq k x<;>rfl
  rw[this m]at f;cases f
def Jz(e:DA B fd l=true):(l=[]/\fd.defaults=.none)\/∃aa D,fd.defaults=.ref aa/\B.lookup aa=some (iq D)/\∀f h,aT f h l D:=by rcases pw.mp e with e|e;exact .inl ⟨sI (e0 e).1,ct.mp (e0 e).2⟩;exact dD e λaa j e=>dD e λD k e=>.inr ⟨aa,D,pr j,y0 k,λf h=>ub (λa D C=>aW C) f e⟩
def Q8(e:zE B fd=true):∃c h D t,fd.code=.ref c/\B.lookup c=some h/\h.data=.fields D/\D[1]? =some (.str fd.qualname t):=by refine dD e λc f e=>dD e λo y e=>dD e λD j e=>dD e λx aE e=>aK aE λv k aE=>aU (zL aE) λt u=>?_;clear aE;subst u;exact SP c o D t (pr f) y (Fx j)<|Y k<|Y (dr.mp e) rfl
def Jp(e1:zS B (z,fn)=true)(E:xf (z,fn)=true)(f:pW B z=sV fn):∃fd,p5 B z fn fd:=by refine dD e1 λfd q e1=>?_;unfold pW at f;rw[q]at f;refine zb e1 λd1 fu=>zb E λI h=>zb h λh J=>?_;have f:=aQ f;simp only[Prod.mk.injEq]at f;exact G5 f λa1 a2 e7 k u x y N=>cZ N λC D j=>⟨fd,zD q,a1,a2,e7,k,u,⟨x,y,C,D,j⟩,Jz d1,Q8 fu,wA I,TB h,bG J⟩
end
def Gt:∀{n},mw z n=true->∀k,k<n->z k=true:=by
 intro n;induction n with
 |zero=>intro _ k h;exact absurd h<|g6 k
 |succ n f=>intro e k h;have e:(match z n with|true=>mw z n|false=>false)=true:=e;revert e;rcases u:z n;intro e;exact ff e;intro e;rcases dJ k n with C|C;exact f e k C;exact Y (cf (eZ h) C) u
def OG(h:Cv (some o)=true):o.cls≠.type "traceback":=λe=>by have h:=rZ<|show(!(o.cls==.type "traceback"))=true from h;rw[e]at h;exact Bool.noConfusion<|(tz _).symm.trans h
def qA{a b:Nat}(h:(!Nat.beq a b)=true):a≠b:=λe=>by have h:=rZ h;rw[e,em]at h;exact ff<|h.symm
def HD{h:Heap}(e:D5 h.get? a3=true):h.BuiltinsAt (h.nsMap mainGlobals) a3:=by refine dD e λbm f e=>aK f λv j f=>?_;rw[pr f]at j;exact zb e λe1 e=>zb e λk e=>zb e λu e=>dD e λo q e=>zb e λf1 e=>⟨bm,o,pk.trans j,qA e1,qA k,qA u,q,ct.mp f1,ct.mp (e0 e).1,Qi (e0 e).2⟩
def HS(e:Bu o=true):o=some (tabObj #[]):=by refine dD e λo f g=>Y f<|zb g λe1 g=>zb g λh g=>zb g λj g=>dD g λD k g=>az some<|Bh (ct.mp e1) (Bd h) ?_<|sI j;exact Y (Fx k)<|az Data.fields<|az Array.mk<|sI g
structure pD(h:Heap)(T:cx)(a3:Addr):Prop where
 a1:un T (gJ h.get? (h0 T))=true
 a2:vG T (gJ h.get? (h0 T)) a3=true
 e7:vK h.get? h.objs.size T a3=true
 pt:(T.fns.map λp=>pW (gJ h.get? (h0 T)) p.1)=T.fns.map λp=>sV p.2
def Kc(X:pD h T a3):eT h:=λb o e=>by refine zb X.e7 λf1 _=>?_;have:=Gt f1 b<|Heap.lt_size e;rw[e]at this;exact OG this
section
variable{K:al}{T:cx}{h:Heap}(X:pD h T K.a3)(j:∀b o,h.get? b=some o->K.h₀.get? b=some o)(x:eT K.h₀)(f:T.fns.all xf=true)(bk:T.ge++(Str.ofString "<lambda>")=K.ar)
include X
theorem MI:∀a∈h0 T,a≠K.a3:=λa m e=>by refine zb X.a2 λ_ x=>zb x λ_ x=>zb x λ_ x=>?_;have:=List.any_eq_false.mp (rZ x) a m;rw[e]at this;exact this<|em _
include j x f bk
theorem A':cy K T (gJ h.get?<|h0 T):=by refine zb X.a1 λb1 y=>zb y λb2 b3=>zb X.a2 λd1 y=>zb y λfu y=>zb y λmR _=>zb X.e7 λf1 y=>zb y λI y=>zb y λJ y=>zb y λf4 y=>zb y λN y=>zb y λO y=>zb y λU y=>zb y λf8 y=>zb y λf9 y=>zb y λ_ y=>zb y λW _=>⟨⟨λa o e=>⟨j _ _ (wW e).1,MI X a (wW e).2⟩,λE k e=>Ps<|jL b1<|rk e,x,λE l e=>Ij b3 e⟩,λE k e=>PK<|jL b2<|rk e,λz fn e=>?_,λfn fd e ok=>?_,codeHd_of_K (λa o e=>j _ _ (wW e).1) mR,bk,⟨_,(Heap.Ns.of_isNs I).keeps j,?_⟩,⟨_,(Heap.Ns.of_isNs f4).keeps j,?_⟩,qA W⟩;have m:=rk e;exact Jp (jL d1 m) (jL f m)<|List.map_inj_left.mp X.pt _ m;refine dF ok.obj λo u C D=>dD fu λaa q fu=>dF (zD q) λp W g2 g3=>?_;clear y g2;obtain rfl:=aQ<|u.symm.trans W;clear y W q;obtain rfl:=Data.func.inj<|D.symm.trans g3;exact⟨ct.mp (e0 fu).1,dr.mp (e0 fu).2⟩;exact zA (HD f8) λbm o e1 e2 e3 e4 e5 e6=>⟨bm,o,e1,e2,e3,e4,j _ _ e5,e6⟩;exact Y pk<|Option.isNone_iff_eq_none.mp N
omit x f bk in
theorem Ef:eQ K T:=by refine zb X.e7 λf1 y=>zb y λI y=>zb y λJ y=>zb y λf4 y=>zb y λN y=>zb y λO y=>zb y λU y=>⟨_,_,(Heap.Ns.of_isNs I).keeps j,(Heap.Ns.of_isNs J).keeps j,λx a e=>?_,λx b e1 h=>?_⟩;have:=jL O (ud e);exact dD this λv c this=>a9 v (by refine Y pk ?_;exact c) λf=>B2 (λa D e=>j _ _<|y0 e) f this;have:=jL U (ud h);unfold zq at this;rw[e1]at this;exact zb this λu C=>Y pk<|Y pk ⟨Option.isNone_iff_eq_none.mp u,ct.mp C⟩
omit j x f bk in
theorem B9:h.get? K.a3=some (tabObj #[]):=by exact zb X.e7 λ_ y=>zb y λ_ y=>zb y λ_ y=>zb y λ_ y=>zb y λ_ y=>zb y λ_ y=>zb y λ_ y=>zb y λ_ y=>zb y λf y=>HS f
omit j x f bk in
theorem IM:∃o,h.get? sysModules=some o/\sysModules≠K.a3:=by exact zb X.e7 λ_ y=>zb y λ_ y=>zb y λ_ y=>zb y λ_ y=>zb y λ_ y=>zb y λ_ y=>zb y λ_ y=>zb y λ_ y=>zb y λf y=>zb y λu y=>zb y λ_ C=>aU (vV.mp u) λo e=>a9 o e<|qA C
end
theorem zc(z)(f:∀name kind ae,z (name,kind) ae=if kind==.cell then(do let a<-alloc {cls:=.type "cell",data:=.cell none};pure (.yield<|(name,a)::ae))else pure<|.yield ae):∀j{ae s Q},im j=true->Q ae s->wpAny (model I w) A (forIn j ae z) Q U s
 |[],ae,s,Q,e,h=>by exact Y jG<|aL h
 |(name,kind)::r,ae,s,Q,e,h=>by
  refine Y (hR ..)<|Y (f ..) ?_;have e:=e;induction kind with
  |cell=>exact ff e|_=>exact aX<|aL<|zc z f r e h
structure ul(K:al)(h:Heap)(a:V)(u:Value)(J:Shared):Prop where
 val:∃ab,RV ab J.heap a u
 old:∀b o,b≠K.a3->h.get? b=some o->J.heap.get? b=some o
 tab:∃N,J.heap.get? K.a3=some (tabObj N)
 os:J.os=K.os
 gens:J.gens=#[]
section
variable{K:al}
def Rm(G:cy K T B)(W:eV I K d v)(hr:gC (d+1) callerA)(h0:K.h₀=s.heap)(hg:s.gens=#[])(O:s.os=K.os)(hl:s.heap.get? K.a3=some (tabObj #[]))(hm:∃o,s.heap.get? sysModules=some o/\sysModules≠K.a3)(f:bi z T.fns=some fn)(E:im fn.scope.names=true)(q:aT [] s.heap D us)(ap:fill fn.params.length fn.dz D=some U)(hb:mb ⟨fn.scope.names,none,none⟩ fn.params U [] []=some aa)(eb:cV v ⟨fn.scope.names,none,none⟩ fn.body aa.1 aa.2=some rs)(e3:pJ rs=some (.ok a H')):codeAny (model I K.w) callerA (.call (.ref z) ⟨us,[]⟩) (λres J=>∃u,res=.ok (.ret u)/\ul K s.heap a u J) s:=by
 refine aU (G.fns z fn f) λfd ok=>dF ok.obj λo e1 aD hd=>?_;have X:B.In s.heap:=λa o e=>h0▸(G.base a o e).1;refine cZ (zj ap) λf1 y aw=>?_;subst aw;refine rE ok.code λcc oc an ct c1 c2 c3 c4=>codeAny_call_function (by decide) (X _ _ e1) hd (by refine Y ok.scope ?_;exact ok.sc.co) (by refine Y ok.scope ?_;exact ok.sc.gen) ok.body ⟨cc,oc,an,ct,c1,X _ _ c2,c3,c4⟩ ?_;refine aZ (Fh X ok q f1 y) λav ar args=>args<|Y ok.scope<|Y ok.glob<|Y ok.pM<|Y ok.blt ?_;simp only[newFunctionEnv,Option.isSome_none,kV,jd];refine aX<|q0 ?_;have aj:=ei s.heap;refine aX<|zc _ (λname kind ae=>by cases aE:kind==NameKind.cell<;>simp) fn.scope.names E ?_;have kp:∀b ob,s.heap.get? b=some ob->(s.heap.push lh).get? b=some ob:=λb ob e=>b0 _ e;have Lf:(s.heap.push lh).get? s.heap.objs.size=some lh:=dS _ rfl;generalize af:({scope:=fn.scope,locals:=s.heap.objs.size,globals:=mainGlobals,cells:=[],qual:=fd.qualname++".<locals>.",func:=some z,code:=fd.code,frame:=some s.heap.objs.size,builtins:=builtinsNs}:Env)=env;have o1:env.locals=s.heap.objs.size:=Y af.symm rfl;have k:env.scope.kind=.function:=by refine Y af.symm ?_;exact ok.sc.kind
 have o3:env.globals=mainGlobals:=Y af.symm rfl;have o4:env.builtins=builtinsNs:=Y af.symm rfl;have o5:env.frame=some s.heap.objs.size:=Y af.symm rfl;have o6:env.scope.names=fn.scope.names:=Y af.symm rfl;have o7:env.cells=[]:=Y af.symm rfl;have am:aV K ⟨callerA.deeper env,none,env,env,[],s.heap.objs.size⟩ [] [] [] {s with heap:=s.heap.push lh}:=
  ⟨λb o _ e=>kp _ _<|h0▸e,⟨#[],kp _ _ hl,trivial,λpos cv e=>(nomatch e)⟩,⟨#[],h0▸hl⟩,by refine aZ hm λo e n=>?_;exact⟨o,h0▸e,n⟩,⟨rfl,λi o p e=>(nomatch e),.nil,λa m=>(nomatch m)⟩,hg,O,rfl,o1,k,o3,o4,h0▸aj,λm=>(nomatch m),
   ⟨_,_,Lf,.inl rfl,uQ Lf,⟨λx _ a ea=>(aW ea),λx i _ ea=>(aW ea)⟩⟩,λaC m=>(by obtain rfl:=b8.mp m;exact⟨k,_,_,_,_,o5,h0▸aj,Lf,rfl,rfl⟩),rfl⟩
 have ai:CtxOk d ⟨fn.scope.names,none,none⟩ ⟨callerA.deeper env,none,env,env,[],s.heap.objs.size⟩:=by
  refine⟨λx=>.inl<|Y o6 rfl,rfl,⟨?_,?_⟩,λa q C=>(nomatch C)⟩;have h:callerA.depth+2*(d+1)+29<=recursionLimit:=hr.1;show callerA.depth+1+2*d+30<=recursionLimit;exact aR h<|by simp+arith
  have h:callerA.units+8*(d+1)+196<=cLine:=hr.2;show callerA.units+3+8*d+200<=cLine;exact aR h<|by simp+arith
 have as:aT [] (s.heap.push lh) (D++fn.dz.drop (fn.dz.length-(fn.params.length-D.length))) av:=ar.fx λa o e _=>kp _ _ e;refine aX<|AK ai _ (λn v u=>rfl) am as hb λaG ak aF=>aL ⟨aV.nolimit G ak,codeAny_func ?_⟩;refine bY (jS W ⟨ai,rfl⟩ ak _ eb) (λj ah⟨ao,aq,aB,al,eq,ag,au,x⟩=>?_) λev ah⟨aq,aB,al,i,a,dd,eq,ag,au,z1,z2,ie⟩=>?_
 .subst eq;have bp:∀{u},(∃ab,RV ab ah.heap a u)->ul K s.heap a u ah:=λv=>⟨v,λb o n e=>ag.base b o n<|h0▸e,by obtain⟨N,e,_,_⟩:=ag.lam;exact⟨N,e⟩,ag.os,ag.gens⟩;induction ao with
  |next=>
   cases j<;>first|exact x.elim|skip
   refine lM (aQ e3) λax ay=>?_;subst ax ay;exact a9 _ rfl<|bp ⟨[],.none⟩
  |ret b=>
   cases j<;>first|exact x.elim|skip
   refine lM (aQ e3) λaz aA=>?_;subst az aA;exact a9 _ rfl<|bp ⟨_,x⟩
  |_=>exact aW e3
 subst eq;cases e3
end
section
open Builtin Builtin.ObjectAttr Builtin.Getset_descriptor
structure iT(K:al)(j:Addr)(N:List Int):Prop where
 obj:∃D n,K.h₀.get? j=some (eA D n)/\D.length<=lim/\∀f h,aT f h (N.map .int) D
 ne:j≠K.a3
def yG(j:Addr)(N:List Int)(a:V)(D:List V)(H:aq):M V:=match a with
 |.blt b=>(match b with|.len=>fR D λx=>(match x with|.fn z=>as (Nat.beq z j) (rt (.int (N.length:Nat)) H)|_=>none)|_=>none)
 |_=>none
def Ha(j:Addr)(N:List Int)(a i:V)(H:aq):M V:=match a with
 |.fn z=>as (Nat.beq z j)<|ob (m7 i) λk=>ob (N.map V.int)[k]? λr=>rt r H
 |_=>none
def xw(j:Addr)(N:List Int)(v:dQ)(c:bh)(loc:Loc)(z:Expr)(args:List Expr)(H:aq):M V:=bd (v.e c loc z H) λa H=>bd (ce v c loc args H) λD H=>as (Nat.blt D.length 30)<|yG j N a D H
def vA(j:Addr)(N:List Int)(v:dQ)(c:bh)(loc:Loc)(y i:Expr)(H:aq):M V:=bd (v.e c loc y H) λa H=>bd (v.e c loc i H) λb H=>Ha j N a b H
noncomputable def orM(m T:M V):M V:=match m with|some r=>some r|none=>T
def vg(j:Addr)(N:List Int)(v:dQ)(c:bh)(loc:Loc)(x:Expr)(H:aq):M V:=match x with
 |.Call z args J _=>(match J with|[]=>(match hU z with|none=>as (df args) (xw j N v c loc z args H)|some _=>none)|_::_=>none)
 |.Subscript y i _=>(match kC i with|none=>vA j N v c loc y i H|some _=>none)|_=>none
def jI(j:Addr)(N:List Int)(v:dQ):dQ:={v with e:=λc loc x H=>orM (vg j N v c loc x H)<|v.e c loc x H}
section
variable{K:al}
def iT.at(S:iT K j N)(R:aV K F loc f H s):∃D n,s.heap.get? j=some (eA D n)/\D.length<=lim/\∀f h,aT f h (N.map .int) D:=by exact fi S.obj λD n e l q=>pQ D n (R.base _ _ S.ne e) l q
def RK(S:iT K j N)(h:aV K F loc f H s)(W:RV f s.heap a u)(q:aT f s.heap D us)(e:yG j N a D H=some r):ik (model I K.w) s.heap u/\aO I K F loc (call u us) (aM aN r) (a8 r) f H s:=by
 induction a using V.casesOn with
 |blt b=>
  refine Y W.r7 ?_;induction b with
  |len=>
   refine⟨.blt (λa C=>by cases C),?_⟩;rcases D with _|⟨x,D⟩;exact aW e
   .rcases D
    .induction x using V.casesOn with
     |fn z=>refine cH (show as (Nat.beq z j) (rt (V.int (N.length:Nat)) H)=some r from e) λO y=>?_;clear e;obtain rfl:=cd O;obtain⟨w,ws,rfl,T,U⟩:=q.eO;clear q;cases U;refine Y T.ki<|fi (S.at h) λws n J hl E=>?_;have k:=(E f s.heap).length;rw[p']at k;refine Calls.call_len_list ⟨_,J,rfl,_,rfl⟩ (by refine Y di ?_;exact vF hl) ?_;exact Y di<|Y k<|bj (h.toks<|s.toks+1+1) (.refl ..) .int y
     |_=>exact aW e
    exact aW e
  |_=>exact aW e
 |_=>exact aW e
def IT(S:iT K j N)(R:aV K F loc f H s)(qa:RV f s.heap (.fn z) u)(x:RV f s.heap i O)(y:Nat.beq z j=true)(aP:m7 i=some k)(e:(N.map V.int)[k]? =some b)(h:∀w k,RV f s.heap b w->Q w {s with toks:=k}):ItemOn (model I K.w) A U u O Q s:=by
 obtain rfl:=cd y;refine Y qa.ki<|fi (S.at R) λD af W la E=>aK aP λC hz aP=>?_;rw[fp hz]at x;obtain⟨t',rfl⟩:=x.cG;have ab:C=(k:Int):=by rcases C with m|m;exact az Int.ofNat<|aQ aP;exact aW aP
 clear hz aP x;subst ab;refine aZ (pE (E f s.heap) e) λw J ae=>?_;have T:s.heap.IsList z D.toArray:=⟨_,W,rfl,_,rfl⟩;have aa:k<D.length:=by have:=(Array.getElem?_eq_some_iff.mp J).1;rwa [di]at this
 refine⟨"list",_,slot_list_getitem.lookup,T.typeIs,wpAny_getItem_list T (gt k) ?_ J<|h _ s.toks ae⟩;exact nH (hQ.mpr<|cu aa la)<|by decide
def Rf(S:iT K j N)(ae:bB I K d v)(E:CtxOk d c F)(z:aV K F loc f H s)(ns:df args=true)(h:hU x=none)(e:xw j N v c loc x args H=some r):aO I K F loc (eval (.Call x args [] p) F.env) (aM aN r) (a8 r) f H s:=by unfold aO;refine Y (Aw h)<|aX<|Sn.then (.refl ..) (ae.e E z) e λa u ab H' J y st _ q O=>l1 ae E ns st y O λD us ai af ah C U W aa k=>?_;obtain⟨ag,k⟩:=jN k;obtain⟨T,k2⟩:=RK S C (q.at W y) aa k;exact⟨T,fN U k2⟩
def F2(S:iT K j N)(ag:bB I K d v)(E:CtxOk d c F)(R:aV K F loc f H s)(e:vA j N v c loc x i H=some r):aO I K F loc (eval (.Subscript x i p) F.env) (aM aN r) (a8 r) f H s:=by
 refine Subscript_<|Sn.then (.refl ..) (ag.e E R) e λa u ab H' J D st _ q W=>Sn.then st (ag.e E D) W λb O aj U ai T af ae q' C=>?_;induction a using V.casesOn with
 |fn z=>exact cH (show as (Nat.beq z j) (ob (m7 b) λk=>ob (N.map V.int)[k]? λr=>rt r U)=some r from C) λy C=>aK C λk aP C=>aK C λb' hb C=>aU (va i u O) λah h=>u7 (IT S T (q.at ae D) q' y aP hb λw k aa=>bj (T.toks k) af aa C) h|_=>exact aW C
def MH(S:iT K j N)(u:bB I K d v):bB I K d (jI j N v):=by
 refine⟨λ{F c loc x f H s} E R r e=>?_,u.t⟩;have e:orM (vg j N v c loc x H) (v.e c loc x H)=some r:=e;revert e;rcases h:vg j N v c loc x H with _|C;intro e;exact u.e E R r e
 .intro e;cases e;induction x using Expr.casesOn with
  |Call z args J p=>rcases J;have h:(match hU z with|none=>as (df args) (xw j N v c loc z args H)|some _=>none)=some r:=h;revert h;rcases k:hU z;intro h;exact cH h λns h=>Rf S u E R ns k h;intro h;exact aW h;exact aW h
  |Subscript y i p=>have h:(match kC i with|none=>vA j N v c loc y i H|some _=>none)=some r:=h;revert h;rcases k:kC i;intro h;exact F2 S u E R h;exact aW
  |_=>exact aW h
end
end
inductive Q where|b (x:Bool)|c (x:Option Bool)|m (x:M V)|s (x:MS)|g (x:Option (List V->aq->M V))|o (x:Option au)|v (x:Option V)|l (x:M (List V))
inductive Tr(f:Type)where|ret (x:Option f)|ask (q:Q) (k:Q->Tr f)
noncomputable def PG:Q->Bool|.b x=>x|_=>false
noncomputable def Hz:Q->Option Bool|.c x=>x|_=>none
noncomputable def Sx:Q->M V|.m x=>x|_=>none
noncomputable def Ld:Q->MS|.s x=>x|_=>none
noncomputable def TR:Q->Option (List V->aq->M V)|.g x=>x|_=>none
noncomputable def N0:Q->Option au|.o x=>x|_=>none
noncomputable def TY:Q->Option V|.v x=>x|_=>none
noncomputable def Mi:Q->M (List V)|.l x=>x|_=>none
def run{f:Type}(t:Tr f):Option f:=Tr.rec (λx=>x) (λq _ h=>h q) t
noncomputable def pV{f:Type}(t:Tr f):Q:=Tr.casesOn t (λ_=>.b true) λq _=>q
noncomputable def k4{f:Type}(t:Tr f)(y:Q):Tr f:=Tr.casesOn t (λx=>.ret x) λ_ k=>k y
noncomputable def EL{f:Type}(t:Tr f):Tr f:=Tr.casesOn t (λx=>.ret x) λq k=>k q
noncomputable def skip{f:Type}(n:Nat)(t:Tr f):Tr f:=Nat.rec t (λ_ t=>EL t) n
def N7(t:Tr f):run (EL t)=run t:=by cases t<;>rfl
def st(y)(h:pV t=y)(e:run (k4 t y)=r):run t=r:=by subst h;cases t<;>exact e
def aj{j:Type}(z:j->Q){a b:j}(l:a=b)(h:pV t=z a)(e:run (k4 t<|z b)=r):run t=r:=by subst l;exact st _ h e
def sk:∀n,run (skip n t)=r->run t=r:=by
 intro n;induction n with
 |zero=>intro e;exact e
 |succ n f=>intro e;exact f<|(N7 _).symm.trans e
def oO{j:Type}(z:j->Option f){x y:j}(b)(h:pV t=.b b)(k:b=true->run (k4 t<|.b true)=z x)(u:b=false->run (k4 t<|.b false)=z y):run t=z (aB b x y):=by rcases b;exact st _ h<|u rfl;exact st _ h<|k rfl
def rl{j:Type}(z:j->Option f){x y:j}(b)(h:pV t=.c (some b))(k:b=true->run (k4 t<|.c<|some true)=z x)(u:b=false->run (k4 t<|.c<|some false)=z y):run t=z (aB b x y):=by rcases b;exact st _ h<|u rfl;exact st _ h<|k rfl
def yg{j:Type}(z:j->Option f){x y:j}(b)(h:pV t=.c (some<|!b))(k:b=true->run (k4 t<|.c<|some false)=z x)(u:b=false->run (k4 t<|.c<|some true)=z y):run t=z (aB b x y):=by rcases b;exact st _ h<|u rfl;exact st _ h<|k rfl
def tb{f j:Type}(t:Tr f)(z:Option f->Tr j):Tr j:=Tr.rec z (λq _ h=>.ask q h) t
def i3(t)(z:Option f->Tr j):run (tb t z)=run (z<|run t):=Tr.rec (motive:=λt=>run (tb t z)=run (z<|run t)) (λ_=>rfl) (λq _ h=>h q) t
def hF{f:Type}(b:Bool)(x y:Tr f):Tr f:=.ask (.b b) λq=>aB (PG q) x y
def x4{f:Type}(op:BoolOp)(b:Bool)(x y:Tr f):Tr f:=match op with|.And=>hF b y x|.Or=>hF b x y
noncomputable def Ir(x:Option Bool):Tr Bool:=.ask (.c x) λq=>.ret<|Hz q
noncomputable def tM(x:M V):Tr (R V):=.ask (.m x) λq=>.ret<|Sx q
noncomputable def tS(x:MS):Tr RS:=.ask (.s x) λq=>.ret<|Ld q
noncomputable def IG(x:Option<|List V->aq->M V):Tr (List V->aq->M V):=.ask (.g x) λq=>.ret<|TR q
noncomputable def vz(x:Option au):Tr au:=.ask (.o x) λq=>.ret<|N0 q
noncomputable def Ac(x:Option V):Tr V:=.ask (.v x) λq=>.ret<|TY q
noncomputable def P9(x:M<|List V):Tr (R<|List V):=.ask (.l x) λq=>.ret<|Mi q
noncomputable def gh{f j:Type}(o:Option f)(k:f->Tr j):Tr j:=match o with|some a=>k a|none=>.ret none
def iw{f j:Type}(t:Tr f)(k:f->Tr j):Tr j:=tb t λo=>gh o k
noncomputable def I9{f j:Type}(m:M f)(k:f->aq->Tr (R j)):Tr (R j):=match m with
 |some (.ok a H)=>k a H|some (.exc i H)=>.ret<|some<|.exc i H
 |none=>.ret none
def de{f j:Type}(t:Tr<|R f)(k:f->aq->Tr (R j)):Tr (R j):=tb t λm=>I9 m k
noncomputable def kB{f:Type}(m:M f)(loc:Loc)(k:f->aq->Tr RS):Tr RS:=match m with
 |some (.ok a H)=>k a H|some (.exc i H)=>.ret<|some<|.exc i loc H
 |none=>.ret none
def jx{f:Type}(t:Tr<|R f)(loc:Loc)(k:f->aq->Tr RS):Tr RS:=tb t λm=>kB m loc k
noncomputable def sS(m:MS)(k:Loc->aq->Tr RS):Tr RS:=match m with
 |none=>.ret none
 |some q=>match q with
  |.exc ..=>.ret<|some q
  |.ok z loc H=>match z with|.next=>k loc H|_=>.ret<|some q
noncomputable def MR{f j:Type}(m:M f)(k:f->aq->Tr (R j)):Tr (R j):=match m with|some (.ok a H)=>k a H|_=>.ret none
def qj{f j:Type}(t:Tr<|R f)(k:f->aq->Tr (R j)):Tr (R j):=tb t λm=>MR m k
noncomputable def gd{f:Type}(b:Bool)(t:Tr f):Tr f:=match b with|true=>t|false=>.ret none
section
variable{f:Type}
def xn(h:run x=j)(h':run y=k):run (hF b x y)=match b with|true=>j|false=>k:=by cases b<;>assumption
def Dn(h:run x=j)(h':run y=k):run (x4 op b x y)=match rT op b with|true=>j|false=>k:=by cases op<;>cases b<;>assumption
def g1(h:∀a,run (k a)=j a):run (gh o k)=ob o j:=by rcases o with _|a;rfl;exact h a
def pg(h':run t=o)(h:∀a,run (k a)=j a):run (iw t k)=ob o j:=by unfold iw;exact Y (i3 ..)<|Y h'<|g1 h
def dm{m:M f}(h:run t=m)(h':∀a H,run (k a H)=j a H):run (de t k)=bd m j:=by
 unfold de;refine Y (i3 ..)<|Y h ?_;match m with
 |none=>rfl|some (.ok a H)=>exact h' a H|some (.exc i H)=>rfl
def v2{m:M f}(h:run t=m)(h':∀a H,run (k a H)=j a H):run (qj t k)=pB m j:=by
 unfold qj;refine Y (i3 ..)<|Y h ?_;match m with
 |none=>rfl|some (.ok a H)=>exact h' a H|some (.exc i H)=>rfl
def k9{m:M f}(h:run t=m)(h':∀a H,run (k a H)=j a H):run (jx t loc k)=ea m loc j:=by
 unfold jx;refine Y (i3 ..)<|Y h ?_;match m with
 |none=>rfl|some (.ok a H)=>exact h' a H|some (.exc i H)=>rfl
def Ue{m:MS}(h:run t=m)(h':∀loc H,run (k loc H)=j loc H):run (tb t λm=>sS m k)=lr m j:=by
 refine Y (i3 ..)<|Y h ?_;match m with
 |none=>rfl|some (.exc ..)=>rfl|some (.ok z loc H)=>cases z<;>first|rfl|exact h' loc H
def Du{m:M f}(h:run t=m):run (hF b t<|.ret none)=as b m:=by rcases b;rfl;exact h
def kK{m:M f}(h:run t=m):run (gd b t)=as b m:=by rcases b;rfl;exact h
def r5{m:MS}(h:run t=m):run (gd b t)=fV b m:=by rcases b;rfl;exact h
end
structure qR where
 e:bh->Loc->Expr->aq->Tr (R V)
 t:bh->Loc->Expr->aq->Tr (R Bool)
 s:bh->Stmt->Loc->aq->Tr RS
structure AZ(v:dQ)(w:qR):Prop where
 e:∀c loc x H,run (w.e c loc x H)=v.e c loc x H
 t:∀c loc x H,run (w.t c loc x H)=v.t c loc x H
 s:∀c x loc H,run (w.s c x loc H)=v.s c x loc H
noncomputable def b6{f:Type}(b:Bool)(m:Option f):Option f:=match b with|true=>m|false=>none
def C7(T:cx)(O:ap)(hd:Option Nat)(i:Nat)(m:Str)(H:aq)(o:au):Option (List V->aq->M V):=match o with
 |.list _=>b6 (ky m)<|some λD H=>ob (dn H[i]?) λl=>eH m i l D H
 |.inst E f=>b6 (jP<|aC m f)<|ob (bi E T.cls) λk=>aB k.exc none<|ob (aC m k.eC) λz=>some λD H=>dV T O hd z (.ref i::D) H
 |_=>none
def dy(T:cx)(O:ap)(hd:Option Nat)(a:V)(m:Str)(H:aq):Option (List V->aq->M V):=match a with
 |.str x=>b6 (qx m)<|some λD H=>e8 m x D H
 |.blt b=>(match b with|.exception=>b6 (sq m pi) (some<|oN T)|_=>none)|.fn E=>ob (bi E T.cls) λk=>ob (aC m k.eC) λz=>some λD H=>dV T O hd z D H|.ref i=>ob H[i]? (C7 T O hd i m H)|_=>none
def py(o)(z:f->Option j)(g:j->Option h):ob (ob o z) g=ob o λa=>ob (z a) g:=by cases o<;>rfl
def sB(b)(m)(g:f->M j):ob (b6 b m) g=as b (ob m g):=by cases b<;>rfl
def GU(b)(m)(g:f->Option j):ob (aB b none m) g=aB b none (ob m g):=by cases b<;>rfl
def p2(h:∀a,k a=j a):ob o k=ob o j:=by rcases o with _|a;rfl;exact h a
def jp(args:aq->M (List V))(H:aq)(g:List V->aq->M V):M V:=bd (args H) g
def Gn(T)(O)(hd)(a)(m)(H)(args):sR T O hd a m H args=ob (dy T O hd a m H) (jp args H):=by
 induction a using V.casesOn with
 |str x=>exact(sB (qx m) (some λD H=>e8 m x D H)<|jp args H).symm|blt b=>cases b<;>first|rfl|exact(sB (sq m pi) (some (oN T)) (jp args H)).symm
 |fn E=>exact Eq.trans (p2 λk=>(py (aC m k.eC) (λz=>some λD H=>dV T O hd z D H)<|jp args H).symm) (py (bi E T.cls) (λk=>ob (aC m k.eC) λz=>some λD H=>dV T O hd z D H)<|jp args H).symm
 |ref i=>
  refine Eq.trans (p2 (o:=H[i]?) (k:=uC T O hd i m H args) λo=>?_) (py H[i]? (C7 T O hd i m H) (jp args H)).symm;induction o with
  |list l=>exact(sB (ky m) (some λD H=>ob (dn H[i]?) λl=>eH m i l D H)<|jp args H).symm|inst E f=>refine Eq.trans ?_ (sB (jP<|aC m f) (ob (bi E T.cls) λk=>aB k.exc none<|ob (aC m k.eC) λz=>some λD H=>dV T O hd z (.ref i::D) H)<|jp args H).symm;refine az (as _)<|Eq.trans (p2 λk=>?_) (py (bi E T.cls) (λk=>aB k.exc none<|ob (aC m k.eC) λz=>some λD H=>dV T O hd z (.ref i::D) H)<|jp args H).symm;exact Eq.trans (az (aB k.exc none) (py (aC m k.eC) (λz=>some λD H=>dV T O hd z (.ref i::D) H)<|jp args H).symm) (GU ..).symm
  |_=>rfl
 |_=>rfl
def oM(a b:V)(H:aq):M V:=ob (q8 a b H) λr=>rt r H
def h5(a:V)(l h:Option V)(H:aq):M V:=ob (gN a l h) λr=>rt r H
section
variable(T:cx)(O:ap)(v:dQ)(w:qR)
noncomputable def nE(c:bh)(loc:Loc):List Expr->aq->Tr (R<|List V)
 |[],H=>.ret<|rt [] H
 |x::r,H=>de (w.e c loc x H) λa H=>de (nE c loc r H) λl H=>.ret<|rt (a::l) H
noncomputable def su(c:bh)(loc:Loc)(a:V):List CmpOp->List Expr->aq->Tr (R Bool)
 |[],_,_=>.ret none
 |op::h,f,H=>match f with
  |[]=>.ret none
  |x::f=>de (w.e c loc x H) λb H=>iw (Ir<|cN op a b H) λC=>match dB f with
   |true=>.ret<|rt C H
   |false=>hF C (su c loc b h f H)<|.ret<|rt false H
noncomputable def vO(c:bh)(loc:Loc)(op:BoolOp):List Expr->aq->Tr (R V)
 |[],_=>.ret none
 |x::r,H=>match r with|[]=>w.e c loc x H|_::_=>de (w.e c loc x H) λa H=>gh (kL a) λb=>x4 op b (.ret<|rt a H)<|vO c loc op r H
noncomputable def rx(c:bh)(loc:Loc)(op:BoolOp):List Expr->aq->Tr (R Bool)
 |[],H=>.ret<|rt (ze op) H
 |x::r,H=>de (w.t c loc x H) λb H=>x4 op b (.ret<|rt b H)<|rx c loc op r H
def uW(c:bh)(loc:Loc)(x:Option Expr)(H:aq):Tr (R<|Option V):=match x with
 |none=>.ret<|rt none H
 |some x=>de (w.e c loc x H) λa H=>.ret<|rt (some a) H
def Cb(c:bh)(loc:Loc)(x:Str)(H:aq)(k:Option NameKind):Tr (R V):=match k with
 |some .local=>iw (Ac<|aC x loc) λa=>.ret<|rt a H
 |_=>tM<|hr T c loc x H
def ui(c:bh)(loc:Loc)(x:Str)(H:aq):Tr (R V):=match sq x jv with|true=>.ret none|false=>Cb T c loc x H<|aC x c.sc
def sa(c:bh)(loc:Loc)(x:Expr)(H:aq):Tr (R V):=match x with
 |.Constant k _ _=>.ret<|ob (rV k) λa=>rt a H
 |.Name x _=>ui T c loc x H|.Attribute e m _=>gd (oe e)<|de (w.e c loc e H) λa H=>tM<|mf T a m H
 |.Subscript e i _=>match kC i with
  |some p=>de (w.e c loc e H) λa H=>de (uW w c loc p.1 H) λl H=>de (uW w c loc p.2 H) λh H=>tM<|h5 a l h H
  |none=>de (w.e c loc e H) λa H=>de (w.e c loc i H) λb H=>tM<|oM a b H
 |.Compare l f rs _=>gd (hM rs&&Nat.beq f.length rs.length)<|de (w.e c loc l H) λa H=>de (su w c loc a f rs H) λb H=>.ret<|rt (.bool b) H
 |.BoolOp op D _=>vO w c loc op D H
 |.UnaryOp op x p=>match op with
  |.Not=>de (w.e c loc x H) λa H=>gh (kL a) λb=>.ret<|rt (.bool<|!b) H
  |op=>tM<|ec T O v c loc (.UnaryOp op x p) H
 |.BinOp l op r _=>de (w.e c loc l H) λa H=>de (w.e c loc r H) λb H=>tM<|bin op a b H
 |.IfExp t a b _=>de (w.t c loc t H) λq H=>hF q (w.e c loc a H)<|w.e c loc b H
 |.Tuple es _ _=>gd (df es&&cq es.length)<|de (nE w c loc es H) λl H=>.ret<|rt (.tup l) H
 |.List es _=>gd (df es&&cq es.length)<|de (nE w c loc es H) λl H=>.ret<|rt (.ref H.length)<|H++[.list l]
 |.Call z args J p=>match J with
  |[]=>(match hU z with
   |some q=>gd (oe q.1&&df args&&Nat.blt args.length 30&&Nat.beq q.2.2.endLine p.line)<|de (w.e c loc q.1 H) λa H=>iw (IG<|dy T O c.hd a q.2.1 H) λg=>de (nE w c loc args H) λD H=>tM<|g D H
   |none=>gd (df args)<|de (w.e c loc z H) λa H=>de (nE w c loc args H) λD H=>gd (Nat.blt D.length 30)<|tM<|bP T O c.hd a D H)
  |_::_=>.ret none
 |.ListComp u j scope _=>gh (v6 j) λg=>gd (j0 g.2.1&&iu scope&&pb c.hd)<|gh (g0 c.sc loc scope.names) λcl=>de (w.e c loc g.2.1 H) λaY H=>hF (eX aY H)
   (qj (P9<|v.lc ⟨scope.names,c.hd,c.lam⟩ (eB scope.names (db cl) H).1 g.1 u g.2.2 aY 0 [] (eB scope.names (db cl) H).2) λl H=>.ret<|rt (.ref H.length)<|H++[.list l]) (.ret none)
 |x=>tM<|ec T O v c loc x H
def vw(t:Tr<|R V):Tr (R Bool):=de t λa H=>gh (kL a) λb=>.ret<|rt b H
def Bg(c:bh)(loc:Loc)(x:Expr)(H:aq):Tr (R Bool):=match x with
 |.Compare l f rs _=>gd (hM rs&&Nat.beq f.length rs.length)<|de (w.e c loc l H) λa H=>su w c loc a f rs H
 |.UnaryOp op x p=>match op with
  |.Not=>de (w.t c loc x H) λb H=>.ret<|rt (!b) H
  |op=>vw<|w.e c loc (.UnaryOp op x p) H
 |.BoolOp op D _=>rx w c loc op D H|.IfExp ..=>.ret none|x=>vw<|w.e c loc x H
noncomputable def gY(c:bh):List Stmt->Loc->aq->Tr RS
 |[],loc,H=>.ret<|some<|.ok .next loc H
 |x::r,loc,H=>tb (w.s c x loc H) λm=>sS m<|gY c r
def CM(c:bh)(i:Nat)(nm:Option Str)(body:List Stmt)(loc:Loc)(H:aq):Tr RS:=match nm with|none=>gY w ⟨c.sc,some i,c.lam⟩ body loc H|some x=>gh (aC x c.sc) λk=>gd (ua k)<|iw (gY w ⟨c.sc,some i,c.lam⟩ body (put x (.ref i) loc) H) λq=>.ret<|some<|lx x q
noncomputable def wN(c:bh)(i:Nat)(E:Addr):List ExceptHandler->Loc->aq->Tr RS
 |[],loc,H=>.ret<|some<|.exc i loc H
 |h::r,loc,H=>match h with
  |.ExceptHandler f nm body _=>gh f λt=>gh (mc t) λy=>gh (lG T ⟨c.sc,some i,c.lam⟩ loc y H) λaa=>gh (tK T E aa) λb=>match b with|true=>CM w c i nm body loc H|false=>wN c i E r loc H
def Ec(c:bh)(f:List ExceptHandler)(m:MS):Tr RS:=match m with
 |none=>.ret none|some (.ok z loc H)=>.ret<|some<|.ok z loc H
 |some (.exc i loc H)=>iw (vz H[i]?) λo=>match o with|.exc E _ _=>wN T w c i E f loc H|_=>.ret none
def Ad(c:bh)(t:Expr)(a:V)(loc:Loc)(H:aq):Tr RS:=match hU t with
 |some q=>jx (w.e c loc q.1 H) loc λb H=>gh (fG b) λi=>iw (vz H[i]?) λo=>tS<|i7 T q.2.1 a loc i H o
 |none=>tS<|i' T v c t a loc H
def AS(c:bh)(x:Stmt)(loc:Loc)(H:aq):Tr RS:=match x with
 |.Expr e _=>gd (mY e)<|jx (w.e c loc e H) loc λ_ H=>.ret<|some<|.ok .next loc H
 |.Assign k e _=>gh (tA k) λt=>gd (mY e&&og t e)<|jx (w.e c loc e H) loc λa H=>Ad T v w c t a loc H
 |.If t a b _=>jx (w.t c loc t H) loc λq H=>hF q (gY w c a loc H)<|gY w c b loc H
 |.For t j b dK p=>match dK with
  |[]=>gd (j0 j&&pb c.hd)<|jx (w.e c loc j H) loc λaY H=>hF (eX aY H) (tS<|v.fr c t aY 0 b loc H)<|.ret none
  |e::dK=>tS<|ej T v c (.For t j b (e::dK) p) loc H
 |.Return x _=>match x with
  |none=>.ret<|some<|.ok (.ret .none) loc H
  |some e=>jx (w.e c loc e H) loc λa H=>.ret<|some<|.ok (.ret a) loc H
 |.Raise x y _=>match x with
  |some e=>(match y with
   |none=>jx (w.e c loc e H) loc λa H=>tS<|nN T c.hd loc a H
   |some _=>.ret none)
  |none=>.ret none
 |.Try b f dK bp _=>match f with
  |[]=>.ret none
  |h::f=>(match dK with
   |[]=>(match bp with|[]=>tb (gY w c b loc H) λm=>Ec T w c (h::f) m|_::_=>.ret none)
   |_::_=>.ret none)
 |x=>tS<|ej T v c x loc H
noncomputable def Ed(c:bh)(t:Expr)(b:List Stmt)(m:MS):Tr RS:=.ret (match m with
  |some (.ok .next loc H)=>v.wh c t b loc H|some (.ok .cont loc H)=>v.wh c t b loc H|some (.ok .brk loc H)=>some<|.ok .next loc H
  |o=>o)
def By(c:bh)(t:Expr)(b:List Stmt)(loc:Loc)(H:aq):Tr RS:=jx (w.t c loc t H) loc λq H=>hF q (tb (gY w c b loc H)<|Ed v c t b)<|.ret<|some<|.ok .next loc H
noncomputable def Ft(c:bh)(t:Expr)(aY:V)(k:Nat)(b:List Stmt)(m:MS):Tr RS:=.ret (match m with
   |some (.ok .next loc H)=>v.fr c t aY (k+1) b loc H|some (.ok .cont loc H)=>v.fr c t aY (k+1) b loc H|some (.ok .brk loc H)=>some<|.ok .next loc H
   |o=>o)
def xB(c:bh)(t:Expr)(aY:V)(k:Nat)(b:List Stmt)(a:V)(loc:Loc)(H:aq):Tr RS:=tb (tS<|i' T v c t a loc H) λm=>sS m λloc H=>tb (gY w c b loc H)<|Ft v c t aY k b
end
noncomputable def qQ(m:MS)(k:Loc->aq->Tr (R<|List V)):Tr (R<|List V):=match m with|some (.ok .next loc H)=>k loc H|_=>.ret none
def uU(v:dQ)(w:qR)(c:bh)(loc:Loc)(x:Str)(f:Expr)(h:List Expr)(aY:V)(k:Nat)(U:List V)(a:V)(H:aq):Tr (R<|List V):=tb (tS<|f9 c x a loc H) λm=>qQ m λloc H=>qj (rx w c loc .And h H) λq H=>hF q (qj (w.e c loc f H) λb H=>hF (cq<|U.length+1) (.ret<|v.lc c loc x f h aY (k+1) (U++[b]) H)<|.ret none)<|.ret<|v.lc c loc x f h aY (k+1) U H
section
variable{v:dQ}{w:qR}(W:AZ v w)
include W
theorem t1(c)(loc):∀f H,run (nE w c loc f H)=ce v c loc f H:=by
 intro f;induction f with
 |nil=>intro _;exact rfl
 |cons x r h=>intro H;exact dm (W.e c loc x H) λ_ H=>dm (h H) λ_ _=>rfl
theorem xx(c)(loc):∀f h a H,run (su w c loc a f h H)=m' v c loc a f h H|[],_,_,_=>rfl|op::f,[],_,_=>rfl|op::f,x::h,a,H=>dm (W.e c loc x H) λb H=>pg rfl λC=>by unfold s0;rcases dB h;exact xn (xx c loc f h b H) rfl;rfl
theorem BF(c)(loc)(op):∀f H,run (vO w c loc op f H)=rL v c loc op f H|[],_=>rfl|[x],H=>W.e c loc x H|x::y::r,H=>dm (W.e c loc x H) λa H=>g1 λb=>Dn rfl<|BF c loc op (y::r) H
theorem yC(c)(loc)(op):∀f H,run (rx w c loc op f H)=lH v c loc op f H:=by
 intro f;induction f with
 |nil=>intro _;exact rfl
 |cons x r h=>intro H;exact dm (W.t c loc x H) λb H=>Dn rfl<|h H
theorem Bp(c)(loc)(x)(H):run (uW w c loc x H)=mz v c loc x H:=by rcases x with _|x;rfl;exact dm (W.e c loc x H) λ_ _=>rfl
omit W in
theorem Le(c)(loc)(x)(H):run (ui T c loc x H)=hr T c loc x H:=by
 unfold ui;have e:hr T c loc x H=ob (aB (sq x jv) none<|ob (aC x c.sc)<|Dl T loc x H) λa=>rt a H:=rfl;rcases bk:sq x jv
 .show run (Cb T c loc x H<|aC x c.sc)=_;have z:run (tM<|hr T c loc x H)=hr T c loc x H:=rfl;rcases h:aC x c.sc with _|k;exact z
  .induction k with
   |«local»=>refine Y e<|Y bk<|Y h ?_;show run (iw (Ac<|aC x loc) _)=ob (aC x loc) _;cases aC x loc<;>rfl
   |_=>exact z
 exact Y e<|Y bk rfl
theorem Ni(c)(loc)(x)(H):run (sa T O v w c loc x H)=ec T O v c loc x H:=by
 induction x using Expr.casesOn with
 |Name x p=>exact Le c loc x H|Attribute e m p=>exact kK<|dm (W.e c loc e H) λ_ _=>rfl
 |Subscript e i p=>unfold sa ec;dsimp only;rcases kC i with _|q;exact dm (W.e c loc e H) λ_ H=>dm (W.e c loc i H) λ_ _=>rfl;exact dm (W.e c loc e H) λ_ H=>dm (Bp W c loc q.1 H) λ_ H=>dm (Bp W c loc q.2 H) λ_ _=>rfl
 |Compare l f rs p=>exact kK<|dm (W.e c loc l H) λa H=>dm (xx W c loc f rs a H) λ_ _=>rfl
 |BoolOp op D p=>exact BF W c loc op D H|UnaryOp op x p=>cases op<;>first|rfl|exact dm (W.e c loc x H) λ_ _=>g1 λ_=>rfl
 |BinOp l op r p=>exact dm (W.e c loc l H) λ_ H=>dm (W.e c loc r H) λ_ _=>rfl|IfExp t a b p=>exact dm (W.t c loc t H) λ_ H=>xn (W.e c loc a H)<|W.e c loc b H
 |Tuple es u p=>exact kK<|dm (t1 W c loc es H) λ_ _=>rfl
 |List es p=>exact kK<|dm (t1 W c loc es H) λ_ _=>rfl
 |Call z args J p=>rcases J;unfold sa ec;dsimp only;rcases hU z with _|q;exact kK<|dm (W.e c loc z H) λ_ H=>dm (t1 W c loc args H) λ_ _=>kK rfl;exact kK<|dm (W.e c loc q.1 H) λa H=>Y (Gn ..)<|pg rfl λg=>dm (t1 W c loc args H) λ_ _=>rfl;rfl
 |ListComp h j sc p=>exact g1 λg=>kK<|g1 λcl=>dm (W.e c loc g.2.1 H) λaY H=>Du<|v2 rfl λ_ _=>rfl
 |_=>rfl
theorem Ax(c)(loc)(x)(H):run (vw<|w.e c loc x H)=bd (v.e c loc x H) λa H=>ob (kL a) λb=>rt b H:=dm (W.e c loc x H) λ_ _=>g1 λ_=>rfl
theorem Gz(c)(loc)(x)(H):run (Bg w c loc x H)=stepT v c loc x H:=by
 induction x using Expr.casesOn with
 |Compare l f rs p=>exact kK<|dm (W.e c loc l H) λa H=>xx W c loc f rs a H
 |UnaryOp op x p=>cases op<;>first|exact Ax W ..|exact dm (W.t c loc x H) λ_ _=>rfl
 |BoolOp op D p=>exact yC W c loc op D H|IfExp=>rfl|_=>exact Ax W ..
theorem kg(c):∀f loc H,run (gY w c f loc H)=cV v c f loc H:=by
 intro f;induction f with
 |nil=>intro _ _;exact rfl
 |cons x r h=>intro loc H;exact Ue (W.s c x loc H) λloc H=>h loc H
theorem L6(c)(i)(nm)(body)(loc)(H):run (CM w c i nm body loc H)=xR v c i nm body loc H:=by rcases nm with _|x;exact kg W ..;exact g1 λk=>r5<|pg (kg W ..) λ_=>rfl
theorem A4(c)(i)(E):∀f loc H,run (wN T w c i E f loc H)=qw T v c i E f loc H|[],_,_=>rfl|.ExceptHandler h nm body p::r,loc,H=>g1 λt=>g1 λy=>g1 λaa=>g1 λb=>by rcases b;exact A4 c i E r loc H;exact L6 W ..
theorem SS(c)(t)(a)(loc)(H):run (Ad T v w c t a loc H)=i' T v c t a loc H:=by
 induction t using Expr.casesOn with
 |Attribute e m p=>exact k9 (W.e c loc e H) λ_ _=>g1 λ_=>pg rfl λ_=>rfl|_=>rfl
theorem O9(c)(x)(loc)(H):run (AS T v w c x loc H)=ej T v c x loc H:=by
 induction x using Stmt.casesOn with
 |Expr e p=>exact r5<|k9 (W.e c loc e H) λ_ _=>rfl
 |Assign k e p=>exact g1 λt=>r5<|k9 (W.e c loc e H) λa H=>SS W c t a loc H
 |If t a b p=>exact k9 (W.t c loc t H) λ_ H=>xn (kg W c a loc H)<|kg W c b loc H
 |For t j b dK p=>rcases dK;exact r5 (k9 (W.e c loc j H) λaY H=>by show run (hF (eX aY H) _ _)=fV (eX aY H) _;cases eX aY H<;>rfl);rfl
 |Return x p=>rcases x with _|e;rfl;exact k9 (W.e c loc e H) λ_ _=>rfl
 |Raise x y p=>rcases x with _|e;rfl;rcases y;exact k9 (W.e c loc e H) λ_ _=>rfl;rfl
 |Try b f dK bp p=>
  rcases f with _|⟨h,f⟩;rfl
  .rcases dK
   .rcases bp
    .show run (tb (gY w c b loc H) λm=>Ec T w c (h::f) m)=x2 T v c (h::f) (cV v c b loc H);refine Y (i3 ..)<|Y (kg W ..) ?_;match cV v c b loc H with|none=>rfl|some (.ok ..)=>rfl|some (.exc i loc H)=>show run (iw (vz H[i]?) _)=tI T v c (h::f) i loc H H[i]?;unfold tI;rcases H[i]? with _|o;rfl;cases o<;>first|rfl|exact A4 W ..
    rfl
   rfl
 |_=>rfl
theorem ID(c)(t)(b)(loc)(H):run (By v w c t b loc H)=tD v c t b loc H:=k9 (W.t c loc t H) λq H=>by rcases q;rfl;show run (tb (gY w c b loc H)<|Ed v c t b)=_;exact Y (i3 ..)<|Y (kg W ..) rfl
theorem Mm(c)(t)(aY)(k)(b)(a)(loc)(H)(h:dC aY k H=some (some a)):run (xB T v w c t aY k b a loc H)=mn T v c t aY k b loc H:=by
 unfold xB mn;refine Y (i3 ..)<|Y h ?_;show run (sS (i' T v c t a loc H) _)=_;dsimp only;match i' T v c t a loc H with
 |none=>rfl|some (.exc ..)=>rfl|some (.ok z loc H)=>cases z<;>first|rfl|(show run (tb (gY w c b loc H) (Ft v c t aY k b))=_;exact Y (i3 ..) (Y (kg W ..) rfl))
theorem QP(c)(loc)(x)(j)(u)(aY)(k)(U)(a)(H)(h:dC aY k H=some (some a)):run (uU v w c loc x j u aY k U a H)=l9 v c loc x j u aY k U H:=by
 unfold uU l9;refine Y (i3 ..)<|Y h ?_;show run (qQ (f9 c x a loc H) _)=_;dsimp only;match f9 c x a loc H with
 |none=>rfl|some (.exc ..)=>rfl
 |some (.ok z loc H)=>
  cases z<;>first|rfl|skip
  refine v2 (yC W c loc .And u H) λq H=>?_;rcases q;rfl;exact v2 (W.e c loc j H) λb H=>Du rfl
end
def tv(T:cx)(O:ap)(n:Nat):qR:=Nat.rec ⟨λ_ _ _ _=>.ret none,λ_ _ _ _=>.ret none,λ_ _ _ _=>.ret none⟩ (λn w=>⟨sa T O (ev T O n) w,Bg w,AS T (ev T O n) w⟩) n
def oE(T)(O):∀n,AZ (ev T O n) (tv T O n):=by
 intro n;induction n with
 |zero=>exact⟨λ_ _ _ _=>rfl,λ_ _ _ _=>rfl,λ_ _ _ _=>rfl⟩|succ n f=>exact⟨Ni<|f,Gz<|f,O9<|f⟩
def t0(T:cx)(hd:Option Nat)(z:Addr)(fn:Fn):bh:=⟨fn.scope.names,hd,aB (Nat.beq z T.il) (some (T.gz,T.ge)) none⟩
def B6(T:cx)(hd:Option Nat)(z:Addr)(args:List V)(H:aq):Option (Loc×aq):=ob (bi z T.fns) λfn=>ob (fill fn.params.length fn.dz args) λD=>mb (t0 T hd z fn) fn.params D (eB fn.scope.names [] H).1 (eB fn.scope.names [] H).2
def xd(n:Nat)(T:cx)(O:ap)(hd:Option Nat)(z:Addr)(loc:Loc)(H:aq):Tr (R V):=gh (bi z T.fns) λfn=>iw (gY (tv T O n) (t0 T hd z fn) fn.body loc H) λq=>.ret<|pJ q
section
variable{T:cx}{O:ap}{n:Nat}{hd:Option Nat}{loc:Loc}{H:aq}
def oC{r:M V}(loc)(h:B6 T hd z args H=some (loc,H'))(e:run (xd n T O hd z loc H')=r):aF n T O hd (.fn z) args H=r:=by refine Y e.symm ?_;unfold xd;refine Y (g1 λfn=>pg (kg (oE T O n) ..) λ_=>rfl)<|aK h λfn f h=>aK h λD j h=>?_;show ob (bi z T.fns) _=_;refine Y f ?_;show ob (fill fn.params.length fn.dz args) _=_;refine Y j ?_;show ob (mb (t0 T hd z fn) fn.params D (eB fn.scope.names [] H).1 (eB fn.scope.names [] H).2) _=_;refine Y h ?_;rfl
def am{r:M V}(loc)(h:B6 T hd z args H=some (loc,H))(e:run (xd n T O hd z loc H)=r):aF n T O hd (.fn z) args H=r:=oC loc h e
def xk{r:M V}(h:(iu sc&&im sc.names&&m6 sc.names cl)=true)(e:run ((tv T O n).e ⟨sc.names,hd,none⟩ (db cl) x H)=r):aF n T O hd (.bX x sc cl) [] H=r:=by refine Y e.symm<|Y ((oE T O n).e ..) ?_;show as (iu sc&&im sc.names&&m6 sc.names cl) _=_;exact Y h rfl
def fB{r:MS}(e:run (By (ev T O n) (tv T O n) c t b loc H)=r):(ev T O<|n+1).wh c t b loc H=r:=by exact Y e.symm<|Y (ID (oE T O n) ..) rfl
def fc{r:MS}(h:dC aY k H=some (some a))(e:run (xB T (ev T O n) (tv T O n) c t aY k b a loc H)=r):(ev T O<|n+1).fr c t aY k b loc H=r:=by exact Y e.symm<|Y (Mm (oE T O n) _ _ _ _ _ _ _ _ h) rfl
def oZ{r:M (List V)}(h:dC aY k H=some (some a))(e:run (uU (ev T O n) (tv T O n) c loc x j u aY k U a H)=r):(ev T O<|n+1).lc c loc x j u aY k U H=r:=by exact Y e.symm<|Y (QP (oE T O n) _ _ _ _ _ _ _ _ _ _ h) rfl
def ou(h:dC aY k H=some none):(ev T O<|n+1).lc c loc x j u aY k U H=some (.ok U H):=by show l9 (ev T O n) c loc x j u aY k U H=_;unfold l9;exact Y h rfl
def kS(h:dC aY k H=some none):(ev T O<|n+1).fr c t aY k b loc H=some (.ok .next loc H):=by show mn T (ev T O n) c t aY k b loc H=_;unfold mn;exact Y h rfl
end
def dw(h:a<b):Nat.blt a b=true:=vJ h
def k0(h:¬b=true):b=false:=by induction b with|true=>exact absurd rfl h|false=>rfl
def kN(h:b<=a):Nat.blt a b=false:=k0 λe=>oj _<|cu (bG e) h
def hY{b:Nat}(h:a<=b):Nat.ble a b=true:=vJ h
def Ez{b:Nat}(h:b<a):Nat.ble a b=false:=k0 λe=>oj _<|cu h<|bG e
def nh{b:Nat}(h:a=b):Nat.beq a b=true:=by subst h;exact em a
def it{b:Nat}(h:a≠b):Nat.beq a b=false:=k0 λe=>h<|cd e
def g9(h:n<=1000000):cq n=true:=hY<|av h<|by decide
def kh{n:Nat}(h:n<=1000000):c9 (n:Int)=true:=dw<|e9 h<|by decide
def qF{b:Nat}(h:b<=a):(a:Int)-(b:Int)=((a-b:Nat):Int):=(Int.ofNat_sub h).symm
def gs{f:Type}{x r:List f}{c:f}(aE:x.drop k=c::r):x[k]? =some c/\x.drop (k+1)=r/\k<x.length:=by
 have h:x[k]? =some c:=by refine Y List.head?_drop.symm<|Y aE ?_;rfl
 exact e6 h (by exact Y List.tail_drop.symm<|Y aE rfl)<|(b4.mp h).1
def oz{f:Type}{x:List f}(aE:x.drop k=[]):x.length<=k:=List.drop_eq_nil_iff.mp aE
def gV{f:Type}{x r:List f}(aE:x.drop k=r)(aP:k<=x.length):x.length=k+r.length:=Y aE.symm<|Y b9<|Y (ly aP) rfl
def el{l:Loc}:aC x (put x v l)=some v:=Y (iP ..)<|Y (bZ rfl) rfl
def ia{k:Nat}(h:x.drop k=c::r):oM (.str x) (.int k) H=some (.ok (.str [c]) H):=by refine cZ (gs h) λf _ u=>?_;show ob (ob (match Nat.blt k x.length with|true=>some k|false=>none) λj=>ob x[j]? λc=>some<|V.str [c]) (λr=>rt r H)=_;refine Y (dw u) ?_;show ob (ob x[k]? λc=>some<|V.str [c]) (λr=>rt r H)=_;exact Y f rfl
def Cp{x:List Nat}(h:x.drop k=c::r):cN .Lt (.int k) (.int (x.length:Nat)) H=some true:=az some<|dw (gs h).2.2
def wo{x:List Nat}(h:x.drop k=[]):cN .Lt (.int k) (.int (x.length:Nat)) H=some false:=az some<|kN<|oz h
def gj{k:Nat}(h:x.drop k=r)(aP:k<=x.length):e8 q7 x [.str y,.int k] H=some (.ok (.bool<|pre y r) H):=by show rt (V.bool<|Nat.ble k x.length&&pre y (x.drop k)) H=_;exact Y (hY aP)<|Y h rfl
def pZ{n:Nat}(h:i<=n):d8 i n=i:=by show(match Nat.ble i n with|true=>i|false=>n)=i;exact Y (hY h) rfl
def Uy{n:Nat}(h:n<i):d8 i n=n:=by show(match Nat.ble i n with|true=>i|false=>n)=n;exact Y (Ez h) rfl
def bg:Nat:=100000
def qe:bg<=1000000:=by decide
def sA{k:Nat}(h:x.drop k=r)(aP:k<=x.length)(aE:x.length<=bg)(hm:m<=bg):h5 (.str x) (some<|.int k) (some<|.int ((k+m:Nat):Int)) H=some (.ok (.str<|r.take m) H):=by
 have e:gN (.str x) (some<|.int k) (some<|.int ((k+m:Nat):Int))=some (.str<|r.take m):=by show aB (c9 (k:Int)&&c9 ((k+m:Nat):Int)) (some<|V.str<|fM (d8 k x.length) (d8 ((k+m:Nat):Int) x.length) x) none=_;refine Y (kh<|av aP<|av aE qe)<|Y (kh<|av (mO (av aP aE) hm)<|by decide)<|Y (pZ aP) ?_;show some (V.str<|fM k (d8 ((k+m:Nat):Int) x.length) x)=_;have hl:=gV h aP;unfold fM;refine Y h ?_;rcases dJ x.length (k+m)with q|q;exact Y (Uy q)<|Y (n7<|a7 (a4 hl.symm) (cn x.length k)<|by simp+arith)<|Y (n7<|a7 (a4 hl.symm) q<|by simp+arith) rfl;exact Y (pZ q)<|Y (ez ..) rfl
 unfold h5;exact Y e rfl
def Jc{k:Nat}(h:x.drop k=r)(aP:k<=x.length)(aE:x.length<=bg):h5 (.str x) (some<|.int k) none H=some (.ok (.str r) H):=by
 have e:gN (.str x) (some<|.int k) none=some (.str r):=by show aB (c9 (k:Int)) (some<|V.str<|fM (d8 k x.length) x.length x) none=_;refine Y (kh<|av aP<|av aE qe)<|Y (pZ aP) ?_;unfold fM;refine Y h<|Y (n7<|by rw[<-h,b9];exact ba _) ?_;rfl
 unfold h5;exact Y e rfl
def qC(T:cx)(z:Addr):Fn:=match bi z T.fns with|some x=>x|none=>⟨[],[],[],⟨.function,[],false,false,[]⟩⟩
def fO(z:Addr)(i:Nat):Stmt:=((qC tab z).body[i]?).getD<|.Pass ⟨0,0,0,0⟩
noncomputable def Ds:Stmt->Expr|.While t _ _ _=>t|.For t _ _ _ _=>t|_=>.Constant .none 0 ⟨0,0,0,0⟩
noncomputable def t9:Stmt->List Stmt|.While _ b _ _=>b|.For _ _ b _ _=>b|_=>[]
def dg(z:Addr):bh:=t0 tab none z<|qC tab z
abbrev d0(O:ap)(j z i:Nat)(loc:Loc)(H:aq):MS:=(ev tab O j).wh (dg z) (Ds<|fO z i) (t9<|fO z i) loc H
abbrev bu(O:ap)(j z i:Nat)(aY:V)(k:Nat)(loc:Loc)(H:aq):MS:=(ev tab O j).fr (dg z) (Ds<|fO z i) aY k (t9<|fO z i) loc H
abbrev dv(O:ap)(z:Addr)(D:List V)(H:aq)(r:V)(H':aq):Prop:=O none (.fn z) D H=some (.ok r H')
abbrev Do(j:Nat)(O:ap)(z:Addr)(D:List V)(H:aq)(r:V)(H':aq):Prop:=aF (j+60) tab O none (.fn z) D H=some (.ok r H')
noncomputable abbrev bb:Str:=⟨#[116,101,120,116]⟩
noncomputable abbrev cI:Str:=⟨#[97,116]⟩
noncomputable abbrev b7:Str:=⟨#[112,108,97,99,101]⟩
noncomputable abbrev JF:Str:=⟨#[104,101,108,100]⟩
noncomputable abbrev e':Str:=⟨#[115,101,101,110]⟩
noncomputable abbrev bo:Str:=⟨#[115,101,108,102]⟩
noncomputable abbrev io:Str:=⟨#[112,97,114,116]⟩
noncomputable abbrev e2:Str:=⟨#[105,115,95,108,97,115,116]⟩
noncomputable abbrev eD:Str:=⟨#[107,105,110,100]⟩
noncomputable abbrev pU:Str:=⟨#[101,110,100]⟩
noncomputable abbrev Fd:Str:=⟨#[112,105,101,99,101]⟩
noncomputable abbrev ph:Str:=⟨#[102,111,117,110,100]⟩
noncomputable abbrev uy:Str:=⟨#[113,117,111,116,101]⟩
noncomputable abbrev ie:Str:=⟨#[115,105,103,110]⟩
noncomputable abbrev lZ:Str:=⟨#[119,111,114,100]⟩
noncomputable abbrev tU:Str:=⟨#[115,116,97,114,116]⟩
noncomputable abbrev uh:Str:=⟨#[98,101,103,105,110]⟩
noncomputable abbrev zP:Str:=⟨#[101,110,100,105,110,103]⟩
noncomputable abbrev kj:Str:=⟨#[101,118,101,110,116]⟩
noncomputable abbrev pe:Str:=⟨#[112,97,114,116,115]⟩
noncomputable abbrev h8:Str:=⟨#[101,118,101,110,116,115]⟩
noncomputable abbrev mq:Str:=⟨#[99,111,110,116,101,110,116]⟩
noncomputable abbrev lX:Str:=⟨#[111,110,95,100,111,99,116,121,112,101]⟩
noncomputable abbrev k6:Str:=⟨#[112,105,101,99,101,115]⟩
noncomputable abbrev mg:Str:=⟨#[115,116,97,103,101]⟩
noncomputable abbrev lV:Str:=⟨#[104,97,115,95,100,111,99,116,121,112,101]⟩
noncomputable abbrev mJ:Str:=⟨#[102,97,117,108,116]⟩
noncomputable abbrev dR:Str:=⟨#[109,101,115,115,97,103,101]⟩
noncomputable abbrev eJ:Str:=⟨#[101,110,116,105,116,105,101,115]⟩
noncomputable abbrev eR:Str:=⟨#[103,114,111,119,116,104]⟩
noncomputable abbrev iz:Str:=⟨#[110,97,109,101,115]⟩
noncomputable abbrev eh:Str:=⟨#[108,105,109,105,116,115]⟩
noncomputable abbrev ko:Str:=⟨#[111,117,116,101,114]⟩
noncomputable abbrev jg:Str:=⟨#[103,101,110,101,114,97,108]⟩
noncomputable abbrev kR:Str:=⟨#[112,97,114,97,109,101,116,101,114,115]⟩
noncomputable abbrev iX:Str:=⟨#[109,111,115,116,95,100,101,112,116,104]⟩
noncomputable abbrev iy:Str:=⟨#[109,111,115,116,95,115,105,122,101]⟩
noncomputable abbrev gU:Str:=⟨#[115,105,122,101]⟩
noncomputable abbrev gZ:Str:=⟨#[111,112,101,110]⟩
noncomputable abbrev ji:Str:=⟨#[110,97,109,101]⟩
noncomputable abbrev jK:Str:=⟨#[116,111,108,100]⟩
noncomputable abbrev gL:Str:=⟨#[115,116,114,101,97,109]⟩
noncomputable abbrev g':Str:=⟨#[109,111,114,101]⟩
noncomputable abbrev uT:Str:=⟨#[99,97,108,108]⟩
noncomputable abbrev hW:Str:=⟨#[115,111,117,114,99,101]⟩
noncomputable abbrev OK:Str:=⟨#[116,104,105,110,103,115]⟩
noncomputable abbrev j9:Str:=⟨#[115,99,114,105,112,116]⟩
noncomputable abbrev fj:Str:=⟨#[107]⟩
noncomputable abbrev u4:Str:=⟨#[99,101,108,108]⟩
noncomputable abbrev GQ:Str:=⟨#[98,105,103]⟩
noncomputable abbrev HX:Str:=⟨#[109,105,120,101,100]⟩
noncomputable abbrev BA:Str:=⟨#[116,111,112]⟩
noncomputable abbrev o8:Str:=⟨#[112,108,97,99,101,115]⟩
noncomputable abbrev nX:Str:=⟨#[116,117,114,110]⟩
noncomputable abbrev xp:Str:=⟨#[115,111,109,101]⟩
noncomputable abbrev xe:Str:=⟨#[100,117,101]⟩
noncomputable abbrev Bc:Str:=⟨#[105,110,110,101,114]⟩
noncomputable abbrev QH:Str:=⟨#[109,97,110,121]⟩
noncomputable abbrev uo:Str:=⟨#[99,111,100,101]⟩
noncomputable abbrev xC:Str:=⟨#[114,97,110,103,101,115]⟩
noncomputable abbrev hK:Str:=⟨#[108,111,119]⟩
noncomputable abbrev hG:Str:=⟨#[104,105,103,104]⟩
noncomputable abbrev xF:Str:=⟨#[118,97,108,117,101]⟩
noncomputable abbrev E':Str:=⟨#[101,110,116,105,116,121]⟩
noncomputable abbrev NR:Str:=⟨#[97,103,97,105,110]⟩
noncomputable abbrev If:Str:=⟨#[114,101,97,100]⟩
noncomputable abbrev ao:List Nat:=[116,101,120,116]
noncomputable abbrev d6:List Nat:=[115,116,97,114,116]
noncomputable abbrev hD:List Nat:=[101,110,100]
noncomputable abbrev dP:List Nat:=[114,101,102,101,114,101,110,99,101]
noncomputable abbrev cP:List Nat:=[119,114,111,110,103]
noncomputable abbrev gf:List Nat:=[99,100,97,116,97]
noncomputable abbrev rq:List Nat:=[99,111,109,109,101,110,116]
noncomputable abbrev ig:List Nat:=[100,111,99,116,121,112,101]
noncomputable abbrev d7:List Nat:=[60,33,45,45]
noncomputable abbrev dq:List Nat:=[60,33,91,67,68,65,84,65,91]
noncomputable abbrev dt:List Nat:=[60,33,68,79,67,84,89,80,69]
def fA(c:Nat):Bool:=(bq [c] [60,38]).isSome
noncomputable def aI:List Nat->Nat|[]=>0|c::r=>aB (fA c) 0<|aI r+1
section
variable{O:ap}{H:aq}
theorem AC:∀r(k j:Nat),x.drop k=r->r.length<=j->d0 O (j+10) 554 0 [(bb,.str x),(cI,.int k)] H=some (.ok .next [(bb,.str x),(cI,.int (k+aI r:Nat))] H)
 |[],k,j,aE,_=>by have u:=wo (H:=H) aE;clear aE;exact fB<|sk 4<|aj Q.c u rfl rfl
 |c::r,k,j+1,aE,y=>by have u:=Cp (H:=H) aE;have f:=ia (H:=H) aE;have z:=AC r (k+1) j (gs aE).2.1<|iV y;clear aE y;simp only[aI];rcases h:fA c;exact Y (show k+aB false 0 (aI r+1)=k+1+aI r from(Nat.succ_add_eq_add_succ k _).symm)<|fB<|sk 4<|aj Q.c u rfl<|sk 3<|aj Q.m f rfl<|aj (λb=>Q.c<|some<|!b) h rfl z;exact fB<|sk 4<|aj Q.c u rfl<|sk 3<|aj Q.m f rfl<|aj (λb=>Q.c<|some<|!b) h rfl rfl
def RR{k:Nat}(aE:x.drop k=r)(f:r.length<=j):Do j O 554 [.str x,.int k] H (.int (k+aI r:Nat)) H:=by have l:=AC (O:=O) (H:=H) r k (j+49) aE<|av f<|bE ..;clear aE;exact am [(bb,V.str x),(cI,V.int ↑k)] rfl<|aj Q.s l rfl rfl
end
def BO(h:x.length<y.length):pre y x=false:=k0 λe=>oj _<|cu h<|kf e
def kJ:∀{x},y.length<=x.length->pre y (x++a)=pre y x:=by
 intro x h;have:(pre y (x++a)=true)=(pre y x=true):=by rw[iM,iM,DM h]
 exact gM.mpr<|iff_of_eq this
def DH{k:Nat}(h:x.drop k=r)(aP:k<=x.length):e8 qd x [.str y,.int k] H=some (.ok (.bool<|b2 r y) H):=by
 show rt (V.bool<|Nat.ble (k+y.length) x.length&&b2 x y) H=_;have hl:=gV h aP;have aE:x=x.take k++r:=Y h.symm<|Y (nx ..) rfl;rcases dJ r.length y.length with q|q
 .refine Y (Ez<|by rw[hl];exact Nat.add_lt_add_left q k) ?_;have:b2 r y=false:=BO<|by refine Y fS<|Y fS ?_;exact q
  exact Y this rfl
 .refine Y (hY<|by rw[hl];exact e3 q k) ?_;have:b2 x y=b2 r y:=by
   unfold b2;conv=>lhs;rw[aE,r2]
   exact kJ<|by refine Y fS<|Y fS ?_;exact q
  exact Y this rfl
def bS(r:List Nat):Nat:=aB (b2 r [93,93]) 2<|aB (b2 r [93]) 1 0
def eF(r w:List Nat):Bool:=aB (Nat.blt r.length w.length) (pre r w) false
noncomputable def oK(k:Nat):Option Nat->V|none=>.none|some e=>.int (k+e:Nat)
def iJ(r w:List Nat):Option Nat:=(bq w r).map (·+w.length)
def yM{k:Nat}(h:x.drop k=r)(f:Nat.ble 1 y.length=true):e8 mu x [.str y,.int k] H=some (.ok (.int<|hj<|(bq y r).map (·+k)) H):=by show as (Nat.ble 1 y.length) (rt (V.int<|hj<|(bq y<|x.drop k).map (·+k)) H)=_;exact Y f<|Y h rfl
def SU{k:Nat}(aE:x.drop k=r)(aP:k<=x.length):Do j O 561 [.str x,.int k] H (.int<|bS r) H:=by have f:=DH (y:=[93,93]) (H:=H) aE aP;have h:=DH (y:=[93]) (H:=H) aE aP;clear aE aP;unfold bS;exact am [(bb,V.str x),(cI,V.int ↑k)] rfl<|sk 3<|aj Q.m f rfl<|oO (λ(C:Nat)=>some<|R.ok (V.int ↑C) H) _ rfl (λu=>rfl) λu=>(sk 3<|aj Q.m h rfl<|oO (λ(C:Nat)=>some<|R.ok (V.int ↑C) H) _ rfl (λz=>rfl) λz=>rfl)
def FN:Do j O 505 [.str r,.str w] H (.bool<|eF r w) H:=by unfold eF;exact am [(bb,V.str r),(lZ,V.str w)] rfl<|sk 6<|rl (λ(C:Bool)=>some<|R.ok (V.bool C) H) _ rfl (λf=>rfl) λf=>rfl
def K1{k:Nat}(aE:x.drop k=r)(u:Nat.ble 1 w.length=true):Do j O 512 [.str x,.str w,.int k] H (oK k<|iJ r w) H:=by have f:=yM (H:=H) aE u;clear aE u;unfold iJ;revert f;rcases h:bq w r with _|e;intro f;exact am [(bb,V.str x),(lZ,V.str w),(tU,V.int ↑k)] rfl<|sk 4<|aj Q.m f rfl rfl;intro f;show Do j O 512 [.str x,.str w,.int k] H (.int (k+(e+w.length):Nat)) H;exact Y (cz ..).symm<|Y (cF k e)<|am [(bb,V.str x),(lZ,V.str w),(tU,V.int ↑k)] rfl<|sk 4<|aj Q.m f rfl rfl
inductive Seen where|no|pos (z:Nat)|tag (z:Nat) (q:List Nat)
noncomputable def Seen.aA:Seen->V|.no=>.none|.pos z=>.tup [.int z,.none]|.tag z q=>.tup [.int z,.str q]
noncomputable def Seen.fr(d:Nat):Seen->Nat|.no=>d|.pos z=>z|.tag z _=>z
noncomputable def Seen.hb:Seen->Bool|.tag _ _=>true|_=>false
def bQ(r w:List Nat)(z:Nat):Option Nat:=(iJ (r.drop z) w).map (z+·)
def Av:oK (k+z) o=oK k (o.map (z+·)):=by rcases o with _|e;rfl;exact az (λn:Nat=>V.int n)<|cz k z e
noncomputable def cE(r w:List Nat)(z:Nat):Seen:=.pos<|max z<|r.length+1-w.length
def RF{w L:Nat}(hl:L=k+r):ku ((k+z:Nat):Int) ((L:Int)-(w:Int)+((1:Nat):Int))-(k:Int)=((max z (r+1-w):Nat):Int):=by
 subst hl;have c:(((k+r:Nat):Int)-(w:Int)+((1:Nat):Int))-(k:Int)=((r+1:Nat):Int)-(w:Int):=by simp+arith
 unfold ku;rcases q:du ((k+z:Nat):Int) (((k+r:Nat):Int)-(w:Int)+((1:Nat):Int))
 .rw[ib,DB]at q;have q:=Int.sub_le_sub_right (hH.mp q) (k:Int);rw[c]at q;have f:((k+z:Nat):Int)-(k:Int)=z:=by rw[Int.natCast_add,s8,Int.add_sub_cancel]
  rw[f]at q;rw[Nat.max_eq_left<|C6.mpr<|n0.mp<|Int.le_add_of_sub_right_le q];exact f
 rw[ib,gE]at q;have q:=Int.sub_lt_sub_right q (k:Int);rw[c,show((k+z:Nat):Int)-(k:Int)=z by rw[Int.natCast_add,s8,Int.add_sub_cancel]]at q;have q:=fl<|hQ.mp<|Int.add_lt_of_lt_sub_right q;rw[Nat.max_eq_right<|Nat.le_sub_of_add_le q];exact c.trans (Int.ofNat_sub<|av (bR ..) q).symm
def UC{x w:List Nat}(aE:x.drop k=r)(aP:k<=x.length):bin .Sub (.int<|ku ((k+z:Nat):Int)<|(x.length:Int)-(w.length:Int)+((1:Nat):Int)) (.int k) H=some (.ok (.int (max z (r.length+1-w.length):Nat)) H):=az (λC=>some<|R.ok (V.int C) H) (RF<|gV aE aP)
abbrev gm:=List Nat×Option Nat×Seen
def wl(k:Nat)(z:gm):V:=.tup [.str z.1,oK k z.2.1,z.2.2.aA]
def Gw(rB:∀{x r w:List Nat}{k:Nat}(H:aq),x.drop k=r->Nat.ble 1 w.length=true->dv O 512 [.str x,.str w,.int k] H (oK k<|iJ r w) H){d k:Nat}{s:Seen}(aE:x.drop k=r)(aP:k<=x.length)(h:Nat.ble 1 w.length=true)(f:s.hb=false):Do j O 519 [.str x,.str w,.int d,.int k,s.aA] H (.tup [oK k<|bQ r w<|s.fr d,(cE r w<|s.fr d).aA]) H:=by
 have m:∀z,dv O 512 [.str x,.str w,.int (k+z:Nat)] H (oK k<|bQ r w z) H:=λz=>by have:=rB (x:=x) (r:=r.drop z) (w:=w) (k:=k+z) H (Y aE.symm<|Y eY rfl) h;rwa [Av]at this
 have e:∀z,_:=λz=>UC (w:=w) (z:=z) (H:=H) aE aP;clear aE aP h rB;rcases s with _|z|⟨z,q⟩;have aw:=m d;have e1:=e d;clear m e f;exact am [(bb,V.str x),(lZ,V.str w),(tU,V.int ↑d),(cI,V.int ↑k),(e',V.none)] rfl<|sk 11<|aj Q.m aw rfl<|sk 12<|aj Q.m e1 rfl rfl;have aw:=m z;have e1:=e z;clear m e f;exact am [(bb,V.str x),(lZ,V.str w),(tU,V.int ↑d),(cI,V.int ↑k),(e',V.tup [V.int ↑z,V.none])] rfl<|sk 12<|aj Q.m aw rfl<|sk 12<|aj Q.m e1 rfl rfl;exact ff<|f.symm
def Uo(gO:∀{x r w:List Nat}{d k:Nat}{s:Seen}(H:aq),x.drop k=r->k<=x.length->Nat.ble 1 w.length=true->s.hb=false->dv O 519 [.str x,.str w,.int d,.int k,s.aA] H (.tup [oK k<|bQ r w<|s.fr d,(cE r w<|s.fr d).aA]) H){k:Nat}{s:Seen}(aE:x.drop k=r)(aP:k<=x.length)(hd:ar kd ig=false)(he:Nat.ble 1 e.length=true)(f:s.hb=false):Do j O 540 [.str x,.str w,.str kd,.str e,.int k,s.aA] H (wl k (kd,bQ r e<|s.fr w.length,cE r e<|s.fr w.length)) H:=by have m:=gO (d:=w.length) H aE aP he f;clear aE aP he f gO;exact am [(bb,V.str x),(lZ,V.str w),(eD,V.str kd),(zP,V.str e),(cI,V.int ↑k),(e',s.aA)] rfl<|sk 1<|aj (λb=>Q.c<|some b) hd rfl<|sk 10<|aj Q.m m rfl rfl
abbrev Tg:=Option Nat×Nat×List Nat
noncomputable def up(n:Nat)(t:Tg):Tg:=(t.1.map (n+·),n+t.2.1,t.2.2)
noncomputable def bw:List Nat->List Nat->Tg
 |[],q=>(none,0,q)
 |c::r,q=>match q with
  |f::q=>up 1<|aB (Nat.beq f c) (bw r [])<|bw r<|f::q
  |[]=>aB (bq [c] [34,39]).isSome (up 1<|bw r [c])<|aB (ar [c] [62]) (some 1,0,[])<|aB (ar [c] [60]) (some 0,0,[])<|up 1<|bw r []
def hu(k:Nat)(t:Tg):V:=.tup [oK k t.1,.int (k+t.2.1:Nat),.str t.2.2]
def uq:up m (up n t)=up (m+n) t:=by obtain⟨o,z,q⟩:=t;unfold up;refine Y (cz ..) ?_;rcases o with _|e;rfl;show(some<|m+(n+e),_)=(some<|m+n+e,_);exact Y (cz ..) rfl
def qk:hu k (up n t)=hu (k+n) t:=by unfold hu;refine Y Av ?_;unfold up;exact Y (cz ..) rfl
def G6(f:Nat):∀(r:List Nat),bw r [f]=match bq [f] r with|none=>(none,r.length,[f])|some i=>up (i+1) (bw (r.drop<|i+1) []):=by
 intro r;induction r with
 |nil=>exact rfl
 |cons c r h=>
  show up 1 (aB (Nat.beq f c) (bw r [])<|bw r [f])=_;have z:bq [f] (c::r)=match Nat.beq f c with|true=>some 0|false=>(bq [f] r).map (·+1):=by show(match pre [f] (c::r)with|true=>some 0|false=>(bq [f] r).map (·+1))=_;show(match(match Nat.beq f c with|true=>true|false=>false)with|true=>some 0|false=>(bq [f] r).map (·+1))=_;cases Nat.beq f c<;>rfl
  refine Y z ?_;rcases Nat.beq f c;show up 1 (bw r [f])=_;refine Y (h) ?_;rcases bq [f] r with _|i;show(none,1+r.length,[f])=(none,r.length+1,[f]);exact Y (cF ..) rfl;show up 1 (up (i+1) _)=up (i+1+1) _;exact Y uq<|Y (cF 1 ..) rfl;rfl
def II(h:bq [f] r=some i):i<r.length:=by refine cZ (jZ h) λ_ C _=>?_;have:=kf C;rw[b9]at this;exact Nat.lt_of_sub_pos this
def eU(x:List Nat)(k:Nat)(q:List Nat)(tl:Loc):Loc:=(bb,.str x)::(cI,.int k)::(uy,.str q)::tl
section
variable{O:ap}{H:aq}
def gG(O:ap)(j:Nat)(x:List Nat)(k:Nat)(q:List Nat)(tl:Loc)(H:aq)(v:V):Prop:=(∃f,d0 O j 526 0 (eU x k q tl) H=some (.ok (.ret v) f H))\/∃h u y,d0 O j 526 0 (eU x k q tl) H=some (.ok .next (eU x h u y) H)/\v=.tup [.none,.int h,.str u]
def gG.step(h:d0 O (j+1) 526 0 (eU x k q tl) H=d0 O j 526 0 (eU x f u y) H)(g:gG O j x f u y H v):gG O (j+1) x k q tl H v:=by unfold gG;exact Y h g
def JM:∀j r q k tl,x.drop k=r->k<=x.length->r.length<=j->q.length<=1->gG O (j+20) x k q tl H (hu k<|bw r q):=by
 intro j;induction j with
 |zero=>intro r q k tl aE aP J bk;obtain rfl:=se<|Nat.le_zero.mp J;have N:=wo (H:=H) aE;refine .inr ⟨k,q,tl,?_,rfl⟩;clear aE aP J bk;unfold eU;exact fB<|sk 4<|aj Q.c N rfl rfl
 |succ j T=>
  intro r q k tl aE aP J bk;rcases r with _|⟨c,r⟩;have N:=wo (H:=H) aE;refine .inr ⟨k,q,tl,?_,rfl⟩;clear aE aP J bk T;unfold eU;exact fB<|sk 4<|aj Q.c N rfl rfl
  .have N:=Cp (H:=H) aE;have u:=ia (H:=H) aE;have f:=el (x:=ie) (v:=.str [c]) (l:=tl);refine cZ (gs aE) λ_ hd hl=>?_;have U:=λq tl bk=>T r q (k+1) tl hd hl (iV J) bk;rcases q with _|⟨W,q⟩;show gG _ _ _ _ _ _ _ (hu k<|aB (bq [c] [34,39]).isSome (up 1<|bw r [c])<|aB (ar [c] [62]) (some 1,0,[])<|aB (ar [c] [60]) (some 0,0,[])<|up 1<|bw r []);rcases D:(bq [c] [34,39]).isSome;rcases C:ar [c] [62];rcases E:ar [c] [60];show gG _ _ _ _ _ _ _ (hu k<|up 1 _);refine Y qk<|gG.step ?_<|U [] (put ie (.str [c]) tl)<|bJ 1;clear T U aE aP J bk hd hl;unfold eU;exact fB<|sk 4<|aj Q.c N rfl<|sk 3<|aj Q.m u rfl<|sk 4<|aj Q.v f rfl<|sk 1<|aj (λb=>Q.c<|some b) D rfl<|sk 1<|aj Q.v f rfl<|aj (λb=>Q.c<|some b) C rfl<|sk 1<|aj Q.v f rfl<|aj (λb=>Q.c<|some b) E rfl rfl;refine .inl ⟨eU x k []<|put ie (.str [c]) tl,?_⟩;clear T U aE aP J bk hd hl;unfold eU;exact fB<|sk 4<|aj Q.c N rfl<|sk 3<|aj Q.m u rfl<|sk 4<|aj Q.v f rfl<|sk 1<|aj (λb=>Q.c<|some b) D rfl<|sk 1<|aj Q.v f rfl<|aj (λb=>Q.c<|some b) C rfl<|sk 1<|aj Q.v f rfl<|aj (λb=>Q.c<|some b) E rfl rfl;refine .inl ⟨eU x k []<|put ie (.str [c]) tl,?_⟩;clear T U aE aP J bk hd hl;unfold eU;exact fB<|sk 4<|aj Q.c N rfl<|sk 3<|aj Q.m u rfl<|sk 4<|aj Q.v f rfl<|sk 1<|aj (λb=>Q.c<|some b) D rfl<|sk 1<|aj Q.v f rfl<|aj (λb=>Q.c<|some b) C rfl rfl;show gG _ _ _ _ _ _ _ (hu k<|up 1 _);refine Y qk<|gG.step ?_<|U [c] (put ie (.str [c]) tl)<|ba 1;clear T U aE aP J bk hd hl;unfold eU;exact fB<|sk 4<|aj Q.c N rfl<|sk 3<|aj Q.m u rfl<|sk 4<|aj Q.v f rfl<|sk 1<|aj (λb=>Q.c<|some b) D rfl<|sk 1<|aj Q.v f rfl rfl
   .induction q using List.casesOn with
    |cons=>exact absurd (iV bk)<|jT _
    |nil=>
    have z:=yM (y:=[W]) (H:=H) aE rfl;refine Y (G6 ..) ?_;rcases h:bq [W] (c::r)with _|i
    .rw[h]at z;have e:cN .Lt (.int<|hj<|Option.map (·+k) none) (.int ((0:Nat):Int)) H=some true:=rfl;have he:=el (x:=pU) (v:=.int<|hj<|Option.map (·+k) none) (l:=put ie (.str [c]) tl);have hv:hu k (none,(c::r).length,[W])=.tup [.none,.int (x.length:Nat),.str [W]]:=by exact Y (gV aE aP) rfl
     show gG _ _ _ _ _ _ _<|hu k (none,(c::r).length,[W]);refine Y hv<|.inl ⟨eU x k [W]<|put pU (.int<|hj<|Option.map (·+k) none)<|put ie (.str [c]) tl,?_⟩;clear T U aE aP J bk hd hl hv h;unfold eU;exact fB<|sk 4<|aj Q.c N rfl<|sk 3<|aj Q.m u rfl<|sk 8<|aj Q.m z rfl<|sk 1<|aj Q.v he rfl rfl
    .rw[h]at z;have I:=II h;have he:=el (x:=pU) (v:=.int<|hj<|(some i).map (·+k)) (l:=put ie (.str [c]) tl);have S:d0 O (j+1+20) 526 0 (eU x k [W] tl) H=d0 O (j+20) 526 0 (eU x (i+k+1) []<|put pU (.int ((i+k:Nat):Int))<|put ie (.str [c]) tl) H:=by clear T U aE aP J bk hd hl h I;unfold eU;exact fB<|sk 4<|aj Q.c N rfl<|sk 3<|aj Q.m u rfl<|sk 8<|aj Q.m z rfl<|sk 1<|aj Q.v he rfl<|sk 2<|aj Q.v he rfl rfl
     show gG _ _ _ _ _ _ _<|hu k<|up (i+1)<|bw ((c::r).drop<|i+1) [];refine Y qk ?_;have e:i+k+1=k+(i+1):=by exact Y (cF i k) rfl
     refine gG.step S<|Y e<|T _ [] _ _ (Y aE.symm<|Y eY rfl) ?_ ?_<|bJ _;exact Y (gV aE aP)<|e3 I k;exact Y b9<|av (Nat.sub_le_sub_left (bR 1 i) _)<|iV J
def MY{k:Nat}(aE:x.drop k=r)(aP:k<=x.length)(bk:q.length<=1)(h:r.length<=j):Do j O 526 [.str x,.int k,.str q] H (hu k<|bw r q) H:=by have l:=JM (O:=O) (H:=H) (j+39) r q k [] aE aP (av h<|bE ..) bk;clear aE aP bk h;unfold gG at l;generalize hu k (bw r q)=v at l⊢;unfold eU at l;rcases l with⟨f,l⟩|⟨u,y,z,l,rfl⟩;exact am [(bb,V.str x),(cI,V.int ↑k),(uy,V.str q)] rfl<|aj Q.s l rfl rfl;exact am [(bb,V.str x),(cI,V.int ↑k),(uy,V.str q)] rfl<|aj Q.s l rfl rfl
end
def gB(r:List Nat):Seen->Tg
 |.tag z q=>up z<|bw (r.drop z) q
 |_=>up 1<|bw (r.drop 1) []
def iI(t:Tg):gm:=(d6,t.1,.tag t.2.1 t.2.2)
def eb(r:List Nat)(s:Seen):Option gm:=
 aB (eF (r.take 4) d7) none (aB (pre dq r) (some (gf,bQ r [93,93,62]<|s.fr 9,cE r [93,93,62]<|s.fr 9))
  (aB (eF (r.take 9) dq) none (aB (eF (r.take 9) dt) none (aB (pre [60,47] r) (some (hD,bQ r [62]<|s.fr 2,cE r [62]<|s.fr 2))
   (aB (pre [60,33] r) (some (cP,some r.length,.no))<|some<|iI<|gB r s)))))
def xt(k:Nat):Option gm->V|none=>.none|some z=>wl k z
def ln(r:List Nat)(s:Seen):Prop:=(pre dq r=true->s.hb=false)/\(pre [60,47] r=true->s.hb=false)/\(match s with|.tag z q=>q.length<=1/\z<=r.length|.pos _=>pre dq r=true\/pre [60,47] r=true|.no=>True)
noncomputable abbrev gP:V:=.tup [.tup [.str [60,33,45,45],.str [99,111,109,109,101,110,116],.str [45,45,62]],.tup [.str [60,33,91,67,68,65,84,65,91],.str [99,100,97,116,97],.str [93,93,62]],.tup [.str [60,33,68,79,67,84,89,80,69],.str [100,111,99,116,121,112,101],.none]]
abbrev fa(x:List Nat)(k:Nat)(f:V)(w kd:List Nat)(e:V):Loc:=[(bb,.str x),(cI,.int k),(e',f),(lZ,.str w),(eD,.str kd),(zP,e)]
def zy:bin .Sub (.int ((k+z:Nat):Int)) (.int (k:Nat)) H=some (.ok (.int (z:Nat)) H):=by show rt (V.int<|((k+z:Nat):Int)-((k:Nat):Int)) H=_;exact Y (qF<|bE k z)<|Y (ez ..) rfl
section
variable{O:ap}{H:aq}{x r:List Nat}{k:Nat}
def rW(l:bu O (j+59) 547 0 gP 0 [(bb,.str x),(cI,.int k),(e',f)] H=some (.ok (.ret a) loc H)):Do j O 547 [.str x,.int k,f] H a H:=by exact am [(bb,V.str x),(cI,V.int ↑k),(e',f)] rfl<|sk 2<|aj Q.s l rfl rfl
variable(g3:∀(r w:List Nat)(H:aq),dv O 505 [.str r,.str w] H (.bool (eF r w)) H)(aE:x.drop k=r)(aP:k<=x.length)(hm:x.length<=bg)
include g3 aE aP hm
theorem S1(u:pre d7 r=false)(h:eF (r.take 4) d7=b):bu O (j+59) 547 0 gP 0 [(bb,.str x),(cI,.int k),(e',f)] H= aB b (some<|.ok (.ret .none) (fa x k f d7 rq<|.str [45,45,62]) H) (bu O (j+58) 547 0 gP 1 (fa x k f d7 rq<|.str [45,45,62]) H):=by
 have e1:=gj (y:=d7) (H:=H) aE aP;have z:=sA (m:=4) (H:=H) aE aP hm<|by decide
 have m:=g3 (r.take 4) d7 H;rw[u]at e1;rw[h]at m;clear aE aP hm g3 h u;cases b<;>exact fc rfl<|sk 5<|aj Q.m e1 rfl<|sk 9<|aj Q.m z rfl<|sk 1<|aj Q.m m rfl rfl
theorem LQ(u:pre dq r=false)(h:eF (r.take 9) dq=b):bu O (j+58) 547 0 gP 1 (fa x k f d7 rq<|.str [45,45,62]) H= aB b (some<|.ok (.ret .none) (fa x k f dq gf<|.str [93,93,62]) H) (bu O (j+57) 547 0 gP 2 (fa x k f dq gf<|.str [93,93,62]) H):=by
 have e1:=gj (y:=dq) (H:=H) aE aP;have z:=sA (m:=9) (H:=H) aE aP hm<|by decide
 have m:=g3 (r.take 9) dq H;rw[u]at e1;rw[h]at m;clear aE aP hm g3 h u;cases b<;>exact fc rfl<|sk 5<|aj Q.m e1 rfl<|sk 9<|aj Q.m z rfl<|sk 1<|aj Q.m m rfl rfl
theorem Ie(u:pre dt r=false)(h:eF (r.take 9) dt=b):bu O (j+57) 547 0 gP 2 (fa x k f dq gf<|.str [93,93,62]) H= aB b (some<|.ok (.ret .none) (fa x k f dt ig .none) H) (some<|.ok .next (fa x k f dt ig .none) H):=by
 have e1:=gj (y:=dt) (H:=H) aE aP;have z:=sA (m:=9) (H:=H) aE aP hm<|by decide
 have m:=g3 (r.take 9) dt H;have l:bu O (j+56) 547 0 gP 3 (fa x k f dt ig .none) H=some (.ok .next (fa x k f dt ig .none) H):=kS rfl;rw[u]at e1;rw[h]at m;clear aE aP hm g3 h u;cases b<;>exact fc rfl<|sk 5<|aj Q.m e1 rfl<|sk 9<|aj Q.m z rfl<|sk 1<|aj Q.m m rfl rfl
omit g3 hm
theorem Hl(m:O none (.fn 540) [.str x,.str dq,.str gf,.str [93,93,62],.int k,f] H=some (.ok a H))(h:pre dq r=true):bu O (j+58) 547 0 gP 1 (fa x k f d7 rq<|.str [45,45,62]) H= some (.ok (.ret a) (fa x k f dq gf<|.str [93,93,62]) H):=by have e1:=gj (y:=dq) (H:=H) aE aP;rw[h]at e1;clear aE aP h;exact fc rfl<|sk 5<|aj Q.m e1 rfl<|sk 8<|aj Q.m m rfl rfl
theorem TH(m:O none (.fn 519) [.str x,.str [62],.int ((2:Nat):Int),.int k,f] H=some (.ok (.tup [a,b]) H))(h:pre [60,63] r=false)(u:pre [60,47] r=true)(l:bu O (j+59) 547 0 gP 0 [(bb,.str x),(cI,.int k),(e',f)] H=some (.ok .next (fa x k f dt ig .none) H)):Do j O 547 [.str x,.int k,f] H (.tup [.str hD,a,b]) H:=by have e1:=gj (y:=[60,63]) (H:=H) aE aP;have z:=gj (y:=[60,47]) (H:=H) aE aP;rw[h]at e1;rw[u]at z;clear aE aP h u;exact am [(bb,V.str x),(cI,V.int ↑k),(e',f)] rfl<|sk 2<|aj Q.s l rfl<|sk 3<|aj Q.m e1 rfl<|sk 4<|aj Q.m z rfl<|sk 5<|aj Q.m m rfl rfl
theorem KG(h:pre [60,63] r=false)(u:pre [60,47] r=false)(C:pre [60,33] r=true)(l:bu O (j+59) 547 0 gP 0 [(bb,.str x),(cI,.int k),(e',f)] H=some (.ok .next (fa x k f dt ig .none) H)):Do j O 547 [.str x,.int k,f] H (.tup [.str cP,.int (x.length:Nat),.none]) H:=by have e1:=gj (y:=[60,63]) (H:=H) aE aP;have z:=gj (y:=[60,47]) (H:=H) aE aP;have D:=gj (y:=[60,33]) (H:=H) aE aP;rw[h]at e1;rw[u]at z;rw[C]at D;clear aE aP h u C;exact am [(bb,V.str x),(cI,V.int ↑k),(e',f)] rfl<|sk 2<|aj Q.s l rfl<|sk 3<|aj Q.m e1 rfl<|sk 4<|aj Q.m z rfl<|sk 4<|aj Q.m D rfl rfl
variable(h:pre [60,63] r=false)(u:pre [60,47] r=false)(C:pre [60,33] r=false)
include h u C
theorem HB(m:O none (.fn 526) [.str x,.int (k+1:Nat),.str []] H=some (.ok (.tup [a,.int (k+z:Nat),.str q]) H))(l:bu O (j+59) 547 0 gP 0 [(bb,.str x),(cI,.int k),(e',.none)] H=some (.ok .next (fa x k .none dt ig .none) H)):Do j O 547 [.str x,.int k,.none] H (.tup [.str d6,a,.tup [.int z,.str q]]) H:=by have e1:=gj (y:=[60,63]) (H:=H) aE aP;have f:=gj (y:=[60,47]) (H:=H) aE aP;have D:=gj (y:=[60,33]) (H:=H) aE aP;rw[h]at e1;rw[u]at f;rw[C]at D;have E:=zy (H:=H) (k:=k) (z:=z);clear aE aP h u C;exact am [(bb,V.str x),(cI,V.int ↑k),(e',V.none)] rfl<|sk 2<|aj Q.s l rfl<|sk 3<|aj Q.m e1 rfl<|sk 4<|aj Q.m f rfl<|sk 4<|aj Q.m D rfl<|sk 11<|aj Q.m m rfl<|sk 4<|aj Q.m E rfl rfl
theorem Pa(m:O none (.fn 526) [.str x,.int (k+g:Nat),.str f] H=some (.ok (.tup [a,.int (k+z:Nat),.str q]) H))(l:bu O (j+59) 547 0 gP 0 [(bb,.str x),(cI,.int k),(e',.tup [.int g,.str f])] H=some (.ok .next (fa x k (.tup [.int g,.str f]) dt ig .none) H)):Do j O 547 [.str x,.int k,.tup [.int g,.str f]] H (.tup [.str d6,a,.tup [.int z,.str q]]) H:=by have e1:=gj (y:=[60,63]) (H:=H) aE aP;have D:=gj (y:=[60,47]) (H:=H) aE aP;have E:=gj (y:=[60,33]) (H:=H) aE aP;rw[h]at e1;rw[u]at D;rw[C]at E;have I:=zy (H:=H) (k:=k) (z:=z);clear aE aP h u C;exact am [(bb,V.str x),(cI,V.int ↑k),(e',V.tup [V.int ↑g,V.str f])] rfl<|sk 2<|aj Q.s l rfl<|sk 3<|aj Q.m e1 rfl<|sk 4<|aj Q.m D rfl<|sk 4<|aj Q.m E rfl<|sk 12<|aj Q.m m rfl<|sk 4<|aj Q.m I rfl rfl
end
abbrev Dc(O:ap):Prop:=∀(r w:List Nat)(H:aq),dv O 505 [.str r,.str w] H (.bool<|eF r w) H
abbrev t3(O:ap):Prop:=∀{x r w:List Nat}{d k:Nat}{s:Seen}(H:aq),x.drop k=r->k<=x.length->Nat.ble 1 w.length=true->s.hb=false->dv O 519 [.str x,.str w,.int d,.int k,s.aA] H (.tup [oK k<|bQ r w<|s.fr d,(cE r w<|s.fr d).aA]) H
abbrev x'(O:ap):Prop:=∀{x r q:List Nat}{k:Nat}(H:aq),x.drop k=r->k<=x.length->x.length<=bg->q.length<=1->dv O 526 [.str x,.int k,.str q] H (hu k<|bw r q) H
abbrev Dp(O:ap):Prop:=∀{x r w kd e:List Nat}{k:Nat}{s:Seen}(H:aq),x.drop k=r->k<=x.length->ar kd ig=false->Nat.ble 1 e.length=true->s.hb=false->dv O 540 [.str x,.str w,.str kd,.str e,.int k,s.aA] H (wl k (kd,bQ r e<|s.fr w.length,cE r e<|s.fr w.length)) H
def tm(r:List Nat):Prop:=pre d7 r=false/\pre dt r=false/\pre [60,63] r=false
def cv{f:Type}{P:f->Prop}{x y:f}(h:b=true->P x)(u:b=false->P y):P (aB b x y):=by rcases b;exact u rfl;exact h rfl
def kT(O:ap)(H:aq)(j:Nat)(x:List Nat)(k:Nat)(f:V)(o:Option gm):Prop:=Do j O 547 [.str x,.int k,f] H (xt k o) H
section
variable{x r:List Nat}{k:Nat}(aE:x.drop k=r)(aP:k<=x.length)(hm:x.length<=bg)(p:tm r)
include aE aP hm p
theorem Ru(ox:x' O)(C:1<=r.length)(o:ln r s)(y:pre dq r=false)(f:pre [60,47] r=false)(u:pre [60,33] r=false)(l:bu O (j+59) 547 0 gP 0 [(bb,.str x),(cI,.int k),(e',s.aA)] H=some (.ok .next (fa x k s.aA dt ig .none) H)):kT O H j x k s.aA (some<|iI<|gB r s):=by have hl:=gV aE aP;rcases s with _|z|⟨z,q⟩;have m:=ox (q:=[]) (k:=k+1) (r:=r.drop 1) H (Y aE.symm<|Y eY rfl) (by refine Y hl ?_;exact e3 C k) hm (bJ 1);rw[<-qk]at m;exact(HB aE aP p.2.2 f u m l:);exact(o.2.2.elim (λh=>nomatch y.symm.trans h) λh=>nomatch f.symm.trans h);have m:=ox (q:=q) (k:=k+z) (r:=r.drop z) H (Y aE.symm<|Y eY rfl) (by refine Y hl ?_;exact e3 o.2.2.2 k) hm o.2.2.1;rw[<-qk]at m;exact(Pa aE aP p.2.2 f u m l:)
theorem T7(h:pre [60,47] r=false)(u:pre [60,33] r=true)(l:bu O (j+59) 547 0 gP 0 [(bb,.str x),(cI,.int k),(e',f)] H=some (.ok .next (fa x k f dt ig .none) H)):kT O H j x k f (some (cP,some r.length,.no)):=by have e:=KG aE aP p.2.2 h u l;rw[gV aE aP]at e;exact e
theorem Sh(g3:Dc O)(gO:t3 O)(ox:x' O)(vT:Dp O)(T:1<=r.length)(o:ln r s):Do j O 547 [.str x,.int k,s.aA] H (xt k<|eb r s) H:=
 have J:=λb=>S1 (j:=j) (f:=s.aA) (H:=H) g3 aE aP hm p.1 (b:=b)
 cv (P:=kT O H j x k s.aA) (λC=>rW<|J _ C) λC=>cv (P:=kT O H j x k s.aA) (λu=>rW<|(J _ C).trans<|Hl aE aP (vT H aE aP rfl rfl<|o.1 u) u) λu=>
 have N:=λb h=>(J _ C).trans<|LQ (j:=j) (f:=s.aA) (H:=H) g3 aE aP hm u (b:=b) h
 cv (P:=kT O H j x k s.aA) (λE=>rW<|N _ E) λE=>
 have D:=λb h=>(N _ E).trans<|Ie (j:=j) (f:=s.aA) (H:=H) g3 aE aP hm p.2.1 (b:=b) h
 cv (P:=kT O H j x k s.aA) (λy=>rW<|D _ y) λy=>cv (P:=kT O H j x k s.aA) (λz=>TH aE aP (gO H aE aP rfl<|o.2.1 z) p.2.2 z<|D _ y) λz=>
 cv (P:=kT O H j x k s.aA) (λI=>T7 aE aP hm p z I<|D _ y) λI=>Ru aE aP hm p ox T o u z I<|D _ y
end
def ay(x:List Nat)(k p:Nat)(h:List Nat)(f:V):au:=.inst 620 [(bb,.str x),(cI,.int k),(b7,.int p),(JF,.str h),(e',f)]
abbrev Tk:=Option (List Nat)×Nat×Seen
noncomputable def n9(p:Nat)(r:List Nat)(t:Tk):V:=match t.1 with|none=>.none|some kd=>.tup [.str kd,.str<|r.take t.2.1,.int p]
def xO(x:List Nat)(k p:Nat)(h:List Nat)(t:Tk):au:=ay x (k+t.2.1) (p+t.2.1) h t.2.2.aA
def cc(r:List Nat)(u:Bool):Nat:=aB u (aI r)<|aB (Nat.beq (aI r) r.length) (aI r-bS r)<|aI r
def g5(r:List Nat)(s:Seen)(u:Bool):Tk:=aB (Nat.blt 0<|cc r u) (some ao,cc r u,.no) (none,0,s)
def c5(r:List Nat)(u:Bool):Option gm->Tk
 |none=>aB u (some cP,r.length,.no) (none,0,.no)
 |some z=>match z.2.1 with|some e=>(some z.1,e,.no)|none=>aB u (some cP,r.length,.no) (none,0,z.2.2)
def bK(r:List Nat)(s:Seen)(u:Bool):Tk:=match r with|[]=>(none,0,s)|c::_=>aB (ar [c] [60]) (c5 r u<|eb r s)<|aB (ar [c] [38]) (c5 r u<|some (dP,bQ r [59]<|s.fr 1,cE r [59]<|s.fr 1))<|g5 r s u
section
variable{G:aq}{p:Nat}
def R4:bin .Sub (.int<|(p:Int)+((k+e:Nat):Int)) (.int k) H=some (.ok (.int (p+e:Nat)) H):=by show rt (V.int<|((p+(k+e):Nat):Int)-((k:Nat):Int)) H=_;exact Y (Nat.add_left_comm ..)<|Y (qF<|bE k _)<|Y (ez ..) rfl
def Gm(aE:x.drop k=r)(aP:k<=x.length)(hm:x.length<=bg)(he:e<=r.length):Do j O 603 [.ref 0,.str kd,.int (k+e:Nat)] (ay x k p h f::G) (.tup [.str kd,.str<|r.take e,.int p]) (ay x (k+e) (p+e) h .none::G):=by have e1:=sA (m:=e) (H:=ay x k p h f::G) aE aP hm<|av he<|av (by refine Y aE.symm<|Y b9 ?_;exact gq ..) hm;have u:=R4 (p:=p) (k:=k) (e:=e) (H:=ay x k p h f::G);clear aE aP hm he;exact am [(bo,V.ref 0),(eD,V.str kd),(pU,V.int ↑(k+e))] rfl<|sk 6<|aj Q.m e1 rfl<|sk 9<|aj Q.m u rfl rfl
end
abbrev Cs(O:ap):Prop:=∀{x r:List Nat}{k:Nat}(H:aq),x.drop k=r->x.length<=bg->dv O 554 [.str x,.int k] H (.int (k+aI r:Nat)) H
abbrev z'(O:ap):Prop:=∀{x r:List Nat}{k:Nat}(H:aq),x.drop k=r->k<=x.length->dv O 561 [.str x,.int k] H (.int<|bS r) H
abbrev n'(O:ap):Prop:=∀{x r h:List Nat}{k p:Nat}{f:V}{kd:List Nat}{e:Nat}(G:aq),x.drop k=r->k<=x.length->x.length<=bg->e<=r.length->dv O 603 [.ref 0,.str kd,.int (k+e:Nat)] (ay x k p h f::G) (.tup [.str kd,.str<|r.take e,.int p]) (ay x (k+e) (p+e) h .none::G)
abbrev jA(x:List Nat)(k p:Nat)(h r:List Nat)(G:aq)(t:Tk):M V:=some<|.ok (n9 p r t)<|xO x k p h t::G
def na:∀r,aI r<=r.length:=by
 intro r;induction r with
 |nil=>exact ba _|cons c r f=>show aB (fA c) 0 (aI r+1)<=r.length+1;rcases fA c;exact fv<|f;exact bJ _
def s5(r):bS r<=r.length:=by
 have e:∀y:List Nat,b2 r y=true->y.length<=r.length:=λy h=>by have:=kf h;rwa [fS,fS]at this
 exact cv (P:=(·<=r.length)) (λh=>e _ h) λ_=>cv (P:=(·<=r.length)) (λh=>e _ h) λ_=>bJ _
def wO:cc r u<=r.length:=cv (P:=(·<=r.length)) (λ_=>na r) λ_=>cv (P:=(·<=r.length)) (λ_=>av (gq ..)<|na r) λ_=>na r
def Dq:Nat.blt (k+a) (k+b)=Nat.blt a b:=by rcases dJ a b with h|h;exact Y (dw h)<|Y (dw<|Nat.add_lt_add_left h k) rfl;exact Y (kN h)<|Y (kN<|e3 h k) rfl
def AU:Nat.beq (k+a) (k+b)=Nat.beq a b:=by rcases Nat.decEq a b with h|h;exact Y (it h)<|Y (it λe=>h<|Nat.add_left_cancel e) rfl;exact Y (nh h)<|Y (nh<|az (k+·) h) rfl
section
variable{O:ap}{G:aq}{x r:List Nat}{k:Nat}(jV:Cs O)(oP:z' O)(cW:n' O)(aE:x.drop k=r)(aP:k<=x.length)(hm:x.length<=bg)
include jV cW aE aP hm
theorem JZ{H:aq}(D:H=ay x k p h s.aA::G)(q:cN .Eq (.int (k+aI r:Nat)) (.int (x.length:Nat)) H=some false\/u=true):aF (j+60) tab O none (.fn 617) [.ref 0,.bool u] H=jA x k p h r G (aB (Nat.blt 0<|aI r) (some ao,aI r,.no) (none,0,s)):=by subst D;have aw:=jV (ay x k p h s.aA::G) aE hm;have aG:=cW (h:=h) (p:=p) (f:=s.aA) (kd:=ao) G aE aP hm<|na r;have e:cN .Gt (.int (k+aI r:Nat)) (.int k) (ay x k p h s.aA::G)=some (Nat.blt 0<|aI r):=az some<|Dq (b:=aI r) (a:=0);clear jV cW aE aP hm;rcases u;have q:=q.resolve_right ka;exact am [(bo,V.ref 0),(e2,V.bool false)] rfl<|sk 5<|aj Q.m aw rfl<|sk 6<|aj Q.c q rfl<|sk 5<|aj Q.c e rfl<|oO (λ(C:Option (List Nat)×Nat×Seen)=>jA x k p h r G C) _ rfl (λy=>(sk 3<|aj Q.m aG rfl rfl)) λy=>rfl;clear q;have q:cN .Eq (.int (k+aI r:Nat)) (.int (x.length:Nat)) (ay x k p h s.aA::G)=some (Nat.beq (k+aI r) x.length):=rfl;rcases z:Nat.beq (k+aI r) x.length;rw[z]at q;exact am [(bo,V.ref 0),(e2,V.bool true)] rfl<|sk 5<|aj Q.m aw rfl<|sk 6<|aj Q.c q rfl<|sk 5<|aj Q.c e rfl<|oO (λ(C:Option (List Nat)×Nat×Seen)=>jA x k p h r G C) _ rfl (λy=>(sk 3<|aj Q.m aG rfl rfl)) λy=>rfl;rw[z]at q;exact am [(bo,V.ref 0),(e2,V.bool true)] rfl<|sk 5<|aj Q.m aw rfl<|sk 6<|aj Q.c q rfl<|sk 7<|aj Q.c e rfl<|oO (λ(C:Option (List Nat)×Nat×Seen)=>jA x k p h r G C) _ rfl (λy=>(sk 3<|aj Q.m aG rfl rfl)) λy=>rfl
include oP
theorem IS{H:aq}(u:H=ay x k p h s.aA::G)(hl:aI r=r.length):aF (j+60) tab O none (.fn 617) [.ref 0,.bool false] H=jA x k p h r G (aB (Nat.blt 0<|aI r-bS r) (some ao,aI r-bS r,.no) (none,0,s)):=by
 subst u;have aw:=jV (ay x k p h s.aA::G) aE hm;have z:=oP (ay x k p h s.aA::G) aE aP;have aG:=cW (h:=h) (p:=p) (f:=s.aA) (kd:=ao) G aE aP hm<|av (gq (aI r)<|bS r)<|na r;have e:cN .Gt (.int (k+(aI r-bS r):Nat)) (.int k) (ay x k p h s.aA::G)=some (Nat.blt 0<|aI r-bS r):=az some<|Dq (b:=aI r-bS r) (a:=0);have q:cN .Eq (.int (k+aI r:Nat)) (.int (x.length:Nat)) (ay x k p h s.aA::G)=some true:=az some<|nh<|Y (gV aE aP)<|Y hl rfl;have d:bin .Sub (.int (k+aI r:Nat)) (.int<|bS r) (ay x k p h s.aA::G)=some (.ok (.int (k+(aI r-bS r):Nat))<|ay x k p h s.aA::G):=by show rt (V.int<|((k+aI r:Nat):Int)-((bS r:Nat):Int)) _=_;have hh:=s5 r;exact Y (qF<|av (hl▸hh)<|bR ..)<|Y (Nat.add_sub_assoc (hl▸hh) ..) rfl
 clear jV oP cW aE aP hm hl;exact am [(bo,V.ref 0),(e2,V.bool false)] rfl<|sk 5<|aj Q.m aw rfl<|sk 6<|aj Q.c q rfl<|sk 10<|aj Q.m z rfl<|aj Q.m d rfl<|sk 4<|aj Q.c e rfl<|oO (λ(C:Option (List Nat)×Nat×Seen)=>jA x k p h r G C) _ rfl (λy=>(sk 3<|aj Q.m aG rfl rfl)) λy=>rfl
theorem L0:aF (j+60) tab O none (.fn 617) [.ref 0,.bool u] (ay x k p h s.aA::G)=jA x k p h r G (g5 r s u):=by
 have a:=λq=>JZ (j:=j) (p:=p) (h:=h) (s:=s) (G:=G) jV cW aE aP hm (u:=u) rfl q;rcases u
 .unfold g5 cc;show _=jA x k p h r G (aB (Nat.blt 0<|aB (Nat.beq (aI r) r.length) (aI r-bS r)<|aI r) (some ao,aB (Nat.beq (aI r) r.length) (aI r-bS r)<|aI r,.no) (none,0,s));rcases b:Nat.beq (aI r) r.length;exact a<|.inl<|az some<|by show Nat.beq (k+aI r) x.length=false;refine Y (gV aE aP)<|Y AU ?_;exact b
  exact IS jV oP cW aE aP hm rfl<|cd b
 exact a<|.inr rfl
end
def jw{o:Option Nat}{e:Nat}(h:o.map z=some e):∃a,o=some a/\z a=e:=by rcases o with _|a;exact aW h;exact a9 a rfl<|aQ h
def xv(h:bQ r w z=some e)(f:1<=w.length):e<=r.length:=by refine aZ (jw (o:=iJ (r.drop z) w) (z:=(z+·)) h) λa y x=>?_;subst x;refine aZ (jw (o:=bq w<|r.drop z) (z:=(·+w.length)) y) λi C D=>?_;subst D;refine cZ (jZ C) λ_ j _=>?_;have k:=kf j;rw[b9,b9,<-Nat.sub_add_eq]at k;have u:=fl<|Nat.lt_of_sub_pos<|cu f k;show z+(i+w.length)<=r.length;exact Y (cz ..).symm<|Y (cF ..)<|Nat.add_le_of_le_sub u k
def Qa:∀{r q},(∀e,(bw r q).1=some e->e<=r.length):=by
 intro r;induction r with
 |nil=>intro q e h;exact aW h
 |cons c r f=>
  intro q e h;have up1:∀{t:Tg},(∀e,t.1=some e->e<=r.length)->∀e,(up 1 t).1=some e->e<=r.length+1:=λ{t} g e h=>by refine aZ (jw (o:=t.1) (z:=(1+·)) h) λa y j=>?_;clear h;subst j;show 1+a<=_;exact Y (cF ..)<|fv<|g a y
  rcases q with _|⟨k,q⟩;refine cv (P:=λt:Tg=>∀e,t.1=some e->e<=r.length+1) (λ_=>up1 f) (λ_=>cv (P:=λt:Tg=>∀e,t.1=some e->e<=r.length+1) (λ_ e h=>?_) λ_=>cv (P:=λt:Tg=>∀e,t.1=some e->e<=r.length+1) (λ_ e h=>?_) λ_=>up1 f) e h;obtain rfl:=aQ h;exact bR ..;obtain rfl:=aQ h;exact bJ _;exact up1 (cv (P:=λt:Tg=>∀e,t.1=some e->e<=r.length) (λ_=>f) λ_=>f) e h
def GC(j:1<=r.length)(o:ln r s):∀e,(gB r s).1=some e->e<=r.length:=by
 have go:∀{z q},z<=r.length->∀e,(up z<|bw (r.drop z) q).1=some e->e<=r.length:=λ{z q} f e h=>by refine aZ (jw (o:=(bw (r.drop z) q).1) (z:=(z+·)) h) λa y k=>?_;clear h;subst k;have:=Qa a y;rw[b9]at this;show z+a<=_;exact Y (cF ..)<|Nat.add_le_of_le_sub f this
 induction s with
 |tag z q=>exact go o.2.2.2|_=>exact go j
def i5(r:List Nat)(z:Option gm):Prop:=∀kd e s,z=some (kd,some e,s)->e<=r.length
def Dm(j:1<=r.length)(o:ln r s):i5 r (eb r s):=by have no:i5 r none:=λ_ _ _ h=>nomatch h;have en:∀{kd w z s},1<=w.length->i5 r (some (kd,bQ r w z,s)):=λf k e J h=>xv (aQ<|az (λo=>o.map (·.2.1)) h) f;exact cv (P:=i5 r) (λ_=>no) λ_=>cv (P:=i5 r) (λ_=>en<|by decide) λ_=>cv (P:=i5 r) (λ_=>no) λ_=>cv (P:=i5 r) (λ_=>no) λ_=>cv (P:=i5 r) (λ_=>en<|by decide) λ_=>cv (P:=i5 r) (λ_ kd e s h=>a4 (aQ<|aQ<|az (λo=>o.map (·.2.1)) h).symm) λ_ kd e s h=>GC j o e<|aQ<|az (λo=>o.map (·.2.1)) h
abbrev ue(O:ap):Prop:=∀{x r:List Nat}{k:Nat}{s:Seen}(H:aq),x.drop k=r->k<=x.length->x.length<=bg->tm r->1<=r.length->ln r s->dv O 547 [.str x,.int k,s.aA] H (xt k<|eb r s) H
abbrev uK(O:ap):Prop:=∀{x r h:List Nat}{k p:Nat}{s:Seen}{u:Bool}(G:aq),x.drop k=r->k<=x.length->x.length<=bg->O none (.fn 617) [.ref 0,.bool u] (ay x k p h s.aA::G)=jA x k p h r G (g5 r s u)
abbrev Go(O:ap)(j:Nat)(x:List Nat)(k p:Nat)(h:List Nat)(s:Seen)(G:aq)(u:Bool)(r:List Nat)(t:Tk):Prop:=aF (j+60) tab O none (.fn 610) [.ref 0,.bool u] (ay x k p h s.aA::G)=jA x k p h r G t
section
variable{O:ap}{G:aq}{x r:List Nat}{k:Nat}
def Op(aE:x.drop k=[])(aP:k<=x.length):Go O j x k p h s G u [] (none,0,s):=by have q:=az some<|nh<|cf aP<|oz aE;clear aE aP;exact am [(bo,V.ref 0),(e2,V.bool u)] rfl<|sk 6<|aj Q.c q rfl rfl
def sX(aE:x.drop k=c::r):cN .Eq (.int k) (.int (x.length:Nat)) H=some false:=az some<|it<|kq (gs aE).2.2
def Uq(lf:uK O)(aE:x.drop k=c::r)(aP:k<=x.length)(hm:x.length<=bg)(y:ar [c] [60]=false)(C:ar [c] [38]=false):Go O j x k p h s G u (c::r) (g5 (c::r) s u):=by have q:=sX (H:=ay x k p h s.aA::G) aE;have i:=ia (H:=ay x k p h s.aA::G) aE;have m:=lf (h:=h) (p:=p) (s:=s) (u:=u) G aE aP hm;clear aE aP hm lf;generalize g5 (c::r) s u=t at m⊢;exact am [(bo,V.ref 0),(e2,V.bool u)] rfl<|sk 6<|aj Q.c q rfl<|sk 5<|aj Q.m i rfl<|aj (λb=>Q.c<|some b) y rfl<|sk 5<|aj Q.m i rfl<|aj (λb=>Q.c<|some b) C rfl<|sk 4<|aj Q.m m rfl rfl
def oA(aE:x.drop k=c::r)(aP:k<=x.length):bP tab O none (.blt .len) [.str x] H=some (.ok (.int (k+(c::r).length:Nat)) H):=by exact Y (gV aE aP).symm rfl
def vc(aE:x.drop k=c::r)(aP:k<=x.length):cN .Eq (.int k) (.int (k+(c::r).length:Nat)) H=some false:=by refine Y (gV aE aP).symm ?_;exact sX aE
section
variable{c:Nat}(cW:n' O)(aE:x.drop k=c::r)(aP:k<=x.length)(hm:x.length<=bg)
include cW aE aP hm
theorem RL(y:ar [c] [60]=true)(m:O none (.fn 547) [.str x,.int k,s.aA] (ay x k p h s.aA::G)=some (.ok (.tup [.str kd,.int (k+e:Nat),f])<|ay x k p h s.aA::G))(he:e<=(c::r).length):Go O j x k p h s G u (c::r) (some kd,e,.no):=by have q:=sX (H:=ay x k p h s.aA::G) aE;have i:=ia (H:=ay x k p h s.aA::G) aE;have aG:=cW (h:=h) (p:=p) (f:=s.aA) (kd:=kd) G aE aP hm he;clear aE aP hm cW he;exact am [(bo,V.ref 0),(e2,V.bool u)] rfl<|sk 6<|aj Q.c q rfl<|sk 5<|aj Q.m i rfl<|aj (λb=>Q.c<|some b) y rfl<|sk 8<|aj Q.m m rfl<|sk 15<|aj Q.m aG rfl rfl
theorem Ht(y:ar [c] [60]=true)(m:O none (.fn 547) [.str x,.int k,s.aA] (ay x k p h s.aA::G)=some (.ok (.tup [.str kd,.none,J.aA])<|ay x k p h s.aA::G)):Go O j x k p h s G u (c::r) (aB u (some cP,(c::r).length,.no) (none,0,J)):=by have q:=vc (H:=ay x k p h s.aA::G) aE aP;have z:=oA (O:=O) (H:=ay x k p h s.aA::G) aE aP;have C:=oA (O:=O) (H:=ay x k p h J.aA::G) aE aP;have i:=ia (H:=ay x k p h s.aA::G) aE;have aG:=cW (h:=h) (p:=p) (f:=J.aA) (kd:=cP) G aE aP hm<|ba _;clear aE aP hm cW;rcases u;exact am [(bo,V.ref 0),(e2,V.bool false)] rfl<|sk 5<|aj Q.m z rfl<|aj Q.c q rfl<|sk 5<|aj Q.m i rfl<|aj (λb=>Q.c<|some b) y rfl<|sk 8<|aj Q.m m rfl rfl;exact am [(bo,V.ref 0),(e2,V.bool true)] rfl<|sk 5<|aj Q.m z rfl<|aj Q.c q rfl<|sk 5<|aj Q.m i rfl<|aj (λb=>Q.c<|some b) y rfl<|sk 8<|aj Q.m m rfl<|sk 24<|aj Q.m C rfl<|aj Q.m aG rfl rfl
theorem Kj(y:ar [c] [60]=true)(m:O none (.fn 547) [.str x,.int k,s.aA] (ay x k p h s.aA::G)=some (.ok .none<|ay x k p h s.aA::G)):Go O j x k p h s G u (c::r) (aB u (some cP,(c::r).length,.no) (none,0,.no)):=by have q:=vc (H:=ay x k p h s.aA::G) aE aP;have z:=oA (O:=O) (H:=ay x k p h s.aA::G) aE aP;have C:=oA (O:=O) (H:=ay x k p h .none::G) aE aP;have i:=ia (H:=ay x k p h s.aA::G) aE;have aG:=cW (h:=h) (p:=p) (f:=.none) (kd:=cP) G aE aP hm<|ba _;clear aE aP hm cW;rcases u;exact am [(bo,V.ref 0),(e2,V.bool false)] rfl<|sk 5<|aj Q.m z rfl<|aj Q.c q rfl<|sk 5<|aj Q.m i rfl<|aj (λb=>Q.c<|some b) y rfl<|sk 8<|aj Q.m m rfl rfl;exact am [(bo,V.ref 0),(e2,V.bool true)] rfl<|sk 5<|aj Q.m z rfl<|aj Q.c q rfl<|sk 5<|aj Q.m i rfl<|aj (λb=>Q.c<|some b) y rfl<|sk 8<|aj Q.m m rfl<|sk 18<|aj Q.m C rfl<|aj Q.m aG rfl rfl
theorem PC(y:ar [c] [60]=false)(C:ar [c] [38]=true)(m:O none (.fn 519) [.str x,.str [59],.int ((1:Nat):Int),.int k,s.aA] (ay x k p h s.aA::G)=some (.ok (.tup [.int (k+e:Nat),f])<|ay x k p h s.aA::G))(he:e<=(c::r).length):Go O j x k p h s G u (c::r) (some dP,e,.no):=by have q:=sX (H:=ay x k p h s.aA::G) aE;have i:=ia (H:=ay x k p h s.aA::G) aE;have aG:=cW (h:=h) (p:=p) (f:=s.aA) (kd:=dP) G aE aP hm he;clear aE aP hm cW he;exact am [(bo,V.ref 0),(e2,V.bool u)] rfl<|sk 6<|aj Q.c q rfl<|sk 5<|aj Q.m i rfl<|aj (λb=>Q.c<|some b) y rfl<|sk 5<|aj Q.m i rfl<|aj (λb=>Q.c<|some b) C rfl<|sk 8<|aj Q.m m rfl<|sk 16<|aj Q.m aG rfl rfl
theorem Ny(y:ar [c] [60]=false)(C:ar [c] [38]=true)(m:O none (.fn 519) [.str x,.str [59],.int ((1:Nat):Int),.int k,s.aA] (ay x k p h s.aA::G)=some (.ok (.tup [.none,J.aA])<|ay x k p h s.aA::G)):Go O j x k p h s G u (c::r) (aB u (some cP,(c::r).length,.no) (none,0,J)):=by have q:=vc (H:=ay x k p h s.aA::G) aE aP;have z:=oA (O:=O) (H:=ay x k p h s.aA::G) aE aP;have D:=oA (O:=O) (H:=ay x k p h J.aA::G) aE aP;have i:=ia (H:=ay x k p h s.aA::G) aE;have aG:=cW (h:=h) (p:=p) (f:=J.aA) (kd:=cP) G aE aP hm<|ba _;clear aE aP hm cW;rcases u;exact am [(bo,V.ref 0),(e2,V.bool false)] rfl<|sk 5<|aj Q.m z rfl<|aj Q.c q rfl<|sk 5<|aj Q.m i rfl<|aj (λb=>Q.c<|some b) y rfl<|sk 5<|aj Q.m i rfl<|aj (λb=>Q.c<|some b) C rfl<|sk 8<|aj Q.m m rfl rfl;exact am [(bo,V.ref 0),(e2,V.bool true)] rfl<|sk 5<|aj Q.m z rfl<|aj Q.c q rfl<|sk 5<|aj Q.m i rfl<|aj (λb=>Q.c<|some b) y rfl<|sk 5<|aj Q.m i rfl<|aj (λb=>Q.c<|some b) C rfl<|sk 8<|aj Q.m m rfl<|sk 25<|aj Q.m D rfl<|aj Q.m aG rfl rfl
end
end
def xA(r:List Nat)(s:Seen):Prop:=match r with|[]=>True|c::r=>(ar [c] [60]=true->tm (c::r)/\ln (c::r) s)/\(ar [c] [60]=false->ar [c] [38]=true->s.hb=false)
def Rz(ma:ue O)(cW:n' O)(aE:x.drop k=c::r)(aP:k<=x.length)(hm:x.length<=bg)(f:ar [c] [60]=true)(o:tm (c::r)/\ln (c::r) s):Go O j x k p h s G u (c::r) (c5 (c::r) u<|eb (c::r) s):=by
 have m:=ma (ay x k p h s.aA::G) aE aP hm o.1 (bR ..) o.2;have le:=Dm (bR ..) o.2;generalize eb (c::r) s=z at m le;match z with
 |none=>exact Kj cW aE aP hm f m|some (kd,none,J)=>exact Ht cW aE aP hm f m|some (kd,some e,J)=>exact RL cW aE aP hm f m<|le _ _ _ rfl
def HJ(gO:t3 O)(cW:n' O)(aE:x.drop k=c::r)(aP:k<=x.length)(hm:x.length<=bg)(f:ar [c] [60]=false)(y:ar [c] [38]=true)(o:s.hb=false):Go O j x k p h s G u (c::r) (c5 (c::r) u<|some (dP,bQ (c::r) [59]<|s.fr 1,cE (c::r) [59]<|s.fr 1)):=by
 have m:=gO (w:=[59]) (d:=1) (ay x k p h s.aA::G) aE aP rfl o;have le:∀e,bQ (c::r) [59] (s.fr 1)=some e->e<=(c::r).length:=λe h=>xv h<|ba 1;generalize bQ (c::r) [59] (s.fr 1)=z at m le;generalize cE (c::r) [59] (s.fr 1)=J at m;match z with
 |none=>exact Ny cW aE aP hm f y m|some e=>exact PC cW aE aP hm f y m<|le _ rfl
def vP(ma:ue O)(gO:t3 O)(cW:n' O)(lf:uK O)(aE:x.drop k=r)(aP:k<=x.length)(hm:x.length<=bg)(o:xA r s):Go O j x k p h s G u r (bK r s u):=by
 match r,aE,o with
 |[],aE,_=>exact Op aE aP|c::r,aE,o=>exact cv (P:=Go O j x k p h s G u<|c::r) (λf=>Rz ma cW aE aP hm f<|o.1 f) λf=>cv (P:=Go O j x k p h s G u<|c::r) (λy=>HJ gO cW aE aP hm f y<|o.2 f y) λy=>Uq lf aE aP hm f y
def dN(x:List Nat):List Nat:=jn [10]<|bf [13,10] x 0 []
def a'(x:List Nat):List Nat:=jn [10]<|bf [13] (dN x) 0 []
def FZ:∀l,k8 (l.map V.str)=some l:=by
 intro l;induction l with
 |nil=>exact rfl|cons a l f=>show ob (ef<|V.str a) (λx=>ob (k8<|l.map V.str) λl=>some<|x::l)=_;exact Y (f) rfl
def m_split(f:(Nat.ble 1 y.length&&l0 y)=true)(h:x.length<=1000000):e8 q1 x [.str y] H=some (.ok (.ref H.length)<|H++[.list<|(bf y x 0 []).map V.str]):=by show as (Nat.ble 1 y.length&&l0 y&&Nat.ble x.length 1000000) _=_;exact Y f<|Y (hY h) rfl
def rC(h:H[i]? =some (.list<|l.map V.str))(f:ca l+l.length*x.length<=1000000):e8 qS x [.ref i] H=some (.ok (.str<|jn x l) H):=by show ip H[i]? (λl=>ob (k8 l) λj=>as (cq<|ca j+j.length*x.length)<|rt (V.str<|jn x j) H)=_;refine Y h ?_;show ob (k8<|l.map V.str) _=_;refine Y (FZ ..) ?_;show as _ _=_;exact Y (g9 f) rfl
def cX{H:aq}:(H++[o])[H.length]? =some o:=by refine Y (dp<|ba _)<|Y (ew ..) ?_;rfl
theorem kE(y):∀x w U,ca (bf y x w U)+(bf y x w U).length<=U.length+2*x.length+1
 |[],w,U=>by show U.reverse.length+0+1<=U.length+0+1;exact Y fS<|ba _
 |a::r,w+1,U=>by have:=kE y r w U;show ca (bf y r w U)+(bf y r w U).length<=U.length+2*(r.length+1)+1;exact aR this<|by simp+arith
 |a::r,0,U=>by
  show ca (match pre y (a::r)with|true=>U.reverse::bf y r (y.length-1) []|false=>bf y r 0<|a::U)+(match pre y (a::r)with|true=>U.reverse::bf y r (y.length-1) []|false=>bf y r 0<|a::U).length<=U.length+2*(r.length+1)+1;rcases pre y (a::r);have h:ca (bf y r 0<|a::U)+(bf y r 0<|a::U).length<=(U.length+1)+2*r.length+1:=kE y r 0 (a::U);show ca (bf y r 0<|a::U)+(bf y r 0<|a::U).length<=_;exact aR h<|by simp+arith
  have h:ca (bf y r (y.length-1) [])+(bf y r (y.length-1) []).length<=0+2*r.length+1:=kE y r (y.length-1) [];have e:U.reverse.length=U.length:=fS;show U.reverse.length+ca (bf y r (y.length-1) [])+((bf y r (y.length-1) []).length+1)<=_;exact a7 h (a4 e)<|by simp+arith
theorem nJ(c):∀l,(jn [c] l).length<=ca l+l.length|[]=>ba _|[a]=>bE (a.length) _|a::b::r=>by have:=nJ c<|b::r;show(a++[c]++jn [c] (b::r)).length<=a.length+ca (b::r)+((b::r).length+1);refine Y a0<|Y a0 ?_;show a.length+1+_<=_;exact aR this<|by simp+arith
def mQ(x:List Nat):aq:=[.list<|(bf [13,10] x 0 []).map .str,.list<|(bf [13] (dN x) 0 []).map .str]
def Lw(aE:x.length<=bg):Do j O 112 [.str x] H (.str<|a' x) (H++mQ x):=by
 have aE:x.length<=100000:=aE;have f:ca (bf [13,10] x 0 [])+(bf [13,10] x 0 []).length<=0+2*x.length+1:=kE [13,10] x 0 [];have k:=nJ 10<|bf [13,10] x 0 [];have u:ca (bf [13] (dN x) 0 [])+(bf [13] (dN x) 0 []).length<=0+2*(dN x).length+1:=kE [13] (dN x) 0 [];have h:(dN x).length<=2*x.length+1:=by unfold dN;exact a7 f k<|by simp+arith
 have aw:=m_split (x:=x) (y:=[13,10]) (H:=H) rfl<|av ‹_›<|by decide
 have aG:=rC (x:=[10]) (H:=H++[.list<|(bf [13,10] x 0 []).map V.str]) (i:=H.length) cX<|by show _+_*1<=_;exact cS aE aE f<|by simp+arith
 have da:=m_split (x:=dN x) (y:=[13]) (H:=H++[.list<|(bf [13,10] x 0 []).map V.str]) rfl<|cS aE aE h<|by simp+arith
 have fP:=rC (x:=[10]) (H:=H++[.list<|(bf [13,10] x 0 []).map V.str]++[.list<|(bf [13] (dN x) 0 []).map V.str]) (i:=(H++[au.list<|(bf [13,10] x 0 []).map V.str]).length) cX<|Y (Nat.mul_one (bf [13] (dN x) 0 []).length)<|av u<|av (iB (e3 (eg 2<|av h<|iB (eg 2 aE) 1) 0) 1)<|by decide
 have e:H++mQ x=H++[.list<|(bf [13,10] x 0 []).map V.str]++[.list<|(bf [13] (dN x) 0 []).map V.str]:=by exact Y (br ..) rfl
 refine Y e ?_;clear aE f k u h e;exact am [(bb,V.str x)] rfl<|sk 4<|aj Q.m aw rfl<|aj Q.m aG rfl<|sk 1<|aj Q.m da rfl<|aj Q.m fP rfl rfl
abbrev v4(O:ap):Prop:=∀{x:List Nat}(H:aq),x.length<=bg->dv O 112 [.str x] H (.str<|a' x) (H++mQ x)
def jy(h:x.length+y.length<=1000000):bin .Add (.str x) (.str y) H=some (.ok (.str<|x++y) H):=by show as (cq<|x.length+y.length) (rt (V.str<|x++y) H)=_;exact Y (g9 h) rfl
def Qu:h5 (.str x) none (some<|.int<|-((1:Nat):Int)) H=some (.ok (.str x.dropLast) H):=by show some (R.ok (V.str<|(x.drop 0).take<|x.length-1-0) H)=_;exact Y iO<|Y List.dropLast_eq_take rfl
def fL(h I:List Nat):List Nat:=aB (b2 (h++I) [13]) [13] []
def bW(h I:List Nat):List Nat:=aB (b2 (h++I) [13]) (h++I).dropLast<|h++I
section
variable{G:aq}
def Rk(kZ:v4 O)(aE:x.drop k=r)(aP:k<=x.length)(hm:x.length<=bg)(u:h.length+I.length<=20000):Do j O 582 [.ref 0,.str I] (ay x k p h f::G) .none (ay (r++a' (bW h I)) 0 p (fL h I) f::(G++mQ (bW h I))):=by
 have hm:x.length<=100000:=hm;have hl:(bW h I).length<=20000:=cv (P:=λC:List Nat=>C.length<=20000) (λ_=>by refine Y List.length_dropLast<|Y a0 ?_;exact a7 u (gq (h.length+I.length) 1)<|by simp+arith) λ_=>by refine Y a0 ?_;exact aR u<|by simp+arith
 have N:=nJ 10<|bf [13,10] (bW h I) 0 [];have J:=kE [13,10] (bW h I) 0 [];have T:ca (bf [13] (dN<|bW h I) 0 [])+(bf [13] (dN<|bW h I) 0 []).length<=0+2*(dN<|bW h I).length+1:=kE [13] (dN<|bW h I) 0 [];have U:=nJ 10<|bf [13] (dN<|bW h I) 0 [];have E:=jy (x:=h) (y:=I) (H:=ay x k p h f::G)<|av ‹_›<|by decide
 have e1:∀h':List Nat,_:=λh'=>Jc (H:=ay x k p h' f::G) aE aP hm;have D:∀h':List Nat,_:=λh'=>jy (x:=r) (y:=a'<|bW h I) (H:=ay x k p h' f::(G++mQ (bW h I))) (by
  have a:r.length<=x.length:=by refine Y (gV aE aP) ?_;exact bR ..
  have b:(dN<|bW h I).length<=40001:=av N<|av J<|by show 0+2*_+1<=_;exact a7 hl hl<|by simp+arith
  have c:(a'<|bW h I).length<=80003:=av U<|av T<|a7 b b<|by simp+arith
  exact cS hm a c<|by simp+arith)
 have m:∀h':List Nat,_:=λh'=>kZ (x:=bW h I) (ay x k p h' f::G)<|av hl<|by decide
 clear aE aP hm u hl J N T U kZ;unfold fL;unfold bW at D m⊢;revert D m;rcases z:b2 (h++I) [13];intro D m;have e1:=e1 [];have D:=D [];have m:=m [];exact am [(bo,V.ref 0),(io,V.str I)] rfl<|sk 3<|aj Q.m E rfl<|sk 7<|aj Q.b z rfl<|sk 4<|aj Q.m e1 rfl<|sk 2<|aj Q.m m rfl<|aj Q.m D rfl rfl;intro D m;have s:=Qu (x:=h++I) (H:=ay x k p [13] f::G);have e1:=e1 [13];have D:=D [13];have m:=m [13];exact am [(bo,V.ref 0),(io,V.str I)] rfl<|sk 3<|aj Q.m E rfl<|sk 7<|aj Q.b z rfl<|sk 5<|aj Q.m s rfl<|sk 5<|aj Q.m e1 rfl<|sk 2<|aj Q.m m rfl<|aj Q.m D rfl rfl
def Kz(kZ:v4 O)(hm:x.length<=bg)(u:h.length<=1):Do j O 596 [.ref 0] (ay x k p h f::G) .none (ay (x++a' h) k p [] f::(G++mQ h)):=by
 have hm:x.length<=100000:=hm;have C:=nJ 10<|bf [13,10] h 0 [];have z:=kE [13,10] h 0 [];have D:ca (bf [13] (dN h) 0 [])+(bf [13] (dN h) 0 []).length<=0+2*(dN h).length+1:=kE [13] (dN h) 0 [];have E:=nJ 10<|bf [13] (dN h) 0 [];have I:=jy (x:=x) (y:=a' h) (H:=ay x k p h f::(G++mQ h)) (by
  have b:(dN h).length<=40001:=av C<|av z<|by show 0+2*_+1<=_;exact a7 u u<|by simp+arith
  have c:(a' h).length<=80003:=av E<|av D<|a7 b b<|by simp+arith
  exact a7 hm c<|by simp+arith)
 have m:=kZ (x:=h) (ay x k p h f::G)<|av u<|by decide
 clear hm u z C D E kZ;exact am [(bo,V.ref 0)] rfl<|sk 5<|aj Q.m m rfl<|aj Q.m I rfl rfl
end
def bL(st:Nat)(aa:V):au:=.inst 899 [(mq,.ref 1),(lX,.none),(k6,.ref 10),(mg,.int st),(lV,.bool false),(mJ,aa)]
def rest(nm:List V):aq:=[.inst 828 [(eJ,.ref 2),(eR,.ref 7),(iz,.ref 9)],.inst 1070 [(eh,.ref 3),(ko,.ref 4),(jg,.ref 5),(kR,.ref 6)],.inst 921 [(iX,.int 20),(iy,.int 100000)],.dict [],.dict [],.dict [],.inst 377 [(eh,.ref 3),(gU,.int 0),(gZ,.ref 8)],.list [],.list nm]
def ak(st:Nat)(nm:List V)(E:au)(G:aq):aq:=bL st .none::(rest nm++(E::G))
def cU(st:Nat)(nm:List V)(E:au)(i:Nat)(G:aq):aq:=bL st (.ref i)::(rest nm++(E::G))
abbrev gI(fd:V)(v:V):Loc:=[(bo,.ref 0),(e2,fd),(ph,.ref 11),(Fd,v)]
noncomputable abbrev pv(kd tx:List Nat)(p:Nat):V:=.tup [.str kd,.str tx,.int p]
noncomputable def fo:List (List Nat×Nat)->Nat->aq|[],_=>[]|c::l,i=>.exc 150 (some<|i+1) (match l with|[]=>none|_::_=>some<|i+2)::.dict [(dR,.str c.1),(b7,.int c.2)]::fo l (i+2)
def Md:∃x,(G++fo (c::l) i)[G.length]? =some (.exc 150 (some<|i+1) x)/\(G++fo (c::l) i)[G.length+1]? =some (.dict [(dR,.str c.1),(b7,.int c.2)]):=by refine a9 (match l with|[]=>none|_::_=>some<|i+2) ?_ ?_;refine Y (dp<|ba _)<|Y (ew ..) ?_;rfl;refine Y (dp<|bE ..)<|Y (ez ..) ?_;rfl
section
variable{O:ap}{G:aq}{st p:Nat}{tx:List Nat}{ce:List V}
def KH{i:Nat}(h:H[i]? =some (.list m))(f:Nat.beq i 11=false)(y:l.length+m.length<=1000000):eH ja 11 l [.ref i] H=some (.ok .none<|H.set 11<|.list<|l++m):=by show ip H[i]? (λn=>as (cq (l.length+n.length)&&!Nat.beq i 11)<|rt V.none<|H.set 11<|.list<|l++n)=_;refine Y h ?_;show as (cq (l.length+m.length)&&!Nat.beq i 11) _=_;exact Y (g9 y)<|Y f rfl
def Gj(aw:O none (.fn 875) [.ref 0,.str kd,.str tx,.int p] (ak st nm (ay x k q h f)<|.list fd::G)=some (.ok (.ref<|G.length+12)<|ak ae u (ay x k q h f)<|.list fd::(G++[.list ce])))(aG:O none (.fn 610) [.ref 10,.bool E] (ak ae u (ay x k q h f)<|.list (fd++ce)::(G++[.list ce]))=some (.ok v<|ak ae u (ay I z C h D)<|.list (fd++ce)::(G++[.list ce])))(y:fd.length+ce.length<=1000000):d0 O (j+40) 868 3 (gI (.bool E)<|pv kd tx p) (ak st nm (ay x k q h f)<|.list fd::G)=d0 O (j+39) 868 3 (gI (.bool E) v) (ak ae u (ay I z C h D)<|.list (fd++ce)::(G++[.list ce])):=by
 have g:(ak ae u (ay x k q h f)<|.list fd::(G++[.list ce]))[G.length+12]? =some (.list ce):=by show(G++[.list ce])[G.length]? =_;exact cX
 have x:=KH (l:=fd) g rfl y;clear g y;exact fB<|sk 13<|aj Q.m aw rfl<|aj Q.m x rfl<|sk 4<|aj Q.m aG rfl rfl
def Lp:d0 O (j+40) 868 3 (gI (.bool E) .none) H=some (.ok .next (gI (.bool E) .none) H):=by exact fB rfl
def LO(h:H[i]? =some (.exc 150 a b))(loc):nN tab (some i) loc (.ref i) H=some (.exc i loc H):=by show cJ (ob H[i]? λo=>ob (p1 o) λp=>ob (bi p.1 tab.sub) λ_=>lR (some i) i H p) _=_;refine Y h ?_;show cJ (match Nat.beq i i with|true=>some (i,H)|false=>_) _=_;exact Y (em ..) rfl
def Mq(aw:O none (.fn 875) [.ref 0,.str kd,.str tx,.int p] (ak st nm (ay x k q h f)<|.list fd::G)=some (.exc (G.length+12)<|ak ae u (ay x k q h f)<|.list fd::(G++fo (c::ch) (G.length+12)))):d0 O (j+40) 868 3 (gI (.bool E)<|pv kd tx p) (ak st nm (ay x k q h f)<|.list fd::G)=some (.exc (G.length+12) (gI (.bool E)<|pv kd tx p)<|cU ae u (ay x k q h f) (G.length+12)<|.list fd::(G++fo (c::ch) (G.length+12))):=by refine aZ (Md (G:=G) (c:=c) (l:=ch) (i:=G.length+12)) λy g _=>?_;generalize G++fo (c::ch) (G.length+12)=af at aw g⊢;have z:=g;have C:=LO (H:=cU ae u (ay x k q h f) (G.length+12)<|.list fd::af) (i:=G.length+12) g;clear g;exact fB<|sk 13<|aj Q.m aw rfl<|aj Q.o z rfl<|sk 5<|aj Q.s (C _) rfl rfl
end
inductive mZ where|st (n:List Nat) (l:List (List Nat×List Nat))|en (n:List Nat)
noncomputable def ir:List (List Nat×List Nat)->List V|[]=>[]|p::l=>.tup [.str p.1,.str p.2]::ir l
def mZ.kd:mZ->List Nat|.st _ _=>d6|.en _=>hD
noncomputable def mZ.l:mZ->List V|.st n l=>[.str n,.tup<|ir l]|.en n=>[.str n]
set_option genCtorIdx true in
inductive cL where|tx (t:List Nat)|ot (o:mZ)
def cL.aA:cL->V|.tx t=>.tup [.str ao,.str t]|.ot o=>.tup<|.str o.kd::o.l
noncomputable def cM:List cL->Nat
 |[]=>0
 |e::r=>match e with|.tx t=>t.length+cM r|.ot _=>cM r
noncomputable def aD:List cL->List V|[]=>[]|e::l=>e.aA::aD l
structure ju where
 st:Nat
 nm:List V
 r:List Nat
 s:Seen
 p:Nat
set_option genCtorIdx true in
inductive Er where|ok (l:List cL) (st:Nat) (nm:List V)|bad (pl:Nat)
set_option genCtorIdx true in
inductive cb where|ok (l:List cL) (f:ju)|bad (pl:Nat)
def cb.bad.inj(h:cb.bad a=cb.bad b):a=b:=by injection h
def Er.ok.inj(h:Er.ok a c e=Er.ok b d z):a=b/\c=d/\e=z:=by cases h;exact⟨rfl,rfl,rfl⟩
def zo{P:Prop}(e:cb.ok a c=cb.ok b d)(k:a=b->c=d->P):P:=by cases e;exact k rfl rfl
noncomputable def cb.add(l:List cL):cb->cb|.ok k f=>.ok (l++k) f|.bad pl=>.bad pl
abbrev g7:=Nat->List V->List Nat->List Nat->Nat->Option Er
def nU(r:List Nat):Seen->Bool|.no=>true|.pos _=>pre dq r||pre [60,47] r|.tag z q=>!pre dq r&&(!pre [60,47] r&&(Nat.ble q.length 1&&Nat.ble z r.length))
def c7(r:List Nat)(s:Seen):Bool:=match r with|[]=>true|c::r=>aB (ar [c] [60]) (!pre d7 (c::r)&&(!pre dt (c::r)&&(!pre [60,63] (c::r)&&nU (c::r) s)))<|aB (ar [c] [38]) (!s.hb) true
def To(z:ju->Option cb)(f:ju)(e:Nat):Er->Option cb
 |.bad pl=>some<|.bad pl
 |.ok l st nm=>b6 (Nat.ble l.length 2&&Nat.ble (cM l) 500)<|ob (z ⟨st,nm,f.r.drop e,.no,f.p+e⟩) λo=>some<|o.add l
def kQ(sem:g7)(z:ju->Option cb)(f:ju)(t:Tk):Option cb:=match t.1 with
 |none=>some<|.ok [] ⟨f.st,f.nm,f.r,t.2.2,f.p⟩
 |some kd=>ob (sem f.st f.nm kd (f.r.take t.2.1) f.p)<|To z f t.2.1
noncomputable def dT(sem:g7)(E:Bool)(n:Nat)(f:ju):Option cb:=match n with|0=>none|n+1=>b6 (c7 f.r f.s)<|kQ sem (dT sem E n) f<|bK f.r f.s E
def jm(O:ap)(st:Nat)(nm:List V)(kd tx:List Nat)(p:Nat)(x:List Nat)(k:Nat)(h:List Nat)(q:Nat)(f:V)(fd:List V)(G:aq):Er->Prop|.ok l ae u=>O none (.fn 875) [.ref 0,.str kd,.str tx,.int p] (ak st nm (ay x k q h f)<|.list fd::G)=some (.ok (.ref<|G.length+12)<|ak ae u (ay x k q h f)<|.list fd::(G++[.list<|aD l]))/\aH u|.bad pl=>∃ae u c ch,O none (.fn 875) [.ref 0,.str kd,.str tx,.int p] (ak st nm (ay x k q h f)<|.list fd::G)=some (.exc (G.length+12)<|ak ae u (ay x k q h f)<|.list fd::(G++fo (c::ch) (G.length+12)))/\c.2=pl/\ch.length<=9/\aH u
def vM(sem:g7)(O:ap):Prop:=∀{st:Nat}{nm:List V}{kd tx:List Nat}{p:Nat}{e:Er}(x:List Nat)(k:Nat)(h:List Nat)(q:Nat)(s:Seen)(fd:List V)(G:aq),aH nm->sem st nm kd tx p=some e->jm O st nm kd tx p x k h q s.aA fd G e
def wm(O:ap):Prop:=∀{st:Nat}{nm:List V}{x r h:List Nat}{k p:Nat}{s:Seen}(E:Bool)(G:aq),x.drop k=r->k<=x.length->x.length<=bg->c7 r s=true->
 O none (.fn 610) [.ref 10,.bool E] (ak st nm (ay x k p h s.aA) G)=some (.ok (n9 p r<|bK r s E)<|ak st nm (xO x k p h<|bK r s E) G)
def ow:∀a b,aD (a++b)=aD a++aD b:=by
 intro a;induction a with
 |nil=>intro _;exact rfl
 |cons e a f=>intro b;exact az (e.aA::·)<|f b
def kF:∀a,(aD a).length=a.length:=by
 intro a;induction a with
 |nil=>exact rfl|cons _ a f=>exact az (·+1)<|f
def wQ(e:b6 b m=some r):b=true/\m=some r:=by rcases b;exact aW e;exact⟨rfl,e⟩
def dd{P:Prop}(e:b6 b m=some r)(h:b=true->m=some r->P):P:=aS (wQ e) h
def ny(h:(!b)=true):b=false:=by induction b with|true=>exact ff h|false=>rfl
def PL(h:nU r s=true):ln r s:=by
 rcases s with _|z|⟨z,q⟩
 .exact⟨λ_=>rfl,λ_=>rfl,trivial⟩
 exact⟨λ_=>rfl,λ_=>rfl,pw.mp h⟩;exact zb h λu h=>zb h λy h=>zb h λC f=>⟨λe=>(by rw[e]at u;exact ff u),λe=>(by rw[e]at y;exact ff y),bG C,bG f⟩
def t7(h:c7 r s=true):xA r s:=by
 rcases r with _|⟨c,r⟩
 .trivial
 have h:aB (ar [c] [60]) (!pre d7 (c::r)&&(!pre dt (c::r)&&(!pre [60,63] (c::r)&&nU (c::r) s))) (aB (ar [c] [38]) (!s.hb) true)=true:=h;refine⟨λe=>?_,λe f=>?_⟩;rw[e]at h;exact zb h λu h=>zb h λy h=>zb h λC h=>⟨⟨ny u,ny y,ny C⟩,PL h⟩;rw[e,f]at h;exact ny h
def kz(n:Nat)(t:Tk):Prop:=t.2.1<=n/\(t.1=none->t.2.1=0)/\(∀kd,t.1=some kd->t.2.2=.no)
def um(h:e<=n):kz n (some kd,e,.no):=⟨h,λh=>(nomatch h),λ_ _=>rfl⟩
def x5:kz n (none,0,s):=⟨bJ _,λ_=>rfl,λ_ h=>(nomatch h)⟩
def y3(h:i5 r z):kz r.length (c5 r E z):=by
 have w:∀s,kz r.length (aB E (some cP,r.length,.no) (none,0,s)):=λs=>cv (P:=kz r.length) (λ_=>um<|ba _) λ_=>x5;match z with
 |none=>exact w .no|some (kd,none,s)=>exact w s|some (kd,some e,s)=>exact um<|h _ _ _ rfl
def w'(h:c7 r s=true):kz r.length (bK r s E):=by
 have o:=t7 h;match r,o with
 |[],_=>exact x5|c::r,o=>exact cv (P:=kz (c::r).length) (λe=>y3<|Dm (bR ..) (o.1 e).2) λ_=>cv (P:=kz (c::r).length) (λ_=>y3 λkd e s h=>xv (w:=[59]) (aQ<|az (λo=>o.map (·.2.1)) h)<|ba 1) λ_=>cv (P:=kz (c::r).length) (λ_=>um wO) λ_=>x5
section
variable{O:ap}{sem:g7}{E:Bool}(I:vM sem O)(D:wm O)
def Comes(O:ap)(j:Nat)(E:Bool)(v:V)(H:aq)(x h:List Nat)(fd:List V):cb->Prop|.ok l f=>∃k G,aH f.nm/\x.drop k=f.r/\k<=x.length/\d0 O (j+40) 868 3 (gI (.bool E) v) H=some (.ok .next (gI (.bool E) .none)<|ak f.st f.nm (ay x k f.p h f.s.aA)<|.list (fd++aD l)::G)|.bad pl=>∃st nm k q fd G c ch loc,(c.2=pl/\ch.length<=9/\aH nm)/\k<=x.length/\d0 O (j+40) 868 3 (gI (.bool E) v) H=some (.exc (G.length+12) loc<|cU st nm (ay x k q h .none) (G.length+12)<|.list fd::(G++fo (c::ch) (G.length+12)))
theorem Comes.step(e:d0 O (j+1+40) 868 3 (gI (.bool E) v) H=d0 O (j+40) 868 3 (gI (.bool E) z) H')(c:Comes O j E z H' x h (fd++aD l) o):Comes O (j+1) E v H x h fd (o.add l):=by rcases o with⟨k,f⟩|pl;refine kD c λI G D u y C=>⟨I,G,D,u,y,?_⟩;exact Y e<|Y C<|Y (br ..)<|Y (ow ..) rfl;exact gv c λst nm k q fd J=>D6 J λG c ch loc D u y=>⟨st,nm,k,q,fd,G,c,ch,loc,D,u,e.trans y⟩
include I D
theorem LU(hm:x.length<=bg):∀n j f k fd(G:aq) o,n<=j->fd.length+2*n<=1000000->x.drop k=f.r->k<=x.length->aH f.nm->dT sem E n f=some o->Comes O j E (n9 f.p f.r<|bK f.r f.s E) (ak f.st f.nm (xO x k f.p h<|bK f.r f.s E)<|.list fd::G) x h fd o:=by
 intro n;induction n with
 |zero=>exact λ_ _ _ _ _ _ _ _ _ _ _ e=>nomatch e
 |succ n ih=>
  intro j f k fd G o hj z aE aP hN e;obtain⟨j,rfl⟩:∃j',j=j'+1:=⟨j-1,(bx<|av (bR 1 n) hj).symm⟩;refine dd e λc e=>cZ (w' (E:=E) c) λle C U=>?_;generalize bK f.r f.s E=t at e le C U⊢;obtain⟨kd,N,J⟩:=t;rcases kd with _|kd;obtain rfl:=aQ e;clear le U e;obtain rfl:N=0:=C rfl;refine⟨k,G,hN,aE,aP,?_⟩;have l:=Lp (O:=O) (j:=j+1) (E:=E) (H:=ak f.st f.nm (ay x k f.p h J.aA)<|.list fd::G);exact Y (show fd++aD []=fd from be _) l
  .refine aK e λer he e=>?_;clear C;obtain rfl:J=.no:=U kd rfl;have aw:=I x (k+N) h (f.p+N) .no fd G hN he;rcases er with⟨l,ae,u⟩|pl
   .refine aS aw λaw ag=>dd e λhl e=>aK e λo' e1 eo=>?_;clear e;clear e;obtain rfl:=aQ eo;have hl:=bG (cY.mp hl).1;have af:x.drop (k+N)=f.r.drop N:=Y aE.symm<|Y eY rfl;have ab:k+N<=x.length:=by refine Y (gV aE aP) ?_;exact e3 le k
    have aa:fd.length+(aD l).length+2*n<=1000000:=av (by refine Y (kF ..)<|Y (gX ..)<|Y (cz ..)<|Y (cF (2*n) ..) ?_;exact e3 (iB hl _) _) z;induction y:n using Nat.casesOn with
    |zero=>rw[y]at e1;exact aW e1
    |succ n'=>
    have W:=e1;rw[y]at W;refine dd W λT _=>?_;have aG:=D (st:=ae) (nm:=u) (h:=h) (p:=f.p+N) (s:=.no) E (.list (fd++aD l)::(G++[.list<|aD l])) af ab hm T;exact Comes.step (Gj aw aG<|av (bE ..) aa)<|ih j ⟨ae,u,f.r.drop N,.no,f.p+N⟩ (k+N) (fd++aD l) (G++[au.list<|aD l]) o' (iV hj) (by refine Y a0 ?_;exact aa) af ab ag e1
   obtain rfl:=aQ e;exact yK aw λae u T ch aw z'=>⟨ae,u,k+N,f.p+N,fd,G,T,ch,_,z',by refine Y (gV aE aP) ?_;exact e3 le k,Mq aw⟩
end
def dA(N:List<|List Nat):List cL:=match N with|[]=>[]|p::N=>[.tx<|jn []<|p::N]
noncomputable def aJ:List cL->List (List Nat)->List cL
 |[],N=>dA N
 |e::r,N=>match e with
  |.tx t=>aJ r<|N++[t]
  |.ot o=>dA N++.ot o::aJ r []
def AJ(O:ap):Prop:=∀{st:Nat}{nm:List V}{E:au}{l:List cL}(G:aq),l.length<=bg->cM l<=bg->O none (.fn 755) [.ref 11] (ak st nm E<|.list (aD l)::G)=some (.ok (.ref<|G.length+12)<|ak st nm E<|.list (aD l)::(G++[.list<|aD<|aJ l []]))
def FT(O:ap):Prop:=∀{st:Nat}{nm:List V}{x r h I:List Nat}{k p:Nat}{s:Seen}{aa:V}(G:aq),x.drop k=r->k<=x.length->x.length<=bg->h.length+I.length<=20000->
 O none (.fn 582) [.ref 10,.str I] (bL st aa::(rest nm++(ay x k p h s.aA::G)))=some (.ok .none<|bL st aa::(rest nm++(ay (r++a' (bW h I)) 0 p (fL h I) s.aA::G)))
def H6(O:ap):Prop:=∀{st:Nat}{nm:List V}{x h:List Nat}{k p:Nat}{s:Seen}{aa:V}(G:aq),x.length<=bg->h.length<=1->
 O none (.fn 596) [.ref 10] (bL st aa::(rest nm++(ay x k p h s.aA::G)))=some (.ok .none<|bL st aa::(rest nm++(ay (x++a' h) k p [] s.aA::G)))
section
variable{O:ap}{st:Nat}{G:aq}
def Pz(aw:O none (.fn 610) [.ref 10,.bool E] (ak st nm (ay x k p h f) [.list []])=some (.ok v H))(aG:d0 O (j+59) 868 3 (gI (.bool E) v) H=some (.ok .next (gI (.bool E) .none)<|ak ae u (ay C y q h z)<|.list (aD l)::G))(da:O none (.fn 755) [.ref 11] (ak ae u (ay C y q h z)<|.list (aD l)::G)=some (.ok (.ref<|G.length+12)<|ak ae u (ay C y q h z)<|.list (aD l)::(G++[.list<|aD<|aJ l []]))):Do j O 868 [.ref 0,.bool E] (ak st nm (ay x k p h f) []) (.ref<|G.length+12) (ak ae u (ay C y q h z)<|.list (aD l)::(G++[.list<|aD<|aJ l []])):=by exact am [(bo,V.ref 0),(e2,V.bool E)] rfl<|sk 9<|aj Q.m aw rfl<|sk 1<|aj Q.s aG rfl<|sk 2<|aj Q.m da rfl rfl
def Pf(aw:O none (.fn 610) [.ref 10,.bool E] (ak st nm (ay x k p h f) [.list []])=some (.ok v H))(aG:d0 O (j+59) 868 3 (gI (.bool E) v) H=some (.exc i loc H')):aF (j+60) tab O none (.fn 868) [.ref 0,.bool E] (ak st nm (ay x k p h f) [])=some (.exc i H'):=by exact am [(bo,V.ref 0),(e2,V.bool E)] rfl<|sk 9<|aj Q.m aw rfl<|sk 1<|aj Q.s aG rfl rfl
def Mt:aF (j+60) tab O none (.fn 868) [.ref 0,.bool E] (cU st nm (ay x k p h f) 11<|fo (c::ch) 11)=some (.exc 11<|cU st nm (ay x k p h f) 11<|fo (c::ch) 11):=by exact am [(bo,V.ref 0),(e2,V.bool E)] rfl rfl
end
def Tells(x h:List Nat)(m:M V):cb->Prop|.ok l f=>∃k G,aH f.nm/\x.drop k=f.r/\k<=x.length/\m=some (.ok (.ref<|G.length+12)<|ak f.st f.nm (ay x k f.p h f.s.aA)<|.list (aD l)::(G++[.list<|aD<|aJ l []]))|.bad pl=>∃st nm k q fd G c ch,(c.2=pl/\ch.length<=9/\aH nm)/\k<=x.length/\m=some (.exc (G.length+12)<|cU st nm (ay x k q h .none) (G.length+12)<|.list fd::(G++fo (c::ch) (G.length+12)))
theorem s2:∀a b,cM (a++b)=cM a+cM b
 |[],b=>(eW _).symm|.tx t::a,b=>by show t.length+cM (a++b)=t.length+cM a+cM b;exact Y (s2 a b)<|Y (cz ..) rfl
 |.ot _::a,b=>s2 a b
def si:∀{n f ab l},dT sem E n f=some (.ok l ab)->l.length<=2*n/\cM l<=500*n:=by
 intro n;induction n with
 |zero=>exact λe=>nomatch e|succ n D=>intro f ab l e;refine dd e λ_ e=>?_;generalize bK f.r f.s E=t at e;obtain⟨kd,T,J⟩:=t;rcases kd with _|kd;refine zo (aQ e) λN _=>?_;clear e;subst N;exact⟨bJ _,bJ _⟩;refine aK e λk _ e=>?_;rcases k with⟨I,ae,u⟩|pl;refine dd e λhl e=>aK e λo' e1 j=>?_;rcases o' with⟨O,U⟩|pl;exact zo (aQ j) λh _=>aS (D e1) λy z=>zb hl λC x=>Y h.symm<|Y a0<|Y (s2 ..)<|Y (gX ..)<|Y (gX ..)<|Y (cF ..)<|Y (cF (cM I) ..) ⟨mO y<|bG C,mO z<|bG x⟩;exact nomatch aQ j;exact nomatch aQ e
section
variable{O:ap}
def TM(J:vM sem O)(D:wm O)(aa:AJ O)(hm:x.length<=bg)(I:n<=j)(u:n<=200)(aE:x.drop k=f.r)(aP:k<=x.length)(W:aH f.nm)(e:dT sem E n f=some o):Tells x h (aF (j+60) tab O none (.fn 868) [.ref 0,.bool E]<|ak f.st f.nm (ay x k f.p h f.s.aA) []) o:=by
 induction n using Nat.casesOn with
 |zero=>exact aW e|succ n=>
 refine dd e λc _=>?_;have aw:=D (st:=f.st) (nm:=f.nm) (h:=h) (p:=f.p) E [.list []] aE aP hm c;have U:=eg 2 u;have L:=LU (h:=h) J D hm (n+1) (j+19) f k [] [] o (av I<|bE ..) (by refine Y jl<|Y (eW ..) ?_;exact av U<|by decide) aE aP W e;rcases o with⟨l,ab⟩|pl;exact kD L λT G N y z C=>⟨T,G,N,y,z,Pz aw C<|aa G (av (si e).1<|av U<|by decide)<|av (si e).2<|av (eg 500 u)<|by decide⟩;exact gv L λst nm T q fd ae=>D6 ae λG c ch loc N y z=>⟨st,nm,T,q,fd,G,c,ch,N,y,Pf aw z⟩
section
variable{st:Nat}{G:aq}
def QZ(aw:O none (.fn 582) [.ref 10,.str I] (bL st aa::(rest nm++(ay x k p h f::G)))=some (.ok .none<|bL st aa::(rest nm++(ay z y p h' f::G))))(aG:O none (.fn 868) [.ref 0,.bool false] (bL st aa::(rest nm++(ay z y p h' f::G)))=some (.ok v u)):aF (j+60) tab O none (.fn 854) [.ref 0,.str I] (bL st aa::(rest nm++(ay x k p h f::G)))=some (.ok v u):=by exact am [(bo,V.ref 0),(io,V.str I)] rfl<|sk 4<|aj Q.m aw rfl<|sk 2<|aj Q.m aG rfl rfl
def zN(aw:O none (.fn 582) [.ref 10,.str I] (bL st aa::(rest nm++(ay x k p h f::G)))=some (.ok .none<|bL st aa::(rest nm++(ay z y p h' f::G))))(aG:O none (.fn 868) [.ref 0,.bool false] (bL st aa::(rest nm++(ay z y p h' f::G)))=some (.exc i u)):aF (j+60) tab O none (.fn 854) [.ref 0,.str I] (bL st aa::(rest nm++(ay x k p h f::G)))=some (.exc i u):=by exact am [(bo,V.ref 0),(io,V.str I)] rfl<|sk 4<|aj Q.m aw rfl<|sk 2<|aj Q.m aG rfl rfl
def Qf(aw:O none (.fn 596) [.ref 10] (bL st aa::(rest nm++(ay x k p h f::G)))=some (.ok .none<|bL st aa::(rest nm++(ay z y p h' f::G))))(aG:O none (.fn 868) [.ref 0,.bool true] (bL st aa::(rest nm++(ay z y p h' f::G)))=some (.exc i u)):aF (j+60) tab O none (.fn 861) [.ref 0] (bL st aa::(rest nm++(ay x k p h f::G)))=some (.exc i u):=by exact am [(bo,V.ref 0)] rfl<|sk 3<|aj Q.m aw rfl<|sk 2<|aj Q.m aG rfl rfl
def eq_nil(y:H[i]? =some (.list []))(z:H[n]? =some (.list [])):cN .NotEq (.ref i) (.ref n) H=some false:=by show(ob (some n) λj=>oQ (same 39 H) H[i]? H[j]?).map (!·)=_;show(oQ (same 39 H) H[i]? H[n]?).map (!·)=_;exact Y y<|Y z rfl
def Th{I:aq}(aw:O none (.fn 596) [.ref 10] (bL st .none::(rest nm++(ay x k p h f::G)))=some (.ok .none<|bL st .none::(rest nm++(ay E D p h' f::G))))(aG:O none (.fn 868) [.ref 0,.bool true] (bL st .none::(rest nm++(ay E D p h' f::G)))=some (.ok v<|bL 3 .none::(rest []++(ay C y q u z::I)))):aF (j+60) tab O none (.fn 861) [.ref 0] (bL st .none::(rest nm++(ay x k p h f::G)))=some (.ok v<|bL 3 .none::(rest []++(ay C y q u z::(I++[.list []])))):=by have c:=eq_nil (H:=bL 3 .none::(rest []++(ay C y q u z::(I++[.list []])))) (i:=9) (n:=I.length+11) rfl cX;exact am [(bo,V.ref 0)] rfl<|sk 3<|aj Q.m aw rfl<|sk 2<|aj Q.m aG rfl<|sk 4<|aj Q.c c rfl rfl
end
end
def vp(f:H[i]? =some (.list l))(h:H[n]? =some (.list [])):cN .NotEq (.ref i) (.ref n) H=some (!Nat.beq l.length 0):=by show(oQ (same 39 H) H[i]? H[n]?).map (!·)=_;refine Y f<|Y h ?_;cases l<;>rfl
def tV(h:l.length<1000000):eH ic i l [v] H=some (.ok .none<|H.set i<|.list<|l++[v]):=by show as (cq<|l.length+1) _=_;exact Y (g9 h) rfl
abbrev fU(m:Nat)(tl:Loc):Loc:=(h8,.ref 0)::(ph,.ref 1)::(pe,.ref<|m+2)::tl
section
variable{G:aq}
def O1(he:es[k]? =some (.tup [.str ao,.str t]))(hm:G[m]? =some (.list<|N.map V.str))(h:N.length<1000000):bu O (j+40) 755 1 (.ref 0) k (fU m tl) (.list es::.list fd::G)=bu O (j+39) 755 1 (.ref 0) (k+1) (fU m<|put kj (.tup [.str ao,.str t]) tl) (.list es::.list fd::G.set m (.list<|(N++[t]).map V.str)):=by
 have f:=el (x:=kj) (v:=.tup [.str ao,.str t]) (l:=tl);have u:=az some he;have e:ob (dn (au.list es::au.list fd::G)[m+2]?) (λl=>eH ic (m+2) l [.str t]<|.list es::.list fd::G)=some (.ok .none<|.list es::.list fd::G.set m (.list<|(N++[t]).map V.str)):=by show ob (dn G[m]?) _=_;refine Y hm ?_;show as (cq<|(N.map V.str).length+1) _=_;refine Y (g9<|by rw[p'];exact h)<|Y List.map_append ?_;rfl
 have g:dy tab O none (.ref<|m+2) ic (.list es::.list fd::G)=some λD H=>ob (dn H[m+2]?) λl=>eH ic (m+2) l D H:=by show ob G[m]? _=_;exact Y hm rfl
 clear he h;exact fc u<|sk 1<|aj Q.v f rfl<|sk 4<|aj Q.g g rfl<|aj Q.v f rfl<|sk 1<|aj Q.m e rfl rfl
def Mu(he:es[k]? =some (.tup<|.str kd::l))(aP:ar kd ao=false)(hm:G[m]? =some (.list []))(h:fd.length<1000000):bu O (j+40) 755 1 (.ref 0) k (fU m tl) (.list es::.list fd::G)=bu O (j+39) 755 1 (.ref 0) (k+1) (fU m<|put kj (.tup<|.str kd::l) tl) (.list es::.list (fd++[.tup<|.str kd::l])::(G++[.list []])):=by have f:=el (x:=kj) (v:=.tup<|.str kd::l) (l:=tl);have u:=az some he;have c:=vp (H:=.list es::.list fd::(G++[.list []])) (i:=m+2) (n:=G.length+2) (l:=[]) (by show(G++[au.list []])[m]? =_;refine Y (dO (b4.mp hm).1) ?_;exact hm) cX;have a:=tV (H:=.list es::.list fd::(G++[.list []])) (i:=1) (v:=.tup<|.str kd::l) h;clear he hm h;exact fc u<|sk 1<|aj Q.v f rfl<|sk 1<|aj (λb=>Q.c<|some b) aP rfl<|sk 2<|aj Q.c c rfl<|sk 3<|aj Q.v f rfl<|aj Q.m a rfl rfl
def QC(he:es[k]? =some (.tup<|.str kd::l))(aP:ar kd ao=false)(hm:G[m]? =some (.list<|(p::N).map V.str))(h:fd.length+1<1000000)(z:ca (p::N)<=1000000):bu O (j+40) 755 1 (.ref 0) k (fU m tl) (.list es::.list fd::G)=bu O (j+39) 755 1 (.ref 0) (k+1) (fU (G.length+1)<|put kj (.tup<|.str kd::l) tl) (.list es::.list (fd++[.tup [.str ao,.str<|jn []<|p::N]]++[.tup<|.str kd::l])::(G++[.list []]++[.list []])):=by
 have f:=el (x:=kj) (v:=.tup<|.str kd::l) (l:=tl);have u:dC (.ref 0) k (.list es::.list fd::G)=some (some<|.tup<|.str kd::l):=az some he;have g:∀o:au,(G++[o])[m]? =some (.list<|(p::N).map V.str):=λo=>by refine Y (dO (b4.mp hm).1) ?_;exact hm
 have c:=vp (H:=.list es::.list fd::(G++[.list []])) (i:=m+2) (n:=G.length+2) (g _) cX;have c1:=rC (x:=[]) (H:=.list es::.list fd::(G++[.list []])) (i:=m+2) (l:=p::N) (g _)<|by show _+_*0<=_;refine Y (Nat.mul_zero ..) ?_;exact z
 have a:=tV (H:=.list es::.list fd::(G++[.list []])) (i:=1) (v:=.tup [.str ao,.str<|jn []<|p::N])<|sC h;have a1:=tV (H:=.list es::.list (fd++[.tup [.str ao,.str<|jn []<|p::N]])::(G++[.list []]++[.list []])) (i:=1) (l:=fd++[.tup [.str ao,.str<|jn []<|p::N]]) (v:=.tup<|.str kd::l)<|by refine Y a0 ?_;exact h
 have e:(G++[au.list []]).length=G.length+1:=a0;have C:∀n,n=G.length+1->bu O (j+40) 755 1 (.ref 0) k (fU m tl) (.list es::.list fd::G)=bu O (j+39) 755 1 (.ref 0) (k+1) (fU n<|put kj (.tup<|.str kd::l) tl) (.list es::.list (fd++[.tup [.str ao,.str<|jn []<|p::N]]++[.tup<|.str kd::l])::(G++[.list []]++[.list []])):=by intro n y;obtain rfl:n=(G++[au.list []]).length:=y.trans e.symm;clear he hm h z g e y;exact fc u<|sk 1<|aj Q.v f rfl<|sk 1<|aj (λb=>Q.c<|some b) aP rfl<|sk 2<|aj Q.c c rfl<|sk 5<|aj Q.m c1 rfl<|aj Q.m a rfl<|sk 3<|aj Q.v f rfl<|aj Q.m a1 rfl rfl
 exact C _ rfl
end
def mZ.ne(o:mZ):ar o.kd ao=false:=by cases o<;>rfl
def T5:∀a b,ca (a++b)=ca a+ca b:=by
 intro a;induction a with
 |nil=>intro b;exact(eW _).symm
 |cons x a f=>intro b;show x.length+ca (a++b)=x.length+ca a+ca b;exact Y (f b)<|Y (cz ..) rfl
def lI(O:ap)(j:Nat)(es:List V)(k m:Nat)(tl:Loc)(fd:List cL)(G:aq)(out:List cL):Prop:=∃f h T u x,bu O (j+40) 755 1 (.ref 0) k (fU m tl) (.list es::.list (aD fd)::G)=some (.ok .next (fU T x)<|.list es::.list (aD f)::u)/\u[T]? =some (.list<|h.map V.str)/\f++dA h=out/\ca h<=bg/\f.length<=2*es.length
def lI.step{G x:aq}(e:bu O (j+1+40) 755 1 (.ref 0) k (fU m tl) (.list es::.list (aD fd)::G)=bu O (j+40) 755 1 (.ref 0) (k+1) (fU T u) (.list es::.list (aD f)::x))(c:lI O j es (k+1) T u f x out):lI O (j+1) es k m tl fd G out:=by exact Ak c λa b c d t h r=>⟨a,b,c,d,t,e.trans h,r⟩
def SV(W:es.length<=bg):∀l k m j fd N G tl,es.drop k=aD l->k<=es.length->l.length<=j->G[m]? =some (.list<|N.map V.str)->fd.length<=2*k->N.length<=k->ca N+cM l<=bg->lI O j es k m tl fd G (fd++aJ l N):=by
 intro l;induction l with
 |nil=>intro k m j fd N G tl hd ab _ hm f _ h;have hl:=oz hd;refine⟨fd,N,m,G,tl,?_,hm,rfl,h,?_⟩;exact kS<|az some<|eL hl;exact av f<|eg 2 ab
 |cons e r D=>
  intro k m j fd N G tl hd _ I hm f x h;obtain⟨j,rfl⟩:∃j',j=j'+1:=⟨j-1,(bx<|av (bR 1 _) I).symm⟩;refine cZ (gs (c:=e.aA) hd) λu z aP=>?_;have C:=iV I;have y:k<100000:=cu aP W;have aa:fd.length<=2*(k+1):=av f<|eg 2<|Nat.le_succ k;rcases e with t|o;refine lI.step (O1 u hm<|a7 x y<|by simp+arith) (D (k+1) m j fd (N++[t]) _ _ z aP C (qZ (b4.mp hm).1) aa (by refine Y a0 ?_;exact fv x) ?_);exact Y (T5 ..)<|av (by show ca N+(t.length+0)+cM r<=ca N+(t.length+cM r);rw[Nat.add_zero,cz];exact ba _) h
  .have T:=o.ne;have E:(aD fd).length<=2*k:=by refine Y (kF ..) ?_;exact f
   rcases N with _|⟨p,N⟩
   .have e1:aD fd++[V.tup<|.str o.kd::o.l]=aD (fd++[.ot o]):=by exact Y (ow ..) rfl
    have L:=Mu (O:=O) (j:=j+1) (tl:=tl) u T hm (fd:=aD fd)<|cS y y E<|by simp+arith
    rw[e1]at L;have c:=D (k+1) m j (fd++[.ot o]) [] (G++[.list []]) (put kj (.tup<|.str o.kd::o.l) tl) z aP C (by refine Y (dO (b4.mp hm).1) ?_;exact hm) (by refine Y a0 ?_;show _+1<=_;exact aR f<|by simp+arith) (bJ _)<|av (a4 rfl) h;rw[br]at c;exact lI.step L c
   .have e1:aD fd++[V.tup [.str ao,.str<|jn []<|p::N]]++[V.tup<|.str o.kd::o.l]=aD (fd++(dA (p::N)++[.ot o])):=by exact Y (ow ..) (Y (br ..) rfl)
    have J:ca (p::N)+cM r<=100000:=h;have L:=QC (O:=O) (j:=j+1) (tl:=tl) u T hm (fd:=aD fd) (cS y y E<|by simp+arith)<|aR J<|by simp+arith
    rw[e1]at L;have c:=D (k+1) (G.length+1) j (fd++(dA (p::N)++[.ot o])) [] (G++[.list []]++[.list []]) (put kj (.tup<|.str o.kd::o.l) tl) z aP C (by have:=cX (H:=G++[.list []]) (o:=.list []);rwa [a0]at this) (by refine Y a0 ?_;show _+2<=_;exact aR f<|by simp+arith) (bJ _)<|by show 0+cM r<=100000;exact aR J<|by simp+arith
    have U:fd++(dA (p::N)++[.ot o])++aJ r []=fd++aJ (.ot o::r) (p::N):=by exact Y (br ..)<|Y (br ..) rfl
    rw[U]at c;exact lI.step L c
section
variable{G:aq}
def N1(l:bu O (j+59) 755 1 (.ref 0) 0 (fU 0 []) [au.list es,au.list [],au.list []]=some (.ok .next (fU m tl)<|au.list es::au.list (aD fd)::G))(hm:G[m]? =some (au.list [])):Do j O 755 [.ref 0] [au.list es] (.ref 1) (au.list es::au.list (aD fd)::(G++[au.list []])):=by have c:=eq_nil (H:=au.list es::au.list (aD fd)::(G++[au.list []])) (i:=m+2) (n:=G.length+2) (by show(G++[au.list []])[m]? =_;refine Y (dO (b4.mp hm).1) ?_;exact hm) cX;clear hm;exact am [(h8,V.ref 0)] rfl<|sk 3<|aj Q.s l rfl<|sk 1<|aj Q.c c rfl rfl
def Mw(l:bu O (j+59) 755 1 (.ref 0) 0 (fU 0 []) [au.list es,au.list [],au.list []]=some (.ok .next (fU m tl)<|au.list es::au.list (aD fd)::G))(hm:G[m]? =some (au.list<|(p::N).map V.str))(h:ca (p::N)<=1000000)(f:(aD fd).length+1<=1000000):Do j O 755 [.ref 0] [au.list es] (.ref<|(G++[au.list []]++[au.list [.tup [.str ao,.str<|jn []<|p::N]]]).length+2) (au.list es::au.list (aD fd)::(G++[au.list []]++[au.list [.tup [.str ao,.str<|jn []<|p::N]]]++[au.list<|aD fd++[.tup [.str ao,.str<|jn []<|p::N]]])):=by
 have g:(G++[au.list []])[m]? =some (au.list<|(p::N).map V.str):=by refine Y (dO (b4.mp hm).1) ?_;exact hm
 have c:=vp (H:=au.list es::au.list (aD fd)::(G++[au.list []])) (i:=m+2) (n:=G.length+2) g cX;have c1:=rC (x:=[]) (H:=au.list es::au.list (aD fd)::(G++[au.list []])) (i:=m+2) (l:=p::N) g<|by show _+_*0<=_;refine Y (Nat.mul_zero ..) ?_;exact h
 have b:bin .Add (.ref 1) (.ref<|(G++[au.list []]).length+2) (au.list es::au.list (aD fd)::(G++[au.list []]++[au.list [.tup [.str ao,.str<|jn []<|p::N]]]))=some (.ok (.ref<|(G++[au.list []]++[au.list [.tup [.str ao,.str<|jn []<|p::N]]]).length+2)<|au.list es::au.list (aD fd)::(G++[au.list []]++[au.list [.tup [.str ao,.str<|jn []<|p::N]]]++[au.list<|aD fd++[.tup [.str ao,.str<|jn []<|p::N]]])):=by show ob (dn (G++[au.list []]++[au.list [.tup [.str ao,.str<|jn []<|p::N]]])[(G++[au.list []]).length]?) _=_;refine Y cX ?_;show as (cq<|(aD fd).length+1) _=_;exact Y (g9 f) rfl
 clear hm g h f;exact am [(h8,V.ref 0)] rfl<|sk 3<|aj Q.s l rfl<|sk 1<|aj Q.c c rfl<|sk 4<|aj Q.m c1 rfl<|aj Q.m b rfl rfl
end
section
variable{X:List V->aq->M V}{H x:aq}{b:V}
def xG(f:reach 4000 H (cm D) []=some J)(h:(gy J&&(cQ (λi=>bv i J) (cm D)&&dE (λi=>bv i J) H J))=true)(j:X (bF (λi=>bc i J) D) (b' (λi=>bc i J) H J)=some q):bD X D H=m0 H J q:=by unfold bD;refine Y f ?_;show(match(gy J&&(cQ (λi=>bv i J) (cm D)&&dE (λi=>bv i J) H J))with|true=>ob (X (bF (λi=>bc i J) D)<|b' (λi=>bc i J) H J) (m0 H J)|false=>none)=_;refine Y h ?_;show ob _ _=_;exact Y j rfl
def q2(n:Nat)(y:List Nat)(b:V)(x:aq):Bool:=Nat.ble n x.length&&(gy y&&(cQ (λi=>Nat.ble n i) y&&(cQ (eo n y) (c0 b)&&(dE (eo n y) x (upTo n [])&&dE (eo n y) x y))))
def ti(f:reach 4000 x (c0 b++cC x J.length) (upTo J.length [])=some kl)(e:kl.drop J.length=y)(h:q2 J.length y b x=true):back H J b x k=k (bt H J y) (cp (bt H J y) H J x++b' (bt H J y) x y):=by unfold back;refine Y f ?_;show(match q2 J.length (kl.drop J.length) b x with|true=>k (bt H J<|kl.drop J.length) (cp (bt H J<|kl.drop J.length) H J x++b' (bt H J<|kl.drop J.length) x (kl.drop J.length))|false=>none)=_;exact Y e<|Y h rfl
def cT(f:bv i done=false)(h:H[i]? =some o):reach (n+1) H (i::t) done=reach n H (bH o++t) (done++[i]):=by show(match bv i done with|true=>reach n H t done|false=>ob H[i]? λo=>reach n H (bH o++t)<|done++[i])=_;exact Y f<|Y h rfl
def Fw:bv i [i]=true:=eM.mpr<|.head _
def wT:bc i [i]=0:=by show(match Nat.beq i i with|true=>0|false=>bc i []+1)=0;exact Y (em ..) rfl
section
variable{i:Nat}{o o':au}{w:List V}(u:H[i]? =some o)(C:cA o)(E:aH w)
include u C E
theorem Ep(aE:X (.ref 0::w) [o]=some q):bD X (.ref i::w) H=m0 H [i] q:=by
 have r:cm (.ref i::w)=[i]:=by show[i]++cm w=_;exact Y E.1 rfl
 have c:dE (λj=>bv j [i]) H [i]=true:=by show(match H[i]? with|some o=>(match cQ (λj=>bv j [i]) (bH o)with|true=>dE (λj=>bv j [i]) H []|false=>false)|none=>false)=true;refine Y u ?_;show(match cQ (λj=>bv j [i]) (bH o)with|true=>true|false=>false)=true;exact Y C.1 rfl
 refine xG ?_ ?_ ?_;exact Y r<|Y (cT rfl u)<|Y C.1 rfl;refine Y r (Y c ?_);show(cQ (λj=>bv j [i]) [i]&&true)=true;show((match bv i [i]with|true=>true|false=>false)&&true)=true;exact Y Fw rfl;show X (.ref (bc i [i])::bF _ w) [(match H[i]? with|some o=>bn _ o|none=>.cell none)]=_;refine Y (E.2 ..)<|Y wT<|Y u ?_;show X _ [bn _ o]=_;exact Y (C.2 ..) aE
variable(h:cA o'){G:aq}
include h
theorem hJ(f:gp b)(aE:X (.ref 0::w) [o]=some (.ok b<|o'::G)):bD X (.ref i::w) H=some (.ok b<|H.set i o'):=by
 refine Y (Ep u C E aE) ?_;show back H [i] b (o'::G) (λρ H'=>some<|.ok (bl ρ b) H')=_;have t:c0 b++cC (o'::G) 1=[]:=by show c0 b++(bH o'++cC G 0)=[];refine Y f.1<|Y h.1 ?_;cases G<;>rfl
 have e:q2 1 [] b (o'::G)=true:=by show(true&&(true&&(true&&(cQ _ (c0 b)&&((match cQ _ (bH o')with|true=>true|false=>false)&&true)))))=true;exact Y f.1<|Y h.1 rfl
 refine(ti (J:=[i]) (H:=H) (kl:=[0]) (y:=[]) (by show reach 4000 _ (c0 b++cC (o'::G) 1) _=_;exact Y t rfl) rfl e).trans ?_;show some (R.ok (bl _ b)<|H.set i (bn _ o')++[])=_;exact Y (f.2 ..)<|Y (h.2 ..)<|Y (be ..) rfl
theorem BM{f:Nat->V}(b1:∀n,c0 (f n)=[n])(x:∀z n,bl z (f n)=f (z n))(k:G[r]? =some p)(j:cA p)(aE:X (.ref 0::w) [o]=some (.ok (f<|r+1)<|o'::G)):bD X (.ref i::w) H=some (.ok (f H.length)<|H.set i o'++[p]):=by
 refine Y (Ep u C E aE) ?_;show back H [i] (f<|r+1) (o'::G) (λρ H'=>some<|.ok (bl ρ<|f<|r+1) H')=_;have t:cC (o'::G) 1=[]:=by show bH o'++cC G 0=[];refine Y h.1 ?_;cases G<;>rfl
 have c:dE (eo 1 [r+1]) (o'::G) [r+1]=true:=by show(match G[r]? with|some o=>(match cQ (eo 1 [r+1]) (bH o)with|true=>true|false=>false)|none=>false)=true;refine Y k ?_;show(match cQ (eo 1 [r+1]) (bH p)with|true=>true|false=>false)=true;exact Y j.1 rfl
 have m:eo 1 [r+1] (r+1)=true:=Fw;have e:q2 1 [r+1] (f<|r+1) (o'::G)=true:=by show(true&&(true&&(true&&(cQ (eo 1 [r+1]) (c0<|f<|r+1)&&((match cQ _ (bH o')with|true=>true|false=>false)&&dE (eo 1 [r+1]) (o'::G) [r+1])))))=true;refine Y (b1 ..) ?_;show(true&&(true&&(true&&((match eo 1 [r+1] (r+1)with|true=>true|false=>false)&&((match cQ _ (bH o')with|true=>true|false=>false)&&dE (eo 1 [r+1]) (o'::G) [r+1])))))=true;exact Y c<|Y m<|Y h.1 rfl
 have D:reach 4000 (o'::G) (c0 (f<|r+1)++cC (o'::G) 1) [0]=some [0,r+1]:=by exact Y t<|Y (b1 ..)<|Y (show[r+1]++[]=[r+1] from rfl)<|Y (cT (i:=r+1) (H:=o'::G) rfl k)<|Y j.1 rfl
 refine(ti (J:=[i]) (H:=H) (kl:=[0,r+1]) (y:=[r+1]) D rfl e).trans ?_;show some (R.ok (bl (bt H [i] [r+1])<|f<|r+1)<|H.set i (bn _ o')++[match G[r]? with|some o=>bn _ o|none=>.cell none])=_;refine Y (x ..)<|Y (h.2 ..)<|Y k ?_;show some (R.ok (f<|H.length+bc (r+1) [r+1])<|H.set i o'++[bn _ p])=_;exact Y wT<|Y (j.2 ..) rfl
theorem CY(k:G[r]? =some p)(j:cA p)(aE:X (.ref 0::w) [o]=some (.ok (.ref<|r+1)<|o'::G)):bD X (.ref i::w) H=some (.ok (.ref H.length)<|H.set i o'++[p]):=BM u C E h (f:=.ref) (λ_=>rfl) (λ_ _=>rfl) k j aE
end
end
structure Lo(H:aq)(todo done J:List Nat):Prop where
 sub:∀i,i∈done\/i∈todo->i∈J
 nd:done.Nodup->J.Nodup
 cl:∀k∈J,k∈done\/∃o,H[k]? =some o/\∀i∈bH o,i∈J
def lU:∀{n x done J},reach n H x done=some J->Lo H x done J:=by
 intro n;induction n with
 |zero=>exact λe=>nomatch e
 |succ n y=>
  intro x done J e;rcases x with _|⟨i,t⟩;obtain rfl:=aQ e;exact⟨λi h=>h.elim id λm=>(nomatch m),id,λk m=>.inl m⟩
  .have e:(match bv i done with|true=>reach n H t done|false=>ob H[i]? λo=>reach n H (bH o++t)<|done++[i])=some J:=e;revert e;rcases hm:bv i done;intro e;refine aK e λo u e=>?_;have c:=y e;have f:i∈J:=c.sub i<|.inl<|gA _<|.head _;refine⟨λk h=>h.elim (λm=>c.sub k<|.inl<|fF _ m) λm=>(bC.mp m).elim (λe=>e▸f) λm=>c.sub k<|.inr<|gA _ m,λnd=>c.nd<|iG.mpr ⟨nd,ee.mpr ⟨λm=>(nomatch m),.nil⟩,λa C b D z=>?_⟩,λk m=>?_⟩;clear u e c f;obtain rfl:=b8.mp D;rw[eM.mpr<|z▸C]at hm;exact ff<|hm.symm;rcases c.cl k m with h|h;rcases d2.mp h with h|h;exact .inl h;clear hm e f;obtain rfl:=b8.mp h;exact .inr ⟨o,u,λj m=>c.sub j<|.inr<|fF _ m⟩;exact .inr h;intro e;have c:=y e;exact⟨λk h=>h.elim (λm=>c.sub k<|.inl m) λm=>(bC.mp m).elim (λe=>c.sub k<|.inl<|e▸eM.mp hm) λm=>c.sub k<|.inr m,c.nd,c.cl⟩
def E2:∀{l},l.Nodup->gy l=true:=by
 intro l;induction l with
 |nil=>intro _;exact rfl
 |cons k l f=>intro h;have h:=ee.mp h;show(match bv k l with|true=>false|false=>gy l)=true;exact Y (k0 λe=>h.1<|eM.mp e)<|f h.2
def tf:∀{l},(∀i∈l,z i=true)->cQ z l=true:=by
 intro l;induction l with
 |nil=>intro _;exact rfl
 |cons k l f=>intro h;show(match z k with|true=>cQ z l|false=>false)=true;exact Y (h k<|.head _)<|f λi m=>h i<|.tail _ m
def wR:∀{l},(∀k∈l,∃o,H[k]? =some o/\∀i∈bH o,z i=true)->dE z H l=true:=by
 intro l;induction l with
 |nil=>intro _;exact rfl
 |cons k l u=>intro h;refine aZ (h k<|.head _) λo f j=>?_;show(match H[k]? with|some o=>(match cQ z (bH o)with|true=>dE z H l|false=>false)|none=>false)=true;refine Y f ?_;show(match cQ z (bH o)with|true=>dE z H l|false=>false)=true;exact Y (tf j)<|u λk m=>h k<|.tail _ m
section
variable{X:List V->aq->M V}
def qn(f:reach 4000 H (cm D) []=some J)(h:X (bF (λi=>bc i J) D) (b' (λi=>bc i J) H J)=some q):bD X D H=m0 H J q:=by have c:=lU f;refine xG f ?_ h;rw[E2<|c.nd .nil,tf λi m=>eM.mpr<|c.sub i<|.inr m,wR λk m=>?_];rfl;exact aZ ((c.cl k m).resolve_left λm=>nomatch m) λo f j=>a9 o f λi m=>eM.mpr<|j i m
def k':∀{n l},i∈upTo n l->i<n\/i∈l:=by
 intro n;induction n with
 |zero=>intro _ h;exact .inr h
 |succ n f=>intro l h;exact(f (l:=n::l) h).elim (λh=>.inl<|Nat.lt_succ_of_lt h) λm=>(bC.mp m).elim (λe=>.inl<|e▸oL _) .inr
def i6:∀{n l},(upTo n l).length=n+l.length:=by
 intro n;induction n with
 |zero=>intro _;exact(eW _).symm
 |succ n f=>intro l;exact(f (l:=n::l)).trans<|by show n+(l.length+1)=_;exact Y (cF l.length ..)<|Y (cz ..).symm rfl
def lF:∀{n l},(∀i∈l,n<=i)->l.Nodup->(upTo n l).Nodup:=by
 intro n;induction n with
 |zero=>intro _ _ h;exact h
 |succ n f=>intro l h nd;exact f (l:=n::l) (λi m=>(bC.mp m).elim (λe=>a4 e.symm) λm=>mB<|h i m)<|ee.mpr ⟨λm=>oj _<|h n m,nd⟩
theorem xU:∀{H n i},i<n->H[i]? =some o->j∈bH o->j∈cC H n
 |[],_,_,_,e,_=>nomatch e|_::_,0,_,h,_,_=>absurd h<|g6 _
 |p::H,n+1,0,_,e,m=>by obtain rfl:=aQ e;exact fF _ m
 |p::H,n+1,i+1,h,e,m=>gA _<|xU (Nat.lt_of_succ_lt_succ h) e m
def nF(z:reach 4000 x (c0 b++cC x J.length) (upTo J.length [])=some (upTo J.length []++y))(u:J.length<=x.length):back H J b x k=k (bt H J y) (cp (bt H J y) H J x++b' (bt H J y) x y):=by
 have c:=lU z;have nd:=iG.mp<|c.nd<|lF (λi m=>nomatch m) .nil;have C:∀i∈y,J.length<=i:=λi m=>(dJ i J.length).elim (λh=>absurd rfl<|nd.2.2 i (mem_upTo<|.inl h) i m) id;have ga:∀i,i∈upTo J.length []++y->eo J.length y i=true:=λi m=>by show(match Nat.blt i J.length with|true=>true|false=>bv i y)=true;rcases d2.mp m with m|m;exact Y (dw<|(k' m).resolve_right λm=>nomatch m) rfl;refine Y (eM.mpr m) ?_;cases Nat.blt i J.length<;>rfl
 refine ti z ?_ ?_;exact(az (λn=>List.drop n<|upTo J.length []++y) (i6 (l:=[])).symm).trans tk
 .unfold q2;rw[hY u,E2 nd.2.1,tf λi m=>hY<|C i m,tf λi m=>ga i<|c.sub i<|.inr<|fF _ m,wR λk m=>?_,wR λk m=>?_];rfl
  rotate_left
  have aP:=(k' m).resolve_right λm=>nomatch m;obtain⟨o,e⟩:∃o,x[k]? =some o:=⟨_,dx<|cu aP u⟩;exact a9 o e λi m=>ga i<|c.sub i<|.inr<|gA _<|xU aP e m;rcases c.cl k (gA _ m)with h|⟨o,f,j⟩;exact absurd rfl<|nd.2.2 k h k m;exact a9 o f λi m=>ga i<|j i m
end
theorem kY:∀{T n},(∀k∈T,k∈done)->T.length<n->reach n H T done=some done
 |[],n+1,_,_=>rfl|_,0,_,h=>absurd h<|g6 _
 |k::T,n+1,h,l=>by show(match bv k done with|true=>reach n H T done|false=>ob H[k]? λo=>reach n H (bH o++T)<|done++[k])=_;exact Y (eM.mpr<|h k<|.head _)<|kY (λi m=>h i<|.tail _ m)<|Nat.lt_of_succ_lt_succ l
noncomputable def c6:List (List Nat×Nat)->Nat->List Nat|[],_=>[]|_::l,i=>i::(i+1)::c6 l (i+2)
def At(H:aq)(i:Nat)(l:aq):Prop:=∀m o,l[m]? =some o->H[i+m]? =some o
def At.hd{l:aq}(h:At H i<|o::l):H[i]? =some o:=h 0 o rfl
def At.tl{l:aq}(h:At H i<|o::l):At H (i+1) l:=λm p e=>by refine Y (cz ..)<|Y (cF 1 ..) ?_;exact h (m+1) p e
def l7(h:i∉l):bv i l=false:=k0 λe=>h<|eM.mp e
def ru(h:k<i\/i+2*(n+1)<=k):k≠i/\k≠i+1:=by rcases h with h|h;exact⟨kq h,kq<|Nat.lt_succ_of_lt h⟩;have f:=av (e3 (by refine Y (gX ..) ?_;exact bR ..) i) h;exact⟨λe=>by rw[e]at f;exact Nat.not_succ_le_self _<|mB f,λe=>by rw[e]at f;exact Nat.not_succ_le_self _ f⟩
def nV:∀c ch i done,At H i (fo (c::ch) i)->(∀k∈done,k<i\/i+2*(ch.length+1)<=k)->reach (n+2*(ch.length+1)) H (i::T) done=reach n H T (done++c6 (c::ch) i):=by
 intro c ch;induction ch generalizing c with
 |nil=>intro i done a f;have j:=cT (n:=n+1) (t:=T) (l7 λm=>(ru<|f i m).1 rfl) a.hd;have u:=cT (n:=n) (t:=T) (i:=i+1) (done:=done++[i]) (l7 λm=>(d2.mp m).elim (λm=>(ru<|f _ m).2 rfl) λm=>qm i<|b8.mp m) a.tl.hd;refine(j.trans u).trans ?_;rw[br];rfl
 |cons d ch x=>
  intro i done a f;have j:=cT (n:=n+2*(ch.length+1)+1) (t:=T) (l7 λm=>(ru<|f i m).1 rfl) a.hd;have u:=cT (n:=n+2*(ch.length+1)) (t:=(i+2)::T) (i:=i+1) (done:=done++[i]) (l7 λm=>(d2.mp m).elim (λm=>(ru<|f _ m).2 rfl) λm=>qm i<|b8.mp m) a.tl.hd;refine(j.trans u).trans<|(x d (i+2) _ a.tl.tl λk m=>?_).trans ?_
  .rcases d2.mp m with m|m;rcases d2.mp m with m|m;exact(f k m).imp (λh=>cu h<|bE ..) λh=>av (a4<|by exact Y (cz ..)<|Y (cF 2 ..) rfl) h;exact Y (b8.mp m)<|.inl<|Nat.lt_add_of_pos_right<|by decide
   exact Y (b8.mp m)<|.inl<|oL _
  exact Y (br ..)<|Y (br ..) rfl
def xV:∀{ch i j},At H i (fo ch i)->(∀m,m<2*ch.length->ρ (i+m)=j+m)->b' ρ H (c6 ch i)=fo ch j:=by
 intro ch;induction ch with
 |nil=>intro _ _ _ _;exact rfl
 |cons c ch u=>
  intro i j a h;have e:=u (i:=i+2) (j:=j+2) a.tl.tl λm hm=>by
   have:=h (2+m)<|by refine Y cB<|Y (gX ..)<|Y (cF ..) ?_;exact Nat.add_lt_add_right hm 2
   rwa [<-cz,<-cz]at this
  show(match H[i]? with|some o=>bn ρ o|none=>.cell none)::(match H[i+1]? with|some o=>bn ρ o|none=>.cell none)::b' ρ H (c6 ch<|i+2)=_;refine Y e<|Y a.hd<|Y a.tl.hd ?_;have k:=h 1<|by refine Y cB<|Y (gX ..) ?_;exact cu (by decide)<|bR 2 _
  rcases ch with _|⟨d,ch⟩;show au.exc 150 (some<|ρ<|i+1) none::_=_;exact Y k rfl;have f:=h 2 (by refine Y cB<|Y cB<|Y (gX ..)<|Y (gX ..) ?_;exact cu (by decide)<|bR 4 _);show au.exc 150 (some<|ρ<|i+1) (some<|ρ<|i+2)::_=_;exact Y k<|Y f rfl
def vx:∀{ch i},(c6 ch i).length=2*ch.length:=by
 intro ch;induction ch with
 |nil=>intro _;exact rfl
 |cons _ ch f=>intro i;exact az (·+2)<|f (i:=i+2)
def zx:∀{ch i m},m<2*ch.length->bc (i+m) (c6 ch i)=m:=by
 intro ch;induction ch with
 |nil=>intro _ _ h;exact absurd h<|g6 _
 |cons c ch f=>
  intro i m h;show(match Nat.beq i (i+m)with|true=>0|false=>(match Nat.beq (i+1) (i+m)with|true=>0|false=>bc (i+m) (c6 ch<|i+2)+1)+1)=m;match m with
  |0=>exact Y (Nat.add_zero ..)<|Y (em ..) rfl
  |1=>exact Y (it<|kq<|oL i)<|Y (em ..) rfl
  |m+2=>
   have e:bc (i+2+m) (c6 ch<|i+2)=m:=f<|by rw[cB,gX]at h;exact Nat.lt_of_add_lt_add_right h
   exact Y (it<|kq<|Nat.lt_add_of_pos_right<|mW _)<|Y (it<|kq<|Nat.add_lt_add_left (Nat.lt_add_of_pos_left<|mW _) i)<|Y (show i+(m+2)=i+2+m by rw[cz,cF m])<|Y e rfl
noncomputable def f0:aq->List (List Nat)|[]=>[]|o::H=>bH o::f0 H
noncomputable def pI(n:Nat)(g:List<|List Nat)(f done:List Nat):Option (List Nat):=match n with
 |0=>none
 |n+1=>match f with
  |[]=>some done
  |i::t=>match bv i done with|true=>pI n g t done|false=>ob g[i]? λr=>pI n g (r++t)<|done++[i]
def QY{i:Nat}:∀{H},(f0 H)[i]? =H[i]?.map bH:=by
 intro H;induction H generalizing i with
 |nil=>rfl|cons o H f=>rcases i with _|i;rfl;exact f
def lT:∀{n t d},reach n H t d=pI n (f0 H) t d:=by
 intro n;induction n with
 |zero=>exact rfl|succ n f=>intro t d;rcases t with _|⟨i,t⟩;rfl;show(match bv i d with|true=>reach n H t d|false=>ob H[i]? λo=>reach n H (bH o++t)<|d++[i])=(match bv i d with|true=>pI n (f0 H) t d|false=>ob (f0 H)[i]? λr=>pI n (f0 H) (r++t)<|d++[i]);refine Y QY ?_;rcases bv i d;rcases H[i]? with _|o;rfl;exact f;exact f
noncomputable def gF:au:=.exc 150 none none
noncomputable def j4(i:Nat):au:=.exc 150 (some i) none
def nz{H:aq}{a:au}:(H++[a]).set H.length b=H++[b]:=by exact Y (qh _ _<|ba _)<|Y (ew ..) rfl
def iK{H:aq}:(H++[a,b])[H.length]? =some a:=by refine Y (dp<|ba _)<|Y (ew ..) ?_;rfl
def CB{H:aq}:(H++[a,b])[H.length+1]? =some b:=by refine Y (dp<|bE ..)<|Y (ez ..) ?_;rfl
section
variable{O:ap}{pl:Nat}
def HC:aF (j+60) tab O hd (.fn 126) [.ref H.length,.str k] (H++[gF])=some (.ok .none<|H++[j4<|H.length+1,.dict [(dR,.str k)]]):=by
 have e:oN tab [.ref H.length,.str k] (H++[gF])=some (.ok .none<|H++[gF]):=by show ob (H++[gF])[H.length]? _=_;exact Y cX rfl
 have g:(H++[gF])[H.length]? =some gF:=cX;have s:∀loc,i7 tab dR (.str k) loc H.length (H++[gF]) gF=some (.ok .next loc<|H++[j4<|H.length+1,.dict [(dR,.str k)]]):=λloc=>by show some (RS.ok .next loc<|(H++[gF]).set H.length (.exc 150 (some (H++[gF]).length) none)++[.dict [(dR,.str k)]])=_;exact Y nz<|Y a0<|Y (br ..) rfl
 exact am [(bo,V.ref<|List.length H),(dR,V.str k)] rfl<|sk 4<|aj Q.m e rfl<|sk 2<|aj Q.o g rfl<|aj Q.s (s _) rfl rfl
def T9(m:O hd (.fn 126) [.ref H.length,.str k] (H++[gF])=some (.ok .none<|H++[j4<|H.length+1,.dict [(dR,.str k)]])):aF (j+60) tab O hd (.fn 147) [.ref H.length,.str k,.int pl] (H++[gF])=some (.ok .none<|H++fo [(k,pl)] H.length):=by
 have g:(H++[j4<|H.length+1,.dict [(dR,.str k)]])[H.length]? =some (j4<|H.length+1):=iK;have s:∀loc,i7 tab b7 (.int pl) loc H.length (H++[j4<|H.length+1,.dict [(dR,.str k)]]) (j4<|H.length+1)=some (.ok .next loc<|H++fo [(k,pl)] H.length):=λloc=>by show cJ (jD (H++[j4<|H.length+1,.dict [(dR,.str k)]])[H.length+1]?) _=_;refine Y CB ?_;show some (RS.ok .next loc<|(H++[j4<|H.length+1,.dict [(dR,.str k)]]).set (H.length+1) _)=_;exact Y (qh _ _<|bE ..)<|Y (ez ..) rfl
 exact am [(bo,V.ref<|List.length H),(dR,V.str k),(b7,V.int ↑pl)] rfl<|sk 4<|aj Q.m m rfl<|sk 2<|aj Q.o g rfl<|aj Q.s (s _) rfl rfl
end
noncomputable def sK:List Nat:=[109,97,114,107,117,112,32,119,105,116,104,111,117,116,32,97,110,32,101,110,100,44,32,111,114,32,110,111,110,101,32,97,116,32,97,108,108]
noncomputable def nR:List Nat:=[115,111,109,101,116,104,105,110,103,32,111,117,116,115,105,100,101,32,111,102,32,116,104,101,32,111,117,116,101,114,109,111,115,116,32,101,108,101,109,101,110,116]
noncomputable def pP:List Nat:=[97,32,116,101,120,116,32,111,117,116,115,105,100,101,32,111,102,32,116,104,101,32,111,117,116,101,114,109,111,115,116,32,101,108,101,109,101,110,116]
noncomputable def nB:List Nat:=[97,32,115,105,103,110,32,116,104,97,116,32,105,115,32,110,111,116,32,108,101,116]
noncomputable def pO:List Nat:=[93,93,62,32,119,105,116,104,105,110,32,97,32,116,101,120,116]
abbrev f'(O:ap):Prop:=∀(hd:Option Nat)(k:List Nat)(pl:Nat)(H:aq),bP tab O hd (.fn 150) [.str k,.int pl] H=some (.ok (.ref H.length)<|H++fo [(k,pl)] H.length)
def NG{O:ap}(h:∀(hd:Option Nat)(k:List Nat)(pl:Nat)(H:aq),O hd (.fn 147) [.ref H.length,.str k,.int pl] (H++[gF])=some (.ok .none<|H++fo [(k,pl)] H.length)):f' O:=λhd k pl H=>by show bd (O hd (.fn 147) [.ref H.length,.str k,.int pl]<|H++[gF]) (wg H.length)=_;exact Y (h ..) rfl
def re(c:List Nat×Nat)(p i n:Nat):aq:=[.exc 150 (some<|n+1)<|some i,.dict [(dR,.str c.1),(b7,.int (p+c.2:Nat))]]
section
variable{O:ap}{st p:Nat}{tx:List Nat}{ce:List V}
def IJ(c:f' O):aF (j+60) tab O none (.fn 875) [.ref 0,.str cP,.str tx,.int p] (ak st nm (ay x k q h f) [])=some (.exc 11<|ak st nm (ay x k q h f)<|fo [(sK,p)] 11):=by have C:=c none sK p<|ak st nm (ay x k q h f) [];clear c;exact am [(bo,V.ref 0),(eD,V.str cP),(bb,V.str tx),(b7,V.int ↑p)] rfl<|sk 5<|aj Q.m C rfl rfl
def KD(aP:ar kd cP=false)(m:O none (.fn 790) [.ref 1,.str kd,.str tx,.int ((0:Nat):Int)] (ak 2 nm (ay x k q h f) [])=some (.ok (.ref 11)<|ak 2 [] (ay x k q h f) [.list ce])):Do j O 875 [.ref 0,.str kd,.str tx,.int p] (ak 2 nm (ay x k q h f) []) (.ref 11) (ak 3 [] (ay x k q h f) [.list ce,.list []]):=by exact am [(bo,V.ref 0),(eD,V.str kd),(bb,V.str tx),(b7,V.int ↑p)] rfl<|sk 1<|aj (λb=>Q.c<|some b) aP rfl<|sk 11<|aj Q.m m rfl rfl
def Sy(aP:ar kd cP=false)(m:O none (.fn 790) [.ref 1,.str kd,.str tx,.int ((0:Nat):Int)] (ak 2 nm (ay x k q h f) [])=some (.ok (.ref 11)<|ak 2 (a::l) (ay x k q h f) [.list ce])):Do j O 875 [.ref 0,.str kd,.str tx,.int p] (ak 2 nm (ay x k q h f) []) (.ref 11) (ak 2 (a::l) (ay x k q h f) [.list ce,.list []]):=by exact am [(bo,V.ref 0),(eD,V.str kd),(bb,V.str tx),(b7,V.int ↑p)] rfl<|sk 1<|aj (λb=>Q.c<|some b) aP rfl<|sk 11<|aj Q.m m rfl rfl
def LG(aP:ar kd cP=false)(m:O none (.fn 790) [.ref 1,.str kd,.str tx,.int ((0:Nat):Int)] (ak 2 nm (ay x k q h f) [])=some (.exc 11<|ak 2 u (ay x k q h f)<|fo [c] 11))(cs:f' O):aF (j+60) tab O none (.fn 875) [.ref 0,.str kd,.str tx,.int p] (ak 2 nm (ay x k q h f) [])=some (.exc 13<|ak 2 u (ay x k q h f)<|fo [c] 11++re c p 11 13):=by have C:=cs (some 11) c.1 (p+c.2)<|ak 2 u (ay x k q h f)<|fo [c] 11;clear cs;exact am [(bo,V.ref 0),(eD,V.str kd),(bb,V.str tx),(b7,V.int ↑p)] rfl<|sk 1<|aj (λb=>Q.c<|some b) aP rfl<|sk 11<|aj Q.m m rfl<|sk 8<|aj Q.m C rfl rfl
def Lm(aP:ar kd cP=false)(m:O none (.fn 790) [.ref 1,.str kd,.str tx,.int ((0:Nat):Int)] (ak 2 nm (ay x k q h f) [])=some (.exc 11<|ak 2 u (ay x k q h f)<|fo [c,d] 11))(cs:f' O):aF (j+60) tab O none (.fn 875) [.ref 0,.str kd,.str tx,.int p] (ak 2 nm (ay x k q h f) [])=some (.exc 15<|ak 2 u (ay x k q h f)<|fo [c,d] 11++re c p 11 15):=by have C:=cs (some 11) c.1 (p+c.2)<|ak 2 u (ay x k q h f)<|fo [c,d] 11;clear cs;exact am [(bo,V.ref 0),(eD,V.str kd),(bb,V.str tx),(b7,V.int ↑p)] rfl<|sk 1<|aj (λb=>Q.c<|some b) aP rfl<|sk 11<|aj Q.m m rfl<|sk 8<|aj Q.m C rfl rfl
def NI(y:Nat.beq st 2=false)(aP:ar kd cP=false)(m:O none (.fn 882) [.ref 0,.str kd,.str tx,.int p] (ak st nm (ay x k q h f) [])=some (.ok v H')):Do j O 875 [.ref 0,.str kd,.str tx,.int p] (ak st nm (ay x k q h f) []) v H':=by exact am [(bo,V.ref 0),(eD,V.str kd),(bb,V.str tx),(b7,V.int ↑p)] rfl<|sk 1<|aj (λb=>Q.c<|some b) aP rfl<|sk 4<|aj (λb=>Q.c<|some b) y rfl<|sk 6<|aj Q.m m rfl rfl
def JB(y:Nat.beq st 2=false)(aP:ar kd cP=false)(m:O none (.fn 882) [.ref 0,.str kd,.str tx,.int p] (ak st nm (ay x k q h f) [])=some (.exc 11<|ak ae u (ay x k q h f)<|fo [c] 11))(cs:f' O):aF (j+60) tab O none (.fn 875) [.ref 0,.str kd,.str tx,.int p] (ak st nm (ay x k q h f) [])=some (.exc 13<|ak ae u (ay x k q h f)<|fo [c] 11++re c p 11 13):=by have C:=cs (some 11) c.1 (p+c.2)<|ak ae u (ay x k q h f)<|fo [c] 11;clear cs;exact am [(bo,V.ref 0),(eD,V.str kd),(bb,V.str tx),(b7,V.int ↑p)] rfl<|sk 1<|aj (λb=>Q.c<|some b) aP rfl<|sk 4<|aj (λb=>Q.c<|some b) y rfl<|sk 6<|aj Q.m m rfl<|sk 8<|aj Q.m C rfl rfl
end
def dH(c:Nat):Bool:=(bq [c] [32,9,10,13]).isSome
noncomputable def cD(p:Nat->Bool):List Nat->Option Nat|[]=>none|c::r=>match p c with|true=>(cD p r).map (·+1)|false=>some 0
noncomputable def inR(c:Nat):List (Nat×Nat)->Bool|[]=>false|q::l=>aB (Nat.blt c q.1) false<|aB (Nat.blt q.2 c) (inR c l) true
noncomputable def wL:List (Nat×Nat):=[(32,55295),(57344,65533),(65536,1114111)]
def gK(c:Nat):Bool:=aB (Nat.blt c 32) (dH c)<|inR c wL
noncomputable abbrev fC:V:=.tup [.tup [.int 32,.int 55295],.tup [.int 57344,.int 65533],.tup [.int 65536,.int 1114111]]
section
variable{c:Nat}
def T4:Do j O 56 [.str [c]] H (.bool<|dH c) H:=by have e:cN .In (.str [c]) (.str [32,9,10,13]) H=some (dH c):=rfl;revert e;rcases h:dH c;intro e;exact am [(ie,V.str [c])] rfl<|sk 2<|aj Q.c e rfl rfl;intro e;exact am [(ie,V.str [c])] rfl<|sk 2<|aj Q.c e rfl rfl
abbrev f8(c:Nat)(tl:Loc):Loc:=(uo,.int c)::(xC,fC)::tl
def w6:bu O (j+59) 49 0 fC 0 (f8 c []) H=aB (Nat.blt c 32) (some<|.ok (.ret<|.bool false) (f8 c [(hK,.int 32),(hG,.int 55295)]) H) (aB (Nat.blt 55295 c) (bu O (j+58) 49 0 fC 1 (f8 c [(hK,.int 32),(hG,.int 55295)]) H)<|some<|.ok (.ret<|.bool true) (f8 c [(hK,.int 32),(hG,.int 55295)]) H):=by exact fc rfl<|sk 3<|rl (λ(C:Option RS)=>C) _ rfl (λf=>rfl) λf=>(sk 3<|yg (λ(C:MS)=>C) _ rfl (λh=>rfl) λh=>rfl)
def vX:bu O (j+58) 49 0 fC 1 (f8 c [(hK,v),(hG,w)]) H=aB (Nat.blt c 57344) (some<|.ok (.ret<|.bool false) (f8 c [(hK,.int 57344),(hG,.int 65533)]) H) (aB (Nat.blt 65533 c) (bu O (j+57) 49 0 fC 2 (f8 c [(hK,.int 57344),(hG,.int 65533)]) H)<|some<|.ok (.ret<|.bool true) (f8 c [(hK,.int 57344),(hG,.int 65533)]) H):=by exact fc rfl<|sk 3<|rl (λ(C:Option RS)=>C) _ rfl (λf=>rfl) λf=>(sk 3<|yg (λ(C:MS)=>C) _ rfl (λh=>rfl) λh=>rfl)
def w1:bu O (j+57) 49 0 fC 2 (f8 c [(hK,v),(hG,w)]) H=aB (Nat.blt c 65536) (some<|.ok (.ret<|.bool false) (f8 c [(hK,.int 65536),(hG,.int 1114111)]) H) (aB (Nat.blt 1114111 c) (some<|.ok .next (f8 c [(hK,.int 65536),(hG,.int 1114111)]) H)<|some<|.ok (.ret<|.bool true) (f8 c [(hK,.int 65536),(hG,.int 1114111)]) H):=by have e:bu O (j+56) 49 0 fC 3 (f8 c [(hK,.int 65536),(hG,.int 1114111)]) H=some (.ok .next (f8 c [(hK,.int 65536),(hG,.int 1114111)]) H):=kS rfl;exact Y e.symm<|fc rfl<|sk 3<|rl (λ(C:Option RS)=>C) _ rfl (λf=>rfl) λf=>(sk 3<|yg (λ(C:MS)=>C) _ rfl (λh=>e) λh=>rfl)
def oG(l:bu O (j+59) 49 0 fC 0 (f8 c []) H=some (.ok (.ret b) loc H)):Do j O 49 [.int c,fC] H b H:=by exact am [(uo,V.int ↑c),(xC,V.tup [V.tup [V.int 32,V.int 55295],V.tup [V.int 57344,V.int 65533],V.tup [V.int 65536,V.int 1114111]])] rfl<|sk 2<|aj Q.s l rfl rfl
def KV(l:bu O (j+59) 49 0 fC 0 (f8 c []) H=some (.ok .next loc H)):Do j O 49 [.int c,fC] H (.bool false) H:=by exact am [(uo,V.int ↑c),(xC,V.tup [V.tup [V.int 32,V.int 55295],V.tup [V.int 57344,V.int 65533],V.tup [V.int 65536,V.int 1114111]])] rfl<|sk 2<|aj Q.s l rfl rfl
def OV:Do j O 49 [.int c,fC] H (.bool<|inR c wL) H:=by have P:∀{b:Bool}{x y:Bool},(b=true->Do j O 49 [.int c,fC] H (.bool x) H)->(b=false->Do j O 49 [.int c,fC] H (.bool y) H)->Do j O 49 [.int c,fC] H (.bool<|aB b x y) H:=λk f=>cv (P:=λb=>Do j O 49 [.int c,fC] H (.bool b) H) k f;have s:∀{b:Bool}{m x y:MS}{C},m=aB b x y->b=C->m=aB C x y:=λh e=>e▸h;have z:∀{b:Bool}{X x y:MS}{C},b=C->aB false X (aB b x y)=aB C x y:=λe=>e▸rfl;refine P (λh=>oG<|s w6 h) λk=>P (λf=>?_) λf=>oG<|(s w6 k).trans<|z f;have e1:=(s (w6 (O:=O) (H:=H) (j:=j)) k).trans<|z f;refine P (λh=>oG<|e1.trans<|s vX h) λu=>P (λE=>?_) λE=>oG<|(e1.trans<|s vX u).trans<|z E;have D:=(e1.trans<|s (vX (O:=O) (H:=H) (j:=j)) u).trans<|z E;exact P (λh=>oG<|D.trans<|s w1 h) λJ=>P (λI=>KV<|(D.trans<|s w1 J).trans<|z I) λI=>oG<|(D.trans<|s w1 J).trans<|z I
def OT(m:dv O 49 [.int c,fC] H (.bool<|inR c wL) H):Do j O 63 [.str [c]] H (.bool<|gK c) H:=by have e:cN .In (.str [c]) (.str [32,9,10,13]) H=some (dH c):=rfl;unfold gK;exact am [(ie,V.str [c])] rfl<|sk 5<|rl (λ(C:Bool)=>some<|R.ok (V.bool C) H) _ rfl (λf=>(sk 3<|aj Q.c e rfl rfl)) λf=>(sk 4<|aj Q.m m rfl rfl)
def vQ(h:H[i]? =some (.exc 150 a b))(loc):nN tab none loc (.ref i) H=some (.exc i loc H):=by show cJ (ob H[i]? λo=>ob (p1 o) λp=>ob (bi p.1 tab.sub) λ_=>lR none i H p) _=_;exact Y h rfl
def pC{x:List Nat}(aE:x.drop k=c::r):dC (.an 0 (x.length:Nat)) k H=some (some<|.int k):=by have e:(0:Int)+(k:Int)=(k:Int):=oi _;show some (match du (0+(k:Int)) (x.length:Nat)with|true=>some (V.int<|0+(k:Int))|false=>none)=_;refine Y e ?_;show some (match Nat.blt k x.length with|true=>_|false=>none)=_;exact Y (dw (gs aE).2.2) rfl
def x7{x:List Nat}(aE:x.drop k=[]):dC (.an 0 (x.length:Nat)) k H=some none:=by have e:(0:Int)+(k:Int)=(k:Int):=oi _;show some (match du (0+(k:Int)) (x.length:Nat)with|true=>some (V.int<|0+(k:Int))|false=>none)=_;refine Y e ?_;show some (match Nat.blt k x.length with|true=>_|false=>none)=_;exact Y (kN<|oz aE) rfl
def lW(h:n<=bg):eX (.an 0 (n:Nat)) H=true:=by show(true&&c9 (n:Int))=true;exact Y (kh<|av h qe) rfl
abbrev lm(x:List Nat)(p:Nat)(tl:Loc):Loc:=(bb,.str x)::(b7,.int p)::tl
def SO(aE:x.drop k=c::r)(m:dv O 63 [.str [c]] H (.bool true) H):bu O (j+40) 631 0 (.an 0 (x.length:Nat)) k (lm x p tl) H=bu O (j+39) 631 0 (.an 0 (x.length:Nat)) (k+1) (lm x p<|put cI (.int k) tl) H:=by have f:=pC (H:=H) aE;have i:=ia (H:=H) aE;have s:=el (x:=cI) (v:=.int k) (l:=tl);clear aE;exact fc f<|sk 3<|aj Q.v s rfl<|aj Q.m i rfl<|aj Q.m m rfl rfl
def SF(aE:x.drop k=c::r)(m:dv O 63 [.str [c]] H (.bool false) H)(cs:f' O):bu O (j+40) 631 0 (.an 0 (x.length:Nat)) k (lm x p tl) H=some (.exc H.length (lm x p<|put cI (.int k) tl)<|H++fo [(nB,p+k)] H.length):=by have f:=pC (H:=H) aE;have i:=ia (H:=H) aE;have s:=el (x:=cI) (v:=.int k) (l:=tl);have C:=vQ (H:=H++fo [(nB,p+k)] H.length) iK;clear aE;exact fc f<|sk 3<|aj Q.v s rfl<|aj Q.m i rfl<|aj Q.m m rfl<|sk 3<|aj Q.v s rfl<|sk 1<|aj Q.m (cs _ _ _ _) rfl<|aj Q.s (C _) rfl rfl
end
abbrev uR(O:ap):Prop:=∀(c:Nat)(H:aq),dv O 63 [.str [c]] H (.bool<|gK c) H
abbrev ya(O:ap):Prop:=∀(c:Nat)(H:aq),dv O 56 [.str [c]] H (.bool<|dH c) H
def Ends(H:aq)(m:MS)(l:Loc)(f:List Nat)(pl:Nat):Option Nat->Prop|none=>∃tl,m=some (.ok .next (l++tl) H)|some i=>∃loc,m=some (.exc H.length loc<|H++fo [(f,pl+i)] H.length)
def Ends.up(e:m=T)(h:Ends H T l f (pl+1) o):Ends H m l f pl (o.map (·+1)):=by rcases o with _|i;exact aU h λtl h=>⟨tl,e.trans h⟩;refine aU h λloc h=>?_;rw[cz,cF 1]at h;exact⟨loc,e.trans h⟩
section
variable{O:ap}{H:aq}
def RI(qY:uR O)(cs:f' O):∀r k j tl,x.drop k=r->r.length<=j->Ends H (bu O (j+40) 631 0 (.an 0 (x.length:Nat)) k (lm x p tl) H) [(bb,.str x),(b7,.int p)] nB (p+k) (cD gK r):=by
 intro r;induction r with
 |nil=>exact λk j tl aE _=>⟨tl,kS<|x7 aE⟩|cons c r u=>intro k j tl aE f;obtain⟨j,rfl⟩:∃y,j=y+1:=⟨j-1,(bx<|av (bR 1 _) f).symm⟩;have m:=qY c H;show Ends H _ _ _ _<|match gK c with|true=>(cD gK r).map (·+1)|false=>some 0;revert m;rcases h:gK c;intro m;exact⟨_,SF aE m cs⟩;intro m;exact Ends.up (SO aE m)<|u (k+1) j _ (gs aE).2.1<|iV f
def lO(h:n<=bg):bP tab O none (.blt .range) [.int n] H=some (.ok (.an 0 (n:Nat)) H):=by show as (c9 (n:Int)) (rt (V.an 0 (n:Int)) H)=_;exact Y (kh<|av h qe) rfl
def JJ(g:bP tab O none (.blt .range) [.int (x.length:Nat)] H=some (.ok (.an 0 (x.length:Nat)) H))(h:eX (.an 0 (x.length:Nat)) H=true)(l:bu O (j+59) 631 0 (.an 0 (x.length:Nat)) 0 (lm x p []) H=some (.ok .next (lm x p tl) H)):Do j O 631 [.str x,.int p] H .none H:=by exact am [(bb,V.str x),(b7,V.int ↑p)] rfl<|sk 4<|aj Q.m g rfl<|aj Q.b h rfl<|aj Q.s l rfl rfl
def Hf(g:bP tab O none (.blt .range) [.int (x.length:Nat)] H=some (.ok (.an 0 (x.length:Nat)) H))(h:eX (.an 0 (x.length:Nat)) H=true)(l:bu O (j+59) 631 0 (.an 0 (x.length:Nat)) 0 (lm x p []) H=some (.exc i loc H')):aF (j+60) tab O none (.fn 631) [.str x,.int p] H=some (.exc i H'):=by exact am [(bb,V.str x),(b7,V.int ↑p)] rfl<|sk 4<|aj Q.m g rfl<|aj Q.b h rfl<|aj Q.s l rfl rfl
def Ao(H:aq)(m:M V)(f:List Nat)(pl:Nat):Option Nat->Prop|none=>m=some (.ok .none H)|some i=>m=some (.exc H.length<|H++fo [(f,pl+i)] H.length)
def G3(qY:uR O)(cs:f' O){p:Nat}(aE:x.length<=bg)(f:x.length<=j):Ao H (aF (j+60) tab O none (.fn 631) [.str x,.int p] H) nB p (cD gK x):=by have l:=RI (H:=H) qY cs (x:=x) (p:=p) x 0 (j+19) [] rfl<|av f<|bE ..;have h:=lW (H:=H) aE;generalize cD gK x=o at l⊢;rcases o with _|i;exact aU l λtl l=>JJ (lO aE) h l;exact aU l λloc l=>Hf (lO aE) h l
abbrev Bm(O:ap):Prop:=∀(x:List Nat)(p:Nat)(H:aq),x.length<=bg->Ao H (O none (.fn 631) [.str x,.int p] H) nB p (cD gK x)
def ih(x:List Nat):Option (List Nat×Nat):=match cD gK x with
 |some i=>some (nB,i)
 |none=>match bq [93,93,62] x with|some i=>some (pO,i)|none=>none
def Rv{p:Nat}(m:dv O 631 [.str x,.int p] H .none H)(z:bq [93,93,62] x=none):Do j O 762 [.str x,.int p] H .none H:=by
 have e:e8 mu x [.str [93,93,62]] H=some (.ok (.int<|hj none) H):=by show rt (V.int<|hj<|bq [93,93,62] x) H=_;exact Y z rfl
 exact am [(bb,V.str x),(b7,V.int ↑p)] rfl<|sk 3<|aj Q.m m rfl<|sk 2<|aj Q.m e rfl rfl
def Su{p:Nat}(m:dv O 631 [.str x,.int p] H .none H)(z:bq [93,93,62] x=some i)(cs:f' O):aF (j+60) tab O none (.fn 762) [.str x,.int p] H=some (.exc H.length<|H++fo [(pO,p+i)] H.length):=by
 have e:e8 mu x [.str [93,93,62]] H=some (.ok (.int (i:Nat)) H):=by show rt (V.int<|hj<|bq [93,93,62] x) H=_;exact Y z rfl
 have C:=vQ (H:=H++fo [(pO,p+i)] H.length) iK;exact am [(bb,V.str x),(b7,V.int ↑p)] rfl<|sk 3<|aj Q.m m rfl<|sk 2<|aj Q.m e rfl<|sk 8<|aj Q.m (cs _ _ _ _) rfl<|aj Q.s (C _) rfl rfl
def Gb{p:Nat}(m:O none (.fn 631) [.str x,.int p] H=some (.exc i H')):aF (j+60) tab O none (.fn 762) [.str x,.int p] H=some (.exc i H'):=by exact am [(bb,V.str x),(b7,V.int ↑p)] rfl<|sk 3<|aj Q.m m rfl rfl
def yN(H:aq)(m:M V)(pl:Nat):Option (List Nat×Nat)->Prop|none=>m=some (.ok .none H)|some c=>m=some (.exc H.length<|H++fo [(c.1,pl+c.2)] H.length)
def T3(t6:Bm O)(cs:f' O){p:Nat}(aE:x.length<=bg):yN H (aF (j+60) tab O none (.fn 762) [.str x,.int p] H) p (ih x):=by have m:=t6 x p H aE;unfold ih;generalize cD gK x=o at m⊢;rcases o with _|i;rcases z:bq [93,93,62] x with _|i;exact Rv m z;exact Su m z cs;exact Gb m
def bN(nm:List V)(G:aq):aq:=.inst 828 [(eJ,.ref 1),(eR,.ref 6),(iz,.ref 8)]::.inst 1070 [(eh,.ref 2),(ko,.ref 3),(jg,.ref 4),(kR,.ref 5)]::.inst 921 [(iX,.int 20),(iy,.int 100000)]::.dict []::.dict []::.dict []::.inst 377 [(eh,.ref 2),(gU,.int 0),(gZ,.ref 7)]::.list []::.list nm::G
def Uw(m:dv O 762 [.str x,.int ((0:Nat):Int)] (bN nm []) .none<|bN nm []):Do j O 790 [.ref 0,.str ao,.str x,.int ((0:Nat):Int)] (bN nm []) (.ref 9) (bN nm [.list [.tup [.str ao,.str x]]]):=by exact am [(bo,V.ref 0),(eD,V.str ao),(bb,V.str x),(b7,V.int ↑0)] rfl<|sk 6<|aj Q.m m rfl rfl
def Rp(m:O none (.fn 762) [.str x,.int ((0:Nat):Int)] (bN nm [])=some (.exc i H')):aF (j+60) tab O none (.fn 790) [.ref 0,.str ao,.str x,.int ((0:Nat):Int)] (bN nm [])=some (.exc i H'):=by exact am [(bo,V.ref 0),(eD,V.str ao),(bb,V.str x),(b7,V.int ↑0)] rfl<|sk 6<|aj Q.m m rfl rfl
end
abbrev j2(x:List Nat)(tl:Loc):Loc:=(bo,.ref 0)::(bb,.str x)::(uh,.int 0)::tl
section
variable{O:ap}{H:aq}
def TJ(aE:x.drop k=c::r)(m:dv O 56 [.str [c]] H (.bool true) H):bu O (j+40) 889 0 (.an 0 (x.length:Nat)) k (j2 x tl) H=bu O (j+39) 889 0 (.an 0 (x.length:Nat)) (k+1) (j2 x<|put cI (.int k) tl) H:=by have f:=pC (H:=H) aE;have i:=ia (H:=H) aE;have s:=el (x:=cI) (v:=.int k) (l:=tl);clear aE;exact fc f<|sk 3<|aj Q.v s rfl<|aj Q.m i rfl<|aj Q.m m rfl rfl
def LW(aE:x.drop k=c::r)(m:dv O 56 [.str [c]] H (.bool false) H)(cs:f' O):bu O (j+40) 889 0 (.an 0 (x.length:Nat)) k (j2 x tl) H=some (.exc H.length (j2 x<|put cI (.int k) tl)<|H++fo [(pP,k)] H.length):=by have f:=pC (H:=H) aE;have i:=ia (H:=H) aE;have s:=el (x:=cI) (v:=.int k) (l:=tl);have C:=vQ (H:=H++fo [(pP,k)] H.length) iK;clear aE;exact fc f<|sk 3<|aj Q.v s rfl<|aj Q.m i rfl<|aj Q.m m rfl<|sk 2<|aj Q.v s rfl<|aj Q.m (cs _ _ _ _) rfl<|aj Q.s (C _) rfl rfl
def Tw(pL:ya O)(cs:f' O):∀r k j tl,x.drop k=r->r.length<=j->Ends H (bu O (j+40) 889 0 (.an 0 (x.length:Nat)) k (j2 x tl) H) (j2 x []) pP k (cD dH r):=by
 intro r;induction r with
 |nil=>exact λk j tl aE _=>⟨tl,kS<|x7 aE⟩|cons c r u=>intro k j tl aE f;obtain⟨j,rfl⟩:∃y,j=y+1:=⟨j-1,(bx<|av (bR 1 _) f).symm⟩;have m:=pL c H;show Ends H _ _ _ _<|match dH c with|true=>(cD dH r).map (·+1)|false=>some 0;revert m;rcases h:dH c;intro m;exact⟨_,LW aE m cs⟩;intro m;exact Ends.up (TJ aE m)<|u (k+1) j _ (gs aE).2.1<|iV f
def D9(h:n<=bg):bP tab O none (.blt .range) [.int ((0:Nat):Int),.int n] H=some (.ok (.an 0 (n:Nat)) H):=by show as (true&&c9 (n:Int)) (rt (V.an 0 (n:Int)) H)=_;exact Y (kh<|av h qe) rfl
def RC(g:bP tab O none (.blt .range) [.int ((0:Nat):Int),.int (x.length:Nat)] H=some (.ok (.an 0 (x.length:Nat)) H))(h:eX (.an 0 (x.length:Nat)) H=true)(l:bu O (j+59) 889 0 (.an 0 (x.length:Nat)) 0 (j2 x []) H=some (.ok .next (j2 x tl) H)):Do j O 889 [.ref 0,.str x,.int ((0:Nat):Int)] H (.ref H.length) (H++[.list []]):=by exact am [(bo,V.ref 0),(bb,V.str x),(uh,V.int ↑0)] rfl<|sk 5<|aj Q.m g rfl<|aj Q.b h rfl<|aj Q.s l rfl rfl
def IF(g:bP tab O none (.blt .range) [.int ((0:Nat):Int),.int (x.length:Nat)] H=some (.ok (.an 0 (x.length:Nat)) H))(h:eX (.an 0 (x.length:Nat)) H=true)(l:bu O (j+59) 889 0 (.an 0 (x.length:Nat)) 0 (j2 x []) H=some (.exc i loc H')):aF (j+60) tab O none (.fn 889) [.ref 0,.str x,.int ((0:Nat):Int)] H=some (.exc i H'):=by exact am [(bo,V.ref 0),(bb,V.str x),(uh,V.int ↑0)] rfl<|sk 5<|aj Q.m g rfl<|aj Q.b h rfl<|aj Q.s l rfl rfl
def DI(H:aq)(m:M V):Option Nat->Prop|none=>m=some (.ok (.ref H.length)<|H++[.list []])|some i=>m=some (.exc H.length<|H++fo [(pP,i)] H.length)
def IR(pL:ya O)(cs:f' O)(aE:x.length<=bg)(f:x.length<=j):DI H (aF (j+60) tab O none (.fn 889) [.ref 0,.str x,.int ((0:Nat):Int)] H) (cD dH x):=by have l:=Tw (H:=H) pL cs (x:=x) x 0 (j+19) [] rfl<|av f<|bE ..;have h:=lW (H:=H) aE;generalize cD dH x=o at l⊢;rcases o with _|i;obtain⟨tl,l⟩:=l;exact RC (D9 aE) h l;obtain⟨loc,l⟩:=l;rw[eW]at l;exact IF (D9 aE) h l
abbrev Ql(O:ap):Prop:=∀(x:List Nat)(H:aq),x.length<=bg->DI H (O none (.fn 889) [.ref 0,.str x,.int ((0:Nat):Int)] H) (cD dH x)
variable{p:Nat}{tx:List Nat}{ce:List V}
def Lx(m:O none (.fn 889) [.ref 0,.str<|c::tx,.int ((0:Nat):Int)] (ak 3 nm (ay x k q h f) [])=some (.ok (.ref 11)<|ak 3 nm (ay x k q h f) [.list []]))(u:Nat.beq p 0=false):Do j O 882 [.ref 0,.str ao,.str<|c::tx,.int p] (ak 3 nm (ay x k q h f) []) (.ref 11) (ak 3 nm (ay x k q h f) [.list []]):=by exact am [(bo,V.ref 0),(eD,V.str ao),(bb,V.str<|c::tx),(b7,V.int ↑p)] rfl<|sk 4<|aj (λb=>Q.c<|some b) u rfl<|sk 25<|aj Q.m m rfl rfl
def LP(m:O none (.fn 889) [.ref 0,.str<|c::tx,.int ((0:Nat):Int)] (ak 3 nm (ay x k q h f) [])=some (.exc i H'))(u:Nat.beq p 0=false):aF (j+60) tab O none (.fn 882) [.ref 0,.str ao,.str<|c::tx,.int p] (ak 3 nm (ay x k q h f) [])=some (.exc i H'):=by exact am [(bo,V.ref 0),(eD,V.str ao),(bb,V.str<|c::tx),(b7,V.int ↑p)] rfl<|sk 4<|aj (λb=>Q.c<|some b) u rfl<|sk 25<|aj Q.m m rfl rfl
def T6(cs:f' O):aF (j+60) tab O none (.fn 882) [.ref 0,.str d6,.str<|c::tx,.int p] (ak 3 nm (ay x k q h f) [])=some (.exc 11<|ak 3 nm (ay x k q h f)<|fo [(nR,0)] 11):=by have C:=cs none nR 0<|ak 3 nm (ay x k q h f) [];clear cs;exact am [(bo,V.ref 0),(eD,V.str d6),(bb,V.str<|c::tx),(b7,V.int ↑p)] rfl<|sk 43<|aj Q.m C rfl rfl
def Pn(cs:f' O):aF (j+60) tab O none (.fn 882) [.ref 0,.str gf,.str<|c::tx,.int p] (ak 3 nm (ay x k q h f) [])=some (.exc 11<|ak 3 nm (ay x k q h f)<|fo [(nR,0)] 11):=by have C:=cs none nR 0<|ak 3 nm (ay x k q h f) [];clear cs;exact am [(bo,V.ref 0),(eD,V.str gf),(bb,V.str<|c::tx),(b7,V.int ↑p)] rfl<|sk 38<|aj Q.m C rfl rfl
def HM(m:O none (.fn 790) [.ref 1,.str d6,.str<|c::tx,.int ((0:Nat):Int)] (ak 1 nm (ay x k q h f) [])=some (.ok (.ref 11)<|ak 1 (a::l) (ay x k q h f) [.list ce])):Do j O 882 [.ref 0,.str d6,.str<|c::tx,.int p] (ak 0 nm (ay x k q h f) []) (.ref 11) (ak 2 (a::l) (ay x k q h f) [.list ce,.list []]):=by exact am [(bo,V.ref 0),(eD,V.str d6),(bb,V.str<|c::tx),(b7,V.int ↑p)] rfl<|sk 51<|aj Q.m m rfl rfl
end
noncomputable def ug:List Addr:=[582,596,610,755,790,847,868,875,854,861,918,1003,1081,1088,1100,1112,1119,1126,1131,1138,1145]
noncomputable def mS(hd:Option Nat)(z:Addr):Option Addr:=match hd with|none=>some z|some _=>none
def eS(hd:Option Nat):V->Option Addr|.fn z=>(match bv z ug with|true=>mS hd z|false=>none)|_=>none
noncomputable def NN:Nat:=200000
def zh(d:Nat):ap:=Nat.rec (λ_ _ _ _=>none) (λ_ O=>aF NN tab O) d
def hO(D:List V)(H:aq):M V:=bD (λD H=>aF NN tab (zh 40) none (.fn 790) D H) D H
def mG(D:List V):Bool:=match D with|_::a::_=>(match ef a with|some x=>!ar x ao|none=>false)|_=>false
def Jr(O:ap):ap:=λhd a D H=>match eS hd a with
 |some z=>(match Nat.beq z 790&&mG D with|true=>hO D H|false=>bD (λD H=>aF NN tab O none (.fn z) D H) D H)
 |none=>aF NN tab O hd a D H
def ax(d:Nat):ap:=Nat.rec (λ_ _ _ _=>none) (λ_ O=>Jr O) d
def Lj(e:eS hd a=some z):hd=none/\a=.fn z:=by
 induction a using V.casesOn with
 |fn g=>have e:(match bv g ug with|true=>mS hd g|false=>none)=some z:=e;revert e;rcases h:bv g ug;intro e;exact aW e;intro e;rcases hd;obtain rfl:=aQ e;exact⟨rfl,rfl⟩;exact aW e
 |_=>exact aW e
section
variable{I:Program}{K:al}{B:Frag}(G:cy K tab B)(j:eQ K tab)(M:fX I K)(af:g8 I K)
include G j M af
theorem Hd:∀d,dc I K d (zh d):=by
 intro d;induction d with
 |zero=>exact⟨λ_ _ _ _ e=>nomatch e⟩|succ d f=>exact jj (lQ (T:=tab) G j M af (f) NN) λh W _ _=>sO G h W
theorem tq(W:dc I K d O)(e:bD (λD H=>aF NN tab O none (.fn z) D H) D H=some r):Good I K (d+1) none (.fn z) D H r:=by exact jj (lQ (T:=tab) G j M af W NN) λh W _ _=>Hj (λD H r e=>by intro F loc f s u us;exact Good.run G h W e) e
theorem wI:∀d,dc I K (41+d) (ax d):=by
 intro d;induction d with
 |zero=>exact⟨λ_ _ _ _ e=>nomatch e⟩
 |succ d O=>
  have N:=O;refine jj (lQ (T:=tab) G j M af N NN) λaa W _ _=>⟨λ{F loc f H s a u D us r} E R J q e=>?_⟩;have e:(match eS F.hd a with
   |some z=>(match Nat.beq z 790&&mG D with|true=>hO D H|false=>bD (λD H=>aF NN tab (ax d) none (.fn z) D H) D H)
   |none=>aF NN tab (ax d) F.hd a D H)=some r:=e
  revert e;rcases h:eS F.hd a with _|z;intro e;exact(sO G aa W).call E R J q e
  .intro e;refine aS (Lj h) λk U=>?_;subst U;have e:(match Nat.beq z 790&&mG D with|true=>hO D H|false=>bD (λD H=>aF NN tab (ax d) none (.fn z) D H) D H)=some r:=e
   revert e;rcases y:(Nat.beq z 790&&mG D);intro e;exact fJ (tq G j M af N e E k R J q) λ_ _ x=>x.weak;intro e;refine zb y λC _=>?_;obtain rfl:=cd C;exact fJ (tq G j M af (Hd G j M af 40) (z:=790) e (E.mono<|bE 41 _) k R J q) λ_ _ x=>x.weak
end
section
variable(d:Nat)
theorem g3:Dc (ax<|d+1):=λ_ _ _=>FN (O:=ax d) (j:=199940)
theorem rB{k:Nat}(H)(aE:x.drop k=r)(h:Nat.ble 1 w.length=true):dv (ax<|d+1) 512 [.str x,.str w,.int k] H (oK k<|iJ r w) H:=K1 (O:=ax d) (j:=199940) aE h
theorem gO:t3 (ax<|d+2):=λ_ aE aP h f=>Gw (O:=ax<|d+1) (j:=199940) (rB d) aE aP h f
theorem s9(h:n<=bg):n<=199940:=av h<|by decide
theorem Ab{x:List Nat}(aE:x.drop k=r):r.length<=x.length:=by refine Y aE.symm<|Y b9 ?_;exact gq ..
theorem ox:x' (ax<|d+1):=λ_ aE aP hm bk=>MY (O:=ax d) (j:=199940) aE aP bk<|s9<|av (Ab aE) hm
theorem vT:Dp (ax<|d+3):=λ_ aE aP hd he f=>Uo (O:=ax<|d+2) (j:=199940) (gO d) aE aP hd he f
theorem ma:ue (ax<|d+4):=λ_ aE aP hm p f o=>Sh (O:=ax<|d+3) (j:=199940) aE aP hm p (g3<|d+2) (gO<|d+1) (ox<|d+2) (vT d) f o
theorem jV:Cs (ax<|d+1):=λ_ aE hm=>RR (O:=ax d) (j:=199940) aE<|s9<|av (Ab aE) hm
theorem oP:z' (ax<|d+1):=λ_ aE aP=>SU (O:=ax d) (j:=199940) aE aP
theorem cW:n' (ax<|d+1):=λ_ aE aP hm he=>Gm (O:=ax d) (j:=199940) aE aP hm he
theorem lf:uK (ax<|d+2):=λ_ aE aP hm=>L0 (O:=ax<|d+1) (j:=199940) (jV d) (oP d) (cW d) aE aP hm
theorem kZ:v4 (ax<|d+1):=λ_ aE=>Lw (O:=ax d) (j:=199940) aE
theorem pL:ya (ax<|d+1):=λ_ _=>T4 (O:=ax d) (j:=199940)
theorem qY:uR (ax<|d+2):=λ_ _=>OT (O:=ax<|d+1) (j:=199940)<|OV (O:=ax d) (j:=199940)
theorem cs:f' (ax<|d+2):=NG λhd k pl H=>T9 (O:=ax<|d+1) (j:=199940)<|HC (O:=ax d) (j:=199940)
theorem t6:Bm (ax<|d+3):=λ_ _ _ aE=>G3 (O:=ax<|d+2) (j:=199940) (qY d) (cs d) aE<|s9 aE
theorem BG(x)(p:Nat)(H)(aE:x.length<=bg):yN H (ax (d+4) none (.fn 762) [.str x,.int p] H) p (ih x):=T3 (O:=ax<|d+3) (j:=199940) (t6 d) (cs<|d+1) aE
theorem QL:Ql (ax<|d+3):=λ_ _ aE=>IR (O:=ax<|d+2) (j:=199940) (pL<|d+1) (cs d) aE<|s9 aE
theorem cg(s:Seen):cA (ay x k p h s.aA):=by cases s<;>exact⟨rfl,λ_=>rfl⟩
theorem zn:gp (n9 p r t):=by obtain⟨kd,e⟩:=t;cases kd<;>exact⟨rfl,λ_=>rfl⟩
theorem Eg:FT (ax<|d+3):=λ{st nm x r h I k p s aa} G aE aP hm u=>hJ (X:=λD H=>aF NN tab (ax<|d+2) none (.fn 582) D H) (i:=10) (w:=[.str I]) rfl (cg s) (.cons .str .nil) (cg s) .none (Rk (O:=ax<|d+2) (j:=199940) (G:=[]) (f:=s.aA) (kZ<|d+1) aE aP hm u)
theorem yP:H6 (ax<|d+3):=λ{st nm x h k p s aa} G hm u=>hJ (X:=λD H=>aF NN tab (ax<|d+2) none (.fn 596) D H) (i:=10) (w:=[]) rfl (cg s) .nil (cg s) .none (Kz (O:=ax<|d+2) (j:=199940) (G:=[]) (f:=s.aA) (kZ<|d+1) hm u)
theorem QQ:wm (ax<|d+5):=λ{st nm x r h k p s} E G aE aP hm o=>hJ (X:=λD H=>aF NN tab (ax<|d+4) none (.fn 610) D H) (i:=10) (w:=[.bool E]) rfl (cg s) (.cons .bool .nil) (cg (bK r s E).2.2) zn (vP (O:=ax<|d+4) (j:=199940) (G:=[]) (ma d) (gO<|d+2) (cW<|d+3) (lf<|d+2) aE aP hm<|t7 o)
end
section
variable{aa:Nat->Prop}{z g h:Nat->Nat}(c:∀i,aa i->g (z i)=h i)
include c
mutual
theorem sj:∀{a:V},hS aa a->bl g (bl z a)=bl h a
 |.tup _,k=>az V.tup<|th k
 |.ref _,k=>az V.ref<|c _ k
 |.bm _ _,k=>az (V.bm _)<|c _ k
 |.bX _ _ cl,k=>by show V.bX _ _ ((cl.map λp=>(p.1,z p.2)).map λp=>(p.1,g p.2))=V.bX _ _ (cl.map λp=>(p.1,h p.2));exact Y List.map_map<|az (V.bX _ _)<|List.map_congr_left λp m=>az (Prod.mk p.1)<|c _<|k p m
 |.none,_=>rfl|.bool _,_=>rfl|.int _,_=>rfl|.str _,_=>rfl|.fn _,_=>rfl|.blt _,_=>rfl|.an _ _,_=>rfl
theorem th:∀{l:List V},ij aa l->bF g (bF z l)=bF h l|[],_=>rfl|_::_,k=>by show bl g (bl z _)::bF g (bF z _)=bl h _::bF h _;exact Y (sj k.1)<|Y (th k.2) rfl
end
theorem Et:∀{l},j7 aa l->gx g (gx z l)=gx h l:=by
 intro l;induction l with
 |nil=>intro _;exact rfl
 |cons j u f=>rcases j with⟨_,_⟩;intro k;show(_,bl g<|bl z _)::gx g (gx z _)=(_,bl h _)::gx h _;exact Y (sj c k.1)<|Y (f k.2) rfl
theorem w2(k:jf aa o):bn g (bn z o)=bn h o:=by
 rcases o with l|⟨E,f⟩|⟨E,j,x⟩|f|v;exact az au.list<|th c k;exact az (au.inst E)<|Et c k
 .have e:∀j:Option Nat,(∀i,j=some i->aa i)->(j.map z).map g=j.map h:=λj k=>by rcases j with _|i;rfl;exact az some<|c i<|k i rfl
  show au.exc E ((j.map z).map g) ((x.map z).map g)=au.exc E (j.map h) (x.map h);exact Y (e j k.1)<|Y (e x k.2) rfl
 exact az au.dict<|Et c k;rcases v with _|a;rfl;exact az (λa=>au.cell<|some a)<|sj c<|k a rfl
end
noncomputable def c'(H:aq)(J:List Nat)(i:Nat):Nat:=match J[i]? with|some k=>k|none=>H.length+(i-J.length)
noncomputable def iR(ρ:Nat->Nat):aq->aq|[]=>[]|o::H=>bn ρ o::iR ρ H
noncomputable def qG:Nat->aq->aq|0,H=>H|n+1,H=>match H with|[]=>[]|_::H=>qG n H
def lS(H:aq)(J:List Nat)(x:aq):aq:=cp (c' H J) H J x++iR (c' H J) (qG J.length x)
def Sr(H:aq)(J:List Nat):R V->R V
 |.ok b x=>.ok (bl (c' H J) b)<|lS H J x
 |.exc i x=>.exc (c' H J i)<|lS H J x
theorem AR:∀{l H A B},l.length<=A.length->l.length<=B.length->(∀i,i<l.length->∀o p,A[i]? =some o->B[i]? =some p->bn ρ o=bn j p)->cp ρ H l A=cp j H l B
 |[],_,_,_,_,_,_=>rfl|_::_,_,[],_,h,_,_=>absurd h<|jT _
 |_::_,_,_::_,[],_,h,_=>absurd h<|jT _
 |k::l,H,o::A,p::B,x,y,h=>by show cp ρ (H.set k<|bn ρ o) l A=cp j (H.set k<|bn j p) l B;exact Y (h 0 (mW _) o p rfl rfl)<|AR (iV x) (iV y) λi f o p e1 u=>h (i+1) (Nat.succ_lt_succ f) o p e1 u
def Hm:∀{l},(∀k∈l,∃o,H[k]? =some o/\bn g (bn z o)=bn h o)->iR g (b' z H l)=b' h H l:=by
 intro l;induction l with
 |nil=>intro _;exact rfl
 |cons k l f=>intro c;refine aZ (c k<|.head _) λo e r=>?_;show bn g (match H[k]? with|some o=>bn z o|none=>.cell none)::iR g (b' z H l)=(match H[k]? with|some o=>bn h o|none=>.cell none)::b' h H l;exact Y e<|Y (f λk m=>c k<|.tail _ m)<|az (·::_) r
theorem vY:∀{n A B},A.length=n->qG n (A++B)=B
 |0,[],_,_=>rfl|0,_::_,_,h=>by cases h
 |n+1,[],_,h=>by cases h
 |n+1,_::A,B,h=>vY (n:=n) (A:=A)<|hE h
def fZ(h:i<n):(upTo n l)[i]? =some i:=by
 have D:∀n l i,(i<n->(upTo n l)[i]? =some i)/\(upTo n l)[n+i]? =l[i]? :=by
  intro n;induction n with
  |zero=>exact λl i=>⟨λh=>absurd h<|g6 _,by exact Y (eW ..) rfl⟩|succ n f=>intro l i;refine⟨λh=>?_,?_⟩;rcases dJ i n with q|q;exact(f (n::l) i).1 q;obtain rfl:=cf (eZ h) q;exact(f (i::l) 0).2;exact Y (cz ..)<|Y (cF 1 ..)<|(f (n::l)<|i+1).2
 exact(D n l i).1 h
def oy(c:∀i,aa i->z i=i)(k:jf aa o):bn z o=o:=by have a:=w2 (z:=z) (g:=z) (h:=z) (aa:=aa) (λi d=>by refine Y (c i d) ?_;exact c i d) k;have b:=yY (z:=z) (g:=z) (aa:=aa) (λi d=>by refine Y (c i d) ?_;exact c i d) k;exact a.symm.trans b
def rR(c:∀i,aa i->z i=i)(k:ij aa l):bF z l=l:=by have a:=th (z:=z) (g:=z) (h:=z) (aa:=aa) (λi d=>by refine Y (c i d) ?_;exact c i d) k;have b:=p6 (z:=z) (g:=z) (aa:=aa) (λi d=>by refine Y (c i d) ?_;exact c i d) k;exact a.symm.trans b
def wE(h:∀(i:Nat)(o:au),H[i]? =some o->bn z o=o):b' z H (upTo H.length [])=H:=by refine l2 λi=>?_;rcases dJ i H.length with q|q;obtain⟨o,e⟩:∃o,H[i]? =some o:=⟨_,dx q⟩;exact Y (n6 (fZ q) e)<|Y e<|Y (h i o e) rfl;exact Y (eL q)<|Y (eL<|by rw[n1,i6];exact q) rfl
def hB(C:reach 4000 H (cm D) []=some J)(hv:bF (λi=>bc i J) D=U)(u:b' (λi=>bc i J) H J=x)(h0:reach 4000 x (cm U) []=some (upTo J.length []))(h:bD X U x=some E):bD X D H=some (Sr H J E):=by
 have hl:x.length=J.length:=Y u.symm<|Y n1 rfl;have c:=lU h0;have cl:∀i,i<J.length->∃o,x[i]? =some o/\∀j∈bH o,j<J.length:=λi f=>by exact aZ ((c.cl i<|mem_upTo<|.inl f).resolve_left λm=>(nomatch m)) λo e1 T=>a9 o e1 λj m=>(k'<|T j m).resolve_right λm=>(nomatch m)
 have ix:∀i,i<J.length->bc i (upTo J.length [])=i:=λi f=>lu (lF (λ_ m=>(nomatch m)) .nil)<|fZ f;refine aK h λag ab e=>?_;rw[h0]at ab;obtain rfl:=aQ ab;have e:(match(gy (upTo J.length [])&&(cQ (λi=>bv i<|upTo J.length []) (cm U)&&dE (λi=>bv i<|upTo J.length []) x (upTo J.length [])))with|true=>ob (X (bF (λi=>bc i<|upTo J.length []) U)<|b' (λi=>bc i<|upTo J.length []) x<|upTo J.length []) (m0 x<|upTo J.length [])|false=>none)=some E:=e;have r1:bF (λi=>bc i<|upTo J.length []) U=U:=rR (aa:=(·<J.length)) ix<|mi λi m=>(k'<|c.sub i<|.inr m).resolve_right λm=>(nomatch m);have r2:b' (λi=>bc i<|upTo J.length []) x (upTo J.length [])=x:=by
  have:=wE (z:=λi=>bc i<|upTo J.length []) (H:=x) λi o e=>by refine aZ (cl i<|by refine Y hl.symm ?_;exact(b4.mp e).1) λo' e1 T=>?_;rw[e]at e1;clear e;obtain rfl:=aQ e1;exact oy (aa:=(·<J.length)) ix<|jz T
  rwa [hl]at this
 rw[r1,r2]at e;revert e;induction b0:(gy (upTo J.length [])&&(cQ (λi=>bv i<|upTo J.length []) (cm U)&&dE (λi=>bv i<|upTo J.length []) x (upTo J.length [])))with
 |false=>exact aW
 |true=>
 intro e;refine aK e λq eq e=>Y (qn C (q:=q)<|by rw[hv,u];exact eq) ?_;have hA:∀{y:List Nat},(∀i∈y,J.length<=i)->∀i,Kept J.length y i->c' H J (bt x (upTo J.length []) y i)=bt H J y i:=λ{y} ge i k=>by unfold bt;rcases dJ i J.length with f|f;refine Y (fZ f) ?_;obtain⟨k,e⟩:∃k,J[i]? =some k:=⟨_,dx f⟩;show c' H J i=_;unfold c';exact Y e rfl;refine Y (eL<|by rw[i6];exact f) (Y (eL f) ?_);show c' H J (x.length+bc i y)=_;unfold c';exact Y (eL<|by rw[hl];exact bE ..)<|Y hl<|Y (ez ..) rfl
 have ae:∀{y:List Nat}{I:aq},J.length<=I.length->(∀i∈y,J.length<=i)->(∀i,Kept J.length y i->∃o,I[i]? =some o/\∀j∈bH o,Kept J.length y j)->
   cp (bt H J y) H J I++b' (bt H J y) I y=lS H J (cp (bt x (upTo J.length []) y) x (upTo J.length []) I++b' (bt x (upTo J.length []) y) I y):=λ{y I} le ge N=>by
  have sl:(cp (bt x (upTo J.length []) y) x (upTo J.length []) I).length=J.length:=Y iF<|Y hl rfl;have ul:(upTo J.length []).length=J.length:=i6;unfold lS;rw[vY sl,Hm λk m=>?_];congr 1;refine AR le (by refine Y a0<|Y sl ?_;exact bE ..) λi f o p e1 T=>?_;rw[dO (by refine Y sl ?_;exact f),pq (lF (n:=J.length) (l:=[]) (λ_ m=>(nomatch m)) .nil) (λk m=>by refine Y hl ?_;exact(k' (l:=[]) m).resolve_right λm=>(nomatch m)) (fZ f) e1]at T;clear e;obtain rfl:=aQ T;refine aZ (N i<|.inl f) λo' e3 e4=>?_;rw[e1]at e3;clear e;obtain rfl:=aQ e3;exact(w2 (hA ge)<|jz e4).symm;exact aZ (N k<|.inr m) λo' e3 e4=>a9 o' e3<|w2 (hA ge)<|jz e4
 have ul:(upTo J.length []).length=J.length:=i6;rcases q with⟨b,I⟩|⟨i,I⟩;have e:back x (upTo J.length []) b I (λρ H'=>some<|.ok (bl ρ b) H')=some E:=e;refine EK (ty e) λy ek le af O W N bk=>?_;rw[ul]at le O W N;clear h e;obtain rfl:=aQ ek;refine(bk H J (λρ H'=>some<|.ok (bl ρ b) H') ul.symm).trans ?_;show some (R.ok (bl (bt H J y) b) _)=some (R.ok (bl (c' H J)<|bl (bt x (upTo J.length []) y) b) _);exact Y (ae le O N)<|Y (sj (hA O)<|pd W) rfl;have e:back x (upTo J.length []) (.ref i) I (λρ H'=>some<|.exc (ρ i) H')=some E:=e;refine EK (ty e) λy ek le af O W N bk=>?_;rw[ul]at le O W N;clear h e;obtain rfl:=aQ ek;refine(bk H J (λρ H'=>some<|.exc (ρ i) H') ul.symm).trans ?_;show some (R.exc (bt H J y i) _)=some (R.exc (c' H J<|bt x (upTo J.length []) y i) _);exact Y (ae le O N)<|Y (hA O i<|W i<|.head _) rfl
noncomputable abbrev cj:List Nat:=[0,1,2,3,4,5,6,7,8,9,10]
def Cq:∀k∈[1,10,2,7,9,3,4,5,6,3,8],k∈cj:=by decide
def Hg:∀k∈[1,10],k∈cj:=by decide
def Li:∀k∈[2,7,9,3,4,5,6,3,8],k∈cj:=by decide
theorem v8:∀{ch i j},(∀m,ρ (i+m)=j+m)->iR ρ (fo ch i)=fo ch j|[],_,_,_=>rfl|c::ch,i,j,h=>by have e:=v8 (ρ:=ρ) (ch:=ch) (i:=i+2) (j:=j+2) λm=>Y (cz ..)<|Y (h ..)<|Y (cz ..) rfl;have f:=h 1;have k:=h 2;rcases ch with _|⟨d,ch⟩;show au.exc 150 (some<|ρ<|i+1) none::_::iR ρ (fo []<|i+2)=_;exact Y f rfl;show au.exc 150 (some<|ρ<|i+1) (some<|ρ<|i+2)::_::iR ρ (fo (d::ch)<|i+2)=_;exact Y f<|Y k<|Y e rfl
section
variable{st:Nat}{nm u:List V}{E f:au}{w:List V}{X:List V->aq->M V}
def tY(h:aH nm)(j:cA E):reach 4000 (ak st nm E G) [0] []=some cj:=by have e:f0 (ak st nm E G)=[1,10]::[2,7,9]::[3,4,5,6]::[]::[]::[]::[]::[3,8]::[]::cm nm::bH E::f0 G:=rfl;exact Y lT<|Y e<|Y h.1<|Y j.1 rfl
def F5(h:aH nm)(j:cA E):b' (λi=>bc i cj) (ak st nm E G) cj=ak st nm E []:=by show _::_::_::_::_::_::_::_::_::au.list (bF _ nm)::bn _ E::[]=_;exact Y (h.2 ..)<|Y (j.2 ..) rfl
def oo(x:aH w):cm (.ref 0::w)=[0]:=by show[0]++cm w=_;exact Y x.1 rfl
def Gu(x:aH w)(l)(h:bc 0 l=0):bF (λi=>bc i l) (.ref 0::w)=.ref 0::w:=by show V.ref (bc 0 l)::bF _ w=_;exact Y (x.2 ..)<|Y h rfl
def C2(h:aH nm)(j:cA E)(x:aH w)(aE:X (.ref 0::w) (ak st nm E [])=some q):bD X (.ref 0::w) (ak st nm E G)=m0 (ak st nm E G) cj q:=by refine qn ?_ ?_;exact Y (oo x)<|tY h j;exact Y (Gu x _ rfl)<|Y (F5 h j) aE
def Ah{R:aq}(h:aH u)(j:cA f):cC (bL ae aa::(rest u++(f::R))) 11=([1]++([10]++(c0 aa++[])))++[2,7,9,3,4,5,6,3,8]:=by have e:cC (bL ae aa::(rest u++(f::R))) 11=([1]++([10]++(c0 aa++[])))++([2,7,9,3,4,5,6,3,8]++(cm u++(bH f++cC R 0))):=rfl;refine Y e<|Y h.1<|Y j.1 ?_;cases R<;>rfl
def yZ{R:aq}(h:aH u)(j:cA f)(k:∀i,i<11->ρ i=i):cp ρ (ak st nm E G) cj (bL ae aa::(rest u++(f::R)))=bL ae (bl ρ aa)::(rest u++(f::G)):=by
 have e:cp ρ (ak st nm E G) cj (bL ae aa::(rest u++(f::R)))=.inst 899 [(mq,.ref<|ρ 1),(lX,.none),(k6,.ref<|ρ 10),(mg,.int ae),(lV,.bool false),(mJ,bl ρ aa)]::
  .inst 828 [(eJ,.ref<|ρ 2),(eR,.ref<|ρ 7),(iz,.ref<|ρ 9)]::.inst 1070 [(eh,.ref<|ρ 3),(ko,.ref<|ρ 4),(jg,.ref<|ρ 5),(kR,.ref<|ρ 6)]::.inst 921 [(iX,.int 20),(iy,.int 100000)]::.dict []::.dict []::.dict []::
  .inst 377 [(eh,.ref<|ρ 3),(gU,.int 0),(gZ,.ref<|ρ 8)]::.list []::.list (bF ρ u)::bn ρ f::G:=rfl
 exact Y e<|Y (h.2 ..)<|Y (j.2 ..)<|Y (k 1<|by decide)<|Y (k 2<|by decide)<|Y (k 3<|by decide)<|Y (k 4<|by decide)<|Y (k 5<|by decide)<|Y (k 6<|by decide)<|Y (k 7<|by decide)<|Y (k 8<|by decide)<|Y (k 9<|by decide)<|Y (k 10<|by decide) rfl
def Dj:∀i,i<11->bt H cj y i=i:=λi h=>by
 match i,h with
 |0,_=>rfl|1,_=>rfl|2,_=>rfl|3,_=>rfl|4,_=>rfl|5,_=>rfl|6,_=>rfl|7,_=>rfl|8,_=>rfl|9,_=>rfl|10,_=>rfl|n+11,h=>exact absurd h<|pF<|bR 11 n
variable(h:aH nm)(j:cA E)(z:aH u)(C:cA f)(x:aH w)
include h j z C x
theorem sw{R:aq}(aE:X (.ref 0::w) (ak st nm E [])=some (.ok (.ref<|m+11)<|ak ae u f R))(D:R[m]? =some o)(no:cA o):bD X (.ref 0::w) (ak st nm E G)=some (.ok (.ref<|G.length+11)<|ak ae u f<|G++[o]):=by
 refine Y (C2 h j x aE) ?_;have I:reach 4000 (ak ae u f R) (c0 (.ref<|m+11)++cC (ak ae u f R) 11) (upTo 11 [])=some (upTo 11 []++[m+11]):=by have e:cC (ak ae u f R) 11=[1,10,2,7,9,3,4,5,6,3,8]:=Ah z C;exact Y e<|(cT (i:=m+11) (H:=ak ae u f R) rfl D).trans<|Y no.1<|kY (T:=[1,10,2,7,9,3,4,5,6,3,8]) (done:=cj++[m+11]) (λk m=>fF _<|Cq k m)<|by decide
 show back (ak st nm E G) cj (.ref<|m+11) (ak ae u f R) (λρ H'=>some<|.ok (bl ρ<|.ref<|m+11) H')=_;refine(nF (J:=cj) (H:=ak st nm E G) (b:=.ref<|m+11) (y:=[m+11]) I<|bR 11 _).trans ?_;show some (Mine.Internal.R.ok (V.ref<|G.length+11+bc (m+11) [m+11])<|cp (bt (ak st nm E G) cj [m+11]) (ak st nm E G) cj (bL ae .none::(rest u++(f::R)))++[match R[m]? with|some o=>bn _ o|none=>.cell none])=_;refine Y (yZ z C Dj)<|Y wT<|Y D ?_;show some (Mine.Internal.R.ok (V.ref<|G.length+11)<|ak ae u f<|G++[bn _ o])=_;exact Y (no.2 ..) rfl
theorem BI{R:aq}(aE:X (.ref 0::w) (ak st nm E [])=some (.exc i<|bL ae aa::(rest u++(f::R))))(D:aa=.none\/aa=.ref i)(N:30<n)(W:∀T,reach 4000 (bL ae aa::(rest u++(f::R))) (i::T) cj=reach n (bL ae aa::(rest u++(f::R))) T (cj++i::y))(aP:b' (bt (ak st nm E G) cj<|i::y) (bL ae aa::(rest u++(f::R))) (i::y)=fo ch (G.length+11))(I:11<=i):bD X (.ref 0::w) (ak st nm E G)=some (.exc (G.length+11)<|bL ae (bl (λ_=>G.length+11) aa)::(rest u++(f::(G++fo ch (G.length+11))))):=by
 refine Y (C2 h j x aE) ?_;have O:bt (ak st nm E G) cj (i::y) i=G.length+11:=by unfold bt;refine Y (eL<|show cj.length<=i from I) ?_;show G.length+11+(match Nat.beq i i with|true=>0|false=>bc i y+1)=_;exact Y (em ..) rfl
 have rf:bl (bt (ak st nm E G) cj<|i::y) aa=bl (λ_=>G.length+11) aa:=by rcases D with rfl|rfl;rfl;exact az V.ref O
 have U:reach 4000 (bL ae aa::(rest u++(f::R))) (c0 (.ref i)++cC (bL ae aa::(rest u++(f::R))) 11) (upTo 11 [])=some (upTo 11 []++i::y):=by refine Y (Ah z C)<|(W _).trans<|kY (done:=cj++i::y) (λk m=>?_) ?_;rcases D with rfl|rfl;exact fF _<|Cq k m;rcases d2.mp (show k∈[1,10]++(i::[2,7,9,3,4,5,6,3,8]) from m)with m|m;exact fF _<|Hg k m;rcases bC.mp m with e|m;exact gA _<|e▸.head _;exact fF _<|Li k m;rcases D with rfl|rfl;exact nS (show 11<30 by decide) N;exact nS (show 12<30 by decide) N
 show back (ak st nm E G) cj (.ref i) (bL ae aa::(rest u++(f::R))) (λρ H'=>some<|.exc (ρ i) H')=_;refine(nF (J:=cj) (H:=ak st nm E G) (b:=.ref i) (y:=i::y) U<|bR 11 _).trans ?_;show some (Mine.Internal.R.exc (bt (ak st nm E G) cj (i::y) i)<|cp (bt (ak st nm E G) cj<|i::y) (ak st nm E G) cj (bL ae aa::(rest u++(f::R)))++b' (bt (ak st nm E G) cj<|i::y) (bL ae aa::(rest u++(f::R))) (i::y))=_;exact Y (yZ z C Dj)<|Y aP<|Y O<|Y rf rfl
end
def LS:∀l,aH (ir l):=by
 intro l;induction l with
 |nil=>exact .nil|cons _ l f=>exact .cons (.tup<|.cons .str<|.cons .str .nil)<|f
def Ku(e:cL):gp e.aA:=by rcases e with t|o;exact .tup<|.cons .str<|.cons .str .nil;rcases o with⟨n,l⟩|n;exact .tup<|.cons .str<|.cons .str<|.cons (.tup<|LS l) .nil;exact .tup<|.cons .str<|.cons .str .nil
def hy:∀l,aH (aD l):=by
 intro l;induction l with
 |nil=>exact .nil|cons e l f=>exact .cons (Ku e)<|f
section
variable(d:Nat)
theorem la{H:aq}(f:H[n]? =some o):H.set n o=H:=by refine l2 λj=>Y List.getElem?_set ?_;split;rename_i C;subst C;exact Y (bZ (b4.mp f).1)<|Y f rfl;rfl
theorem CX(k:H[i]? =some (.list<|aD l))(hl:l.length<=bg)(I:cM l<=bg):ax (d+1) none (.fn 755) [.ref i] H=some (.ok (.ref H.length)<|H++[.list<|aD<|aJ l []]):=by
 have y:(aD l).length<=bg:=by refine Y (kF ..) ?_;exact hl
 refine Pq (SV (O:=ax d) y l 0 0 199959 [] [] [.list []] [] rfl (bJ _) (av hl<|by decide) rfl (bJ _) (bJ _)<|by show 0+cM l<=bg;refine Y (eW ..) ?_;exact I) λfd N m z tl f h u C E=>?_;have no:cA (.list<|aD l):=.list<|hy l;refine Y (show aJ l []=fd++dA N from u.symm) ?_;have bp:∀{r:Nat}{p:List cL}{G:aq},G[r]? =some (.list<|aD p)->aF NN tab (ax d) none (.fn 755) [.ref 0] [.list<|aD l]=some (.ok (.ref<|r+1)<|.list (aD l)::G)->ax (d+1) none (.fn 755) [.ref i] H=some (.ok (.ref H.length)<|H++[.list<|aD p]):=λ{r p G} J e=>by have c:=CY (X:=λD H=>aF NN tab (ax d) none (.fn 755) D H) (w:=[]) k no .nil no J (.list<|hy p) e;rw[la k]at c;exact c
 rcases N with _|⟨p,N⟩;exact Y (show fd++dA []=fd from be _)<|bp (r:=0) rfl<|N1 (O:=ax d) (j:=199940) f h
 .have e:aD (fd++dA (p::N))=aD fd++[.tup [.str ao,.str<|jn []<|p::N]]:=by exact Y (ow ..) rfl
  have x:(aD fd).length+1<=1000000:=by rw[kF]at y⊢;exact av (iB (av E<|by refine Y (kF ..) ?_;exact eg 2 y) 1)<|by decide
  exact bp (by refine Y e ?_;exact cX (H:=.list (aD fd)::(z++[.list []]++[.list [.tup [.str ao,.str<|jn []<|p::N]]])))<|Mw (O:=ax d) (j:=199940) f h (av C<|by decide) x
theorem IZ:AJ (ax<|d+1):=λ{st nm E l} G hl f=>CX d (i:=11) (H:=ak st nm E<|.list (aD l)::G) rfl hl f
end
noncomputable abbrev K9:List Nat:=[1,2,3,4,5,6,7,8,9]
section
variable{st:Nat}{nm u:List V}{tx:List Nat}
def vt(f:aH nm):reach 4000 (bN nm []) [0] []=some (upTo 9 []):=by have e:f0 (bN nm [])=[1,6,8]::[2,3,4,5]::[]::[]::[]::[]::[2,7]::[]::cm nm::[]:=rfl;exact Y lT<|Y e<|Y f.1 rfl
def zF(f:aH nm):reach 4000 (ak st nm E []) [1] []=some K9:=by have e:f0 (ak st nm E [])=[1,10]::[2,7,9]::[3,4,5,6]::[]::[]::[]::[]::[3,8]::[]::cm nm::bH E::[]:=rfl;exact Y lT<|Y e<|Y f.1 rfl
def Dd(f:aH nm):b' (λi=>bc i K9) (ak st nm E []) K9=bN nm []:=by show _::_::_::_::_::_::_::_::au.list (bF _ nm)::[]=_;exact Y (f.2 ..) rfl
def z9(f:aH u):lS (ak st nm E []) K9 (bN u G)=ak st u E (iR (c' (ak st nm E []) K9) G):=by show bL st .none::_::_::_::_::_::_::_::_::au.list (bF _ u)::E::iR _ G=_;exact Y (f.2 ..) rfl
variable(f:aH nm)(h:aH u)
include f h
theorem Sq(aE:bD X [.ref 0,.str kd,.str tx,.int ((0:Nat):Int)] (bN nm [])=some (.ok (.ref 9)<|bN u [.list<|aD l])):bD X [.ref 1,.str kd,.str tx,.int ((0:Nat):Int)] (ak st nm E [])=some (.ok (.ref 11)<|ak st u E [.list<|aD l]):=by refine(hB (D:=[.ref 1,.str kd,.str tx,.int ((0:Nat):Int)]) (U:=[.ref 0,.str kd,.str tx,.int ((0:Nat):Int)]) (J:=K9) (zF f) rfl (Dd f) (vt f) aE).trans ?_;show some (R.ok (V.ref 11)<|lS (ak st nm E []) K9<|bN u [.list<|aD l])=_;refine Y (z9 h) ?_;show some (R.ok (V.ref 11)<|ak st u E [.list<|bF _<|aD l])=_;exact Y ((hy l).2 ..) rfl
theorem TW(aE:bD X [.ref 0,.str kd,.str tx,.int ((0:Nat):Int)] (bN nm [])=some (.exc 9<|bN u<|fo ch 9)):bD X [.ref 1,.str kd,.str tx,.int ((0:Nat):Int)] (ak st nm E [])=some (.exc 11<|ak st u E<|fo ch 11):=by refine(hB (D:=[.ref 1,.str kd,.str tx,.int ((0:Nat):Int)]) (U:=[.ref 0,.str kd,.str tx,.int ((0:Nat):Int)]) (J:=K9) (zF f) rfl (Dd f) (vt f) aE).trans ?_;show some (R.exc 11<|lS (ak st nm E []) K9<|bN u<|fo ch 9)=_;rw[z9 h,v8 (i:=9) (j:=11) λm=>?_];unfold c';refine Y (eL<|show K9.length<=9+m from bE ..) ?_;show 11+(9+m-9)=_;exact Y (ez ..) rfl
end
inductive Rd where|ok (l:List cL) (nm:List V)|bad (pl:Nat)
abbrev x3:=List V->List Nat->List Nat->Option Rd
noncomputable def jk:List V->Bool|[]=>true|a::l=>match ef a with|some _=>jk l|none=>false
def D1:∀{l},jk l=true->aH l:=by
 intro l;induction l with
 |nil=>intro _;exact .nil
 |cons a l f=>
  intro h;have h:=h;induction a using V.casesOn with
  |str x=>exact .cons .str<|f h
  |_=>exact ff h
noncomputable def Rd.hN(p:Nat):Rd->Er|.ok l nm=>.ok l (match nm with|[]=>3|_::_=>2) nm|.bad pl=>.bad<|p+pl
noncomputable def Rd.Dh:Rd->Option Er|.ok l nm=>(match nm with|[]=>none|a::k=>some<|.ok l 2<|a::k)|.bad _=>none
noncomputable def li(nm:List V)(p:Nat):Option Nat->Er|none=>.ok [] 3 nm|some i=>.bad<|p+i
def sem(rd:x3):g7:=λst nm kd tx p=>b6 (jk nm) (aB (ar kd cP) (some<|.bad p) (aB (Nat.beq st 2) (ob (rd nm kd tx) λe=>some<|e.hN p)
 (b6 (!dB tx&&Nat.ble tx.length bg)<|aB (Nat.beq st 0) (b6 (ar kd d6)<|ob (rd nm kd tx) Rd.Dh)<|b6 (Nat.beq st 3&&dB nm)<|aB (ar kd ao) (b6 (Nat.blt 0 p)<|some<|li nm p<|cD dH tx)<|b6 (ar kd d6||ar kd gf)<|some<|.bad<|p+0)))
def pf(O:ap)(nm:List V)(kd tx:List Nat):Rd->Prop|.ok l u=>aH u/\dv O 790 [.ref 0,.str kd,.str tx,.int ((0:Nat):Int)] (bN nm []) (.ref 9) (bN u [.list<|aD l])|.bad pl=>∃u c ch,c.2=pl/\ch.length<=1/\aH u/\O none (.fn 790) [.ref 0,.str kd,.str tx,.int ((0:Nat):Int)] (bN nm [])=some (.exc 9<|bN u<|fo (c::ch) 9)
def q'(rd:x3)(O:ap):Prop:=∀{nm:List V}{kd tx:List Nat}{e:Rd},aH nm->rd nm kd tx=some e->pf O nm kd tx e
def hT(h:ar a b=true):a=b:=j1.mp h
section
variable{d:Nat}{st:Nat}{p:Nat}{s:Seen}{kd tx:List Nat}{G:aq}
def dj(h:eS none (.fn z)=some z)(f:Nat.beq z 790=false):ax (d+1) none (.fn z) D H=bD (λD H=>aF NN tab (ax d) none (.fn z) D H) D H:=by
 show(match eS none (.fn z)with
  |some z=>(match Nat.beq z 790&&mG D with|true=>hO D H|false=>bD (λD H=>aF NN tab (ax d) none (.fn z) D H) D H)
  |none=>aF NN tab (ax d) none (.fn z) D H)=_
 refine Y h ?_;show(match Nat.beq z 790&&mG D with|true=>hO D H|false=>bD (λD H=>aF NN tab (ax d) none (.fn z) D H) D H)=_
 exact Y f rfl
def FC(d)(kd tx):∃X,∀i H,ax (d+1) none (.fn 790) [.ref i,.str kd,.str tx,.int ((0:Nat):Int)] H=bD X [.ref i,.str kd,.str tx,.int ((0:Nat):Int)] H:=by
 have e:∀(i:Nat)(H:aq),ax (d+1) none (.fn 790) [.ref i,.str kd,.str tx,.int ((0:Nat):Int)] H=(match !ar kd ao with|true=>hO [.ref i,.str kd,.str tx,.int ((0:Nat):Int)] H|false=>bD (λD H=>aF NN tab (ax d) none (.fn 790) D H) [.ref i,.str kd,.str tx,.int ((0:Nat):Int)] H):=λi H=>rfl
 rcases h:!ar kd ao;exact⟨_,λi H=>Y (e ..)<|Y h rfl⟩;exact⟨_,λi H=>by exact Y (e ..)<|Y h rfl⟩
def yE(f:aH nm)(z:aH u)(aE:dv (ax<|d+1) 790 [.ref 0,.str kd,.str tx,.int ((0:Nat):Int)] (bN nm []) (.ref 9)<|bN u [.list<|aD l]):dv (ax<|d+1) 790 [.ref 1,.str kd,.str tx,.int ((0:Nat):Int)] (ak st nm E []) (.ref 11) (ak st u E [.list<|aD l]):=by exact aU (FC d kd tx) λX e=>(e 1 _).trans<|Sq f z<|(e 0 _).symm.trans aE
def Ng(f:aH nm)(z:aH u)(aE:ax (d+1) none (.fn 790) [.ref 0,.str kd,.str tx,.int ((0:Nat):Int)] (bN nm [])=some (.exc 9<|bN u<|fo ch 9)):ax (d+1) none (.fn 790) [.ref 1,.str kd,.str tx,.int ((0:Nat):Int)] (ak st nm E [])=some (.exc 11<|ak st u E<|fo ch 11):=by exact aU (FC d kd tx) λX e=>(e 1 _).trans<|TW f z<|(e 0 _).symm.trans aE
def BQ:eS none (.fn 875)=some 875:=rfl
abbrev r0(d:Nat):List V->aq->M V:=λD H=>aF NN tab (ax d) none (.fn 875) D H
def y4:aH [.str kd,.str tx,.int p]:=.cons .str<|.cons .str<|.cons .int .nil
def vr{R:aq}(f:aH nm)(z:aH u)(aE:r0 d [.ref 0,.str kd,.str tx,.int p] (ak st nm (ay x k q h s.aA) [])=some (.ok (.ref 11)<|ak ae u (ay x k q h s.aA)<|.list (aD l)::R)):jm (ax<|d+1) st nm kd tx p x k h q s.aA fd G (.ok l ae u):=⟨(dj BQ rfl).trans<|sw (X:=r0 d) (G:=.list fd::G) (w:=[.str kd,.str tx,.int p]) f (cg s) z (cg s) y4 (m:=0) aE rfl<|.list<|hy l,z⟩
def tO{R:aq}(f:aH nm)(z:aH u)(C:ch.length<=9)(aE:r0 d [.ref 0,.str kd,.str tx,.int p] (ak st nm (ay x k q h s.aA) [])=some (.exc i<|ak ae u (ay x k q h s.aA) R))(D:30<n)(E:∀T,reach 4000 (ak ae u (ay x k q h s.aA) R) (i::T) cj=reach n (ak ae u (ay x k q h s.aA) R) T (cj++i::y))(aP:b' (bt (ak st nm (ay x k q h s.aA)<|.list fd::G) cj<|i::y) (ak ae u (ay x k q h s.aA) R) (i::y)=fo (c::ch) (G.length+12))(j:11<=i):jm (ax<|d+1) st nm kd tx p x k h q s.aA fd G (.bad c.2):=⟨ae,u,c,ch,(dj BQ rfl).trans<|BI (X:=r0 d) (G:=.list fd::G) (w:=[.str kd,.str tx,.int p]) (aa:=.none) f (cg s) z (cg s) y4 aE (.inl rfl) D E aP j,rfl,C,z⟩
def So(f:aH nm):jm (ax<|d+3) st nm cP tx p x k h q s.aA fd G (.bad p):=tO (d:=d+2) (c:=(sK,p)) (ch:=[]) (i:=11) (n:=3998) (y:=[12]) f f (bJ _) (IJ (O:=ax<|d+2) (j:=199940)<|cs d) (by decide) (λT=>nV (sK,p) [] 11 cj (λm o e=>by have e:=e;refine Y (cF ..) ?_;exact e)<|by decide) rfl (ba _)
def u5:∀{ch i},(fo ch i).length=2*ch.length:=by
 intro ch;induction ch with
 |nil=>intro _;exact rfl
 |cons _ ch f=>intro i;exact az (·+2)<|f (i:=i+2)
def p7:∀k∈cj,k<11:=by decide
def vq(T):reach (n+2*(ch.length+1)+1+1) (ak ae u (ay x k q h s.aA)<|fo (c::ch) 11++re c p 11 (2*(ch.length+1)+11)) ((2*(ch.length+1)+11)::T) cj=reach n (ak ae u (ay x k q h s.aA)<|fo (c::ch) 11++re c p 11 (2*(ch.length+1)+11)) T (cj++(2*(ch.length+1)+11)::(2*(ch.length+1)+12)::c6 (c::ch) 11):=by
 have l:(fo (c::ch) 11).length=2*(ch.length+1):=u5;have f:(fo (c::ch) 11++re c p 11 (2*(ch.length+1)+11))[2*(ch.length+1)]? =some (.exc 150 (some<|2*(ch.length+1)+11+1)<|some 11):=by
  conv=>lhs;rw[<-l]
  exact iK.trans<|Y l rfl
 have j:(fo (c::ch) 11++re c p 11 (2*(ch.length+1)+11))[2*(ch.length+1)+1]? =some (.dict [(dR,.str c.1),(b7,.int (p+c.2:Nat))]):=by
  conv=>lhs;rw[<-l]
  exact CB
 have a:At (ak ae u (ay x k q h s.aA)<|fo (c::ch) 11++re c p 11 (2*(ch.length+1)+11)) 11 (fo (c::ch) 11):=λm o e=>by refine Y (cF 11 m) ?_;show(fo (c::ch) 11++re c p 11 (2*(ch.length+1)+11))[m]? =_;refine Y (dO (b4.mp e).1) ?_;exact e
 generalize fo (c::ch) 11++re c p 11 (2*(ch.length+1)+11)=R at f j a⊢;have y:bv (2*(ch.length+1)+11) cj=false:=l7 λm=>pF (bR 11 _)<|p7 _ m;have z:=cT (n:=n+2*(ch.length+1)+1) (t:=T) (H:=ak ae u (ay x k q h s.aA) R) y f;have C:=cT (n:=n+2*(ch.length+1)) (t:=11::T) (i:=2*(ch.length+1)+12) (done:=cj++[2*(ch.length+1)+11]) (H:=ak ae u (ay x k q h s.aA) R) (l7 λm=>(d2.mp m).elim (λm=>pF (av (by decide)<|bR 12 _)<|p7 _ m) λm=>qm _<|b8.mp m) j;refine(z.trans C).trans<|(nV c ch 11 _ a λk m=>?_).trans ?_;rcases d2.mp m with m|m;rcases d2.mp m with m|m;exact .inl<|p7 k m;exact Y (b8.mp m)<|Y (cF ..)<|.inr<|ba _;exact Y (b8.mp m)<|.inr<|by refine Y (cF 11 ..) ?_;exact Nat.le_succ _
 rw[br,br];rfl
def FV(f:aH nm)(D:ar kd cP=false)(m:pf (ax<|d+2) nm kd tx e):jm (ax<|d+3) 2 nm kd tx p x k h q s.aA fd G (e.hN p):=by
 rcases e with⟨l,u⟩|pl;obtain⟨z,m⟩:=m;have m:=yE (st:=2) (E:=ay x k q h s.aA) f z m;rcases u with _|⟨a,I⟩;exact vr (d:=d+2) f z<|KD (O:=ax<|d+2) (j:=199940) D m;exact vr (d:=d+2) f z<|Sy (O:=ax<|d+2) (j:=199940) D m
 .obtain⟨u,c,ch,rfl,C,z,m⟩:=m;have m:=Ng (st:=2) (E:=ay x k q h s.aA) f z m;match ch,C with
  |[],_=>exact tO (d:=d+2) (c:=(c.1,p+c.2)) (ch:=[c]) (i:=13) (n:=3996) (y:=[14,11,12]) f z (show 1<=9 by decide) (LG (O:=ax<|d+2) (j:=199940) D m<|cs d) (by decide) (vq (c:=c) (ch:=[]) (n:=3996)) rfl<|by decide
  |[e],_=>exact tO (d:=d+2) (c:=(c.1,p+c.2)) (ch:=[c,e]) (i:=15) (n:=3994) (y:=[16,11,12,13,14]) f z (show 2<=9 by decide) (Lm (O:=ax<|d+2) (j:=199940) D m<|cs d) (by decide) (vq (c:=c) (ch:=[e]) (n:=3994)) rfl<|by decide
  |_::_::_,C=>exact absurd C<|by simp
end
def mA(h:eS none (.fn z)=none):ax (d+1) none (.fn z) D H=aF NN tab (ax d) none (.fn z) D H:=by show(match eS none (.fn z)with|some z=>(match Nat.beq z 790&&mG D with|true=>hO D H|false=>bD (λD H=>aF NN tab (ax d) none (.fn z) D H) D H)|none=>aF NN tab (ax d) none (.fn z) D H)=_;exact Y h rfl
def CV:eS none (.fn 882)=none:=rfl
def Pm{l:List Nat}(h:(!dB l)=true):∃c r,l=c::r:=by rcases l with _|⟨c,r⟩;exact ff h;exact mC c r rfl
section
variable{st p:Nat}{s:Seen}{tx:List Nat}
def CK{R:aq}(f:Nat.beq st 2=false)(D:ar kd cP=false)(z:aH nm)(C:aH u)(m:aF NN tab (ax d) none (.fn 882) [.ref 0,.str kd,.str tx,.int p] (ak st nm (ay x k q h s.aA) [])=some (.ok (.ref 11)<|ak ae u (ay x k q h s.aA)<|.list (aD l)::R)):jm (ax<|d+2) st nm kd tx p x k h q s.aA fd G (.ok l ae u):=vr (d:=d+1) z C (NI (O:=ax<|d+1) (j:=199940) f D<|(mA CV).trans m)
def xW(f:Nat.beq st 2=false)(D:ar kd cP=false)(z:aH nm)(C:aH u)(m:aF NN tab (ax<|d+1) none (.fn 882) [.ref 0,.str kd,.str tx,.int p] (ak st nm (ay x k q h s.aA) [])=some (.exc 11<|ak ae u (ay x k q h s.aA)<|fo [c] 11)):jm (ax<|d+3) st nm kd tx p x k h q s.aA fd G (.bad<|p+c.2):=tO (d:=d+2) (c:=(c.1,p+c.2)) (ch:=[c]) (i:=13) (n:=3996) (y:=[14,11,12]) z C (show 1<=9 by decide) (JB (O:=ax<|d+2) (j:=199940) f D ((mA CV).trans m)<|cs d) (by decide) (vq (c:=c) (ch:=[]) (n:=3996)) rfl (by decide)
def LM(u:Nat.blt 0 p=true)(hl:(c::tx).length<=bg):jm (ax<|d+5) 3 [] ao (c::tx) p x k h q s.aA fd G (li [] p<|cD dH<|c::tx):=by have m:=QL d (c::tx) (ak 3 [] (ay x k q h s.aA) []) hl;have f:=it<|Nat.ne_of_gt<|bG u;generalize cD dH (c::tx)=o at m;rcases o with _|i;exact CK (d:=d+3) rfl rfl .nil .nil (l:=[])<|Lx (O:=ax<|d+3) (j:=199940) m f;exact xW (d:=d+2) (c:=(pP,i)) rfl rfl .nil .nil<|LP (O:=ax<|d+3) (j:=199940) m f
def OA(aP:(ar kd d6||ar kd gf)=true):jm (ax<|d+5) 3 [] kd (c::tx) p x k h q s.aA fd G (.bad<|p+0):=by rcases pw.mp aP with aP|aP;obtain rfl:=hT aP;exact xW (d:=d+2) (c:=(nR,0)) rfl rfl .nil .nil<|T6 (O:=ax<|d+3) (j:=199940)<|cs<|d+1;obtain rfl:=hT aP;exact xW (d:=d+2) (c:=(nR,0)) rfl rfl .nil .nil<|Pn (O:=ax<|d+3) (j:=199940)<|cs<|d+1
def GP(z:aH nm)(m:pf (ax<|d+3) nm d6 (c::tx) e)(he:e.Dh=some y):jm (ax<|d+5) 0 nm d6 (c::tx) p x k h q s.aA fd G y:=by rcases e with⟨l,u⟩|pl;rcases u with _|⟨a,f⟩;exact aW he;obtain rfl:=aQ he;exact aS m λC m=>CK (d:=d+3) rfl rfl z C<|HM (O:=ax<|d+3) (j:=199940)<|yE (st:=1) (E:=ay x k q h s.aA) z C m;exact aW he
end
def HN(R:∀e,q' rd<|ax<|e+40):∀e,vM (sem rd) (ax<|e+45):=by
 intro e st nm kd tx p T x k h q s fd G z f;refine dd f λ_ f=>?_;revert f;induction y:ar kd cP with
 |true=>intro f;obtain rfl:=aQ f;obtain rfl:=hT y;exact So (d:=e+42) z
 |false=>
 intro f;revert f;induction C:Nat.beq st 2 with
 |true=>intro f;refine aK f λI he f=>?_;obtain rfl:=aQ f;obtain rfl:=cd C;exact FV (d:=e+42) z y<|R (e+4) z he
 |false=>
 intro f;refine dd f λj f=>zb j λj hl=>hv (Pm j) λc r O=>?_;subst O;have hl:=bG hl;revert f;induction D:Nat.beq st 0 with
 |true=>intro f;obtain rfl:=cd D;refine dd f λaP f=>?_;obtain rfl:=hT aP;exact aK f λI he f=>GP (d:=e+40) z (R (e+3) z he) f
 |false=>
 intro f;refine dd f λE f=>zb E λE J=>?_;obtain rfl:=cd E;induction nm using List.casesOn with
 |cons=>exact ff J|nil=>
 revert f;rcases N:ar kd ao;intro f;refine dd f λaP f=>?_;obtain rfl:=aQ f;exact OA (d:=e+40) aP;intro f;obtain rfl:=hT N;refine dd f λu f=>?_;obtain rfl:=aQ f;exact LM (d:=e+40) u hl
def Told(x h:List Nat)(m:M V):cb->Prop|.ok l f=>∃k,aH f.nm/\x.drop k=f.r/\k<=x.length/\m=some (.ok (.ref 11)<|ak f.st f.nm (ay x k f.p h f.s.aA) [.list<|aD<|aJ l []])|.bad pl=>∃st nm k q c ch,(c.2=pl/\ch.length<=9/\aH nm)/\k<=x.length/\m=some (.exc 11<|cU st nm (ay x k q h .none) 11<|fo (c::ch) 11)
def EX:eS none (.fn 868)=some 868:=rfl
def qa:eS none (.fn 854)=some 854:=rfl
def pn:eS none (.fn 861)=some 861:=rfl
section
variable{X:List V->aq->M V}{st:Nat}{s:Seen}
def Jf(h:n<=9):30<4000-2*(n+1)/\4000=(4000-2*(n+1))+2*(n+1):=by have:2*(n+1)<=20:=eg 2<|fv h;exact⟨cu (by decide)<|Nat.sub_le_sub_left this 4000,(bx<|av this<|by decide).symm⟩
def xI{R:aq}(f:i=R.length+11):At (bL ae aa::(rest u++(E::(R++fo ch i)))) i (fo ch i):=λm o e=>by
 have h:(R++fo ch i)[R.length+m]? =some o:=by refine Y (dp<|bE ..)<|Y (ez ..) ?_;exact e
 generalize R++fo ch i=af at h;exact Y f<|Y (sl ..) h
def DK{J:Seen}{R:aq}(D:aH nm)(I:aH u)(N:aH w)(C:ch.length<=9)(f:i=R.length+11)(aE:X (.ref 0::w) (ak st nm (ay x k p h s.aA) [])=some (.exc i<|cU ae u (ay ab O U h' J.aA) i<|R++fo (c::ch) i)):bD X (.ref 0::w) (ak st nm (ay x k p h s.aA) [])=some (.exc 11<|cU ae u (ay ab O U h' J.aA) 11<|fo (c::ch) 11):=by
 refine aS (Jf C) λf1 z=>?_;have a:=xI (ae:=ae) (u:=u) (E:=ay ab O U h' J.aA) (aa:=.ref i) (ch:=c::ch) f;have W:11<=i:=by refine Y f ?_;exact bR ..
 refine BI (G:=[]) (aa:=.ref i) (ch:=c::ch) (n:=4000-2*(ch.length+1)) (y:=(i+1)::c6 ch (i+2)) D (cg s) I (cg J) N aE (.inr rfl) f1 (λT=>?_) ?_ W;exact(az (λn=>reach n (bL ae (.ref i)::(rest u++(ay ab O U h' J.aA::(R++fo (c::ch) i)))) (i::T) cj) z).trans<|nV c ch i cj a λk m=>.inl<|cu (p7 k m) W;refine xV (ch:=c::ch) (j:=11) a λm hm=>?_;unfold bt;refine Y (eL<|show cj.length<=i+m from av W<|bE ..) ?_;exact az (11+·)<|zx (ch:=c::ch) hm
end
section
variable{f:ju}
def Ar(R:∀e,q' rd<|ax<|e+40)(hm:x.length<=bg)(z:n<=200)(aE:x.drop k=f.r)(aP:k<=x.length)(N:aH f.nm)(e:dT (sem rd) E n f=some o):Told x h (ax (d+46) none (.fn 868) [.ref 0,.bool E]<|ak f.st f.nm (ay x k f.p h f.s.aA) []) o:=by have L:=TM (O:=ax<|d+45) (j:=199940) (h:=h) (HN R d) (QQ<|d+40) (IZ<|d+44) hm (av z<|by decide) z aE aP N e;refine Y (dj EX rfl) ?_;rcases o with⟨l,ab⟩|pl;exact kD L λT G I u y C=>⟨T,I,u,y,sw (X:=λD H=>aF NN tab (ax<|d+45) none (.fn 868) D H) (G:=[]) (w:=[.bool E]) N (cg f.s) I (cg ab.s) (.cons .bool .nil) (m:=G.length+1) C (cX (H:=.list (aD l)::G))<|.list<|hy _⟩;exact gv L λst nm T q fd U=>d5 U λG c ch I u y=>⟨st,nm,T,q,c,ch,I,u,DK (X:=λD H=>aF NN tab (ax<|d+45) none (.fn 868) D H) (w:=[.bool E]) (s:=f.s) (J:=.no) (R:=.list fd::G) N I.2.2 (.cons .bool .nil) I.2.1 rfl y⟩
def Kn(R:∀e,q' rd<|ax<|e+40)(hm:x.length<=bg)(E:h.length+I.length<=20000)(W:(f.r++a' (bW h I)).length<=bg)(z:n<=200)(aE:x.drop k=f.r)(aP:k<=x.length)(T:aH f.nm)(e:dT (sem rd) false n ⟨f.st,f.nm,f.r++a' (bW h I),f.s,f.p⟩=some o):Told (f.r++a' (bW h I)) (fL h I) (ax (d+47) none (.fn 854) [.ref 0,.str I]<|ak f.st f.nm (ay x k f.p h f.s.aA) []) o:=by have aw:=Eg (d+43) (st:=f.st) (nm:=f.nm) (x:=x) (r:=f.r) (h:=h) (I:=I) (k:=k) (p:=f.p) (s:=f.s) (aa:=.none) [] aE aP hm E;have L:=Ar (d:=d) (k:=0) (h:=fL h I) (f:=⟨f.st,f.nm,f.r++a' (bW h I),f.s,f.p⟩) R W z rfl (bJ _) T e;refine Y (dj qa rfl) ?_;rcases o with⟨l,ab⟩|pl;exact ix L λU N u y C=>⟨U,N,u,y,sw (X:=λD H=>aF NN tab (ax<|d+46) none (.fn 854) D H) (G:=[]) (w:=[.str I]) T (cg f.s) N (cg ab.s) (.cons .str .nil) (m:=0) (QZ (O:=ax<|d+46) (j:=199940) aw C) rfl<|.list<|hy _⟩;exact gv L λst nm U q c ae=>dF ae λch N u y=>⟨st,nm,U,q,c,ch,N,u,DK (X:=λD H=>aF NN tab (ax<|d+46) none (.fn 854) D H) (w:=[.str I]) (s:=f.s) (J:=.no) (R:=[]) T N.2.2 (.cons .str .nil) N.2.1 rfl<|zN (O:=ax<|d+46) (j:=199940) aw y⟩
def Ka(R:∀e,q' rd<|ax<|e+40)(hm:(x++a' h).length<=bg)(E:h.length<=1)(aE:(x++a' h).drop k=f.r)(aP:k<=(x++a' h).length)(J:aH f.nm)(C:ab.st=3)(N:ab.nm=[])(z:n<=200)(e:dT (sem rd) true n f=some (.ok l ab)):∃I,ax (d+47) none (.fn 861) [.ref 0] (ak f.st f.nm (ay x k f.p h f.s.aA) [])=some (.ok (.ref 11)<|ak 3 [] (ay (x++a' h) I ab.p [] ab.s.aA) [.list<|aD<|aJ l []]):=by have aw:=yP (d+43) (st:=f.st) (nm:=f.nm) (x:=x) (h:=h) (k:=k) (p:=f.p) (s:=f.s) (aa:=.none) [] (av (by refine Y a0 ?_;exact bE ..) hm) E;refine ix (Ar (d:=d) (k:=k) (h:=[]) (f:=f) R hm z aE aP J e) λI T u y aG=>?_;rw[C,N]at aG;exact Y (dj pn rfl) ⟨I,sw (X:=λD H=>aF NN tab (ax<|d+46) none (.fn 861) D H) (G:=[]) (w:=[]) J (cg f.s) .nil (cg ab.s) .nil (m:=0) (Th (O:=ax<|d+46) (j:=199940) aw aG) rfl<|.list<|hy _⟩
end
def AT(h:bv i done=true):reach (n+1) H (i::t) done=reach n H t done:=by show(match bv i done with|true=>reach n H t done|false=>ob H[i]? λo=>reach n H (bH o++t)<|done++[i])=_;exact Y h rfl
section
variable{X:List V->aq->M V}
def NC(f:reach 4000 A (cm D) []=some (upTo A.length []))(aE:X D A=some (.exc i u))(hl:u.length=A.length)(x:i<A.length)(cl:∀(j:Nat)(o:au),u[j]? =some o->∀k∈bH o,k<A.length)(T:(cC u A.length).length<3990):bD X D A=some (.exc i u):=by
 have I:(upTo A.length []).length=A.length:=i6;have c:=lU f;have z:∀k,k∈upTo A.length []->k<A.length:=λk m=>(k' m).resolve_right λm=>(nomatch m);have C:∀k,k<A.length->bc k (upTo A.length [])=k:=λk aP=>lu (lF (n:=A.length) (l:=[]) (λ_ m=>(nomatch m)) .nil)<|fZ aP;have J:∀(j:Nat)(o:au),A[j]? =some o->∀k∈bH o,k<A.length:=λj o e k m=>by refine aZ ((c.cl j<|mem_upTo<|.inl (b4.mp e).1).resolve_left λm=>(nomatch m)) λo' e1 N=>?_;rw[e]at e1;obtain rfl:=aQ e1;exact z k<|N k m
 have W:bF (λk=>bc k<|upTo A.length []) D=D:=rR (aa:=(·<A.length)) C<|mi λk m=>z k<|c.sub k<|.inr m;have r2:b' (λk=>bc k<|upTo A.length []) A (upTo A.length [])=A:=wE λj o e=>oy (aa:=(·<A.length)) C<|jz<|J j o e;refine Y (qn f (q:=.exc i u)<|by rw[W,r2];exact aE) ?_;have O:reach 4000 u (c0 (.ref i)++cC u (upTo A.length []).length) (upTo (upTo A.length []).length [])=some (upTo (upTo A.length []).length []++[]):=by
  refine Y I<|Y (be ..)<|kY (λk m=>?_)<|e9 (Nat.succ_le_of_lt T)<|by decide
  rcases bC.mp m with e|m;exact Y e<|mem_upTo<|.inl x
  .have:∀{H:aq}{n k:Nat},k∈cC H n->∃(j:Nat)(o:au),H[j]? =some o/\k∈bH o:=by
    intro H;induction H with
    |nil=>exact λm=>nomatch m|cons o H U=>intro n k m;rcases n with _|n;cases m;rcases d2.mp m with m|m;exact dX 0 o rfl m;exact bV (U m) λj o' e m=>dX (j+1) o' e m
   exact bV (this m) λj o e m=>mem_upTo<|.inl<|cl j o e k m
 have E:∀k,k<A.length->bt A (upTo A.length []) [] k=k:=λk aP=>by unfold bt;exact Y (fZ aP) rfl
 show back A (upTo A.length []) (.ref i) u (λρ H'=>some<|.exc (ρ i) H')=_;refine(nF (y:=[]) O<|by refine Y I<|Y hl ?_;exact ba _).trans ?_;show some (R.exc (bt A (upTo A.length []) [] i)<|cp _ A (upTo A.length []) u++[])=_;refine Y (E i x)<|Y (be ..)<|az (λh=>some<|R.exc i h)<|l2 λj=>?_;rcases dJ j A.length with q|q;obtain⟨o,e⟩:∃o,u[j]? =some o:=⟨_,dx<|by refine Y hl ?_;exact q⟩;exact Y (pq (lF (n:=A.length) (l:=[]) (λ_ m=>(nomatch m)) .nil) z (fZ q) e)<|Y e<|Y (oy (aa:=(·<A.length)) E<|jz<|cl j o e) rfl;exact Y (eL<|by rw[iF];exact q)<|Y (eL<|by rw[hl];exact q) rfl
end
theorem pm:∀{ch i m},m<2*ch.length->(c6 ch i)[m]? =some (i+m)
 |[],_,_,h=>absurd h<|g6 _
 |_::ch,i,0,_=>rfl|_::ch,i,1,_=>rfl
 |_::ch,i,m+2,h=>by
  have e:(c6 ch<|i+2)[m]? =some (i+2+m):=pm<|by rw[cB,gX]at h;exact Nat.lt_of_add_lt_add_right h
  rw[cz,cF 2]at e;exact e
def UJ:cj++c6 ch 11=upTo (2*ch.length+11) []:=by refine l2 λj=>?_;have f:(upTo (2*ch.length+11) []).length=2*ch.length+11:=i6;rcases dJ j 11 with q|q;refine Y (fZ<|cu q<|bR ..) (Y (dO q) ?_);exact(fZ (n:=11) (l:=[]) q);refine Y (dp q) ?_;show(c6 ch 11)[j-11]? =_;rcases dJ (j-11) (2*ch.length)with r|r;exact Y (pm r)<|Y (fZ<|a7 r (cn j 11)<|by simp+arith)<|Y (ly q) rfl;exact Y (eL<|by rw[vx];exact r)<|Y (eL<|by rw[f];exact Nat.add_le_of_le_sub q r) rfl
theorem zu:∀{ch i m},(cC (fo ch i) m).length<=2*ch.length
 |[],_,m=>by cases m<;>exact bJ _
 |c::ch,i,0=>bJ _
 |c::ch,i,1=>by
  have e:(cC (fo (c::ch) i) 1).length<=2:=by cases ch<;>exact bG rfl
  exact av e<|by refine Y cB<|Y (gX ..) ?_;exact bR ..
 |c::ch,i,m+2=>by have e:=zu (ch:=ch) (i:=i+2) (m:=m);rw[cB,gX];rcases ch with _|⟨d,ch⟩;exact fv<|av e<|bJ 1;exact iB e 2
section
variable{st:Nat}
def wa(h:aH nm)(j:cA E)(f:ch.length<=9):reach 4000 (cU st nm E 11<|fo (c::ch) 11) [0] []=some (upTo (2*(ch.length+1)+11) []):=by
 refine Y (show 2*(ch.length+1)+11=2*(c::ch).length+11 from rfl)<|Y UJ.symm ?_;have a:At (cU st nm E 11<|fo (c::ch) 11) 11 (fo (c::ch) 11):=xI (R:=[]) (aa:=.ref 11) rfl;generalize u:cU st nm E 11 (fo (c::ch) 11)=H at a⊢;have g:∀{i:Nat}{o:au},(cU st nm E 11<|fo (c::ch) 11)[i]? =some o->H[i]? =some o:=λe=>u▸e;have z:3988=(3988-2*(ch.length+1))+2*(ch.length+1):=(bx<|av (eg 2<|fv f)<|by decide).symm;have C:0<3988-2*(ch.length+1):=Nat.sub_pos_of_lt<|e9 (eg 2<|fv f)<|by decide
 refine(cT rfl<|g rfl).trans<|(cT rfl<|g rfl).trans<|(cT rfl<|g rfl).trans<|(cT rfl<|g rfl).trans<|(cT rfl<|g rfl).trans<|(cT rfl<|g rfl).trans<|(cT rfl<|g rfl).trans<|(cT rfl<|g rfl).trans<|(AT rfl).trans<|(cT rfl<|g rfl).trans<|(cT rfl<|g rfl).trans ?_;show reach 3989 H (cm nm++[10,11]) _=_;exact Y h.1<|(cT rfl<|g rfl).trans<|Y j.1<|(az (λn=>reach n H [11] cj) z).trans<|(nV c ch 11 cj a λk m=>.inl<|p7 k m).trans<|kY (λ_ m=>nomatch m) C
end
section
variable{X:List V->aq->M V}{st:Nat}
def UI(f:aH nm)(y:cA E):cC (cU st nm E 11 af) (m+11)=[1,10,11,2,7,9,3,4,5,6,3,8]++cC af m:=by have e:cC (cU st nm E 11 af) (m+11)=[1,10,11,2,7,9,3,4,5,6,3,8]++(cm nm++(bH E++cC af m)):=rfl;exact Y e<|Y f.1<|Y y.1 rfl
def w4(f:aH nm)(y:cA E)(x:cA h)(z:aH w)(u:ch.length<=9)(aE:X (.ref 0::w) (cU st nm E 11<|fo (c::ch) 11)=some (.exc 11<|cU st nm h 11<|fo (c::ch) 11)):bD X (.ref 0::w) (cU st nm E 11<|fo (c::ch) 11)=some (.exc 11<|cU st nm h 11<|fo (c::ch) 11):=by have C:∀p,(cU st nm p 11<|fo (c::ch) 11).length=2*(ch.length+1)+11:=λp=>az (·+11)<|u5 (ch:=c::ch);refine NC ?_ aE ((C h).trans (C E).symm) ?_ (λj o e k m=>?_) ?_;exact Y (oo z)<|Y (C ..)<|wa f y u;exact Y (C ..)<|cu (by decide:11<2+11)<|iB (by refine Y (gX ..) ?_;exact bR ..) 11;have r:=lU (wa (c:=c) (st:=st) f x u);refine aZ ((r.cl j<|mem_upTo<|.inl<|by refine Y (C h).symm ?_;exact(b4.mp e).1).resolve_left λm=>(nomatch m)) λo' e1 I=>?_;rw[e]at e1;obtain rfl:=aQ e1;exact Y (C ..)<|(k'<|I k m).resolve_right λm=>(nomatch m);refine Y (C ..) (Y (UI f x)<|Y a0 ?_);have b:(cC (fo (c::ch) 11)<|2*(ch.length+1)).length<=2*(ch.length+1):=zu;have D:2*(ch.length+1)<=20:=eg 2<|fv u;exact e9 (e3 (av b D) 12)<|by decide
end
section
variable{st:Nat}{s:Seen}
def Bo(f:aH nm)(u:ch.length<=9):ax (d+1) none (.fn 868) [.ref 0,.bool E] (cU st nm (ay x k p h s.aA) 11<|fo (c::ch) 11)=some (.exc 11<|cU st nm (ay x k p h s.aA) 11<|fo (c::ch) 11):=(dj EX rfl).trans (w4 f (cg s) (cg s) (.cons .bool .nil) u<|Mt (O:=ax d) (j:=199940))
def GN(f:aH nm)(u:ch.length<=9)(hm:x.length<=bg)(y:h.length+I.length<=20000)(aE:x.drop k=r)(aP:k<=x.length):ax (d+4) none (.fn 854) [.ref 0,.str I] (cU st nm (ay x k p h s.aA) 11<|fo (c::ch) 11)=some (.exc 11<|cU st nm (ay (r++a' (bW h I)) 0 p (fL h I) s.aA) 11<|fo (c::ch) 11):=(dj qa rfl).trans (w4 f (cg s) (cg s) (.cons .str .nil) u<|zN (O:=ax<|d+3) (j:=199940) (Eg d (aa:=.ref 11) (fo (c::ch) 11) aE aP hm y)<|Bo (d:=d+2) f u)
def Qo(f:aH nm)(u:ch.length<=9)(hm:x.length<=bg)(y:h.length<=1):ax (d+4) none (.fn 861) [.ref 0] (cU st nm (ay x k p h s.aA) 11<|fo (c::ch) 11)=some (.exc 11<|cU st nm (ay (x++a' h) k p [] s.aA) 11<|fo (c::ch) 11):=(dj pn rfl).trans (w4 f (cg s) (cg s) .nil u<|Qf (O:=ax<|d+3) (j:=199940) (yP d (aa:=.ref 11) (fo (c::ch) 11) hm y)<|Bo (d:=d+2) f u)
end
def SB(b st:Nat)(nm:List V)(E:au)(aa:V)(G:aq):aq:=.inst 921 [(iX,.int 20),(iy,.int 100000)]::.inst 1070 [(eh,.ref b),(ko,.ref<|b+2),(jg,.ref<|b+3),(kR,.ref<|b+4)]::.dict []::.dict []::.dict []::
 .inst 899 [(mq,.ref<|b+6),(lX,.none),(k6,.ref<|b+10),(mg,.int st),(lV,.bool false),(mJ,aa)]::.inst 828 [(eJ,.ref<|b+1),(eR,.ref<|b+7),(iz,.ref<|b+9)]::
 .inst 377 [(eh,.ref b),(gU,.int 0),(gZ,.ref<|b+8)]::.list []::.list nm::E::G
def LH(N:List V)(pt:Option V)(st:Nat)(nm:List V)(E:au)(aa:V)(G:aq):aq:=.list N::.cell pt::.cell (some<|.ref 8)::SB 3 st nm E aa G
noncomputable abbrev KL:List Nat:=[8,9,4,3,5,6,7,10,11,12,13]
noncomputable abbrev KT:List Nat:=[7,8,3,2,4,5,6,9,10,11,12]
section
variable{st:Nat}{af:aq}
def BW(f:aH nm)(h:cA E):reach 4000 (LH N pt st nm E .none G) [8] []=some KL:=by have e:f0 (LH N pt st nm E .none G)=cm N::(match pt with|none=>[]|some a=>c0 a)::[8]::[]::[3,5,6,7]::[]::[]::[]::[9,13]::[4,10,12]::[3,11]::[]::cm nm::bH E::f0 G:=rfl;exact Y lT<|Y e<|Y f.1<|Y h.1 rfl
def yw(f:aH nm)(h:cA E):b' (λi=>bc i KL) (LH N pt st nm E .none G) KL=ak st nm E []:=by show _::_::_::_::_::_::_::_::_::au.list (bF _ nm)::bn _ E::[]=_;exact Y (f.2 ..)<|Y (h.2 ..) rfl
def tH(x:aH w):cm (.ref i::w)=[i]:=by show[i]++cm w=_;exact Y x.1 rfl
def sz(x:aH w)(l)(h:bc i l=j):bF (λi=>bc i l) (.ref i::w)=.ref j::w:=by show V.ref (bc i l)::bF _ w=_;exact Y (x.2 ..)<|Y h rfl
def wc(f:aH u)(h:cA k)(x:∀i,i<11->ρ i=KL.getD i 0):cp ρ (LH N pt st nm E j G) KL (bL ae aa::(rest u++(k::af)))=LH N pt ae u k (bl ρ aa) G:=by
 have e:cp ρ (LH N pt st nm E j G) KL (bL ae aa::(rest u++(k::af)))=.list N::.cell pt::.cell (some<|.ref 8)::.inst 921 [(iX,.int 20),(iy,.int 100000)]::.inst 1070 [(eh,.ref<|ρ 3),(ko,.ref<|ρ 4),(jg,.ref<|ρ 5),(kR,.ref<|ρ 6)]::.dict []::.dict []::.dict []::
  .inst 899 [(mq,.ref<|ρ 1),(lX,.none),(k6,.ref<|ρ 10),(mg,.int ae),(lV,.bool false),(mJ,bl ρ aa)]::.inst 828 [(eJ,.ref<|ρ 2),(eR,.ref<|ρ 7),(iz,.ref<|ρ 9)]::
  .inst 377 [(eh,.ref<|ρ 3),(gU,.int 0),(gZ,.ref<|ρ 8)]::.list []::.list (bF ρ u)::bn ρ k::G:=rfl
 exact Y e<|Y (f.2 ..)<|Y (h.2 ..)<|Y (x 1<|by decide)<|Y (x 2<|by decide)<|Y (x 3<|by decide)<|Y (x 4<|by decide)<|Y (x 5<|by decide)<|Y (x 6<|by decide)<|Y (x 7<|by decide)<|Y (x 8<|by decide)<|Y (x 9<|by decide)<|Y (x 10<|by decide) rfl
def Df:∀i,i<11->c' H KL i=KL.getD i 0:=λi h=>by unfold c';obtain⟨k,e⟩:∃k,KL[i]? =some k:=⟨_,dx h⟩;refine Y e ?_;show k=(KL[i]?).getD 0;exact Y e rfl
def Ua(f:aH nm)(h:cA E)(z:aH u)(C:cA k)(x:aH w)(y:bD X (.ref 0::w) (ak st nm E [])=some (.ok (.ref 11)<|ak ae u k [.list<|aD l])):bD X (.ref 8::w) (LH N pt st nm E .none G)=some (.ok (.ref<|G.length+14)<|LH N pt ae u k .none<|G++[.list<|aD l]):=by refine(hB (U:=.ref 0::w) (J:=KL) (by refine Y (tH x) ?_;exact BW f h) (sz x _ rfl) (yw f h) (by refine Y (oo x) ?_;exact tY f h) y).trans ?_;show some (R.ok (V.ref<|G.length+14)<|cp (c' (LH N pt st nm E .none G) KL) (LH N pt st nm E .none G) KL (bL ae .none::(rest u++(k::[.list<|aD l])))++[.list<|bF _<|aD l])=_;exact Y (wc z C Df)<|Y ((hy l).2 ..) rfl
def Ib(f:aH nm)(h:cA E)(z:aH u)(C:cA k)(x:aH w)(y:bD X (.ref 0::w) (ak st nm E [])=some (.exc 11<|cU ae u k 11<|fo ch 11)):bD X (.ref 8::w) (LH N pt st nm E .none G)=some (.exc (G.length+14)<|LH N pt ae u k (.ref<|G.length+14)<|G++fo ch (G.length+14)):=by refine(hB (U:=.ref 0::w) (J:=KL) (by refine Y (tH x) ?_;exact BW f h) (sz x _ rfl) (yw f h) (by refine Y (oo x) ?_;exact tY f h) y).trans ?_;show some (R.exc (G.length+14)<|cp (c' (LH N pt st nm E .none G) KL) (LH N pt st nm E .none G) KL (bL ae (.ref 11)::(rest u++(k::fo ch 11)))++iR (c' (LH N pt st nm E .none G) KL) (fo ch 11))=_;rw[wc z C Df,v8 (i:=11) (j:=G.length+14) λm=>?_];rfl;unfold c';refine Y (eL<|show KL.length<=11+m from bE ..) ?_;show G.length+14+(11+m-11)=_;exact Y (ez ..) rfl
end
def J9:∀{a},b' ρ H (a++b)=b' ρ H a++b' ρ H b:=by
 intro a;induction a with
 |nil=>exact rfl|cons _ a f=>exact az (_::·)<|f
def Ud:∀{a},i∉a->bc i (a++b)=a.length+bc i b:=by
 intro a;induction a with
 |nil=>intro _;exact(eW _).symm
 |cons k a f=>intro h;show(match Nat.beq k i with|true=>0|false=>bc i (a++b)+1)=_;rw[it (a:=k) (b:=i) λe=>h<|by rw[e];exact .head _];show bc i (a++b)+1=a.length+1+bc i b;rw[f λm=>h<|.tail _ m,sl]
theorem EY:∀{a A H},A.length=a.length->cp ρ H (a++b) (A++B)=cp ρ (cp ρ H a A) b B
 |[],[],_,_=>rfl|[],_::_,_,h=>by cases h
 |_::_,[],_,h=>by cases h
 |k::a,o::A,H,h=>EY (a:=a) (A:=A) (H:=H.set k<|bn ρ o)<|hE h
theorem Bw:∀{l H B},(∀(j k:Nat) o,l[j]? =some k->B[j]? =some o->H[k]? =some (bn ρ o))->cp ρ H l B=H
 |[],_,_,_=>rfl|_::_,_,[],_=>rfl
 |k::l,H,o::B,h=>by
  have e:=h 0 k o rfl rfl;have s:H.set k (bn ρ o)=H:=by refine l2 λj=>?_;rw[List.getElem?_set];split;rename_i q;subst q;rw[bZ (b4.mp e).1,e];rfl
  show cp ρ (H.set k<|bn ρ o) l B=H;rw[s];exact Bw λj k o e1 f=>h (j+1) k o e1 f
def za:∀k∈KL,k<14:=by decide
section
variable{st:Nat}
def mD(j:At af g<|fo ch i)(f:i=g+14):At (LH N pt st nm E (.ref i) af) i (fo ch i):=λm o e=>by have h:=j m o e;rw[f,sl];exact h
def I3(x:aH nm)(D:cA E)(y:ch.length<=9)(I:At af g<|fo (c::ch) i)(f:i=g+14):reach 4000 (LH N pt st nm E (.ref i) af) [8] []=some (KL++c6 (c::ch) i):=by
 have a:=mD (N:=N) (pt:=pt) (st:=st) (nm:=nm) (E:=E) (ch:=c::ch) I f;have j:14<=i:=by rw[f];exact bR ..
 generalize u:LH N pt st nm E (.ref i) af=H at a⊢;have h:∀{k:Nat}{o:au},(LH N pt st nm E (.ref i) af)[k]? =some o->H[k]? =some o:=λe=>u▸e;have z:3988=(3988-2*(ch.length+1))+2*(ch.length+1):=(bx<|av (eg 2<|fv y)<|by decide).symm;have C:0<3988-2*(ch.length+1):=Nat.sub_pos_of_lt<|e9 (eg 2<|fv y)<|by decide
 refine(cT rfl<|h rfl).trans<|(cT rfl<|h rfl).trans<|(cT rfl<|h rfl).trans<|(cT rfl<|h rfl).trans<|(cT rfl<|h rfl).trans<|(cT rfl<|h rfl).trans<|(cT rfl<|h rfl).trans<|(cT rfl<|h rfl).trans<|(AT rfl).trans<|(cT rfl<|h rfl).trans<|(cT rfl<|h rfl).trans ?_;show reach 3989 H (cm nm++[13,i]) _=_;rw[x.1];refine(cT rfl<|h rfl).trans ?_;rw[D.1];exact(az (λn=>reach n H [i] KL) z).trans<|(nV c ch i KL a λk m=>.inl<|cu (za k m) j).trans<|kY (λ_ m=>nomatch m) C
def Cw(x:aH nm)(D:cA E)(C:cA u)(z:aH w)(y:ch.length<=9)(O:At af g<|fo (c::ch) i)(f:i=g+14)(aE:bD X (.ref 0::w) (cU st nm E 11<|fo (c::ch) 11)=some (.exc 11<|cU st nm u 11<|fo (c::ch) 11)):bD X (.ref 8::w) (LH N pt st nm E (.ref i) af)=some (.exc i<|LH N pt st nm u (.ref i) af):=by
 have ge:14<=i:=by rw[f];exact bR ..
 have qB:∀m,i+m∉KL:=λm h=>oj 14<|e9 (av ge<|bE i m)<|za _ h;have ln:(KL++c6 (c::ch) i).length=2*(ch.length+1)+11:=by rw[a0,vx,cF];rfl
 have W:∀m,m<2*(c::ch).length->bc (i+m) (KL++c6 (c::ch) i)=11+m:=λm hm=>by rw[Ud<|qB m,zx hm];rfl
 have i0:bc i (KL++c6 (c::ch) i)=11:=W 0<|Nat.mul_pos (by decide)<|mW _;have pk:b' (λk=>bc k<|KL++c6 (c::ch) i) (LH N pt st nm E (.ref i) af) (KL++c6 (c::ch) i)=cU st nm E 11 (fo (c::ch) 11):=by rw[J9,xV (ch:=c::ch) (j:=11) (mD O f) W];show .inst 899 [(mq,.ref 1),(lX,.none),(k6,.ref 10),(mg,.int st),(lV,.bool false),(mJ,.ref<|bc i<|KL++c6 (c::ch) i)]::_::_::_::_::_::_::_::_::au.list (bF _ nm)::bn _ E::fo (c::ch) 11=_;rw[x.2,D.2,i0];rfl
 refine(hB (U:=.ref 0::w) (J:=KL++c6 (c::ch) i) (by rw[tH z];exact I3 x D y O f) (sz z _ rfl) pk (by rw[oo z,ln];exact wa x D y) aE).trans ?_;have r2:∀m,m<2*(c::ch).length->c' (LH N pt st nm E (.ref i) af) (KL++c6 (c::ch) i) (11+m)=i+m:=λm hm=>by unfold c';rw[dp<|show KL.length<=11+m from bE ..];show(match(c6 (c::ch) i)[11+m-11]? with|some k=>k|none=>_)=_;rw[ez,pm hm]
 have rl:∀j,j<11->c' (LH N pt st nm E (.ref i) af) (KL++c6 (c::ch) i) j=KL.getD j 0:=λj I=>by unfold c';rw[dO I];obtain⟨k,e⟩:∃k,KL[j]? =some k:=⟨_,dx I⟩;rw[e];show k=(KL[j]?).getD 0;rw[e];rfl
 have r0:c' (LH N pt st nm E (.ref i) af) (KL++c6 (c::ch) i) 11=i:=r2 0<|Nat.mul_pos (by decide)<|mW _;have dn:qG (KL++c6 (c::ch) i).length (cU st nm u 11<|fo (c::ch) 11)=[]:=by
  have:=vY (n:=(KL++c6 (c::ch) i).length) (A:=cU st nm u 11<|fo (c::ch) 11) (B:=[])<|by rw[ln];exact az (·+11)<|u5 (ch:=c::ch)
  rwa [be]at this
 show some (R.exc (c' _ _ 11)<|cp _ _ (KL++c6 (c::ch) i) ((bL st (.ref 11)::(rest nm++[u]))++fo (c::ch) 11)++iR _ (qG (KL++c6 (c::ch) i).length<|cU st nm u 11<|fo (c::ch) 11))=_;rw[dn,r0,EY (a:=KL) (A:=bL st (.ref 11)::(rest nm++[u])) rfl,wc (af:=[]) x C rl];show some (R.exc i<|cp _ (LH N pt st nm u (.ref<|c' _ _ 11) _) _ _++[])=_;rw[r0,be];refine az (λh=>some<|R.exc i h)<|Bw λj k o e1 e2=>?_;have I:j<2*(c::ch).length:=by rw[<-vx (i:=i)];exact(b4.mp e1).1
 rw[pm I]at e1;obtain rfl:=aQ e1;have T:At (cU st nm u 11<|fo (c::ch) 11) 11 (fo (c::ch) 11):=xI (R:=[]) (aa:=.ref 11) rfl;have p:=n6 (ρ:=c' (LH N pt st nm E (.ref i) af)<|KL++c6 (c::ch) i) (pm (i:=11) I)<|T j o e2;rw[xV T r2]at p;exact mD O f j _ p
end
noncomputable def Db:Expr->Expr×Scope|.Call _ (.Lambda _ e sc _::_) _ _=>(e,sc)|_=>(.Constant .none 0 ⟨0,0,0,0⟩,⟨.function,[],false,false,[]⟩)
noncomputable def valOf:Stmt->Expr|.Assign _ e _=>e|_=>.Constant .none 0 ⟨0,0,0,0⟩
def zU:Expr×Scope:=Db<|valOf<|(t9<|fO 1112 1).headD<|.Pass ⟨0,0,0,0⟩
abbrev nr:V:=.bX zU.1 zU.2 [(io,1),(gL,2)]
section
variable{O:ap}{pl:Nat}
def K8(m:O none (.bX x sc cl) [] H=some (.ok v H')):Do j O 1107 [.bX x sc cl] H .none H':=by exact am [(uT,V.bX x sc cl)] rfl<|sk 1<|aj Q.m m rfl rfl
def CW(m:O none (.bX x sc cl) [] H=some (.exc i H'))(g:H'[i]? =some (.exc 150 (some d) y))(f:mf tab (.ref i) b7 H'=some (.ok (.int pl) H')):Do j O 1107 [.bX x sc cl] H (.int pl) H':=by exact am [(uT,V.bX x sc cl)] rfl<|sk 1<|aj Q.m m rfl<|aj Q.o g rfl<|sk 1<|aj Q.m f rfl rfl
def OB(m:O none (.fn 861) [.ref 8] H=some (.exc i H'))(g:H'[i]? =some (.exc 150 (some d) y))(f:mf tab (.ref i) b7 H'=some (.ok (.int pl) H')):Do j O 1107 [.bm 861 8] H (.int pl) H':=by exact am [(uT,V.bm 861 8)] rfl<|sk 1<|aj Q.m m rfl<|aj Q.o g rfl<|sk 1<|aj Q.m f rfl rfl
def wX{c:List Nat×Nat}(g:H[i]? =some (.exc 150 (some d) y))(f:H[d]? =some (.dict [(dR,.str c.1),(b7,.int c.2)])):mf tab (.ref i) b7 H=some (.ok (.int c.2) H):=by show ob H[i]? _=_;refine Y g ?_;show ob (jD H[d]?) _=_;exact Y f rfl
variable{st:Nat}
def MK(m:O none (.fn 854) [.ref 8,.str pt] (LH N (some<|.str pt) st nm E aa G)=some (.ok v H')):aF (j+60) tab O none nr [] (LH N (some<|.str pt) st nm E aa G)=some (.ok v H'):=by exact xk rfl<|sk 3<|aj Q.m m rfl rfl
def Mr(m:O none (.fn 854) [.ref 8,.str pt] (LH N (some<|.str pt) st nm E aa G)=some (.exc i H')):aF (j+60) tab O none nr [] (LH N (some<|.str pt) st nm E aa G)=some (.exc i H'):=by exact xk rfl<|sk 3<|aj Q.m m rfl rfl
end
abbrev km(pl:Nat)(f:V)(tl:Loc):Loc:=(gL,.ref 2)::(io,.ref 1)::(pe,.ref 0)::(b7,.int pl)::(ph,f)::tl
def O4{pl:Nat}:cN .NotEq (.int pl) (.int pl) H=some false:=by show some (!Nat.beq pl pl)=_;exact Y (em ..) rfl
section
variable{O:ap}{tx:List Nat}{st:Nat}{f:Nat}
def DP(he:N[k]? =some (.str tx))(m:O none (.fn 1107) [nr] (LH N (some<|.str tx) st nm E aa G)=some (.ok v<|LH N (some<|.str tx) ae u h C z)):bu O (j+40) 1112 1 (.ref 0) k (km pl .none tl) (LH N pt st nm E aa G)=bu O (j+39) 1112 1 (.ref 0) (k+1) (km pl v<|put jK v tl) (LH N (some<|.str tx) ae u h C z):=by have y:=az some he;have s:=el (x:=jK) (v:=v) (l:=tl);exact fc y<|sk 3<|aj Q.m m rfl<|sk 5<|aj Q.v s rfl rfl
def M1(he:N[k]? =some (.str tx))(m:O none (.fn 1107) [nr] (LH N (some<|.str tx) st nm E aa G)=some (.ok (.int f)<|LH N (some<|.str tx) ae u h C z)):bu O (j+40) 1112 1 (.ref 0) k (km pl (.int f) tl) (LH N pt st nm E aa G)=bu O (j+39) 1112 1 (.ref 0) (k+1) (km pl (.int f)<|put jK (.int f) tl) (LH N (some<|.str tx) ae u h C z):=by have y:=az some he;have s:=el (x:=jK) (v:=.int f) (l:=tl);have c:=O4 (pl:=f) (H:=LH N (some<|.str tx) ae u h C z);exact fc y<|sk 3<|aj Q.m m rfl<|sk 4<|aj Q.v s rfl<|sk 1<|aj Q.c c rfl<|sk 2<|aj Q.v s rfl rfl
end
noncomputable def kA:Expr->Expr×Scope|.ListComp e _ sc _=>(e,sc)|e=>(e,⟨.function,[],false,false,[]⟩)
def tu:Expr×Scope:=kA<|match oS (valOf<|fO 1112 3)with|some p=>p.1|none=>.Constant .none 0 ⟨0,0,0,0⟩
def qo:Expr×Scope:=Db tu.1
abbrev x0(m:Nat):V:=.bX qo.1 qo.2 [(g',m),(gL,2)]
abbrev wr(O:ap)(j:Nat)(loc:Loc)(aY:V)(k:Nat)(U:List V)(H:aq):M (List V):=(ev tab O j).lc ⟨tu.2.names,none,(dg 1112).lam⟩ loc g' tu.1 [] aY k U H
section
variable{O:ap}{tx:List Nat}{st:Nat}{af:aq}
def Nk(f:hr tab ⟨qo.2.names,none,none⟩ (db [(g',m),(gL,2)]) gL H=some (.ok (.ref 8) H))(h:hr tab ⟨qo.2.names,none,none⟩ (db [(g',m),(gL,2)]) g' H=some (.ok (.str tx) H))(g:dy tab O none (.ref 8) ⟨#[102,101,101,100]⟩ H=some λD H=>dV tab O none 854 (.ref 8::D) H)(e:O none (.fn 854) [.ref 8,.str tx] H=some (.exc i H')):aF (j+60) tab O none (x0 m) [] H=some (.exc i H'):=by exact xk rfl<|aj Q.m f rfl<|aj Q.g g rfl<|aj Q.m h rfl<|aj Q.m e rfl rfl
def uA(h:af[g]? =some o):(LH N pt st nm E aa af)[g+14]? =some o:=h
def Fj(x:L[k]? =some b)(aw:O none (.fn 1107) [x0<|(af++[au.list L]).length+14] (LH N pt st nm E aa<|af++[au.list L]++[.cell<|some b])=some (.ok v<|LH N pt st nm u aa<|af++[au.list L]++[.cell<|some b]))(f:cq (U.length+1)=true):wr O (j+40) [(g',.ref<|(af++[au.list L]).length+14),(gL,.ref 2)] (.ref<|af.length+14) k U (LH N pt st nm E aa<|af++[au.list L]++[.cell w])=wr O (j+39) [(g',.ref<|(af++[au.list L]).length+14),(gL,.ref 2)] (.ref<|af.length+14) (k+1) (U++[v]) (LH N pt st nm u aa<|af++[au.list L]++[.cell<|some b]):=by
 have h:dC (.ref<|af.length+14) k (LH N pt st nm E aa<|af++[au.list L]++[.cell w])=some (some b):=by show(match(af++[au.list L]++[.cell w])[af.length]? with|some (.list l)=>some l[k]? |_=>none)=_;exact Y (br ..)<|Y (show[au.list L]++[au.cell w]=[.list L,.cell w] from rfl)<|Y iK<|az some x
 have s:f9 ⟨tu.2.names,none,(dg 1112).lam⟩ g' b [(g',.ref<|(af++[au.list L]).length+14),(gL,.ref 2)] (LH N pt st nm E aa<|af++[au.list L]++[.cell w])=some (.ok .next [(g',.ref<|(af++[au.list L]).length+14),(gL,.ref 2)]<|LH N pt st nm E aa<|af++[au.list L]++[.cell<|some b]):=by show cJ (af++[au.list L]++[.cell w])[(af++[au.list L]).length]? _=_;refine Y cX ?_;have e:=nz (H:=af++[.list L]) (a:=.cell w) (b:=.cell<|some b);exact Y e.symm rfl
 exact oZ h<|aj Q.s s rfl<|sk 3<|aj Q.m aw rfl<|aj Q.b f rfl rfl
end
def e4:au:=ay [] 0 0 [] .none
def gW:au:=.inst 921 [(iX,.int 20),(iy,.int 100000)]
def Qc:au:=.inst 1070 [(eh,.ref 3),(ko,.ref 5),(jg,.ref 6),(kR,.ref 7)]
noncomputable abbrev A0(N:List V):aq:=[.list N,.cell none,.cell none]
abbrev A2(N:List V):aq:=[.list N,.cell none,.cell none,gW,Qc,.dict [],.dict [],.dict []]
section
variable{st pl:Nat}
def Kl(f:H[i]? =some (.list [.int pl,.int pl,.int pl]))(h:H[k]? =some (.list [.int pl,.int pl,.int pl])):cN .Eq (.ref i) (.ref k) H=some true:=by show oQ (same 39 H) H[i]? H[k]? =_;refine Y f<|Y h ?_;show ob (some<|Nat.beq pl pl) (λx=>ob (ob (some<|Nat.beq pl pl) λx=>ob (ob (some<|Nat.beq pl pl) λx=>ob (some true) λy=>some<|match x with|true=>y|false=>false) λy=>some<|match x with|true=>y|false=>false) λy=>some<|match x with|true=>y|false=>false)=_;exact Y (em ..) rfl
noncomputable abbrev iL(pl n:Nat):au:=.list<|List.replicate n<|.int pl
def Se(f:(LH N pt st nm E aa Z)[k]? =some (.list a))(h:(LH N pt st nm E aa Z)[k2]? =some (.list b))(j:cq (a.length+b.length)=true):bin .Add (.ref k) (.ref k2) (LH N pt st nm E aa Z)=some (.ok (.ref<|Z.length+14)<|LH N pt st nm E aa<|Z++[.list<|a++b]):=by show ob (dn (LH N pt st nm E aa Z)[k]?) _=_;refine Y f ?_;show ob (dn (LH N pt st nm E aa Z)[k2]?) _=_;refine Y h ?_;show as (cq<|a.length+b.length) _=_;exact Y j rfl
def SG(f:(LH N pt st nm E aa Z)[k]? =some (iL pl 1)):bin .Mult (.ref k) (.int ((3:Nat):Int)) (LH N pt st nm E aa Z)=some (.ok (.ref<|Z.length+14)<|LH N pt st nm E aa<|Z++[iL pl 3]):=by show ob (dn (LH N pt st nm E aa Z)[k]?) _=_;exact Y f rfl
def xT{o:au}:(LH N pt st nm E aa<|Z++[o])[Z.length+14]? =some o:=uA cX
def MM{o b:au}:(LH N pt st nm E aa<|Z++[o]++[b])[Z.length+14]? =some o:=uA<|by refine Y (br ..) ?_;exact iK
def Ss{o a b:au}:(LH N pt st nm E aa<|Z++[o]++[a]++[b])[Z.length+14]? =some o:=uA<|by refine Y (br ..)<|Y (br ..)<|Y (dp<|ba _)<|Y (ew ..) ?_;rfl
def Ph(c1:bP tab O none (.fn 921) [] (A0 N)=some (.ok (.ref 3)<|A0 N++[gW]))(c2:bP tab O none (.fn 1070) [.ref 3] (A0 N++[gW])=some (.ok (.ref 4)<|A2 N))(y:bP tab O none (.fn 899) [.ref 4] (A2 N)=some (.ok (.ref 8)<|.list N::.cell none::.cell none::SB 3 0 [] e4 .none []))(l:bu O (j+59) 1112 1 (.ref 0) 0 (km pl .none []) (LH N none 0 [] e4 .none [])=some (.ok .next (km pl (.int pl) tl)<|LH N pt st nm E aa af))(m:wr O (j+57) [(g',.ref<|(af++[au.list [.str [60,47,97,62],.str []]]).length+14),(gL,.ref 2)] (.ref<|af.length+14) 0 [] (LH N pt st nm E aa<|af++[au.list [.str [60,47,97,62],.str []]]++[.cell none])=some (.ok [.int pl,.int pl]<|LH N pt st nm h aa Z))(aG:O none (.fn 1107) [.bm 861 8] (LH N pt st nm h aa<|Z++[iL pl 2])=some (.ok (.int pl)<|LH N pt st nm f aa<|Z++[iL pl 2])):aF (j+60) tab O none (.fn 1112) [.ref 0,.int pl] [.list N]=some (.ok (.bool true)<|LH N pt st nm f aa<|Z++[iL pl 2]++[iL pl 1]++[iL pl 3]++[iL pl 1]++[iL pl 3]):=by
 have b1:=Se (Z:=Z++[iL pl 2]++[iL pl 1]) (N:=N) (pt:=pt) (st:=st) (nm:=nm) (E:=f) (aa:=aa) (k:=Z.length+14) (a:=[.int pl,.int pl]) (MM) (k2:=(Z++[iL pl 2]).length+14) (b:=[.int pl]) xT rfl;have u:=SG (pl:=pl) (Z:=Z++[iL pl 2]++[iL pl 1]++[iL pl 3]++[iL pl 1]) (N:=N) (pt:=pt) (st:=st) (nm:=nm) (E:=f) (aa:=aa) (k:=(Z++[iL pl 2]++[iL pl 1]++[iL pl 3]).length+14) xT;have q:=Kl (pl:=pl) (H:=LH N pt st nm f aa<|Z++[iL pl 2]++[iL pl 1]++[iL pl 3]++[iL pl 1]++[iL pl 3]) (i:=(Z++[iL pl 2]++[iL pl 1]).length+14) (k:=(Z++[iL pl 2]++[iL pl 1]++[iL pl 3]++[iL pl 1]).length+14) Ss xT;have e:=az some<|em pl;have z:eX (.ref<|af.length+14) (LH N pt st nm E aa<|af++[au.list [.str [60,47,97,62],.str []]])=true:=by show(match(af++[au.list [.str [60,47,97,62],.str []]])[af.length]? with|some (.list _)=>true|_=>false)=true;exact Y cX rfl
 have s:=el (x:=NR) (v:=.ref<|(Z++[iL pl 2]++[iL pl 1]).length+14) (l:=tl);exact oC (H':=[au.list N,au.cell none,au.cell none]) [(gL,V.ref<|List.length<|[au.list N]++[au.cell none]),(io,V.ref [au.list N].length),(pe,V.ref 0),(b7,V.int ↑pl)] rfl<|sk 3<|aj Q.m c1 rfl<|aj Q.m c2 rfl<|aj Q.m y rfl<|sk 3<|aj Q.s l rfl<|sk 3<|aj Q.b z rfl<|aj Q.l m rfl<|sk 3<|aj Q.m aG rfl<|aj Q.m b1 rfl<|sk 3<|aj Q.c e rfl<|sk 1<|aj Q.v s rfl<|sk 1<|aj Q.m u rfl<|aj Q.c q rfl rfl
end
noncomputable def aY(a b:Nat):au:=.list [.int a,.int b]
def pa{a t:Nat}(h:0<t):bin .Mod (.int a) (.int t) H=some (.ok (.int (a%t:Nat)) H):=by show as (Nat.blt 0 t) (rt (V.int<|Int.fmod (a:Int) (t:Int)) H)=_;exact Y (dw h)<|Y (Int.ofNat_fmod ..).symm rfl
def ET{a t:Nat}(h:0<t)(ht:t<=1000000):bin .FloorDiv (.int a) (.int t) H=some (.ok (.int (a/t:Nat)) H):=by show as (Nat.blt 0 t&&c9 (t:Int)) (rt (V.int<|Int.fdiv (a:Int) (t:Int)) H)=_;exact Y (dw h)<|Y (kh ht)<|Y (Int.ofNat_fdiv ..).symm rfl
def uL{a b:Nat}(h:a<4611686018427387904):bin .Mult (.int a) (.int b) H=some (.ok (.int (a*b:Nat)) H):=by show as (Nat.blt a 4611686018427387904||c9 (b:Int)) (rt (V.int<|(a:Int)*(b:Int)) H)=_;exact Y (dw h) rfl
section
variable{b t:Nat}
noncomputable def gen(b:Nat):Nat:=(b*39373+7)%2147483647
def Mn(h:0<t)(ht:t<=1000000)(f:Nat.blt 0 a=true):Do j O 1088 [.ref 0,.int t] [aY a b] (.int (a%t:Nat)) [aY (a/t) b]:=by have e1:=pa (a:=a) (t:=t) (H:=[aY a b]) h;have k:=ET (a:=a) (t:=t) (H:=[aY a b]) h ht;have u:=az some f;clear h ht f;exact am [(hW,V.ref 0),(BA,V.int ↑t)] rfl<|sk 2<|aj Q.c u rfl<|sk 6<|aj Q.m e1 rfl<|sk 4<|aj Q.m k rfl rfl
def I7(h:0<t)(f:b<2147483647):Do j O 1088 [.ref 0,.int t] [aY 0 b] (.int (gen b*gen b%2147483629/32%t:Nat)) [aY 0<|gen b]:=by
 have g:gen b<2147483647:=nZ _<|by decide
 have k:=uL (a:=b) (b:=39373) (H:=[aY 0 b])<|nS f<|by decide
 have e1:=pa (a:=b*39373+7) (t:=2147483647) (H:=[aY 0 b])<|by decide
 have u:=uL (a:=gen b) (b:=gen b) (H:=[aY 0<|gen b])<|nS g<|by decide
 have x:=pa (a:=gen b*gen b) (t:=2147483629) (H:=[aY 0<|gen b])<|by decide
 have y:=ET (a:=gen b*gen b%2147483629) (t:=32) (H:=[aY 0<|gen b]) (by decide)<|by decide
 have z:=pa (a:=gen b*gen b%2147483629/32) (t:=t) (H:=[aY 0<|gen b]) h;clear h f g;exact am [(hW,V.ref 0),(BA,V.int ↑t)] rfl<|sk 7<|aj Q.m k rfl<|sk 2<|aj Q.m e1 rfl<|sk 7<|aj Q.m u rfl<|sk 1<|aj Q.m x rfl<|aj Q.m y rfl<|sk 2<|aj Q.m z rfl rfl
end
def jh:cA (aY a b):=⟨rfl,λ_=>rfl⟩
def Draws(O:ap)(i t:Nat)(H:aq):Prop:=∃x a b,x<t/\b<2147483647/\O none (.fn 1088) [.ref i,.int t] H=some (.ok (.int (x:Nat))<|H.set i<|aY a b)
def z8:eS none (.fn 1088)=some 1088:=rfl
def n5(f:H[i]? =some (aY a b))(u:b<2147483647)(h:0<t)(ht:t<=1000000):Draws (ax<|d+1) i t H:=by
 rcases k:Nat.blt 0 a
 .have:a=0:=by rcases a with _|n;rfl;exact ff<|k.symm
  clear k;subst this;exact⟨_,0,gen b,nZ _ h,nZ _ (by decide),(dj z8 rfl).trans<|hJ (X:=λD H=>aF NN tab (ax d) none (.fn 1088) D H) (w:=[.int t]) (G:=[]) f jh (.cons .int .nil) jh .int<|I7 (O:=ax d) (j:=199940) h u⟩
 exact⟨a%t,a/t,b,nZ _ h,u,(dj z8 rfl).trans<|hJ (X:=λD H=>aF NN tab (ax d) none (.fn 1088) D H) (w:=[.int t]) (G:=[]) f jh (.cons .int .nil) jh .int<|Mn (O:=ax d) (j:=199940) h ht k⟩
section
variable{O:ap}
def M5(hl:H[i]? =some (.list l))(m:O none (.fn 1088) [.ref 0,.int (l.length:Nat)] H=some (.ok (.int (x:Nat)) H'))(k:H'[i]? =some (.list l))(f:l[x]? =some v):Do j O 1095 [.ref 0,.ref i] H v H':=by
 have e1:bP tab O none (.blt .len) [.ref i] H=some (.ok (.int (l.length:Nat)) H):=by show ip H[i]? _=_;exact Y hl rfl
 have h:oM (.ref i) (.int x) H'=some (.ok v H'):=by show ob (ob H'[i]? (rI<|.int x)) (λr=>rt r H')=_;refine Y k ?_;show ob (ob (match Nat.blt x l.length with|true=>some x|false=>none) λj=>l[j]?) (λr=>rt r H')=_;refine Y (dw (b4.mp f).1) ?_;show ob l[x]? _=_;exact Y f rfl
 exact am [(hW,V.ref 0),(OK,V.ref i)] rfl<|sk 5<|aj Q.m e1 rfl<|aj Q.m m rfl<|aj Q.m h rfl rfl
end
def zY{a z:Nat}(h:z<4611686018427387904):bin .Mult (.int a) (.int z) H=some (.ok (.int (a*z:Nat)) H):=by show as (c9 (a:Int)||Nat.blt z 4611686018427387904) (rt (V.int<|(a:Int)*(z:Int)) H)=_;exact Y (dw h)<|Y (pT ..) rfl
def PU:∃n:Nat,ku C (-((1:Nat):Int)-C)=(n:Int):=by
 rcases C with(_|k)|k;exact⟨0,rfl⟩;exact⟨k+1,rfl⟩
 .have:-((1:Nat):Int)-Int.negSucc k=(k:Int):=by show-(1:Int)- -((k:Int)+1)=k;rw[Int.sub_neg,s8 (k:Int),Int.neg_add_cancel_left]
  exact⟨k,by rw[this];rfl⟩
section
variable{n:Nat}
noncomputable def uE(n:Nat):Nat:=(n%2147483629+0+0+17)*48271%2147483647
end
noncomputable def D4:V->Option Bool|.bool b=>some b|_=>none
noncomputable def Dw(x y:Bool):Bool:=match x with|true=>y|false=>!y
mutual
noncomputable def iH:V->V->Bool
 |.none,b=>gS b|.bool x,b=>dk (D4 b)<|Dw x
 |.int x,b=>dk (fQ b)<|jW x
 |.str x,b=>dk (ef b)<|ar x
 |.tup l,b=>dk (np b)<|gQ l
 |.ref i,b=>dk (fG b)<|Nat.beq i
 |.fn _,_=>false|.blt _,_=>false|.bm _ _,_=>false|.an _ _,_=>false|.bX _ _ _,_=>false
noncomputable def gQ:List V->List V->Bool|[],m=>(match m with|[]=>true|_::_=>false)|a::l,m=>(match m with|[]=>false|b::m=>iH a b&&gQ l m)
end
noncomputable def rg:List (Str×V)->List (Str×V)->Bool|[],m=>(match m with|[]=>true|_::_=>false)|p::l,m=>(match m with|[]=>false|q::m=>sq p.1 q.1&&(iH p.2 q.2&&rg l m))
noncomputable def uz:Option Nat->Option Nat->Bool|none,b=>(match b with|none=>true|some _=>false)|some i,b=>(match b with|none=>false|some j=>Nat.beq i j)
noncomputable def y9:au->Option (Addr×List (Str×V))|.inst E f=>some (E,f)|_=>none
noncomputable def D3:au->Option (Addr×Option Nat×Option Nat)|.exc E j x=>some (E,j,x)|_=>none
def ri(a b:au):Bool:=match a with
 |.list l=>dk (dn<|some b)<|gQ l
 |.inst E f=>dk (y9 b) λp=>Nat.beq E p.1&&rg f p.2|.exc E j x=>dk (D3 b) λp=>Nat.beq E p.1&&(uz j p.2.1&&uz x p.2.2)|.dict f=>dk (jD<|some b)<|rg f
 |.cell _=>false
noncomputable def mp:aq->aq->Bool|[],m=>(match m with|[]=>true|_::_=>false)|a::l,m=>(match m with|[]=>false|b::m=>ri a b&&mp l m)
def m5:R V->R V->Bool|.ok a H,b=>(match b with|.ok c K=>iH a c&&mp H K|.exc _ _=>false)|.exc i H,b=>(match b with|.ok _ _=>false|.exc j K=>Nat.beq i j&&mp H K)
def zr(m:M V)(r:R V):Bool:=match m with|some q=>m5 q r|none=>false
noncomputable abbrev vb:List V:=[.str [97]]
def NL:Bool:=zr (hO [.ref 0,.str d6,.str [60,97,62],.int ((0:Nat):Int)]<|bN [] [])<|.ok (.ref 9)<|bN vb [.list<|aD [.ot<|.st [97] []]]
def x1:NL=true:=by decide+kernel
section
variable{X:List V->aq->M V}
def Pu(h:n<=m):∃y,upTo m []=upTo n []++y/\y.length=m-n/\∀i,i<m-n->y[i]? =some (n+i):=by
 have k:(upTo m []).length=m:=i6;have j:(upTo n []).length=n:=i6;refine fI ((upTo m []).drop n) ?_ (Y b9<|Y k rfl) λi f=>by refine Y wC ?_;exact fZ<|a7 f (a4<|bx<|show n<=m from aR h<|by simp+arith)<|by simp+arith
 refine l2 λi=>?_;rcases dJ i n with q|q;exact Y (dO<|by rw[j];exact q)<|Y (fZ q)<|Y (fZ<|cu q h) rfl;exact Y (dp<|by rw[j];exact q)<|Y j<|Y wC<|Y (ly q) rfl
def zm(f:reach 4000 A (cm D) []=some (upTo A.length []))(aE:X D A=some q)(bk:q=.ok b u\/∃i,q=.exc i u/\b=.ref i)(hl:A.length<=u.length)(T:reach 4000 u (c0 b++cC u A.length) (upTo A.length [])=some (upTo u.length [])):bD X D A=some q:=by
 have E:(upTo A.length []).length=A.length:=i6;have c:=lU f;have x:∀{n k:Nat},k∈upTo n []->k<n:=λm=>(k' m).resolve_right λm=>(nomatch m);have W:∀k,k<A.length->bc k (upTo A.length [])=k:=λk aP=>lu (lF (n:=A.length) (l:=[]) (λ_ m=>(nomatch m)) .nil)<|fZ aP;have ae:∀(j:Nat)(o:au),A[j]? =some o->∀k∈bH o,k<A.length:=λj o e k m=>by refine aZ ((c.cl j<|mem_upTo<|.inl (b4.mp e).1).resolve_left λm=>(nomatch m)) λo' e1 J=>?_;rw[e]at e1;obtain rfl:=aQ e1;exact x<|J k m
 have r1:bF (λk=>bc k<|upTo A.length []) D=D:=rR (aa:=(·<A.length)) W<|mi λk m=>x<|c.sub k<|.inr m;have r2:b' (λk=>bc k<|upTo A.length []) A (upTo A.length [])=A:=wE λj o e=>oy (aa:=(·<A.length)) W<|jz<|ae j o e;refine Y (qn f (q:=q)<|by rw[r1,r2];exact aE)<|dF (Pu hl) λy aP lk O=>?_;have I:=lU T;have ab:∀(j:Nat)(o:au),u[j]? =some o->∀k∈bH o,k<u.length:=λj o e k m=>by rcases dJ j A.length with C|C;exact x<|I.sub k<|.inr<|gA _<|xU C e m;rcases I.cl j (mem_upTo (.inl (b4.mp e).1))with h|⟨o',e1,J⟩;exact absurd (x h)<|pF C;rw[e]at e1;obtain rfl:=aQ e1;exact x<|J k m
 have kn:y.Nodup:=(iG.mp<|aP▸lF (n:=u.length) (l:=[]) (λ_ m=>(nomatch m)) .nil).2.1;have z:∀k,k<u.length->bt A (upTo A.length []) y k=k:=λk aP=>by
  unfold bt;rcases dJ k A.length with C|C;exact Y (fZ C) rfl
  .refine Y (eL<|by rw[E];exact C) ?_;have:=lu kn<|O (k-A.length)<|cS aP (cn (List.length u)<|List.length A) (a4<|bx<|show List.length A<=k from aR C<|by simp+arith)<|by simp+arith
   rw[ly C]at this;show A.length+bc k y=k;exact Y this<|Y (ly C) rfl
 have N:cp (bt A (upTo A.length []) y) A (upTo A.length []) u++b' (bt A (upTo A.length []) y) u y=u:=by
  refine l2 λj=>?_;rcases dJ j A.length with C|C;obtain⟨o,e⟩:∃o,u[j]? =some o:=⟨_,dx<|cu C hl⟩;exact Y (dO<|by rw[iF];exact C)<|Y (pq (lF (n:=A.length) (l:=[]) (λ_ m=>(nomatch m)) .nil) (λ_ m=>x m) (fZ C) e)<|Y e<|Y (oy (aa:=(·<u.length)) z<|jz<|ab j o e) rfl
  .refine Y (dp<|by rw[iF];exact C) (Y iF ?_);rcases dJ j u.length with w|w
   .obtain⟨o,e⟩:∃o,u[j]? =some o:=⟨_,dx w⟩;have g:=O (j-A.length)<|cS w (cn (List.length u)<|List.length A) (a4<|bx<|show List.length A<=j from aR C<|by simp+arith)<|by simp+arith
    rw[ly C]at g;exact Y (n6 g e)<|Y e<|Y (oy (aa:=(·<u.length)) z<|jz<|ab j o e) rfl
   exact Y (eL w)<|Y (eL<|by rw[n1,lk];exact cS w (cn j<|List.length A) (a4<|bx<|show List.length A<=List.length u from aR hl<|by simp+arith)<|by simp+arith) rfl
 have U:reach 4000 u (c0 b++cC u (upTo A.length []).length) (upTo (upTo A.length []).length [])=some (upTo (upTo A.length []).length []++y):=Y E<|Y T<|Y aP rfl;have rb:hS (·<u.length) b:=pd λk m=>x<|I.sub k<|.inr<|fF _ m;rcases bk with rfl|⟨i,rfl,rfl⟩
 .show back A (upTo A.length []) b u (λρ H'=>some<|.ok (bl ρ b) H')=_;refine(nF U<|by refine Y E ?_;exact hl).trans ?_;have e:bF (bt A (upTo A.length []) y) [b]=[b]:=rR (aa:=(·<u.length)) z ⟨rb,trivial⟩;exact Y N<|Y ((dZ e).1) rfl
 show back A (upTo A.length []) (.ref i) u (λρ H'=>some<|.exc (ρ i) H')=_;refine(nF U<|by refine Y E ?_;exact hl).trans ?_;exact Y N<|Y (z i rb) rfl
end
def Kk(e:D4 a=some b):a=.bool b:=by cases a<;>first|exact az V.bool (aQ e)|exact aW e
def FX:∀{x y},Dw x y=true->x=y|true,_,h=>h.symm|false,true,h=>ff h|false,false,_=>rfl
def SA(e:y9 o=some p):o=.inst p.1 p.2:=by cases o<;>first|(exact Y (aQ e).symm rfl)|exact aW e
def Qn(e:D3 o=some p):o=.exc p.1 p.2.1 p.2.2:=by cases o<;>first|(exact Y (aQ e).symm rfl)|exact aW e
mutual
theorem lg:∀{a b:V},iH a b=true->a=b
 |.none,_,h=>(rO h).symm|.bool _,_,h=>by refine dD h λy e h=>?_;exact Y (Kk e)<|Y (FX h) rfl
 |.int _,_,h=>by refine dD h λy e h=>?_;exact Y (fp e)<|Y (tX<|nl.symm.trans h) rfl
 |.str _,_,h=>by refine dD h λy e h=>?_;exact Y (jQ e)<|Y (hT h) rfl
 |.tup _,_,h=>by refine dD h λy e h=>?_;exact Y (qL e)<|Y (k5 h) rfl
 |.ref _,_,h=>by refine dD h λy e h=>?_;exact Y (iD e)<|Y (cd h) rfl
 |.fn _,_,h=>ff h|.blt _,_,h=>ff h|.bm _ _,_,h=>ff h|.an _ _,_,h=>ff h|.bX _ _ _,_,h=>ff h
theorem k5:∀{l m:List V},gQ l m=true->l=m|[],[],_=>rfl|[],_::_,h=>nomatch h|_::_,[],h=>nomatch h|a::l,b::m,h=>by exact zb (show(iH a b&&gQ l m)=true from h) λf k=>Y (lg f)<|Y (k5 k) rfl
end
theorem u1:∀{l m},rg l m=true->l=m|[],[],_=>rfl|[],_::_,h=>nomatch h|_::_,[],h=>nomatch h|a::l,b::m,h=>by exact zb (show(sq a.1 b.1&&(iH a.2 b.2&&rg l m))=true from h) λf k=>zb k λk j=>Y (u1 j)<|Y (show a=b from Prod.ext (dr.mp f)<|lg k) rfl
def Di:∀{a b},uz a b=true->a=b|none,none,_=>rfl|none,some _,h=>nomatch h|some _,none,h=>nomatch h|some _,some _,h=>az some<|cd h
def wH(h:ri a b=true):a=b:=by rcases a with l|⟨E,f⟩|⟨E,j,x⟩|f|v;exact dD h λy e h=>Y (k5 h)<|(aQ<|j' e).symm;exact dD h λy e h=>Y (cd (e0 h).1)<|Y (u1 (e0 h).2)<|(SA e).symm;exact dD h λy e h=>Y (cd (e0 h).1)<|Y (Di (e0 (e0 h).2).1)<|Y (Di (e0 (e0 h).2).2)<|(Qn e).symm;exact dD h λy e h=>Y (u1 h)<|(aQ<|xo e).symm;exact ff h
theorem xc:∀{a b},mp a b=true->a=b|[],[],_=>rfl|[],_::_,h=>nomatch h|_::_,[],h=>nomatch h|a::l,b::m,h=>by exact zb (show(ri a b&&mp l m)=true from h) λf k=>Y (wH f)<|Y (xc k) rfl
def nq(h:zr m r=true):m=some r:=by rcases m with _|q;exact ff h;refine az some ?_;have h:m5 q r=true:=h;rcases q with⟨a,H⟩|⟨i,H⟩;rcases r with⟨b,K⟩|_;exact zb (show(iH a b&&mp H K)=true from h) λf k=>Y (lg f)<|Y (xc k) rfl;exact ff h;rcases r with _|⟨j,K⟩;exact ff h;exact zb (show(Nat.beq i j&&mp H K)=true from h) λf k=>Y (cd f)<|Y (xc k) rfl
def DC(f:j<=x.length)(D:pre y (x.drop j)=true)(E:∀k,k<j->pre y (x.drop k)=false):bq y x=some j:=by rcases h:bq y x with _|i;have:=qz h j f;rw[D]at this;exact ff<|this.symm;refine cZ (jZ h) λ_ b c=>?_;rcases Nat.lt_trichotomy i j with q|q|q;have:=E i q;rw[b]at this;exact ff<|this.symm;exact Y q rfl;have:=c j q;rw[D]at this;exact ff<|this.symm
def Cy(h:pre y x=true):pre y (x++a)=true:=(kJ<|kf h).trans h
def mr{a:List Nat}(h:k<=x.length):(x++a).drop k=x.drop k++a:=List.drop_append_of_le_length h
def Mv(h:bq y x=some j):bq y (x++a)=some j:=by refine cZ (jZ h) λf D E=>?_;have l:=kf D;rw[b9]at l;refine DC (by refine Y a0 ?_;exact aR f<|by simp+arith) (by refine Y (mr f) ?_;exact Cy D) λk aP=>?_;exact Y (mr<|a7 f aP<|by simp+arith)<|Y (kJ<|by rw[b9];exact sr l aP (cn x.length k) (a4<|bx<|show j<=x.length from aR f<|by simp+arith)<|by simp+arith)<|E k aP
def yF(C:z<=x.length)(h:∀k,k<z->pre y (x.drop k)=false):bq y x=(bq y<|x.drop z).map (·+z):=by
 rcases e:bq y x with _|i
 .rcases I:bq y (x.drop z)with _|i;rfl
  .refine cZ (jZ I) λf D _=>?_;rw[eY]at D;rw[b9]at f;have:=qz e (z+i)<|a7 f (a4<|bx<|show z<=x.length from aR C<|by simp+arith)<|by simp+arith
   rw[D]at this;exact ff<|this.symm
 refine cZ (jZ e) λf D E=>?_;have u:=(dJ i z).elim (λq=>by have:=h i q;rw[D]at this;exact ff<|this.symm) id;refine Y (DC (y:=y) (x:=x.drop z) (j:=i-z) (by rw[b9];exact cS f (cn x.length z) (a4<|bx<|show z<=i from aR u<|by simp+arith)<|by simp+arith) (by rw[eY,ly u];exact D) λk aP=>by rw[eY];exact E _<|a7 aP (a4<|bx<|show z<=i from aR u<|by simp+arith)<|by simp+arith) ?_;show some i=some (i-z+z);exact Y (bx u) rfl
def Eb(C:z<=u.length)(h:bQ u w z=some e):bQ (u++v) w z=some e:=by refine aZ (jw (o:=iJ (u.drop z) w) (z:=(z+·)) h) λa f j=>?_;subst j;refine aZ (jw (o:=bq w<|u.drop z) (z:=(·+w.length)) f) λi D k=>?_;subst k;unfold bQ iJ;exact Y (mr C)<|Y (Mv D) rfl
def Q6(C:max d (U+1-w)=z)(aP:k<z-d):w<=U-(d+k):=by have h:d+k<z:=Nat.add_lt_of_lt_sub' aP;subst C;rcases Nat.le_total d (U+1-w)with q|q;rw[Nat.max_eq_right q]at h;have t:=eZ<|Nat.add_lt_of_lt_sub h;rw[cF]at t;exact Nat.le_sub_of_add_le t;rw[Nat.max_eq_left q]at h;exact absurd h<|ol.mpr<|bE ..
def M0(hd:d<=U)(f:1<=w)(C:max d (U+1-w)=z):d<=z/\z<=U:=by subst C;exact⟨Nat.le_max_left ..,Nat.max_le.mpr ⟨hd,C6.mpr<|e3 f _⟩⟩
def CD(hd:d<=u.length)(f:1<=w.length)(h:bQ u w d=none):bQ (u++v) w d=bQ (u++v) w (max d<|u.length+1-w.length):=by
 have h:bq w (u.drop d)=none:=by unfold bQ iJ at h;rcases e:bq w (u.drop d)with _|i;rfl;rw[e]at h;exact aW<|h.symm
 generalize C:max d (u.length+1-w.length)=z;refine aS (M0 hd f C) λD j=>?_;have s:=yF (y:=w) (x:=(u++v).drop d) (z:=z-d) (by refine Y b9<|Y a0 ?_;exact cS j (cn (u.length+v.length) d) (a4<|bx<|show d<=z from aR D<|by simp+arith)<|by simp+arith) λk aP=>by exact Y eY<|Y (mr<|cS j aP (a4<|bx<|show d<=z from aR D<|by simp+arith)<|by simp+arith)<|Y (kJ<|by rw[b9];exact Q6 C aP)<|Y eY.symm<|qz h k<|by refine Y b9 ?_;exact sr j aP (cn u.length d) (a4<|bx<|show d<=z from aR D<|by simp+arith)<|by simp+arith
 rw[eY,ly D]at s;unfold bQ iJ;refine Y s ?_;rcases bq w ((u++v).drop z)with _|i;rfl;exact az some<|by show d+(i+(z-d)+w.length)=z+(i+w.length);exact cf (aR (a4<|bx<|show d<=z from aR D<|by simp+arith)<|by simp+arith)<|aR (cn z d)<|by simp+arith
def zO:cE (u++v) w (max d<|u.length+1-w.length)=cE (u++v) w d:=by show Seen.pos (max _<|(u++v).length+1-w.length)=Seen.pos (max _<|(u++v).length+1-w.length);exact Y (Nat.max_assoc ..)<|Y (Nat.max_eq_right<|Nat.sub_le_sub_right (by rw[a0];exact fv<|bE ..) _) rfl
def tn(n:Nat)(b:List Nat)(t f:Tg):Prop:=(t.1=none->t.2.1=n/\f=up n (bw b t.2.2))/\∀e,t.1=some e->f=t
def yd:∀a q,tn a.length b (bw a q) (bw (a++b) q):=by
 intro a;induction a with
 |nil=>exact λq=>⟨λ_=>⟨rfl,by show bw b q=((bw b q).1.map (0+·),0+(bw b q).2.1,(bw b q).2.2);generalize bw b q=t;obtain⟨x,y,C⟩:=t;cases x<;>simp⟩,λ_ h=>nomatch h⟩
 |cons c a J=>
  have go:∀j,tn (a.length+1) b (up 1<|bw a j) (up 1<|bw (a++b) j):=λj=>by
   refine aS (J j) λf D=>⟨λh=>?_,λe h=>?_⟩
   .have h:(bw a j).1=none:=by have h:(bw a j).1.map (1+·)=none:=h;rcases C:(bw a j).1;rfl;rw[C]at h;exact aW<|h.symm
    exact aS (f h) λE I=>⟨(az (1+·) E).trans<|cF ..,by exact Y I<|Y uq<|Y (cF ..) rfl⟩
   exact aZ (jw (o:=(bw a j).1) (z:=(1+·)) h) λi u _=>Y (D i u) rfl
  intro q;rcases q with _|⟨k,q⟩;show tn _ b (aB (bq [c] [34,39]).isSome (up 1<|bw a [c])<|aB (ar [c] [62]) (some 1,0,[])<|aB (ar [c] [60]) (some 0,0,[])<|up 1<|bw a []) (aB (bq [c] [34,39]).isSome (up 1<|bw (a++b) [c])<|aB (ar [c] [62]) (some 1,0,[])<|aB (ar [c] [60]) (some 0,0,[])<|up 1<|bw (a++b) []);rcases(bq [c] [34,39]).isSome;rcases ar [c] [62];rcases ar [c] [60];exact go [];exact⟨λh=>(nomatch h),λ_ _=>rfl⟩;exact⟨λh=>(nomatch h),λ_ _=>rfl⟩;exact go [c];show tn _ b (up 1<|aB (Nat.beq k c) (bw a [])<|bw a<|k::q) (up 1<|aB (Nat.beq k c) (bw (a++b) [])<|bw (a++b)<|k::q);rcases Nat.beq k c;exact go<|k::q;exact go []
def uI{v:List Nat}(h:eF (r.take w.length) w=false):eF ((r++v).take w.length) w=false:=by rcases dJ r.length w.length with q|q;have t:=n7 (fl q);rw[t]at h;unfold eF at h⊢;rw[dw q]at h;rcases f:Nat.blt ((r++v).take w.length).length w.length;rfl;rcases e:pre ((r++v).take w.length) w;rfl;have p:=iM.mp e;have:pre r w=true:=iM.mpr (by have:=az (List.take r.length) p;rw[List.take_take,List.take_take,lK,a0,tB<|Nat.le_min.mpr ⟨fl q,bE ..⟩,tB<|fl ‹_›,sd]at this;exact this);have h:=h;rw[this]at h;exact ff<|h.symm;exact Y (DM q) h
def vu(h:eF (r.take w.length) w=false):pre w (r++v)=pre w r:=by
 rcases dJ r.length w.length with q|q
 .have t:r.take w.length=r:=n7 (fl q);rw[t]at h;unfold eF at h;rw[dw q]at h;refine Y (BO q)<|k0 λe=>?_;have p:=iM.mp e;have:pre r w=true:=iM.mpr<|by exact Y p.symm<|Y List.take_take<|Y (tB<|fl q)<|Y sd rfl
  have h:pre r w=false:=h;rw[this]at h;exact ff<|h.symm
 exact kJ q
def HT(h:eF (([c]:List Nat).take 4) d7=false)(f:ar [c] [60]=true):False:=by obtain rfl:c=60:=(dZ<|hT f).1;exact nomatch h
def zG(r:List Nat)(s:Seen)(a b c d e z:Bool):Option gm:=aB a none<|aB b (some (gf,bQ r [93,93,62]<|s.fr 9,cE r [93,93,62]<|s.fr 9))<|aB c none<|aB d none<|aB e (some (hD,bQ r [62]<|s.fr 2,cE r [62]<|s.fr 2))<|aB z (some (cP,some r.length,.no))<|some<|iI<|gB r s
def FA:∀{z},c5 r false z=(none,0,s)->(z=none/\s=.no)\/∃kd,z=some (kd,none,s)|none,h=>.inl ⟨rfl,(az (·.2.2) h).symm⟩|some (_,some _,_),h=>nomatch az (·.1) h|some (kd,none,J),h=>by obtain rfl:J=s:=az (·.2.2) h;exact .inr ⟨kd,rfl⟩
def nb:∀{z},c5 r false z=(some kd,e,s)->s=.no/\∃J,z=some (kd,some e,J)|none,h=>nomatch az (·.1) h|some (_,none,_),h=>nomatch az (·.1) h|some (_,some _,J),h=>by cases h;exact⟨rfl,J,rfl⟩
structure ry(u v:List Nat)(a b c d e z:Bool):Prop where
 a1:eF (u.take 4) d7=a
 b1:pre dq u=b
 c1:eF (u.take 9) dq=c
 d1:eF (u.take 9) dt=d
 e1:pre [60,47] u=e
 f1:pre [60,33] u=z
def v0(h:ry u v a b c d e z)(s):eb u s=zG u s a b c d e z:=by unfold eb;exact Y h.a1<|Y h.b1<|Y h.c1<|Y h.d1<|Y h.e1<|Y h.f1 rfl
def uG(h:2<=u.length):pre [x,y] (u++v)=pre [x,y] u:=kJ h
def As(l:2<=u.length)(h:ry u v false b c d e z)(f:b=true\/c=false/\d=false):∃j k,ry (u++v) v false b j k e z/\(b=true\/j=false/\k=false):=by refine dX _ _ ⟨uI (w:=d7) h.a1,?_,rfl,rfl,(uG l).trans h.e1,(uG l).trans h.f1⟩ ?_;rcases f with rfl|⟨rfl,_⟩;exact Cy h.b1;exact(vu (w:=dq) h.c1).trans h.b1;exact f.imp id λf=>⟨uI (w:=dq)<|h.c1.trans f.1,uI (w:=dt)<|h.d1.trans f.2⟩
def Fy(f:ar [c] [60]=true)(h:eF ((c::u).take 4) d7=false):2<=(c::u).length:=by rcases u;exact(HT h f).elim;exact bR ..
def oF{f:Type}{x:Option f}{y:f}(h:aB b none x=some y):b=false/\x=some y:=by induction b with|true=>exact aW h|false=>exact⟨rfl,h⟩
def DT(h:eb u s=some z):∃b c d e g,ry u v false b c d e g/\(b=true\/c=false/\d=false)/\zG u s false b c d e g=some z:=by refine aS (oF h) λj f=>LZ _ _ _ _ _ ⟨j,rfl,rfl,rfl,rfl,rfl⟩ ?_ f;rcases y:pre dq u;rw[y]at f;exact aS (oF f) λk f=>aS (oF f) λx f=>.inr ⟨k,x⟩;exact .inl rfl
def RZ(h:(gB (c::u) .no).1=none)(k:s=(iI<|gB (c::u) .no).2.2):gB (c::u++v) s=gB (c::u++v) .no:=by
 obtain⟨j,f⟩:=(yd (b:=v) u []).1 (by have h:(bw u []).1.map (1+·)=none:=h;rcases C:(bw u []).1;rfl;rw[C]at h;exact aW<|h.symm);have e:gB (c::u) .no=up 1 (bw u []):=rfl;rw[e]at k;have x:s=.tag (u.length+1) (bw u []).2.2:=by refine Y k ?_;show Seen.tag (1+(bw u []).2.1) _=_;exact Y j<|Y (cF ..) rfl
 refine Y x ?_;show up (u.length+1) (bw ((u++v).drop u.length) _)=up 1 (bw (u++v) []);exact Y tk<|Y f<|Y uq<|Y (cF ..) rfl
def vH(h:pre dq u=true):9<=u.length:=kf h
def IE(f:ar [c] [60]=true)(h:c5 (c::u) false (eb (c::u) .no)=(none,0,s)):eb (c::u++v) s=eb (c::u++v) .no/\nU (c::u++v) s=true:=by
 rcases FA h with⟨_,rfl⟩|⟨kd,h⟩;exact⟨rfl,rfl⟩
 .refine zZ (DT (v:=v) h) λb c' d e g m T k=>?_;have l:=Fy f m.a1;refine bV (As l m T) λc2 fu aG aa=>Y (v0 aG ..)<|Y (v0 aG ..) ?_;have bp:∀{w:List Nat}{n:Nat},n<=(c::u).length->1<=w.length->(kd,bQ (c::u) w n,cE (c::u) w n)=((kd,none,s):gm)->(s.hb=false/\∃z,s=.pos z)/\bQ (c::u++v) w (s.fr n)=bQ (c::u++v) w n/\cE (c::u++v) w (s.fr n)=cE (c::u++v) w n:=λ{w n} D E q=>by have I:bQ (c::u) w n=none:=az (·.2.1) q;have J:s=cE (c::u) w n:=(az (·.2.2) q).symm;subst J;exact e6 ⟨rfl,_,rfl⟩ ((CD D E I).symm) zO
  have ne:pre dq (c::u++v)=b:=aG.b1;have O:pre [60,47] (c::u++v)=e:=aG.e1;rcases b
  .refine aS (T.resolve_left ka) λah ai=>?_;subst ah ai;refine aS (aa.resolve_left ka) λaj ak=>?_;subst aj ak;rcases e
   .rcases g
    .have k:iI (gB (c::u) .no)=((kd,none,s):gm):=aQ k;have U:(gB (c::u) .no).1=none:=az (·.2.1) k;have k2:s=(iI<|gB (c::u) .no).2.2:=(az (·.2.2) k).symm;refine⟨az (λt=>some<|iI t)<|RZ U k2,?_⟩;have ab:(bw u []).1=none:=by have h:(bw u []).1.map (1+·)=none:=U;rcases C:(bw u []).1;rfl;rw[C]at h;exact aW<|h.symm
     have ae:∀(a q:List Nat),q.length<=1->(bw a q).2.2.length<=1:=by
      intro a;induction a with
      |nil=>exact λq h=>h|cons x a N=>intro q bk;rcases q with _|⟨y,q⟩;exact cv (P:=λt:Tg=>t.2.2.length<=1) (λ_=>N [x]<|ba _) λ_=>cv (P:=λt:Tg=>t.2.2.length<=1) (λ_=>bJ _) λ_=>cv (P:=λt:Tg=>t.2.2.length<=1) (λ_=>bJ _) λ_=>N []<|bJ _;exact cv (P:=λt:Tg=>t.2.2.length<=1) (λ_=>N []<|bJ _) λ_=>N _ bk
     have W:s=.tag (1+u.length) (bw u []).2.2:=by refine Y k2 ?_;show Seen.tag (1+(bw u []).2.1) _=_;exact Y (((yd (b:=v) u []).1 ab).1) rfl
     refine Y W ?_;show(!pre dq (c::u++v)&&(!pre [60,47] (c::u++v)&&(Nat.ble (bw u []).2.2.length 1&&Nat.ble (1+u.length) (c::u++v).length)))=true;refine Y ne<|Y O<|Y (hY<|ae u []<|bJ _)<|Y (hY<|by rw[a0,cB];simp+arith) ?_;rfl
    exact nomatch az (λz=>z.bind (·.2.1)) k
   have k:(hD,bQ (c::u) [62] 2,cE (c::u) [62] 2)=((kd,none,s):gm):=aQ k;obtain rfl:hD=kd:=az (·.1) k;refine cZ (bp l (by decide) k) λal I J=>aS al λ_ am=>aU am λz j=>⟨az some (by show(hD,bQ _ [62]<|s.fr 2,cE _ [62]<|s.fr 2)=(hD,bQ _ [62] 2,cE _ [62] 2);exact Y I<|Y J rfl),?_⟩;refine Y j ?_;show(_||pre [60,47] (c::u++v))=true;exact Y O<|Y (pT ..) rfl
  have k:(gf,bQ (c::u) [93,93,62] 9,cE (c::u) [93,93,62] 9)=((kd,none,s):gm):=aQ k;obtain rfl:gf=kd:=az (·.1) k;refine cZ (bp (vH m.b1) (by decide) k) λaf I J=>aS af λ_ ag=>aU ag λz j=>⟨az some (by exact Y I<|Y J rfl),?_⟩;refine Y j ?_;show(pre dq (c::u++v)||_)=true;exact Y ne rfl
def Lb(h:bK u .no false=(none,0,s)):bK (u++v) s false=bK (u++v) .no false/\(c7 (u++v) .no=true->c7 (u++v) s=true):=by rcases u with _|⟨c,u⟩;obtain rfl:Seen.no=s:=az (·.2.2) h;exact⟨rfl,id⟩;have e:∀r s,bK (c::r) s false=aB (ar [c] [60]) (c5 (c::r) false<|eb (c::r) s) (aB (ar [c] [38]) (c5 (c::r) false<|some (dP,bQ (c::r) [59]<|s.fr 1,cE (c::r) [59]<|s.fr 1))<|g5 (c::r) s false):=λ_ _=>rfl;have o:∀r s,c7 (c::r) s=aB (ar [c] [60]) (!pre d7 (c::r)&&(!pre dt (c::r)&&(!pre [60,63] (c::r)&&nU (c::r) s))) (aB (ar [c] [38]) (!s.hb) true):=λ_ _=>rfl;rw[e]at h;refine Y kc<|Y (e ..)<|Y (e ..)<|Y (o ..)<|Y (o ..) ?_;revert h;rcases f:ar [c] [60];intro h;revert h;rcases D:ar [c] [38];intro h;have h:aB (Nat.blt 0<|cc (c::u) false) (some ao,cc (c::u) false,.no) (none,0,.no)=(none,0,s):=h;revert h;rcases E:Nat.blt 0 (cc (c::u) false);intro h;obtain rfl:Seen.no=s:=az (·.2.2) h;exact⟨rfl,id⟩;intro h;cases h;intro h;rcases FA (show c5 (c::u) false (some (dP,bQ (c::u) [59] 1,cE (c::u) [59] 1))=_ from h)with⟨h,_⟩|⟨kd,h⟩;exact aW<|h.symm;have x:bQ (c::u) [59] 1=none:=az (λz=>z.bind (·.2.1)) h;have y:s=cE (c::u) [59] 1:=(az (λz=>(z.map (·.2.2)).getD s) h).symm;have l:1<=(c::u).length:=bR ..;have a:=CD (v:=v) (w:=[59]) l (ba 1) x;have b:=zO (u:=c::u) (v:=v) (w:=[59]) (d:=1);clear h;subst y;refine⟨?_,λ_=>rfl⟩;show c5 (c::(u++v)) false (some (dP,bQ (c::u++v) [59]<|max 1<|(c::u).length+1-1,cE (c::u++v) [59]<|max 1<|(c::u).length+1-1))=c5 (c::(u++v)) false (some (dP,bQ (c::u++v) [59] 1,cE (c::u++v) [59] 1));exact Y b.symm<|Y a rfl;intro h;refine aS (IE (v:=v) f h) λj k=>?_;rw[kc]at j k;refine⟨az (c5 (c::(u++v)) false) j,λq=>?_⟩;refine zb q λx q=>zb q λy q=>zb q λC _=>?_;show(!pre d7 (c::(u++v))&&(!pre dt (c::(u++v))&&(!pre [60,63] (c::(u++v))&&nU (c::(u++v)) s)))=true;exact Y x<|Y y<|Y C<|Y k rfl
def JP(h:bK u .no false=(some kd,e,J))(ht:ar kd ao=false)(C:ar kd cP=false)(o:c7 u .no=true):bK (u++v) .no false=(some kd,e,J)/\c7 (u++v) .no=true:=by
 rcases u with _|⟨c,u⟩;exact nomatch az (·.1) h
 .have I:∀r,bK (c::r) .no false=aB (ar [c] [60]) (c5 (c::r) false<|eb (c::r) .no) (aB (ar [c] [38]) (c5 (c::r) false<|some (dP,bQ (c::r) [59] 1,cE (c::r) [59] 1))<|g5 (c::r) .no false):=λ_=>rfl;have O:∀r,c7 (c::r) .no=aB (ar [c] [60]) (!pre d7 (c::r)&&(!pre dt (c::r)&&(!pre [60,63] (c::r)&&true))) (aB (ar [c] [38]) true true):=λ_=>rfl;rw[I]at h;rw[O]at o;refine Y kc<|Y (I ..)<|Y (O ..) ?_;rcases f:ar [c] [60];rw[f]at h;revert h;rcases ak:ar [c] [38];intro h;have h:aB (Nat.blt 0<|cc (c::u) false) (some ao,cc (c::u) false,.no) (none,0,.no)=(some kd,e,J):=h;revert h;rcases D:Nat.blt 0 (cc (c::u) false);intro h;exact nomatch az (·.1) h;intro h;obtain rfl:ao=kd:=aQ<|az (·.1) h;exact ff<|ht.symm;intro h;refine aS (nb<|show c5 (c::u) false (some (dP,bQ (c::u) [59] 1,cE (c::u) [59] 1))=_ from h) λai aj=>?_;subst ai;refine aU aj λE h=>?_;have q:=aQ h;obtain rfl:dP=kd:=az (·.1) q;have a:bQ (c::(u++v)) [59] 1=some e:=Eb (u:=c::u) (v:=v) (bR ..)<|az (·.2.1) q;refine⟨?_,rfl⟩;show c5 _ false (some (dP,bQ (c::(u++v)) [59] 1,_))=_;exact Y a rfl
  .rw[f]at h o;refine aS (nb<|show c5 (c::u) false (eb (c::u) .no)=_ from h) λaa ab=>?_;subst aa;refine aU ab λE h=>zZ (DT (v:=v) h) λb c' d T g m D k=>?_;have l:=Fy f m.a1;refine bV (As l m D) λc2 fu aG W=>zb o λq1 q=>zb q λq2 q=>zb q λq3 _=>?_;have p1:pre d7 (c::(u++v))=pre d7 (c::u):=vu (v:=v) (w:=d7) m.a1;have p3:pre [60,63] (c::(u++v))=pre [60,63] (c::u):=uG (v:=v) l;have p2:pre dt (c::(u++v))=pre dt (c::u):=by rcases b;exact vu (v:=v) (w:=dt)<|m.d1.trans (D.resolve_left ka).2;exact kJ (y:=dt) (a:=v) (x:=c::u)<|vH m.b1
   refine⟨?_,?_⟩
   rotate_left
   show(!pre d7 (c::(u++v))&&(!pre dt (c::(u++v))&&(!pre [60,63] (c::(u++v))&&true)))=true;exact Y p1<|Y p2<|Y p3<|Y q1<|Y q2<|Y q3 rfl;show c5 (c::(u++v)) false (eb (c::(u++v)) .no)=_;have N:=v0 aG .no;rw[kc]at N;refine Y N ?_;have bp:∀{w:List Nat}{n:Nat}{kn:List Nat},n<=(c::u).length->(kn,bQ (c::u) w n,cE (c::u) w n)=((kd,some e,E):gm)->c5 (c::(u++v)) false (some (kn,bQ (c::(u++v)) w n,cE (c::(u++v)) w n))=(some kd,e,.no):=λ{w n kn} z q=>by obtain rfl:kn=kd:=az (·.1) q;have a:bQ (c::(u++v)) w n=some e:=Eb (v:=v) z<|az (·.2.1) q;exact Y a rfl
   rcases b;refine aS (D.resolve_left ka) λae af=>?_;subst ae af;refine aS (W.resolve_left ka) λag ah=>?_;subst ag ah;rcases T;rcases g;have k:iI (gB (c::u) .no)=((kd,some e,E):gm):=aQ k;have k1:(bw u []).1.map (1+·)=some e:=az (·.2.1) k;refine aZ (jw k1) λi j _=>?_;have U:bw (u++v) []=bw u []:=(yd (b:=v) u []).2 i j;show c5 _ false (some<|iI<|up 1<|bw (u++v) [])=_;refine Y U ?_;show c5 _ false (some<|iI<|gB (c::u) .no)=_;exact Y k rfl;obtain rfl:cP=kd:=az (·.1) (aQ k);exact ff<|C.symm;exact bp l<|aQ k;exact bp (vH m.b1)<|aQ k
def k7(a):∀l,jn [] (a::l)=a++jn [] l:=by
 intro l;induction l with
 |nil=>exact(be a).symm|cons b l f=>show a++[]++jn [] (b::l)=_;exact Y (be ..) rfl
def rY:∀a b,jn [] (a++b)=jn [] a++jn [] b:=by
 intro a;induction a with
 |nil=>intro _;exact rfl
 |cons x a f=>intro b;exact Y kc<|Y (k7 ..)<|Y (k7 ..)<|Y (f b)<|Y (br ..) rfl
theorem uc:∀l{a b p q},jn [] (a::p)=jn [] (b::q)->aJ l (a::p)=aJ l (b::q)
 |[],a,b,p,q,h=>az (λt=>[cL.tx t]) h|.tx t::l,a,b,p,q,h=>uc l (p:=p++[t]) (q:=q++[t]) (by have e:∀(x:List Nat)(y:List<|List Nat),jn [] (x::(y++[t]))=jn [] (x::y)++jn [] [t]:=λx y=>rY (x::y) [t];exact Y (e ..)<|Y (e ..)<|Y h rfl)
 |.ot o::l,a,b,p,q,h=>by show dA (a::p)++_=dA (b::q)++_;exact Y (show dA (a::p)=dA (b::q) from az (λt=>[cL.tx t]) h) rfl
def CF(N f)(k):aJ (dA N++k) f=aJ k (f++N):=by
 rcases N with _|⟨a,N⟩;exact Y (be ..) rfl
 .show aJ k (f++[jn []<|a::N])=_;have e:jn [] (f++[jn []<|a::N])=jn [] (f++a::N):=by exact Y (rY ..)<|Y (rY ..) rfl
  rcases f with _|⟨b,f⟩;exact uc k (p:=[]) (q:=N) e;exact uc k e
theorem xy:∀l N k f,aJ (aJ l N++k) f=aJ (l++k) (f++N)
 |[],N,k,f=>CF N f k|.tx t::l,N,k,f=>(xy l (N++[t]) k f).trans<|by exact Y (br ..).symm rfl
 |.ot o::l,N,k,f=>by show aJ ((dA N++.ot o::aJ l [])++k) f=_;refine Y (br ..)<|Y (CF ..) ?_;show dA (f++N)++.ot o::aJ (aJ l []++k) []=dA (f++N)++.ot o::aJ (l++k) [];exact Y (xy l [] k []) rfl
def lj(l k)(f):aJ (aJ l []++k) f=aJ (l++k) f:=by exact Y (xy ..)<|Y (be ..) rfl
theorem ni:∀l k f,aJ (l++aJ k []) f=aJ (l++k) f
 |[],k,f=>by have:=lj k [] f;rwa [be,be]at this
 |.tx t::l,k,f=>ni l k<|f++[t]
 |.ot o::l,k,f=>by show dA f++.ot o::aJ (l++aJ k []) []=dA f++.ot o::aJ (l++k) [];exact Y (ni l k []) rfl
def cb.dG:cb->cb|.ok l f=>.ok (aJ l []) f|.bad pl=>.bad pl
def y1(l)(o:cb):(o.add l).dG=(o.dG.add l).dG:=by rcases o with⟨k,f⟩|pl;show cb.ok _ f=cb.ok (aJ (l++aJ k []) []) f;exact Y (ni ..) rfl;rfl
def Pg(l)(o:cb):(o.add l).dG=(o.add<|aJ l []).dG:=by rcases o with⟨k,f⟩|pl;show cb.ok _ f=cb.ok (aJ (aJ l []++k) []) f;exact Y (lj ..) rfl;rfl
def Ey(l k)(o:cb):(o.add k).add l=o.add (l++k):=by rcases o with⟨m,f⟩|pl;show cb.ok (l++(k++m)) f=_;exact Y (br ..).symm rfl;rfl
def zI:∀u,aI (u++v)=aB (Nat.beq (aI u) u.length) (u.length+aI v) (aI u):=by
 intro u;induction u with
 |nil=>exact Y (List.nil_append ..)<|Y jl<|Y (eW ..) rfl
 |cons c u f=>show aB (fA c) 0 (aI (u++v)+1)=aB (Nat.beq (aB (fA c) 0<|aI u+1)<|u.length+1) (u.length+1+aI v) (aB (fA c) 0<|aI u+1);refine Y (f) ?_;rcases fA c;show aB (Nat.beq (aI u) u.length) (u.length+aI v) (aI u)+1=aB (Nat.beq (aI u) u.length) (u.length+1+aI v) (aI u+1);rcases Nat.beq (aI u) u.length;rfl;exact sl ..;rfl
def brk:List Nat->Nat|[]=>0|a::l=>aB (Nat.beq 93 a) (match l with|[]=>1|b::_=>aB (Nat.beq 93 b) 2 1) 0
def nP(r):bS r=brk r.reverse:=by unfold bS b2;generalize r.reverse=l;rcases l with _|⟨a,l⟩;rfl;show aB (match Nat.beq 93 a with|true=>pre [93] l|false=>false) 2 (aB (match Nat.beq 93 a with|true=>pre [] l|false=>false) 1 0)=aB (Nat.beq 93 a) _ 0;rcases Nat.beq 93 a;rfl;rcases l with _|⟨b,l⟩;rfl;show aB (match Nat.beq 93 b with|true=>pre [] l|false=>false) 2 (aB (pre []<|b::l) 1 0)=aB (Nat.beq 93 b) 2 1;cases Nat.beq 93 b<;>rfl
def P1:∀v u,brk (v++u.take (brk u))=brk (v++u)
 |[],[]=>rfl|[],a::l=>by show brk ((a::l).take<|aB (Nat.beq 93 a) (match l with|[]=>1|b::_=>aB (Nat.beq 93 b) 2 1) 0)=aB (Nat.beq 93 a) (match l with|[]=>1|b::_=>aB (Nat.beq 93 b) 2 1) 0;rcases h:Nat.beq 93 a;rfl;rcases l with _|⟨b,l⟩;show aB (Nat.beq 93 a) 1 0=1;exact Y h rfl;show brk ((a::b::l).take<|aB (Nat.beq 93 b) 2 1)=aB (Nat.beq 93 b) 2 1;rcases f:Nat.beq 93 b;show aB (Nat.beq 93 a) 1 0=1;exact Y h rfl;show aB (Nat.beq 93 a) (aB (Nat.beq 93 b) 2 1) 0=2;exact Y h<|Y f rfl
 |[x],[]=>rfl|[x],a::l=>by show aB (Nat.beq 93 x) (match(a::l).take (aB (Nat.beq 93 a) (match l with|[]=>1|b::_=>aB (Nat.beq 93 b) 2 1) 0)with|[]=>1|b::_=>aB (Nat.beq 93 b) 2 1) 0=aB (Nat.beq 93 x) (aB (Nat.beq 93 a) 2 1) 0;rcases h:Nat.beq 93 a;rfl;rcases l with _|⟨b,l⟩;show aB _ (aB (Nat.beq 93 a) 2 1) 0=_;exact Y h rfl;show aB (Nat.beq 93 x) (match(a::b::l).take (aB (Nat.beq 93 b) 2 1)with|[]=>1|b::_=>aB (Nat.beq 93 b) 2 1) 0=aB (Nat.beq 93 x) 2 0;cases Nat.beq 93 b<;>(show aB (Nat.beq 93 x) (aB (Nat.beq 93 a) 2 1) 0=_;exact Y h rfl)
 |x::y::v,u=>rfl
def Aq:∀u,brk u<=u.length:=by
 intro u;induction u with
 |nil=>exact ba _|cons a l f=>exact cv (P:=(·<=l.length+1)) (λ_=>by rcases l with _|⟨b,l⟩;exact ba _;exact cv (P:=(·<=l.length+1+1)) (λ_=>bR ..) λ_=>bR ..) λ_=>bJ _
def DF(u v):bS (u.drop (u.length-bS u)++v)=bS (u++v):=by refine Y (nP ..)<|Y (nP ..)<|Y (nP ..)<|Y r2<|Y r2<|Y List.reverse_drop<|Y (Nat.sub_sub_self (by have:=Aq u.reverse;rwa [fS]at this)) ?_;exact P1 ..
def qv(a b:List Nat):Prop:=∀k,k<a.length->a.length<k+3->pre [93,93,62] ((a++b).drop k)=false
def Tl:∀l:List Nat,l.take (brk l)=[93,93]\/brk (l.drop<|brk l)=0
 |[]=>.inr rfl
 |a::l=>by
  show(a::l).take (aB (Nat.beq 93 a) (match l with|[]=>1|b::_=>aB (Nat.beq 93 b) 2 1) 0)=_\/brk ((a::l).drop<|aB (Nat.beq 93 a) (match l with|[]=>1|b::_=>aB (Nat.beq 93 b) 2 1) 0)=0;rcases h:Nat.beq 93 a;exact .inr<|by show aB (Nat.beq 93 a) _ 0=0;exact Y h rfl
  .obtain rfl:=cd h;rcases l with _|⟨b,l⟩;exact .inr rfl
   .show(93::b::l).take (aB (Nat.beq 93 b) 2 1)=_\/brk ((93::b::l).drop<|aB (Nat.beq 93 b) 2 1)=0;rcases f:Nat.beq 93 b;exact .inr<|by show aB (Nat.beq 93 b) _ 0=0;exact Y f rfl
    obtain rfl:=cd f;exact .inl rfl
def M6(u:List Nat):u.drop (u.length-bS u)=[93,93]\/bS (u.take<|u.length-bS u)=0:=by have le:=Aq u.reverse;rw[fS]at le;refine Y (nP ..)<|Y (nP ..) ?_;rcases Tl u.reverse with h|h;refine .inl ?_;rw[List.take_reverse]at h;have:=az List.reverse h;rwa [List.reverse_reverse]at this;refine .inr ?_;rw[List.drop_reverse]at h;exact h
def S2(h:w=[93,93]\/bS a=0)(E:b=(w++v).take n)(u:0<b.length):qv a b:=by
 intro k aP hl;have e:(a++b).drop k=a.drop k++b:=mr<|fl aP;refine Y e<|k0 λq=>?_;have len:(a.drop k).length=a.length-k:=b9;have bp:∀t:List Nat,a.drop k=t++[93]->pre [93,93,62] (t++[93]++b)=true->1<=t.length\/t=[]->t.length<=1->False:=λt ht f _ j=>by
  have z:w=[93,93]:=h.resolve_right λC=>by have:a=a.take k++t++[93]:=Y (br ..)<|Y ht.symm<|Y (nx ..) rfl;rw[this,nP,r2]at C;have C:aB (Nat.beq 93 93) (match(a.take k++t).reverse with|[]=>1|b::_=>aB (Nat.beq 93 b) 2 1) 0=0:=C;revert C;rcases(a.take k++t).reverse with _|⟨x,l⟩;exact λC=>nomatch C;show aB (Nat.beq 93 x) 2 1=0->False;cases Nat.beq 93 x<;>exact λC=>nomatch C
  clear h;subst z;have I:(∃r,b=93::93::r)\/b=[93]:=by
   match n with
   |0=>rw[E]at u;exact absurd u<|g6 _
   |1=>exact .inr E|n+2=>exact .inl ⟨v.take n,E⟩
  match t,j with
  |[],_=>rcases I with⟨r,rfl⟩|rfl;exact ff f;exact ff f
  |[x],_=>have f:(match Nat.beq 93 x with|true=>pre [93,62] ([93]++b)|false=>false)=true:=f;revert f;rcases aE:Nat.beq 93 x;intro f;exact ff f;intro f;rcases I with⟨r,rfl⟩|rfl;exact ff f;exact ff f
 match ht:a.drop k with
 |[]=>rw[ht]at len;simp at len;exact jT 0<|cS aP (a4 len.symm) (cn a.length k)<|by simp+arith
 |[x]=>
  rw[ht]at q;have aE:x=93:=by have q:(match Nat.beq 93 x with|true=>pre [93,62] b|false=>false)=true:=q;rcases aE:Nat.beq 93 x;rw[aE]at q;exact ff q;exact(cd aE).symm
  subst aE;exact bp [] ht q (.inr rfl)<|bJ _
 |[x,y]=>
  rw[ht]at q;have D:y=93:=by have q:(match Nat.beq 93 x with|true=>(match Nat.beq 93 y with|true=>pre [62] b|false=>false)|false=>false)=true:=q;revert q;rcases aE:Nat.beq 93 x;intro q;exact ff q;intro q;have q:(match Nat.beq 93 y with|true=>pre [62] b|false=>false)=true:=q;rcases D:Nat.beq 93 y;rw[D]at q;exact ff q;exact(cd D).symm
  subst D;exact bp [x] ht q (.inl<|ba _)<|ba _
 |_::_::_::_=>rw[ht]at len;simp at len;exact jT 0<|cS hl (a4 len) (a4<|bx<|show k<=a.length from aR aP<|by simp+arith)<|by simp+arith
def A1:∀{a},cD z a=none->cD z (a++b)=(cD z b).map (a.length+·):=by
 intro a;induction a with
 |nil=>intro _;refine Y (List.nil_append ..)<|Y jl ?_;cases cD z b<;>simp
 |cons c a j=>
  intro h;have e:∀r,cD z (c::r)=match z c with|true=>(cD z r).map (·+1)|false=>some 0:=λ_=>rfl;rw[e]at h;refine Y kc<|Y (e ..) ?_;revert h;rcases f:z c;intro h;exact aW<|h.symm
  .intro h;have h:cD z a=none:=by rcases C:cD z a;rfl;rw[C]at h;exact aW<|h.symm
   show(cD z<|a++b).map (·+1)=_;refine Y (j h) ?_;rcases cD z b with _|i;rfl;exact az some<|sl ..
def MC(h:ih a=none)(n:qv a b):ih (a++b)=(ih b).map λc=>(c.1,a.length+c.2):=by
 unfold ih at h⊢;revert h;rcases j:cD gK a with _|i
 .intro h;have f:bq [93,93,62] a=none:=by rcases C:bq [93,93,62] a;rfl;rw[C]at h;exact aW<|h.symm
  refine Y (A1 j) ?_;rcases cD gK b with _|i
  .have s:=yF (y:=[93,93,62]) (x:=a++b) (z:=a.length) (by refine Y a0 ?_;exact bE ..) λk aP=>by rcases dJ a.length (k+3)with q|q;exact n k aP q;exact Y (mr<|fl aP)<|Y (kJ<|by rw[b9];show 3<=_;exact a7 q (cn a.length k)<|by simp+arith)<|qz f k<|fl aP
   rw[tk]at s;show(match bq [93,93,62] (a++b)with|some i=>some (pO,i)|none=>none)=_;refine Y s ?_;rcases bq [93,93,62] b with _|i;rfl;exact az (λn=>some (pO,n))<|cF ..
  rfl
 intro h;exact aW<|h.symm
def BS(c):fA c=(ar [c] [60]||ar [c] [38]):=by
 unfold fA;have l:∀x,ar [c] [x]=Nat.beq c x:=λx=>by show(match Nat.beq c x with|true=>true|false=>false)=_;cases Nat.beq c x<;>rfl
 refine Y (l ..)<|Y (l ..) ?_;show(match pre [c] [60,38]with|true=>some 0|false=>(match pre [c] [38]with|true=>some 0|false=>none).map (·+1)).isSome=_;have p:∀x r,pre [c] (x::r)=Nat.beq c x:=λx r=>by show(match Nat.beq c x with|true=>true|false=>false)=_;cases Nat.beq c x<;>rfl
 refine Y (p ..)<|Y (p ..) ?_;cases Nat.beq c 60<;>cases Nat.beq c 38<;>rfl
def Fe(h:fA c=false)(s)(E):bK (c::r) s E=g5 (c::r) s E/\c7 (c::r) s=true:=by rw[BS]at h;refine aS (ux.mp h) λj f=>⟨?_,?_⟩;show aB (ar [c] [60]) _ (aB (ar [c] [38]) _<|g5 (c::r) s E)=_;exact Y j<|Y f rfl;show aB (ar [c] [60]) _ (aB (ar [c] [38]) _ true)=true;exact Y j<|Y f rfl
def Dz(h:eb r s=some z):z=(gf,bQ r [93,93,62]<|s.fr 9,cE r [93,93,62]<|s.fr 9)\/z=(hD,bQ r [62]<|s.fr 2,cE r [62]<|s.fr 2)\/z=(cP,some r.length,.no)\/z=iI (gB r s):=by unfold eb at h;refine aS (oF h) λ_ h=>?_;rcases j:pre dq r;rw[j]at h;refine aS (oF h) λ_ h=>aS (oF h) λ_ h=>?_;rcases f:pre [60,47] r;rw[f]at h;rcases k:pre [60,33] r;rw[k]at h;exact .inr<|.inr<|.inr (aQ h).symm;rw[k]at h;exact .inr<|.inr<|.inl (aQ h).symm;rw[f]at h;exact .inr<|.inl (aQ h).symm;rw[j]at h;exact .inl (aQ h).symm
def GI(h:eb r s=some z):ar z.1 ao=false:=by rcases Dz h with rfl|rfl|rfl|rfl<;>rfl
def s6(h:Nat.blt 0 n=true):1<=n:=bG h
def Ek(h:bK u .no false=(some kd,e,J))(ht:ar kd ao=true):(∃c r,u=c::r/\fA c=false)/\kd=ao/\J=.no/\e=cc u false/\1<=e:=by rcases u with _|⟨c,u⟩;exact nomatch az (·.1) h;have h:aB (ar [c] [60]) (c5 (c::u) false<|eb (c::u) .no) (aB (ar [c] [38]) (c5 (c::u) false<|some (dP,bQ (c::u) [59] 1,cE (c::u) [59] 1))<|g5 (c::u) .no false)=(some kd,e,J):=h;revert h;rcases f:ar [c] [60];intro h;revert h;rcases k:ar [c] [38];intro h;have h:aB (Nat.blt 0<|cc (c::u) false) (some ao,cc (c::u) false,.no) (none,0,.no)=(some kd,e,J):=h;revert h;rcases x:Nat.blt 0 (cc (c::u) false);intro h;exact nomatch az (·.1) h;intro h;clear ht;obtain rfl:ao=kd:=aQ<|az (·.1) h;obtain rfl:cc (c::u) false=e:=az (·.2.1) h;obtain rfl:Seen.no=J:=az (·.2.2) h;exact Gh ⟨c,u,rfl,by exact Y (BS ..)<|Y f<|Y k rfl⟩ rfl rfl rfl<|s6 x;intro h;obtain⟨_,j,h⟩:=nb<|show c5 (c::u) false (some (dP,bQ (c::u) [59] 1,cE (c::u) [59] 1))=_ from h;obtain rfl:dP=kd:=az (·.1)<|aQ h;exact ff ht;intro h;obtain⟨_,j,h⟩:=nb<|show c5 (c::u) false (eb (c::u) .no)=_ from h;have:=GI h;rw[show ar ((kd,some e,j):gm).1 ao=ar kd ao from rfl,ht]at this;exact ff<|this.symm
def wx(f:1<=z)(h:bQ r w z=some e):1<=e:=by refine aZ (jw (o:=iJ (r.drop z) w) (z:=(z+·)) h) λa _ j=>?_;clear h;subst j;exact av f<|bE ..
def sy(h:bK u .no false=(some kd,e,J)):1<=e:=by rcases ht:ar kd ao;rcases u with _|⟨c,u⟩;exact nomatch az (·.1) h;have h:aB (ar [c] [60]) (c5 (c::u) false<|eb (c::u) .no) (aB (ar [c] [38]) (c5 (c::u) false<|some (dP,bQ (c::u) [59] 1,cE (c::u) [59] 1))<|g5 (c::u) .no false)=(some kd,e,J):=h;revert h;rcases f:ar [c] [60];intro h;revert h;rcases D:ar [c] [38];intro h;have h:aB (Nat.blt 0<|cc (c::u) false) (some ao,cc (c::u) false,.no) (none,0,.no)=(some kd,e,J):=h;revert h;rcases E:Nat.blt 0 (cc (c::u) false);intro h;exact nomatch az (·.1) h;intro h;obtain rfl:ao=kd:=aQ<|az (·.1) h;exact ff<|ht.symm;intro h;exact aS (nb<|show c5 (c::u) false (some (dP,bQ (c::u) [59] 1,cE (c::u) [59] 1))=_ from h) λ_ C=>aU C λx h=>wx (ba 1)<|az (·.2.1)<|aQ h;intro h;refine aS (nb<|show c5 (c::u) false (eb (c::u) .no)=_ from h) λ_ j=>aU j λx h=>?_;rcases Dz h with k|k|k|k;exact wx (show 1<=9 by decide) (az (·.2.1) k).symm;exact wx (show 1<=2 by decide) (az (·.2.1) k).symm;have k:some e=some (u.length+1):=az (·.2.1) k;exact Y (aQ k)<|bR ..;refine aZ (jw (o:=(bw u []).1) (z:=(1+·)) (az (·.2.1) k).symm) λa _ y=>?_;clear j h k;subst y;exact bE ..;exact(Ek h ht).2.2.2.2
def ym(h:bK u .no false=(some kd,e,J))(o:c7 u .no=true):e<=u.length:=by have:=(w' (E:=false) o).1;rwa [h]at this
section
variable{sem:g7}
def Hk:∀{n m st nm r p},r.length<n->r.length<m->dT sem false n ⟨st,nm,r,.no,p⟩=dT sem false m ⟨st,nm,r,.no,p⟩:=by
 intro n;induction n with
 |zero=>exact λh=>absurd h<|g6 _
 |succ n y=>
  intro m st nm r p j f;rcases m with _|m;exact absurd f<|g6 _
  .show b6 (c7 r .no) (kQ sem (dT sem false n) ⟨st,nm,r,.no,p⟩<|bK r .no false)=b6 (c7 r .no) (kQ sem (dT sem false m) ⟨st,nm,r,.no,p⟩<|bK r .no false);rcases o:c7 r .no;rfl
   .show kQ _ _ _ _=kQ _ _ _ _;match ht:bK r .no false with|(none,e,s)=>rfl|(some kd,e,s)=>have k:=sy ht;have hl:=ym ht o;show ob (sem st nm kd (r.take e) p) _=ob (sem st nm kd (r.take e) p) _;refine p2 λx=>?_;rcases x with⟨l,ae,u⟩|pl;show b6 _ (ob (dT sem false n ⟨ae,u,r.drop e,.no,p+e⟩) _)=b6 _ (ob (dT sem false m ⟨ae,u,r.drop e,.no,p+e⟩) _);exact Y (y (m:=m) (by rw[b9];exact cS j k (a4<|bx<|show e<=r.length from aR hl<|by simp+arith)<|by simp+arith)<|by rw[b9];exact cS f k (a4<|bx<|show e<=r.length from aR hl<|by simp+arith)<|by simp+arith) rfl;rfl
end
theorem uS:∀{n u},aI u=u.length->aI (u.drop n)=(u.drop n).length|0,_,h=>h|n+1,[],_=>rfl|n+1,c::u,h=>by have h:aB (fA c) 0 (aI u+1)=u.length+1:=h;revert h;rcases k:fA c;intro h;exact uS (n:=n) (u:=u)<|hE h;intro h;cases h
def CQ(h:1<=aI (c::r)):fA c=false:=by have h:1<=aB (fA c) 0 (aI r+1):=h;rcases k:fA c;rfl;rw[k]at h;exact absurd h<|jT _
def Gp(h:1<=cc r false):g5 r s false=(some ao,cc r false,.no):=by show aB (Nat.blt 0<|cc r false) _ _=_;exact Y (dw h) rfl
section
variable{u:List Nat}(h:aI u=u.length)
include h
omit h in
theorem LI:bS (u.drop<|u.length-bS u)=(u.drop<|u.length-bS u).length:=by have:=DF u [];rw[be,be]at this;refine Y this<|Y b9 ?_;exact(Nat.sub_sub_self<|s5 u).symm
theorem Qm:bK (u.drop<|u.length-bS u) .no false=(none,0,.no):=by have j:=LI (u:=u);have f:=uS (n:=u.length-bS u) h;generalize u.drop (u.length-bS u)=w at j f;rcases w with _|⟨c,r⟩;rfl;refine Y ((Fe (CQ<|by rw[f];exact bR ..) .no false).1) ?_;show aB (Nat.blt 0<|aB (Nat.beq (aI<|c::r) (c::r).length) (aI (c::r)-bS (c::r)) _) _ _=_;refine Y f<|Y (nh rfl)<|Y j ?_;show aB (Nat.blt 0<|_-_) _ _=_;exact Y (ew ..) rfl
theorem Ls:cc (u++v) false=u.length-bS u+cc (u.drop (u.length-bS u)++v) false:=by
 have j:=DF u v;have f:=uS (n:=u.length-bS u) h;have le:=s5 u;have hl:u.length-bS u+(u.drop<|u.length-bS u).length=u.length:=by refine Y b9 ?_;simp+arith
 generalize u.drop (u.length-bS u)=w at j f hl;have e:∀x:List Nat,aI x=x.length->cc (x++v) false=aB (Nat.beq (aI v) v.length) (x.length+aI v-bS (x++v)) (x.length+aI v):=λx aE=>by show aB (Nat.beq (aI<|x++v) (x++v).length) (aI (x++v)-bS (x++v)) (aI<|x++v)=_;refine Y (zI ..)<|Y (nh aE) ?_;show aB (Nat.beq (x.length+aI v) (x++v).length) (x.length+aI v-bS (x++v)) (x.length+aI v)=_;exact Y a0<|Y AU rfl
 refine Y (e u h)<|Y (e w f)<|Y j.symm ?_;have k:=s5<|w++v;rw[a0]at k;rcases y:Nat.beq (aI v) v.length;show u.length+aI v=u.length-bS u+(w.length+aI v);exact cf (aR (a4 hl.symm)<|by simp+arith)<|aR (a4 hl)<|by simp+arith
 have:=cd y;show u.length+aI v-bS (w++v)=u.length-bS u+(w.length+aI v-bS (w++v));exact cf (cS (a4 hl.symm) (cn (w.length+aI v)<|bS<|w++v) (a4<|bx<|show bS (w++v)<=u.length+aI v from cS (a4 hl) k (a4 this.symm)<|by simp+arith)<|by simp+arith)<|cS (a4 hl) (cn (u.length+aI v)<|bS<|w++v) (a4<|bx<|show bS (w++v)<=w.length+aI v from a7 k (a4 this.symm)<|by simp+arith)<|by simp+arith
end
def My:cc r false<=aI r:=cv (P:=(·<=aI r)) (λh=>nomatch h) λ_=>cv (P:=(·<=aI r)) (λ_=>gq ..) λ_=>ba _
def HF(a b)(o:cb):(o.add [.tx<|a++b]).dG=(o.add [.tx a,.tx b]).dG:=by refine Y (Pg [.tx a,.tx b] ..) ?_;show _=(o.add [.tx<|a++[]++b]).dG;exact Y (be ..) rfl
def rc(sem:g7):Prop:=∀{st:Nat}{nm:List V}{a b:List Nat}{p:Nat}{l:List cL}{ae:Nat}{u:List V},sem st nm ao a p=some (.ok l ae u)->qv a b->0<b.length->a.length+b.length<=500->
 (ae=st/\u=nm)/\∃k:List Nat->List cL,(k=(λ_=>[])\/k=λx=>[.tx x])/\l=k a/\((sem st nm ao b (p+a.length)=none/\sem st nm ao (a++b) p=none)\/(∃x,sem st nm ao b (p+a.length)=some (.bad x)/\sem st nm ao (a++b) p=some (.bad x))\/(sem st nm ao b (p+a.length)=some (.ok (k b) st nm)/\sem st nm ao (a++b) p=some (.ok (k<|a++b) st nm)))
section
variable{sem:g7}
abbrev cr(sem:g7)(st:Nat)(nm:List V)(r:List Nat)(p:Nat):Option cb:=dT sem false 200 ⟨st,nm,r,.no,p⟩
def TO(sem:g7)(r:List Nat)(e p:Nat):Er->Option cb
 |.bad pl=>some<|.bad pl
 |.ok l st nm=>b6 (Nat.ble l.length 2&&Nat.ble (cM l) 500)<|ob (cr sem st nm (r.drop e)<|p+e) λo=>some<|o.add l
def kt{st:Nat}(o:c7 r .no=true)(h:bK r .no false=(none,e,s)):cr sem st nm r p=some (.ok [] ⟨st,nm,r,s,p⟩):=by show b6 (c7 r .no) (kQ sem (dT sem false 199) ⟨st,nm,r,.no,p⟩<|bK r .no false)=_;exact Y o<|Y h rfl
def qW{st:Nat}(f:r.length<200)(o:c7 r .no=true)(h:bK r .no false=(some kd,e,s)):cr sem st nm r p=ob (sem st nm kd (r.take e) p) (TO sem r e p):=by show b6 (c7 r .no) (kQ sem (dT sem false 199) ⟨st,nm,r,.no,p⟩<|bK r .no false)=_;refine Y o<|Y h ?_;show ob (sem st nm kd (r.take e) p) _=_;refine p2 λk=>?_;have j:=sy h;have hl:=ym h o;rcases k with⟨l,ae,u⟩|pl;show b6 _ (ob (dT sem false 199 ⟨ae,u,r.drop e,.no,p+e⟩) _)=b6 _ (ob (dT sem false 200 ⟨ae,u,r.drop e,.no,p+e⟩) _);rw[Hk (m:=200) (by rw[b9];exact cS f j (a4<|bx<|show e<=r.length from aR hl<|by simp+arith)<|by simp+arith)<|by rw[b9];exact a7 f (gq r.length e)<|by simp+arith];rfl
def v1(o)(z:f->j):(ob o λa=>some<|z a)=o.map z:=by cases o<;>rfl
def UD(o:Option cb)(l):(o.map λx=>(x.add l).dG)=(o.map cb.dG).map λx=>(x.add l).dG:=by rcases o with _|x;rfl;exact az some<|y1 l x
def BK(aP:k=(λ_=>[])\/k=λx=>[.tx x])(f:b.length<=500):(Nat.ble (k b).length 2&&Nat.ble (cM<|k b) 500)=true:=by rcases aP with rfl|rfl;rfl;show Nat.ble (b.length+0) 500=true;exact hY f
def jF(sem:g7)(v:List Nat)(st:Nat)(nm:List V)(u:List Nat)(p:Nat)(l:List cL)(f:ju):Prop:=(cr sem st nm (u++v) p).map cb.dG=(cr sem f.st f.nm (f.r++v) f.p).map λo=>(o.add l).dG
section
variable{st:Nat}
def Fu(h:cr sem st nm u p=some (.ok l f))(e:cr sem st nm u p=some (.ok [] ⟨st,nm,u,s,p⟩)):jF sem v st nm u p l f:=by refine zo (aQ<|e.symm.trans h) λa b=>?_;clear h;subst a b;show(cr sem st nm (u++v) p).map cb.dG=_;refine az (λz=>Option.map z _)<|funext λo=>?_;cases o<;>rfl
def Fi(i:jF sem v y x (u.drop e) (p+e) j C)(D:(u++v).length<200)(h:e<=u.length)(he:sem st nm kd (u.take e) p=some (.ok f y x))(g:(Nat.ble f.length 2&&Nat.ble (cM f) 500)=true)(k:bK (u++v) .no false=(some kd,e,s))(o:c7 (u++v) .no=true):jF sem v st nm u p (f++j) C:=by show(cr sem st nm (u++v) p).map cb.dG=_;refine Y (qW D o k)<|Y (DM h)<|Y he ?_;show(b6 _<|ob (cr sem y x ((u++v).drop e)<|p+e) _).map _=_;refine Y g<|Y (mr h) ?_;show(ob _ _).map _=_;exact Y (v1 ..)<|Y (Option.map_map ..)<|(UD _ f).trans<|Y i<|Y (Option.map_map ..)<|az (λz=>Option.map z _)<|funext λo=>(y1 f<|o.add j).symm.trans<|az cb.dG<|Ey ..
def Sf(T:rc sem)(he:sem st nm ao a p=some (.ok U O N))(nc:qv a<|y.take n)(u:(y.take n).length=n)(C:0<n)(lt:(a++y).length<200)(k1:bK (a++y) .no false=(some ao,a.length+n,.no))(I:c7 (a++y) .no=true)(k2:bK y .no false=(some ao,n,.no))(J:c7 y .no=true):(cr sem st nm (a++y) p).map cb.dG=(cr sem O N y<|p+a.length).map λo=>(o.add U).dG:=by
 have W:a.length+y.length<200:=by rwa [a0]at lt
 have ly:y.length<200:=e9 (bR ..) W;have ny:n<=y.length:=u▸List.length_take_le' n y;refine Y (qW lt I k1)<|Y (qW ly J k2)<|Y (List.take_length_add_append ..) ?_;have E:a.length+(y.take n).length<=500:=by refine Y u ?_;exact a7 W ny<|by simp+arith
 refine aS (T he nc (Nat.lt_of_lt_of_eq C u.symm) E) λD h=>dF h λk aP el hh=>aS D λz1 z2=>?_;clear he D h;subst z1 z2 el;rcases hh with hh|⟨x,hh⟩|hh;refine aS hh λj f=>Y j<|Y f ?_;rfl;refine aS hh λj f=>Y j<|Y f ?_;rfl;refine aS hh λj f=>Y j (Y f ?_);show(b6 _<|ob (cr sem O N ((a++y).drop<|a.length+n) _) _).map _=(b6 _<|ob (cr sem O N (y.drop n) _) _).map _;refine Y (BK aP<|by rw[a0];exact E)<|Y (BK aP<|av (bR ..) E)<|Y (List.drop_length_add_append ..)<|Y (cz ..).symm ?_;show(ob _ _).map _=(ob _ _).map _;refine Y (v1 ..)<|Y (v1 ..)<|Y (Option.map_map ..)<|Y (Option.map_map ..)<|az (λz=>Option.map z _)<|funext λo=>?_;show(o.add _).dG=((o.add<|k _).add<|k _).dG;refine Y (Ey ..) ?_;rcases aP with rfl|rfl;rfl;exact HF _ _ o
def wK(C:0<cc w false):bK w .no false=(some ao,cc w false,.no)/\c7 w .no=true:=by
 rcases w with _|⟨c,r⟩;exact absurd C<|by decide
 exact aS (Fe (CQ<|av C My) .no false) λa b=>⟨a.trans<|Gp C,b⟩
def Ml(T:rc sem)(hu:0<cc u false)(W:(u++v).length<200)(he:sem st nm ao (u.take<|cc u false) p=some (.ok f x k))(D:cr sem x k (u.drop<|cc u false) (p+cc u false)=some (.ok j z))(aa:cc (u++v) false=cc u false->jF sem v st nm u p (f++j) z):jF sem v st nm u p (f++j) z:=by
 have ab:cc u false<=u.length:=wO;rcases h:Nat.beq (aI u) u.length
 .have ae:aI u<u.length:=Nat.lt_of_le_of_ne (na _) λC=>by rw[C,em]at h;exact ff (h.symm)
  have e1:cc u false=aI u:=by show aB (Nat.beq _ _) _ _=_;exact Y h rfl
  refine aa<|Eq.trans ?_ e1.symm;have a:aI (u++v)=aI u:=by exact Y (zI ..)<|Y h rfl
  show aB (Nat.beq (aI<|u++v) _) _ (aI<|u++v)=_;refine Y a<|Y (it<|by rw[a0];exact kq<|cu ae<|bE ..) ?_;rfl
 .have h:=cd h;have e1:cc u false=u.length-bS u:=by show aB (Nat.beq _ _) _ _=_;exact Y h<|Y (em ..) rfl
  have E:=Ls (v:=v) h;have wr:=Qm h;have U:=M6 u;rw[<-e1]at E wr U;have al:(u.take<|cc u false).length=cc u false:=List.length_take_of_le ab;have sp:u++v=u.take (cc u false)++(u.drop (cc u false)++v):=by rw[<-br,nx]
  generalize cc u false=e at*;rcases hz:Nat.blt 0 (cc (u.drop e++v) false);refine aa (E.trans ?_);generalize cc (u.drop e++v) false=n at hz;rcases n with _|n;rfl;exact ff hz.symm;have C:=s6 hz;refine zo (aQ<|(kt (sem:=sem) (wQ<|show b6 (c7 _ .no) _=_ from D).1 wr).symm.trans D) λy1 y2=>?_;subst y1 y2;refine aS (wK C) λk2 J=>aS (wK (w:=u++v)<|E▸cu C (bR ..)) λN I=>?_;have O:((u.drop e++v).take<|cc (u.drop e++v) false).length=cc (u.drop e++v) false:=List.length_take_of_le wO;have nc:=S2 U rfl<|Nat.lt_of_lt_of_eq C O.symm;rw[E]at N;show(cr sem st nm (u++v) p).map cb.dG=(cr sem x k (u.drop e++v)<|p+e).map λo=>(o.add<|f++[]).dG;rw[be];generalize u.drop e++v=y at*;rw[sp]at N I W⊢;generalize u.take e=a at*;subst al;exact Sf T he nc O C W N I k2 J
def IU(T:rc sem)(U:∀{st nm tx p e},sem st nm cP tx p=some e->e=.bad p)(y:(u++v).length<200)(o:c7 u .no=true)(ht:bK u .no false=(some kd,e,s))(h:cr sem st nm u p=some (.ok l f))(N:1<=e->e<=u.length->∀{st nm p l f},cr sem st nm (u.drop e) p=some (.ok l f)->jF sem v st nm (u.drop e) p l f):jF sem v st nm u p l f:=by have aa:u.length<200:=e9 (by rw[a0];exact bE ..) y;rw[qW aa o ht]at h;refine aK h λW he h=>?_;rcases W with⟨l0,ae,ab⟩|pl;refine dd h λg h=>aK h λI D h=>?_;rcases I with⟨l1,af⟩|pl;refine zo (aQ h) λE O=>?_;clear h;subst E O;have z:=ym ht o;have i:=N (sy ht) z D;rcases C:ar kd ao;rcases x:ar kd cP;exact aS (JP ht C x o) λa b=>Fi i y z he g a b;rw[hT x]at he;cases U he;refine oT (Ek ht C) λk E O y3 j=>?_;clear ht N h C;subst y3 E;refine Ml T j y he D λJ=>aS (wK (w:=u++v)<|J▸j) λa b=>?_;rw[J]at a;exact Fi i y z he g a b;exact nomatch aQ h;exact nomatch aQ h
end
def split(T:rc sem)(x:∀{st nm tx p e},sem st nm cP tx p=some e->e=.bad p):∀n{st nm u p l f},u.length<=n->u.length+v.length<200->cr sem st nm u p=some (.ok l f)->jF sem v st nm u p l f:=by
 intro n;induction n with
 |zero=>intro st nm u p l f k _ h;obtain rfl:u=[]:=q4.mp<|Nat.le_zero.mp k;exact Fu h<|kt rfl rfl
 |succ n z=>
  intro st nm u p l f k hl h;have o:=(wQ<|show b6 (c7 u .no) _=_ from h).1;rcases ht:bK u .no false with⟨_|kd,e,s⟩;exact Fu h<|kt o ht
  .refine IU T x (by rw[a0];exact hl) o ht h λj y=>?_;have d:(u.drop e).length+1<=u.length:=by rw[b9];exact Nat.sub_lt (cu j y) j
   exact λ{_ _ _ _ _}=>z (iV<|av d k)<|e9 (iB (mB d) _) hl
end
noncomputable abbrev nA:List V:=[.str [97]]
def yn:List (List V×List Nat×List Nat×Rd):=[
 ([],d6,[60,97,62],.ok [.ot<|.st [97] []] nA),
 ([],d6,[60,97,32,98,61,39,99,39,62],.ok [.ot<|.st [97] [([98],[99])]] nA),
 (nA,d6,[60,100,47,62],.ok [.ot<|.st [100] [],.ot<|.en [100]] nA),
 (nA,d6,[60,98,47,62],.ok [.ot<|.st [98] [],.ot<|.en [98]] nA),
 (nA,hD,[60,47,97,62],.ok [.ot<|.en [97]] []),
 (nA,dP,[38,35,48,59],.bad 0),
 (nA,dP,[38,97,109,112,59],.ok [.tx [38]] nA),
 (nA,dP,[38,35,54,53,59],.ok [.tx [65]] nA),
 (nA,d6,[60,102,32,103,61,39,104,38,35,120,68,59,38,35,53,59,39,47,62],.bad 12),
 (nA,hD,[60,47,103,62],.bad 0),
 (nA,d6,[60,106,32,107,61,39,49,39,32,107,61,39,50,39,47,62],.bad 9),
 (nA,gf,[60,33,91,67,68,65,84,65,91,60,121,62,93,93,62],.ok [.tx [60,121,62]] nA)]
noncomputable def q5(nm:List V)(kd tx:List Nat):List (List V×List Nat×List Nat×Rd)->Option Rd|[]=>none|x::r=>aB (ar tx x.2.2.1&&(ar kd x.2.1&&gQ nm x.1)) (some x.2.2.2)<|q5 nm kd tx r
def gH(nm:List V)(x:List Nat):Rd:=match ih x with|none=>.ok [.tx x] nm|some c=>.bad c.2
def rd:x3:=λnm kd tx=>aB (ar kd ao) (b6 (!dB nm&&Nat.ble tx.length bg)<|some<|gH nm tx)<|q5 nm kd tx yn
noncomputable def qb:aq->List (List Nat×Nat)
 |[]=>[]
 |o::H=>match o with
  |.dict f=>(match ob (aC dR f) ef,ob (aC b7 f) m7 with|some m,some p=>(m,p)::qb H|_,_=>[])
  |_=>qb H
def ut(nm:List V)(kd tx:List Nat)(e:Rd):Bool:=!ar kd ao&&match hO [.ref 0,.str kd,.str tx,.int ((0:Nat):Int)] (bN nm [])with
 |none=>false
 |some q=>match e with
  |.ok l u=>jk u&&m5 q (.ok (.ref 9)<|bN u [.list<|aD l])
  |.bad pl=>jk nm&&match q with
   |.ok _ _=>false
   |.exc _ H=>match qb (H.drop 9)with|[]=>false|c::ch=>Nat.beq c.2 pl&&(Nat.ble ch.length 1&&m5 q (.exc 9<|bN nm<|fo (c::ch) 9))
noncomputable def sf:List (List V×List Nat×List Nat×Rd)->Bool|[]=>true|x::r=>ut x.1 x.2.1 x.2.2.1 x.2.2.2&&sf r
def Od:sf yn=true:=by decide+kernel
def M'{tx:List Nat}(h:ar kd ao=false):ax (d+1) none (.fn 790) [.ref 0,.str kd,.str tx,.int ((0:Nat):Int)] (bN nm [])=hO [.ref 0,.str kd,.str tx,.int ((0:Nat):Int)] (bN nm []):=by
 show(match !ar kd ao with
  |true=>hO [.ref 0,.str kd,.str tx,.int ((0:Nat):Int)]<|bN nm []
  |false=>bD (λD H=>aF NN tab (ax d) none (.fn 790) D H) [.ref 0,.str kd,.str tx,.int ((0:Nat):Int)]<|bN nm [])=_
 exact Y h rfl
def I6{tx:List Nat}(h:ut nm kd tx e=true):pf (ax<|d+1) nm kd tx e:=by obtain⟨j,h⟩:=cY.mp h;have a:=M' (d:=d) (nm:=nm) (tx:=tx)<|ny j;rcases bk:hO [.ref 0,.str kd,.str tx,.int ((0:Nat):Int)] (bN nm [])with _|q;rw[bk]at h;exact ff h;rw[bk]at h a;rcases e with⟨l,u⟩|pl;obtain⟨f,k⟩:=cY.mp (show(jk u&&m5 q (.ok (.ref 9)<|bN u [.list<|aD l]))=true from h);exact⟨D1 f,a.trans<|nq (m:=some q) k⟩;rcases q with _|⟨i,H⟩;cases(cY.mp h).2;obtain⟨f,h⟩:=cY.mp h;have h:(match qb (H.drop 9)with|[]=>false|c::ch=>Nat.beq c.2 pl&&(Nat.ble ch.length 1&&m5 (.exc i H) (.exc 9<|bN nm<|fo (c::ch) 9)))=true:=h;revert h;rcases y:qb (H.drop 9)with _|⟨c,ch⟩;intro h;exact ff h;intro h;obtain⟨k,h⟩:=cY.mp<|show(Nat.beq c.2 pl&&(Nat.ble ch.length 1&&m5 (.exc i H) (.exc 9<|bN nm<|fo (c::ch) 9)))=true from h;obtain⟨x,z⟩:=cY.mp h;exact⟨nm,c,ch,cd k,bG x,D1 f,a.trans<|nq (m:=some<|.exc i H) z⟩
def Q1{tx:List Nat}:∀{l},sf l=true->q5 nm kd tx l=some e->pf (ax<|d+1) nm kd tx e:=by
 intro l;induction l with
 |nil=>intro _ h;exact nomatch h
 |cons x r z=>intro u h;obtain⟨j,f⟩:=cY.mp<|show(ut x.1 x.2.1 x.2.2.1 x.2.2.2&&sf r)=true from u;have h:aB (ar tx x.2.2.1&&(ar kd x.2.1&&gQ nm x.1)) (some x.2.2.2) (q5 nm kd tx r)=some e:=h;revert h;rcases y:(ar tx x.2.2.1&&(ar kd x.2.1&&gQ nm x.1));intro h;exact z f h;intro h;obtain⟨c1,c⟩:=cY.mp y;obtain⟨c2,k⟩:=cY.mp c;obtain rfl:=aQ h;exact Y (hT c1)<|Y (hT c2)<|Y (k5 k)<|I6 j
def DG(y:aH nm):cC (bN nm G) 9=[1,6,8,2,3,4,5,2,7]:=by have e:cC (bN nm G) 9=[1,6,8,2,3,4,5,2,7]++(cm nm++cC G 0):=rfl;refine Y e<|Y y.1 ?_;cases G<;>rfl
def Kv(y:aH nm)(aE:x.length<=bg):pf (ax<|d+5) nm ao x (gH nm x):=by
 have a:ax (d+5) none (.fn 790) [.ref 0,.str ao,.str x,.int ((0:Nat):Int)] (bN nm [])=bD (λD H=>aF NN tab (ax<|d+4) none (.fn 790) D H) [.ref 0,.str ao,.str x,.int ((0:Nat):Int)] (bN nm []):=rfl;have f:reach 4000 (bN nm []) (cm [.ref 0,.str ao,.str x,.int ((0:Nat):Int)]) []=some (upTo (bN nm []).length []):=vt y;have m:=BG d x 0 (bN nm []) aE;unfold gH;generalize ih x=o at m;have h:∀k∈[1,6,8,2,3,4,5,2,7],k∈upTo 9 []:=by decide
 rcases o with _|c
 .refine⟨y,a.trans<|zm (b:=.ref 9) (u:=bN nm [.list [.tup [.str ao,.str x]]]) f (Uw (O:=ax<|d+4) (j:=199940) m) (.inl rfl) (bE 9 1) ?_⟩;show reach 4000 _ (9::cC (bN nm [.list [.tup [.str ao,.str x]]]) 9) (upTo 9 [])=_;exact Y (DG y)<|(cT rfl (o:=.list [.tup [.str ao,.str x]]) rfl).trans<|kY (T:=[1,6,8,2,3,4,5,2,7]) (done:=upTo 9 []++[9]) (λk m=>fF _<|h k m)<|by decide
 .have m:ax (d+4) none (.fn 762) [.str x,.int ((0:Nat):Int)] (bN nm [])=some (.exc 9<|bN nm<|fo [(c.1,c.2)] 9):=by have m:ax (d+4) none (.fn 762) [.str x,.int ((0:Nat):Int)] (bN nm [])=some (.exc 9<|bN nm<|fo [(c.1,0+c.2)] 9):=m;rwa [eW]at m
  refine⟨nm,(c.1,c.2),[],rfl,bJ _,y,a.trans<|zm (b:=.ref 9) (u:=bN nm<|fo [(c.1,c.2)] 9) f (Rp (O:=ax<|d+4) (j:=199940) m) (.inr ⟨9,rfl,rfl⟩) (bE 9 2) ?_⟩;show reach 4000 _ (9::cC (bN nm<|fo [(c.1,c.2)] 9) 9) (upTo 9 [])=_;refine Y (DG y) ?_;refine(nV (n:=3998) (c.1,c.2) [] 9 (upTo 9 []) (λm o e=>by have e:(fo [(c.1,c.2)] 9)[m]? =some o:=e;refine Y (cF ..) ?_;exact e)<|by decide).trans ?_;exact kY (T:=[1,6,8,2,3,4,5,2,7]) (done:=upTo 9 []++[9,10]) (λk m=>fF _<|h k m)<|by decide
def yy:∀e,q' rd (ax<|e+40):=by intro e nm kd tx r y h;have h:aB (ar kd ao) (b6 (!dB nm&&Nat.ble tx.length bg)<|some<|gH nm tx) (q5 nm kd tx yn)=some r:=h;revert h;rcases aP:ar kd ao;intro h;exact Q1 (d:=e+39) Od h;intro h;refine dd h λg h=>?_;obtain rfl:=aQ h;obtain rfl:=hT aP;exact Kv (d:=e+35) y<|bG (cY.mp g).2
abbrev c3:g7:=sem rd
def zT{st:Nat}{tx:List Nat}(h:c3 st nm cP tx p=some e):e=.bad p:=by exact dd h λ_ h=>(aQ h).symm
def xE{st:Nat}:c3 st nm ao x p=b6 (jk nm) (aB (Nat.beq st 2) (b6 (!dB nm&&Nat.ble x.length bg)<|some<|(gH nm x).hN p)<|b6 (!dB x&&Nat.ble x.length bg)<|aB (Nat.beq st 0) none<|b6 (Nat.beq st 3&&dB nm)<|b6 (Nat.blt 0 p)<|some<|li nm p<|cD dH x):=by show b6 (jk nm) (aB (Nat.beq st 2) (ob (b6 (!dB nm&&Nat.ble x.length bg)<|some<|gH nm x) λe=>some<|e.hN p) _)=_;cases(!dB nm&&Nat.ble x.length bg)<;>rfl
def n4(h:b=true):b6 b m=m:=by subst h;rfl
def RU(h:0<l.length):dB l=false:=by rcases l;exact absurd h<|g6 _;rfl
def Bs{n:Nat}(h:n<=500):Nat.ble n bg=true:=hY<|av h<|by decide
def B0(f:jk nm=true)(j:dB nm=false)(aE:x.length<=500):c3 2 nm ao x p=some ((gH nm x).hN p):=by exact Y xE<|Y f<|Y j<|Y (Bs aE) rfl
def yO(f:jk nm=true)(j:dB nm=true)(k:0<x.length)(aE:x.length<=500)(h:Nat.blt 0 p=true):c3 3 nm ao x p=some (li nm p<|cD dH x):=by refine Y xE<|Y f<|Y (RU k)<|Y (Bs aE) ?_;show b6 (true&&dB nm) (b6 (Nat.blt 0 p) _)=_;exact Y j<|Y h rfl
def Ck{st:Nat}(k)(aP:k=(λ_=>[])\/k=λx=>[.tx x])(hl:l=k a){x y:Er}(f:A=some x)(j:B=some y)(h:(∃n,x=.bad n/\y=.bad n)\/(x=.ok (k b) st nm/\y=.ok (k<|a++b) st nm)):(st=st/\nm=nm)/\∃k,(k=(λ_=>[])\/k=λx=>[.tx x])/\l=k a/\((A=none/\B=none)\/(∃x,A=some (.bad x)/\B=some (.bad x))\/(A=some (.ok (k b) st nm)/\B=some (.ok (k<|a++b) st nm))):=by refine⟨⟨rfl,rfl⟩,k,aP,hl,.inr ?_⟩;rcases h with⟨n,rfl,rfl⟩|⟨rfl,rfl⟩;exact .inl ⟨n,f,j⟩;exact .inr ⟨f,j⟩
def uY(h:dB nm=false):(Rd.ok l nm).hN p=.ok l 2 nm:=by rcases nm;cases h;rfl
def Px(g:dB nm=false)(h:ih a=none)(n:qv a b):(∃m,(gH nm b).hN (p+a.length)=.bad m/\(gH nm<|a++b).hN p=.bad m)\/((gH nm b).hN (p+a.length)=Er.ok [.tx b] 2 nm/\(gH nm<|a++b).hN p=Er.ok [.tx<|a++b] 2 nm):=by unfold gH;refine Y (MC h n) ?_;rcases ih b with _|c;exact .inr ⟨uY g,uY g⟩;exact .inl ⟨_,rfl,az Er.bad (cz ..).symm⟩
def Pw(h:cD dH a=none):(∃m,li nm (p+a.length) (cD dH b)=.bad m/\li nm p (cD dH<|a++b)=.bad m)\/(li nm (p+a.length) (cD dH b)=Er.ok [] 3 nm/\li nm p (cD dH<|a++b)=Er.ok [] 3 nm):=by refine Y (A1 h) ?_;rcases cD dH b with _|c;exact .inr ⟨rfl,rfl⟩;exact .inl ⟨_,rfl,az Er.bad (cz ..).symm⟩
def y7:rc c3:=by
 intro st nm a b p l ae u h W I hl;refine l4 λZ C=>?_;have J:b.length<=500:=av (bR ..) hl;have E:(a++b).length<=500:=by refine Y a0 ?_;exact hl
 rw[xE]at h;refine dd h λf h=>?_;rcases j:Nat.beq st 2
 .rw[j]at h;refine dd h λ_ h=>?_;revert h;rcases h0:Nat.beq st 0
  .intro h;refine dd h λN h=>dd h λD hh=>zb N λO z=>?_;obtain rfl:=cd O;have T:Nat.blt 0 (p+a.length)=true:=dw<|cu (s6 D)<|bE ..;have U:0<(a++b).length:=by refine Y a0 ?_;exact cu I<|bR ..
   revert hh;rcases k:cD dH a with _|c;intro hh;refine aS (Er.ok.inj<|aQ hh) λah ai=>?_;subst ah;refine aS ai λaj ak=>?_;subst aj ak;exact C<|Ck (λ_=>[]) (.inl rfl) rfl (yO f z I J T) (yO f z U E D)<|Pw k;intro hh;cases hh
  exact aW
 .obtain rfl:=cd j;refine dd h λg h=>?_;have y:dB nm=false:=by rcases c:dB nm;rfl;rw[c]at g;exact ff g
  have h:=aQ h;rcases k:ih a with _|c;unfold gH at h;rw[k]at h;refine aS (Er.ok.inj<|(uY y).symm.trans h) λaa ab=>?_;subst aa;refine aS ab λaf ag=>?_;subst af ag;exact C<|Ck (λx=>[.tx x]) (.inr rfl) rfl (B0 f y J) (B0 f y E)<|Px y k W;unfold gH at h;rw[k]at h;cases h
noncomputable def c4(y:List Nat):List Nat->Nat->List Nat
 |[],_=>[]
 |a::r,w=>match w with
  |w+1=>c4 y r w
  |0=>match pre y (a::r)with|true=>10::c4 y r (y.length-1)|false=>a::c4 y r 0
theorem vE(y):∀x w U,∃b l,bf y x w U=b::l|[],_,_=>⟨_,_,rfl⟩|a::r,w+1,U=>vE y r w U|a::r,0,U=>by show∃b l,(match pre y (a::r)with|true=>U.reverse::bf y r (y.length-1) []|false=>bf y r 0<|a::U)=b::l;rcases pre y (a::r);exact vE y r 0<|a::U;exact mC _ _ rfl
theorem pj(y):∀x w U,jn [10] (bf y x w U)=U.reverse++c4 y x w|[],_,U=>(be U.reverse).symm|a::r,w+1,U=>pj y r w U|a::r,0,U=>by show jn [10] (match pre y (a::r)with|true=>U.reverse::bf y r (y.length-1) []|false=>bf y r 0<|a::U)=U.reverse++match pre y (a::r)with|true=>10::c4 y r (y.length-1)|false=>a::c4 y r 0;rcases pre y (a::r);exact Y (pj y r 0<|a::U)<|Y nc<|Y (br ..) rfl;have e:=pj y r (y.length-1) [];refine hv (vE y r (y.length-1) []) λb l h=>?_;rw[h]at e;show jn [10] (U.reverse::bf y r (y.length-1) [])=_;refine Y h ?_;show U.reverse++[10]++jn [10] (b::l)=_;exact Y e<|Y (br ..) rfl
def sZ(x):a' x=c4 [13] (c4 [13,10] x 0) 0:=by unfold a' dN;exact Y (pj ..)<|Y (pj ..) rfl
def NZ(b):∀a,c4 [13] (a++b) 0=c4 [13] a 0++c4 [13] b 0:=by
 intro a;induction a with
 |nil=>exact rfl
 |cons c a f=>
  have e:∀r:List Nat,c4 [13] (c::r) 0=match Nat.beq 13 c with|true=>10::c4 [13] r 0|false=>c::c4 [13] r 0:=λr=>by show(match(match Nat.beq 13 c with|true=>true|false=>false)with|true=>10::c4 [13] r 0|false=>c::c4 [13] r 0)=_;cases Nat.beq 13 c<;>rfl
  refine Y kc<|Y (e ..)<|Y (e ..)<|Y (f) ?_;cases Nat.beq 13 c<;>rfl
def tw(a b:List Nat):Prop:=b2 a [13]=false\/∀r,b≠10::r
def n3:b2 (u++x::c) [13]=b2 (x::c) [13]:=by unfold b2;exact Y r2<|kJ<|by refine Y fS<|Y fS ?_;exact bR 1 c.length
def zk:b2 (c::x::a) [13]=b2 (x::a) [13]:=n3 (u:=[c])
def PA(c):b2 [c] [13]=Nat.beq 13 c:=by show(match Nat.beq 13 c with|true=>true|false=>false)=_;cases Nat.beq 13 c<;>rfl
theorem yh(b):∀a,tw a b->c4 [13,10] (a++b) 0=c4 [13,10] a 0++c4 [13,10] b 0
 |[],_=>rfl
 |[c],h=>by
  have e1:c4 [13,10] [c] 0=[c]:=by show(match(match Nat.beq 13 c with|true=>false|false=>false)with|true=>[10]|false=>[c])=_;cases Nat.beq 13 c<;>rfl
  refine Y e1 ?_;show(match(match Nat.beq 13 c with|true=>pre [10] b|false=>false)with|true=>10::c4 [13,10] b 1|false=>c::c4 [13,10] b 0)=_;rcases f:Nat.beq 13 c;rfl
  .have h:=h.resolve_left λC=>by rw[PA,f]at C;exact ff (C.symm)
   rcases b with _|⟨x,r⟩;rfl;show(match(match Nat.beq 10 x with|true=>true|false=>false)with|true=>10::c4 [13,10] (x::r) 1|false=>c::c4 [13,10] (x::r) 0)=_;rcases aE:Nat.beq 10 x;rfl;exact absurd (az (·::r) (cd aE).symm)<|h r
 |c::d::a,h=>by
  have e:∀r:List Nat,c4 [13,10] (c::d::r) 0=match Nat.beq 13 c&&Nat.beq 10 d with|true=>10::c4 [13,10] r 0|false=>c::c4 [13,10] (d::r) 0:=λr=>by show(match(match Nat.beq 13 c with|true=>(match Nat.beq 10 d with|true=>true|false=>false)|false=>false)with|true=>10::c4 [13,10] r 0|false=>c::c4 [13,10] (d::r) 0)=_;cases Nat.beq 13 c<;>cases Nat.beq 10 d<;>rfl
  have j:tw (d::a) b:=h.imp (λC=>zk.symm.trans C) id;refine Y (show c::d::a++b=c::d::(a++b) from rfl)<|Y (e ..)<|Y (e ..) ?_;rcases f:Nat.beq 13 c&&Nat.beq 10 d;exact az (c::·)<|yh b (d::a) j;have hd:10=d:=cd (cY.mp f).2;refine(az (10::·) (yh b a<|j.imp (λC=>?_) id):_);rcases a with _|⟨x,a⟩;rfl;exact zk.symm.trans C
def nG(h:tw a b):a' (a++b)=a' a++a' b:=Y (sZ ..)<|Y (sZ ..)<|Y (sZ ..)<|Y (yh b a h)<|Y (NZ ..) rfl
abbrev hd(u:List Nat):List Nat:=fL [] u
abbrev fd(u:List Nat):List Nat:=a'<|bW [] u
def MU(u c):fL (hd u) c=hd (u++c):=by
 show aB (b2 (aB (b2 u [13]) [13] []++c) [13]) [13] []=aB (b2 (u++c) [13]) [13] [];rcases c with _|⟨x,c⟩;refine Y (be ..) (Y (be ..) ?_);cases b2 u [13]<;>rfl
 exact Y n3<|Y n3 rfl
def Qp(h:b2 u [13]=true):u=u.dropLast++[13]:=by unfold b2 at h;have:=iM.mp h;revert this;rcases f:u.reverse with _|⟨x,r⟩;intro this;cases this;intro this;have aE:x=13:=(dZ this).1;have e:=az List.reverse f;rw[List.reverse_reverse,nc,aE]at e;exact Y e<|Y List.dropLast_concat rfl
def yr(u c):fd (u++c)=fd u++a' (bW (hd u) c):=by
 show a' (aB (b2 (u++c) [13]) (u++c).dropLast<|u++c)=a' (aB (b2 u [13]) u.dropLast u)++a' (aB (b2 (aB (b2 u [13]) [13] []++c) [13]) (aB (b2 u [13]) [13] []++c).dropLast<|aB (b2 u [13]) [13] []++c);rcases c with _|⟨x,c⟩;refine Y (be ..) (Y (be ..) ?_);rcases h:b2 u [13];show a' u=a' u++[];exact Y (be ..) rfl;show a' u.dropLast=a' u.dropLast++[];exact Y (be ..) rfl
 .refine Y n3 (Y n3 ?_);have nil:(x::c)≠[]:=λC=>nomatch C;rcases h:b2 u [13];rcases b2 (x::c) [13];exact nG<|.inl h;exact(az a'<|List.dropLast_append_of_ne_nil nil).trans<|nG<|.inl h
  .have e:=Qp h;have no:∀y:List Nat,tw u.dropLast (13::y):=λy=>.inr λr C=>nomatch(dZ C).1;rcases b2 (x::c) [13]
   .show a' (u++x::c)=a' u.dropLast++a' (13::x::c);refine Y (nG<|no _).symm ?_;conv=>lhs;rw[e]
    exact Y (br ..) rfl
   .show a' (u++x::c).dropLast=a' u.dropLast++a' (13::x::c).dropLast;refine Y (List.dropLast_append_of_ne_nil nil)<|Y (show(13::x::c).dropLast=13::(x::c).dropLast from rfl)<|Y (nG<|no _).symm ?_;conv=>lhs;rw[e]
    exact Y (br ..) rfl
noncomputable def je:List (List Nat):=[[60,97,62],
 [60,97,62,120,121],
 [60,97,32,98,61,39,99,39,62,60,100,47,62]]
noncomputable def ft:List (List Nat×Nat):=[([101,1,60,47,97,62],1),
 ([38,35,48,59,60,47,97,62],0),
 ([60,102,32,103,61,39,104,38,35,120,68,59,38,35,53,59,39,47,62,60,47,97,62],12),
 ([60,47,103,62,60,47,97,62],0),
 ([60,47,97,62,60,97,47,62],4),
 ([60,33,105,62,60,47,97,62],0),
 ([60,106,32,107,61,39,49,39,32,107,61,39,50,39,47,62,60,47,97,62],9),
 ([93,93,62,60,47,97,62],0),
 ([60,47,97,62,32,108],5),
 ([60,47,97,62,10,60,33,91,67,68,65,84,65,91,93,93,62],5)]
noncomputable def bA:List (List Nat)->List V|[]=>[]|x::l=>.str x::bA l
noncomputable def fb:List (List Nat×Nat)->List V|[]=>[]|p::l=>.tup [.str p.1,.int p.2]::fb l
section
variable{O:ap}{pl:Nat}
def NX(aw:O none (.fn 1095) [.ref 0,.ref 1] [aY a b,.list<|bA je]=some (.ok (.str h) [aY a1 b1,.list<|bA je]))(aG:O none (.fn 1095) [.ref 0,.ref 4] [aY a1 b1,.list<|bA je,.list<|fb<|ft.take 5,.list<|fb<|(ft.drop 5).take 4,.list<|fb ft]=some (.ok (.tup [.str k,.int pl]) [aY a2 u,.list<|bA je,.list<|fb<|ft.take 5,.list<|fb<|(ft.drop 5).take 4,.list<|fb ft]))(f:h.length+k.length<=1000000):Do j O 1119 [.ref 0] [aY a b] (.tup [.str<|h++k,.int (h.length+pl:Nat)]) [aY a2 u,.list<|bA je,.list<|fb<|ft.take 5,.list<|fb<|(ft.drop 5).take 4,.list<|fb ft]:=by have e:=jy (x:=h) (y:=k) (H:=[aY a2 u,.list<|bA je,.list<|fb<|ft.take 5,.list<|fb<|(ft.drop 5).take 4,.list<|fb ft]) f;clear f;exact am [(hW,V.ref 0)] rfl<|sk 2<|aj Q.m aw rfl<|sk 11<|aj Q.m aG rfl<|sk 3<|aj Q.m e rfl rfl
end
section
variable{sem:g7}
def QF:∀n{st nm u p l f},u.length<=n->u.length<200->cr sem st nm u p=some (.ok l f)->bK f.r .no false=(none,0,f.s)/\f.r.length<=u.length:=by
 intro n;induction n with
 |zero=>intro st nm u p l f D _ h;obtain rfl:u=[]:=q4.mp<|Nat.le_zero.mp D;refine zo (aQ<|(kt (sem:=sem) rfl rfl).symm.trans h) λN O=>?_;subst N O;exact⟨rfl,ba _⟩
 |succ n J=>
  intro st nm u p l f D hl h;refine dd (show b6 (c7 u .no) _=_ from h) λo _=>?_;match ht:bK u .no false with
  |(none,e,s)=>refine zo (aQ<|(kt (sem:=sem) o ht).symm.trans h) λT U=>?_;subst T U;have C:=(w' (E:=false) o).2.1;rw[ht]at C;obtain rfl:e=0:=C rfl;exact⟨ht,ba _⟩
  |(some kd,e,s)=>have x:=sy ht;rw[qW hl o ht]at h;refine aK h λI _ h=>?_;rcases I with⟨l0,ab,aa⟩|pl;refine dd h λ_ h=>aK h λy k h=>?_;rcases y with⟨l1,ae⟩|pl;refine zo (aQ h) λ_ W=>?_;subst W;have ld:(u.drop e).length=u.length-e:=b9;exact aS (J (Y ld<|Nat.sub_le_of_le_add<|av D<|e3 x n) (cS hl (a4 ld) (gq u.length e)<|by simp+arith) k) λj z=>⟨j,by exact cS (a4 ld) z (gq u.length e)<|by simp+arith⟩;exact nomatch aQ h;exact nomatch aQ h
def Hu{st:Nat}(h:bK r .no false=(none,0,s))(e:cr sem st nm (r++c) p=some o):dT sem false 200 ⟨st,nm,r++c,s,p⟩=some o:=by refine aS (Lb (v:=c) h) λk j=>dd (show b6 (c7 (r++c) .no) (kQ sem (dT sem false 199) ⟨st,nm,r++c,.no,p⟩<|bK (r++c) .no false)=some o from e) λb e=>?_;show b6 (c7 (r++c) s) (kQ sem (dT sem false 199) ⟨st,nm,r++c,s,p⟩<|bK (r++c) s false)=some o;exact Y (j b)<|Y k e
end
def Mh{z g:cb->cb}(h:(some o).map z=a.map g):∃x,a=some x/\z o=g x:=by rcases a with _|x;cases h;exact⟨x,rfl,aQ h⟩
def PY(hl:(fd<|u++c).length<200)(h:cr c3 0 [] (fd u) 0=some (.ok l f))(j:cr c3 0 [] (fd<|u++c) 0=some o'):∃o,dT c3 false 200 ⟨f.st,f.nm,f.r++a' (bW (hd u) c),f.s,f.p⟩=some o/\o'.dG=(o.add l).dG/\(f.r++a' (bW (hd u) c)).length<200:=by rw[yr]at j hl;rw[a0]at hl;refine aS (QF (fd u).length (ba _) (aR hl<|by simp+arith) h) λx y=>?_;have s:=split y7 zT (v:=a'<|bW (hd u) c) (fd u).length (ba _) hl h;unfold jF at s;rw[j]at s;exact aZ (Mh s) λo e1 k=>⟨o,Hu x e1,k,by refine Y a0 ?_;exact a7 hl y<|by simp+arith⟩
def yX(x:List Nat)(pl i:Nat):Bool:=match cr c3 0 [] (fd<|x.take i) 0 with
 |none=>false
 |some o=>match o with|.ok _ _=>Nat.blt i x.length|.bad q=>Nat.beq q pl
noncomputable def m9(z:Nat->Bool):Nat->Bool|0=>z 0|i+1=>z (i+1)&&m9 z i
noncomputable def allB{f:Type}(z:f->Bool):List f->Bool|[]=>true|a::l=>z a&&allB z l
def nT(x:List Nat)(pl:Nat):Bool:=m9 (yX x pl) x.length&&m9 (λi=>Nat.blt (fd<|x.take i).length 200) x.length&&Nat.ble x.length 200
def v'(f:List Nat)(w:List Nat×Nat):Bool:=nT (f++w.1)<|f.length+w.2
def E8(f:List Nat):Bool:=allB (v' f) ft
def NY:allB E8 je=true:=by decide+kernel
def wF:∀{n i},m9 z n=true->i<=n->z i=true:=by
 intro n;induction n with
 |zero=>intro i h y;obtain rfl:=Nat.le_zero.mp y;exact h
 |succ n f=>intro i h y;refine zb (show(z (n+1)&&m9 z n)=true from h) λk j=>?_;rcases dJ i (n+1)with q|q;exact f j<|eZ q;exact Y (cf y q) k
theorem iS:∀{l a},allB z l=true->a∈l->z a=true|b::l,a,h,m=>by refine zb (show(z b&&allB z l)=true from h) λk j=>?_;rcases bC.mp m with rfl|m;exact k;exact iS j m
def Bn(h:nT x pl=true)(e:u++v=x):((∃l f,cr c3 0 [] (fd u) 0=some (.ok l f))/\v≠[]\/cr c3 0 [] (fd u) 0=some (.bad pl))/\(fd u).length<200:=by
 refine zb h λh z=>zb h λk j=>?_;have y:u.length<=x.length:=by refine Y e.symm<|Y a0 ?_;exact bE ..
 have ht:x.take u.length=u:=Y e.symm<|Y sd rfl;have a:=wF k y;have b:=wF j y;rw[ht]at b;refine⟨?_,bG b⟩;unfold yX at a;rw[ht]at a;rcases D:cr c3 0 [] (fd u) 0 with _|o;rw[D]at a;cases a;rw[D]at a;rcases o with⟨l,f⟩|q;refine .inl ⟨⟨l,f,rfl⟩,λC=>?_⟩;rw[C,be]at e;have a:Nat.blt u.length x.length=true:=a;rw[<-e]at a;exact oj _<|bG a;exact .inr<|az (λn=>some<|cb.bad n)<|cd<|show Nat.beq q pl=true from a
noncomputable def et:List (List Nat×List Nat):=[([120],[120]),
 ([38,97,109,112,59],[38]),
 ([60,33,91,67,68,65,84,65,91,60,121,62,93,93,62],[60,121,62]),
 ([38,35,54,53,59],[65]),
 ([93,93],[93,93]),
 ([13,10,122],[10,122])]
noncomputable def iU:List (List Nat×List Nat)->List V|[]=>[]|p::l=>.tup [.str p.1,.str p.2]::iU l
abbrev mE(x y:List Nat)(tl:Loc):Loc:=(hW,.ref 0)::(bb,.str x)::(jK,.str y)::tl
section
variable{O:ap}{G:aq}
def Tq(aP:Nat.blt k n=true)(aw:O none (.fn 1095) [.ref 0,.ref<|G.length+1] (aY a b::(G++[.list<|iU et]))=some (.ok (.tup [.str p,.str q])<|aY a1 b1::(G++[.list<|iU et])))(f:x.length+p.length<=1000000)(h:y.length+q.length<=1000000):bu O (j+40) 1126 1 (.an 0 (n:Nat)) k (mE x y tl) (aY a b::G)=bu O (j+39) 1126 1 (.an 0 (n:Nat)) (k+1) (mE (x++p) (y++q)<|put io (.tup [.str p,.str q])<|put xp (.ref<|G.length+1)<|put nX (.int k) tl) (aY a1 b1::(G++[.list<|iU et])):=by
 have u:dC (.an 0 (n:Nat)) k (aY a b::G)=some (some<|.int k):=by have e:(0:Int)+(k:Int)=(k:Int):=oi _;show some (match du (0+(k:Int)) (n:Nat)with|true=>some (V.int<|0+(k:Int))|false=>none)=_;refine Y e ?_;show some (match Nat.blt k n with|true=>_|false=>none)=_;exact Y aP rfl
 have D:=el (x:=xp) (v:=.ref<|G.length+1) (l:=put nX (.int k) tl);have z:=el (x:=io) (v:=.tup [.str p,.str q]) (l:=put xp (.ref<|G.length+1)<|put nX (.int k) tl);have e1:=jy (x:=x) (y:=p) (H:=aY a1 b1::(G++[.list<|iU et])) f;have C:=jy (x:=y) (y:=q) (H:=aY a1 b1::(G++[.list<|iU et])) h;clear aP f h;exact fc u<|sk 4<|aj Q.v D rfl<|aj Q.m aw rfl<|sk 2<|aj Q.v z rfl<|sk 1<|aj Q.m e1 rfl<|sk 1<|aj Q.v z rfl<|sk 1<|aj Q.m C rfl rfl
end
def DE{Z:aq}(f:Z[k]? =some (.list a))(h:Z[k2]? =some (.list b))(j:cq (a.length+b.length)=true):bin .Add (.ref<|k+1) (.ref<|k2+1) (o::Z)=some (.ok (.ref<|Z.length+1)<|o::(Z++[.list<|a++b])):=by show ob (dn Z[k]?) _=_;refine Y f ?_;show ob (dn Z[k2]?) _=_;refine Y h ?_;show as (cq<|a.length+b.length) _=_;exact Y j rfl
def Fv{G:aq}:(G++[o]++[b])[G.length]? =some o:=by refine Y (br ..) ?_;exact iK
noncomputable def docOf(x:List Nat):List Nat:=[60,97,62]++x++[60,98,47,62]++x++[60,47,97,62]
noncomputable def eP(y:List Nat):List cL:=[.ot<|.st [97] [],.tx y,.ot<|.st [98] [],.ot<|.en [98],.tx y,.ot<|.en [97]]
section
variable{O:ap}{y:List Nat}{G:aq}
abbrev ga(y:List Nat):au:=.list<|aD [.tx y,.ot<|.st [98] [],.ot<|.en [98],.tx y]
abbrev ls:au:=.list<|aD [.ot<|.st [97] []]
abbrev bp:au:=.list<|aD [.ot<|.en [97]]
def Uc(m:O none (.fn 1088) [.ref 0,.int ((5:Nat):Int)] [aY a b]=some (.ok (.int (n:Nat)) [aY a1 b1]))(g:bP tab O none (.blt .range) [.int (1+n:Nat)] [aY a1 b1]=some (.ok (.an 0 (1+n:Nat)) [aY a1 b1]))(h:eX (.an 0 (1+n:Nat)) [aY a1 b1]=true)(l:bu O (j+59) 1126 1 (.an 0 (1+n:Nat)) 0 (mE [] [] []) [aY a1 b1]=some (.ok .next (mE x y tl)<|aY a2 c2::G))(aE:x.length<=1000):Do j O 1126 [.ref 0] [aY a b] (.tup [.str<|docOf x,.ref<|(G++[ga y]++[ls]++[au.list<|aD [.ot<|.st [97] [],.tx y,.ot<|.st [98] [],.ot<|.en [98],.tx y]]++[bp]).length+1]) (aY a2 c2::(G++[ga y]++[ls]++[au.list<|aD [.ot<|.st [97] [],.tx y,.ot<|.st [98] [],.ot<|.en [98],.tx y]]++[bp]++[au.list<|aD<|eP y])):=by
 have s:=el (x:=Bc) (v:=.ref<|G.length+1) (l:=tl);have b1:=DE (o:=aY a2 c2) (Z:=G++[ga y]++[ls]) (k:=(G++[ga y]).length) (k2:=G.length) cX Fv rfl;have f:=DE (o:=aY a2 c2) (Z:=G++[ga y]++[ls]++[au.list<|aD [.ot<|.st [97] [],.tx y,.ot<|.st [98] [],.ot<|.en [98],.tx y]]++[bp]) (k:=(G++[ga y]++[ls]).length) (k2:=(G++[ga y]++[ls]++[au.list<|aD [.ot<|.st [97] [],.tx y,.ot<|.st [98] [],.ot<|.en [98],.tx y]]).length) Fv cX rfl;have e1:=jy (x:=[60,97,62]) (y:=x) (H:=aY a2 c2::(G++[ga y]))<|by simp;exact aR aE<|by simp+arith
 have u:=jy (x:=[60,97,62]++x) (y:=[60,98,47,62]) (H:=aY a2 c2::(G++[ga y]))<|by simp;exact av ‹_›<|by decide
 have z:=jy (x:=[60,97,62]++x++[60,98,47,62]) (y:=x) (H:=aY a2 c2::(G++[ga y]))<|by simp;exact a7 aE aE<|by simp+arith
 have C:=jy (x:=[60,97,62]++x++[60,98,47,62]++x) (y:=[60,47,97,62]) (H:=aY a2 c2::(G++[ga y]))<|by simp;exact a7 aE aE<|by simp+arith
 clear aE;exact am [(hW,V.ref 0)] rfl<|sk 4<|aj Q.m m rfl<|sk 1<|aj Q.m g rfl<|aj Q.b h rfl<|aj Q.s l rfl<|sk 4<|aj Q.m e1 rfl<|aj Q.m u rfl<|sk 1<|aj Q.m z rfl<|aj Q.m C rfl<|aj Q.v s rfl<|aj Q.m b1 rfl<|aj Q.m f rfl rfl
end
theorem D0:∀{a b},ir a=ir b->a=b|[],[],_=>rfl|[],_::_,h=>nomatch h|_::_,[],h=>nomatch h|p::a,q::b,h=>by refine aS (dZ h) λk j=>?_;have k:=V.tup.inj k;have e1:=V.str.inj (dZ k).1;have f:=V.str.inj (dZ (dZ k).2).1;exact Y (D0 j)<|Y (show p=q from Prod.ext e1 f) rfl
def SH:∀{a b:cL},a.aA=b.aA->a=b
 |.tx _,.tx _,h=>az cL.tx<|V.str.inj (dZ (dZ<|V.tup.inj h).2).1
 |.tx _,.ot (.st ..),h=>nomatch V.str.inj (dZ<|V.tup.inj h).1|.tx _,.ot (.en _),h=>nomatch V.str.inj (dZ<|V.tup.inj h).1|.ot (.st ..),.tx _,h=>nomatch V.str.inj (dZ<|V.tup.inj h).1|.ot (.en _),.tx _,h=>nomatch V.str.inj (dZ<|V.tup.inj h).1|.ot (.st ..),.ot (.en _),h=>nomatch V.str.inj (dZ<|V.tup.inj h).1|.ot (.en _),.ot (.st ..),h=>nomatch V.str.inj (dZ<|V.tup.inj h).1|.ot (.en _),.ot (.en _),h=>Y (V.str.inj (dZ (dZ<|V.tup.inj h).2).1) rfl|.ot (.st _ l),.ot (.st _ k),h=>by have h:=(dZ<|V.tup.inj h).2;exact Y (V.str.inj (dZ h).1)<|Y (D0<|V.tup.inj (dZ (dZ h).2).1) rfl
theorem Cn:∀{a b},aD a=aD b->a=b|[],[],_=>rfl|[],_::_,h=>nomatch h|_::_,[],h=>nomatch h|p::a,q::b,h=>by exact aS (dZ h) λk j=>Y (SH k)<|Y (Cn j) rfl
def SE{st:Nat}{tx:List Nat}(h:c3 st nm kd tx q=some (.ok l ae u)):c3 st nm kd tx (p+q)=some (.ok l ae u):=by refine dd h λg h=>(n4 g).trans ?_;revert h;rcases ar kd cP;rcases Nat.beq st 2;intro h;refine dd h λg h=>(n4 g).trans ?_;revert h;rcases Nat.beq st 0;intro h;refine dd h λg h=>(n4 g).trans ?_;revert h;rcases ar kd ao;intro h;exact dd h λ_ h=>nomatch aQ h;intro h;refine dd h λg h=>(n4<|dw<|cu (s6 g)<|bR ..).trans ?_;rcases f:cD dH tx with _|i;rw[f]at h;exact h;rw[f]at h;exact nomatch aQ h;exact id;intro h;refine aK (show ob (rd nm kd tx) (λe=>some<|e.hN q)=_ from h) λe he h=>?_;show ob (rd nm kd tx) (λe=>some<|e.hN<|p+q)=_;refine Y he ?_;rcases e with⟨l,nm⟩|pl;exact h;exact nomatch aQ h;exact λh=>nomatch aQ h
def B8:∀{n st q nm r s l f},dT c3 false n ⟨st,nm,r,s,q⟩=some (.ok l f)->dT c3 false n ⟨st,nm,r,s,p+q⟩=some (.ok l ⟨f.st,f.nm,f.r,f.s,p+f.p⟩):=by
 intro n;induction n with
 |zero=>exact λh=>nomatch h|succ n y=>intro st q nm r s l f h;refine dd h λg h=>(n4 g).trans ?_;generalize bK r s false=t at h;obtain⟨o,e,J⟩:=t;rcases o with _|kd;refine zo (aQ h) λD E=>?_;subst D E;rfl;refine aK (show ob (c3 st nm kd (r.take e) q) _=_ from h) λu he h=>?_;rcases u with⟨O,C,z⟩|pl;refine dd h λx h=>aK h λj k h=>?_;rcases j with⟨T,U⟩|pl;refine zo (aQ h) λI N=>?_;subst I N;show ob (c3 st nm kd (r.take e)<|p+q) _=_;refine Y (SE he)<|(n4 x).trans ?_;show ob (dT c3 false n ⟨C,z,r.drop e,.no,p+q+e⟩) _=_;exact Y (cz ..)<|Y (y k) rfl;exact nomatch aQ h;exact nomatch aQ h
noncomputable def mH(r:List Nat):List cL:=match r with|[]=>[]|a::r=>[.tx<|a::r]
def JE(a b:List cL):Prop:=aJ a []=aJ b []
structure iN(st:Nat)(nm:List V)(r y:List Nat)(U:List cL)(ae:Nat)(u:List V)(r':List Nat):Prop where
 pre:∀p y1 y2,y=y1++y2->∃l f,cr c3 st nm (r++y1) p=some (.ok l f)
 all:∀p,∃l f,cr c3 st nm (r++y) p=some (.ok l f)/\(f.st=ae/\f.nm=u/\f.r=r')/\JE (l++mH r') (mH r++U)
noncomputable def HR:Option cb->Bool|none=>false|some o=>match o with|.ok _ _=>true|.bad _=>false
def p4(st:Nat)(nm:List V)(r y:List Nat)(U:List cL)(ae:Nat)(u:List V)(h:List Nat):Bool:=m9 (λi=>HR<|cr c3 st nm (r++y.take i) 0) y.length&&match cr c3 st nm (r++y) 0 with
 |none=>false
 |some o=>match o with|.bad _=>false|.ok l f=>Nat.beq f.st ae&&(gQ f.nm u&&(ar f.r h&&gQ (aD<|aJ (l++mH h) []) (aD<|aJ (mH r++U) [])))
def s3{st:Nat}(h:p4 st nm r y U ae u x=true):iN st nm r y U ae u x:=by refine zb h λk j=>⟨λp C N e=>?_,λp=>?_⟩;have a:=wF k (i:=C.length) (by refine Y e<|Y a0 ?_;exact bE ..);rw[e,sd]at a;rcases z:cr c3 st nm (r++C) 0 with _|o;rw[z]at a;exact ff a;rw[z]at a;rcases o with⟨l,f⟩|q;exact⟨l,_,B8 (p:=p) z⟩;exact ff a;rcases z:cr c3 st nm (r++y) 0 with _|o;rw[z]at j;exact ff j;rw[z]at j;rcases o with⟨l,f⟩|q;exact zb j λD q=>zb q λE q=>zb q λI J=>⟨l,_,B8 (p:=p) z,⟨cd D,k5 E,hT I⟩,Cn<|k5 J⟩;exact ff j
section
variable{st:Nat}
def Hb{z g:cb->cb}(h:a.map z=(some x).map g):∃o,a=some o/\z o=g x:=by rcases a with _|o;exact aW h;exact⟨o,rfl,aQ h⟩
def iN.cat(a:iN st nm r y U ae u C)(b:iN ae u C D E N I J)(hl:r.length+y.length+D.length<200):iN st nm r (y++D) (U++E) N I J:=by
 have go:∀(p:Nat)(w:List Nat),w.length<=D.length->∃(l:List cL)(f:ju),(f.st=ae/\f.nm=u/\f.r=C)/\JE (l++mH C) (mH r++U)/\∀W O,cr c3 ae u (C++w) f.p=some (.ok W O)->∃l3,cr c3 st nm (r++(y++w)) p=some (.ok l3 O)/\aJ l3 []=aJ (l++W) []:=λp w z=>by refine fi (a.all p) λl f k af x=>aS af λag ah=>?_;subst ag;refine aS ah λai aj=>?_;subst ai aj;refine⟨l,f,⟨rfl,rfl,rfl⟩,x,λW O h4=>?_⟩;have s:=split y7 zT (v:=w) (r++y).length (ba _) (by refine Y a0 ?_;exact a7 hl z<|by simp+arith) k;unfold jF at s;rw[h4,br]at s;refine aZ (Hb s) λo e1 T=>?_;rcases o with⟨l3,ak⟩|q;refine zo T λe3 ab=>?_;subst ab;exact⟨l3,e1,e3⟩;cases T
 refine⟨λp y1 y2 e=>?_,λp=>?_⟩;rcases List.append_eq_append_iff.mp e with⟨w,rfl,T⟩|⟨w,T,_⟩;refine fi (go p w<|by refine Y T<|Y a0 ?_;exact bE ..) λl f _ _ h=>?_;exact hv (b.pre f.p w y2 T) λW O j=>aZ (h W O j) λl3 x _=>⟨l3,O,x⟩;exact a.pre p y1 w T;refine fi (go p D<|ba _) λl f _ hj h=>fi (b.all f.p) λW O j x aa=>aZ (h W O j) λl3 h4 h5=>⟨l3,O,h4,x,?_⟩;unfold JE at hj aa⊢;exact Y (lj l3 ..).symm<|Y h5<|Y (lj ..)<|Y (br ..)<|Y (ni l ..).symm<|Y aa<|Y (ni ..)<|Y (br ..).symm<|Y (lj (l++mH C) ..).symm<|Y hj<|Y (lj ..)<|Y (br ..) rfl
end
def pS(t:List Nat):List Nat:=aB (ar t [93,93]) [93,93] []
noncomputable def mj:List (List Nat):=[[],[93,93]]
def xQ(r:List Nat)(t:List Nat×List Nat):Bool:=p4 2 nA r (a' t.1) [.tx t.2] 2 nA<|pS t.1
def Fo(r:List Nat):Bool:=allB (xQ r) et
def S7:allB Fo mj=true:=by decide+kernel
def rr(r:List Nat):Bool:=p4 2 nA r [60,98,47,62] [.ot<|.st [98] [],.ot<|.en [98]] 2 nA []&&p4 2 nA r [60,47,97,62] [.ot<|.en [97]] 3 [] []
def z1:allB rr mj=true:=by decide+kernel
def Q2:p4 0 [] [] [60,97,62] [.ot<|.st [97] []] 2 nA []=true:=by decide+kernel
def tokB(t:List Nat×List Nat):Bool:=Nat.ble (a' t.1).length 15&&(Nat.ble t.1.length 15&&(!b2 t.1 [13]&&(match t.1 with|[]=>false|c::_=>!Nat.beq c 10)&&!dB t.2))
def OH:allB tokB et=true:=by decide+kernel
noncomputable def cO:List (List Nat×List Nat)->List Nat|[]=>[]|t::l=>t.1++cO l
noncomputable def d4:List (List Nat×List Nat)->List Nat|[]=>[]|t::l=>t.2++d4 l
noncomputable def iE:List (List Nat×List Nat)->List Nat|[]=>[]|t::l=>a' t.1++iE l
noncomputable def gb:List (List Nat×List Nat)->List cL|[]=>[]|t::l=>.tx t.2::gb l
def Is(t):pS t∈mj:=by unfold pS;rcases ar t [93,93];exact .head _;exact .tail _<|.head _
def Kf{st:Nat}(h:r∈mj):iN st nm r [] [] st nm r:=by
 have j:bK r .no false=(none,0,.no)/\c7 r .no=true:=by rcases bC.mp h with rfl|h;exact⟨rfl,rfl⟩;rcases bC.mp h with rfl|h;exact⟨rfl,rfl⟩;cases h
 refine⟨λp f k e=>?_,λp=>?_⟩
 .have:f=[]:=by induction f using List.casesOn with|nil=>rfl|cons=>cases e
  exact Y this<|Y (be ..)<|mC _ _<|kt j.2 j.1
 exact Y (be ..)<|Y (be ..)<|pQ _ _ (kt j.2 j.1) ⟨rfl,rfl,rfl⟩ rfl
def vn(h:r∈mj):r.length<=2:=by rcases bC.mp h with rfl|h;exact bJ _;rcases bC.mp h with rfl|h;exact ba _;cases h
def r4(h:t∈et):(a' t.1).length<=15/\t.1.length<=15/\b2 t.1 [13]=false/\(∀r,t.1≠10::r)/\t.1≠[]/\t.2≠[]:=by have k:tokB t=true:=iS OH h;unfold tokB at k;refine zb k λj a=>zb a λy a=>zb a λa u=>zb a λz f=>AP (bG j) (bG y) (ny z) (λr e=>?_) (λe=>?_) λe=>?_;rw[e]at f;exact ff f;rw[e]at f;exact ff f;rw[e]at u;exact ff u
def tP:∀{l},(∀t∈l,t∈et)->(iE l).length<=15*l.length/\(cO l).length<=15*l.length:=by
 intro l;induction l with
 |nil=>intro _;exact⟨bJ _,bJ _⟩
 |cons t l k=>intro h;refine aS (k λu m=>h u<|.tail _ m) λj y=>cZ (r4<|h t<|.head _) λz f _=>?_;show(a' t.1++iE l).length<=_/\(t.1++cO l).length<=_;exact Y a0<|Y a0<|Y cB ⟨by exact a7 j z (by simp+arith),by exact a7 y f<|by simp+arith⟩
def Cu:∀{l r},(∀t∈l,t∈et)->r∈mj->l.length<=5->∃x,x∈mj/\iN 2 nA r (iE l) (gb l) 2 nA x:=by
 intro l;induction l with
 |nil=>intro r _ f _;exact⟨r,f,Kf f⟩
 |cons t l C=>
  intro r h f hl;refine aZ (C (r:=pS t.1) (λu m=>h u<|.tail _ m) (Is t.1)<|mB hl) λx j y=>?_;have k:Fo r=true:=iS S7 f;have k2:xQ r t=true:=iS (z:=xQ r) k<|h t<|.head _;have a:iN 2 nA r (a' t.1) [.tx t.2] 2 nA (pS t.1):=s3 k2;have z:iN 2 nA r (a' t.1++iE l) ([.tx t.2]++gb l) 2 nA x:=a.cat y<|e9 (mO (mO (vn f) (r4<|h t<|.head _).1)<|av (tP λu m=>h u<|.tail _ m).1<|eg 15<|mB hl)<|by decide
  exact a9 x j z
def CC(h:∀t∈l,t∈et)(k:∀r,y≠10::r):∀r,cO l++y≠10::r:=by
 rcases l with _|⟨t,l⟩;exact k
 .refine wj (r4<|h t<|.head _) λ_ _ _ f j _=>?_;intro r e;have e:t.1++(cO l++y)=10::r:=by refine Y (br ..).symm ?_;exact e
  rcases ht:t.1 with _|⟨c,q⟩;exact j ht;rw[ht]at e;exact f q<|Y ht<|Y ((dZ e).1) rfl
def M2:∀{l y},(∀t∈l,t∈et)->(∀r,y≠10::r)->a' (cO l++y)=iE l++a' y:=by
 intro l;induction l with
 |nil=>intro _ _ _;exact rfl
 |cons t l j=>intro y h f;show a' (t.1++cO l++y)=a' t.1++iE l++a' y;exact Y (br ..)<|Y (nG<|.inr<|CC (λu m=>h u<|.tail _ m) f)<|Y (j (λu m=>h u<|.tail _ m) f)<|Y (br ..) rfl
def yT:∀l k N,aJ (gb l++k) N=aJ k (N++l.map (·.2)):=by
 intro l;induction l with
 |nil=>intro k N;exact Y List.map_nil<|Y (be ..) rfl
 |cons t l f=>intro k N;exact(f k<|N++[t.2]).trans<|by exact Y (br ..) rfl
def J7:∀l,jn [] (l.map (·.2))=d4 l:=by
 intro l;induction l with
 |nil=>exact rfl|cons t l f=>exact Y hI<|Y (k7 ..)<|Y (f) rfl
def Cm(h:∀t∈l,t∈et)(f:∀r,W≠10::r):a' (A++(cO l++W))=a' A++(iE l++a' W):=Y (nG<|.inr<|CC h f)<|Y (M2 h f) rfl
def RP(C:l≠[]):aJ ([.ot a]++(gb l++([.ot b,.ot c]++(gb l++[.ot d])))) []=[.ot a,.tx<|d4 l,.ot b,.ot c,.tx<|d4 l,.ot d]:=by
 have e:dA (l.map (·.2))=[.tx<|d4 l]:=by rcases l with _|⟨t,l⟩;exact absurd rfl C;exact az (λx=>[cL.tx x])<|J7<|t::l
 have j:=yT l [.ot d] [];have y:=yT l (.ot b::.ot c::(gb l++[.ot d])) [];have z:aJ [.ot d] ([]++l.map (·.2))=dA (l.map (·.2))++[.ot d]:=rfl;have h:aJ (.ot b::.ot c::(gb l++[.ot d])) ([]++l.map (·.2))=dA (l.map (·.2))++.ot b::.ot c::aJ (gb l++[.ot d]) []:=rfl;have f:aJ ([.ot a]++(gb l++([.ot b,.ot c]++(gb l++[.ot d])))) []=.ot a::aJ (gb l++(.ot b::.ot c::(gb l++[.ot d]))) []:=rfl;exact Y f<|Y y<|Y h<|Y j<|Y z<|Y e rfl
def Oa(h:∀t∈l,t∈et)(hl:l.length<=5)(C:l≠[]):hd (docOf<|cO l)=[]/\(∀u v,u++v=docOf (cO l)->(∃k f,cr c3 0 [] (fd u) 0=some (.ok k f))/\(fd u).length<200)/\∃k s p,cr c3 0 [] (fd<|docOf<|cO l) 0=some (.ok k ⟨3,[],[],s,p⟩)/\aJ k []=eP (d4 l):=by
 have J:b2 (docOf<|cO l) [13]=false:=n3 (u:=[60,97,62]++cO l++[60,98,47,62]++cO l) (x:=60) (c:=[47,97,62]);have T:∀{x:List Nat}(r:List Nat),60::x≠10::r:=λr e=>nomatch(dZ e).1;have I:fd (docOf<|cO l)=[60,97,62]++(iE l++([60,98,47,62]++(iE l++[60,47,97,62]))):=by
  show a' (aB (b2 (docOf<|cO l) [13]) _<|docOf<|cO l)=_;refine Y J ?_;have e:docOf (cO l)=[60,97,62]++(cO l++([60,98,47,62]++(cO l++[60,47,97,62]))):=by unfold docOf;exact Y (br ..)<|Y (br ..)<|Y (br ..) rfl
  show a' (docOf<|cO l)=_;have w1:∀r,[60,47,97,62]≠10::r:=T;have w2:∀r,[60,98,47,62]++(cO l++[60,47,97,62])≠10::r:=T;exact Y e<|Y (Cm h w2)<|Y (Cm h w1) rfl
 obtain⟨a3,_⟩:=tP h;have a3:(iE l).length<=75:=av a3<|eg 15 hl;have a:=s3 Q2;obtain⟨U,j,f1⟩:=Cu h (.head _) hl;obtain⟨W,y,D⟩:=Cu h (.head _) hl;have O:rr U=true:=iS z1 j;have k2:rr W=true:=iS z1 y;unfold rr at O k2;have b:iN 2 nA U [60,98,47,62] [.ot<|.st [98] [],.ot<|.en [98]] 2 nA []:=s3 (cY.mp O).1;have c:iN 2 nA W [60,47,97,62] [.ot<|.en [97]] 3 [] []:=s3 (cY.mp k2).2;have l1:=vn j;have l2:=vn y;have F:=a.cat (f1.cat (b.cat (D.cat c<|by show 0+_+4<200;exact aR a3<|by simp+arith)<|by refine Y a0 ?_;show _+4+(_+4)<200;exact a7 a3 l1<|by simp+arith)<|by refine Y a0<|Y a0 ?_;show 0+_+(4+(_+4))<200;exact a7 a3 a3<|by simp+arith)<|by refine Y a0<|Y a0<|Y a0 ?_;show 0+3+(_+(4+(_+4)))<200;exact a7 a3 a3<|by simp+arith
 rw[<-I]at F;have le:(fd<|docOf<|cO l).length<200:=by refine Y I<|Y a0<|Y a0<|Y a0<|Y a0 ?_;show 3+(_+(4+(_+4)))<200;exact a7 a3 a3<|by simp+arith
 refine e6 (by show aB (b2 (docOf<|cO l) [13]) _ _=_;exact Y J rfl) (λu v e=>?_) ?_;have E:=yr u v;rw[e]at E;exact⟨F.pre 0 _ _ E,by rw[E,a0]at le;exact aR le<|by simp+arith⟩;obtain⟨k,⟨st,nm,r,s,p⟩,z,⟨rfl,rfl,rfl⟩,h5⟩:=F.all 0;refine xX k s p z ?_;have N:aJ (k++[]) []=aJ ([.ot<|.st [97] []]++(gb l++([.ot<|.st [98] [],.ot<|.en [98]]++(gb l++[.ot<|.en [97]])))) []:=h5;rw[be]at N;exact N.trans<|RP C
section
variable{O:ap}
def lt(aP:bi E tab.cls=some k)(h:k.init=some z)(he:k.exc=false)(f:bi z tab.fns=some fn)(m:O none (.fn z) (.ref A.length::D) (A++[.inst E []])=some (.ok .none u)):bP tab O none (.fn E) D A=some (.ok (.ref A.length) u):=by show sU tab O none E D A (bi E tab.cls)=_;refine Y aP ?_;show ob k.init _=_;refine Y h ?_;show bd (ob (bi z tab.fns) λ_=>O none (.fn z) (.ref A.length::D)<|A++[tZ E k.exc]) _=_;refine Y he<|Y f ?_;show bd (O none (.fn z) (.ref A.length::D)<|A++[.inst E []]) _=_;exact Y m rfl
end
abbrev mo:au:=.inst 921 [(iX,.int 20),(iy,.int 100000)]
abbrev pX(l o g p:Nat):au:=.inst 1070 [(eh,.ref l),(ko,.ref o),(jg,.ref g),(kR,.ref p)]
abbrev XL(z:Addr):List V->aq->M V:=λD H=>aF NN tab (ax 248) none (.fn z) D H
def Dr:bD (XL 918) [.ref 0] [.inst 921 []]=some (.ok .none [mo]):=nq<|by decide+kernel
def EP:bD (XL 1003) [.ref 0,.ref 1] [.inst 1070 [],mo]=some (.ok .none [pX 1 2 3 4,mo,.dict [],.dict [],.dict []]):=nq<|by decide+kernel
def uZ:aq:=[.inst 899 [],pX 2 3 4 5,mo,.dict [],.dict [],.dict []]
def JX:aq:=[.inst 899 [(mq,.ref 6),(lX,.none),(k6,.ref 10),(mg,.int ((0:Nat):Int)),(lV,.bool false),(mJ,.none)],pX 2 3 4 5,mo,.dict [],.dict [],.dict [],
 .inst 828 [(eJ,.ref 1),(eR,.ref 7),(iz,.ref 9)],.inst 377 [(eh,.ref 2),(gU,.int 0),(gZ,.ref 8)],.list [],.list [],e4]
def Ej:bD (XL 847) [.ref 0,.ref 1] uZ=some (.ok .none JX):=nq<|by decide+kernel
def Am:eS none (.fn 918)=some 918:=rfl
def BN:eS none (.fn 1003)=some 1003:=rfl
def Af:eS none (.fn 847)=some 847:=rfl
def Ko:bP tab (ax 249) none (.fn 921) [] (A0 N)=some (.ok (.ref 3)<|A0 N++[gW]):=lt (z:=918) (A:=A0 N) rfl rfl rfl rfl ((dj (d:=248) Am rfl).trans<|hB (J:=[3]) (x:=[.inst 921 []]) (U:=[.ref 0]) rfl rfl rfl rfl Dr)
def KS:bP tab (ax 249) none (.fn 1070) [.ref 3] (A0 N++[gW])=some (.ok (.ref 4)<|A2 N):=lt (z:=1003) (A:=A0 N++[gW]) rfl rfl rfl rfl ((dj (d:=248) BN rfl).trans<|hB (J:=[4,3]) (x:=[.inst 1070 [],mo]) (U:=[.ref 0,.ref 1]) rfl rfl rfl rfl EP)
def QK:bP tab (ax 249) none (.fn 899) [.ref 4] (A2 N)=some (.ok (.ref 8)<|.list N::.cell none::.cell none::SB 3 0 [] e4 .none []):=lt (z:=847) (A:=A2 N) rfl rfl rfl rfl ((dj (d:=248) Af rfl).trans<|hB (J:=[8,4,3,5,6,7]) (x:=uZ) (U:=[.ref 0,.ref 1]) rfl rfl rfl rfl Ej)
structure me(u x:List Nat)(k:Nat)(l:List cL)(f:ju):Prop where
 tl:cr c3 0 [] (fd u) 0=some (.ok l f)
 om:x.drop k=f.r
 le:k<=x.length
 mx:x.length<200
 no:aH f.nm
def C3(u):(hd u).length<=1:=cv (P:=λh:List Nat=>h.length<=1) (λ_=>ba _) λ_=>bJ _
def xH(h c):(fL h c).length<=1:=cv (P:=λh:List Nat=>h.length<=1) (λ_=>ba _) λ_=>bJ _
def xL(S:me u x k l f)(y:c.length<=10000)(hl:(fd<|u++c).length<200)(z:cr c3 0 [] (fd<|u++c) 0=some o')(d):∃o,o'.dG=(o.add l).dG/\((f.r++a' (bW (hd u) c)).length<200/\∀C E,o=.ok C E->C.length<=400)/\Told (f.r++a' (bW (hd u) c)) (hd<|u++c) (ax (d+47) none (.fn 854) [.ref 0,.str c]<|ak f.st f.nm (ay x k f.p (hd u) f.s.aA) []) o:=by
 refine dF (PY hl S.tl z) λo j J D=>?_;have mx:∀{n:Nat},n<200->n<=bg:=λh=>av (fl h)<|by decide
 have t:=Kn (d:=d) (x:=x) (h:=hd u) (I:=c) (f:=f) (k:=k) yy (mx S.mx) (av (mO (C3 u) y)<|by decide) (mx D) (ba 200) S.om S.le S.no j;rw[MU]at t;exact fI o J ⟨D,λC E e=>(si<|e▸j).1⟩ t
def xa:ax (d+1) none (.bX e sc cl) [] H=aF NN tab (ax d) none (.bX e sc cl) [] H:=rfl
def sg:eS none (.fn 1107)=none:=rfl
section
variable{st:Nat}
def JW(m:ax 247 none (.fn 854) [.ref 8,.str c] (LH N (some<|.str c) st nm E aa G)=some (.ok v H')):ax 249 none (.fn 1107) [nr] (LH N (some<|.str c) st nm E aa G)=some (.ok .none H'):=(mA (d:=248) sg).trans (K8 (O:=ax 248) (j:=199940)<|(xa (d:=247)).trans<|MK (j:=199940) m)
def CJ{e:List Nat×Nat}(m:ax 247 none (.fn 854) [.ref 8,.str c] (LH N (some<|.str c) st nm E aa G)=some (.exc i H'))(g:H'[i]? =some (.exc 150 (some d) y))(f:H'[d]? =some (.dict [(dR,.str e.1),(b7,.int e.2)])):ax 249 none (.fn 1107) [nr] (LH N (some<|.str c) st nm E aa G)=some (.ok (.int e.2) H'):=(mA (d:=248) sg).trans (CW (O:=ax 248) (j:=199940) ((xa (d:=247)).trans<|Mr (j:=199940) m) g<|wX g f)
end
def tG(a:At H i<|fo (c::ch) i):∃y,H[i]? =some (.exc 150 (some<|i+1) y)/\H[i+1]? =some (.dict [(dR,.str c.1),(b7,.int c.2)]):=⟨_,a.hd,a.tl.hd⟩
abbrev FR(j k pl:Nat)(f:V)(tl:Loc)(H:aq):MS:=bu (ax 249) j 1112 1 (.ref 0) k (km pl f tl) H
def uX:∀{l}{N:List V}{k c},N.drop k=bA (c::l)->N[k]? =some (.str c)/\N.drop (k+1)=bA l:=λh=>⟨(gs h).1,(gs h).2.1⟩
theorem qu(y):∀x w,(c4 y x w).length<=x.length
 |[],_=>ba _|a::r,w+1=>iQ<|qu y r w
 |a::r,0=>by show(match pre y (a::r)with|true=>10::c4 y r (y.length-1)|false=>a::c4 y r 0).length<=_;rcases pre y (a::r);exact fv<|qu y r _;exact fv<|qu y r _
def vU(x):(a' x).length<=x.length:=by refine Y (sZ ..) ?_;exact av (qu _ _ _)<|qu _ _ _
def vj(h c):(bW h c).length<=h.length+c.length:=by exact Y a0.symm<|cv (P:=λt:List Nat=>t.length<=(h++c).length) (λ_=>by refine Y List.length_dropLast ?_;exact gq ..) λ_=>ba _
structure Flt(af:aq)(g i pl:Nat)(c:List Nat×Nat)(ch:List (List Nat×Nat)):Prop where
 a:At af g (fo (c::ch) i)
 i:i=g+14
 p:c.2=pl
 l:ch.length<=9
def At.app(h:At af g l):At (af++Z) g l:=λm o e=>by have:=h m o e;refine Y (dO (b4.mp this).1) ?_;exact this
def Bb{st:Nat}(F:Flt af g i pl c ch)(f:aH nm)(hm:x.length<=bg)(j:h.length+I.length<=20000)(aP:k<=x.length):ax (d+4) none (.fn 854) [.ref 8,.str I] (LH N pt st nm (ay x k q h .none) (.ref i) af)=some (.exc i<|LH N pt st nm (ay (x.drop k++a' (bW h I)) 0 q (fL h I) .none) (.ref i) af):=by have z:=GN (d:=d) (st:=st) (c:=c) (ch:=ch) (x:=x) (h:=h) (I:=I) (k:=k) (p:=q) (s:=.no) f F.l hm j rfl aP;rw[dj qa rfl]at z⊢;exact Cw (w:=[.str I]) f (cg .no) (cg .no) (.cons .str .nil) F.l F.a F.i z
section
variable{st:Nat}
def N4(F:Flt af g i pl c ch)(f:aH nm):∀rest k j tl pt x u h,N.drop k=bA rest->rest.length<=j->x.length+ca rest+rest.length<=5000->u<=x.length->h.length<=1->∃T J C D h',FR (j+40) k pl (.int pl) tl (LH N pt st nm (ay x u q h .none) (.ref i) af)=some (.ok .next (km pl (.int pl) T)<|LH N J st nm (ay C D q h' .none) (.ref i) af)/\C.length<=5000/\D<=C.length/\h'.length<=1:=by
 intro rest;induction rest with
 |nil=>intro k j tl pt x u h hd _ aE aP hh;exact vm tl pt x u h (kS<|az some<|eL<|oz hd) (by simpa[ca]using aE) aP hh
 |cons I rest ih=>
  intro k j tl pt x u h hd W aE aP hh;refine l4 λZ_ z_=>aS (uX hd) λU z=>?_;have e:ca (I::rest)=I.length+ca rest:=rfl;rw[e,cB]at aE;rw[cB]at W;have mx:x.length<=bg:=av (show x.length<=5000 by exact aR aE<|by simp+arith)<|by decide
  obtain⟨j,rfl⟩:∃n,j=n+1:=⟨j-1,by exact cf (aR (cn j 1)<|by simp+arith)<|aR (a4<|bx<|show 1<=j from aR W<|by simp+arith)<|by simp+arith⟩;have m:=Bb (N:=N) (pt:=some<|.str I) (st:=st) (q:=q) (x:=x) (h:=h) (I:=I) (k:=u) (d:=243) F f mx (a7 aE hh<|by simp+arith) aP;refine aZ (tG<|mD (N:=N) (pt:=some<|.str I) (st:=st) (nm:=nm) (E:=ay (x.drop u++a' (bW h I)) 0 q (fL h I) .none) F.a F.i) λy g1 g2=>?_;have aG:=CJ m g1 g2;rw[F.p]at aG;have t:=M1 (O:=ax 249) (j:=j+1) (pl:=pl) (pt:=pt) (tl:=tl) U aG;have z1:=vU<|bW h I;have z2:=vj h I;refine Ak (ih (k+1) j (put jK (.int pl) tl) (some<|.str I) (x.drop u++a' (bW h I)) 0 (fL h I) z (eZ ‹_›) (by refine Y a0 ?_;exact sr (List.drop_sublist u x).length_le (av z1 z2) hh aE<|by simp+arith) (bJ _)<|xH _ _) λT J C D h' r1 r2=>?_;exact z_<|Oc T J C D h' (t.trans r1) r2
end
def HY(aa:nT T pl=true):∀rest k j tl pt G u x kk l f,N.drop k=bA rest->rest.length<=j->me u x kk l f->u++jn [] rest=T->T.length+rest.length<=2000->∃ah ag st nm q i g af c ch W ae h',FR (j+40) k pl .none tl (LH N pt f.st f.nm (ay x kk f.p (hd u) f.s.aA) .none G)=some (.ok .next (km pl (.int pl) ah)<|LH N ag st nm (ay W ae q h' .none) (.ref i) af)/\Flt af g i pl c ch/\aH nm/\W.length<=5000/\ae<=W.length/\h'.length<=1:=by
 intro rest;induction rest with
 |nil=>intro k j tl pt G u x kk l f _ _ S e _;obtain⟨h|h,_⟩:=Bn aa e;exact absurd rfl h.2;rw[S.tl]at h;cases h
 |cons I rest ih=>
  intro k j tl pt G u x kk l f ao hj S e hl;refine l4 λZ C=>l4 λZ_ z_=>aS (uX ao) λU z=>?_;rw[k7]at e;have e2:(u++I)++jn [] rest=T:=by refine Y (br ..) ?_;exact e
  have ll:=az List.length e;rw[a0,a0]at ll;rw[cB]at hj hl;refine aS (Bn aa e2) λhT hL=>?_;obtain⟨j,rfl⟩:∃n,j=n+1:=⟨j-1,by exact cf (aR (cn j 1)<|by simp+arith)<|aR (a4<|bx<|show 1<=j from aR hj<|by simp+arith)<|by simp+arith⟩;have ai:∀D H,ax 247 none (.fn 854) D H=bD (λD H=>aF NN tab (ax 246) none (.fn 854) D H) D H:=λ_ _=>dj (d:=246) qa rfl;refine z_ ?_;rcases hT with⟨⟨l',ab,hT⟩,_⟩|hT;refine dF (xL S (a7 hl (a4 ll)<|by simp+arith) hL hT 200) λo J al t=>aS al λaE _=>?_;rcases o with⟨l2,aw⟩|q;refine zo J λ_ aq=>?_;clear J al;subst aq;refine ix t λk' n1 n2 n3 t=>?_;rw[show ax (200+47) none (.fn 854)=ax 247 none (.fn 854) from rfl,ai]at t;have m:=(ai _ _).trans<|Ua (N:=N) (pt:=some<|.str I) (G:=G) (w:=[.str I]) S.no (cg f.s) n1 (cg ab.s) (.cons .str .nil) t;have tt:=DP (O:=ax 249) (j:=j+1) (pl:=pl) (pt:=pt) (tl:=tl) U<|JW m;exact gv (ih (k+1) j (put jK .none tl) (some<|.str I) (G++[.list<|aD<|aJ l2 []]) (u++I) (f.r++a' (bW (hd u) I)) k' l' ab z (eZ ‹_›) ⟨hT,n2,n3,aE,n1⟩ e2<|fl ‹_›) λah ag st nm q ar=>gv ar λi g af c ch as=>ke as λW ae h' r1 r2=>C ⟨ah,ag,st,nm,q,i,g,af,c,ch,W,ae,h',tt.trans r1,r2⟩;cases J
  .refine dF (xL S (a7 hl (a4 ll)<|by simp+arith) hL hT 200) λo J am t=>aS am λaE _=>?_;rcases o with⟨l2,aw⟩|q;cases J
   .clear am;obtain rfl:pl=q:=cb.bad.inj J;refine gv t λst nm k' q' c au=>dF au λch av ap t=>cZ av λak an aj=>?_;rw[show ax (200+47) none (.fn 854)=ax 247 none (.fn 854) from rfl,ai]at t;have m:=(ai _ _).trans<|Ib (N:=N) (pt:=some<|.str I) (G:=G) (w:=[.str I]) S.no (cg f.s) aj (cg (x:=f.r++a' (bW (hd u) I)) (h:=hd<|u++I) (k:=k') (p:=q') .no) (.cons .str .nil) t;have F:Flt (G++fo (c::ch) (G.length+14)) G.length (G.length+14) pl c ch:=⟨λm o e=>by refine Y (dp<|bE ..)<|Y (ez ..) ?_;exact e,rfl,ak,an⟩;refine aZ (tG<|mD (N:=N) (pt:=some<|.str I) (st:=st) (nm:=nm) (E:=ay (f.r++a' (bW (hd u) I)) k' q' (hd<|u++I) .none) F.a F.i) λy g1 g2=>?_;have aG:=CJ m g1 g2;rw[ak]at aG;have tt:=DP (O:=ax 249) (j:=j+1) (pl:=pl) (pt:=pt) (tl:=tl) U aG;have sl:ca rest<=T.length:=by
     have:∀r:List (List Nat),ca r=(jn [] r).length:=λr=>by
      induction r with
      |nil=>rfl|cons a r ih=>exact Y (k7 ..)<|Y a0<|Y ih.symm rfl
     exact Y (this ..)<|aR (a4 ll)<|by simp+arith
    clear t;obtain⟨ah,ag,W,ae,h',r1,r2⟩:=N4 (N:=N) F aj rest (k+1) j (put jK (.int pl) tl) (some<|.str I) (f.r++a' (bW (hd u) I)) k' (hd<|u++I) z (eZ ‹_›) (cS hl aE sl<|by simp+arith) ap<|C3 _;exact C ⟨ah,ag,st,nm,q',G.length+14,G.length,_,c,ch,W,ae,h',tt.trans r1,F,aj,r2⟩
section
variable{st:Nat}{I:List Nat}
def zM(F:Flt af g i pl c ch)(f:aH nm)(hm:x.length<=bg)(u:h.length+I.length<=20000)(aP:k<=x.length)(J:af[m]? =some (.cell<|some<|.str I)):ax 249 none (.fn 1107) [x0<|m+14] (LH N pt st nm (ay x k q h .none) (.ref i) af)=some (.ok (.int pl)<|LH N pt st nm (ay (x.drop k++a' (bW h I)) 0 q (fL h I) .none) (.ref i) af):=by
 have z:=Bb (N:=N) (pt:=pt) (st:=st) (q:=q) (x:=x) (h:=h) (I:=I) (k:=k) (d:=243) F f hm u aP;have T:hr tab ⟨qo.2.names,none,none⟩ (db [(g',m+14),(gL,2)]) g' (LH N pt st nm (ay x k q h .none) (.ref i) af)=some (.ok (.str I)<|LH N pt st nm (ay x k q h .none) (.ref i) af):=by show ob (ob af[m]? uJ) _=_;exact Y J rfl
 have aw:=Nk (O:=ax 247) (j:=199940) (m:=m+14) rfl T rfl z;refine aZ (tG<|mD (N:=N) (pt:=pt) (st:=st) (nm:=nm) (E:=ay (x.drop k++a' (bW h I)) 0 q (fL h I) .none) F.a F.i) λy C D=>?_;have r:=(mA (d:=248) sg).trans<|CW (O:=ax 248) (j:=199940) ((xa (d:=247)).trans aw) C<|wX C D;rw[F.p]at r;exact r
def GR(F:Flt af g i pl c ch)(f:aH nm)(hm:x.length<=bg)(hh:h.length<=1):ax 249 none (.fn 1107) [.bm 861 8] (LH N pt st nm (ay x k q h .none) (.ref i) af)=some (.ok (.int pl)<|LH N pt st nm (ay (x++a' h) k q [] .none) (.ref i) af):=by have z:=Qo (d:=244) (st:=st) (c:=c) (ch:=ch) (x:=x) (h:=h) (k:=k) (p:=q) (s:=.no) f F.l hm hh;rw[dj pn rfl]at z;have m:=(dj (d:=247) pn rfl).trans<|Cw (N:=N) (pt:=pt) (w:=[]) f (cg .no) (cg .no) .nil F.l F.a F.i z;refine aZ (tG<|mD (N:=N) (pt:=pt) (st:=st) (nm:=nm) (E:=ay (x++a' h) k q [] .none) F.a F.i) λy u C=>?_;have r:=(mA (d:=248) sg).trans<|OB (O:=ax 248) (j:=199940) m u<|wX u C;rw[F.p]at r;exact r
end
theorem Flt.app{i:Nat}(F:Flt af g i pl c ch):Flt (af++Z) g i pl c ch:=⟨F.a.app,F.i,F.p,F.l⟩
def nv:∀l,aH (bA l):=by
 intro l;induction l with
 |nil=>exact .nil|cons _ l f=>exact .cons .str<|f
noncomputable abbrev mN:au:=.list [.str [60,47,97,62],.str []]
def Ei(aa:nT y pl=true)(e:jn [] ae=y)(hl:y.length+ae.length<=2000)(f:H[n]? =some (.list<|bA ae)):ax 250 none (.fn 1112) [.ref n,.int pl] H=some (.ok (.bool true) H):=by
 have S:me [] [] 0 [] ⟨0,[],[],.no,0⟩:=⟨kt rfl rfl,rfl,ba _,by decide,.nil⟩;refine gv (HY (N:=bA ae) aa ae 0 199959 [] none [] [] [] 0 [] _ rfl (aR hl<|by simp+arith) S e hl) λtl pt st nm q aj=>gv aj λi g af c ch ak=>Dk ak λx kk h l F J aE aP hh=>?_;have mx:∀{n:Nat},n<=20000->n<=bg:=λh=>av h<|by decide
 have z1:=vU<|bW h [60,47,97,62];have z2:=vj h [60,47,97,62];have z4:[60,47,97,62].length=4:=rfl;have y1:(x.drop kk++a' (bW h [60,47,97,62])).length<=5005:=Y a0<|mO (av (List.drop_sublist ..).length_le aE)<|av z1<|av z2<|iB hh _;have W:=xH h [60,47,97,62];generalize ah:x.drop kk++a' (bW h [60,47,97,62])=x1 at y1;generalize ab:fL h [60,47,97,62]=u at W;have z5:=vU<|bW u [];have z6:=vj u [];have y2:(x1.drop 0++a' (bW u [])).length<=5010:=by refine Y a0<|Y iO ?_;simp at z6;exact sr y1 W z5 z6<|by simp+arith
 have k2:=xH u [];generalize ai:x1.drop 0++a' (bW u [])=x2 at y2;generalize ag:fL u []=z at k2;have E:∀b,Flt (af++[mN]++[.cell<|some b]) g i pl c ch:=λb=>(F.app (Z:=[mN])).app (Z:=[.cell<|some b]);have aw:=zM (N:=bA ae) (pt:=pt) (st:=st) (q:=q) (h:=h) (I:=[60,47,97,62]) (E _) J (mx<|av ‹_›<|by decide) (a7 hh (a4 z4)<|by simp+arith) aP (m:=(af++[mN]).length) cX;rw[ah,ab]at aw;have aG:=zM (N:=bA ae) (pt:=pt) (st:=st) (q:=q) (h:=u) (I:=[]) (E _) J (mx<|av ‹_›<|by decide) (by refine Y jl ?_;exact av ‹_›<|by decide) (bJ x1.length) (m:=(af++[mN]).length) cX;rw[ai,ag]at aG;have t1:=Fj (O:=ax 249) (j:=199957) (w:=none) (U:=[]) (k:=0) rfl aw rfl;have t2:=Fj (O:=ax 249) (j:=199956) (w:=some<|.str [60,47,97,62]) (U:=[.int pl]) (k:=1) rfl aG rfl;have nn:dC (.ref<|af.length+14) 2 (LH (bA ae) pt st nm (ay x2 0 q z .none) (.ref i)<|af++[mN]++[.cell<|some<|.str []])=some none:=by show(match(af++[mN]++[au.cell<|some<|.str []])[af.length]? with|some (.list l)=>some l[2]? |_=>none)=_;refine Y (br ..) ?_;show(match(af++[mN,au.cell<|some<|.str []])[af.length]? with|some (.list l)=>some l[2]? |_=>none)=_;exact Y iK rfl
 have t3:=(t1.trans t2).trans<|ou (T:=tab) (O:=ax 249) (n:=199994) nn;have da:=GR (N:=bA ae) (pt:=pt) (st:=st) (q:=q) (k:=0) ((E<|.str []).app (Z:=[iL pl 2])) J (mx<|av y2<|by decide) k2;have r0:=Ph (O:=ax 249) (j:=199940) Ko KS QK l t3 da;refine(dj (d:=249) rfl rfl).trans<|(hJ (X:=λD H=>aF NN tab (ax 249) none (.fn 1112) D H) (w:=[.int pl]) (o':=.list<|bA ae) f (.list<|nv ae) (.cons .int .nil) (.list<|nv ae) .bool r0).trans<|az (λH=>some<|R.ok (V.bool true) H)<|l2 λj=>Y List.getElem?_set ?_;split;rename_i C;subst C;exact Y (bZ (b4.mp f).1)<|Y f rfl;rfl
def jU(m:M V)(o:au):Bool:=match m with
 |none=>false
 |some q=>match q with|.exc _ _=>false|.ok a H=>iH a (.bool true)&&match H with|[]=>false|p::_=>ri p o
def tj(l:List<|List Nat)(pl:Nat):Bool:=jU (aF NN tab (ax 249) none (.fn 1112) [.ref 0,.int pl] [.list<|bA l])<|.list<|bA l
def IH:tj [[65279,32,120,60,97,47,62]] 2=true:=by decide+kernel
def N':tj [[65279],[32],[120]] 2=true:=by decide+kernel
def QB:tj [[60,97,62]] 3=true:=by decide+kernel
def Jd(h:jU m o=true):∃G,m=some (.ok (.bool true)<|o::G):=by unfold jU at h;rcases m with _|q;cases h;rcases q with⟨a,H⟩|_;obtain⟨j,f⟩:=cY.mp h;rcases H with _|⟨p,H⟩;cases f;exact⟨H,by exact Y (lg j)<|Y (wH f) rfl⟩;cases h
def wV(h:tj l pl=true)(f:H[n]? =some (.list<|bA l)):ax 250 none (.fn 1112) [.ref n,.int pl] H=some (.ok (.bool true) H):=by exact aU (Jd h) λG e=>(dj (d:=249) rfl rfl).trans<|(hJ (X:=λD H=>aF NN tab (ax 249) none (.fn 1112) D H) (w:=[.int pl]) (o':=.list<|bA l) f (.list<|nv l) (.cons .int .nil) (.list<|nv l) .bool e).trans<|Y (la f) rfl
noncomputable def x8:Stmt->Expr|.Return x _=>(match x with|some e=>e|none=>.Constant .none 0 ⟨0,0,0,0⟩)|_=>.Constant .none 0 ⟨0,0,0,0⟩
noncomputable def S3:Expr->Expr|.Compare l _ _ _=>l|e=>e
noncomputable def SX:Expr->List Expr|.ListComp _ j _ _=>(match j with|g::_=>g.ifs|[]=>[])|_=>[]
def wv:Expr:=S3<|x8<|fO 1131 0
abbrev mP(O:ap)(j:Nat)(loc:Loc)(aY:V)(k:Nat)(U:List V)(H:aq):M (List V):=(ev tab O j).lc ⟨(kA wv).2.names,none,(dg 1131).lam⟩ loc fj (kA wv).1 (SX wv) aY k U H
section
variable{k:Nat}{es:List V}{tl:Loc}
noncomputable abbrev d9(es:List V):aq:=[.list es,.cell<|some<|.ref 0]
def Hn(e1:bin .Sub (.int (es.length:Nat)) (.int ((1:Nat):Int)) (d9 es)=some (.ok (.int (n:Nat))<|d9 es))(g:bP tab O none (.blt .range) [.int (n:Nat)] (d9 es)=some (.ok (.an 0 (n:Nat))<|d9 es))(f:eX (.an 0 (n:Nat)) (d9 es)=true)(l:mP O (j+57) [(h8,.ref 1)] (.an 0 (n:Nat)) 0 [] (d9 es)=some (.ok []<|d9 es)):aF (j+60) tab O none (.fn 1131) [.ref 0] [.list es]=some (.ok (.bool true)<|d9 es++[.list [],.list []]):=by exact oC (H':=[au.list es,au.cell<|some<|V.ref 0]) [(h8,V.ref [au.list es].length)] rfl<|sk 4<|aj Q.m e1 rfl<|aj Q.m g rfl<|aj Q.b f rfl<|aj Q.l l rfl rfl
def qN(h:H[i]? =some (.list l))(aP:l[k]? =some v):oM (.ref i) (.int k) H=some (.ok v H):=by show ob (ob H[i]? (rI<|.int k)) (λr=>rt r H)=_;refine Y h ?_;show ob (ob (match Nat.blt k l.length with|true=>some k|false=>none) λj=>l[j]?) (λr=>rt r H)=_;refine Y (dw (b4.mp aP).1) ?_;show ob l[k]? _=_;exact Y aP rfl
def Ky(aP:dC (.an 0 (n:Nat)) k (d9 es)=some (some<|.int k))(he:es[k]? =some (.tup<|.str kd::r))(hd:ar kd ao=false):mP O (j+40) ((h8,.ref 1)::tl) (.an 0 (n:Nat)) k [] (d9 es)=mP O (j+39) ((h8,.ref 1)::put fj (.int k) tl) (.an 0 (n:Nat)) (k+1) [] (d9 es):=by have s:=el (x:=fj) (v:=.int k) (l:=tl);have i1:=qN (H:=d9 es) (i:=0) rfl he;exact oZ aP<|sk 2<|aj Q.v s rfl<|aj Q.m i1 rfl<|sk 1<|aj (λb=>Q.c<|some b) hd rfl rfl
def Uk(aP:dC (.an 0 (n:Nat)) k (d9 es)=some (some<|.int k))(he:es[k]? =some (.tup [.str ao,.str t]))(f:es[k+1]? =some (.tup<|.str kd::r))(hd:ar kd ao=false):mP O (j+40) ((h8,.ref 1)::tl) (.an 0 (n:Nat)) k [] (d9 es)=mP O (j+39) ((h8,.ref 1)::put fj (.int k) tl) (.an 0 (n:Nat)) (k+1) [] (d9 es):=by have s:=el (x:=fj) (v:=.int k) (l:=tl);have i1:=qN (H:=d9 es) (i:=0) rfl he;have i2:=qN (H:=d9 es) (i:=0) rfl f;exact oZ aP<|sk 2<|aj Q.v s rfl<|aj Q.m i1 rfl<|sk 4<|aj Q.v s rfl<|sk 1<|aj Q.m i2 rfl<|sk 1<|aj (λb=>Q.c<|some b) hd rfl rfl
def TE:aF (j+60) tab O none (.fn 1131) [.ref 0] [.list []]=some (.ok (.bool true)<|d9 []++[.list [],.list []]):=by have l:mP O (j+57) [(h8,.ref 1)] (.an 0<|-1) 0 [] (d9 [])=some (.ok []<|d9 []):=ou rfl;exact oC (H':=[au.list [],au.cell<|some<|V.ref 0]) [(h8,V.ref [au.list []].length)] rfl<|sk 7<|aj Q.l l rfl rfl
end
def Sep(es:List cL):Prop:=∀(k:Nat)(a b:List Nat),es[k]? =some (.tx a)->es[k+1]? =some (.tx b)->False
theorem Sep.ot(h:Sep l):Sep (.ot o::l):=λk a b f j=>by rcases k with _|k;cases f;exact h k a b f j
theorem xY:∀l N,Sep<|aJ l N
 |[],N=>λk a b f j=>by rcases N with _|⟨p,N⟩;exact aW f;rcases k with _|k;exact aW j;exact aW f
 |.tx t::l,N=>xY l<|N++[t]
 |.ot o::l,N=>by have h:=(xY l []).ot (o:=o);rcases N with _|⟨p,N⟩;exact h;intro k a b f j;rcases k with _|k;cases j;exact h k a b f j
theorem uu:∀{l}{k:Nat},(aD l)[k]? =l[k]?.map cL.aA|[],_=>rfl|_::_,0=>rfl|_::l,k+1=>uu (l:=l) (k:=k)
def JS(f:l.length=n+1)(h:Sep l):∀m k j(tl:Loc),k+m=n->m<=j->mP O (j+40) ((h8,.ref 1)::tl) (.an 0 (n:Nat)) k [] (d9<|aD l)=some (.ok []<|d9<|aD l):=by
 have nn:∀k,k<n->dC (.an 0 (n:Nat)) k (d9<|aD l)=some (some<|.int k):=λk aP=>by have e:(0:Int)+(k:Int)=(k:Int):=oi _;show some (match du (0+(k:Int)) (n:Nat)with|true=>some (V.int<|0+(k:Int))|false=>none)=_;refine Y e ?_;show some (match Nat.blt k n with|true=>_|false=>none)=_;exact Y (dw aP) rfl
 intro m;induction m with
 |zero=>intro k j tl aP _;refine ou ?_;have e:(0:Int)+(k:Int)=(k:Int):=oi _;show some (match du (0+(k:Int)) (n:Nat)with|true=>some (V.int<|0+(k:Int))|false=>none)=_;refine Y e ?_;show some (match Nat.blt k n with|true=>_|false=>none)=_;exact Y (kN<|aR (a4 aP.symm)<|by simp+arith) rfl
 |succ m D=>
  intro k j tl aP C;obtain⟨j,rfl⟩:∃n,j=n+1:=⟨j-1,by exact cf (aR (cn j 1)<|by simp+arith)<|aR (a4<|bx<|show 1<=j from aR C<|by simp+arith)<|by simp+arith⟩;obtain⟨e,he⟩:∃e,l[k]? =some e:=⟨_,dx<|a7 (a4 f.symm) (a4 aP)<|by simp+arith⟩;obtain⟨u,y⟩:∃e,l[k+1]? =some e:=⟨_,dx<|a7 (a4 f.symm) (a4 aP)<|by simp+arith⟩;have x:(aD l)[k]? =some e.aA:=by exact Y uu<|Y he rfl
  have z:(aD l)[k+1]? =some u.aA:=by exact Y uu<|Y y rfl
  have i:=D (k+1) j (put fj (.int k) tl) (cf (aR (a4 aP)<|by simp+arith)<|aR (a4 aP.symm)<|by simp+arith)<|eZ ‹_›;rcases e with t|o;rcases u with E|o;exact(h k t E he y).elim;exact(Uk (O:=O) (j:=j+1) (nn k<|aR (a4 aP)<|by simp+arith) x z o.ne).trans i;exact(Ky (O:=O) (j:=j+1) (nn k<|aR (a4 aP)<|by simp+arith) x o.ne).trans i
def Gr(f:H[i]? =some (.list<|aD l))(h:Sep l)(hl:l.length<=2000):ax (d+1) none (.fn 1131) [.ref i] H=some (.ok (.bool true) H):=by
 have bp:∀{G:aq},aF (199940+60) tab (ax d) none (.fn 1131) [.ref 0] [.list<|aD l]=some (.ok (.bool true)<|.list (aD l)::G)->ax (d+1) none (.fn 1131) [.ref i] H=some (.ok (.bool true) H):=λe=>by exact(dj (d:=d) rfl rfl).trans<|(hJ (X:=λD H=>aF NN tab (ax d) none (.fn 1131) D H) (w:=[]) (o':=.list<|aD l) f (.list<|hy l) .nil (.list<|hy l) .bool e).trans<|Y (la f) rfl
 rcases l with _|⟨e,r⟩;exact bp<|TE (O:=ax d) (j:=199940)
 .have k:(aD<|e::r).length=r.length+1:=kF (e::r);have mx:r.length<=bg:=av (mB hl)<|by decide
  exact bp (Hn (O:=ax d) (j:=199940) (n:=r.length) (by show rt (V.int<|((aD<|e::r).length:Int)-((1:Nat):Int)) _=_;refine Y (qF<|by rw[k];exact bR ..)<|Y k ?_;rfl) (lO mx) (lW mx)<|JS (l:=e::r) rfl h r.length 0 199957 [] (eW _)<|av (mB hl)<|by decide)
section
variable{N ds:List V}{st:Nat}{nm:List V}{E:au}{G af:aq}
def TG(N ds:List V)(st:Nat)(nm:List V)(E:au)(G:aq):aq:=.list N::.list ds::SB 2 st nm E .none G
def Ic(h:aH nm)(j:cA E):reach 4000 (TG N ds st nm E G) [7] []=some KT:=by have e:f0 (TG N ds st nm E G)=cm N::cm ds::[]::[2,4,5,6]::[]::[]::[]::[8,12]::[3,9,11]::[2,10]::[]::cm nm::bH E::f0 G:=rfl;exact Y lT<|Y e<|Y h.1<|Y j.1 rfl
def M3(h:aH nm)(j:cA E):b' (λi=>bc i KT) (TG N ds st nm E G) KT=ak st nm E []:=by show _::_::_::_::_::_::_::_::_::au.list (bF _ nm)::bn _ E::[]=_;exact Y (h.2 ..)<|Y (j.2 ..) rfl
def OD(h:aH u)(j:cA f)(k:∀i,i<11->ρ i=KT.getD i 0):cp ρ (TG N ds st nm E G) KT (bL ae .none::(rest u++(f::af)))=TG N ds ae u f G:=by
 have e:cp ρ (TG N ds st nm E G) KT (bL ae .none::(rest u++(f::af)))=.list N::.list ds::.inst 921 [(iX,.int 20),(iy,.int 100000)]::.inst 1070 [(eh,.ref<|ρ 3),(ko,.ref<|ρ 4),(jg,.ref<|ρ 5),(kR,.ref<|ρ 6)]::.dict []::.dict []::.dict []::
  .inst 899 [(mq,.ref<|ρ 1),(lX,.none),(k6,.ref<|ρ 10),(mg,.int ae),(lV,.bool false),(mJ,.none)]::.inst 828 [(eJ,.ref<|ρ 2),(eR,.ref<|ρ 7),(iz,.ref<|ρ 9)]::
  .inst 377 [(eh,.ref<|ρ 3),(gU,.int 0),(gZ,.ref<|ρ 8)]::.list []::.list (bF ρ u)::bn ρ f::G:=rfl
 exact Y e<|Y (h.2 ..)<|Y (j.2 ..)<|Y (k 1<|by decide)<|Y (k 2<|by decide)<|Y (k 3<|by decide)<|Y (k 4<|by decide)<|Y (k 5<|by decide)<|Y (k 6<|by decide)<|Y (k 7<|by decide)<|Y (k 8<|by decide)<|Y (k 9<|by decide)<|Y (k 10<|by decide) rfl
def JY:∀i,i<11->c' H KT i=KT.getD i 0:=λi h=>by unfold c';obtain⟨k,e⟩:∃k,KT[i]? =some k:=⟨_,dx h⟩;refine Y e ?_;show k=(KT[i]?).getD 0;exact Y e rfl
def Dt(h:aH nm)(j:cA E)(y:aH u)(z:cA f)(k:aH w)(x:bD X (.ref 0::w) (ak st nm E [])=some (.ok (.ref 11)<|ak ae u f [.list<|aD l])):bD X (.ref 7::w) (TG N ds st nm E G)=some (.ok (.ref<|G.length+13)<|TG N ds ae u f<|G++[.list<|aD l]):=by refine(hB (U:=.ref 0::w) (J:=KT) (by refine Y (tH k) ?_;exact Ic h j) (sz k _ rfl) (M3 h j) (by refine Y (oo k) ?_;exact tY h j) x).trans ?_;show some (R.ok (V.ref<|G.length+13)<|cp (c' (TG N ds st nm E G) KT) (TG N ds st nm E G) KT (bL ae .none::(rest u++(f::[.list<|aD l])))++[.list<|bF _<|aD l])=_;exact Y (OD y z JY)<|Y ((hy l).2 ..) rfl
def sG(h:G[g]? =some o):(TG N ds st nm E G)[g+13]? =some o:=h
def zd(f:G[k]? =some (.list a))(h:G[k2]? =some (.list b))(j:a.length+b.length<=1000000):bin .Add (.ref<|k+13) (.ref<|k2+13) (TG N ds st nm E G)=some (.ok (.ref<|G.length+13)<|TG N ds st nm E<|G++[.list<|a++b]):=by show ob (dn G[k]?) _=_;refine Y f ?_;show ob (dn G[k2]?) _=_;refine Y h ?_;show as (cq<|a.length+b.length) _=_;exact Y (g9 j) rfl
end
def sQ:∀{l},(∀a∈l,z a a=some true)->all2 z l l=some true:=by
 intro l;induction l with
 |nil=>intro _;exact rfl
 |cons a l f=>intro h;show ob (z a a) (λx=>ob (all2 z l l) λy=>some<|match x with|true=>y|false=>false)=_;refine Y (h a<|.head _)<|Y (f λb m=>h b<|.tail _ m) ?_;rfl
def nI:same (n+1) H (.str x) (.str x)=some true:=az some<|j1.mpr rfl
theorem BE:∀{l},∀a∈ir l,same (n+2) H a a=some true|p::l,a,m=>by rcases bC.mp (show a∈_::ir l from m)with rfl|m;show all2 (same (n+1) H) [.str p.1,.str p.2] [.str p.1,.str p.2]=_;refine sQ λb m=>?_;rcases bC.mp m with rfl|m;exact nI;exact Y (b8.mp m) nI;exact BE a m
def UL(e:cL):same (n+4) H e.aA e.aA=some true:=by
 have hA:∀{x y:List Nat},all2 (same (n+3) H) [.str x,.str y] [.str x,.str y]=some true:=λ{x y}=>sQ λb m=>by rcases bC.mp m with rfl|m;exact nI;exact Y (b8.mp m) nI
 rcases e with t|o;show all2 (same (n+3) H) [.str ao,.str t] [.str ao,.str t]=_;exact hA;rcases o with⟨m,l⟩|m;show all2 (same (n+3) H) [.str d6,.str m,.tup<|ir l] [.str d6,.str m,.tup<|ir l]=_;refine sQ λb k=>?_;rcases bC.mp k with rfl|k;exact nI;rcases bC.mp k with rfl|k;exact nI;refine Y (b8.mp k) ?_;show all2 (same (n+2) H) (ir l) (ir l)=_;exact sQ BE;show all2 (same (n+3) H) [.str hD,.str m] [.str hD,.str m]=_;exact hA
def eq_avs(f:H[i]? =some (.list<|aD l))(h:H[j]? =some (.list<|aD l)):cN .Eq (.ref i) (.ref j) H=some true:=by
 show oQ (same 39 H) H[i]? H[j]? =_;refine Y f<|Y h ?_;show(match Nat.beq (aD l).length (aD l).length with|true=>all2 (same 39 H) (aD l) (aD l)|false=>some false)=_;refine Y (em ..) ?_;have go:∀l:List cL,all2 (same 39 H) (aD l) (aD l)=some true:=λl=>by
  induction l with
  |nil=>rfl|cons e l k=>show ob (same 39 H e.aA e.aA) (λx=>ob (all2 (same 39 H) (aD l)<|aD l) λy=>some<|match x with|true=>y|false=>false)=_;exact Y (UL (n:=35) ..)<|Y k rfl
 exact go l
abbrev k3(m:Nat)(tl:Loc):Loc:=(pe,.ref 0)::(xe,.ref 1)::(gL,.ref 7)::(ph,.ref<|m+13)::tl
noncomputable abbrev T0(N ds:List V):aq:=[.list N,.list ds]
abbrev OX:au:=.inst 1070 [(eh,.ref 2),(ko,.ref 4),(jg,.ref 5),(kR,.ref 6)]
abbrev T2(N ds:List V):aq:=[.list N,.list ds,gW,OX,.dict [],.dict [],.dict []]
section
variable{O:ap}{st:Nat}
def RB(he:N[k]? =some (.str c))(aw:O none (.fn 854) [.ref 7,.str c] (TG N ds st nm E G)=some (.ok (.ref<|aG+13)<|TG N ds ae u f y))(da:O none (.fn 1131) [.ref<|aG+13] (TG N ds ae u f y)=some (.ok (.bool true)<|TG N ds ae u f y))(a:bin .Add (.ref<|m+13) (.ref<|aG+13) (TG N ds ae u f y)=some (.ok (.ref<|r+13)<|TG N ds ae u f af)):bu O (j+40) 1138 1 (.ref 0) k (k3 m tl) (TG N ds st nm E G)=bu O (j+39) 1138 1 (.ref 0) (k+1) (k3 r<|put jK (.ref<|aG+13)<|put io (.str c) tl) (TG N ds ae u f af):=by have h:dC (.ref 0) k (TG N ds st nm E G)=some (some<|.str c):=az some he;have C:=el (x:=io) (v:=.str c) (l:=tl);have z:=el (x:=jK) (v:=.ref<|aG+13) (l:=put io (.str c) tl);exact fc h<|sk 3<|aj Q.v C rfl<|aj Q.m aw rfl<|sk 2<|aj Q.v z rfl<|aj Q.m da rfl<|sk 2<|aj Q.v z rfl<|aj Q.m a rfl rfl
def Kt(c1:bP tab O none (.fn 921) [] (T0 N ds)=some (.ok (.ref 2)<|T0 N ds++[gW]))(c2:bP tab O none (.fn 1070) [.ref 2] (T0 N ds++[gW])=some (.ok (.ref 3)<|T2 N ds))(x:bP tab O none (.fn 899) [.ref 3] (T2 N ds)=some (.ok (.ref 7)<|TG N ds 0 [] e4 []))(l:bu O (j+59) 1138 1 (.ref 0) 0 (k3 0 []) (TG N ds 0 [] e4 [.list []])=some (.ok .next (k3 m tl)<|TG N ds st nm E G))(aw:O none (.fn 861) [.ref 7] (TG N ds st nm E G)=some (.ok (.ref i1) h))(a:bin .Add (.ref<|m+13) (.ref i1) h=some (.ok (.ref i2) u))(aG:O none (.fn 755) [.ref i2] u=some (.ok (.ref k) f))(e:cN .Eq (.ref k) (.ref 1) f=some true)(n:bP tab O none (.blt .len) [.ref 0] f=some (.ok (.int (N.length:Nat)) f))(g:cN .Gt (.int (N.length:Nat)) (.int ((1:Nat):Int)) f=some true):aF (j+60) tab O none (.fn 1138) [.ref 0,.ref 1] (T0 N ds)=some (.ok (.bool true) f):=by exact am [(pe,V.ref 0),(xe,V.ref 1)] rfl<|sk 3<|aj Q.m c1 rfl<|aj Q.m c2 rfl<|aj Q.m x rfl<|sk 3<|aj Q.s l rfl<|sk 3<|aj Q.m aw rfl<|aj Q.m a rfl<|sk 3<|aj Q.m aG rfl<|sk 1<|aj Q.c e rfl<|sk 3<|aj Q.m n rfl<|aj Q.c g rfl rfl
def MF(c1:bP tab O none (.fn 921) [] (T0 N ds)=some (.ok (.ref 2)<|T0 N ds++[gW]))(c2:bP tab O none (.fn 1070) [.ref 2] (T0 N ds++[gW])=some (.ok (.ref 3)<|T2 N ds))(x:bP tab O none (.fn 899) [.ref 3] (T2 N ds)=some (.ok (.ref 7)<|TG N ds 0 [] e4 []))(l:bu O (j+59) 1138 1 (.ref 0) 0 (k3 0 []) (TG N ds 0 [] e4 [.list []])=some (.ok .next (k3 m tl)<|TG N ds st nm E G))(aw:O none (.fn 861) [.ref 7] (TG N ds st nm E G)=some (.ok (.ref i1) h))(a:bin .Add (.ref<|m+13) (.ref i1) h=some (.ok (.ref i2) u))(aG:O none (.fn 755) [.ref i2] u=some (.ok (.ref k) f))(e:cN .Eq (.ref k) (.ref 1) f=some true)(n:bP tab O none (.blt .len) [.ref 0] f=some (.ok (.int (N.length:Nat)) f))(g:cN .Gt (.int (N.length:Nat)) (.int ((1:Nat):Int)) f=some false)(y:cN .Eq (.ref i2) (.ref 1) f=some true):aF (j+60) tab O none (.fn 1138) [.ref 0,.ref 1] (T0 N ds)=some (.ok (.bool true) f):=by exact am [(pe,V.ref 0),(xe,V.ref 1)] rfl<|sk 3<|aj Q.m c1 rfl<|aj Q.m c2 rfl<|aj Q.m x rfl<|sk 3<|aj Q.s l rfl<|sk 3<|aj Q.m aw rfl<|aj Q.m a rfl<|sk 3<|aj Q.m aG rfl<|sk 1<|aj Q.c e rfl<|sk 3<|aj Q.m n rfl<|aj Q.c g rfl<|sk 3<|aj Q.c y rfl rfl
end
section
variable{X:List V->aq->M V}{G:aq}
def TK(h:H[i]? =some o)(u:H[j]? =some p)(z:i≠j)(C:cA o)(f:cA p)(k:gp b)(aE:X [.ref 0,.ref 1] [o,p]=some (.ok b<|o::p::G)):bD X [.ref i,.ref j] H=some (.ok b H):=by
 have D:bD X [.ref 0,.ref 1] [o,p]=some (.ok b [o,p]):=by
  have h1:reach 4000 [o,p] (cm [.ref 0,.ref 1]) []=some [0,1]:=by have e:f0 [o,p]=[bH o,bH p]:=rfl;exact Y lT<|Y e<|Y C.1<|Y f.1 rfl
  have e1:b' (λi=>bc i [0,1]) [o,p] [0,1]=[o,p]:=by show[bn _ o,bn _ p]=_;exact Y (C.2 ..)<|Y (f.2 ..) rfl
  refine Y (qn h1 (q:=.ok b<|o::p::G)<|by rw[e1];exact aE) ?_;show back [o,p] [0,1] b (o::p::G) (λρ H'=>some<|.ok (bl ρ b) H')=_;have I:c0 b++cC (o::p::G) 2=[]:=by show c0 b++(bH o++(bH p++cC G 0))=[];refine Y k.1<|Y C.1<|Y f.1 ?_;cases G<;>rfl
  refine(nF (y:=[]) (J:=[0,1]) (by show reach 4000 _ (c0 b++cC (o::p::G) 2) _=_;exact Y I rfl)<|bR 2 _).trans ?_;show some (R.ok (bl _ b) [bn _ o,bn _ p])=_;exact Y (k.2 ..)<|Y (C.2 ..)<|Y (f.2 ..) rfl
 have ne:bv j [i]=false:=l7 λm=>z (b8.mp m).symm;have h1:reach 4000 H (cm [.ref i,.ref j]) []=some [i,j]:=by exact(cT (n:=3999) (i:=i) (t:=[j]) (done:=[]) rfl h).trans<|Y C.1<|(cT (n:=3998) (i:=j) (t:=[]) (done:=[i]) ne u).trans<|Y f.1 rfl
 have E:bc j [i,j]=1:=by show(match Nat.beq i j with|true=>0|false=>(match Nat.beq j j with|true=>0|false=>0+1)+1)=1;exact Y (it z)<|Y (em ..) rfl
 have ii:bc i [i,j]=0:=by show(match Nat.beq i i with|true=>0|false=>_)=0;exact Y (em ..) rfl
 refine(hB (U:=[.ref 0,.ref 1]) (x:=[o,p]) (J:=[i,j]) h1 (by show[V.ref<|bc i [i,j],V.ref<|bc j [i,j]]=_;exact Y ii<|Y E rfl) ?_ ?_ D).trans ?_;show[(match H[i]? with|some o=>bn _ o|none=>.cell none),(match H[j]? with|some o=>bn _ o|none=>.cell none)]=_;refine Y h<|Y u ?_;show[bn _ o,bn _ p]=_;exact Y (C.2 ..)<|Y (f.2 ..) rfl;have e:f0 [o,p]=[bH o,bH p]:=rfl;exact Y lT<|Y e<|Y C.1<|Y f.1 rfl;show some (R.ok (bl _ b)<|cp _ (cp _ H [i] [o]) [j] [p]++[])=_;show some (R.ok (bl _ b)<|(H.set i<|bn _ o).set j (bn _ p)++[])=_;exact Y (k.2 ..)<|Y (C.2 ..)<|Y (f.2 ..)<|Y (la h)<|Y (la u)<|Y (be ..) rfl
end
def Ci:bP tab (ax 249) none (.fn 921) [] (T0 N ds)=some (.ok (.ref 2)<|T0 N ds++[gW]):=lt (z:=918) (A:=T0 N ds) rfl rfl rfl rfl ((dj (d:=248) Am rfl).trans<|hB (J:=[2]) (x:=[.inst 921 []]) (U:=[.ref 0]) rfl rfl rfl rfl Dr)
def BD:bP tab (ax 249) none (.fn 1070) [.ref 2] (T0 N ds++[gW])=some (.ok (.ref 3)<|T2 N ds):=lt (z:=1003) (A:=T0 N ds++[gW]) rfl rfl rfl rfl ((dj (d:=248) BN rfl).trans<|hB (J:=[3,2]) (x:=[.inst 1070 [],mo]) (U:=[.ref 0,.ref 1]) rfl rfl rfl rfl EP)
def Fz:bP tab (ax 249) none (.fn 899) [.ref 3] (T2 N ds)=some (.ok (.ref 7)<|TG N ds 0 [] e4 []):=lt (z:=847) (A:=T2 N ds) rfl rfl rfl rfl ((dj (d:=248) Af rfl).trans<|hB (J:=[7,3,2,4,5,6]) (x:=uZ) (U:=[.ref 0,.ref 1]) rfl rfl rfl rfl Ej)
theorem sW:∀l N,cM (aJ l N)=cM l+(jn [] N).length
 |[],N=>by rcases N with _|⟨p,N⟩;rfl;show(jn []<|p::N).length+0=0+_;exact cF ..
 |.tx t::l,N=>by show cM (aJ l<|N++[t])=t.length+cM l+_;refine Y (sW l ..)<|Y (rY ..)<|Y a0 ?_;show cM l+(_+t.length)=_;simp+arith
 |.ot o::l,N=>by show cM (dA N++.ot o::aJ l [])=cM l+_;refine Y (s2 ..) ?_;show cM (dA N)+cM (aJ l [])=_;refine Y (sW l []) ?_;rcases N with _|⟨p,N⟩;exact cF ..;show(jn []<|p::N).length+0+(cM l+0)=cM l+_;exact cF ..
theorem wi:∀l N,(aJ l N).length<=l.length+(dA N).length
 |[],N=>bR ..
 |.tx t::l,N=>av (wi l<|N++[t]) (by
   refine Y cB ?_;have:(dA<|N++[t]).length<=1:=by cases N<;>exact ba _
   exact aR this<|by simp+arith)
 |.ot o::l,N=>by show(dA N++.ot o::aJ l []).length<=_;have:(aJ l []).length<=l.length+0:=wi l [];exact Y a0<|Y cB<|Y cB<|aR this<|by simp+arith
abbrev QD(j k m:Nat)(tl:Loc)(H:aq):MS:=bu (ax 249) j 1138 1 (.ref 0) k (k3 m tl) H
section
variable{J:List Nat}(aa:∀u v,u++v=J->(∃y f,cr c3 0 [] (fd u) 0=some (.ok y f))/\(fd u).length<200)
include aa
theorem J5:∀rest k j m tl G u x kk l f z,N.drop k=bA rest->rest.length<=j->k+rest.length<=200->me u x kk l f->u++jn [] rest=J->J.length<=2000->G[m]? =some (.list<|aD z)->aJ z []=aJ l []->(k=0->z=[]/\l=[])->(k<=1->z=aJ l [])->z.length<=400*k->∃ai T G' x' af y ab f',QD (j+40) k m tl (TG N ds f.st f.nm (ay x kk f.p (hd u) f.s.aA) G)=some (.ok .next (k3 T ai)<|TG N ds ab.st ab.nm (ay x' af ab.p (hd J) ab.s.aA) G')/\me J x' af y ab/\G'[T]? =some (.list<|aD f')/\aJ f' []=aJ y []/\(k+rest.length<=1->f'=aJ y [])/\f'.length<=80200:=by
 intro rest;induction rest with
 |nil=>intro k j m tl G u x kk l f z ag _ aP S e _ hG U _ h1 ae;obtain rfl:u=J:=(be u).symm.trans e;exact zz tl m G x kk<|Bl l f z (kS<|az some<|eL<|oz ag) S hG U h1<|av ae<|av (eg 400<|av (bE ..) aP)<|by decide
 |cons I rest ih=>
  intro k j m tl G u x kk l f z ag hj aP S e hl hG U h0 h1 ae;refine aS (uX ag) λg1 g2=>?_;rw[k7]at e;have e2:(u++I)++jn [] rest=J:=by refine Y (br ..) ?_;exact e
  have ll:=az List.length e;rw[a0,a0]at ll;rw[cB]at hj aP;refine aS (aa (u++I) _ e2) λam hL=>hv am λy ab hT=>?_;obtain⟨j,rfl⟩:∃n,j=n+1:=⟨j-1,by exact cf (aR (cn j 1)<|by simp+arith)<|aR (a4<|bx<|show 1<=j from aR hj<|by simp+arith)<|by simp+arith⟩;have aj:∀D H,ax 249 none (.fn 854) D H=bD (λD H=>aF NN tab (ax 248) none (.fn 854) D H) D H:=λ_ _=>dj (d:=248) qa rfl;refine dF (xL S (a7 hl (a4 ll)<|by simp+arith) hL hT 202) λo C an t=>aS an λaE al=>?_;rcases o with⟨W,as⟩|q
  .refine zo C λak ao=>?_;subst ao;refine ix t λk' n1 n2 n3 t=>?_;rw[show ax (202+47) none (.fn 854)=ax 249 none (.fn 854) from rfl,aj]at t;have aw:=(aj _ _).trans<|Dt (N:=N) (ds:=ds) (G:=G) (w:=[.str I]) S.no (cg f.s) n1 (cg ab.s) (.cons .str .nil) t;have S':me (u++I) (f.r++a' (bW (hd u) I)) k' y ab:=⟨hT,n2,n3,aE,n1⟩;have ah:=al W ab rfl;have jl:(aJ W []).length<=W.length+0:=wi W [];have gg:(G++[au.list<|aD<|aJ W []])[m]? =some (.list<|aD z):=by refine Y (dO (b4.mp hG).1) ?_;exact hG
   have da:=Gr (d:=248) (i:=G.length+13) (H:=TG N ds ab.st ab.nm (ay (f.r++a' (bW (hd u) I)) k' ab.p (hd<|u++I) ab.s.aA)<|G++[.list<|aD<|aJ W []]) (l:=aJ W []) (sG cX) (xY W [])<|a7 ah jl<|by simp+arith
   have a:=zd (N:=N) (ds:=ds) (st:=ab.st) (nm:=ab.nm) (E:=ay (f.r++a' (bW (hd u) I)) k' ab.p (hd<|u++I) ab.s.aA) gg (cX (H:=G) (o:=au.list<|aD<|aJ W []))<|by refine Y (kF ..)<|Y (kF ..) ?_;exact av (mO (av ae<|eg 400<|av (bE ..) aP)<|av jl ah)<|by decide
   rw[<-ow]at a;have tt:=RB (O:=ax 249) (j:=j+1) (tl:=tl) g1 aw da a;have jf:aJ (z++aJ W []) []=aJ y []:=Y (ni ..)<|Y ak<|Y (lj z ..).symm<|Y U<|Y (lj ..) rfl;obtain⟨ai,T,G',x',af,l3,ar,f3,r1,r2,r3,r4,r5⟩:=ih (k+1) j (G++[au.list<|aD<|aJ W []]).length _ _ (u++I) _ k' y ab (z++aJ W []) g2 (eZ ‹_›) (aR aP<|by simp+arith) S' e2 hl cX jf (λh=>nomatch h) (λh=>by
    obtain rfl:k=0:=cf (aR h<|by simp+arith)<|by simp+arith
    refine aS (h0 rfl) λap aq=>?_;subst ap aq;exact ak.symm)<|by refine Y a0 ?_;exact cS ae ah jl<|by simp+arith
   exact zz ai T G' x' af<|Bl l3 ar f3 (tt.trans r1) r2 r3 r4 (λh=>r5.1<|by rw[cB]at h;exact aR h<|by simp+arith) r5.2
  cases C
end
def Ca(h:∀a∈t,a∈et)(ht:t.length<=5)(I:t≠[])(e:jn [] ae=docOf (cO t))(hl:ae.length<=200)(ah:(docOf<|cO t).length<=2000)(ai:n≠m)(h1:H[n]? =some (.list<|bA ae))(u:H[m]? =some (.list<|aD<|eP<|d4 t)):ax 250 none (.fn 1138) [.ref n,.ref m] H=some (.ok (.bool true) H):=by
 refine cZ (Oa h ht I) λh0 aa aj=>ke aj λy s p hT hj=>?_;have S:me [] [] 0 [] ⟨0,[],[],.no,0⟩:=⟨kt rfl rfl,rfl,ba _,by decide,.nil⟩;refine gv (J5 (N:=bA ae) (ds:=aD<|eP<|d4 t) aa ae 0 199959 0 [] [.list []] [] [] 0 [] _ [] rfl (av ‹_›<|by decide) (aR hl<|by simp+arith) S e ah rfl rfl (λ_=>⟨rfl,rfl⟩) (λ_=>rfl)<|bJ _) λtl T G x kk ak=>Dk ak λl2 f z r W hG U C ap=>zo (aQ<|hT.symm.trans W.tl) λal am=>?_;subst al am;have le:∀{n:Nat},n<=100000->n<=bg:=λh=>h;refine aS (aa (docOf<|cO t) []<|be _) λao an=>?_;rw[h0]at r;have af:x++a' []=x:=be x;have ag:∀D H,ax 249 none (.fn 861) D H=bD (λD H=>aF NN tab (ax 248) none (.fn 861) D H) D H:=λ_ _=>dj (d:=248) pn rfl;have xl:=W.mx;refine aU (Ka (d:=202) (x:=x) (h:=[]) (k:=kk) (n:=200) (f:=⟨3,[],[],s,p⟩) (l:=[]) (ab:=⟨3,[],[],s,p⟩) yy (by refine Y af ?_;exact le<|aR xl<|by simp+arith) (bJ 1) (by refine Y af ?_;exact W.om) (by refine Y af ?_;exact W.le) .nil rfl rfl (ba _) rfl) λk' cl=>?_;rw[show ax (202+47) none (.fn 861)=ax 249 none (.fn 861) from rfl,ag]at cl;have aw:=(ag _ _).trans<|Dt (N:=bA ae) (ds:=aD<|eP<|d4 t) (G:=G) (w:=[]) .nil (cg s) .nil (cg s) .nil cl;have gm:(G++[au.list<|aD<|aJ [] []])[T]? =some (.list<|aD z):=by refine Y (dO (b4.mp hG).1) ?_;exact hG
 have a:=zd (N:=bA ae) (ds:=aD<|eP<|d4 t) (st:=3) (nm:=[]) (E:=ay (x++a' []) k' p [] s.aA) gm (cX (H:=G) (o:=au.list<|aD<|aJ [] []))<|by refine Y (kF ..) ?_;show z.length+0<=_;exact av ‹_›<|by decide
 rw[<-ow,show z++aJ [] []=z from be z]at a;have jl:cM y<=500*200:=(si hT).2;have jf:cM z=cM y:=by have a:=sW z [];have b:=sW y [];rw[U,b]at a;exact(Nat.add_right_cancel a).symm
 have aG:=CX 248 (l:=z) (i:=(G++[au.list<|aD<|aJ [] []]).length+13) (H:=TG (bA ae) (aD<|eP<|d4 t) 3 [] (ay (x++a' []) k' p [] s.aA)<|G++[au.list<|aD<|aJ [] []]++[au.list<|aD z]) (sG cX) (le<|av ‹_›<|by decide)<|le<|a7 jl (a4 jf)<|by simp+arith
 rw[U,hj]at aG;have bp:∀{G:aq},aF (199940+60) tab (ax 249) none (.fn 1138) [.ref 0,.ref 1] (T0 (bA ae)<|aD<|eP<|d4 t)=some (.ok (.bool true)<|.list (bA ae)::.list (aD<|eP<|d4 t)::G)->ax 250 none (.fn 1138) [.ref n,.ref m] H=some (.ok (.bool true) H):=λe=>(dj (d:=249) rfl rfl).trans<|TK h1 u ai (.list<|nv ae) (.list<|hy _) .bool e;have e3:=eq_avs (H:=TG (bA ae) (aD<|eP<|d4 t) 3 [] (ay (x++a' []) k' p [] s.aA)<|G++[au.list<|aD<|aJ [] []]++[au.list<|aD z]++[au.list<|aD<|eP<|d4 t]) (i:=(G++[au.list<|aD<|aJ [] []]++[au.list<|aD z]).length+13) (j:=1) (l:=eP<|d4 t) (sG cX) rfl;rcases J:Nat.blt 1 (bA ae).length
 .have sl:∀l:List (List Nat),(bA l).length=l.length:=λl=>by
   induction l with
   |nil=>rfl|cons a l ih=>exact az (·+1) ih
  have pl:ae.length<=1:=by rw[sl]at J;rcases dJ 1 ae.length with q|q;rw[dw q]at J;exact ff<|J.symm;exact q
  have h9:z=eP (d4 t):=(C<|aR pl<|by simp+arith).trans hj;have e4:=eq_avs (H:=TG (bA ae) (aD<|eP<|d4 t) 3 [] (ay (x++a' []) k' p [] s.aA)<|G++[au.list<|aD<|aJ [] []]++[au.list<|aD z]++[au.list<|aD<|eP<|d4 t]) (i:=(G++[au.list<|aD<|aJ [] []]).length+13) (j:=1) (l:=eP<|d4 t) (sG<|by refine Y h9<|Y (br ..) ?_;exact iK) rfl;exact bp<|MF (O:=ax 249) (j:=199940) Ci BD Fz r aw a aG e3 rfl (az some J) e4
 exact bp<|Kt (O:=ax 249) (j:=199940) Ci BD Fz r aw a aG e3 rfl<|az some J
noncomputable def NU:Stmt->List Stmt|.If _ b _ _=>b|_=>[]
noncomputable def TF:Expr->Expr|.Call _ U _ _=>(match U with|a::_=>a|[]=>.Constant .none 0 ⟨0,0,0,0⟩)|e=>e
def zK:Expr:=x8<|(NU<|fO 1100 0).headD<|.Pass ⟨0,0,0,0⟩
def B4:Expr:=match oS (TF<|valOf<|fO 1100 1)with|some p=>p.2|none=>.Constant .none 0 ⟨0,0,0,0⟩
def Ce:Expr:=x8<|fO 1100 2
abbrev rM(O:ap)(j:Nat)(loc:Loc)(aY:V)(k:Nat)(U:List V)(H:aq):M (List V):=(ev tab O j).lc ⟨(kA zK).2.names,none,(dg 1100).lam⟩ loc cI (kA zK).1 [] aY k U H
abbrev rv(O:ap)(j:Nat)(loc:Loc)(aY:V)(k:Nat)(U:List V)(H:aq):M (List V):=(ev tab O j).lc ⟨(kA B4).2.names,none,(dg 1100).lam⟩ loc nX (kA B4).1 [] aY k U H
abbrev sN(O:ap)(j:Nat)(loc:Loc)(aY:V)(k:Nat)(U:List V)(H:aq):M (List V):=(ev tab O j).lc ⟨(kA Ce).2.names,none,(dg 1100).lam⟩ loc fj (kA Ce).1 [] aY k U H
noncomputable def bU(o:au)(x:List Nat)(pl:Option V)(G:aq):aq:=o::.cell (some<|.ref 0)::.cell (some<|.str x)::.cell pl::G
section
variable{O:ap}{p q:Nat}{tl:Loc}
def L8(m:O none (.fn 1088) [.ref 0,.int ((3:Nat):Int)] (bU o x none [])=some (.ok (.int ((0:Nat):Int))<|bU f x none []))(g:bP tab O none (.blt .range) [.int (x.length:Nat)] (bU f x none [])=some (.ok (.an 0 (x.length:Nat))<|bU f x none []))(h:eX (.an 0 (x.length:Nat)) (bU f x none [])=true)(l:rM O (j+57) [(bb,.ref 2)] (.an 0 (x.length:Nat)) 0 [] (bU f x none [])=some (.ok U<|bU f x none [])):aF (j+60) tab O none (.fn 1100) [.ref 0,.str x] [o]=some (.ok (.ref 4)<|bU f x none [.list U]):=by exact oC (H':=[o,au.cell<|some<|V.ref 0,au.cell<|some<|V.str x,au.cell none]) [(o8,V.ref<|List.length<|[o]++[au.cell none]++[au.cell none]),(bb,V.ref<|List.length<|[o]++[au.cell none]),(hW,V.ref [o].length)] rfl<|sk 2<|aj Q.m m rfl<|sk 6<|aj Q.m g rfl<|aj Q.b h rfl<|aj Q.l l rfl rfl
def O2(aP:dC (.an 0 (n:Nat)) k (bU o x pl G)=some (some<|.int k))(aE:x[k]? =some c)(h:cq (U.length+1)=true):rM O (j+40) ((bb,.ref 2)::tl) (.an 0 (n:Nat)) k U (bU o x pl G)=rM O (j+39) ((bb,.ref 2)::put cI (.int k) tl) (.an 0 (n:Nat)) (k+1) (U++[.str [c]]) (bU o x pl G):=by
 have s:=el (x:=cI) (v:=.int k) (l:=tl);have i1:oM (.str x) (.int k) (bU o x pl G)=some (.ok (.str [c])<|bU o x pl G):=by show ob (ob (match Nat.blt k x.length with|true=>some k|false=>none) λj=>ob x[j]? λc=>some<|V.str [c]) (λr=>rt r<|bU o x pl G)=_;refine Y (dw (b4.mp aE).1) ?_;show ob (ob x[k]? _) _=_;exact Y aE rfl
 exact oZ aP<|sk 3<|aj Q.v s rfl<|aj Q.m i1 rfl<|aj Q.b h rfl rfl
def Uu(aP:dC (.an 0 (n:Nat)) k (bU o x pl G)=some (some<|.int k))(m:O none (.fn 1088) [.ref 0,.int (x.length+1:Nat)] (bU o x pl G)=some (.ok (.int (p:Nat))<|bU f x pl G))(h:cq (U.length+1)=true):rv O (j+40) ((hW,.ref 1)::(bb,.ref 2)::tl) (.an 0 (n:Nat)) k U (bU o x pl G)=rv O (j+39) ((hW,.ref 1)::(bb,.ref 2)::put nX (.int k) tl) (.an 0 (n:Nat)) (k+1) (U++[.int p]) (bU f x pl G):=by exact oZ aP<|sk 8<|aj Q.m m rfl<|aj Q.b h rfl rfl
def FE(aP:dC (.an 0 (n:Nat)) k (bU o x (some<|.ref i) G)=some (some<|.int k))(hl:(bU o x (some<|.ref i) G)[i]? =some (.list l))(f:l[k]? =some (.int p))(u:l[k+1]? =some (.int q))(e:h5 (.str x) (some<|.int p) (some<|.int q) (bU o x (some<|.ref i) G)=some (.ok (.str<|(x.drop p).take<|q-p)<|bU o x (some<|.ref i) G))(h:cq (U.length+1)=true):sN O (j+40) ((o8,.ref 3)::(bb,.ref 2)::tl) (.an 0 (n:Nat)) k U (bU o x (some<|.ref i) G)=sN O (j+39) ((o8,.ref 3)::(bb,.ref 2)::put fj (.int k) tl) (.an 0 (n:Nat)) (k+1) (U++[.str<|(x.drop p).take<|q-p]) (bU o x (some<|.ref i) G):=by have s:=el (x:=fj) (v:=.int k) (l:=tl);have i1:=qN hl f;have i2:=qN hl u;exact oZ aP<|sk 4<|aj Q.v s rfl<|aj Q.m i1 rfl<|sk 1<|aj Q.v s rfl<|sk 1<|aj Q.m i2 rfl<|aj Q.m e rfl<|aj Q.b h rfl rfl
def Qv(m:O none (.fn 1088) [.ref 0,.int ((3:Nat):Int)] (bU o x none [])=some (.ok (.int (p+1:Nat))<|bU f x none []))(aG:O none (.fn 1088) [.ref 0,.int ((5:Nat):Int)] (bU f x none [.list [.int 0,.int (x.length:Nat)]])=some (.ok (.int (n:Nat))<|bU u x none [.list [.int 0,.int (x.length:Nat)]]))(g:bP tab O none (.blt .range) [.int (n:Nat)] (bU u x none [.list [.int 0,.int (x.length:Nat)]])=some (.ok (.an 0 (n:Nat))<|bU u x none [.list [.int 0,.int (x.length:Nat)]]))(y:eX (.an 0 (n:Nat)) (bU u x none [.list [.int 0,.int (x.length:Nat)]])=true)(E:rv O (j+56) [(hW,.ref 1),(bb,.ref 2)] (.an 0 (n:Nat)) 0 [] (bU u x none [.list [.int 0,.int (x.length:Nat)]])=some (.ok U<|bU h x none [.list [.int 0,.int (x.length:Nat)]]))(a:bin .Add (.ref 4) (.ref 5) (bU h x none [.list [.int 0,.int (x.length:Nat)],.list U])=some (.ok (.ref 6)<|bU h x none [.list [.int 0,.int (x.length:Nat)],.list U,.list<|.int 0::.int (x.length:Nat)::U]))(I:bP tab O none (.blt .sorted) [.ref 6] (bU h x none [.list [.int 0,.int (x.length:Nat)],.list U,.list<|.int 0::.int (x.length:Nat)::U])=some (.ok (.ref 7)<|bU h x none [.list [.int 0,.int (x.length:Nat)],.list U,.list<|.int 0::.int (x.length:Nat)::U,.list l]))(D:bU h x (some<|.ref 7) [.list [.int 0,.int (x.length:Nat)],.list U,.list<|.int 0::.int (x.length:Nat)::U,.list l]=H)(e1:bin .Sub (.int (l.length:Nat)) (.int ((1:Nat):Int)) H=some (.ok (.int (k:Nat)) H))(C:bP tab O none (.blt .range) [.int (k:Nat)] H=some (.ok (.an 0 (k:Nat)) H))(z:eX (.an 0 (k:Nat)) H=true)(lc:sN O (j+58) [(o8,.ref 3),(bb,.ref 2)] (.an 0 (k:Nat)) 0 [] H=some (.ok r H)):aF (j+60) tab O none (.fn 1100) [.ref 0,.str x] [o]=some (.ok (.ref 8)<|H++[.list r]):=by subst D;exact oC (H':=[o,au.cell<|some<|V.ref 0,au.cell<|some<|V.str x,au.cell none]) [(o8,V.ref<|List.length<|[o]++[au.cell none]++[au.cell none]),(bb,V.ref<|List.length<|[o]++[au.cell none]),(hW,V.ref [o].length)] rfl<|sk 2<|aj Q.m m rfl<|sk 9<|aj Q.m aG rfl<|aj Q.m g rfl<|aj Q.b y rfl<|aj Q.l E rfl<|aj Q.m a rfl<|aj Q.m I rfl<|sk 5<|aj Q.m e1 rfl<|aj Q.m C rfl<|aj Q.b z rfl<|aj Q.l lc rfl rfl
end
noncomputable def lJ:List Nat->List (List Nat)|[]=>[]|c::r=>[c]::lJ r
noncomputable def ed:List Nat->List V|[]=>[]|n::l=>.int n::ed l
def ww:∀l,(ed l).length=l.length:=by
 intro l;induction l with
 |nil=>exact rfl|cons _ l f=>exact az (·+1)<|f
theorem uv:∀{l}{k:Nat},(ed l)[k]? =l[k]?.map λn=>V.int n
 |[],_=>rfl|_::_,0=>rfl|_::l,k+1=>uv (l:=l) (k:=k)
def Lt:∀x,jn [] (lJ x)=x:=by
 intro x;induction x with
 |nil=>exact rfl|cons c x f=>show jn [] ([c]::lJ x)=_;exact Y (k7 ..)<|Y (f) rfl
def MG:∀x,(lJ x).length=x.length:=by
 intro x;induction x with
 |nil=>exact rfl|cons _ x f=>exact az (·+1)<|f
def OS:∀r k j U(tl:Loc),x.drop k=r->r.length<=j->U.length+r.length<=1000000->rM O (j+40) ((bb,.ref 2)::tl) (.an 0 (x.length:Nat)) k U (bU o x pl G)=some (.ok (U++bA (lJ r))<|bU o x pl G):=by
 intro r;induction r with
 |nil=>intro k j U tl aE _ _;exact Y (show U++bA (lJ [])=U from be U)<|ou<|x7 aE
 |cons c r h=>intro k j U tl aE f hl;rw[cB]at f hl;obtain⟨j,rfl⟩:∃n,j=n+1:=⟨j-1,by exact cf (aR (cn j 1)<|by simp+arith)<|aR (a4<|bx<|show 1<=j from aR f<|by simp+arith)<|by simp+arith⟩;refine(O2 (O:=O) (j:=j+1) (pC aE) (gs aE).1<|g9<|aR hl<|by simp+arith).trans<|(h (k+1) j (U++[.str [c]]) (put cI (.int k) tl) (gs aE).2.1 (eZ ‹_›)<|by refine Y a0<|Y Bj ?_;exact aR hl<|by simp+arith).trans ?_;exact Y (br ..) rfl
def Fp(h:k<n):dC (.an 0 (n:Nat)) k H=some (some<|.int k):=by have e:(0:Int)+(k:Int)=(k:Int):=oi _;show some (match du (0+(k:Int)) (n:Nat)with|true=>some (V.int<|0+(k:Int))|false=>none)=_;refine Y e ?_;show some (match Nat.blt k n with|true=>_|false=>none)=_;exact Y (dw h) rfl
def u8(h:n<=k):dC (.an 0 (n:Nat)) k H=some none:=by have e:(0:Int)+(k:Int)=(k:Int):=oi _;show some (match du (0+(k:Int)) (n:Nat)with|true=>some (V.int<|0+(k:Int))|false=>none)=_;refine Y e ?_;show some (match Nat.blt k n with|true=>_|false=>none)=_;exact Y (kN h) rfl
section
variable{x:List Nat}(aE:x.length<=2000)
include aE
theorem Tt(h:n<=100):∀m k j(tl:Loc) U a b,k+m=n->m<=j->U.length<=k->b<2147483647->∃ds I E,ds.length=m/\(∀y∈ds,y<=x.length)/\E<2147483647/\ rv (ax<|d+1) (j+40) ((hW,.ref 1)::(bb,.ref 2)::tl) (.an 0 (n:Nat)) k U (bU (aY a b) x pl G)=some (.ok (U++ed ds)<|bU (aY I E) x pl G):=by
 intro m;induction m with
 |zero=>exact λk j tl U a b aP _ _ D=>⟨[],a,b,rfl,λ_ m=>(nomatch m),D,by refine Y (show U++ed []=U from be U) ?_;exact ou<|u8<|aR (a4 aP.symm)<|by simp+arith⟩
 |succ m ih=>intro k j tl U a b aP hj T D;obtain⟨j,rfl⟩:∃n,j=n+1:=⟨j-1,by exact cf (aR (cn j 1)<|by simp+arith)<|aR (a4<|bx<|show 1<=j from aR hj<|by simp+arith)<|by simp+arith⟩;refine d5 (n5 (d:=d) (i:=0) (t:=x.length+1) (H:=bU (aY a b) x pl G) rfl D (mW _)<|e9 ‹_›<|by decide) λp a1 b1 C W e=>gD (ih (k+1) j (put nX (.int k) tl) (U++[.int p]) a1 b1 (cf (aR (a4 aP)<|by simp+arith)<|aR (a4 aP.symm)<|by simp+arith) (eZ ‹_›) (by refine Y a0<|Y Bj ?_;exact fv ‹_›) W) λds a2 J z u f N=>?_;refine rb (p::ds) a2 J (az (·+1) z) (λy m=>(bC.mp m).elim (λe=>e▸eZ C)<|u y) f<|(Uu (O:=ax<|d+1) (j:=j+1) (Fp<|aR (a4 aP)<|by simp+arith) e<|g9<|cS h (a4 aP) T<|by simp+arith).trans<|N.trans<|Y (br ..) ?_;rfl
end
noncomputable def Ch(lo:Nat)(l:List Nat)(f:Nat):Prop:=match l with|[]=>lo<=f|y::r=>lo<=y/\Ch y r f
termination_by structural l
noncomputable def dM(x:Nat):List Nat->List Nat|[]=>[x]|y::r=>match Nat.blt y x with|true=>y::dM x r|false=>x::y::r
noncomputable def e5:List Nat->List Nat|[]=>[]|x::r=>dM x<|e5 r
noncomputable def gk(p:Nat):List Nat->Nat|[]=>p|q::r=>gk q r
theorem Ch.top:∀{lo f l},Ch lo l f->lo<=f|_,_,[],h=>h|_,_,_::_,h=>av h.1 h.2.top
theorem Ch.ins(aE:x<=f):∀{lo l},Ch lo l f->lo<=x->Ch lo (dM x l) f|_,[],_,k=>⟨k,aE⟩|lo,y::r,h,k=>by show Ch lo (match Nat.blt y x with|true=>y::dM x r|false=>x::y::r) f;rcases e:Nat.blt y x;exact⟨k,(dJ y x).elim (λC=>by rw[dw C]at e;exact ff<|e.symm) id,h.2⟩;exact⟨h.1,h.2.ins aE<|fl<|bG e⟩
def E4:∀{l},(∀y∈l,y<=f)->Ch 0 (e5 l) f:=by
 intro l;induction l with
 |nil=>intro _;exact bJ _
 |cons x l j=>intro h;exact(j λy m=>h y<|.tail _ m).ins (h x<|.head _)<|bJ _
def IN:∀{l},Ch f l f->gk f l=f:=by
 intro l;induction l with
 |nil=>intro _;exact rfl
 |cons y r j=>intro h;obtain rfl:f=y:=cf h.1 h.2.top;show gk f r=f;exact j h.2
theorem ED:∀{lo l},Ch lo l f->gk lo (dM f l)=f|_,[],_=>rfl|lo,y::r,h=>by show gk lo (match Nat.blt y f with|true=>y::dM f r|false=>f::y::r)=f;rcases e:Nat.blt y f;have:f=y:=cf ((dJ y f).elim (λC=>by rw[dw C]at e;exact ff<|e.symm) id) h.2.top;clear e;subst this;show gk f r=f;exact IN h.2;exact ED h.2
noncomputable def kW(x:List Nat)(p:Nat):List Nat->List (List Nat)|[]=>[]|q::r=>(x.drop p).take (q-p)::kW x q r
theorem CT:∀{p l},Ch p l f->jn [] (kW x p l)=(x.drop p).take (gk p l-p)/\p<=gk p l
 |p,[],_=>⟨by show[]=(x.drop p).take (p-p);exact Y (ew ..) rfl,ba _⟩
 |p,q::r,h=>by refine aS (CT (x:=x) h.2) λz u=>⟨?_,av h.1 u⟩;show jn [] ((x.drop p).take (q-p)::kW x q r)=(x.drop p).take (gk q r-p);exact Y (k7 ..)<|Y z<|Y (show gk q r-p=(q-p)+(gk q r-q) by have:=h.1;exact cf (cS (cn q p) (cn (gk q r) q) (a4<|bx<|show p<=gk q r from a7 u this<|by simp+arith)<|by simp+arith)<|cS (cn (gk q r) p) (a4<|bx<|show p<=q from aR this<|by simp+arith) (a4<|bx<|show q<=gk q r from aR u<|by simp+arith)<|by simp+arith)<|Y List.take_add<|Y eY<|Y (ly h.1) rfl
theorem y':∀{p l},(kW x p l).length=l.length|_,[]=>rfl|_,_::_=>az (·+1) y'
def JD(x:Nat):∀l,insI (x:Int) (l.map Int.ofNat)=(dM x l).map Int.ofNat:=by
 intro l;induction l with
 |nil=>exact rfl|cons y r f=>show(match Nat.blt y x with|true=>(y:Int)::insI x (r.map Int.ofNat)|false=>(x:Int)::(y:Int)::r.map Int.ofNat)=(match Nat.blt y x with|true=>y::dM x r|false=>x::y::r).map Int.ofNat;rcases Nat.blt y x;rfl;exact az ((y:Int)::·)<|f
def PD:∀l,sortI (l.map Int.ofNat)=(e5 l).map Int.ofNat:=by
 intro l;induction l with
 |nil=>exact rfl|cons x l f=>show insI (x:Int) (sortI<|l.map Int.ofNat)=_;exact Y (f)<|Y (JD ..) rfl
def K':∀l,mV (ed l)=some (l.map Int.ofNat):=by
 intro l;induction l with
 |nil=>exact rfl|cons x l f=>show ob (some (x:Int)) (λx=>ob (mV<|ed l) λl=>some<|x::l)=_;exact Y (f) rfl
def GW:∀l,(l.map Int.ofNat).map V.int=ed l:=by
 intro l;induction l with
 |nil=>exact rfl|cons x l f=>exact az (V.int (x:Int)::·)<|f
def nQ(x):∀l,(dM x l).length=l.length+1:=by
 intro l;induction l with
 |nil=>exact rfl|cons y r f=>show(match Nat.blt y x with|true=>y::dM x r|false=>x::y::r).length=_;rcases Nat.blt y x;rfl;exact az (·+1)<|f
def qi:∀l,(e5 l).length=l.length:=by
 intro l;induction l with
 |nil=>exact rfl|cons x l f=>show(dM x<|e5 l).length=_;exact Y (nQ ..)<|Y (f) rfl
def P2{p q:Nat}(u:p<=x.length)(bk:q<=x.length)(aE:x.length<=2000):h5 (.str x) (some<|.int p) (some<|.int q) H=some (.ok (.str<|(x.drop p).take<|q-p) H):=by show ob (aB (c9 (p:Int)&&c9 (q:Int)) (some<|V.str<|fM (d8 (p:Int) x.length) (d8 (q:Int) x.length) x) none) (λr=>rt r H)=_;exact Y (kh<|a7 u aE<|by simp+arith)<|Y (kh<|a7 bk aE<|by simp+arith)<|Y (pZ u)<|Y (pZ bk) rfl
def LC(aE:x.length<=2000)(hl:(bU o x (some<|.ref i) G)[i]? =some (.list<|ed P))(f:P.length=n+1):∀r p k j(tl:Loc) U,P.drop k=p::r->(∀y∈p::r,y<=x.length)->r.length<=j->U.length+r.length<=1000000->k+r.length=n->sN O (j+40) ((o8,.ref 3)::(bb,.ref 2)::tl) (.an 0 (n:Nat)) k U (bU o x (some<|.ref i) G)=some (.ok (U++bA (kW x p r))<|bU o x (some<|.ref i) G):=by
 intro r;induction r with
 |nil=>intro p k j tl U _ _ _ _ aP;exact Y (show U++bA (kW x p [])=U from be U)<|ou<|u8<|by rw[jl]at aP;exact aR (a4 aP.symm)<|by simp+arith
 |cons q r I=>intro p k j tl U hd u C h aP;rw[cB]at C h aP;obtain⟨j,rfl⟩:∃n,j=n+1:=⟨j-1,by exact cf (aR (cn j 1)<|by simp+arith)<|aR (a4<|bx<|show 1<=j from aR C<|by simp+arith)<|by simp+arith⟩;refine cZ (gs hd) λD z _=>aS (gs z) λE _=>(FE (O:=O) (j:=j+1) (Fp<|aR (a4 aP)<|by simp+arith) hl (p:=p) (q:=q) (by exact Y uv<|Y D rfl) (by exact Y uv<|Y E rfl) (P2 (u p<|.head _) (u q<|.tail _<|.head _) aE)<|g9<|aR h<|by simp+arith).trans<|(I q (k+1) j (put fj (.int k) tl) _ z (λy m=>u y<|.tail _ m) (eZ ‹_›) (by refine Y a0<|Y Bj ?_;exact aR h<|by simp+arith)<|cf (aR (a4 aP)<|by simp+arith)<|aR (a4 aP.symm)<|by simp+arith).trans ?_;exact Y (br ..) rfl
def Eo(C:1<=x.length)(aE:x.length<=190)(z:H[i]? =some (aY a b))(hb:b<2147483647):∃ae J I,jn [] ae=x/\ae.length<=200/\I<2147483647/\ax 250 none (.fn 1100) [.ref i,.str x] H=some (.ok (.ref H.length)<|H.set i (aY J I)++[.list<|bA ae]):=by
 have bp:∀{ae:List (List Nat)}{J I r:Nat}{G:aq},G[r]? =some (.list<|bA ae)->aF (199940+60) tab (ax 249) none (.fn 1100) [.ref 0,.str x] [aY a b]=some (.ok (.ref<|r+1)<|aY J I::G)->ax 250 none (.fn 1100) [.ref i,.str x] H=some (.ok (.ref H.length)<|H.set i (aY J I)++[.list<|bA ae]):=λhr e=>(dj (d:=249) rfl rfl).trans (CY (X:=λD H=>aF NN tab (ax 249) none (.fn 1100) D H) (w:=[.str x]) z jh (.cons .str .nil) jh hr (.list<|nv _) e);have mx:∀{n:Nat},n<=2000->n<=bg:=λh=>av h<|by decide
 refine d5 (n5 (d:=248) (i:=0) (t:=3) (H:=bU (aY a b) x none []) rfl hb (by decide)<|by decide) λp a1 b1 u T e1=>?_;rcases p with _|p;have l:=OS (O:=ax 249) (o:=aY a1 b1) (pl:=none) (G:=[]) x 0 199957 [] [] rfl (av ‹_›<|by decide) (by refine Y jl ?_;exact aR aE<|by simp+arith);exact rb (lJ x) a1 b1 (Lt x) (by refine Y (MG ..) ?_;exact av ‹_›<|by decide) T<|bp (r:=3) rfl<|L8 (O:=ax 249) (j:=199940) e1 (lO<|mx<|av ‹_›<|by decide) (lW<|mx<|aR aE<|by simp+arith) l
 .refine d5 (n5 (d:=248) (i:=0) (t:=5) (H:=bU (aY a1 b1) x none [.list [.int 0,.int (x.length:Nat)]]) rfl T (by decide)<|by decide) λn a2 b2 f ab e2=>gD (Tt (d:=248) (n:=n) (x:=x) (pl:=none) (G:=[.list [.int 0,.int (x.length:Nat)]]) (av ‹_›<|by decide) (aR f<|by simp+arith) n 0 199956 [] [] a2 b2 (eW _) (aR f<|by simp+arith) (bJ _) ab) λds e7 N hd U af E=>?_;have ch:Ch 0 (dM x.length<|e5 ds) x.length:=(E4 U).ins (ba _)<|bJ _;have aa:∀{lo:Nat}{l:List Nat},Ch lo l x.length->∀y∈lo::l,y<=x.length:=λ{lo l}=>by
   intro h;induction l generalizing lo with
   |nil=>exact λy m=>by refine Y (b8.mp m) ?_;exact h
   |cons q r ih=>exact λy m=>(bC.mp m).elim (λe=>e▸h.top) λm=>ih h.2 y m
  have so:sortI ((0::x.length::ds).map Int.ofNat)=(0::dM x.length (e5 ds)).map Int.ofNat:=by refine Y (PD ..) ?_;show(dM 0<|dM x.length<|e5 ds).map Int.ofNat=_;rcases dM x.length (e5 ds)with _|⟨y,r⟩;rfl;rfl
  have a3:(0::dM x.length (e5 ds)).length=ds.length+2:=Y cB<|Y (nQ ..)<|Y (qi ..) rfl;have ec:=LC (O:=ax 249) (x:=x) (o:=aY e7 N) (i:=7) (G:=[.list [.int 0,.int (x.length:Nat)],.list<|ed ds,.list<|.int 0::.int (x.length:Nat)::ed ds,.list<|ed<|0::dM x.length (e5 ds)]) (P:=0::dM x.length (e5 ds)) (n:=ds.length+1) (av ‹_›<|by decide) rfl a3 (dM x.length<|e5 ds) 0 0 199958 [] [] rfl (aa ch) (by refine Y (nQ ..)<|Y (qi ..) ?_;exact a7 f (a4 hd)<|by simp+arith) (by refine Y (nQ ..)<|Y (qi ..)<|Y jl ?_;exact a7 f (a4 hd)<|by simp+arith)<|by refine Y (nQ ..)<|Y (qi ..) ?_;exact cF ..
  have ei:=ED<|E4 U;have W:=(CT (x:=x) ch).1;rw[ei,Nat.sub_zero,iO,List.take_length]at W;have i1:(ed ds).length=ds.length:=ww ds;have il:(ed<|0::dM x.length (e5 ds)).length=ds.length+2:=(ww _).trans a3;refine rb (kW x 0<|dM x.length<|e5 ds) e7 N W (by refine Y y'<|Y (nQ ..)<|Y (qi ..) ?_;exact a7 f (a4 hd)<|by simp+arith) af<|bp (r:=7) (G:=.cell (some<|.ref 0)::.cell (some<|.str x)::.cell (some<|.ref 7)::[.list [.int 0,.int (x.length:Nat)],.list<|ed ds,.list<|.int 0::.int (x.length:Nat)::ed ds,.list<|ed<|0::dM x.length (e5 ds),.list<|bA<|kW x 0<|dM x.length<|e5 ds]) rfl ?_;refine Qv (O:=ax 249) (j:=199940) e1 e2 (lO<|mx<|aR f<|by simp+arith) (lW<|mx<|aR f<|by simp+arith) E ?_ ?_ rfl (k:=ds.length+1) ?_ (lO<|mx<|a7 f (a4 hd)<|by simp+arith) (lW<|mx<|a7 f (a4 hd)<|by simp+arith) ec;show as (cq<|[V.int 0,V.int x.length].length+(ed ds).length) _=_;refine Y (g9<|by rw[i1];show 2+ds.length<=_;exact a7 f (a4 hd)<|by simp+arith) ?_;rfl;show ob (mV<|ed<|0::x.length::ds) (λns=>as (Nat.ble (ed<|0::x.length::ds).length 20)<|rt (V.ref 7)<|_++[au.list<|(sortI ns).map .int])=_;refine Y (K' ..) ?_;show as (Nat.ble (ed<|0::x.length::ds).length 20) (rt (V.ref 7)<|_++[au.list<|(sortI<|(0::x.length::ds).map Int.ofNat).map .int])=_;refine Y (ww ..)<|Y so<|Y (GW ..)<|Y (hY<|by show ds.length+2<=20;exact a7 f (a4 hd)<|by simp+arith) ?_;rfl;show rt (V.int<|((ed<|0::dM x.length (e5 ds)).length:Int)-((1:Nat):Int)) _=_;exact Y il<|Y (qF<|by exact bR ..) rfl
def OI:eS none (.fn 1095)=none:=rfl
def wf(u:H[0]? =some (aY a b))(C:b<2147483647)(k:H[i]? =some (.list l))(y:0≠i)(E:0<l.length)(z:l.length<=1000):∃v h f,v∈l/\f<2147483647/\ax (d+2) none (.fn 1095) [.ref 0,.ref i] H=some (.ok v<|H.set 0<|aY h f):=by exact d5 (n5 (d:=d) (t:=l.length) u C E<|av ‹_›<|by decide) λx h f aE D e=>oU _ h f (List.getElem_mem aE) D<|(mA (d:=d+1) OI).trans<|M5 (O:=ax<|d+1) (j:=199940) k e (by refine Y (o0 y) ?_;exact k)<|dx aE
theorem Fc:∀{l v},v∈bA l->∃x∈l,v=.str x|x::l,v,m=>by rcases bC.mp (show v∈V.str x::bA l from m)with rfl|m;exact a9 x (.head _) rfl;exact aZ (Fc m) λy E z=>a9 y (.tail _ E) z
theorem Cz:∀{l v},v∈fb l->∃p∈l,v=.tup [.str p.1,.int p.2]|p::l,v,m=>by rcases bC.mp (show v∈V.tup [.str p.1,.int p.2]::fb l from m)with rfl|m;exact a9 p (.head _) rfl;exact aZ (Cz m) λy E z=>a9 y (.tail _ E) z
theorem EZ:∀{l v},v∈iU l->∃p∈l,v=.tup [.str p.1,.str p.2]|p::l,v,m=>by rcases bC.mp (show v∈V.tup [.str p.1,.str p.2]::iU l from m)with rfl|m;exact a9 p (.head _) rfl;exact aZ (EZ m) λy E z=>a9 y (.tail _ E) z
noncomputable def zf(w:List Nat×Nat):Bool:=Nat.ble w.1.length 30
noncomputable def ER(x:List Nat):Bool:=Nat.ble x.length 30&&Nat.ble 1 x.length
noncomputable def CN(t:List Nat×List Nat):Bool:=Nat.ble t.2.length 15
def HZ:allB CN et=true:=by decide+kernel
def SY:allB zf ft=true:=by decide+kernel
def Ux:allB ER je=true:=by decide+kernel
def K3(k:H[i]? =some (aY a b))(U:b<2147483647):∃f pl N I,nT f pl=true/\1<=f.length/\f.length<=60/\I<2147483647/\ax 250 none (.fn 1119) [.ref i] H=some (.ok (.tup [.str f,.int pl])<|H.set i<|aY N I):=by refine d5 (wf (d:=247) (H:=[aY a b,.list<|bA je]) (i:=1) rfl U rfl (by decide) (by decide)<|by decide) λv a1 b1 x W aw=>aZ (Fc x) λu J ae=>?_;subst ae;refine d5 (wf (d:=247) (H:=[aY a1 b1,.list<|bA je,.list<|fb<|ft.take 5,.list<|fb<|(ft.drop 5).take 4,.list<|fb ft]) (i:=4) rfl W rfl (by decide) (by decide)<|by decide) λv a2 T x ab aG=>aZ (Cz x) λw h af=>?_;clear x;subst af;have l0:ER u=true:=iS Ux J;refine zb (show(Nat.ble u.length 30&&Nat.ble 1 u.length)=true from l0) λy E=>?_;have y:=bG y;have E:=bG E;have C:zf w=true:=iS SY h;have C:w.1.length<=30:=bG<|show Nat.ble w.1.length 30=true from C;have k1:E8 u=true:=iS NY J;have k2:v' u w=true:=iS (z:=v' u) k1 h;have aa:nT (u++w.1) (u.length+w.2)=true:=k2;refine JK (u++w.1) (u.length+w.2) a2 T aa (by refine Y a0 ?_;exact aR E<|by simp+arith) (by refine Y a0 ?_;exact a7 y C<|by simp+arith) ab ?_;exact(dj (d:=249) rfl rfl).trans<|hJ (X:=λD H=>aF NN tab (ax 249) none (.fn 1119) D H) (w:=[]) k jh .nil jh (.tup<|.cons .str<|.cons .int .nil)<|NX (O:=ax 249) (j:=199940) aw aG<|a7 y C<|by simp+arith
def Qw:∀m k j a b x y(G:aq) tl,k+m=n->m<=j->b<2147483647->x.length+15*m<=1000->y.length+15*m<=1000->∃J D f C T,(∀t∈J,t∈et)/\J.length=m/\f<2147483647/\ bu (ax 249) (j+40) 1126 1 (.an 0 (n:Nat)) k (mE x y tl) (aY a b::G)=some (.ok .next (mE (x++cO J) (y++d4 J) T)<|aY D f::C):=by
 intro m;induction m with
 |zero=>intro k j a b x y G tl aP _ N _ _;refine vm ([]) a b G tl (λ_ m=>(nomatch m)) rfl N ?_;show _=some (RS.ok .next (mE (x++[]) (y++[]) tl) _);exact Y (be ..)<|Y (be ..)<|kS<|u8<|aR (a4 aP.symm)<|by simp+arith
 |succ m ih=>
  intro k j a b x y G tl aP hj N aE W;obtain⟨j,rfl⟩:∃n,j=n+1:=⟨j-1,by exact cf (aR (cn j 1)<|by simp+arith)<|aR (a4<|bx<|show 1<=j from aR hj<|by simp+arith)<|by simp+arith⟩;refine d5 (wf (d:=247) (H:=aY a b::(G++[.list<|iU et])) (i:=G.length+1) (l:=iU et) rfl N cX (nofun) (by decide)<|by decide) λv a1 b1 U ab aw=>aZ (EZ U) λt ht ae=>?_;clear U;subst ae;have h:CN t=true:=iS HZ ht;have h:t.2.length<=15:=bG<|show Nat.ble t.2.length 15=true from h;have aa:=(r4 ht).2.1;obtain⟨J,D,f,C,T,E,z,I,h4⟩:=ih (k+1) j a1 b1 (x++t.1) (y++t.2) (G++[.list<|iU et]) _ (cf (aR (a4 aP)<|by simp+arith)<|aR (a4 aP.symm)<|by simp+arith) (eZ ‹_›) ab (by refine Y a0 ?_;exact a7 aE aa<|by simp+arith)<|by refine Y a0 ?_;exact a7 W h<|by simp+arith
  refine vm (t::J) D f C T (λu m=>(bC.mp m).elim (λe=>e▸ht)<|E u) (az (·+1) z) I<|(Tq (O:=ax 249) (j:=j+1) (dw<|aR (a4 aP)<|by simp+arith) aw (a7 aE aa<|by simp+arith)<|a7 W h<|by simp+arith).trans<|h4.trans<|Y (br ..)<|Y (br ..) ?_;rfl
def F3(k:H[i]? =some (aY a b))(U:b<2147483647):∃J N x,(∀t∈J,t∈et)/\J.length<=5/\J≠[]/\x<2147483647/\ax 250 none (.fn 1126) [.ref i] H=some (.ok (.tup [.str<|docOf<|cO J,.ref H.length])<|H.set i (aY N x)++[.list<|aD<|eP<|d4 J]):=by
 refine d5 (n5 (d:=248) (i:=0) (t:=5) (H:=[aY a b]) rfl U (by decide)<|by decide) λn a1 b1 u W e=>?_;have mx:∀{n:Nat},n<=2000->n<=bg:=λh=>av h<|by decide
 have w:0+15*(1+n)<=1000:=av (e3 (eg 15<|e3 (fl u) 1) 0)<|by decide
 refine Gi (Qw (n:=1+n) (1+n) 0 199959 a1 b1 [] [] [] [] (eW _) (aR u<|by simp+arith) W w w) λJ a2 y G tl E z I T=>?_;have lc:=(tP E).2;refine Mg J a2 y E (a7 u (a4 z)<|by simp+arith) (λC=>by rw[C]at z;simp at z;exact jT 0<|aR (a4 z.symm)<|by simp+arith) I ?_;have g:bP tab (ax 249) none (.blt .range) [.int (1+n:Nat)] [aY a1 b1]=some (.ok (.an 0 (1+n:Nat)) [aY a1 b1]):=by
  have:=lO (O:=ax 249) (n:=1+n) (H:=[aY a1 b1])<|mx<|aR u<|by simp+arith
  exact this
 have r:=Uc (O:=ax 249) (j:=199940) (a:=a) (b:=b) (a2:=a2) (c2:=y) e g (lW<|mx<|aR u<|by simp+arith) T<|av lc<|Y z<|av (bR _ 0) w;exact(dj (d:=249) rfl rfl).trans<|BM (X:=λD H=>aF NN tab (ax 249) none (.fn 1126) D H) (w:=[]) (f:=λn=>.tup [.str<|docOf<|cO J,.ref n]) k jh .nil jh (λ_=>rfl) (λ_ _=>rfl) cX (.list<|hy _) r
def BR{r:MS}(e:run (gY (tv T O n) c f loc H)=r):cV (ev T O n) c f loc H=r:=by exact Y e.symm<|Y (kg (oE T O n) ..) rfl
abbrev nL:List Stmt:=(qC tab 1081).body
abbrev lP(a:Addr)(C:Int):Loc:=[(j9,.fn a),(fj,.int ((0:Nat):Int)),(u4,.int C)]
section
variable{n:Nat}
def R1(hm:ku C (-((1:Nat):Int)-C)=(n:Int))(y:du (n:Int) 1000000000000000000=b)(f:z=aB b 0 1):∃ag,cV (ev tab O<|j+60) (dg 1081) (nL.drop 2) (lP a C) H=some (.ok (.ret<|.ref H.length) ag<|H++[aY (n*z)<|uE n]):=by
 have k:bP tab O none (.blt .max) [.int C,.int<|-((1:Nat):Int)-C] H=some (.ok (.int n) H):=by show rt (V.int<|ku C<|-((1:Nat):Int)-C) _=_;exact Y hm rfl
 have e1:=pa (a:=n) (t:=2147483629) (H:=H)<|by decide
 have u:=uL (a:=n%2147483629+0+0+17) (b:=48271) (H:=H)<|e9 (iB (fl<|nZ n (by decide:0<2147483629)) 17)<|by decide
 have x:=pa (a:=(n%2147483629+0+0+17)*48271) (t:=2147483647) (H:=H)<|by decide
 clear hm;refine⟨[(j9,.fn a),(fj,.int ((0:Nat):Int)),(u4,.int C),(GQ,.int (n:Nat)),(HX,.int (uE n:Nat))],?_⟩;rcases b
 .obtain rfl:z=1:=f;have h:=zY (a:=n) (z:=1) (H:=H)<|by decide
  exact BR<|sk 9<|aj Q.m k rfl<|sk 5<|aj Q.m e1 rfl<|sk 9<|aj Q.m u rfl<|sk 1<|aj Q.m x rfl<|sk 5<|aj (λb=>Q.c<|some<|!b) y rfl<|sk 1<|aj Q.m h rfl rfl
 .obtain rfl:z=0:=f;have h:=zY (a:=n) (z:=0) (H:=H)<|by decide
  exact BR<|sk 9<|aj Q.m k rfl<|sk 5<|aj Q.m e1 rfl<|sk 9<|aj Q.m u rfl<|sk 1<|aj Q.m x rfl<|sk 5<|aj (λb=>Q.c<|some<|!b) y rfl<|sk 1<|aj Q.m h rfl rfl
end
noncomputable abbrev TP:Str:=⟨#[101,110,116,101,114]⟩
noncomputable abbrev HU:Str:=⟨#[97,100,100]⟩
noncomputable abbrev NE:Str:=⟨#[105,115,95,117,110,112,97,114,115,101,100]⟩
noncomputable abbrev SM:Str:=⟨#[105,115,95,111,117,116,101,114]⟩
noncomputable abbrev DV:Str:=⟨#[110,111,116,97,116,105,111,110]⟩
noncomputable abbrev Lf:Str:=⟨#[116,101,120,116,95,111,102]⟩
noncomputable abbrev EE:Str:=⟨#[114,101,102,101,114,101,110,99,101]⟩
noncomputable abbrev F1:Str:=⟨#[114,101,112,108,97,99,101,109,101,110,116]⟩
noncomputable abbrev Jv:Str:=⟨#[112,117,116,95,105,110]⟩
noncomputable abbrev NA:Str:=⟨#[108,101,97,118,101]⟩
noncomputable abbrev wG:Str:=⟨#[116,97,107,101]⟩
noncomputable abbrev S':Str:=⟨#[102,101,101,100,95,112,108,97,105,110]⟩
noncomputable abbrev JU:Str:=⟨#[115,121,115,116,101,109]⟩
section
variable{O:ap}{H:aq}{l m:Nat}{tx:List Nat}{v:V}
abbrev dI(i:Nat)(m:Str)(H:aq)(v:V):Prop:=mf tab (.ref i) m H=some (.ok v H)
abbrev eN(i z:Nat)(O:ap):Option (List V->aq->M V):=some λD H=>dV tab O none z (.ref i::D) H
abbrev nO(i:Nat)(m:Str):Option (List V->aq->M V):=some λD H=>ob (dn H[i]?) λl=>eH m i l D H
def SN(f1:dI g gZ H<|.ref q)(h:cN .In (.str x) (.ref q) H=some false)(k:bP tab O none (.blt .len) [.ref q] H=some (.ok (.int (n:Nat)) H))(f4:dI g eh H<|.ref l)(y:dI l iX H<|.int ((400:Nat):Int))(z:Nat.blt n 400=true)(u:dy tab O none (.ref q) ic H=nO q ic)(C:ob (dn H[q]?) (λl=>eH ic q l [.str x] H)=some (.ok .none f)):Do j O 360 [.ref g,.str x] H .none f:=by exact am [(bo,V.ref g),(ji,V.str x)] rfl<|sk 2<|aj Q.m f1 rfl<|aj Q.c h rfl<|sk 3<|aj Q.m f1 rfl<|aj Q.m k rfl<|sk 1<|aj Q.m f4 rfl<|aj Q.m y rfl<|aj (λb=>Q.c<|some<|!b) z rfl<|sk 2<|aj Q.m f1 rfl<|aj Q.g u rfl<|sk 1<|aj Q.m C rfl rfl
def UF(f1:dI g gU H<|.int (s:Nat))(e:bin .Add (.int (s:Nat)) (.int (m:Nat)) H=some (.ok (.int (n:Nat)) H))(h:H[g]? =some (.inst 377 [(eh,.ref l),(gU,.int (s:Nat)),(gZ,.ref q)]))(k:∀loc,i7 tab gU (.int (n:Nat)) loc g H (.inst 377 [(eh,.ref l),(gU,.int (s:Nat)),(gZ,.ref q)])=some (.ok .next loc f))(f4:dI g gU f<|.int (n:Nat))(y:dI g eh f<|.ref l)(z:dI l iy f<|.int ((100000:Nat):Int))(u:Nat.blt 100000 n=false):Do j O 353 [.ref g,.int (m:Nat)] H .none f:=by exact am [(bo,V.ref g),(QH,V.int ↑m)] rfl<|sk 1<|aj Q.m f1 rfl<|sk 1<|aj Q.m e rfl<|sk 1<|aj Q.o h rfl<|aj Q.s (k _) rfl<|sk 1<|aj Q.m f4 rfl<|sk 1<|aj Q.m y rfl<|aj Q.m z rfl<|aj (λb=>Q.c<|some b) u rfl rfl
def Nv(f1:dy tab O none (.ref g) TP H=eN g 360 O)(aw:O none (.fn 360) [.ref g,.str x] H=some (.ok .none f))(h:dy tab O none (.ref g) HU f=eN g 353 O)(aG:O none (.fn 353) [.ref g,.int (tx.length:Nat)] f=some (.ok .none u)):Do j O 374 [.ref g,.str x,.str tx] H .none u:=by exact am [(bo,V.ref g),(ji,V.str x),(bb,V.str tx)] rfl<|sk 1<|aj Q.g f1 rfl<|sk 1<|aj Q.m aw rfl<|sk 1<|aj Q.g h rfl<|sk 3<|aj Q.m aG rfl rfl
def J4(f1:dI g gZ H<|.ref q)(u:dy tab O none (.ref q) jY H=nO q jY)(h:ob (dn H[q]?) (λl=>eH jY q l [] H)=some (.ok v f)):Do j O 367 [.ref g] H .none f:=by exact am [(bo,V.ref g)] rfl<|sk 1<|aj Q.m f1 rfl<|aj Q.g u rfl<|aj Q.m h rfl rfl
def yA:Do j O 332 [.str<|101::ds] H .none H:=by exact am [(ji,V.str<|101::ds)] rfl rfl
def O8(aw:O none (.fn 332) [.str x] H=some (.ok .none H)):Do j O 967 [.str x] H .none H:=by exact am [(ji,V.str x)] rfl<|sk 2<|aj Q.m aw rfl rfl
def FL(f1:dI t jg H<|.ref d)(h:cN .NotIn (.str x) (.ref d) H=some false)(k:oM (.ref d) (.str x) H=some (.ok (.ref a) H)):Do j O 1018 [.ref t,.str x] H (.ref a) H:=by exact am [(bo,V.ref t),(ji,V.str x)] rfl<|sk 2<|aj Q.m f1 rfl<|aj Q.c h rfl<|sk 2<|aj Q.m f1 rfl<|sk 1<|aj Q.m k rfl rfl
def NS(f1:dI a xF H<|.str tx):Do j O 946 [.ref a] H (.bool false) H:=by exact am [(bo,V.ref a)] rfl<|sk 1<|aj Q.m f1 rfl rfl
def Tn(f1:dI a DV H .none):Do j O 953 [.ref a] H (.bool false) H:=by exact am [(bo,V.ref a)] rfl<|sk 1<|aj Q.m f1 rfl rfl
def Hy(f1:dy tab O none (.ref a) NE H=eN a 953 O)(aw:O none (.fn 953) [.ref a] H=some (.ok (.bool false) H))(h:dy tab O none (.ref a) SM H=eN a 946 O)(aG:O none (.fn 946) [.ref a] H=some (.ok (.bool false) H))(k:dI a xF H<|.str tx):Do j O 1046 [.ref t,.ref a] H (.str tx) H:=by exact am [(bo,V.ref t),(E',V.ref a)] rfl<|sk 1<|aj Q.g f1 rfl<|aj Q.m aw rfl<|sk 2<|aj Q.g h rfl<|aj Q.m aG rfl<|sk 2<|aj Q.m k rfl rfl
def Jh(aw:O none (.fn 967) [.str x] H=some (.ok .none H))(f1:dy tab O none (.ref t) E' H=eN t 1018 O)(aG:O none (.fn 1018) [.ref t,.str x] H=some (.ok (.ref a) H))(h:dy tab O none (.ref t) Lf H=eN t 1046 O)(da:O none (.fn 1046) [.ref t,.ref a] H=some (.ok (.str tx) H)):Do j O 1053 [.ref t,.str x] H (.str tx) H:=by exact am [(bo,V.ref t),(ji,V.str x)] rfl<|sk 2<|aj Q.m aw rfl<|sk 5<|aj Q.g h rfl<|sk 1<|aj Q.g f1 rfl<|sk 1<|aj Q.m aG rfl<|aj Q.m da rfl rfl
noncomputable abbrev C0(f:List<|Str×V):au:=.inst 828 f
def Gq(h:∀o:au,(H++[o])[H.length]? =some o)(u:∀loc,i7 tab eJ (.ref t) loc H.length (H++[C0 []]) (C0 [])=some (.ok .next loc<|H++[C0 [(eJ,.ref t)]]))(x:∀loc,i7 tab eR (.ref g) loc H.length (H++[C0 [(eJ,.ref t)]]) (C0 [(eJ,.ref t)])=some (.ok .next loc<|H++[C0 [(eJ,.ref t),(eR,.ref g)]]))(k:∀o p:au,(H++[o]++[p])[H.length]? =some o)(y:∀loc,i7 tab iz (.ref (H++[C0 [(eJ,.ref t),(eR,.ref g)]]).length) loc H.length (H++[C0 [(eJ,.ref t),(eR,.ref g)]]++[.list []]) (C0 [(eJ,.ref t),(eR,.ref g)])=some (.ok .next loc f)):Do j O 783 [.ref H.length,.ref t,.ref g] (H++[C0 []]) .none f:=by exact am [(bo,V.ref<|List.length H),(eJ,V.ref t),(eR,V.ref g)] rfl<|sk 2<|aj Q.o (h _) rfl<|aj Q.s (u _) rfl<|sk 2<|aj Q.o (h _) rfl<|aj Q.s (x _) rfl<|sk 1<|aj Q.o (k _ _) rfl<|aj Q.s (y _) rfl rfl
def FS(h:bin .Add (.str []) (.str tx) [ay [] 0 0 [] .none]=some (.ok (.str tx) [ay [] 0 0 [] .none])):Do j O 589 [.ref 0,.str tx] [ay [] 0 0 [] .none] .none [ay tx 0 0 [] .none]:=by exact am [(bo,V.ref 0),(bb,V.str tx)] rfl<|sk 3<|aj Q.m h rfl rfl
end
noncomputable abbrev Cr:Str:=⟨#[101,110,116,105,116,121,95,101,118,101,110,116,115]⟩
abbrev lE(c:Nat)(tx:List Nat)(B P F:Nat)(v:V):Loc:=[(bo,.ref c),(bb,.str tx),(b7,.int 0),(Bc,.ref B),(k6,.ref P),(ph,.ref F),(Fd,v)]
noncomputable abbrev qg:List Nat:=[101,110,116,105,116,105,101,115,32,115,116,97,110,100,32,116,111,111,32,100,101,101,112,32,119,105,116,104,105,110,32,111,110,101,32,97,110,111,116,104,101,114]
section
variable{O:ap}{H f u h I:aq}{c g q t n B P F i:Nat}{tx ds:List Nat}{v:V}
def PB(aw:O none (.fn 762) [.str tx,.int 0] H=some (.ok .none H)):Do j O 790 [.ref c,.str ao,.str tx,.int 0] H (.ref H.length) (H++[.list [.tup [.str ao,.str tx]]]):=by exact am [(bo,V.ref c),(eD,V.str ao),(bb,V.str tx),(b7,V.int 0)] rfl<|sk 6<|aj Q.m aw rfl rfl
def Gd(e:h5 (.str tx) (some<|.int ((1:Nat):Int)) (some<|.int<|-1) H=some (.ok (.str x) H))(z:dy tab O none (.ref c) EE H=eN c 818 O)(aw:O none (.fn 818) [.ref c,.str x,.int 0] H=some (.ok v f)):Do j O 790 [.ref c,.str dP,.str tx,.int 0] H v f:=by exact am [(bo,V.ref c),(eD,V.str dP),(bb,V.str tx),(b7,V.int 0)] rfl<|sk 7<|aj Q.g z rfl<|sk 2<|aj Q.m e rfl<|sk 1<|aj Q.m aw rfl rfl
def Hh(e:h5 (.str tx) (some<|.int ((1:Nat):Int)) (some<|.int<|-1) H=some (.ok (.str x) H))(z:dy tab O none (.ref c) EE H=eN c 818 O)(aw:O none (.fn 818) [.ref c,.str x,.int 0] H=some (.exc i f)):aF (j+60) tab O none (.fn 790) [.ref c,.str dP,.str tx,.int 0] H=some (.exc i f):=by exact am [(bo,V.ref c),(eD,V.str dP),(bb,V.str tx),(b7,V.int 0)] rfl<|sk 7<|aj Q.g z rfl<|sk 2<|aj Q.m e rfl<|sk 1<|aj Q.m aw rfl rfl
section
variable(aw:O none (.fn 105) [.str (101::ds)] H=some (.ok (.bool true) H))(aG:O none (.fn 332) [.str (101::ds)] H=some (.ok .none H))(f1:dI c eJ H (.ref t))(y:dy tab O none (.ref t) F1 H=eN t 1053 O)(da:O none (.fn 1053) [.ref t,.str (101::ds)] H=some (.ok (.str tx) H))(z:dI c eR H (.ref g))(f4:dy tab O none (.ref g) Jv H=eN g 374 O)(fP:O none (.fn 374) [.ref g,.str (101::ds),.str tx] H=some (.ok .none f))(C:dI c eR f (.ref g))(D:dI g gZ f (.ref q))(E:bP tab O none (.blt .len) [.ref q] f=some (.ok (.int (n:Nat)) f))
include aw aG f1 y da z f4 fP C D E
theorem Jt(k:Nat.blt 60 n=false)(x:dy tab O none (.ref c) Cr f=eN c 825 O)(N:O none (.fn 825) [.ref c,.str tx,.int 0] f=some (.ok (.ref r) u))(I:dI c eR u<|.ref g)(J:dy tab O none (.ref g) NA u=eN g 367 O)(T:O none (.fn 367) [.ref g] u=some (.ok .none h)):Do j O 818 [.ref c,.str<|101::ds,.int 0] H (.ref r) h:=by exact am [(bo,V.ref c),(ji,V.str<|101::ds),(b7,V.int 0)] rfl<|sk 6<|aj Q.m aw rfl<|sk 3<|aj Q.m aG rfl<|sk 5<|aj Q.m f1 rfl<|aj Q.g y rfl<|sk 1<|aj Q.m da rfl<|sk 2<|aj Q.m z rfl<|aj Q.g f4 rfl<|sk 2<|aj Q.m fP rfl<|sk 2<|aj Q.m C rfl<|aj Q.m D rfl<|aj Q.m E rfl<|sk 1<|aj (λb=>Q.c<|some b) k rfl<|sk 2<|aj Q.g x rfl<|sk 2<|aj Q.m N rfl<|sk 2<|aj Q.m I rfl<|aj Q.g J rfl<|aj Q.m T rfl rfl
theorem NH(h:Nat.blt 60 n=false)(k:dy tab O none (.ref c) Cr f=eN c 825 O)(x:O none (.fn 825) [.ref c,.str tx,.int 0] f=some (.exc i u)):aF (j+60) tab O none (.fn 818) [.ref c,.str<|101::ds,.int 0] H=some (.exc i u):=by exact am [(bo,V.ref c),(ji,V.str<|101::ds),(b7,V.int 0)] rfl<|sk 6<|aj Q.m aw rfl<|sk 3<|aj Q.m aG rfl<|sk 5<|aj Q.m f1 rfl<|aj Q.g y rfl<|sk 1<|aj Q.m da rfl<|sk 2<|aj Q.m z rfl<|aj Q.g f4 rfl<|sk 2<|aj Q.m fP rfl<|sk 2<|aj Q.m C rfl<|aj Q.m D rfl<|aj Q.m E rfl<|sk 1<|aj (λb=>Q.c<|some b) h rfl<|sk 2<|aj Q.g k rfl<|sk 2<|aj Q.m x rfl rfl
theorem Ki(h:Nat.blt 60 n=true)(k:bP tab O none (.fn 174) [.str qg] f=some (.ok (.ref i) u))(x:∀loc,nN tab none loc (.ref i) u=some (.exc i loc u)):aF (j+60) tab O none (.fn 818) [.ref c,.str<|101::ds,.int 0] H=some (.exc i u):=by exact am [(bo,V.ref c),(ji,V.str<|101::ds),(b7,V.int 0)] rfl<|sk 6<|aj Q.m aw rfl<|sk 3<|aj Q.m aG rfl<|sk 5<|aj Q.m f1 rfl<|aj Q.g y rfl<|sk 1<|aj Q.m da rfl<|sk 2<|aj Q.m z rfl<|aj Q.g f4 rfl<|sk 2<|aj Q.m fP rfl<|sk 2<|aj Q.m C rfl<|aj Q.m D rfl<|aj Q.m E rfl<|sk 1<|aj (λb=>Q.c<|some b) h rfl<|sk 2<|aj Q.m k rfl<|aj Q.s (x _) rfl rfl
end
section
variable(f1:dI c eJ H (.ref t))(y:dI c eR H (.ref g))(aw:bP tab O none (.fn 828) [.ref t,.ref g] H=some (.ok (.ref B) f))(aG:bP tab O none (.fn 620) [] f=some (.ok (.ref P) u))(z:dy tab O none (.ref P) S' u=eN P 589 O)(da:O none (.fn 589) [.ref P,.str tx] u=some (.ok .none h))(f4:dy tab O none (.ref P) wG (h++[.list []])=eN P 610 O)(fP:O none (.fn 610) [.ref P,.bool true] (h++[.list []])=some (.ok v I))
include f1 y aw aG z da f4 fP
theorem OF(w:d0 O (j+59) 825 5 (lE c tx B P h.length v) I=some (.ok .next (lE c tx B P h.length .none) k))(C:dI B iz k<|.ref N)(D:cN .NotEq (.ref N) (.ref k.length) (k++[.list []])=some false):Do j O 825 [.ref c,.str tx,.int 0] H (.ref h.length) (k++[.list []]):=by exact am [(bo,V.ref c),(bb,V.str tx),(b7,V.int 0)] rfl<|sk 2<|aj Q.m f1 rfl<|sk 1<|aj Q.m y rfl<|aj Q.m aw rfl<|sk 2<|aj Q.m aG rfl<|sk 2<|aj Q.g z rfl<|sk 1<|aj Q.m da rfl<|sk 2<|aj Q.g f4 rfl<|aj Q.m fP rfl<|sk 1<|aj Q.s w rfl<|sk 1<|aj Q.m C rfl<|aj Q.c D rfl rfl
theorem Ow(w:d0 O (j+59) 825 5 (lE c tx B P h.length v) I=some (.exc i (lE c tx B P h.length v) k)):aF (j+60) tab O none (.fn 825) [.ref c,.str tx,.int 0] H=some (.exc i k):=by exact am [(bo,V.ref c),(bb,V.str tx),(b7,V.int 0)] rfl<|sk 2<|aj Q.m f1 rfl<|sk 1<|aj Q.m y rfl<|aj Q.m aw rfl<|sk 2<|aj Q.m aG rfl<|sk 2<|aj Q.g z rfl<|sk 1<|aj Q.m da rfl<|sk 2<|aj Q.g f4 rfl<|aj Q.m fP rfl<|sk 1<|aj Q.s w rfl rfl
end
section
variable(f1:dy tab O none (.ref F) ja H=nO F ja)(y:dy tab O none (.ref B) If H=eN B 790 O)
include f1 y
theorem Q4(aw:O none (.fn 790) [.ref B,.str kd,.str x,.int 0] H=some (.ok (.ref r) f))(e:ob (dn f[F]?) (λl=>eH ja F l [.ref r] f)=some (.ok .none u))(z:dy tab O none (.ref P) wG u=eN P 610 O)(da:O none (.fn 610) [.ref P,.bool true] u=some (.ok v h)):d0 O (j+40) 825 5 (lE c tx B P F<|pv kd x 0) H=d0 O (j+39) 825 5 (lE c tx B P F v) h:=by exact fB<|sk 4<|aj Q.g f1 rfl<|sk 1<|aj Q.g y rfl<|sk 4<|aj Q.m aw rfl<|aj Q.m e rfl<|sk 1<|aj Q.g z rfl<|aj Q.m da rfl rfl
theorem Tc(aw:O none (.fn 790) [.ref B,.str kd,.str x,.int 0] H=some (.exc i f))(z:f[i]? =some (.exc 174 a1 a2)):d0 O (j+40) 825 5 (lE c tx B P F<|pv kd x 0) H=some (.exc i (lE c tx B P F<|pv kd x 0) f):=by exact fB<|sk 4<|aj Q.g f1 rfl<|sk 1<|aj Q.g y rfl<|sk 4<|aj Q.m aw rfl<|aj Q.o z rfl rfl
end
noncomputable abbrev jB:au:=.exc 174 none none
noncomputable abbrev uV(i:Nat):au:=.exc 174 (some i) none
def GD:aF (j+60) tab O none (.fn 126) [.ref H.length,.str k] (H++[jB])=some (.ok .none<|H++[uV<|H.length+1,.dict [(dR,.str k)]]):=by
 have e:oN tab [.ref H.length,.str k] (H++[jB])=some (.ok .none<|H++[jB]):=by show ob (H++[jB])[H.length]? _=_;exact Y cX rfl
 have g:(H++[jB])[H.length]? =some jB:=cX;have s:∀loc,i7 tab dR (.str k) loc H.length (H++[jB]) jB=some (.ok .next loc<|H++[uV<|H.length+1,.dict [(dR,.str k)]]):=λloc=>by show some (RS.ok .next loc<|(H++[jB]).set H.length (.exc 174 (some (H++[jB]).length) none)++[.dict [(dR,.str k)]])=_;exact Y nz<|Y a0<|Y (br ..) rfl
 exact am [(bo,V.ref<|List.length H),(dR,V.str k)] rfl<|sk 4<|aj Q.m e rfl<|sk 2<|aj Q.o g rfl<|aj Q.s (s _) rfl rfl
def MZ:d0 O (j+40) 825 5 (lE c tx B P F .none) H=some (.ok .next (lE c tx B P F .none) H):=by exact fB rfl
end
section
variable{z:Nat}
def d3(h:H[i]? =some (.inst E f))(aP:bi E tab.cls=some k)(he:aB k.exc none (ur m k i H<|aC m f)=some (.ok v H)):dI i m H v:=by show ob H[i]? _=_;refine Y h ?_;show ob (bi E tab.cls) _=_;exact Y aP he
def d'(h:H[i]? =some (.inst E f))(aP:bi E tab.cls=some k)(j:jP (aC m f)=true)(u:k.exc=false)(x:aC m k.eC=some z):dy tab O none (.ref i) m H=eN i z O:=by show ob H[i]? _=_;refine Y h ?_;show b6 (jP<|aC m f) (ob (bi E tab.cls) _)=_;refine Y j<|Y aP ?_;show aB k.exc none (ob (aC m k.eC) _)=_;exact Y u<|Y x rfl
def rU(h:H[i]? =some (.list l))(f:ky m=true):dy tab O none (.ref i) m H=nO i m:=by show ob H[i]? _=_;refine Y h ?_;show b6 (ky m) _=_;exact Y f rfl
end
def mM(l q s:Nat):au:=.inst 377 [(eh,.ref l),(gU,.int (s:Nat)),(gZ,.ref q)]
def LL(H:aq)(g l q:Nat)(s:Nat)(op:List V)(G:aq):aq:=(H.set g<|mM l q s).set q (.list op)++G
noncomputable def EH:au->Nat|.inst E _=>E+5|.list _=>0|.exc ..=>1|.dict _=>2|.cell _=>3
structure Gro(H:aq)(g l q:Nat):Prop where
 hg:H[g]? =some (mM l q 0)
 bk:H[q]? =some (.list [])
section
variable{H:aq}{g l q:Nat}(B:Gro H g l q){i:Nat}
include B
theorem Gro.gl:g<H.length:=(b4.mp B.hg).1
theorem Gro.ql:q<H.length:=(b4.mp B.bk).1
theorem Gro.ne:q≠g:=λe=>by have h:=az dn B.bk;rw[e,B.hg]at h;exact aW h
omit B in
theorem ml:(LL H g l q s op G).length=H.length+G.length:=by unfold LL;exact Y a0<|Y er<|Y er rfl
omit B in
theorem u2(h:i<H.length):(LL H g l q s op G)[i]? =((H.set g<|mM l q s).set q<|.list op)[i]? :=dO<|by refine Y er<|Y er ?_;exact h
theorem jJ:(LL H g l q s op G)[g]? =some (mM l q s):=Y (u2 B.gl)<|Y (o0 B.ne)<|Y (qZ B.gl) rfl
theorem oW:(LL H g l q s op G)[q]? =some (.list op):=by exact Y (u2 B.ql)<|Y (qZ<|by rw[er];exact B.ql) rfl
theorem j6(h:H[i]? =some o)(n:(Nat.beq (EH o) 382||Nat.beq (EH o) 0)=false):(LL H g l q s op G)[i]? =some o:=by
 have f:g≠i:=λe=>by rw[<-e,B.hg]at h;obtain rfl:=aQ h;exact ff<|n.symm
 have j:q≠i:=λe=>by rw[<-e,B.bk]at h;obtain rfl:=aQ h;exact ff<|n.symm
 exact Y (u2 (b4.mp h).1)<|Y (o0 j)<|Y (o0 f)<|Y h rfl
omit B in
theorem Ti:(LL H g l q s op G)[H.length+i]? =G[i]? :=by unfold LL;exact Y (dp<|by rw[er,er];exact bE ..)<|Y er<|Y er<|Y (ez ..) rfl
theorem FW:(LL H g l q s op G).set g (mM l q J)=LL H g l q J op G:=by unfold LL;exact Y (List.set_append_left _ _<|by rw[er,er];exact B.gl)<|Y (List.set_comm _ _ B.ne)<|Y (List.set_set ..)<|Y (List.set_comm _ _ B.ne.symm) rfl
theorem y5:(LL H g l q s op G).set q (.list f)=LL H g l q s f G:=by unfold LL;exact Y (List.set_append_left _ _<|by rw[er,er];exact B.ql)<|Y (List.set_set ..) rfl
omit B in
theorem Om:(LL H g l q s op G).set (H.length+i) o=LL H g l q s op (G.set i o):=by unfold LL;exact Y (qh _ _<|by rw[er,er];exact bE ..)<|Y er<|Y er<|Y (ez ..) rfl
omit B in
theorem qX:LL H g l q s op G++X=LL H g l q s op (G++X):=br ..
omit B in
theorem qU:(LL H g l q s op<|G++X)[H.length+(G.length+i)]? =X[i]? :=by exact Y Ti<|Y (dp<|bE ..)<|Y (ez ..) rfl
omit B in
theorem O':(LL H g l q s op<|G++X).set (H.length+(G.length+i)) o=LL H g l q s op (G++X.set i o):=by exact Y Om<|Y (qh _ _<|bE ..)<|Y (ez ..) rfl
end
def fy(hd:Option Nat)(a:V)(l:List Addr):Option Addr:=match a with|.fn z=>(match bv z l with|true=>mS hd z|false=>none)|_=>none
def Oh(O:ap):ap:=λhd a D H=>match fy hd a [818,825,790]with
 |some _=>aF NN tab O hd a D H
 |none=>match fy hd a [105,575,589,610]with|some z=>bD (λD H=>aF NN tab (ax 19) none (.fn z) D H) D H|none=>ax 20 hd a D H
def b5(d:Nat):ap:=Nat.rec (λ_ _ _ _=>none) (λ_ O=>Oh O) d
def rP{hd:Option Nat}(e:fy hd a l=some z):hd=none/\a=.fn z:=by
 induction a using V.casesOn with
 |fn g=>have e:(match bv g l with|true=>mS hd g|false=>none)=some z:=e;revert e;rcases h:bv g l;intro e;exact aW e;intro e;rcases hd;obtain rfl:=aQ e;exact⟨rfl,rfl⟩;exact aW e
 |_=>exact aW e
section
variable{I:Program}{K:al}{B:Frag}(G:cy K tab B)(j:eQ K tab)(M:fX I K)(af:g8 I K)
include G j M af
theorem G7:∀d,dc I K (61+d) (b5 d):=by
 intro d;induction d with
 |zero=>exact⟨λ_ _ _ _ e=>nomatch e⟩
 |succ d N=>
  have J:=N;refine jj (lQ (T:=tab) G j M af J NN) λU W _ _=>⟨λ{F loc f H s a u D us r} C R E q e=>?_⟩;have e:(match fy F.hd a [818,825,790]with
   |some _=>aF NN tab (b5 d) F.hd a D H
   |none=>match fy F.hd a [105,575,589,610]with|some z=>bD (λD H=>aF NN tab (ax 19) none (.fn z) D H) D H|none=>ax 20 F.hd a D H)=some r:=e
  revert e;rcases h:fy F.hd a [818,825,790]
  .intro e;have e:(match fy F.hd a [105,575,589,610]with|some z=>bD (λD H=>aF NN tab (ax 19) none (.fn z) D H) D H|none=>ax 20 F.hd a D H)=some r:=e
   revert e;rcases k:fy F.hd a [105,575,589,610]with _|z;intro e;exact(wI G j M af 20).call (C.mono<|bE 61 _) R E q e;intro e;refine aS (rP k) λy O=>?_;clear h k;subst O;exact fJ (tq G j M af (wI G j M af 19) (z:=z) e (C.mono<|bE 61 _) y R E q) λ_ _ x=>x.weak
  intro e;exact(sO G U W).call C R E q e
end
def b3(k:Nat):List Nat:=101::hC 30 k []
def bT(k:Nat):List Nat:=match k with|0=>[120]|k+1=>38::(b3 k++[59])
def yJ(k:Nat):List Nat:=match k with|0=>ao|_+1=>dP
noncomputable def j3(z:Nat->Bool):Nat->Bool|0=>true|n+1=>match z n with|true=>j3 z n|false=>false
def oX:∀{n},j3 z n=true->∀k,k<n->z k=true:=by
 intro n;induction n with
 |zero=>intro _ k h;exact absurd h<|g6 k
 |succ n f=>intro e k h;have e:(match z n with|true=>j3 z n|false=>false)=true:=e;revert e;rcases y:z n;intro e;exact ff e;intro e;rcases dJ k n with C|C;exact f e k C;exact Y (cf (eZ h) C) y
def AW(i k:Nat):Bool:=match ar (b3 i) (b3 k)with|true=>Nat.beq i k|false=>!Nat.beq i k
def RW(k:Nat):Bool:=j3 (AW k) 64
def wz(o:Option V)(a:V):Bool:=match o with|some b=>iH b a|none=>false
def Ay(k:Nat):Bool:=wz (gN (.str<|bT<|k+1) (some<|.int ((1:Nat):Int))<|some<|.int<|-1)<|.str<|b3 k
noncomputable def Hx:Seen->Bool|.no=>true|_=>false
def De(k:Nat):Bool:=iH (n9 0 (bT k)<|bK (bT k) .no true) (pv (yJ k) (bT k) 0)&&(Nat.beq (bK (bT k) .no true).2.1 (bT k).length&&(Hx (bK (bT k) .no true).2.2&&(c7 (bT k) .no&&Nat.ble (bT k).length 5)))
def JV(x:List Nat):M V:=aF NN tab (ax 19) none (.fn 105) [.str x] []
def yp(m:M V):Bool:=match m with
 |none=>false
 |some q=>match q with|.exc _ _=>false|.ok a _=>iH a<|.bool true
def FH(k:Nat):Bool:=yp<|JV<|b3 k
def KX:j3 RW 64=true:=by decide+kernel
def Sv:j3 Ay 64=true:=by decide+kernel
def QS:j3 De 64=true:=by decide+kernel
def Mz:j3 FH 64=true:=by decide+kernel
def Fb(j:cm w=[])(f:∀ρ,bF ρ w=w)(h:yp (X w [])=true):bD X w H=some (.ok (.bool true) H):=by revert h;rcases e:X w []with _|r;intro h;exact ff h;intro h;rcases r with⟨a,G⟩|_;obtain rfl:=lg h;refine(xG (J:=[]) (by exact Y j rfl) (by exact Y j rfl)<|by refine Y (f ..) ?_;exact e).trans ?_;show back H [] (.bool true) G (λρ H'=>some<|.ok (bl ρ<|.bool true) H')=_;refine(ti (J:=[]) (kl:=[]) (y:=[]) (H:=H) (x:=G) (b:=.bool true) (by show reach 4000 G (cC G 0) []=some [];cases G<;>rfl) rfl ?_).trans ?_;show(true&&(true&&(true&&(true&&(true&&true)))))=true;rfl;show some (R.ok (V.bool true)<|H++[])=_;exact Y (be ..) rfl;exact ff h
section
variable{n:Nat}
def xJ(h:k<64):b5 (d+1) none (.fn 105) [.str<|b3 k] H=some (.ok (.bool true) H):=Fb rfl (λ_=>rfl)<|oX Mz k h
def Fk(h:k<64):h5 (.str<|bT<|k+1) (some<|.int ((1:Nat):Int)) (some<|.int<|-1) H=some (.ok (.str<|b3 k) H):=by have e:=oX Sv k h;unfold Ay at e;unfold h5;revert e;rcases c:gN (.str (bT (k+1))) (some (.int ((1:Nat):Int))) (some (.int (-1)))with _|b;intro e;exact ff e;intro e;clear c;obtain rfl:=lg e;rfl
structure qP(x kd:List Nat):Prop where
 v:n9 0 x (bK x .no true)=pv kd x 0
 n:(bK x .no true).2.1=x.length
 s:(bK x .no true).2.2=.no
 o:xA x .no
 l:x.length<=5
def tN(h:k<64):qP (bT k) (yJ k):=by have e:=oX QS k h;unfold De at e;refine zb e λe1 e=>zb e λj e=>zb e λf e=>zb e λu x=>⟨lg e1,cd j,?_,t7 u,bG x⟩;cases c:(bK (bT k) .no true).2.2<;>rw[c]at f<;>first|rfl|exact ff f
def BB(f:i<64)(h:k<64)(n:i≠k):ar (b3 i) (b3 k)=false:=by have e:=oX (oX KX i f) k h;unfold AW at e;rcases c:ar (b3 i) (b3 k);rfl;rw[c]at e;exact absurd (cd e) n
def Ga:aF NN tab (ax 19) none (.fn 575) [.ref 0] [.inst 620 []]=some (.ok .none [e4]):=nq<|by decide+kernel
def Mf(h:H[i]? =some (.inst 620 [])):b5 (d+1) none (.fn 575) [.ref i] H=some (.ok .none<|H.set i e4):=hJ (X:=λD H=>aF NN tab (ax 19) none (.fn 575) D H) (w:=[]) (o:=.inst 620 []) (o':=e4) (G:=[]) h ⟨rfl,λ_=>rfl⟩ .nil (cg (s:=.no)) .none Ga
def RY(aE:x.length<=5)(h:H[i]? =some e4):b5 (d+1) none (.fn 589) [.ref i,.str x] H=some (.ok .none<|H.set i<|ay x 0 0 [] .none):=
 hJ (X:=λD H=>aF NN tab (ax 19) none (.fn 589) D H) (w:=[.str x]) (o:=e4) (o':=ay x 0 0 [] .none) (G:=[]) h (cg (s:=.no)) (.cons .str .nil) (cg (s:=.no)) .none
  (FS (O:=ax 19) (j:=199940) (by show as (cq<|0+x.length) _=_;refine Y (g9<|by rw[eW];exact av aE<|by decide) ?_;rfl))
def Us(t:qP x kd)(h:H[i]? =some (ay x 0 0 [] .none)):b5 (d+1) none (.fn 610) [.ref i,.bool true] H=some (.ok (pv kd x 0)<|H.set i<|ay x x.length x.length [] .none):=by
 have hm:x.length<=bg:=av t.l<|by decide
 have m:=vP (O:=ax 19) (j:=199940) (p:=0) (h:=[]) (G:=[]) (u:=true) (ma 15) (gO 17) (cW 18) (lf 17) (s:=.no) (x:=x) (k:=0) (r:=x) rfl (bJ _) hm t.o;have e:=hJ (X:=λD H=>aF NN tab (ax 19) none (.fn 610) D H) (i:=i) (H:=H) (w:=[.bool true]) h (cg (s:=.no)) (.cons .bool .nil) (cg (bK x .no true).2.2) zn m;refine e.trans<|Y t.v ?_;show some (R.ok _<|H.set i<|ay x (0+(bK x .no true).2.1) (0+(bK x .no true).2.1) [] (bK x .no true).2.2.aA)=_;exact Y t.n<|Y t.s<|Y (eW ..) rfl
def QW(aE:x.length<=5)(h:H[i]? =some (ay x x.length x.length [] .none)):b5 (d+1) none (.fn 610) [.ref i,.bool true] H=some (.ok .none H):=by
 have hm:x.length<=bg:=av aE<|by decide
 have m:=vP (O:=ax 19) (j:=199940) (p:=x.length) (h:=[]) (G:=[]) (u:=true) (ma 15) (gO 17) (cW 18) (lf 17) (s:=.no) (x:=x) (k:=x.length) (r:=[]) (List.drop_eq_nil_of_le<|ba _) (ba _) hm trivial;have e:=hJ (X:=λD H=>aF NN tab (ax 19) none (.fn 610) D H) (i:=i) (H:=H) (w:=[.bool true]) h (cg (s:=.no)) (.cons .bool .nil) (cg (s:=.no)) .none m;refine e.trans ?_;show some (R.ok V.none<|H.set i<|ay x x.length x.length [] .none)=_;exact Y (la h) rfl
end
def D8(k:Nat):au:=.inst 956 [(ji,.str<|b3 k),(xF,.str<|bT k),(JU,.none),(DV,.none)]
def DS:au:=.inst 921 [(iX,.int ((400:Nat):Int)),(iy,.int ((100000:Nat):Int))]
structure gu where
 H:aq
 t:Nat
 l:Nat
 g:Nat
 q:Nat
 d:Nat
 o:Nat
 p:Nat
 m:Nat
 a:Nat->Nat
 es:List (Str×V)
structure gu.Ok(U:gu):Prop extends Gro U.H U.g U.l U.q where
 ht:U.H[U.t]? =some (pX U.l U.o U.d U.p)
 hl:U.H[U.l]? =some DS
 hd:U.H[U.d]? =some (.dict U.es)
 he:∀k,k<U.m->aC ⟨(b3 k).toArray⟩ U.es=some (.ref (U.a k))/\U.H[U.a k]? =some (D8 k)
 hm:U.m<=64
abbrev gu.L(U:gu)(s:Nat)(op:List V)(G:aq):aq:=LL U.H U.g U.l U.q s op G
def GL:eH jY i l [] H=ob l.getLast? λv=>rt v (H.set i<|.list l.dropLast):=by unfold eH;generalize l.getLast?=o;cases o<;>rfl
section
variable{U:gu}(B:U.Ok){n:Nat}
include B
theorem qy:dI U.g gZ (U.L s op G) (.ref U.q):=d3 (jJ B.toGro) rfl rfl
theorem Bv:dI U.g gU (U.L s op G) (.int (s:Nat)):=d3 (jJ B.toGro) rfl rfl
theorem C4:dI U.g eh (U.L s op G) (.ref U.l):=d3 (jJ B.toGro) rfl rfl
theorem FQ:dI U.l iX (U.L s op G) (.int ((400:Nat):Int)):=d3 (j6 B.toGro B.hl rfl) rfl rfl
theorem He:dI U.l iy (U.L s op G) (.int ((100000:Nat):Int)):=d3 (j6 B.toGro B.hl rfl) rfl rfl
theorem sp:bP tab O none (.blt .len) [.ref U.q] (U.L s op G)=some (.ok (.int (op.length:Nat))<|U.L s op G):=by show ip (U.L s op G)[U.q]? _=_;exact Y (oW B.toGro) rfl
theorem NB(f:op.length<400)(h:fK x op=some false):ax (d+1) none (.fn 360) [.ref U.g,.str x] (U.L s op G)=some (.ok .none<|U.L s (op++[.str x]) G):=by refine SN (O:=ax d) (j:=199940) (n:=op.length) (qy B) ?_ (sp B) (C4 B) (FQ B) (dw f) (rU (oW B.toGro) rfl) ?_;show ob (U.L s op G)[U.q]? (wP x)=_;exact Y (oW B.toGro) h;exact Y (oW B.toGro)<|(tV<|nS f<|by decide).trans<|Y (y5 B.toGro) rfl
theorem P6(f:s+n<=1000):ax (d+1) none (.fn 353) [.ref U.g,.int (n:Nat)] (U.L s op G)=some (.ok .none<|U.L (s+n) op G):=by
 refine UF (O:=ax d) (j:=199940) (n:=s+n) (Bv B) rfl (jJ B.toGro) (λloc=>?_) (Bv B) (C4 B) (He B)<|kN<|av f<|by decide
 show some (RS.ok .next loc<|(U.L s op G).set U.g<|mM U.l U.q<|s+n)=_;exact Y (FW B.toGro) rfl
theorem ye{tx:List Nat}(f:op.length<400)(h:fK x op=some false)(k:s+tx.length<=1000):b5 (d+1) none (.fn 374) [.ref U.g,.str x,.str tx] (U.L s op G)=some (.ok .none<|U.L (s+tx.length) (op++[.str x]) G):=Nv (O:=ax 19) (j:=199940) (d' (jJ B.toGro) rfl rfl rfl rfl) (NB B (d:=18) f h) (d' (jJ B.toGro) rfl rfl rfl rfl) (P6 B (d:=18) k)
theorem PN:b5 (d+1) none (.fn 367) [.ref U.g] (U.L s (op++[v]) G)=some (.ok .none<|U.L s op G):=by refine J4 (O:=ax 19) (j:=199940) (v:=v) (qy B) (rU (oW B.toGro) rfl)<|Y (oW B.toGro)<|GL.trans<|Y List.getLast?_concat<|Y List.dropLast_concat<|Y (y5 B.toGro) ?_;rfl
omit B in
theorem xu:b5 (d+1) none (.fn 332) [.str<|b3 k] H=some (.ok .none H):=yA (O:=ax 19) (j:=199940)
theorem uN(h:k<U.m):b5 (d+1) none (.fn 1053) [.ref U.t,.str<|b3 k] (U.L s op G)=some (.ok (.str<|bT k)<|U.L s op G):=by
 refine aS (B.he k h) λf u=>?_;have ht:=j6 B.toGro (s:=s) (op:=op) (G:=G) B.ht rfl;have x:=j6 B.toGro (s:=s) (op:=op) (G:=G) u rfl;have hd:=j6 B.toGro (s:=s) (op:=op) (G:=G) B.hd rfl;have y:ax 18 none (.fn 332) [.str<|b3 k] (U.L s op G)=some (.ok .none<|U.L s op G):=yA (O:=ax 17) (j:=199940);refine Jh (O:=ax 19) (j:=199940) (a:=U.a k) (O8 (O:=ax 18) (j:=199940) y) (d' ht rfl rfl rfl rfl) (FL (O:=ax 18) (j:=199940) (d:=U.d) (d3 ht rfl rfl) ?_ ?_) (d' ht rfl rfl rfl rfl)
  (Hy (O:=ax 18) (j:=199940) (d' x rfl rfl rfl rfl) (Tn (O:=ax 17) (j:=199940)<|d3 x rfl rfl) (d' x rfl rfl rfl rfl) (NS (O:=ax 17) (j:=199940) (tx:=bT k)<|d3 x rfl rfl)<|d3 x rfl rfl)
 show(ob (U.L s op G)[U.d]? (wP<|b3 k)).map (!·)=_;refine Y hd ?_;show(some (aC ⟨(b3 k).toArray⟩ U.es).isSome).map (!·)=_;exact Y f rfl;show ob (ob (U.L s op G)[U.d]? (rI<|.str<|b3 k)) _=_;refine Y hd ?_;show ob (aC ⟨(b3 k).toArray⟩ U.es) _=_;exact Y f rfl
omit B in
theorem G':b5 (d+1) none (.fn 762) [.str [120],.int 0] H=some (.ok .none H):=BG 16 [120] 0 H<|by decide
def fE(U:gu)(n:Nat):au:=.inst 828 [(eJ,.ref U.t),(eR,.ref U.g),(iz,.ref n)]
omit B in
theorem Nw:bP tab (b5<|d+1) none (.fn 828) [.ref U.t,.ref U.g] (U.L s op G)=some (.ok (.ref<|U.H.length+G.length)<|U.L s op<|G++[fE U<|U.H.length+G.length+1,.list []]):=by have e:=lt (E:=828) (z:=783) (O:=b5<|d+1) (A:=U.L s op G) (D:=[.ref U.t,.ref U.g]) (u:=U.L s op<|G++[fE U<|U.H.length+G.length+1,.list []]) rfl rfl rfl rfl ?_;rw[ml]at e;exact e;refine Gq (O:=ax 19) (j:=199940) (H:=U.L s op G) (λo=>cX) (λloc=>?_) (λloc=>?_) (λo p=>?_) λloc=>?_;show some (RS.ok .next loc<|(U.L s op G++[C0 []]).set (U.L s op G).length _)=_;exact Y nz rfl;show some (RS.ok .next loc<|(U.L s op G++[C0 _]).set (U.L s op G).length _)=_;exact Y nz rfl;exact Y (br ..) iK;show some (RS.ok .next loc<|(U.L s op G++[C0 _]++[au.list []]).set (U.L s op G).length _)=_;exact Y (br ..)<|Y (qh _ _<|ba _)<|Y (ew ..)<|Y a0<|Y ml<|Y qX rfl
omit B in
theorem IY:bP tab (b5<|d+1) none (.fn 620) [] (U.L s op G)=some (.ok (.ref<|U.H.length+G.length)<|U.L s op<|G++[e4]):=by have e:=lt (E:=620) (z:=575) (O:=b5<|d+1) (A:=U.L s op G) (D:=[]) (u:=U.L s op<|G++[e4]) rfl rfl rfl rfl ?_;rw[ml]at e;exact e;exact(Mf cX).trans<|Y nz<|Y qX rfl
end
abbrev jH:V:=.tup [.str ao,.str [120]]
noncomputable def wt:Nat->Nat|0=>1|k+1=>(bT<|k+1).length+wt k
noncomputable def pN(U:gu):Nat->Nat->aq|0,b=>[fE U<|b+1,.list [],ay (bT 0) (bT 0).length (bT 0).length [] .none,.list [jH],.list [jH],.list []]|k+1,b=>fE U (b+1)::.list []::ay (bT<|k+1) (bT<|k+1).length (bT<|k+1).length [] .none::.list [jH]::(pN U k (b+4)++[.list []])
def Gs:(pN U k b)[3]? =some (.list [jH]):=by cases k<;>rfl
section
variable{U:gu}(B:U.Ok){s n:Nat}{op:List V}{G X:aq}{b c:Nat}
theorem Ul{F i:Nat}(j:H[F]? =some (.list l))(h:H[i]? =some (.list m))(u:Nat.beq i F=false)(f:l.length+m.length<=1000000):ob (dn H[F]?) (λl=>eH ja F l [.ref i] H)=some (.ok .none<|H.set F<|.list<|l++m):=by refine Y j ?_;show ip H[i]? (λn=>as (cq (l.length+n.length)&&!Nat.beq i F)<|rt V.none<|H.set F<|.list<|l++n)=_;refine Y h ?_;show as (cq (l.length+m.length)&&!Nat.beq i F) _=_;exact Y (g9 f)<|Y u rfl
def iY(U:gu)(c:Nat)(G:aq):Prop:=∃n,∀s op X,(U.L s op<|G++X)[c]? =some (fE U n)
theorem kI(h:iY U c G){s op}:∃n,(U.L s op G)[c]? =some (fE U n):=by refine aU h λn h=>⟨n,?_⟩;have:=h s op [];rwa [be]at this
theorem FK(h:iY U c G):iY U c (G++X):=by exact aU h λn h=>⟨n,λs op af=>by refine Y (br ..) ?_;exact h s op<|X++af⟩
abbrev gc(U:gu)(b:Nat)(p:au)(l:List V):aq:=[fE U<|b+1,.list [],p,.list l]
theorem yU:iY U (U.H.length+G.length) (G++gc U b p l):=⟨b+1,λs op X=>by refine Y (br ..) ?_;exact qU (i:=0)⟩
end
section
variable{U:gu}(B:U.Ok){s:Nat}{op:List V}{G X:aq}{d c i:Nat}{x kd:List Nat}
structure J0(U:gu)(d s:Nat)(op:List V)(G:aq)(x kd:List Nat)(c b:Nat):Prop where
 eG:∀{s op X i},(U.L s op (G++X))[b+i]? =X[i]?
 lN:∀{s op X i o},(U.L s op (G++X)).set (b+i) o=U.L s op (G++X.set i o)
 ll:∀{s op X af},U.L s op (G++X)++af=U.L s op (G++(X++af))
 l3:(U.L s op (G++[fE U (b+1),.list [],ay x 0 0 [] .none])).length=b+3
 aw:bP tab (b5 (d+1)) none (.fn 828) [.ref U.t,.ref U.g] (U.L s op G)=some (.ok (.ref b) (U.L s op (G++[fE U (b+1),.list []])))
 aG:bP tab (b5 (d+1)) none (.fn 620) [] (U.L s op (G++[fE U (b+1),.list []]))=some (.ok (.ref (b+2)) (U.L s op (G++[fE U (b+1),.list [],e4])))
 da:b5 (d+1) none (.fn 589) [.ref (b+2),.str x] (U.L s op (G++[fE U (b+1),.list [],e4]))=some (.ok .none (U.L s op (G++[fE U (b+1),.list [],ay x 0 0 [] .none])))
 f4:dy tab (b5 (d+1)) none (.ref (b+2)) wG (U.L s op (G++[fE U (b+1),.list [],ay x 0 0 [] .none])++[.list []])=eN (b+2) 610 (b5 (d+1))
 fP:b5 (d+1) none (.fn 610) [.ref (b+2),.bool true] (U.L s op (G++[fE U (b+1),.list [],ay x 0 0 [] .none])++[.list []])=some (.ok (pv kd x 0) (U.L s op (G++gc U b (ay x x.length x.length [] .none) [])))
theorem Dg(f:U.H.length+G.length=b)(t:qP x kd):J0 U d s op G x kd c b:=by
 have eG:∀{s op X i},(U.L s op<|G++X)[b+i]? =X[i]? :=λ{s op X i}=>by refine Y f.symm<|Y (cz ..) ?_;exact qU
 have lN:∀{s op X i o},(U.L s op<|G++X).set (b+i) o=U.L s op (G++X.set i o):=λ{s op X i o}=>by refine Y f.symm<|Y (cz ..) ?_;exact O'
 have h:∀{s op X},(U.L s op<|G++X).length=b+X.length:=λ{s op X}=>Y ml<|Y a0<|Y (cz ..).symm<|Y f rfl;have ll:∀{s op X af},U.L s op (G++X)++af=U.L s op (G++(X++af)):=λ{s op X af}=>Y qX<|Y (br ..) rfl;have aw:=Nw (d:=d) (U:=U) (s:=s) (op:=op) (G:=G);have aG:=IY (d:=d) (U:=U) (s:=s) (op:=op) (G:=G++[fE U<|b+1,.list []]);rw[f]at aw;rw[br,a0,<-cz,f]at aG;refine⟨eG,lN,ll,h,aw,aG,?_,?_,?_⟩;exact(RY t.l eG).trans<|Y lN rfl;exact Y ll<|d' (eG (i:=2)) rfl rfl rfl rfl;exact Y ll<|(Us t eG).trans<|Y lN rfl
theorem DU(f:iY U c G)(t:qP x kd)(y:X[r]? =some (.list [jH]))(m:b5 (d+1) none (.fn 790) [.ref<|U.H.length+G.length,.str kd,.str x,.int 0] (U.L s op<|G++gc U (U.H.length+G.length) (ay x x.length x.length [] .none) [])=some (.ok (.ref<|U.H.length+G.length+4+r)<|U.L J h<|G++(gc U (U.H.length+G.length) (ay x x.length x.length [] .none) []++X))):b5 (d+2) none (.fn 825) [.ref c,.str x,.int 0] (U.L s op G)=some (.ok (.ref<|U.H.length+G.length+3)<|U.L J h<|G++(gc U (U.H.length+G.length) (ay x x.length x.length [] .none) [jH]++X++[.list []])):=by
 refine aU (kI f (s:=s) (op:=op)) λn k=>?_;generalize z:U.H.length+G.length=b at m⊢;obtain⟨eG,lN,ll,l3,aw,aG,da,f4,fP⟩:=Dg (U:=U) (d:=d) (s:=s) (op:=op) (c:=c) z t;have C:d0 (b5<|d+1) (199940+59) 825 5 (lE c x b (b+2) (b+3)<|pv kd x 0) (U.L s op<|G++gc U b (ay x x.length x.length [] .none) [])=some (.ok .next (lE c x b (b+2) (b+3) .none)<|U.L J h<|G++(gc U b (ay x x.length x.length [] .none) [jH]++X)):=by
  refine(Q4 (j:=199959) (r:=b+4+r) (u:=U.L J h<|G++(gc U b (ay x x.length x.length [] .none) [jH]++X)) (rU (eG (i:=3)) rfl) (d' (eG (i:=0)) rfl rfl rfl rfl) m ?_ (d' (eG (i:=2)) rfl rfl rfl rfl)<|QW t.l<|eG (i:=2)).trans MZ;refine(Ul (l:=[]) (m:=[jH]) (eG (i:=3)) ?_ ?_<|by decide).trans ?_;exact Y (cz ..)<|Y eG<|Y (cF 4 r) y;exact it λe=>absurd e<|by simp+arith
  exact Y lN rfl
 have r:=OF (O:=b5<|d+1) (j:=199940) (d3 k rfl rfl) (d3 k rfl rfl) aw aG (d' (eG (i:=2)) rfl rfl rfl rfl) da f4 fP (by refine Y l3 ?_;exact C) (d3 (eG (i:=0)) rfl rfl)<|eq_nil (by refine Y ll ?_;exact eG (i:=1)) cX;rw[l3,ll]at r;exact r
theorem FG(f:iY U c G)(t:qP x kd)(u:X[r]? =some (.exc 174 a1 a2))(m:b5 (d+1) none (.fn 790) [.ref<|U.H.length+G.length,.str kd,.str x,.int 0] (U.L s op<|G++gc U (U.H.length+G.length) (ay x x.length x.length [] .none) [])=some (.exc (U.H.length+G.length+4+r)<|U.L J h<|G++(gc U (U.H.length+G.length) (ay x x.length x.length [] .none) []++X))):b5 (d+2) none (.fn 825) [.ref c,.str x,.int 0] (U.L s op G)=some (.exc (U.H.length+G.length+4+r)<|U.L J h<|G++(gc U (U.H.length+G.length) (ay x x.length x.length [] .none) []++X)):=by refine aU (kI f (s:=s) (op:=op)) λn k=>?_;generalize y:U.H.length+G.length=b at m⊢;obtain⟨eG,lN,ll,l3,aw,aG,da,f4,fP⟩:=Dg (U:=U) (d:=d) (s:=s) (op:=op) (c:=c) y t;exact Ow (O:=b5<|d+1) (j:=199940) (d3 k rfl rfl) (d3 k rfl rfl) aw aG (d' (eG (i:=2)) rfl rfl rfl rfl) da f4 fP<|Y l3<|Tc (j:=199959) (rU (eG (i:=3)) rfl) (d' (eG (i:=0)) rfl rfl rfl rfl) m<|by refine Y (cz ..)<|Y eG<|Y (cF 4 r) ?_;exact u
include B
theorem EM(aP:k<U.m)(f:iY U c G)(u:op.length<60)(h:fK (b3 k) op=some false)(x:s+(bT k).length<=1000)(E:b5 (d+1) none (.fn 825) [.ref c,.str<|bT k,.int 0] (U.L (s+(bT k).length) (op++[.str<|b3 k]) G)=some (.ok (.ref r)<|U.L J (op++[.str<|b3 k])<|G++X)):b5 (d+2) none (.fn 818) [.ref c,.str<|b3 k,.int 0] (U.L s op G)=some (.ok (.ref r)<|U.L J op<|G++X):=by
 refine aU (kI f (s:=s) (op:=op)) λI y=>aU (kI f (s:=s+(bT k).length) (op:=op++[.str<|b3 k])) λN z=>aU (kI (FK f (X:=X)) (s:=J) (op:=op++[.str<|b3 k])) λT C=>?_;have D:k<64:=cu aP B.hm;exact Jt (O:=b5<|d+1) (j:=199940) (ds:=hC 30 k []) (xJ D) xu (d3 y rfl rfl) (d' (j6 B.toGro B.ht rfl) rfl rfl rfl rfl) (uN B aP) (d3 y rfl rfl) (d' (jJ B.toGro) rfl rfl rfl rfl) (ye B (nS u<|by decide) h x)
  (d3 z rfl rfl) (qy B) (sp B) (kN<|by refine Y a0 ?_;exact u) (d' z rfl rfl rfl rfl) E (d3 C rfl rfl) (d' (jJ B.toGro) rfl rfl rfl rfl) (PN B)
omit B in
theorem C5(h:ar x y=false):∀{op},fK x op=some false->fK x (op++[.str y])=some false:=by
 intro op;induction op with
 |nil=>intro _;show some (match ar x y with|true=>true|false=>false)=_;exact Y h rfl
 |cons a op j=>
  intro e;have e:ob (ef a) (λy=>ob (fK x op) λq=>some<|match ar x y with|true=>true|false=>q)=some false:=e;refine aK e λC hz e=>aK e λq bk e=>?_;have f:q=false:=by induction q with|false=>rfl|true=>cases z:ar x C<;>rw[z]at e<;>cases e
  subst f;show ob (ef a) (λk=>ob (fK x<|op++[.str y]) λq=>some<|match ar x k with|true=>true|false=>q)=some false;refine Y hz ?_;show ob (fK x<|op++[.str y]) _=_;exact Y (j bk) e
theorem S6:∀k,k<U.m->∀{s op G c},iY U c G->op.length+k<60->(∀i,i<=k->fK (b3 i) op=some false)->s+5*(k+1)<=1000->b5 (3*k+4) none (.fn 818) [.ref c,.str<|b3 k,.int 0] (U.L s op G)=some (.ok (.ref<|U.H.length+G.length+3)<|U.L (s+wt k) op<|G++pN U k (U.H.length+G.length)):=by
 intro k;induction k with
 |zero=>intro aP s op G c f u h x;refine EM B (d:=2) aP f u (h 0<|ba _) (av (e3 (by decide) s) x)<|DU (d:=1) (r:=0) (X:=[.list [jH]]) f (tN (k:=0)<|by decide) rfl ?_;have m:=PB (O:=b5 1) (j:=199940) (tx:=[120]) (c:=U.H.length+G.length) (H:=U.L (s+1) (op++[.str<|b3 0])<|G++gc U (U.H.length+G.length) (ay [120] 1 1 [] .none) []) G';rw[qX,br,ml,a0,<-cz]at m;exact m
 |succ k D=>
  intro aP s op G c f u h x;have z:k+1<64:=cu aP B.hm;have t:=tN z;have hl:s+(bT<|k+1).length+5*(k+1)<=1000:=by have:5*(k+1+1)=5*(k+1)+5:=gX ..;have:=t.l;exact a7 x this<|by simp+arith
  refine EM B (d:=3*k+5) aP f (e9 (bE ..) u) (h _<|ba _) (av (bE ..) hl) ?_;have i:=D (sC aP) (s:=s+(bT<|k+1).length) (op:=op++[.str<|b3<|k+1]) (G:=G++gc U (U.H.length+G.length) (ay (bT<|k+1) (bT<|k+1).length (bT<|k+1).length [] .none) []) (c:=U.H.length+G.length) yU (by refine Y a0 ?_;show op.length+1+k<60;exact aR u<|by simp+arith)
   (λi y=>C5 (BB (a7 u y<|by simp+arith) z<|kq<|Nat.lt_succ_of_le y)<|h i<|iQ y) hl
  rw[a0,<-cz,br]at i;have r:=DU (d:=3*k+4) (r:=3) (X:=pN U k<|U.H.length+G.length+4) f t Gs<|Gd (O:=b5<|3*k+4) (j:=199940) (Fk<|sC z) (d' (qU (i:=0)) rfl rfl rfl rfl) i;have C:s+(bT<|k+1).length+wt k=s+wt (k+1):=cz ..;rw[C]at r;exact r
end
def sF(b:Nat):aq:=[uV<|b+1,.dict [(dR,.str qg)]]
noncomputable def rj:Nat->Nat->Nat|0,k=>(bT k).length|e+1,k=>(bT k).length+rj e (k-1)
noncomputable def xg:Nat->Nat->List V|0,k=>[.str<|b3 k]|e+1,k=>.str (b3 k)::xg e (k-1)
noncomputable def pp(U:gu):Nat->Nat->Nat->aq|0,_,b=>sF b|e+1,k,b=>gc U b (ay (bT k) (bT k).length (bT k).length [] .none) []++pp U e (k-1) (b+4)
def OC:∀{e k b},∃a c,(pp U e k b)[4*e]? =some (.exc 174 a c):=by
 intro e;induction e with
 |zero=>intro _ _;exact⟨_,_,rfl⟩
 |succ e f=>intro k b;exact f (k:=k-1) (b:=b+4)
section
variable{U:gu}(B:U.Ok){s:Nat}{op:List V}{G:aq}{k c:Nat}
theorem PE{k:Cl}{O:ap}(aP:bi E tab.cls=some k)(y:k.init=some z)(he:k.exc=true)(f:bi z tab.fns=some fn)(m:O none (.fn z) (.ref A.length::D) (A++[.exc E none none])=some (.ok .none u)):bP tab O none (.fn E) D A=some (.ok (.ref A.length) u):=by show sU tab O none E D A (bi E tab.cls)=_;refine Y aP ?_;show ob k.init _=_;refine Y y ?_;show bd (ob (bi z tab.fns) λ_=>O none (.fn z) (.ref A.length::D)<|A++[tZ E k.exc]) _=_;refine Y he<|Y f ?_;show bd (O none (.fn z) (.ref A.length::D)<|A++[.exc E none none]) _=_;exact Y m rfl
theorem GJ:bP tab (b5<|d+1) none (.fn 174) [.str qg] (U.L s op G)=some (.ok (.ref<|U.H.length+G.length)<|U.L s op<|G++sF (U.H.length+G.length)):=by have e:=PE (E:=174) (z:=126) (O:=b5<|d+1) (A:=U.L s op G) (D:=[.str qg]) (u:=U.L s op<|G++sF (U.H.length+G.length)) rfl rfl rfl rfl ?_;rw[ml]at e;exact e;exact(GD (O:=ax 19) (j:=199940) (k:=qg) (H:=U.L s op G)).trans<|Y ml<|Y qX rfl
theorem Ix(h:H[i]? =some (.exc 174 a b))(loc):nN tab none loc (.ref i) H=some (.exc i loc H):=by show cJ (ob H[i]? λo=>ob (p1 o) λp=>ob (bi p.1 tab.sub) λ_=>lR none i H p) _=_;exact Y h rfl
include B
section
variable(aP:k<U.m)(x:iY U c G)(y:fK (b3 k) op=some false)(C:s+(bT k).length<=1000)
include aP x y C
theorem Gf(f:op.length=60):b5 (d+2) none (.fn 818) [.ref c,.str<|b3 k,.int 0] (U.L s op G)=some (.exc (U.H.length+G.length)<|U.L (s+(bT k).length) (op++[.str<|b3 k])<|G++sF (U.H.length+G.length)):=by
 refine aU (kI x (s:=s) (op:=op)) λD h=>aU (kI x (s:=s+(bT k).length) (op:=op++[.str<|b3 k])) λE u=>?_;have z:k<64:=cu aP B.hm;exact Ki (O:=b5<|d+1) (j:=199940) (ds:=hC 30 k []) (xJ z) xu (d3 h rfl rfl) (d' (j6 B.toGro B.ht rfl) rfl rfl rfl rfl) (uN B aP) (d3 h rfl rfl) (d' (jJ B.toGro) rfl rfl rfl rfl) (ye B (by refine Y f ?_;decide) y C)
  (d3 u rfl rfl) (qy B) (sp B) (dw<|by refine Y a0<|Y f ?_;exact oL 60) GJ (Ix<|qU (i:=0))
theorem PO(f:op.length<60)(D:b5 (d+1) none (.fn 825) [.ref c,.str<|bT k,.int 0] (U.L (s+(bT k).length) (op++[.str<|b3 k]) G)=some (.exc r X)):b5 (d+2) none (.fn 818) [.ref c,.str<|b3 k,.int 0] (U.L s op G)=some (.exc r X):=by
 refine aU (kI x (s:=s) (op:=op)) λE h=>aU (kI x (s:=s+(bT k).length) (op:=op++[.str<|b3 k])) λI u=>?_;have z:k<64:=cu aP B.hm;exact NH (O:=b5<|d+1) (j:=199940) (ds:=hC 30 k []) (xJ z) xu (d3 h rfl rfl) (d' (j6 B.toGro B.ht rfl) rfl rfl rfl rfl) (uN B aP) (d3 h rfl rfl) (d' (jJ B.toGro) rfl rfl rfl rfl) (ye B (nS f<|by decide) y C)
  (d3 u rfl rfl) (qy B) (sp B) (kN<|by refine Y a0 ?_;exact f) (d' u rfl rfl rfl rfl) D
end
theorem AI:∀e k,k<U.m->e<=k->∀{s op G c},iY U c G->op.length+e=60->(∀i,i<=k->fK (b3 i) op=some false)->s+5*(e+1)<=1000->b5 (3*e+4) none (.fn 818) [.ref c,.str<|b3 k,.int 0] (U.L s op G)=some (.exc (U.H.length+G.length+4*e)<|U.L (s+rj e k) (op++xg e k)<|G++pp U e k (U.H.length+G.length))
 |0,k,aP,_,s,op,G,c,x,f,y,C=>Gf B (d:=2) aP x (y k<|ba _) (av (e3 (tN<|cu aP B.hm).l s) C) f|e+1,0,_,h,_,_,_,_,_,_,_,_=>absurd h<|jT e
 |e+1,k+1,aP,he,s,op,G,c,x,f,y,C=>by
  have u:k+1<64:=cu aP B.hm;have t:=tN u;have hl:s+(bT<|k+1).length+5*(e+1)<=1000:=by have:5*(e+1+1)=5*(e+1)+5:=gX ..;have:=t.l;exact a7 C this<|by simp+arith
  refine PO B (d:=3*e+5) aP x (y _<|ba _) (av (bE ..) hl) (aR (a4 f)<|by simp+arith) ?_;have i:=AI e k (sC aP) (iV he) (s:=s+(bT<|k+1).length) (op:=op++[.str<|b3<|k+1]) (G:=G++gc U (U.H.length+G.length) (ay (bT<|k+1) (bT<|k+1).length (bT<|k+1).length [] .none) []) (c:=U.H.length+G.length) yU (by refine Y a0 ?_;show op.length+1+e=60;exact cf (aR (a4 f)<|by simp+arith)<|aR (a4 f.symm)<|by simp+arith)
   (λi z=>C5 (BB (a7 u z<|by simp+arith) u<|kq<|Nat.lt_succ_of_le z)<|y i<|iQ z) hl
  rw[a0,<-cz,br op,br G]at i;refine hv (OC (U:=U) (e:=e) (k:=k) (b:=U.H.length+G.length+4)) λa1 a2 I=>?_;have r:=FG (d:=3*e+4) (r:=4*e) (X:=pp U e k<|U.H.length+G.length+4) x t I<|Hh (O:=b5<|3*e+4) (j:=199940) (Fk<|sC u) (d' (qU (i:=0)) rfl rfl rfl rfl) i;have D:s+(bT<|k+1).length+rj e k=s+rj (e+1) (k+1):=cz ..;have E:U.H.length+G.length+4+4*e=U.H.length+G.length+4*(e+1):=by exact Y (cz ..)<|Y (cF 4 ..) rfl
  rw[D,E]at r;exact r
end
def mh(o:Option au)(p:au):Bool:=match o with|some x=>ri x p|none=>false
def nW(h:mh o p=true):o=some p:=by rcases o with _|x;exact ff h;exact az some<|wH h
def No(h:wz o a=true):o=some a:=by rcases o with _|x;exact ff h;exact az some<|lg h
def tp(o:Option au):List (Str×V):=match jD o with|some l=>l|none=>[]
def kM(m:Nat)(H:aq):gu:=⟨H,1,0,m+6,m+7,3,2,4,m,λk=>5+k,tp H[3]?⟩
def wM(o:Option au):Bool:=match jD o with|some _=>true|none=>false
def BU(H:aq)(es:List<|Str×V)(k:Nat):Bool:=wz (aC ⟨(b3 k).toArray⟩ es) (.ref<|5+k)&&mh H[5+k]? (D8 k)
def sh(m:Nat)(H:aq):Bool:=mh H[m+6]? (mM 0 (m+7) 0)&&(mh H[m+7]? (.list [])&&(mh H[1]? (pX 0 2 3 4)&&(mh H[0]? DS&&(wM H[3]? &&(j3 (BU H<|tp H[3]?) m&&(Nat.ble m 64&&mh H[m+8]? (.inst 828 [(eJ,.ref 1),(eR,.ref<|m+6),(iz,.ref<|m+9)])))))))
def Um(h:wM o=true):o=some (.dict<|tp o):=by unfold wM tp jD at*;rcases o with _|x;exact ff h;cases x<;>first|rfl|exact ff h
def LD(h:sh m H=true):(kM m H).Ok/\H[m+8]? =some (fE (kM m H)<|m+9):=by unfold sh at h;refine zb h λj h=>zb h λf h=>zb h λu h=>zb h λy h=>zb h λz h=>zb h λC h=>zb h λD E=>⟨⟨⟨nW j,nW f⟩,nW u,nW y,Um z,λk aP=>?_,bG D⟩,nW E⟩;have x:=oX C k aP;unfold BU at x;exact zb x λa b=>⟨No a,nW b⟩
def xb(m:Nat)(H:aq):M V:=match Nat.ble m 60 with
 |true=>some<|.ok (.ref<|H.length+3)<|(kM m H).L (wt<|m-1) []<|pN (kM m H) (m-1) H.length
 |false=>some<|.exc (H.length+240)<|(kM m H).L (rj 60<|m-1) (xg 60<|m-1)<|pp (kM m H) 60 (m-1) H.length
def s'(m:Nat)(D:List V)(H:aq):M V:=match(gQ [.ref<|m+8,.str<|b3<|m-1,.int 0] D&&(Nat.ble 1 m&&sh m H))with|true=>xb m H|false=>none
def sb(D:List V)(H:aq):M V:=match D with
 |[]=>none
 |a::_=>match fG a with|some c=>s' (c-8) D H|none=>none
def MO(B:Gro H g l q):LL H g l q 0 [] []=H:=by unfold LL;exact Y (la B.hg)<|Y (la B.bk)<|Y (be ..) rfl
def TX(e:s' m D H=some r):∃d,d<=184/\b5 d none (.fn 818) D H=some r:=by
 unfold s' at e;revert e;rcases c:(gQ [.ref (m+8),.str (b3 (m-1)),.int 0] D&&(Nat.ble 1 m&&sh m H));exact aW
 .intro e;refine zb c λc1 c=>zb c λc2 z=>?_;clear c;obtain rfl:=k5 c1;have j:1<=m:=bG c2;refine aS (LD z) λB k=>?_;have y:iY (kM m H) (m+8) []:=⟨m+9,λs op X=>j6 B.toGro k rfl⟩;have aP:m-1<(kM m H).m:=Nat.sub_lt j<|by decide
  have f:∀i,i<=m-1->fK (b3 i) []=some false:=λ_ _=>rfl;have x:(kM m H).L 0 [] []=H:=MO B.toGro;have e:xb m H=some r:=e;unfold xb at e;revert e;rcases u:Nat.ble m 60
  .intro e;have C:60<m:=Nat.lt_of_not_le λh=>by rw[vJ h]at u;exact ff<|u.symm
   have l:=AI B 60 (m-1) aP (a7 C (cn m 1)<|by simp+arith) (s:=0) y rfl f<|by decide
   rw[x,eW]at l;exact a9 184 (ba _)<|l.trans e
  .intro e;have l:=S6 B (m-1) aP (s:=0) y (by have:=bG u;show 0+(m-1)<60;exact a7 this (a4<|bx<|show 1<=m from aR j<|by simp+arith)<|by simp+arith) f<|by rw[eW,bx j];exact av (eg 5<|bG u)<|by decide
   rw[x,eW]at l;exact a9 (3*(m-1)+4) (av (iB (eg 3<|Nat.sub_le_sub_right (bG u) 1) 4)<|by decide)<|l.trans e
def KI(e:sb D H=some r):∃d,d<=184/\b5 d none (.fn 818) D H=some r:=by unfold sb at e;rcases D with _|⟨a,l⟩;exact aW e;have e:(match fG a with|some c=>s' (c-8) (a::l) H|none=>none)=some r:=e;revert e;rcases c:fG a with _|f;intro e;exact aW e;exact TX
def md(d:Nat):ap:=Nat.rec (λ_ _ _ _=>none) (λ_ O hd a D H=>match fy hd a [818]with|some _=>sb D H|none=>aF NN tab O hd a D H) d
section
variable{I:Program}{K:al}{B:Frag}(G:cy K tab B)(x:eQ K tab)(M:fX I K)(af:g8 I K)
include G x M af
theorem P0:∀d,dc I K (245+d) (md d):=by
 intro d;induction d with
 |zero=>exact⟨λ_ _ _ _ e=>nomatch e⟩
 |succ d N=>
  have J:=N;refine jj (lQ (T:=tab) G x M af J NN) λU W _ _=>⟨λ{F loc f H s a u D us r} y R C q e=>?_⟩;have e:(match fy F.hd a [818]with|some _=>sb D H|none=>aF NN tab (md d) F.hd a D H)=some r:=e
  revert e;rcases h:fy F.hd a [818]with _|z;intro e;exact(sO G U W).call y R C q e
  .intro e;refine aS (rP h) λj O=>?_;subst O;refine aZ (KI e) λk aP E=>?_;clear e;obtain rfl:z=818:=by have h:(match bv z [818]with|true=>mS F.hd z|false=>none)=some z:=h;rcases c:bv z [818];rw[c]at h;exact aW h;exact b8.mp<|eM.mp c
   exact(G7 G x M af k).call (y.mono<|aR aP<|by simp+arith) R C q<|by refine Y j ?_;exact E
end
noncomputable def kv(n:Nat):Bool:=yp<|aF NN tab (md 29) none (.fn 1145) [.int (57+n:Nat)] []
def TA:kv 0=true:=by decide+kernel
def R8:kv 1=true:=by decide+kernel
def Qs:kv 2=true:=by decide+kernel
def Ro:kv 3=true:=by decide+kernel
def TC:kv 4=true:=by decide+kernel
def It:kv 5=true:=by decide+kernel
def JO:kv 6=true:=by decide+kernel
def PF:kv 7=true:=by decide+kernel
def Ms:∀n,n<8->kv n=true|0,_=>TA|1,_=>R8|2,_=>Qs|3,_=>Ro|4,_=>TC|5,_=>It|6,_=>JO|7,_=>PF|n+8,h=>absurd h<|pF<|bR 8 n
def p9:ap:=λhd a D H=>match fy hd a [1145]with|some _=>bD (λD H=>aF NN tab (md 29) none (.fn 1145) D H) D H|none=>ax 250 hd a D H
section
variable{I:Program}{K:al}{B:Frag}(G:cy K tab B)(j:eQ K tab)(M:fX I K)(af:g8 I K)
include G j M af
theorem IK:dc I K 291 p9:=by
 refine⟨λ{F loc f H s a u D us r} y R C q e=>?_⟩;have e:(match fy F.hd a [1145]with|some _=>bD (λD H=>aF NN tab (md 29) none (.fn 1145) D H) D H|none=>ax 250 F.hd a D H)=some r:=e
 revert e;rcases h:fy F.hd a [1145]with _|z;intro e;exact(wI G j M af 250).call y R C q e
 .intro e;refine aS (rP h) λk E=>?_;subst E;obtain rfl:z=1145:=by have h:(match bv z [1145]with|true=>mS F.hd z|false=>none)=some z:=h;rcases c:bv z [1145];rw[c]at h;exact aW h;exact b8.mp<|eM.mp c
  exact fJ (tq G j M af (P0 G j M af 29) (z:=1145) e (y.mono<|by decide) k R C q) λ_ _ x=>x.weak
end
noncomputable def j8(x:Stmt):Bool:=match x with|.If ..=>true|_=>false
def iW(k:Addr)(u:List Int)(T:cx)(O:ap)(n:Nat):dQ:=step T O<|jI k u<|ev T O n
def vS(k:Addr)(u:List Int)(T:cx)(O:ap)(n:Nat):dQ:={ev T O n with s:=λc x loc H=>match j8 x with|true=>ej T (iW k u T O n) c x loc H|false=>(ev T O n).s c x loc H}
section
variable{I:Program}{K:al}{d:Nat}{T:cx}{B:Frag}{O:ap}{k:Addr}{u:List Int}(G:cy K T B)(z:eQ K T)(M:fX I K)(af:g8 I K)(W:dc I K d O)(S:iT K k u)
include G z M af W S
theorem R'(n):eV I K d (vS k u T O n):=by refine jj (lQ G z M af W n) λaa Q Z L=>?_;have C:=MH S aa;have D:eV I K d (jI k u<|ev T O n):=⟨Q.s,Q.wh⟩;have J:oa I K d (jI k u<|ev T O n):=⟨Z.fr⟩;have N:oR I K d (jI k u<|ev T O n):=⟨L.lc⟩;have V1:bB I K d (iW k u T O n):=⟨λE R r e=>B5 G z W M af C N E R e,λE R r e=>ys C E R e⟩;have U:eV I K d (iW k u T O n):=⟨λE R r e=>wD G z C D J E R e,λE R e=>Aj G.fY C D E R e⟩;have Z1:oa I K d (iW k u T O n):=⟨λE hd R x y j st e=>A5 G.toTabC C D J E hd R x y j st e⟩;refine⟨λ{F c loc x f H s} E R r e=>?_,Q.wh⟩;have e:(match j8 x with|true=>ej T (iW k u T O n) c x loc H|false=>(ev T O n).s c x loc H)=some r:=e;revert e;rcases h:j8 x;intro e;exact Q.s E R r e;intro e;exact wD G z V1 U Z1 E R e
end
noncomputable abbrev vW:Str:=⟨#[108,101,110]⟩
noncomputable def vI(l:List Int):Int:=match l with|[]=>0|C::_=>C
section
variable{v:dQ}
def SW(h:hM [r]=true)(f:v.e c loc l H=some (.ok a H))(j:v.e c loc r H=some (.ok b H))(hz:cN op a b H=some C):stepT v c loc (.Compare l [op] [r] p) H=some (.ok C H):=by show as (hM [r]&&true) (bd (v.e c loc l H) λa H=>bd (v.e c loc r H) λb H=>ob (cN op a b H) λC=>rt C H)=_;refine Y h<|Y f ?_;show bd (v.e c loc r H) _=_;refine Y j ?_;show ob (cN op a b H) _=_;exact Y hz rfl
def EQ(ht:v.t c loc t H=some (.ok C H))(f:aB C (cV v c a loc H) (cV v c b loc H)=r):ej T v c (.If t a b p) loc H=r:=by show ea (v.t c loc t H) loc _=_;refine Y ht ?_;cases C<;>exact f
def OO(h:(mY e&&og (.Name y q) e)=true)(he:v.e c loc e H=some (.ok a H))(f:f9 c y a loc H=r):ej T v c (.Assign [.Name y q] e p) loc H=r:=by show fV (mY e&&og (.Name y q) e) (ea (v.e c loc e H) loc λa H=>f9 c y a loc H)=_;exact Y h<|Y he f
def N2(h:v.s c x loc H=some (.ok .next ag H')):cV v c [x] loc H=some (.ok .next ag H'):=by show lr (v.s c x loc H) _=_;exact Y h rfl
end
def Si:(jI k u<|ev tab O<|j+60).e (dg 1081) (lP k 0) (.Call (.Name vW q) [.Name j9 r] [] p) H=some (.ok (.int (u.length:Nat)) H):=by show orM (as (Nat.beq k k)<|rt (V.int (u.length:Nat)) H) _=_;exact Y (em ..) rfl
def NV(h:(u.map V.int)[0]? =some (.int C)):(jI k u<|ev tab O<|j+60).e (dg 1081) (lP k 0) (.Subscript (.Name j9 q) (.Name fj r) p) H=some (.ok (.int C) H):=by show orM (as (Nat.beq k k)<|ob (u.map V.int)[0]? λr=>rt r H) _=_;exact Y (em ..)<|Y h rfl
def BY(hz:cN .Lt (.int ((0:Nat):Int)) (.int (u.length:Nat)) H=some b):(iW k u tab O<|j+60).t (dg 1081) (lP k 0) (.Compare (.Name fj q) [.Lt] [.Call (.Name vW x) [.Name j9 r] [] f] p) H=some (.ok b H):=by have h:(jI k u<|ev tab O<|j+60).e (dg 1081) (lP k 0) (.Name fj q) H=some (.ok (.int ((0:Nat):Int)) H):=rfl;show stepT (jI k u<|ev tab O<|j+60) (dg 1081) (lP k 0) (.Compare (.Name fj q) [.Lt] [.Call (.Name vW x) [.Name j9 r] [] f] p) H=_;exact SW rfl h Si hz
def Q9(h:(u.map V.int)[0]? =some (.int C)):(iW k u tab O<|j+60).s (dg 1081) (.Assign [.Name u4 x] (.Subscript (.Name j9 q) (.Name fj r) p) f) (lP k 0) H=some (.ok .next (lP k C) H):=OO (p:=f) (v:=jI k u<|ev tab O<|j+60) (a:=.int C) rfl (NV h) rfl
def Qg:ej tab (iW k u tab O<|j+60) (dg 1081) (fO 1081 1) (lP k 0) H=some (.ok .next (lP k<|vI u) H):=by rcases u with _|⟨C,l⟩;exact EQ (C:=false) (BY rfl) rfl;exact EQ (C:=true) (BY rfl)<|N2<|Q9 rfl
def Ks:∀{f loc H},(∀x∈f,∀loc H,v.s c x loc H=z.s c x loc H)->cV v c f loc H=cV z c f loc H:=by
 intro f;induction f with
 |nil=>intro _ _ _;exact rfl
 |cons x f j=>intro loc H h;show lr (v.s c x loc H) (cV v c f)=lr (z.s c x loc H) (cV z c f);have e:cV v c f=cV z c f:=funext λloc=>funext λH=>j λy m=>h y<|.tail _ m;exact Y (h x (.head _) ..)<|Y e rfl
section
variable{O:ap}{k:Addr}{E:List Int}{j:Nat}
abbrev sD(a:Addr):Loc:=[(j9,.fn a),(fj,.int ((0:Nat):Int))]
def T'(h:j8 x=true):(vS k E tab O<|j+60).s (dg 1081) x loc H=ej tab (iW k E tab O<|j+60) (dg 1081) x loc H:=by show(match j8 x with|true=>ej tab (iW k E tab O<|j+60) (dg 1081) x loc H|false=>(ev tab O<|j+60).s (dg 1081) x loc H)=_;exact Y h rfl
def E1(h:j8 x=false):(vS k E tab O<|j+60).s (dg 1081) x loc H=(ev tab O<|j+60).s (dg 1081) x loc H:=by show(match j8 x with|true=>ej tab (iW k E tab O<|j+60) (dg 1081) x loc H|false=>(ev tab O<|j+60).s (dg 1081) x loc H)=_;exact Y h rfl
def LK:nL=fO 1081 0::fO 1081 1::nL.drop 2:=rfl
def N3:(nL.drop 2).all (λx=>!j8 x)=true:=rfl
def LR:(ev tab O<|j+60).s (dg 1081) (fO 1081 0) (sD k) H=some (.ok .next (lP k 0) H):=rfl
def Qr(O)(k)(E)(j):∃x y,y<2147483647/\∀H,∃ag,cV (vS k E tab O<|j+60) (dg 1081) nL (sD k) H=some (.ok (.ret<|.ref H.length) ag<|H++[aY x y]):=by refine aU (PU (C:=vI E)) λn hm=>dX (n*aB (du (n:Int) 1000000000000000000) 0 1) (uE n) (nZ _<|by decide) λH=>aU (R1 (O:=O) (j:=j) (a:=k) (H:=H) hm (b:=du (n:Int) 1000000000000000000) rfl rfl) λag ht=>⟨ag,?_⟩;refine Y LK ?_;show lr ((vS k E tab O<|j+60).s (dg 1081) (fO 1081 0) (sD k) H) _=_;refine Y (E1 rfl)<|Y LR ?_;show lr ((vS k E tab O<|j+60).s (dg 1081) (fO 1081 1) (lP k 0) H) _=_;refine Y (T' rfl)<|Y Qg ?_;show cV (vS k E tab O<|j+60) (dg 1081) (nL.drop 2) (lP k<|vI E) H=_;refine Y (Ks (z:=ev tab O<|j+60) λx m loc H=>E1 (by have:=List.all_eq_true.mp N3 x m;rcases h:j8 x;rfl;rw[h]at this;exact ff this)) ?_;exact ht
end
def Em(k:Addr)(x y:Nat)(H:aq)(v:V):M V:=match v with
 |.fn z=>as (Nat.beq z k)<|some<|.ok (.ref H.length)<|H++[aY x y]
 |_=>none
def vk(k:Addr)(x y:Nat)(H:aq)(D:List V):M V:=match D with|[]=>none|v::l=>as (gQ [.int ((0:Nat):Int)] l)<|Em k x y H v
def Fq(k:Addr)(x y:Nat):ap:=λhd a D H=>match fy hd a [1081]with|some _=>vk k x y H D|none=>none
section
variable{I:Program}{K:al}{B:Frag}{O:ap}{d:Nat}{k:Addr}{E:List Int}(G:cy K tab B)(C:eQ K tab)(M:fX I K)(af:g8 I K)(W:dc I K d O)(S:iT K k E)
include G C M af W S
theorem PP:∃x y,y<2147483647/\dc I K (d+1) (Fq k x y):=by
 refine bV (Qr O k E 199940) λx y hy hb=>dX x y hy ⟨λ{F loc f H s a u D us r} hr R qa q e=>?_⟩;replace e:(match fy F.hd a [1081]with|some _=>vk k x y H D|none=>none)=some r:=e;revert e;rcases h:fy F.hd a [1081]with _|z;exact aW
 .intro e;have h0:=h;refine aS (rP h) λj ae=>?_;subst ae;obtain rfl:z=1081:=by have h:(match bv z [1081]with|true=>mS F.hd z|false=>none)=some z:=h0;rcases c:bv z [1081];rw[c]at h;exact aW h;exact b8.mp<|eM.mp c
  rcases D with _|⟨v,l⟩;exact aW e
  .refine cH (show as (gQ [.int ((0:Nat):Int)] l) (Em k x y H v)=some r from e) λJ T=>?_;obtain rfl:[V.int ((0:Nat):Int)]=l:=k5 J;induction v using V.casesOn with
   |fn z=>refine cH (show as (Nat.beq z k) (some<|Mine.Internal.R.ok (.ref H.length)<|H++[aY x y])=some r from T) λN e3=>?_;obtain rfl:=cd N;exact aU (hb H) λag ab=>Y qa.ki<|fJ (C1 G (R' G C M af W S<|199940+60) hr R (fn:=qC tab 1081) (U:=[.fn z,.int ((0:Nat):Int)]) (aa:=(sD z,H)) (r:=r) (rs:=.ok (.ret<|.ref H.length) ag<|H++[aY x y]) rfl q rfl (by exact Y j rfl) (by refine Y j ?_;exact ab) e3) λ_ _ x=>x.weak
   |_=>exact aW T
end
noncomputable abbrev d1:List (List Nat):=[[65279,32,120,60,97,47,62]]
noncomputable abbrev fu:List (List Nat):=[[65279],[32],[120]]
noncomputable abbrev mR:List (List Nat):=[[60,97,62]]
abbrev B3:aq:=[.list<|bA d1,.list<|bA fu,.list<|bA mR]
section
variable{O:ap}{j pl n:Nat}{f:V}{C D u E y z:au}{h x:List Nat}{N k es:List V}
def JR(aw:O none (.fn 1112) [.ref 0,.int ((2:Nat):Int)] [.list<|bA d1]=some (.ok (.bool true) [.list<|bA d1]))(aG:O none (.fn 1112) [.ref 1,.int ((2:Nat):Int)] [.list<|bA d1,.list<|bA fu]=some (.ok (.bool true) [.list<|bA d1,.list<|bA fu]))(da:O none (.fn 1112) [.ref 2,.int ((3:Nat):Int)] (B3)=some (.ok (.bool true)<|B3))(W:O none (.fn 1081) [f,.int ((0:Nat):Int)] (B3)=some (.ok (.ref 3)<|B3++[C]))(mw:O none (.fn 1119) [.ref 3] (B3++[C])=some (.ok (.tup [.str h,.int pl])<|B3++[D]))(I:O none (.fn 1100) [.ref 3,.str h] (B3++[D])=some (.ok (.ref 4)<|B3++[u,.list N]))(ms:O none (.fn 1112) [.ref 4,.int pl] (B3++[u,.list N])=some (.ok (.bool true)<|B3++[u,.list N]))(aa:O none (.fn 1112) [.ref 5,.int pl] (B3++[u,.list N,.list [.str h]])=some (.ok (.bool true)<|B3++[u,.list N,.list [.str h]]))(mr:O none (.fn 1126) [.ref 3] (B3++[u,.list N,.list [.str h]])=some (.ok (.tup [.str x,.ref 6])<|B3++[E,.list N,.list [.str h],.list es]))(J:O none (.fn 1100) [.ref 3,.str x] (B3++[E,.list N,.list [.str h],.list es])=some (.ok (.ref 7)<|B3++[y,.list N,.list [.str h],.list es,.list k]))(mt:O none (.fn 1138) [.ref 7,.ref 6] (B3++[y,.list N,.list [.str h],.list es,.list k])=some (.ok (.bool true)<|B3++[y,.list N,.list [.str h],.list es,.list k]))(ab:O none (.fn 1138) [.ref 8,.ref 6] (B3++[y,.list N,.list [.str h],.list es,.list k,.list [.str x]])=some (.ok (.bool true)<|B3++[y,.list N,.list [.str h],.list es,.list k,.list [.str x]]))(T:O none (.fn 1088) [.ref 3,.int ((8:Nat):Int)] (B3++[y,.list N,.list [.str h],.list es,.list k,.list [.str x]])=some (.ok (.int (n:Nat))<|B3++[z,.list N,.list [.str h],.list es,.list k,.list [.str x]]))(U:O none (.fn 1145) [.int (57+n:Nat)] (B3++[z,.list N,.list [.str h],.list es,.list k,.list [.str x]])=some (.ok (.bool true)<|B3++[z,.list N,.list [.str h],.list es,.list k,.list [.str x]])):aF (j+60) tab O none (.fn 1152) [f] []=some (.ok (.bool true)<|B3++[z,.list N,.list [.str h],.list es,.list k,.list [.str x]]):=by exact am [(j9,f)] rfl<|sk 1<|aj Q.m aw rfl<|sk 2<|aj Q.m aG rfl<|sk 2<|aj Q.m da rfl<|sk 4<|aj Q.m W rfl<|sk 3<|aj Q.m mw rfl<|sk 5<|aj Q.m I rfl<|sk 1<|aj Q.m ms rfl<|sk 4<|aj Q.m aa rfl<|sk 4<|aj Q.m mr rfl<|sk 5<|aj Q.m J rfl<|sk 1<|aj Q.m mt rfl<|sk 4<|aj Q.m ab rfl<|sk 5<|aj Q.m T rfl<|sk 1<|aj Q.m U rfl rfl
end
def IX{O:ap}(hO:∀(z:Addr)(D:List V)(H:aq),z≠1145->z≠1081->O none (.fn z) D H=ax 250 none (.fn z) D H)(hd:∀(n:Nat)(H:aq),n<8->O none (.fn 1145) [.int (57+n:Nat)] H=some (.ok (.bool true) H))(hb:b<2147483647)(mp:∀H:aq,O none (.fn 1081) [f,.int ((0:Nat):Int)] H=some (.ok (.ref H.length)<|H++[aY a b])):∃H',aF NN tab O none (.fn 1152) [f] []=some (.ok (.bool true) H'):=by
 have o:∀{z:Addr}{D:List V}{H:aq}{r:M V},(Nat.beq z 1145||Nat.beq z 1081)=false->ax 250 none (.fn z) D H=r->O none (.fn z) D H=r:=λ{z _ _ _} h e=>(hO _ _ _ (λC=>by rw[C]at h;exact ff<|h.symm) λC=>by rw[C]at h;exact ff<|h.symm).trans e;refine yv (K3 (H:=B3++[aY a b]) (i:=3) rfl hb) λk pl a1 b1 aa l1 l2 ab mw=>gD (Eo l1 (av ‹_›<|by decide) (H:=B3++[aY a1 b1]) (i:=3) rfl ab) λN a2 U jp a3 af mc=>GA (F3 (H:=B3++[aY a2 U,.list<|bA N,.list [.str k]]) (i:=3) rfl af) λJ e7 W aP lk I ag mr=>?_;have lc:=(tP aP).2;have ld:(docOf<|cO J).length=11+2*(cO J).length:=by unfold docOf;refine Y a0<|Y a0<|Y a0<|Y a0 ?_;show 3+_+4+_+4=_;exact cf (by simp+arith)<|by simp+arith
 have E:(docOf<|cO J).length<=161:=Y ld<|e3 (eg 2<|av lc<|eg 15 lk) 11;refine gD (Eo (x:=docOf<|cO J) (bR ..) (av E<|by decide) (H:=B3++[aY e7 W,.list<|bA N,.list [.str k],.list<|aD<|eP<|d4 J]) (i:=3) rfl ag) λy T b4 jq ar ah ai=>d5 (n5 (d:=249) (i:=3) (t:=8) (H:=B3++[aY T b4,.list<|bA N,.list [.str k],.list<|aD<|eP<|d4 J,.list<|bA y,.list [.str<|docOf<|cO J]]) rfl ah (by decide)<|by decide) λn a5 b5 u _ md=>?_;exact⟨_,JR (j:=199940) (o rfl<|wV (l:=d1) IH rfl) (o rfl<|wV (l:=fu) N' rfl) (o rfl<|wV (l:=mR) QB rfl) (mp _) (o rfl mw) (o rfl mc)
  (o rfl<|Ei aa jp (a7 l2 a3<|by simp+arith) rfl) (o rfl<|Ei (ae:=[k]) aa rfl (by show k.length+1<=2000;exact e9 ‹_›<|by decide) rfl) (o rfl mr) (o rfl ai)
  (o rfl<|Ca aP lk I jq ar (av E<|by decide) (by decide) rfl rfl) (o rfl<|Ca (ae:=[docOf<|cO J]) aP lk I rfl (by show 1<=200;decide) (av E<|by decide) (by decide) rfl rfl) (o rfl md) (hd n _ u)⟩
def ve(f:Addr)(x y:Nat):ap:=λhd a D H=>match Fq f x y hd a D H with|some r=>some r|none=>p9 hd a D H
def JQ(f)(x y)(C:y<2147483647):∃H',aF NN tab (ve f x y) none (.fn 1152) [.fn f] []=some (.ok (.bool true) H'):=by
 have no:∀(z:Addr)(D:List V)(H:aq),bv z [1081]=false->ve f x y none (.fn z) D H=p9 none (.fn z) D H:=λz D H h=>by show(match(match(match bv z [1081]with|true=>some z|false=>none:Option Addr)with|some _=>vk f x y H D|none=>none:M V)with|some r=>some r|none=>p9 none (.fn z) D H)=_;exact Y h rfl
 refine IX (a:=x) (b:=y) (λz D H j k=>?_) (λn H u=>?_) C λH=>?_
 .have m:bv z [1081]=false:=by rcases c:bv z [1081];rfl;exact absurd (b8.mp<|eM.mp c) k
  refine Y (no z D H m) ?_;show(match(match bv z [1145]with|true=>some z|false=>none:Option Addr)with|some _=>bD (λD H=>aF NN tab (md 29) none (.fn 1145) D H) D H|none=>ax 250 none (.fn z) D H)=_
  rcases c:bv z [1145];rfl;exact absurd (b8.mp<|eM.mp c) j
 exact Y (no 1145 _ _ rfl)<|Fb (X:=λD H=>aF NN tab (md 29) none (.fn 1145) D H) rfl (λ_=>rfl)<|Ms n u;show(match as (Nat.beq f f) (some<|Mine.Internal.R.ok (.ref H.length)<|H++[aY x y])with|some r=>some r|none=>p9 none (.fn 1081) [.fn f,.int ((0:Nat):Int)] H)=_;exact Y (em ..) rfl
section
variable{I:Program}{K:al}{B:Frag}{f:Addr}{j:List Int}(G:cy K tab B)(h:eQ K tab)(M:fX I K)(af:g8 I K)(S:iT K f j)
include G h M af S
theorem Sz:∃O H',dc I K 291 O/\aF NN tab O none (.fn 1152) [.fn f] []=some (.ok (.bool true) H'):=by exact bV (PP (d:=0) (O:=λ_ _ _ _=>none) G h M af ⟨λ_ _ _ _ e=>nomatch e⟩ S) λx y j P=>aU (JQ f x y j) λH' e=>dX (ve f x y) H' ((P.mono<|by decide).or<|IK G h M af) e
end
def OE{h:Heap}(x:h.Ns a m)(y:h.Ns a T):m=T:=x.eq_nsMap.trans y.eq_nsMap.symm
def I5(j:eT h)(f:o.cls≠.type "traceback"):eT (h.push o):=λb p e=>by rcases Heap.get?_push_cases e with⟨_,rfl⟩|e;exact f;exact j b p e
def SJ(y:tL s=r6 w):pD s.heap tab 1109:=by exact zp y λf h=>zb f λa1 f=>zb f λa2 e7=>⟨a1,a2,e7,h⟩
theorem Bi:∀{j:List Int}{D},WellAll P h₀ D (j.map .int)->D.length=j.length/\∀f h,aT f h (j.map .int) D
 |[],D,q=>by cases q;exact⟨rfl,λ_ _=>.nil⟩
 |x::j,D,q=>by
  cases q with
  |cons u y=>cases u;exact aS (Bi y) λk k2=>⟨az (·+1) k,λf h=>.cons .int<|k2 f h⟩
set_option tactic.hygienic true in
def J8{R:WRecords}{I:List Int}(L:Laid R w E y [.list<|I.map .int] z U)(O:WellAll w.params y.heap z [.list<|I.map .int])(aE:I.length<=63)(j:eT E.heap):eT y.heap/\∃a D,z=[.ref a]/\y.heap.get? a=some (eA D 0)/\D.length<=lim/\∀f h,aT f h (I.map .int) D:=by
 constructor;refine aZ L.laid λord _ h=>fi (layAllW_cons h) λa q k u e=>zp e λ_ W=>?_;subst W;cases u;refine aZ (layW_list k) λN x aa=>?_;subst aa;show eT<|N.2.heap.push _;exact Y (C' x)<|I5 j λC=>absurd (fh C)<|by decide
 .cases O with
  |cons k u=>
   cases u;cases k with
   |list e T=>rename_i a D;exact aS (Bi T) λJ k2=>D7 a D rfl e (by refine Y J ?_;exact av aE<|by decide) k2
def g4:Str:=tab.ge++(Str.ofString "<lambda>")
def Te:gC 292 callerA:=⟨by decide,by decide⟩
def QU{T:Shared}{xs:List Int}(X:pD T.heap tab 1109)(k:∀b o,T.heap.get? b=some o->z.heap.get? b=some o)(j:eT z.heap)(hg:z.gens=#[])(e:z.heap.get? a=some (eA D 0))(hl:D.length<=lim)(q:∀f h,aT f h (xs.map .int) D):codeAny (model I w) callerA (.call (.ref 1152) ⟨[.ref a],[]⟩) (λres J=>∃u,res=.ok (.ret u)/\ul ⟨w,z.heap,z.os,1111,1109,g4⟩ z.heap (.bool true) u J) z:=by
 have N:pD T.heap tab (al.mk w z.heap z.os 1111 1109 g4).a3:=X;have G:=A' (K:=⟨w,z.heap,z.os,1111,1109,g4⟩) N k j yL rfl;have x:=Ef (K:=⟨w,z.heap,z.os,1111,1109,g4⟩) N k;have ab:=k _ _<|B9 (K:=⟨w,z.heap,z.os,1111,1109,g4⟩) N;refine aZ (IM (K:=⟨w,z.heap,z.os,1111,1109,g4⟩) N) λom hm ai=>?_;have S:iT ⟨w,z.heap,z.os,1111,1109,g4⟩ a xs:=⟨⟨D,0,e,hl,q⟩,λC=>by have C:a=1109:=C;rw[C]at e;have e2:z.heap.get? 1109=some (tabObj #[]):=ab;rw[e2]at e;cases e⟩;have M:=Jb I<|al.mk w z.heap z.os 1111 1109 g4;have af:=ND I<|al.mk w z.heap z.os 1111 1109 g4;refine bV (Sz G x M af S) λO H' hO E=>jj (lQ G x M af hO NN) λaj W _ _=>aK (show ob (bi 1152 tab.fns) (λfn=>yo NN tab O none (aB (Nat.beq 1152 tab.il) (some (tab.gz,tab.ge)) none) fn [.fn a] [])=some (.ok (.bool true) H') from E) λfn y E=>?_;have ah:aB (Nat.beq 1152 tab.il) (some (tab.gz,tab.ge)) none=none:=rfl;have ae:im fn.scope.names=true:=by have:bi 1152 tab.fns=some (qC tab 1152):=rfl;rw[this]at y;clear E;cases y;rfl
 rw[ah]at E;refine aK E λU ag E=>?_;rw[Cc ae]at E;exact aK E λaa hb E=>aK E λrs eb e3=>Rm (K:=⟨w,z.heap,z.os,1111,1109,g4⟩) G W Te rfl hg rfl ab ⟨om,k _ _ hm,ai⟩ y ae (.cons .fn .nil) ag hb eb e3
def Nn:dW.toRowW.claim.post args (.bool true) args=true:=by kernel_rfl
def Qt:dW.Holds:=by
 refine aU (vV.mp QX) λam an=>?_;obtain⟨d,al⟩:=am;have I:=an;have hh:=KC;rw[I]at hh;refine zp (aQ<|show some (dW.prog.theDef dW.name,kwWritten? d.params.kwonlyargs d.params.kw_defaults)=some (some (d.params,d.body,d.scope),some al) from hh) λh aP=>holds_openX (r:=dW) (XP:=λ_ _=>True) Pp (λ_ _=>trivial) (λ_ _ _ _ _=>trivial) I h aP (λs _=>recFacts_of rfl) O5 BL Uj Lu K4 ?_;intro w aC C mg mb G y a o pm cd z dV kV f aw au av ah ae args aD U L aj ax az ak ay;refine aZ (QN aj) λxs ao aE=>?_;subst ao;have X:=SJ y;refine aS (J8 L ak aE<|Kc X) λj ap=>bV ap λsa D aq ar=>?_;subst aq;refine cZ ar λe hl q=>?_;have ha:a=1152:=by have x:=Ef (K:=⟨w,C.heap,C.os,1111,1109,g4⟩) X L.keeps;refine kD x.g λaB aA n1 _ k _=>aZ (k dW.name (.fn 1152) rfl) λv e1 e2=>?_;rw[OE n1 G.T.g,<-defOf_name I,ah]at e1;cases e1;exact Value.ref.inj (e2 []).ki
 subst ha;refine wpAny_call<|fJ (QU X L.keeps j ae e hl q) λres J⟨u,hr,R⟩=>?_;subst hr;obtain⟨⟨ab,qv⟩,old,⟨N,O⟩,ai,af⟩:=R;have hu:u=.bool true:=qv.te;subst hu;have G:=A' (K:=⟨w,C.heap,C.os,1111,1109,g4⟩) X L.keeps j yL rfl;have ag:C.heap.get? 1109=some (tabObj #[]):=L.keeps _ _<|B9 (K:=⟨w,C.heap,C.os,1111,1109,g4⟩) X;refine gv G.lc λoc aa _ _ _ as=>yv as λ_ _ _ _ c1 c2 T W _=>⟨.inl ⟨_,.bool true,[],rfl,λ_=>rfl,.bool true,Nn,λ_=>⟨.nil,λa m=>nomatch m⟩⟩,⟨λb o e=>?_,λb o e=>?_⟩,ai,.of_eq af⟩;by_cases E:b=1109;subst E;rw[ag]at e;cases e;exact .inr<|.inl ⟨⟨_,oc,aa,c1,c2,T,W⟩,rfl,#[],N,rfl,by refine Y Array.empty_append ?_;exact O⟩;exact .inl<|old b o E e;by_cases E:b=1109;subst E;exact⟨_,O⟩;exact⟨o,old b o E e⟩
def UH:ck.Holds:=⟨Nl,Qt⟩
end
end Mine.Internal
theorem PySem.Challenge.cw_sy0052_01_holds : PySem.Challenge.rw_sy0052_01.Holds := by
 rw[Mine.Internal.S9];exact Mine.Internal.UH
